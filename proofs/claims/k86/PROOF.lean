import PyProof.Rows.All
import Wide.All
import OpenK.AllK
import Wide.FinOn
import HandS.ForMost
import HandS.ForExc
import HandS.Walk
import HandS.Wide
import HandS.Flow
import HandS.Deep
import HandS.IsInst
import HandS.TupAny
import HandS.TupMul
import HandS.Conv
import HandS.Gcd
import HandS.Evl
import HandS.Text
import KE.GoesEnum
import HandS.Zip
import HandS.More
import HandS.SuiteRaise
import HandS.RaiseFrom
import KE.KExcSuper
import HandS.ExcInit
import HandS.ExcCtx
import HandS.TryMany
import HandS.TryOnly
import HandS.HotCalls
import HandS.ExcIs
import HandS.ExcField
import PySem.Challenge.RW_whattoshow_k86_papers_as_lines
set_option Elab.async false
set_option linter.all false
set_option maxRecDepth 100000
set_option maxHeartbeats 1000000
/-! Plain data over the hand layer: values as data D, a frozen part F of the heap, lists of one's own in slots; each reading is told by a plain function of the slots' data. -/
set_option autoImplicit false
namespace PD
open PySem PySem.Spec L2

/-- plain data -/
inductive D where
  | non | bl (b : Bool) | int (i : Int) | str (s : Str)
  | tup (l : List D) | lst (l : List D)
  /-- a list that is read alone: the script -/
  | fls (l : List D)
  | ins (c : Str) (ns : List Str) (l : List D)

/-- an exception: its class's name, its fields -/
structure Exn where
  c : Str
  ns : List Str
  l : List D

abbrev Frag := PySem.W.Frag
abbrev MG := Str → Option Value

mutual
/-- the value v is the data d, in the heap H -/
def Dat (K : Frag) (mg : MG) (H : Hp) : D → V → Prop
  | .non, v => v = .non
  | .bl b, v => v = .bl b
  | .int i, v => v = .int i
  | .str s, v => v = .str s
  | .tup l, v => ∃ a xs, v = .ref a ∧ SqT K H a xs ∧ DatL K mg H l xs
  | .lst l, v => ∃ a xs, v = .ref a ∧ H a = some (.lst xs) ∧ DatL K mg H l xs
  | .fls l, v => ∃ a xs, v = .ref a ∧ SqL K H a xs ∧ DatL K mg H l xs
  | .ins c ns l, v => ∃ C a dx gs, mg c = some (.ref C) ∧ v = .ref a ∧ H a = some (.ins C dx gs) ∧ gs.map (·.1) = ns ∧ DatL K mg H l (gs.map (·.2))
def DatL (K : Frag) (mg : MG) (H : Hp) : List D → List V → Prop
  | [], xs => xs = []
  | d :: ds, xs => ∃ x r, xs = x :: r ∧ Dat K mg H d x ∧ DatL K mg H ds r
end

theorem same_sqL {K : Frag} {H H' : Hp} {a : Addr} {xs : List V} (e : Same H H') (h : SqL K H a xs) : SqL K H' a xs := by
  rcases h with (h | ⟨o, h⟩) | h
  · exact .inl (.inl (e _ _ h))
  · exact .inl (.inr ⟨o, e _ _ h⟩)
  · exact .inr h
theorem same_sqT {K : Frag} {H H' : Hp} {a : Addr} {xs : List V} (e : Same H H') (h : SqT K H a xs) : SqT K H' a xs := by
  rcases h with (h | ⟨o, h⟩) | h
  · exact .inl (.inl (e _ _ h))
  · exact .inl (.inr ⟨o, e _ _ h⟩)
  · exact .inr h
section
variable {K : Frag} {mg : MG} {H H' : Hp}
mutual
theorem Dat.mono (e : Same H H') : ∀ {d : D} {v : V}, Dat K mg H d v → Dat K mg H' d v
  | .non, _, h => h
  | .bl _, _, h => h
  | .int _, _, h => h
  | .str _, _, h => h
  | .tup l, _, h => by
    obtain ⟨a, xs, h1, h2, h3⟩ := h
    exact ⟨a, xs, h1, same_sqT e h2, DatL.mono e h3⟩
  | .lst l, _, h => by
    obtain ⟨a, xs, h1, h2, h3⟩ := h
    exact ⟨a, xs, h1, e _ _ h2, DatL.mono e h3⟩
  | .fls l, _, h => by
    obtain ⟨a, xs, h1, h2, h3⟩ := h
    exact ⟨a, xs, h1, same_sqL e h2, DatL.mono e h3⟩
  | .ins c ns l, _, h => by
    obtain ⟨C, a, dx, gs, h0, h1, h2, h3, h4⟩ := h
    exact ⟨C, a, dx, gs, h0, h1, e _ _ h2, h3, DatL.mono e h4⟩
theorem DatL.mono (e : Same H H') : ∀ {ds : List D} {xs : List V}, DatL K mg H ds xs → DatL K mg H' ds xs
  | [], _, h => h
  | d :: ds, _, h => by
    obtain ⟨x, r, h1, h2, h3⟩ := h
    exact ⟨x, r, h1, Dat.mono e h2, DatL.mono e h3⟩
end
theorem DatL.len : ∀ {ds : List D} {xs : List V}, DatL K mg H ds xs → xs.length = ds.length
  | [], _, h => by
    have e : _ = [] := h
    rw [e]
    rfl
  | d :: ds, _, h => by
    obtain ⟨x, r, rfl, _, h3⟩ := h
    rw [List.length_cons, List.length_cons, DatL.len h3]
theorem DatL.get : ∀ {ds : List D} {xs : List V} {i : Nat} {d : D}, DatL K mg H ds xs → ds[i]? = some d → ∃ x, xs[i]? = some x ∧ Dat K mg H d x
  | [], _, i, d, _, e => by simp at e
  | c :: ds, _, 0, d, h, e => by
    obtain ⟨x, r, rfl, h2, _⟩ := h
    have e' : c = d := by simpa using e
    subst e'
    exact ⟨x, rfl, h2⟩
  | c :: ds, _, i + 1, d, h, e => by
    obtain ⟨x, r, rfl, _, h3⟩ := h
    obtain ⟨y, h4, h5⟩ := DatL.get (i := i) h3 (by simpa using e)
    exact ⟨y, by simpa using h4, h5⟩
theorem DatL.get' : ∀ {ds : List D} {xs : List V} {i : Nat} {x : V}, DatL K mg H ds xs → xs[i]? = some x → ∃ d, ds[i]? = some d ∧ Dat K mg H d x
  | [], _, i, x, h, e => by
    have h' : _ = [] := h
    rw [h'] at e
    simp at e
  | c :: ds, _, 0, y, h, e => by
    obtain ⟨x, r, rfl, h2, _⟩ := h
    have e' : x = y := by simpa using e
    subst e'
    exact ⟨c, rfl, h2⟩
  | c :: ds, _, i + 1, y, h, e => by
    obtain ⟨x, r, rfl, _, h3⟩ := h
    obtain ⟨d, h4, h5⟩ := DatL.get' (i := i) h3 (by simpa using e)
    exact ⟨d, by simpa using h4, h5⟩
theorem DatL.app : ∀ {ds es : List D} {xs ys : List V}, DatL K mg H ds xs → DatL K mg H es ys → DatL K mg H (ds ++ es) (xs ++ ys)
  | [], es, xs, ys, h, g => by
    have h' : xs = [] := h
    subst h'
    exact g
  | d :: ds, es, _, ys, h, g => by
    obtain ⟨x, r, rfl, h2, h3⟩ := h
    exact ⟨x, r ++ ys, rfl, h2, DatL.app h3 g⟩
theorem DatL.one {d : D} {x : V} (h : Dat K mg H d x) : DatL K mg H [d] [x] := ⟨x, [], rfl, h, rfl⟩
theorem DatL.nil : DatL K mg H [] [] := rfl
theorem DatL.take : ∀ {ds : List D} {xs : List V} (n : Nat), DatL K mg H ds xs → DatL K mg H (ds.take n) (xs.take n)
  | ds, xs, 0, _ => by
    rw [List.take_zero, List.take_zero]
    exact DatL.nil
  | [], xs, n + 1, h => by
    have h' : xs = [] := h
    subst h'
    exact DatL.nil
  | d :: ds, _, n + 1, h => by
    obtain ⟨x, r, rfl, h2, h3⟩ := h
    exact ⟨x, r.take n, rfl, h2, DatL.take n h3⟩
theorem DatL.drop : ∀ {ds : List D} {xs : List V} (n : Nat), DatL K mg H ds xs → DatL K mg H (ds.drop n) (xs.drop n)
  | ds, xs, 0, h => h
  | [], xs, n + 1, h => by
    have h' : xs = [] := h
    subst h'
    exact DatL.nil
  | d :: ds, _, n + 1, h => by
    obtain ⟨x, r, rfl, h2, h3⟩ := h
    exact DatL.drop n h3
theorem DatL.set {e : D} {y : V} (he : Dat K mg H e y) : ∀ {ds : List D} {xs : List V} (n : Nat), DatL K mg H ds xs → DatL K mg H (ds.set n e) (xs.set n y)
  | [], xs, n, h => by
    have h' : xs = [] := h
    subst h'
    exact DatL.nil
  | d :: ds, _, 0, h => by
    obtain ⟨x, r, rfl, h2, h3⟩ := h
    exact ⟨y, r, rfl, he, h3⟩
  | d :: ds, _, n + 1, h => by
    obtain ⟨x, r, rfl, h2, h3⟩ := h
    exact ⟨x, r.set n y, rfl, h2, DatL.set he n h3⟩
theorem DatL.strs : ∀ {l : List Str}, DatL K mg H (l.map D.str) (l.map V.str)
  | [] => rfl
  | s :: l => ⟨.str s, l.map V.str, rfl, rfl, DatL.strs⟩
theorem DatL.ints : ∀ {l : List Int}, DatL K mg H (l.map D.int) (l.map V.int)
  | [] => rfl
  | s :: l => ⟨.int s, l.map V.int, rfl, rfl, DatL.ints⟩
theorem DatL.ofStrs : ∀ {l : List Str} {xs : List V}, DatL K mg H (l.map D.str) xs → xs = l.map V.str
  | [], xs, h => h
  | s :: l, xs, h => by
    obtain ⟨x, r, rfl, h2, h3⟩ := h
    have e1 : x = V.str s := h2
    rw [e1, DatL.ofStrs h3]
    rfl
theorem DatL.ofInts : ∀ {l : List Int} {xs : List V}, DatL K mg H (l.map D.int) xs → xs = l.map V.int
  | [], xs, h => h
  | s :: l, xs, h => by
    obtain ⟨x, r, rfl, h2, h3⟩ := h
    have e1 : x = V.int s := h2
    rw [e1, DatL.ofInts h3]
    rfl
end

/-- what an exception's class and own dict must be -/
def ExD (K : Frag) (mg : MG) (F : Hp) (e : Exn) (cls : Value) (dd : Option Addr) : Prop :=
  ∃ C d gs, mg e.c = some (.ref C) ∧ cls = .ref C ∧ dd = some d ∧ F d = some (.xd gs) ∧ gs.map (·.1) = e.ns ∧ DatL K mg F e.l (gs.map (·.2))
theorem ExD.mono {K : Frag} {mg : MG} {F F' : Hp} {e : Exn} {cls : Value} {dd : Option Addr} (s : Same F F') (h : ExD K mg F e cls dd) : ExD K mg F' e cls dd := by
  obtain ⟨C, d, gs, h1, h2, h3, h4, h5, h6⟩ := h
  exact ⟨C, d, gs, h1, h2, h3, s _ _ h4, h5, h6.mono s⟩

/-! ### how heaps grow: F is frozen, H all that is tracked -/
structure Grow (F H F' H' : Hp) : Prop where
  fs : Same F F'
  hs : Same H H'
  sub : Same F' H'
  new : ∀ b o, H b = some o → F b = none → F' b = none
section
variable {F H F1 H1 F2 H2 : Hp} {p : Addr} {o : HO}
theorem Grow.refl (s : Same F H) : Grow F H F H := ⟨Same.refl _, Same.refl _, s, fun _ _ _ h => h⟩
theorem Grow.trans (a : Grow F H F1 H1) (b : Grow F1 H1 F2 H2) : Grow F H F2 H2 :=
  ⟨a.fs.trans b.fs, a.hs.trans b.hs, b.sub, fun c o h n => b.new c o (a.hs c o h) (a.new c o h n)⟩
theorem same_upd (h : H p = none) : Same H (upd H p o) := fun b u e => by
  rw [upd_ne (ne_of_none e h)]
  exact e
theorem upd_mono (s : Same F H) : Same (upd F p o) (upd H p o) := fun b u e => by
  by_cases hb : b = p
  · subst hb
    rw [upd_same] at e ⊢
    exact e
  · rw [upd_ne hb] at e ⊢
    exact s _ _ e
/-- a new object, frozen -/
theorem Grow.lay (s : Same F H) (h : H p = none) : Grow F H (upd F p o) (upd H p o) :=
  ⟨same_upd (s.free h), same_upd h, upd_mono s, fun b u e n => by
    rw [upd_ne (ne_of_none e h)]
    exact n⟩
/-- a new object of one's own -/
theorem Grow.own (s : Same F H) (h : H p = none) : Grow F H F (upd H p o) :=
  ⟨Same.refl _, same_upd h, s.trans (same_upd h), fun b u e n => n⟩
/-- an object of one's own, made since H, is frozen -/
theorem Grow.freeze (g : Grow F H F1 H1) (h : H p = none) (h1 : H1 p = some o) (n : F1 p = none) : Grow F H (upd F1 p o) H1 :=
  ⟨g.fs.trans (same_upd n), g.hs, fun b u e => by
    by_cases hb : b = p
    · subst hb
      rw [upd_same] at e
      rw [h1]
      exact e
    · rw [upd_ne hb] at e
      exact g.sub _ _ e, fun b u e m => by
    rw [upd_ne (ne_of_none e h)]
    exact g.new b u e m⟩
end

/-! ### slots -/
inductive Sl where
  /-- nothing is said -/
  | un
  /-- data, frozen -/
  | d (d : D)
  /-- a list of one's own, that may change -/
  | own (l : List D)
  /-- an instance of one's own, whose attributes may change: its class's name, its attributes -/
  | obj (c : Str) (fs : List (Str × D))
  /-- the error that an except suite holds at a -/
  | exc (a : Addr) (e : Exn) (cls : Value) (dd : Option Addr)
def Sl.ow : Sl → Bool
  | .own _ => true
  | .obj _ _ => true
  | _ => false

def SlOk (K : Frag) (mg : MG) (F H : Hp) : Sl → Option (Option V) → Prop
  | .un, _ => True
  | .d d, o => ∃ v, o = some (some v) ∧ Dat K mg F d v
  | .own l, o => ∃ a xs, o = some (some (.ref a)) ∧ F a = none ∧ H a = some (.lst xs) ∧ DatL K mg F l xs
  | .obj c fs, o => ∃ a C dx gs, o = some (some (.ref a)) ∧ F a = none ∧ mg c = some (.ref C) ∧ H a = some (.ins C dx gs) ∧ gs.map (·.1) = fs.map (·.1) ∧ DatL K mg F (fs.map (·.2)) (gs.map (·.2))
  | .exc a e cls dd, o => o = some (some (.ref a)) ∧ ExD K mg F e cls dd
structure Rl (K : Frag) (mg : MG) (F H : Hp) (ρ : List Sl) (σ : St) : Prop where
  sub : Same F H
  len : ρ.length = σ.length
  sl : ∀ (i : Nat) (s : Sl), ρ[i]? = some s → SlOk K mg F H s σ[i]?
  ne : ∀ (i j : Nat) (s t : Sl) (a : Addr), i ≠ j → ρ[i]? = some s → s.ow = true → ρ[j]? = some t → t.ow = true → σ[i]? = some (some (.ref a)) → σ[j]? ≠ some (some (.ref a))
section
variable {K : Frag} {mg : MG} {F H F' H' : Hp} {ρ : List Sl} {σ : St}
theorem SlOk.grow (g : Grow F H F' H') {s : Sl} {o : Option (Option V)} (h : SlOk K mg F H s o) : SlOk K mg F' H' s o := by
  cases s with
  | un => trivial
  | d d =>
    obtain ⟨v, h1, h2⟩ := h
    exact ⟨v, h1, h2.mono g.fs⟩
  | own l =>
    obtain ⟨a, xs, h1, h2, h3, h4⟩ := h
    exact ⟨a, xs, h1, g.new a _ h3 h2, g.hs _ _ h3, h4.mono g.fs⟩
  | obj c fs =>
    obtain ⟨a, C, dx, gs, h1, h2, h5, h3, h6, h4⟩ := h
    exact ⟨a, C, dx, gs, h1, g.new a _ h3 h2, h5, g.hs _ _ h3, h6, h4.mono g.fs⟩
  | exc a e cls dd => exact ⟨h.1, h.2.mono g.fs⟩
theorem Rl.grow (r : Rl K mg F H ρ σ) (g : Grow F H F' H') : Rl K mg F' H' ρ σ :=
  ⟨g.sub, r.len, fun i s h => (r.sl i s h).grow g, r.ne⟩
theorem set_get {α : Type} (l : List α) (i j : Nat) (x : α) : (l.set i x)[j]? = if i = j then (if j < l.length then some x else none) else l[j]? := by
  by_cases h : i = j
  · subst h
    by_cases hl : i < l.length
    · rw [if_pos rfl, if_pos hl, List.getElem?_set_self hl]
    · rw [if_pos rfl, if_neg hl]
      exact List.getElem?_eq_none (by simpa using Nat.le_of_not_lt hl)
  · rw [if_neg h, List.getElem?_set_ne h]
/-- data into a slot -/
theorem Rl.set (r : Rl K mg F H ρ σ) {d : D} {v : V} (h : Dat K mg F d v) (i : Nat) : Rl K mg F H (ρ.set i (.d d)) (σ.set i (some v)) := by
  refine ⟨r.sub, by rw [List.length_set, List.length_set, r.len], fun j s e => ?_, fun j k s t a n e1 o1 e2 o2 e3 => ?_⟩
  · rw [set_get] at e ⊢
    by_cases hi : i = j
    · rw [if_pos hi] at e ⊢
      rw [← r.len]
      by_cases hl : j < ρ.length
      · rw [if_pos hl] at e ⊢
        cases e
        exact ⟨v, rfl, h⟩
      · rw [if_neg hl] at e
        cases e
    · rw [if_neg hi] at e ⊢
      exact r.sl j s e
  · rw [set_get] at e1 e2 e3 ⊢
    by_cases hj : i = j
    · rw [if_pos hj] at e1
      split at e1 <;> cases e1
      cases o1
    · by_cases hk : i = k
      · rw [if_pos hk] at e2
        split at e2 <;> cases e2
        cases o2
      · rw [if_neg hj] at e1 e3
        rw [if_neg hk] at e2 ⊢
        exact r.ne j k s t a n e1 o1 e2 o2 e3
theorem Rl.setUn (r : Rl K mg F H ρ σ) (i : Nat) (v : Option V) : Rl K mg F H (ρ.set i .un) (σ.set i v) := by
  refine ⟨r.sub, by rw [List.length_set, List.length_set, r.len], fun j s e => ?_, fun j k s t a n e1 o1 e2 o2 e3 => ?_⟩
  · rw [set_get] at e ⊢
    by_cases hi : i = j
    · rw [if_pos hi] at e
      split at e
      · cases e
        trivial
      · cases e
    · rw [if_neg hi] at e ⊢
      exact r.sl j s e
  · rw [set_get] at e1 e2 e3 ⊢
    by_cases hj : i = j
    · rw [if_pos hj] at e1
      split at e1 <;> cases e1
      cases o1
    · by_cases hk : i = k
      · rw [if_pos hk] at e2
        split at e2 <;> cases e2
        cases o2
      · rw [if_neg hj] at e1 e3
        rw [if_neg hk] at e2 ⊢
        exact r.ne j k s t a n e1 o1 e2 o2 e3
/-- an error into a slot -/
theorem Rl.setEx (r : Rl K mg F H ρ σ) {a : Addr} {e : Exn} {cls : Value} {dd : Option Addr} (h : ExD K mg F e cls dd) (i : Nat) : Rl K mg F H (ρ.set i (.exc a e cls dd)) (σ.set i (some (.ref a))) := by
  refine ⟨r.sub, by rw [List.length_set, List.length_set, r.len], fun j s e => ?_, fun j k s t a n e1 o1 e2 o2 e3 => ?_⟩
  · rw [set_get] at e ⊢
    by_cases hi : i = j
    · rw [if_pos hi] at e ⊢
      rw [← r.len]
      by_cases hl : j < ρ.length
      · rw [if_pos hl] at e ⊢
        cases e
        exact ⟨rfl, h⟩
      · rw [if_neg hl] at e
        cases e
    · rw [if_neg hi] at e ⊢
      exact r.sl j s e
  · rw [set_get] at e1 e2 e3 ⊢
    by_cases hj : i = j
    · rw [if_pos hj] at e1
      split at e1 <;> cases e1
      cases o1
    · by_cases hk : i = k
      · rw [if_pos hk] at e2
        split at e2 <;> cases e2
        cases o2
      · rw [if_neg hj] at e1 e3
        rw [if_neg hk] at e2 ⊢
        exact r.ne j k s t a n e1 o1 e2 o2 e3
/-- a new thing of one's own into a slot -/
theorem Rl.setOw (r : Rl K mg F H ρ σ) {s : Sl} {p : Addr} (fr : ∀ (i : Nat) (t : Sl), ρ[i]? = some t → t.ow = true → σ[i]? ≠ some (some (.ref p))) (h : SlOk K mg F H s (some (some (.ref p)))) (i : Nat) :
    Rl K mg F H (ρ.set i s) (σ.set i (some (.ref p))) := by
  refine ⟨r.sub, by rw [List.length_set, List.length_set, r.len], fun j t e => ?_, fun j k t u a n e1 o1 e2 o2 e3 e4 => ?_⟩
  · rw [set_get] at e ⊢
    by_cases hi : i = j
    · rw [if_pos hi] at e ⊢
      rw [← r.len]
      by_cases hl : j < ρ.length
      · rw [if_pos hl] at e ⊢
        cases e
        exact h
      · rw [if_neg hl] at e
        cases e
    · rw [if_neg hi] at e ⊢
      exact r.sl j t e
  · rw [set_get] at e1 e2 e3 e4
    by_cases hj : i = j
    · have hk : ¬ i = k := fun z => n (hj.symm.trans z)
      rw [if_pos hj] at e3
      rw [if_neg hk] at e2 e4
      split at e3
      · cases e3
        exact fr k u e2 o2 e4
      · cases e3
    · rw [if_neg hj] at e1 e3
      by_cases hk : i = k
      · rw [if_pos hk] at e4
        split at e4
        · cases e4
          exact fr j t e1 o1 e3
        · cases e4
      · rw [if_neg hk] at e2 e4
        exact r.ne j k t u a n e1 o1 e2 o2 e3 e4
end

/-! ### results -/
abbrev R (α : Type) := Option (Except Exn α)
def bnd {α β : Type} (x : R α) (f : α → R β) : R β := match x with
  | some (.ok a) => f a
  | some (.error e) => some (.error e)
  | none => none
abbrev ok {α : Type} (a : α) : R α := some (.ok a)
abbrev err {α : Type} (e : Exn) : R α := some (.error e)
abbrev EF := List Sl → R D
abbrev AF := List Sl → R (List D)
abbrev TF := List Sl → R Bool

/-- what is wanted of an exception -/
def ErrOk {α : Type} (K : Frag) (mg : MG) (F H : Hp) (W : WX) (σ : St) (r : Except Exn α) : Prop :=
  ∀ e, r = .error e → ∀ cls dd F' H', Grow F H F' H' → ExD K mg F' e cls dd → W cls dd σ H'
theorem ErrOk.grow {α : Type} {K : Frag} {mg : MG} {F H F1 H1 : Hp} {W : WX} {σ : St} {r : Except Exn α} (h : ErrOk K mg F H W σ r) (g : Grow F H F1 H1) : ErrOk K mg F1 H1 W σ r :=
  fun e he cls dd F' H' g' x => h e he cls dd F' H' (g.trans g') x
/-- THE READING: f tells what comes of it -/
def tX {α β : Type} (Rep : Hp → α → β → Prop) (K : Frag) (mg : MG) (W : WX) (f : List Sl → R α) : St → Hp → (β → Hp → Prop) → Prop := fun σ H Q =>
  ∃ F ρ r, Rl K mg F H ρ σ ∧ f ρ = some r ∧ ErrOk K mg F H W σ r ∧ ∀ a, r = .ok a → ∀ b F' H', Grow F H F' H' → Rep F' a b → Q b H'
abbrev tE (K : Frag) (mg : MG) (W : WX) (f : EF) : TE := tX (fun F d v => Dat K mg F d v) K mg W f
abbrev tA (K : Frag) (mg : MG) (W : WX) (f : AF) : TA := tX (fun F d v => DatL K mg F d v) K mg W f
abbrev tT (K : Frag) (mg : MG) (W : WX) (f : TF) : TT := tX (fun _ b b' => b' = b) K mg W f
section
variable {K : Frag} {mg : MG} {F H : Hp} {W : WX} {σ : St} {ρ : List Sl}
/-- the first part of a reading -/
theorem step {α β γ : Type} {Rep : Hp → α → β → Prop} {f : List Sl → R α} {k : α → R γ} {r : Except Exn γ} {Q : β → Hp → Prop} (rl : Rl K mg F H ρ σ) (h : bnd (f ρ) k = some r) (he : ErrOk K mg F H W σ r)
    (hk : ∀ a, k a = some r → ∀ b F' H', Grow F H F' H' → Rl K mg F' H' ρ σ → ErrOk K mg F' H' W σ r → Rep F' a b → Q b H') : tX Rep K mg W f σ H Q := by
  cases e : f ρ with
  | none =>
    rw [e] at h
    cases h
  | some x =>
    rw [e] at h
    cases x with
    | error x =>
      have h' : r = .error x := (Option.some.inj h).symm
      subst h'
      exact ⟨F, ρ, .error x, rl, e, fun e' he' => he e' (by cases he'; rfl), fun a z => by cases z⟩
    | ok a =>
      have h' : k a = some r := h
      refine ⟨F, ρ, .ok a, rl, e, (fun e' he' => by cases he'), fun a' z b F' H' g rp => ?_⟩
      cases z
      exact hk a h' b F' H' g (rl.grow g) (he.grow g) rp
theorem PE.to {X : Cx} {e : Expr} {t t' : TE} (h : PE X e t) (m : ∀ σ H Q, t' σ H Q → t σ H Q) : PE X e t' := ⟨fun pins s σ H Q I q => h.run pins s σ H Q I (m _ _ _ q)⟩
theorem PA.to {X : Cx} {e : List Expr} {t t' : TA} (h : PA X e t) (m : ∀ σ H Q, t' σ H Q → t σ H Q) : PA X e t' := ⟨fun pos pins s σ H Q I q => h.run pos pins s σ H Q I (m _ _ _ q)⟩
theorem PT.to {X : Cx} {e : Expr} {t t' : TT} (h : PT X e t) (m : ∀ σ H Q, t' σ H Q → t σ H Q) : PT X e t' := ⟨fun pins s σ H Q I q => h.run pins s σ H Q I (m _ _ _ q)⟩
theorem PW.to {X : Cx} {e : Expr} {t t' : TT} (h : PW X e t) (m : ∀ σ H Q, t' σ H Q → t σ H Q) : PW X e t' := ⟨fun wh pins s σ H Q I q => h.run wh pins s σ H Q I (m _ _ _ q)⟩
theorem PS.to {X : Cx} {e : Stmt} {t t' : TS} (h : PS X e t) (m : ∀ D σ H, t' D σ H → t D σ H) : PS X e t' := ⟨fun pins s σ H D I q => h.run pins s σ H D I (m _ _ _ q)⟩
theorem PSs.to {X : Cx} {e : List Stmt} {t t' : TS} (h : PSs X e t) (m : ∀ D σ H, t' D σ H → t D σ H) : PSs X e t' := ⟨fun pins s σ H D I q => h.run pins s σ H D I (m _ _ _ q)⟩
end
end PD
set_option Elab.async false
set_option linter.all false
set_option maxRecDepth 100000
set_option maxHeartbeats 1000000
set_option autoImplicit false
/-! Expressions told by plain functions. -/
namespace PD
open PySem PySem.Spec L2

abbrev ED (X : Cx) (W : WX) (e : Expr) (f : EF) : Prop := PE X e (tE X.K X.mg W f)
abbrev AD (X : Cx) (W : WX) (es : List Expr) (f : AF) : Prop := PA X es (tA X.K X.mg W f)
abbrev TD (X : Cx) (W : WX) (e : Expr) (f : TF) : Prop := PT X e (tT X.K X.mg W f)
abbrev WD (X : Cx) (W : WX) (e : Expr) (f : TF) : Prop := PW X e (tT X.K X.mg W f)
/-- the data of a slot -/
def getS (ρ : List Sl) (i : Nat) : R D := match ρ[i]? with
  | some (.d d) => ok d
  | _ => none
def getO (ρ : List Sl) (i : Nat) : R (List D) := match ρ[i]? with
  | some (.own l) => ok l
  | _ => none
def opt {α : Type} (x : Option α) : R α := x.map .ok
theorem opt_some {α : Type} {x : Option α} {r : Except Exn α} (h : opt x = some r) : ∃ a, x = some a ∧ r = .ok a := by
  cases x with
  | none => cases h
  | some a => exact ⟨a, rfl, (Option.some.inj h).symm⟩

section
variable {X : Cx} {W : WX} {e a b c : Expr} {es rest : List Expr} {pos p : Pos} {f g k : EF} {af ag : AF} {tf tg : TF} {x : Str}

theorem ed_var (i : Nat) (hN : X.N[i]? = some x := by rfl) (hv : Vis X.env.scope x := by first | exact Or.inl rfl | exact Or.inr (Or.inl rfl) | exact Or.inr (Or.inr rfl)) (hd : (x == ("__debug__" : Str)) = false := by decide)
    (hcd : (x == ("__classdict__" : Str)) = false := by decide) : ED X W (.Name x pos) (fun ρ => getS ρ i) := by
  refine PE.to (pv i hN hv hd hcd) fun σ H Q h => ?_
  obtain ⟨F, ρ, r, rl, h, _, hk⟩ := h
  simp only [getS] at h
  split at h
  · rename_i d e
    cases h
    obtain ⟨v, h1, h2⟩ := rl.sl i _ e
    exact ⟨v, h1, hk d rfl v F H (Grow.refl rl.sub) h2⟩
  · cases h
theorem ed_of {v : V} (d : D) (h : PE X e (tC v)) (hd : ∀ F, Dat X.K X.mg F d v) : ED X W e (fun _ => ok d) := by
  refine PE.to h fun σ H Q h => ?_
  obtain ⟨F, ρ, r, rl, h, _, hk⟩ := h
  cases h
  exact hk d rfl v F H (Grow.refl rl.sub) (hd F)
theorem ed_int {i : Int} {j : Nat} : ED X W (.Constant (.int i) j pos) (fun _ => ok (.int i)) := ed_of (.int i) pe_int fun _ => rfl
theorem ed_bl {i : Bool} {j : Nat} : ED X W (.Constant (.bool i) j pos) (fun _ => ok (.bl i)) := ed_of (.bl i) pe_bl fun _ => rfl
theorem ed_non {j : Nat} : ED X W (.Constant .none j pos) (fun _ => ok .non) := ed_of .non pe_non fun _ => rfl
theorem ed_str {s : Str} {j : Nat} : ED X W (.Constant (.str s) j pos) (fun _ => ok (.str s)) := ed_of (.str s) pe_str fun _ => rfl
/-- a module's name that holds data -/
theorem ed_glob {v : V} {u : Value} (d : D) (hm : X.mg x = some u) (r : RelV v u) (hd : ∀ F, Dat X.K X.mg F d v) (hg : Gl X x := by rfl) (hdb : (x == ("__debug__" : Str)) = false := by decide) : ED X W (.Name x pos) (fun _ => ok d) :=
  ed_of d (pe_glob hg hm r hdb) hd

/-! ### arguments, displays -/
theorem ad_nil : AD X W [] (fun _ => ok []) := by
  refine PA.to pa_nil fun σ H Q h => ?_
  obtain ⟨F, ρ, r, rl, h, _, hk⟩ := h
  cases h
  exact hk [] rfl [] F H (Grow.refl rl.sub) rfl
theorem ad_cons (he : ED X W e f) (hr : AD X W es af) (hs : starEach (e :: es) X.env = (false, eval e X.env) :: starEach es X.env := by rfl) :
    AD X W (e :: es) (fun ρ => bnd (f ρ) fun d => bnd (af ρ) fun ds => ok (d :: ds)) := by
  refine PA.to (pa_cons he hr hs) fun σ H Q h => ?_
  obtain ⟨F, ρ, r, rl, h, er, hk⟩ := h
  refine step rl h er fun d h v F1 H1 g1 rl1 er1 d1 => ?_
  refine step rl1 h er1 fun ds h vs F2 H2 g2 rl2 er2 d2 => ?_
  cases h
  exact hk _ rfl (v :: vs) F2 H2 (g1.trans g2) ⟨v, vs, rfl, d1.mono g2.fs, d2⟩
def tupR (ds : List D) : R D := if ds.length ≤ 1000 then ok (.tup ds) else none
def lstR (ds : List D) : R D := if ds.length ≤ 1000 then ok (.lst ds) else none
theorem size1000 {n : Nat} (h : n ≤ 1000) : n ≤ sizeLine := Nat.le_of_lt (small1000 h)
theorem ed_tup {k : Nat} (h : AD X W es af) : ED X W (.Tuple es k pos) (fun ρ => bnd (af ρ) tupR) := by
  refine PE.to (pe_tup h) fun σ H Q h => ?_
  obtain ⟨F, ρ, r, rl, h, er, hk⟩ := h
  refine step rl h er fun ds h vs F1 H1 g1 rl1 er1 d1 => ?_
  unfold tupR at h
  split at h
  · rename_i hl
    cases h
    refine ⟨by rw [d1.len]; exact size1000 hl, fun p hp => ?_⟩
    refine hk _ rfl _ (upd F1 p (.tup vs)) _ (g1.trans (Grow.lay g1.sub hp)) ?_
    exact ⟨p, vs, rfl, SqT.of upd_same, d1.mono (same_upd (g1.sub.free hp))⟩
  · cases h
theorem ed_lst (h : AD X W es af) : ED X W (.List es pos) (fun ρ => bnd (af ρ) lstR) := by
  refine PE.to (pe_lst h) fun σ H Q h => ?_
  obtain ⟨F, ρ, r, rl, h, er, hk⟩ := h
  refine step rl h er fun ds h vs F1 H1 g1 rl1 er1 d1 => ?_
  unfold lstR at h
  split at h
  · rename_i hl
    cases h
    refine ⟨by rw [d1.len]; exact size1000 hl, fun p hp => ?_⟩
    refine hk _ rfl _ (upd F1 p (.lst vs)) _ (g1.trans (Grow.lay g1.sub hp)) ?_
    exact ⟨p, vs, rfl, upd_same, d1.mono (same_upd (g1.sub.free hp))⟩
  · cases h

/-! ### a new list of one's own -/
def tN (K : Frag) (mg : MG) (W : WX) (f : AF) : TE := fun σ H Q =>
  ∃ F ρ r, Rl K mg F H ρ σ ∧ f ρ = some r ∧ ErrOk K mg F H W σ r ∧ ∀ l, r = .ok l → ∀ a xs F' H', Grow F H F' H' → H a = none → F' a = none → H' a = some (.lst xs) → DatL K mg F' l xs → Q (.ref a) H'
abbrev ND (X : Cx) (W : WX) (e : Expr) (f : AF) : Prop := PE X e (tN X.K X.mg W f)
theorem ed_nd (h : ND X W e af) : ED X W e (fun ρ => bnd (af ρ) fun l => ok (.lst l)) := by
  refine PE.to h fun σ H Q h => ?_
  obtain ⟨F, ρ, r, rl, h, er, hk⟩ := h
  dsimp only at h
  cases ea : af ρ with
  | none => rw [ea] at h; cases h
  | some z =>
    rw [ea] at h
    cases z with
    | error z =>
      cases h
      exact ⟨F, ρ, .error z, rl, ea, (fun e' he' => er e' (by cases he'; rfl)), fun l z => nomatch z⟩
    | ok l =>
      cases h
      refine ⟨F, ρ, .ok l, rl, ea, (fun e' he' => nomatch he'), fun l' z a xs F' H' g n0 n1 ha hd => ?_⟩
      cases z
      refine hk _ rfl _ (upd F' a (.lst xs)) H' (g.freeze n0 ha n1) ?_
      exact ⟨a, xs, rfl, upd_same, hd.mono (same_upd n1)⟩
theorem nd_lst (h : AD X W es af) : ND X W (.List es pos) (fun ρ => bnd (af ρ) fun ds => if ds.length ≤ 1000 then ok ds else none) := by
  refine PE.to (pe_lst h) fun σ H Q h => ?_
  obtain ⟨F, ρ, r, rl, h, er, hk⟩ := h
  refine step rl h er fun ds h vs F1 H1 g1 rl1 er1 d1 => ?_
  split at h
  · rename_i hl
    cases h
    refine ⟨by rw [d1.len]; exact size1000 hl, fun p hp => ?_⟩
    exact hk _ rfl p vs F1 _ (g1.trans (Grow.own g1.sub hp)) (g1.hs.free hp) (g1.sub.free hp) upd_same d1
  · cases h

/-! ### a list that is read: of one's own, or frozen -/
def tL (K : Frag) (mg : MG) (W : WX) (f : AF) : TE := fun σ H Q =>
  ∃ F ρ r, Rl K mg F H ρ σ ∧ f ρ = some r ∧ ErrOk K mg F H W σ r ∧ ∀ l, r = .ok l → ∀ a xs F' H', Grow F H F' H' → H' a = some (.lst xs) → DatL K mg F' l xs → Q (.ref a) H'
abbrev LD (X : Cx) (W : WX) (e : Expr) (f : AF) : Prop := PE X e (tL X.K X.mg W f)
theorem ld_own (i : Nat) (hN : X.N[i]? = some x := by rfl) (hv : Vis X.env.scope x := by first | exact Or.inl rfl | exact Or.inr (Or.inl rfl) | exact Or.inr (Or.inr rfl)) (hd : (x == ("__debug__" : Str)) = false := by decide)
    (hcd : (x == ("__classdict__" : Str)) = false := by decide) : LD X W (.Name x pos) (fun ρ => getO ρ i) := by
  refine PE.to (pv i hN hv hd hcd) fun σ H Q h => ?_
  obtain ⟨F, ρ, r, rl, h, _, hk⟩ := h
  simp only [getO] at h
  split at h
  · rename_i l e
    cases h
    obtain ⟨a, xs, h1, h2, h3, h4⟩ := rl.sl i _ e
    exact ⟨_, h1, hk l rfl a xs F H (Grow.refl rl.sub) h3 h4⟩
  · cases h
def unL : D → R (List D)
  | .lst l => ok l
  | _ => none
theorem ld_ed (h : ED X W e f) : LD X W e (fun ρ => bnd (f ρ) unL) := by
  refine PE.to h fun σ H Q h => ?_
  obtain ⟨F, ρ, r, rl, h, er, hk⟩ := h
  refine step rl h er fun d h v F1 H1 g1 rl1 er1 d1 => ?_
  unfold unL at h
  split at h
  · cases h
    obtain ⟨a, xs, rfl, h2, h3⟩ := d1
    exact hk _ rfl a xs F1 H1 g1 (g1.sub _ _ h2) h3
  · cases h
/-- the first part of a reading that reads a list -/
theorem stepL {K : Frag} {mg : MG} {F H : Hp} {σ : L2.St} {ρ : List Sl} {γ : Type} {f : AF} {k : List D → R γ} {r : Except Exn γ} {Q : VK} (rl : Rl K mg F H ρ σ) (h : bnd (f ρ) k = some r) (he : ErrOk K mg F H W σ r)
    (hk : ∀ l, k l = some r → ∀ a xs F' H', Grow F H F' H' → Rl K mg F' H' ρ σ → ErrOk K mg F' H' W σ r → H' a = some (.lst xs) → DatL K mg F' l xs → Q (.ref a) H') : tL K mg W f σ H Q := by
  cases e : f ρ with
  | none => rw [e] at h; cases h
  | some z =>
    rw [e] at h
    cases z with
    | error z =>
      have h' : r = .error z := (Option.some.inj h).symm
      subst h'
      exact ⟨F, ρ, .error z, rl, e, (fun e' he' => he e' (by cases he'; rfl)), fun l z => nomatch z⟩
    | ok l =>
      refine ⟨F, ρ, .ok l, rl, e, (fun e' he' => nomatch he'), fun l' z a xs F' H' g hq hd => ?_⟩
      cases z
      exact hk l h a xs F' H' g (rl.grow g) (he.grow g) hq hd

/-! ### operators -/
def OpD (X : Cx) (o : Value → Value → Sem Value) (h2 : D → D → Option D) : Prop := ∃ r, OpR X o r ∧ ∀ d1 d2 d F H v1 v2 Q, h2 d1 d2 = some d → Same F H → Dat X.K X.mg F d1 v1 → Dat X.K X.mg F d2 v2 →
  (∀ v F' H', Grow F H F' H' → Dat X.K X.mg F' d v → Q v H') → r v1 v2 H Q
def op2 (h2 : D → D → Option D) (f g : EF) : EF := fun ρ => bnd (f ρ) fun d1 => bnd (g ρ) fun d2 => opt (h2 d1 d2)
theorem op2_run {o : Value → Value → Sem Value} {h2 : D → D → Option D} {r2 : R2} (hr : ∀ d1 d2 d F H v1 v2 Q, h2 d1 d2 = some d → Same F H → Dat X.K X.mg F d1 v1 → Dat X.K X.mg F d2 v2 →
    (∀ v F' H', Grow F H F' H' → Dat X.K X.mg F' d v → Q v H') → r2 v1 v2 H Q) (σ : L2.St) (H : Hp) (Q : VK) (h : tE X.K X.mg W (op2 h2 f g) σ H Q) : tOp r2 (tE X.K X.mg W f) (tE X.K X.mg W g) σ H Q := by
  obtain ⟨F, ρ, r, rl, h, er, hk⟩ := h
  refine step rl h er fun d h v F1 H1 g1 rl1 er1 d1 => ?_
  refine step rl1 h er1 fun d' h v' F2 H2 g2 rl2 er2 d2 => ?_
  obtain ⟨d3, e3, rfl⟩ := opt_some h
  exact hr _ _ _ F2 H2 _ _ _ e3 g2.sub (d1.mono g2.fs) d2 fun w F' H' g' dw => hk _ rfl w F' H' ((g1.trans g2).trans g') dw
theorem ed_op {op : Operator} {h2 : D → D → Option D} (ho : OpD X (binaryOp op) h2) (ha : ED X W a f) (hb : ED X W b g) : ED X W (.BinOp a op b pos) (op2 h2 f g) := by
  obtain ⟨r2, h1, hr⟩ := ho
  exact PE.to (pe_op h1 ha hb) (op2_run (o := binaryOp op) hr)
theorem ed_cmp {op : CmpOp} {h2 : D → D → Option D} (ho : OpD X (compareOp op) h2) (ha : ED X W a f) (hb : ED X W b g) (hm : behindInMarks op b = false := by first | exact nomark _ | rfl | with_unfolding_all rfl) : ED X W (.Compare a [op] [b] pos) (op2 h2 f g) := by
  obtain ⟨r2, h1, hr⟩ := ho
  exact PE.to (pe_cmpR h1 ha hb hm) (op2_run (o := compareOp op) hr)
def asB : D → R Bool
  | .bl b => ok b
  | _ => none
/-- a reading of a bool, as a test -/
theorem tE_test {t : TE} (m : ∀ σ H Q, tE X.K X.mg W f σ H Q → t σ H Q) (σ : L2.St) (H : Hp) (Q : Bool → Hp → Prop) (h : tT X.K X.mg W (fun ρ => bnd (f ρ) asB) σ H Q) : tTest t σ H Q := by
  obtain ⟨F, ρ, r, rl, h, er, hk⟩ := h
  refine m _ _ _ ?_
  refine step rl h er fun d h v F1 H1 g1 rl1 er1 d1 => ?_
  unfold asB at h
  split at h
  · cases h
    exact ⟨_, d1, hk _ rfl _ F1 H1 g1 rfl⟩
  · cases h
theorem td_cmp {op : CmpOp} {h2 : D → D → Option D} (ho : OpD X (compareOp op) h2) (ha : ED X W a f) (hb : ED X W b g) (hm : behindInMarks op b = false := by first | exact nomark _ | rfl | with_unfolding_all rfl) :
    TD X W (.Compare a [op] [b] pos) (fun ρ => bnd (op2 h2 f g ρ) asB) := by
  obtain ⟨r2, h1, hr⟩ := ho
  exact PT.to (pt_cmpR h1 ha hb hm) (tE_test (op2_run (o := compareOp op) hr))
/-- an expression whose value is a bool: a name, a call, .. -/
theorem td_val (h : ED X W e f) (he : ∀ whole, isTrue e X.env whole = (do let v ← whole; standAt e.pos; holding [v] (truthy v)) := by intro _; rfl) : TD X W e (fun ρ => bnd (f ρ) asB) :=
  PT.to (pt_val h he) (tE_test fun _ _ _ z => z)
def notT (f : TF) : TF := fun ρ => bnd (f ρ) fun b => ok (!b)
def andT (f g : TF) : TF := fun ρ => bnd (f ρ) fun b => if b = true then g ρ else ok false
def orT (f g : TF) : TF := fun ρ => bnd (f ρ) fun b => if b = true then ok true else g ρ
theorem td_not (h : TD X W a tf) : TD X W (.UnaryOp .Not a pos) (notT tf) := by
  refine PT.to (pt_not h) fun σ H Q h => ?_
  obtain ⟨F, ρ, r, rl, h, er, hk⟩ := h
  refine step rl h er fun b h v F1 H1 g1 rl1 er1 d1 => ?_
  cases h
  subst d1
  exact hk _ rfl _ F1 H1 g1 rfl
theorem wd_and1 (h : TD X W a tf) : WD X W (.BoolOp .And [a] pos) tf := pw_and1 h
theorem wd_or1 (h : TD X W a tf) : WD X W (.BoolOp .Or [a] pos) tf := pw_or1 h
theorem wd_and (h : TD X W a tf) (hb : WD X W (.BoolOp .And (b :: rest) pos) tg) : WD X W (.BoolOp .And (a :: b :: rest) pos) (andT tf tg) := by
  refine PW.to (pw_and h hb) fun σ H Q h => ?_
  obtain ⟨F, ρ, r, rl, h, er, hk⟩ := h
  refine step rl h er fun b h v F1 H1 g1 rl1 er1 d1 => ?_
  subst d1
  split at h
  · rename_i hb
    rw [if_pos hb]
    exact ⟨F1, ρ, r, rl1, h, er1, fun a z b F' H' g' e => hk a z b F' H' (g1.trans g') e⟩
  · rename_i hb
    rw [if_neg hb]
    cases h
    exact hk _ rfl _ F1 H1 g1 rfl
theorem wd_or (h : TD X W a tf) (hb : WD X W (.BoolOp .Or (b :: rest) pos) tg) : WD X W (.BoolOp .Or (a :: b :: rest) pos) (orT tf tg) := by
  refine PW.to (pw_or h hb) fun σ H Q h => ?_
  obtain ⟨F, ρ, r, rl, h, er, hk⟩ := h
  refine step rl h er fun b h v F1 H1 g1 rl1 er1 d1 => ?_
  subst d1
  split at h
  · rename_i hb
    rw [if_pos hb]
    cases h
    exact hk _ rfl _ F1 H1 g1 rfl
  · rename_i hb
    rw [if_neg hb]
    exact ⟨F1, ρ, r, rl1, h, er1, fun a z b F' H' g' e => hk a z b F' H' (g1.trans g') e⟩
theorem td_w (h : WD X W e tf) : TD X W e tf := h.pt
/-- and, or, not as values -/
theorem ed_one {op : BoolOp} (h : ED X W a f) : ED X W (.BoolOp op [a] pos) f := pe_one h
def andE (f g : EF) : EF := fun ρ => bnd (f ρ) fun d => bnd (asB d) fun b => if b = true then g ρ else ok (.bl false)
def orE (f g : EF) : EF := fun ρ => bnd (f ρ) fun d => bnd (asB d) fun b => if b = true then ok (.bl true) else g ρ
def notE (f : EF) : EF := fun ρ => bnd (f ρ) fun d => bnd (asB d) fun b => ok (.bl (!b))
theorem asB_some {d : D} {γ : Type} {k : Bool → R γ} {r : Except Exn γ} (h : bnd (asB d) k = some r) : ∃ b, d = .bl b ∧ k b = some r := by
  cases d with
  | bl b => exact ⟨b, rfl, h⟩
  | _ => cases h
theorem ed_and (ha : ED X W a f) (hb : ED X W (.BoolOp .And (b :: rest) pos) g) : ED X W (.BoolOp .And (a :: b :: rest) pos) (andE f g) := by
  refine PE.to (pe_and ha hb) fun σ H Q h => ?_
  obtain ⟨F, ρ, r, rl, h, er, hk⟩ := h
  refine step rl h er fun d h v F1 H1 g1 rl1 er1 d1 => ?_
  obtain ⟨b, rfl, h2⟩ := asB_some h
  clear h
  have h := h2
  clear h2
  refine ⟨b, d1, ?_⟩
  split at h
  · rename_i hb
    rw [if_pos hb]
    exact ⟨F1, ρ, r, rl1, h, er1, fun a z b F' H' g' e => hk a z b F' H' (g1.trans g') e⟩
  · rename_i hb
    rw [if_neg hb]
    cases h
    exact hk _ rfl _ F1 H1 g1 rfl
theorem ed_or (ha : ED X W a f) (hb : ED X W (.BoolOp .Or (b :: rest) pos) g) : ED X W (.BoolOp .Or (a :: b :: rest) pos) (orE f g) := by
  refine PE.to (pe_or ha hb) fun σ H Q h => ?_
  obtain ⟨F, ρ, r, rl, h, er, hk⟩ := h
  refine step rl h er fun d h v F1 H1 g1 rl1 er1 d1 => ?_
  obtain ⟨b, rfl, h2⟩ := asB_some h
  clear h
  have h := h2
  clear h2
  refine ⟨b, d1, ?_⟩
  split at h
  · rename_i hb
    rw [if_pos hb]
    cases h
    exact hk _ rfl _ F1 H1 g1 rfl
  · rename_i hb
    rw [if_neg hb]
    exact ⟨F1, ρ, r, rl1, h, er1, fun a z b F' H' g' e => hk a z b F' H' (g1.trans g') e⟩
theorem ed_not (ha : ED X W a f) : ED X W (.UnaryOp .Not a pos) (notE f) := by
  refine PE.to (pe_not ha) fun σ H Q h => ?_
  obtain ⟨F, ρ, r, rl, h, er, hk⟩ := h
  refine step rl h er fun d h v F1 H1 g1 rl1 er1 d1 => ?_
  obtain ⟨b, rfl, h2⟩ := asB_some h
  cases h2
  exact ⟨b, d1, hk _ rfl _ F1 H1 g1 rfl⟩
def ifE (t : TF) (f g : EF) : EF := fun ρ => bnd (t ρ) fun b => if b = true then f ρ else g ρ
theorem ed_if (hc : TD X W c tf) (ha : ED X W a f) (hb : ED X W b g) : ED X W (.IfExp c a b pos) (ifE tf f g) := by
  refine PE.to (pe_ifExp hc ha hb) fun σ H Q h => ?_
  obtain ⟨F, ρ, r, rl, h, er, hk⟩ := h
  refine step rl h er fun b h v F1 H1 g1 rl1 er1 d1 => ?_
  subst d1
  split at h
  · rename_i hb
    rw [if_pos hb]
    exact ⟨F1, ρ, r, rl1, h, er1, fun a z b F' H' g' e => hk a z b F' H' (g1.trans g') e⟩
  · rename_i hb
    rw [if_neg hb]
    exact ⟨F1, ρ, r, rl1, h, er1, fun a z b F' H' g' e => hk a z b F' H' (g1.trans g') e⟩
def un1 (h1 : D → Option D) (f : EF) : EF := fun ρ => bnd (f ρ) fun d => opt (h1 d)
def dNeg : D → Option D
  | .int i => some (.int (-i))
  | _ => none
theorem ed_neg (ha : ED X W a f) : ED X W (.UnaryOp .USub a pos) (un1 dNeg f) := by
  refine PE.to (pe_un un_neg ha) fun σ H Q h => ?_
  obtain ⟨F, ρ, r, rl, h, er, hk⟩ := h
  refine step rl h er fun d h v F1 H1 g1 rl1 er1 d1 => ?_
  obtain ⟨d3, e3, rfl⟩ := opt_some h
  unfold dNeg at e3
  split at e3
  · cases e3
    exact ⟨_, d1, hk _ rfl _ F1 H1 g1 rfl⟩
  · cases e3
end
end PD
set_option Elab.async false
set_option linter.all false
set_option maxRecDepth 100000
set_option maxHeartbeats 1000000
set_option autoImplicit false
/-! Operators, subscripts, slices, built-ins and methods over plain data. -/
namespace PD
open PySem PySem.Spec L2

theorem sizeL : sizeLine = 16777216 := sizeLine_eq
/-! ### arithmetic -/
def dAdd : D → D → Option D
  | .int i, .int j => some (.int (i + j))
  | .str a, .str b => if a.length + b.length ≤ 16777216 then some (.str (a ++ b)) else none
  | .tup l, .tup m => if l.length + m.length ≤ 16777216 then some (.tup (l ++ m)) else none
  | .lst l, .lst m => if l.length + m.length ≤ 16777216 then some (.lst (l ++ m)) else none
  | _, _ => none
def dSub : D → D → Option D
  | .int i, .int j => some (.int (i - j))
  | _, _ => none
def mulOk (i j : Int) : Bool := decide ((-(2 ^ 64) < i ∧ i < 2 ^ 64) ∨ (-(2 ^ 64) < j ∧ j < 2 ^ 64) ∨ i.natAbs.log2 + j.natAbs.log2 < 1000000)
def repL {α : Type} (l : List α) (k : Int) : List α := (List.replicate k.toNat l).flatten
theorem rep_dat {K : Frag} {mg : MG} {F : Hp} {l : List D} {xs : List V} (h : DatL K mg F l xs) (n : Nat) : DatL K mg F (List.replicate n l).flatten (List.replicate n xs).flatten := by
  induction n with
  | zero => exact DatL.nil
  | succ n ih =>
    rw [List.replicate_succ, List.replicate_succ, List.flatten_cons, List.flatten_cons]
    exact h.app ih
def dMul : D → D → Option D
  | .int i, .int j => if mulOk i j = true then some (.int (i * j)) else none
  | .lst l, .int k => if -(2 ^ 63) ≤ k ∧ k < 2 ^ 63 ∧ l.length * k.toNat ≤ 16777216 then some (.lst (repL l k)) else none
  | .tup l, .int k => if l ≠ [] ∧ 2 ≤ k ∧ k ≤ 1000 ∧ l.length ≤ 1000 then some (.tup (repL l k)) else none
  | _, _ => none
def divOk (j : Int) : Bool := decide (0 < j ∧ j.natAbs.log2 < 9000)
def dDiv : D → D → Option D
  | .int i, .int j => if divOk j = true then some (.int (i / j)) else none
  | _, _ => none
def dMod : D → D → Option D
  | .int i, .int j => if 0 < j then some (.int (i % j)) else none
  | _, _ => none
def dPow : D → D → Option D
  | .int i, .int j => if 0 ≤ j ∧ j ≤ 1000000 ∧ i.natAbs < 2 ^ 64 then some (.int (i ^ j.toNat)) else none
  | _, _ => none
def dLt : D → D → Option D
  | .int i, .int j => some (.bl (decide (i < j)))
  | _, _ => none
def dLe : D → D → Option D
  | .int i, .int j => some (.bl (decide (i ≤ j)))
  | _, _ => none
def dGt : D → D → Option D
  | .int i, .int j => some (.bl (decide (j < i)))
  | _, _ => none
def dGe : D → D → Option D
  | .int i, .int j => some (.bl (decide (j ≤ i)))
  | _, _ => none
section
variable {X : Cx}
theorem dat_int {K : Frag} {mg : MG} {F : Hp} {i : Int} {v : V} (h : Dat K mg F (.int i) v) : v = .int i := h
theorem od_I {o : Value → Value → Sem Value} {g : Int → Int → V} {h2 : D → D → Option D} (ho : OpR X o (rI0 g)) (hd : ∀ d1 d2 d, h2 d1 d2 = some d → ∃ i j, d1 = .int i ∧ d2 = .int j ∧ ∀ F, Dat X.K X.mg F d (g i j)) : OpD X o h2 := by
  refine ⟨_, ho, fun d1 d2 d F H v1 v2 Q e s a b k => ?_⟩
  obtain ⟨i, j, rfl, rfl, hd⟩ := hd _ _ _ e
  exact ⟨i, j, a, b, k _ F H (Grow.refl s) (hd F)⟩
theorem od_IC {o : Value → Value → Sem Value} {C : Int → Int → Prop} {g : Int → Int → V} {h2 : D → D → Option D} (ho : OpR X o (rI C g)) (hd : ∀ d1 d2 d, h2 d1 d2 = some d → ∃ i j, d1 = .int i ∧ d2 = .int j ∧ C i j ∧ ∀ F, Dat X.K X.mg F d (g i j)) : OpD X o h2 := by
  refine ⟨_, ho, fun d1 d2 d F H v1 v2 Q e s a b k => ?_⟩
  obtain ⟨i, j, rfl, rfl, hc, hd⟩ := hd _ _ _ e
  exact ⟨i, j, a, b, hc, k _ F H (Grow.refl s) (hd F)⟩
theorem od_sub : OpD X (binaryOp .Sub) dSub := od_I op_sub fun d1 d2 d e => by
  unfold dSub at e
  split at e <;> cases e
  exact ⟨_, _, rfl, rfl, fun _ => rfl⟩
theorem od_lt : OpD X (compareOp .Lt) dLt := od_I op_lt fun d1 d2 d e => by
  unfold dLt at e
  split at e <;> cases e
  exact ⟨_, _, rfl, rfl, fun _ => rfl⟩
theorem od_le : OpD X (compareOp .LtE) dLe := od_I op_le fun d1 d2 d e => by
  unfold dLe at e
  split at e <;> cases e
  exact ⟨_, _, rfl, rfl, fun _ => rfl⟩
theorem od_gt : OpD X (compareOp .Gt) dGt := od_I op_gt fun d1 d2 d e => by
  unfold dGt at e
  split at e <;> cases e
  exact ⟨_, _, rfl, rfl, fun _ => rfl⟩
theorem od_ge : OpD X (compareOp .GtE) dGe := od_I op_ge fun d1 d2 d e => by
  unfold dGe at e
  split at e <;> cases e
  exact ⟨_, _, rfl, rfl, fun _ => rfl⟩
theorem od_mod : OpD X (binaryOp .Mod) dMod := od_IC op_mod fun d1 d2 d e => by
  unfold dMod at e
  split at e
  · split at e
    · cases e
      exact ⟨_, _, rfl, rfl, by assumption, fun _ => rfl⟩
    · cases e
  · cases e
theorem od_pow : OpD X (binaryOp .Pow) dPow := od_IC op_pow fun d1 d2 d e => by
  unfold dPow at e
  split at e
  · split at e
    · cases e
      exact ⟨_, _, rfl, rfl, by assumption, fun _ => rfl⟩
    · cases e
  · cases e
theorem od_div : OpD X (binaryOp .FloorDiv) dDiv := od_IC op_fdivW fun d1 d2 d e => by
  unfold dDiv at e
  split at e
  · split at e
    · rename_i h
      cases e
      exact ⟨_, _, rfl, rfl, (of_decide_eq_true (p := 0 < _ ∧ _) h : CDivW _ _), fun _ => rfl⟩
    · cases e
  · cases e
theorem od_mul : OpD X (binaryOp .Mult) dMul := by
  refine ⟨_, (op_mul.or op_mulW).or (op_rep.or op_repT), fun d1 d2 d F H v1 v2 Q e s a b k => ?_⟩
  unfold dMul at e
  split at e
  · split at e
    · rename_i i j h
      cases e
      have h := of_decide_eq_true h
      have a : v1 = .int i := a
      have b : v2 = .int j := b
      rcases h with h | h | h
      · exact .inl (.inl ⟨i, j, a, b, .inl h, k _ F H (Grow.refl s) rfl⟩)
      · exact .inl (.inl ⟨i, j, a, b, .inr h, k _ F H (Grow.refl s) rfl⟩)
      · exact .inl (.inr ⟨i, j, a, b, h, k _ F H (Grow.refl s) rfl⟩)
    · cases e
  · split at e
    · rename_i l n h
      cases e
      obtain ⟨q, xs, rfl, h1, h2⟩ := a
      exact .inr (.inl ⟨q, n, xs, rfl, b, s _ _ h1, h.1, h.2.1, by rw [sizeL, h2.len]; exact h.2.2, fun t ht => k _ _ _ (Grow.lay s ht) ⟨t, _, rfl, upd_same, (rep_dat h2 _).mono (same_upd (s.free ht))⟩⟩)
    · cases e
  · split at e
    · rename_i l n h
      cases e
      obtain ⟨q, xs, rfl, h1, h2⟩ := a
      have hx : xs ≠ [] := fun z => by
        subst z
        have e := h2.len
        exact h.1 (List.eq_nil_of_length_eq_zero (by simpa using e.symm))
      exact .inr (.inr ⟨q, n, xs, rfl, b, same_sqT s h1, hx, h.2.1, h.2.2.1, by rw [h2.len]; exact h.2.2.2, fun t ht => k _ _ _ (Grow.lay s ht) ⟨t, _, rfl, SqT.of upd_same, (rep_dat h2 _).mono (same_upd (s.free ht))⟩⟩)
    · cases e
  · cases e
theorem od_add : OpD X (binaryOp .Add) dAdd := by
  refine ⟨_, op_add.or (op_add_str.or (op_catA.or op_cat)), fun d1 d2 d F H v1 v2 Q e s a b k => ?_⟩
  unfold dAdd at e
  split at e
  · rename_i i j
    cases e
    exact .inl ⟨i, j, a, b, k _ F H (Grow.refl s) rfl⟩
  · rename_i x y
    split at e
    · rename_i h
      cases e
      exact .inr (.inl ⟨x, y, a, b, by rw [sizeL]; exact h, k _ F H (Grow.refl s) rfl⟩)
    · cases e
  · rename_i l m
    split at e
    · rename_i h
      cases e
      obtain ⟨p, xs, rfl, h1, h2⟩ := a
      obtain ⟨q, ys, rfl, h3, h4⟩ := b
      refine .inr (.inr (.inl ⟨p, q, xs, ys, rfl, rfl, same_sqT s h1, same_sqT s h3, by rw [sizeL, h2.len, h4.len]; exact h, fun z => ?_, fun _ z => ?_, fun _ _ t ht => ?_⟩))
      · subst z
        refine k _ F H (Grow.refl s) ⟨q, _, rfl, h3, ?_⟩
        exact h2.app h4
      · subst z
        refine k _ F H (Grow.refl s) ⟨p, xs, rfl, h1, ?_⟩
        have := h2.app h4
        rw [List.append_nil] at this
        exact this
      · refine k _ _ _ (Grow.lay s ht) ⟨t, xs ++ ys, rfl, SqT.of upd_same, (h2.app h4).mono (same_upd (s.free ht))⟩
    · cases e
  · rename_i l m
    split at e
    · rename_i h
      cases e
      obtain ⟨p, xs, rfl, h1, h2⟩ := a
      obtain ⟨q, ys, rfl, h3, h4⟩ := b
      refine .inr (.inr (.inr ⟨p, q, xs, ys, rfl, rfl, s _ _ h1, s _ _ h3, by rw [sizeL, h2.len, h4.len]; exact h, fun t ht => ?_⟩))
      exact k _ _ _ (Grow.lay s ht) ⟨t, xs ++ ys, rfl, upd_same, (h2.app h4).mono (same_upd (s.free ht))⟩
    · cases e
  · cases e
end

/-! ### equality -/
mutual
def toPy : D → Option PyData
  | .non => some .none
  | .bl b => some (.bool b)
  | .int i => some (.int i)
  | .str s => some (.str s)
  | .tup l => (toPyL l).map .tuple
  | .lst l => (toPyL l).map .list
  | .ins _ _ _ => none
  | .fls _ => none
def toPyL : List D → Option (List PyData)
  | [] => some []
  | d :: ds => (toPy d).bind fun p => (toPyL ds).map (p :: ·)
end
section
variable {K : Frag} {mg : MG} {H : Hp}
mutual
theorem dp_of : ∀ {d : D} {v : V} {p : PyData}, Dat K mg H d v → toPy d = some p → Dp K H v p
  | .non, v, p, h, e => by
    cases e
    have h' : v = .non := h
    subst h'
    exact .non
  | .bl b, v, p, h, e => by
    cases e
    have h' : v = .bl b := h
    subst h'
    exact .bl b
  | .int i, v, p, h, e => by
    cases e
    have h' : v = .int i := h
    subst h'
    exact .int i
  | .str s, v, p, h, e => by
    cases e
    have h' : v = .str s := h
    subst h'
    exact .str s
  | .tup l, v, p, h, e => by
    obtain ⟨a, xs, rfl, h1, h2⟩ := h
    cases el : toPyL l with
    | none =>
      rw [toPy, el] at e
      cases e
    | some ps =>
      rw [toPy, el] at e
      cases e
      exact .tup h1 (dpL_of h2 el)
  | .lst l, v, p, h, e => by
    obtain ⟨a, xs, rfl, h1, h2⟩ := h
    cases el : toPyL l with
    | none =>
      rw [toPy, el] at e
      cases e
    | some ps =>
      rw [toPy, el] at e
      cases e
      exact .lst (SqL.of h1) (dpL_of h2 el)
  | .ins _ _ _, v, p, h, e => by cases e
  | .fls _, v, p, h, e => by cases e
theorem dpL_of : ∀ {ds : List D} {vs : List V} {ps : List PyData}, DatL K mg H ds vs → toPyL ds = some ps → DpAll K H vs ps
  | [], vs, ps, h, e => by
    cases e
    have h' : vs = [] := h
    subst h'
    exact .nil
  | d :: ds, vs, ps, h, e => by
    obtain ⟨x, r, rfl, h1, h2⟩ := h
    cases ed : toPy d with
    | none =>
      rw [toPyL, ed] at e
      cases e
    | some p =>
      cases el : toPyL ds with
      | none =>
        rw [toPyL, ed, el] at e
        cases e
      | some qs =>
        rw [toPyL, ed, el] at e
        cases e
        exact .cons (dp_of h1 ed) (dpL_of h2 el)
end
end
/-- == of data of any depth -/
def deepEq (d e : D) : Option Bool := match toPy d, toPy e with
  | some p, some q => if SeqAt.shaped p = true ∧ SeqAt.shaped q = true then some (PyData.eqv p q) else none
  | _, _ => none
def eqD : D → D → Option Bool
  | .int i, .int j => some (decide (i = j))
  | .str a, .str b => some (decide (a = b))
  | .bl a, .bl b => some (decide (a = b))
  | .non, .non => some true
  | .int _, .non => some false
  | .non, .int _ => some false
  | .str _, .non => some false
  | .non, .str _ => some false
  | .int _, .str _ => some false
  | .str _, .int _ => some false
  | .tup l, .tup m => deepEq (.tup l) (.tup m)
  | .tup l, .non => deepEq (.tup l) .non
  | .non, .tup l => deepEq .non (.tup l)
  | .lst l, .lst m => deepEq (.lst l) (.lst m)
  | _, _ => none
def dEq (d e : D) : Option D := (eqD d e).map .bl
def dNe (d e : D) : Option D := (eqD d e).map fun b => .bl (!b)
section
variable {X : Cx}
theorem deep_run {d e : D} {b : Bool} (h : deepEq d e = some b) : ∃ p q, toPy d = some p ∧ toPy e = some q ∧ SeqAt.shaped p = true ∧ SeqAt.shaped q = true ∧ b = PyData.eqv p q := by
  unfold deepEq at h
  split at h
  · rename_i p q e1 e2
    split at h
    · rename_i hs
      cases h
      exact ⟨p, q, e1, e2, hs.1, hs.2, rfl⟩
    · cases h
  · cases h
theorem eq_core {d e : D} {b : Bool} (h : eqD d e = some b) : (∀ {K : Frag} {mg : MG} {F : Hp} {v w : V}, Dat K mg F d v → Dat K mg F e w → scal v w = true ∧ decide (v = w) = b) ∨ deepEq d e = some b := by
  unfold eqD at h
  split at h
  all_goals first
    | (cases h; left; intro K mg F v w h1 h2; first | (cases (show v = _ from h1); cases (show w = _ from h2); refine ⟨rfl, ?_⟩; simp))
    | (right; exact h)
    | cases h
theorem od_eq (hu : X.A.units + 64 < cLine) : OpD X (compareOp .Eq) dEq := by
  refine ⟨_, op_eq.or (op_eqD hu), fun d1 d2 d F H v1 v2 Q e s a b k => ?_⟩
  unfold dEq at e
  cases eb : eqD d1 d2 with
  | none => rw [eb] at e; cases e
  | some z =>
    rw [eb] at e
    cases e
    rcases eq_core eb with h | h
    · obtain ⟨h1, h2⟩ := h a b
      exact .inl ⟨h1, k _ F H (Grow.refl s) (by rw [h2]; rfl)⟩
    · obtain ⟨p, q, e1, e2, s1, s2, rfl⟩ := deep_run h
      exact .inr ⟨p, q, dp_of (a.mono s) e1, dp_of (b.mono s) e2, s1, s2, k _ F H (Grow.refl s) rfl⟩
theorem od_ne (hu : X.A.units + 64 < cLine) : OpD X (compareOp .NotEq) dNe := by
  refine ⟨_, op_ne.or (op_neD hu), fun d1 d2 d F H v1 v2 Q e s a b k => ?_⟩
  unfold dNe at e
  cases eb : eqD d1 d2 with
  | none => rw [eb] at e; cases e
  | some z =>
    rw [eb] at e
    cases e
    rcases eq_core eb with h | h
    · obtain ⟨h1, h2⟩ := h a b
      exact .inl ⟨h1, k _ F H (Grow.refl s) (by rw [h2]; rfl)⟩
    · obtain ⟨p, q, e1, e2, s1, s2, rfl⟩ := deep_run h
      exact .inr ⟨p, q, dp_of (a.mono s) e1, dp_of (b.mono s) e2, s1, s2, k _ F H (Grow.refl s) rfl⟩
def isNone : D → Bool
  | .non => true
  | _ => false
def dIs : D → D → Option D
  | d, .non => some (.bl (isNone d))
  | _, _ => none
theorem od_is : OpD X (compareOp .Is) dIs := by
  refine ⟨_, op_isN, fun d1 d2 d F H v1 v2 Q e s a b k => ?_⟩
  unfold dIs at e
  split at e
  · cases e
    refine ⟨b, k _ F H (Grow.refl s) ?_⟩
    show V.bl _ = V.bl _
    cases d1 with
    | non => cases (show v1 = _ from a); rfl
    | bl x => cases (show v1 = _ from a); rfl
    | int x => cases (show v1 = _ from a); rfl
    | str x => cases (show v1 = _ from a); rfl
    | tup l => obtain ⟨_, _, rfl, _⟩ := a; rfl
    | lst l => obtain ⟨_, _, rfl, _⟩ := a; rfl
    | ins _ _ l => obtain ⟨_, _, _, _, _, rfl, _⟩ := a; rfl
    | fls l => obtain ⟨_, _, rfl, _⟩ := a; rfl
  · cases e
/-! ### in -/
def flatD : D → Bool
  | .non => true | .bl _ => true | .int _ => true | .str _ => true | _ => false
def eqF : D → D → Bool
  | .non, .non => true
  | .bl a, .bl b => a == b
  | .bl a, .int b => (if a then 1 else 0) == b
  | .int a, .bl b => a == (if b then 1 else 0)
  | .int a, .int b => a == b
  | .str a, .str b => a == b
  | _, _ => false
theorem flat_dat {K : Frag} {mg : MG} {F : Hp} {d : D} {v : V} (h : Dat K mg F d v) (f : flatD d = true) : flatV v = true := by
  cases d with
  | non => cases (show v = _ from h); rfl
  | bl x => cases (show v = _ from h); rfl
  | int x => cases (show v = _ from h); rfl
  | str x => cases (show v = _ from h); rfl
  | _ => cases f
theorem eqF_dat {K : Frag} {mg : MG} {F : Hp} {d e : D} {v w : V} (h : Dat K mg F d v) (g : Dat K mg F e w) (f : flatD d = true) (f2 : flatD e = true) : eqV v w = eqF d e := by
  cases d with
  | non => cases (show v = _ from h); cases e <;> first | (cases (show w = _ from g); rfl) | cases f2
  | bl x => cases (show v = _ from h); cases e <;> first | (cases (show w = _ from g); rfl) | cases f2
  | int x => cases (show v = _ from h); cases e <;> first | (cases (show w = _ from g); rfl) | cases f2
  | str x => cases (show v = _ from h); cases e <;> first | (cases (show w = _ from g); rfl) | cases f2
  | _ => cases f
theorem flats_dat {K : Frag} {mg : MG} {F : Hp} : ∀ {ds : List D} {vs : List V}, DatL K mg F ds vs → ds.all flatD = true → vs.all flatV = true
  | [], vs, h, f => by
    have h' : vs = [] := h
    subst h'
    rfl
  | d :: ds, vs, h, f => by
    obtain ⟨x, r, rfl, h1, h2⟩ := h
    rw [List.all_cons, Bool.and_eq_true] at f ⊢
    exact ⟨flat_dat h1 f.1, flats_dat h2 f.2⟩
theorem inF_dat {K : Frag} {mg : MG} {F : Hp} {d : D} {v : V} (h : Dat K mg F d v) (fd : flatD d = true) : ∀ {ds : List D} {vs : List V}, DatL K mg F ds vs → ds.all flatD = true → inV v vs = ds.any fun y => eqF y d
  | [], vs, h, f => by
    have h' : vs = [] := h
    subst h'
    rfl
  | e :: ds, vs, h', f => by
    obtain ⟨x, r, rfl, h1, h2⟩ := h'
    rw [List.all_cons, Bool.and_eq_true] at f
    show (eqV x v || inV v r) = (eqF e d || ds.any fun y => eqF y d)
    rw [eqF_dat h1 h f.1 fd, inF_dat h fd h2 f.2]
/-- x in a tuple or list -/
def inL (d : D) (l : List D) : Option Bool := if flatD d = true ∧ l.all flatD = true then some (l.any fun y => eqF y d) else none
def inLD (d : D) (l : List D) : Option Bool := match toPy d, toPyL l with
  | some p, some ps => if SeqAt.shaped p = true ∧ SeqAt.shaped (.list ps) = true then some (ps.any fun z => PyData.eqv z p) else none
  | _, _ => none
def inD : D → D → Option Bool
  | .str a, .str b => match a.cps.toList with
    | [c] => some (decide (c ∈ b.cps.toList))
    | _ => none
  | d, .tup l => inL d l
  | d, .lst l => match inL d l with
    | some b => some b
    | none => inLD d l
  | _, _ => none
def dIn (d e : D) : Option D := (inD d e).map .bl
def dNotIn (d e : D) : Option D := (inD d e).map fun b => .bl (!b)
theorem inL_run {d : D} {l : List D} {b : Bool} (h : inL d l = some b) : flatD d = true ∧ l.all flatD = true ∧ b = l.any fun y => eqF y d := by
  unfold inL at h
  split at h
  · rename_i c
    cases h
    exact ⟨c.1, c.2, rfl⟩
  · cases h
theorem str1 {a : Str} {c : Nat} (h : a.cps.toList = [c]) : a = ⟨#[c]⟩ := TL.ext_tl (by show a.cps.toList = _; rw [h])
theorem in_core {d e : D} {b : Bool} (h : inD d e = some b) :
    (∃ c z, d = .str ⟨#[c]⟩ ∧ e = .str z ∧ b = decide (c ∈ z.cps.toList)) ∨ (∃ l, (e = .tup l ∨ e = .lst l) ∧ flatD d = true ∧ l.all flatD = true ∧ b = l.any fun y => eqF y d) ∨
      ∃ l p ps, e = .lst l ∧ toPy d = some p ∧ toPyL l = some ps ∧ SeqAt.shaped p = true ∧ SeqAt.shaped (.list ps) = true ∧ b = ps.any fun z => PyData.eqv z p := by
  unfold inD at h
  split at h
  · split at h
    · rename_i c e1
      cases h
      exact .inl ⟨c, _, by rw [str1 e1], rfl, rfl⟩
    · cases h
  · obtain ⟨h1, h2, h3⟩ := inL_run h
    exact .inr (.inl ⟨_, .inl rfl, h1, h2, h3⟩)
  · split at h
    · rename_i e1
      cases h
      obtain ⟨h1, h2, h3⟩ := inL_run e1
      exact .inr (.inl ⟨_, .inr rfl, h1, h2, h3⟩)
    · unfold inLD at h
      split at h
      · rename_i e1 e2
        split at h
        · rename_i hs
          cases h
          exact .inr (.inr ⟨_, _, _, rfl, e1, e2, hs.1, hs.2, rfl⟩)
        · cases h
      · cases h
  · cases h
theorem od_in (hu : X.A.units + 65 < cLine) : OpD X (compareOp .In) dIn := by
  refine ⟨_, op_in_sign.or (op_in_seq.or (op_inD hu)), fun d1 d2 d F H v1 v2 Q e s a b k => ?_⟩
  unfold dIn at e
  cases eb : inD d1 d2 with
  | none => rw [eb] at e; cases e
  | some z =>
    rw [eb] at e
    cases e
    rcases in_core eb with ⟨c, t, rfl, rfl, rfl⟩ | ⟨l, el, f1, f2, rfl⟩ | ⟨l, p, ps, rfl, e1, e2, s1, s2, rfl⟩
    · exact .inl ⟨c, t, a, b, k _ F H (Grow.refl s) rfl⟩
    · rcases el with rfl | rfl
      · obtain ⟨q, xs, rfl, h1, h2⟩ := b
        refine .inr (.inl ⟨q, xs, rfl, .inr (same_sqT s h1), flat_dat a f1, flats_dat h2 f2, k _ F H (Grow.refl s) ?_⟩)
        rw [inF_dat a f1 h2 f2]
        rfl
      · obtain ⟨q, xs, rfl, h1, h2⟩ := b
        refine .inr (.inl ⟨q, xs, rfl, .inl (SqL.of (s _ _ h1)), flat_dat a f1, flats_dat h2 f2, k _ F H (Grow.refl s) ?_⟩)
        rw [inF_dat a f1 h2 f2]
        rfl
    · obtain ⟨q, xs, rfl, h1, h2⟩ := b
      exact .inr (.inr ⟨p, ps, dp_of (a.mono s) e1, .lst (SqL.of (s _ _ h1)) (dpL_of (h2.mono s) e2), s1, s2, k _ F H (Grow.refl s) rfl⟩)
theorem od_notIn (hu : X.A.units + 65 < cLine) : OpD X (compareOp .NotIn) dNotIn := by
  refine ⟨_, op_notIn_sign.or (op_notIn_seq.or (op_notInD hu)), fun d1 d2 d F H v1 v2 Q e s a b k => ?_⟩
  unfold dNotIn at e
  cases eb : inD d1 d2 with
  | none => rw [eb] at e; cases e
  | some z =>
    rw [eb] at e
    cases e
    rcases in_core eb with ⟨c, t, rfl, rfl, rfl⟩ | ⟨l, el, f1, f2, rfl⟩ | ⟨l, p, ps, rfl, e1, e2, s1, s2, rfl⟩
    · exact .inl ⟨c, t, a, b, k _ F H (Grow.refl s) rfl⟩
    · rcases el with rfl | rfl
      · obtain ⟨q, xs, rfl, h1, h2⟩ := b
        refine .inr (.inl ⟨q, xs, rfl, .inr (same_sqT s h1), flat_dat a f1, flats_dat h2 f2, k _ F H (Grow.refl s) ?_⟩)
        rw [inF_dat a f1 h2 f2]
        rfl
      · obtain ⟨q, xs, rfl, h1, h2⟩ := b
        refine .inr (.inl ⟨q, xs, rfl, .inl (SqL.of (s _ _ h1)), flat_dat a f1, flats_dat h2 f2, k _ F H (Grow.refl s) ?_⟩)
        rw [inF_dat a f1 h2 f2]
        rfl
    · obtain ⟨q, xs, rfl, h1, h2⟩ := b
      exact .inr (.inr ⟨p, ps, dp_of (a.mono s) e1, .lst (SqL.of (s _ _ h1)) (dpL_of (h2.mono s) e2), s1, s2, k _ F H (Grow.refl s) rfl⟩)
end
end PD
set_option Elab.async false
set_option linter.all false
set_option maxRecDepth 100000
set_option maxHeartbeats 1000000
set_option autoImplicit false
/-! Subscripts, slices, calls of built-ins and of text methods. -/
namespace PD
open PySem PySem.Spec L2

/-! ### items -/
def dIx : D → D → Option D
  | .tup l, .int i => atI l i
  | .lst l, .int i => atI l i
  | .fls l, .int i => atI l i
  | .str s, .int i => if s.length ≤ 16777216 then (atI s.cps.toList i).map fun c => .str ⟨#[c]⟩ else none
  | _, _ => none
theorem atI_dat {K : Frag} {mg : MG} {F : Hp} {ds : List D} {xs : List V} {i : Int} {d : D} (h : DatL K mg F ds xs) (e : atI ds i = some d) : ∃ x, atI xs i = some x ∧ Dat K mg F d x := by
  unfold atI at e ⊢
  rw [h.len]
  cases en : ixN ds.length i with
  | none => rw [en] at e; cases e
  | some j =>
    rw [en] at e
    exact h.get e
section
variable {X : Cx} {W : WX} {e a b c : Expr} {es rest : List Expr} {pos p p2 : Pos} {f g k : EF} {af ag : AF} {tf tg : TF} {x : Str}
theorem ed_ix (ha : ED X W a f) (hb : ED X W b g) (hs : PlainIx b := by exact fun _ _ => rfl) : ED X W (.Subscript a b pos) (op2 dIx f g) := by
  refine PE.to (pe_ix ix_seq ha hb hs) (op2_run (o := binaryOp .Add) fun d1 d2 d F H v1 v2 Q e s h1 h2 k => ?_)
  unfold dIx at e
  split at e
  · obtain ⟨q, xs, rfl, h3, h4⟩ := h1
    obtain ⟨x, e1, h5⟩ := atI_dat h4 e
    exact .inr (.inl ⟨q, xs, _, x, rfl, h2, same_sqT s h3, e1, k _ F H (Grow.refl s) h5⟩)
  · obtain ⟨q, xs, rfl, h3, h4⟩ := h1
    obtain ⟨x, e1, h5⟩ := atI_dat h4 e
    exact .inl ⟨q, xs, _, x, rfl, h2, SqL.of (s _ _ h3), e1, k _ F H (Grow.refl s) h5⟩
  · obtain ⟨q, xs, rfl, h3, h4⟩ := h1
    obtain ⟨x, e1, h5⟩ := atI_dat h4 e
    exact .inl ⟨q, xs, _, x, rfl, h2, same_sqL s h3, e1, k _ F H (Grow.refl s) h5⟩
  · split at e
    · rename_i hl
      rename_i z i
      cases ec : atI z.cps.toList i with
      | none => rw [ec] at e; cases e
      | some c =>
        rw [ec] at e
        cases e
        exact .inr (.inr ⟨z, i, c, h1, h2, by rw [sizeL]; exact hl, ec, k _ F H (Grow.refl s) rfl⟩)
    · cases e
  · cases e
def ixL (af : AF) (g : EF) : EF := fun ρ => bnd (af ρ) fun l => bnd (g ρ) fun d => opt (dIx (.lst l) d)
theorem ed_ixL (ha : LD X W a af) (hb : ED X W b g) (hs : PlainIx b := by exact fun _ _ => rfl) : ED X W (.Subscript a b pos) (ixL af g) := by
  refine PE.to (pe_ix ix_list ha hb hs) fun σ H Q h => ?_
  obtain ⟨F, ρ, r, rl, h, er, hk⟩ := h
  refine stepL rl h er fun l h q xs F1 H1 g1 rl1 er1 hq d1 => ?_
  refine step rl1 h er1 fun d2 h v2 F2 H2 g2 rl2 er2 d2 => ?_
  obtain ⟨d3, e3, rfl⟩ := opt_some h
  unfold dIx at e3
  split at e3
  · rename_i z; cases z
  · rename_i z
    cases z
    obtain ⟨x, e1, h5⟩ := atI_dat (d1.mono g2.fs) e3
    exact ⟨q, xs, _, x, rfl, d2, SqL.of (g2.hs _ _ hq), e1, hk _ rfl x F2 H2 (g1.trans g2) h5⟩
  · rename_i z; cases z
  · rename_i z; cases z
  · cases e3

/-! ### slices -/
abbrev OD (X : Cx) (W : WX) (e : Option Expr) (f : List Sl → R (Option Int)) : Prop := PO X e (tX (fun _ o o' => o' = o) X.K X.mg W f)
theorem PO.to {e : Option Expr} {t t' : TO} (h : PO X e t) (m : ∀ σ H Q, t' σ H Q → t σ H Q) : PO X e t' := ⟨fun pins s σ H Q I q => h.run pins s σ H Q I (m _ _ _ q)⟩
def asI : D → R Int
  | .int i => ok i
  | _ => none
theorem od_none : OD X W none (fun _ => ok none) := by
  refine PO.to po_none fun σ H Q h => ?_
  obtain ⟨F, ρ, r, rl, h, _, hk⟩ := h
  cases h
  exact hk none rfl none F H (Grow.refl rl.sub) rfl
theorem od_some (h : ED X W e f) : OD X W (some e) (fun ρ => bnd (f ρ) fun d => bnd (asI d) fun i => ok (some i)) := by
  refine PO.to (po_some h) fun σ H Q h => ?_
  obtain ⟨F, ρ, r, rl, h, er, hk⟩ := h
  refine step rl h er fun d h v F1 H1 g1 rl1 er1 d1 => ?_
  cases d with
  | int i =>
    cases h
    exact ⟨i, d1, hk _ rfl _ F1 H1 g1 rfl⟩
  | _ => cases h
def cutL {α : Type} (xs : List α) (lo hi : Option Int) : List α := (xs.drop (HT.sIx xs.length 0 lo)).take (HT.sIx xs.length xs.length hi - HT.sIx xs.length 0 lo)
theorem cut_dat {K : Frag} {mg : MG} {F : Hp} {ds : List D} {xs : List V} {lo hi : Option Int} (h : DatL K mg F ds xs) : DatL K mg F (cutL ds lo hi) (cutV xs lo hi) := by
  unfold cutL cutV
  rw [h.len]
  exact (h.drop _).take _
def dSl : D → Option Int → Option Int → Option D
  | .str z, lo, hi => if z.length ≤ 16777216 then some (.str (cutS z lo hi)) else none
  | .tup l, lo, hi => some (.tup (cutL l lo hi))
  | .lst l, lo, hi => some (.lst (cutL l lo hi))
  | .fls l, lo, hi => some (.lst (cutL l lo hi))
  | _, _, _ => none
theorem cut_whole {α : Type} {l : List α} {lo hi : Option Int} (h : HT.sIx l.length 0 lo = 0 ∧ HT.sIx l.length l.length hi = l.length) : cutL l lo hi = l := by
  unfold cutL
  rw [h.1, h.2]
  simp
def slE (f : EF) (fl fh : List Sl → R (Option Int)) : EF := fun ρ => bnd (f ρ) fun d => bnd (fl ρ) fun lo => bnd (fh ρ) fun hi => opt (dSl d lo hi)
variable {lo hi : Option Expr} {fl fh : List Sl → R (Option Int)}
theorem ed_sl (he : ED X W e f) (hl : OD X W lo fl) (hh : OD X W hi fh) : ED X W (.Subscript e (.Slice lo hi none p2) pos) (slE f fl fh) := by
  refine PE.to (pe_slice (sl_str.or (sl_tupA.or sl_list)) he hl hh) fun σ H Q h => ?_
  obtain ⟨F, ρ, r, rl, h, er, hk⟩ := h
  refine step rl h er fun d h v F1 H1 g1 rl1 er1 d1 => ?_
  refine step rl1 h er1 fun lo h lo' F2 H2 g2 rl2 er2 d2 => ?_
  refine step rl2 h er2 fun hi h hi' F3 H3 g3 rl3 er3 d3 => ?_
  subst d2 d3
  obtain ⟨d4, e4, rfl⟩ := opt_some h
  have d1 := d1.mono (g2.fs.trans g3.fs)
  have g := g1.trans (g2.trans g3)
  have s := g3.sub
  unfold dSl at e4
  split at e4
  · split at e4
    · rename_i hl
      cases e4
      exact .inl ⟨_, d1, by rw [sizeL]; exact hl, hk _ rfl _ F3 H3 g rfl⟩
    · cases e4
  · cases e4
    obtain ⟨q, xs, rfl, h3, h4⟩ := d1
    refine .inr (.inl ⟨q, xs, rfl, same_sqT s h3, fun z => ?_, fun z t ht => ?_⟩)
    · refine hk _ rfl _ F3 H3 g ?_
      rw [h4.len] at z
      rw [cut_whole z]
      exact ⟨q, xs, rfl, h3, h4⟩
    · refine hk _ rfl _ _ _ (g.trans (Grow.lay s ht)) ?_
      exact ⟨t, _, rfl, SqT.of upd_same, (cut_dat h4).mono (same_upd (s.free ht))⟩
  · cases e4
    obtain ⟨q, xs, rfl, h3, h4⟩ := d1
    refine .inr (.inr ⟨q, xs, rfl, SqL.of (s _ _ h3), fun t ht => ?_⟩)
    refine hk _ rfl _ _ _ (g.trans (Grow.lay s ht)) ?_
    exact ⟨t, _, rfl, upd_same, (cut_dat h4).mono (same_upd (s.free ht))⟩
  · cases e4
    obtain ⟨q, xs, rfl, h3, h4⟩ := d1
    refine .inr (.inr ⟨q, xs, rfl, same_sqL s h3, fun t ht => ?_⟩)
    refine hk _ rfl _ _ _ (g.trans (Grow.lay s ht)) ?_
    exact ⟨t, _, rfl, upd_same, (cut_dat h4).mono (same_upd (s.free ht))⟩
  · cases e4
def slL (af : AF) (fl fh : List Sl → R (Option Int)) : AF := fun ρ => bnd (af ρ) fun l => bnd (fl ρ) fun lo => bnd (fh ρ) fun hi => ok (cutL l lo hi)
theorem nd_sl (he : LD X W e af) (hl : OD X W lo fl) (hh : OD X W hi fh) : ND X W (.Subscript e (.Slice lo hi none p2) pos) (slL af fl fh) := by
  refine PE.to (pe_slice sl_list he hl hh) fun σ H Q h => ?_
  obtain ⟨F, ρ, r, rl, h, er, hk⟩ := h
  refine stepL rl h er fun l h q xs F1 H1 g1 rl1 er1 hq d1 => ?_
  refine step rl1 h er1 fun lo h lo' F2 H2 g2 rl2 er2 d2 => ?_
  refine step rl2 h er2 fun hi h hi' F3 H3 g3 rl3 er3 d3 => ?_
  subst d2 d3
  cases h
  have s := g3.sub
  have g := g1.trans (g2.trans g3)
  refine ⟨q, xs, rfl, SqL.of (g3.hs _ _ (g2.hs _ _ hq)), fun t ht => ?_⟩
  exact hk _ rfl t _ F3 _ (g.trans (Grow.own s ht)) (g.hs.free ht) (s.free ht) upd_same (cut_dat (d1.mono (g2.fs.trans g3.fs)))

/-! ### calls of built-ins -/
def CalD (X : Cx) (fn : Value) (h : List D → Option D) : Prop := ∃ r, CallR X fn r ∧ ∀ ds d F H vs Q, h ds = some d → Same F H → DatL X.K X.mg F ds vs → (∀ v F' H', Grow F H F' H' → Dat X.K X.mg F' d v → Q v H') → r vs H Q
def calE (h : List D → Option D) (af : AF) : EF := fun ρ => bnd (af ρ) fun ds => opt (h ds)
theorem cal_run {h : List D → Option D} {r2 : List V → Hp → VK → Prop} (hr : ∀ ds d F H vs Q, h ds = some d → Same F H → DatL X.K X.mg F ds vs → (∀ v F' H', Grow F H F' H' → Dat X.K X.mg F' d v → Q v H') → r2 vs H Q)
    (σ : L2.St) (H : Hp) (Q : VK) (q : tE X.K X.mg W (calE h af) σ H Q) : tCB r2 (tA X.K X.mg W af) σ H Q := by
  obtain ⟨F, ρ, r, rl, q, er, hk⟩ := q
  refine step rl q er fun ds q vs F1 H1 g1 rl1 er1 d1 => ?_
  obtain ⟨d3, e3, rfl⟩ := opt_some q
  exact hr _ _ F1 H1 _ _ e3 g1.sub d1 fun v F' H' g d => hk _ rfl v F' H' (g1.trans g) d
variable {id T : String} {h : List D → Option D}
theorem ed_callB (hc : CalD X (.builtin id) h) (hg : Gl X x) (hm : X.mg x = none) (hv : bootBuiltins x = some (.builtin id)) (ha : AD X W (e :: es) af) (hn : x ≠ "__name__" := by decide) (hdb : (x == ("__debug__" : Str)) = false := by decide)
    (he : starEach (e :: es) X.env = (false, eval e X.env) :: starEach es X.env := by rfl) (hpl : (backTo pos (starEach es X.env)).any (·.1) = false := by rfl) : ED X W (.Call (.Name x p) (e :: es) [] pos) (calE h af) := by
  obtain ⟨r, h1, h2⟩ := hc
  exact PE.to (pe_callB h1 hg hm hv ha hn hdb he hpl) (cal_run h2)
theorem ed_callTy (hc : CalD X (.type T) h) (hg : Gl X x) (hm : X.mg x = none) (hv : bootBuiltins x = some (.type T)) (ha : AD X W (e :: es) af) (hn : x ≠ "__name__" := by decide) (hdb : (x == ("__debug__" : Str)) = false := by decide)
    (he : starEach (e :: es) X.env = (false, eval e X.env) :: starEach es X.env := by rfl) (hpl : (backTo pos (starEach es X.env)).any (·.1) = false := by rfl) : ED X W (.Call (.Name x p) (e :: es) [] pos) (calE h af) := by
  obtain ⟨r, h1, h2⟩ := hc
  exact PE.to (pe_callTy h1 hg hm hv ha hn hdb he hpl) (cal_run h2)
theorem ed_callFn (hc : CalD X (.builtin id) h) (hg : Gl X x) (hm : X.mg x = some (.builtin id)) (ha : AD X W (e :: es) af) (hdb : (x == ("__debug__" : Str)) = false := by decide)
    (he : starEach (e :: es) X.env = (false, eval e X.env) :: starEach es X.env := by rfl) (hpl : (backTo pos (starEach es X.env)).any (·.1) = false := by rfl) : ED X W (.Call (.Name x p) (e :: es) [] pos) (calE h af) := by
  obtain ⟨r, h1, h2⟩ := hc
  exact PE.to (pe_callBfun h1 hg hm ha hdb he hpl) (cal_run h2)
/-- .. of a list that is read -/
def CalL (X : Cx) (fn : Value) (h : List D → Option D) : Prop := ∃ r, CallR X fn r ∧ ∀ l d F H a xs Q, h l = some d → Same F H → H a = some (.lst xs) → DatL X.K X.mg F l xs → (∀ v F' H', Grow F H F' H' → Dat X.K X.mg F' d v → Q v H') → r [.ref a] H Q
theorem callL_run {h : List D → Option D} {r2 : List V → Hp → VK → Prop} (hr : ∀ l d F H a xs Q, h l = some d → Same F H → H a = some (.lst xs) → DatL X.K X.mg F l xs → (∀ v F' H', Grow F H F' H' → Dat X.K X.mg F' d v → Q v H') → r2 [.ref a] H Q)
    (σ : L2.St) (H : Hp) (Q : VK) (q : tE X.K X.mg W (calE h af) σ H Q) : tCB r2 (tCons (tL X.K X.mg W af) tNil) σ H Q := by
  obtain ⟨F, ρ, r, rl, q, er, hk⟩ := q
  show tL X.K X.mg W af σ H (fun x H1 => r2 [x] H1 Q)
  refine stepL rl q er fun l q a xs F1 H1 g1 rl1 er1 hq d1 => ?_
  obtain ⟨d3, e3, rfl⟩ := opt_some q
  exact hr _ _ F1 H1 _ _ _ e3 g1.sub hq d1 fun v F' H' g d => hk _ rfl v F' H' (g1.trans g) d
theorem ed_callBL (hc : CalL X (.builtin id) h) (hg : Gl X x) (hm : X.mg x = none) (hv : bootBuiltins x = some (.builtin id)) (ha : LD X W e af) (hn : x ≠ "__name__" := by decide) (hdb : (x == ("__debug__" : Str)) = false := by decide)
    (he : starEach [e] X.env = (false, eval e X.env) :: starEach [] X.env := by rfl) (hpl : (backTo pos (starEach [] X.env)).any (·.1) = false := by rfl) : ED X W (.Call (.Name x p) [e] [] pos) (calE h af) := by
  obtain ⟨r, h1, h2⟩ := hc
  exact PE.to (pe_callB h1 hg hm hv (pa_cons ha pa_nil he) hn hdb he hpl) (callL_run h2)
theorem ed_callTyL (hc : CalL X (.type T) h) (hg : Gl X x) (hm : X.mg x = none) (hv : bootBuiltins x = some (.type T)) (ha : LD X W e af) (hn : x ≠ "__name__" := by decide) (hdb : (x == ("__debug__" : Str)) = false := by decide)
    (he : starEach [e] X.env = (false, eval e X.env) :: starEach [] X.env := by rfl) (hpl : (backTo pos (starEach [] X.env)).any (·.1) = false := by rfl) : ED X W (.Call (.Name x p) [e] [] pos) (calE h af) := by
  obtain ⟨r, h1, h2⟩ := hc
  exact PE.to (pe_callTy h1 hg hm hv (pa_cons ha pa_nil he) hn hdb he hpl) (callL_run h2)

/-! the built-ins -/
theorem dl1 {K : Frag} {mg : MG} {F : Hp} {d : D} {vs : List V} (h : DatL K mg F [d] vs) : ∃ v, vs = [v] ∧ Dat K mg F d v := by
  obtain ⟨x, r, rfl, h1, h2⟩ := h
  cases (show r = [] from h2)
  exact ⟨x, rfl, h1⟩
theorem dl2 {K : Frag} {mg : MG} {F : Hp} {d e : D} {vs : List V} (h : DatL K mg F [d, e] vs) : ∃ v w, vs = [v, w] ∧ Dat K mg F d v ∧ Dat K mg F e w := by
  obtain ⟨x, r, rfl, h1, h2⟩ := h
  obtain ⟨y, rfl, h3⟩ := dl1 h2
  exact ⟨x, y, rfl, h1, h3⟩
def dLen : List D → Option D
  | [.str s] => if s.length ≤ 16777216 then some (.int s.length) else none
  | [.tup l] => some (.int l.length)
  | [.lst l] => some (.int l.length)
  | [.fls l] => some (.int l.length)
  | _ => none
theorem cd_len : CalD X (.builtin "len") dLen := by
  refine ⟨_, call_len, fun ds d F H vs Q e s dv k => ?_⟩
  unfold dLen at e
  split at e
  · split at e
    · rename_i hl
      cases e
      obtain ⟨v, rfl, h1⟩ := dl1 dv
      cases (show v = _ from h1)
      exact ⟨_, _, rfl, ⟨by rw [sizeL]; exact hl, rfl⟩, k _ F H (Grow.refl s) rfl⟩
    · cases e
  · cases e
    obtain ⟨v, rfl, q, xs, rfl, h3, h4⟩ := dl1 dv
    refine ⟨_, xs.length, rfl, .inr ⟨xs, same_sqT s h3, rfl⟩, k _ F H (Grow.refl s) ?_⟩
    rw [h4.len]
    exact rfl
  · cases e
    obtain ⟨v, rfl, q, xs, rfl, h3, h4⟩ := dl1 dv
    refine ⟨_, xs.length, rfl, .inl ⟨xs, SqL.of (s _ _ h3), rfl⟩, k _ F H (Grow.refl s) ?_⟩
    rw [h4.len]
    exact rfl
  · cases e
    obtain ⟨v, rfl, q, xs, rfl, h3, h4⟩ := dl1 dv
    refine ⟨_, xs.length, rfl, .inl ⟨xs, same_sqL s h3, rfl⟩, k _ F H (Grow.refl s) ?_⟩
    rw [h4.len]
    exact rfl
  · cases e
def lLen (l : List D) : Option D := some (.int l.length)
theorem cl_len : CalL X (.builtin "len") lLen := by
  refine ⟨_, call_len, fun l d F H a xs Q e s hq dv k => ?_⟩
  cases e
  refine ⟨_, xs.length, rfl, .inl ⟨xs, SqL.of hq, rfl⟩, k _ F H (Grow.refl s) ?_⟩
  rw [dv.len]
  exact rfl
def dAbs : List D → Option D
  | [.int i] => some (.int (if i < 0 then -i else i))
  | _ => none
theorem cd_abs : CalD X (.builtin "abs") dAbs := by
  refine ⟨_, call_abs, fun ds d F H vs Q e s dv k => ?_⟩
  unfold dAbs at e
  split at e
  · cases e
    obtain ⟨v, rfl, h1⟩ := dl1 dv
    cases (show v = _ from h1)
    exact ⟨_, rfl, k _ F H (Grow.refl s) rfl⟩
  · cases e
def dInt : List D → Option D
  | [.int i] => some (.int i)
  | [.bl b] => some (.int (if b then 1 else 0))
  | [.str s] => if s.length ≤ 640 then (PySem.intText? s).map .int else none
  | _ => none
theorem cd_int : CalD X (.type "int") dInt := by
  refine ⟨_, call_int1.or call_int_str, fun ds d F H vs Q e s dv k => ?_⟩
  unfold dInt at e
  split at e
  · cases e
    obtain ⟨v, rfl, h1⟩ := dl1 dv
    cases (show v = _ from h1)
    exact .inl (.inl ⟨_, rfl, k _ F H (Grow.refl s) rfl⟩)
  · cases e
    obtain ⟨v, rfl, h1⟩ := dl1 dv
    cases (show v = _ from h1)
    exact .inl (.inr ⟨_, rfl, k _ F H (Grow.refl s) rfl⟩)
  · split at e
    · rename_i z hl
      obtain ⟨v, rfl, h1⟩ := dl1 dv
      cases (show v = _ from h1)
      cases en : PySem.intText? z with
      | none => rw [en] at e; cases e
      | some n =>
        rw [en] at e
        cases e
        exact .inr ⟨z, n, rfl, en, hl, k _ F H (Grow.refl s) rfl⟩
    · cases e
  · cases e
def dStr : List D → Option D
  | [.int i] => if i.natAbs.log2 < 1920 then some (.str (toString i)) else none
  | _ => none
theorem cd_str : CalD X (.type "str") dStr := by
  refine ⟨_, call_str_int, fun ds d F H vs Q e s dv k => ?_⟩
  unfold dStr at e
  split at e
  · split at e
    · rename_i hl
      cases e
      obtain ⟨v, rfl, h1⟩ := dl1 dv
      cases (show v = _ from h1)
      exact ⟨_, rfl, hl, k _ F H (Grow.refl s) rfl⟩
    · cases e
  · cases e
def dGcd : List D → Option D
  | [.int i, .int j] => some (.int ((Nat.gcd i.natAbs j.natAbs : Nat) : Int))
  | _ => none
theorem cd_gcd : CalD X (.builtin "math.gcd") dGcd := by
  refine ⟨_, cr_gcd, fun ds d F H vs Q e s dv k => ?_⟩
  unfold dGcd at e
  split at e
  · cases e
    obtain ⟨v, w, rfl, h1, h2⟩ := dl2 dv
    cases (show v = _ from h1)
    cases (show w = _ from h2)
    exact ⟨_, _, rfl, k _ F H (Grow.refl s) rfl⟩
  · cases e
def dMax2 : List D → Option D
  | [.int i, .int j] => some (.int (if j > i then j else i))
  | _ => none
theorem cd_max2 (hc : X.calm = true) : CalD X (.builtin "max") dMax2 := by
  refine ⟨_, call_max2 hc, fun ds d F H vs Q e s dv k => ?_⟩
  unfold dMax2 at e
  split at e
  · cases e
    obtain ⟨v, w, rfl, h1, h2⟩ := dl2 dv
    cases (show v = _ from h1)
    cases (show w = _ from h2)
    exact ⟨_, _, rfl, k _ F H (Grow.refl s) rfl⟩
  · cases e
def dMin2 : List D → Option D
  | [.int i, .int j] => some (.int (if j < i then j else i))
  | _ => none
theorem cd_min2 (hc : X.calm = true) : CalD X (.builtin "min") dMin2 := by
  refine ⟨_, call_min2 hc, fun ds d F H vs Q e s dv k => ?_⟩
  unfold dMin2 at e
  split at e
  · cases e
    obtain ⟨v, w, rfl, h1, h2⟩ := dl2 dv
    cases (show v = _ from h1)
    cases (show w = _ from h2)
    exact ⟨_, _, rfl, k _ F H (Grow.refl s) rfl⟩
  · cases e
def intsOf : List D → Option (List Int)
  | [] => some []
  | .int i :: r => (intsOf r).map (i :: ·)
  | _ => none
theorem intsOf_dat : ∀ {l : List D} {ns : List Int}, intsOf l = some ns → l = ns.map D.int
  | [], ns, e => by cases e; rfl
  | .int i :: r, ns, e => by
    unfold intsOf at e
    cases er : intsOf r with
    | none => rw [er] at e; cases e
    | some ms =>
      rw [er] at e
      cases e
      rw [intsOf_dat er]
      rfl
  | .non :: _, _, e => by cases e
  | .bl _ :: _, _, e => by cases e
  | .str _ :: _, _, e => by cases e
  | .tup _ :: _, _, e => by cases e
  | .lst _ :: _, _, e => by cases e
  | .ins _ _ _ :: _, _, e => by cases e
  | .fls _ :: _, _, e => by cases e
def strsOf : List D → Option (List Str)
  | [] => some []
  | .str i :: r => (strsOf r).map (i :: ·)
  | _ => none
theorem strsOf_dat : ∀ {l : List D} {ns : List Str}, strsOf l = some ns → l = ns.map D.str
  | [], ns, e => by cases e; rfl
  | .str i :: r, ns, e => by
    unfold strsOf at e
    cases er : strsOf r with
    | none => rw [er] at e; cases e
    | some ms =>
      rw [er] at e
      cases e
      rw [strsOf_dat er]
      rfl
  | .non :: _, _, e => by cases e
  | .bl _ :: _, _, e => by cases e
  | .int _ :: _, _, e => by cases e
  | .tup _ :: _, _, e => by cases e
  | .lst _ :: _, _, e => by cases e
  | .ins _ _ _ :: _, _, e => by cases e
  | .fls _ :: _, _, e => by cases e
theorem strsOf_map (l : List Str) : strsOf (l.map D.str) = some l := by
  induction l with
  | nil => rfl
  | cons s l ih => rw [List.map_cons, strsOf, ih]; rfl
theorem intsOf_map (l : List Int) : intsOf (l.map D.int) = some l := by
  induction l with
  | nil => rfl
  | cons s l ih => rw [List.map_cons, intsOf, ih]; rfl
def lSum (l : List D) : Option D := (intsOf l).map fun ns => .int ns.sum
theorem cl_sum (hc : X.calm = true) : CalL X (.builtin "sum") lSum := by
  refine ⟨_, cr_sum hc, fun l d F H a xs Q e s hq dv k => ?_⟩
  unfold lSum at e
  cases en : intsOf l with
  | none => rw [en] at e; cases e
  | some ns =>
    rw [en] at e
    cases e
    have e1 := intsOf_dat en
    subst e1
    cases dv.ofInts
    exact ⟨a, ns, rfl, SqL.of hq, k _ F H (Grow.refl s) rfl⟩

/-! tuple(..), list(..) -/
def unTL : D → Option D
  | .tup l => some (.tup l)
  | .lst l => some (.tup l)
  | _ => none
theorem ed_tupleE (hg : Gl X "tuple") (hm : X.mg "tuple" = none) (ha : ED X W a f) (na : starEach [a] X.env = (false, eval a X.env) :: starEach [] X.env := by rfl) : ED X W (.Call (.Name "tuple" p) [a] [] pos) (un1 unTL f) := by
  refine PE.to (pe_tupleOf hg hm ha na) fun σ H Q h => ?_
  obtain ⟨F, ρ, r, rl, h, er, hk⟩ := h
  refine step rl h er fun d h v F1 H1 g1 rl1 er1 d1 => ?_
  obtain ⟨d3, e3, rfl⟩ := opt_some h
  unfold unTL at e3
  split at e3
  · cases e3
    obtain ⟨q, xs, rfl, h3, h4⟩ := d1
    exact .inr ⟨q, xs, rfl, same_sqT g1.sub h3, hk _ rfl _ F1 H1 g1 ⟨q, xs, rfl, h3, h4⟩⟩
  · cases e3
    obtain ⟨q, xs, rfl, h3, h4⟩ := d1
    refine .inl ⟨q, xs, rfl, SqL.of (g1.sub _ _ h3), fun t ht => ?_⟩
    exact hk _ rfl _ _ _ (g1.trans (Grow.lay g1.sub ht)) ⟨t, xs, rfl, SqT.of upd_same, h4.mono (same_upd (g1.sub.free ht))⟩
  · cases e3
theorem ed_tupleL (hg : Gl X "tuple") (hm : X.mg "tuple" = none) (ha : LD X W a af) (na : starEach [a] X.env = (false, eval a X.env) :: starEach [] X.env := by rfl) : ED X W (.Call (.Name "tuple" p) [a] [] pos) (fun ρ => bnd (af ρ) fun l => ok (.tup l)) := by
  refine PE.to (pe_tupleOf hg hm ha na) fun σ H Q h => ?_
  obtain ⟨F, ρ, r, rl, h, er, hk⟩ := h
  refine stepL rl h er fun l h q xs F1 H1 g1 rl1 er1 hq d1 => ?_
  cases h
  refine .inl ⟨q, xs, rfl, SqL.of hq, fun t ht => ?_⟩
  exact hk _ rfl _ _ _ (g1.trans (Grow.lay g1.sub ht)) ⟨t, xs, rfl, SqT.of upd_same, d1.mono (same_upd (g1.sub.free ht))⟩
def unSq : D → R (List D)
  | .tup l => ok l
  | .lst l => ok l
  | _ => none
end
end PD
set_option Elab.async false
set_option linter.all false
set_option maxRecDepth 100000
set_option maxHeartbeats 1000000
set_option autoImplicit false
/-! Lists from calls and operators, text methods, isinstance. -/
namespace PD
open PySem PySem.Spec L2
section
variable {X : Cx} {W : WX} {e a b c : Expr} {es rest : List Expr} {pos p p2 apos : Pos} {f g k : EF} {af ag : AF} {tf tg : TF} {x : Str}
/-! ### lists -/
theorem ld_nd (h : ND X W e af) : LD X W e af := by
  refine PE.to h fun σ H Q h => ?_
  obtain ⟨F, ρ, r, rl, h, er, hk⟩ := h
  exact ⟨F, ρ, r, rl, h, er, fun l z a xs F' H' g _ _ ha hd => hk l z a xs F' H' g ha hd⟩
def rOf (K : Frag) : List V → Hp → VK → Prop := fun xs H Q => ∃ p ys, xs = [.ref p] ∧ (SqL K H p ys ∨ SqT K H p ys) ∧ ∀ l, H l = none → Q (.ref l) (upd H l (.lst ys))
theorem nd_listL (hg : Gl X "list") (hm : X.mg "list" = none) (ha : LD X W a af) (na : starEach [a] X.env = (false, eval a X.env) :: starEach [] X.env := by rfl) (hpl : (backTo pos (starEach [] X.env)).any (·.1) = false := by rfl) : ND X W (.Call (.Name "list" p) [a] [] pos) af := by
  refine PE.to (pe_callTy (r := rOf X.K) call_list_of hg hm PyProof.Rows.boot_list (pa_cons ha pa_nil na) (by decide) (by decide) na hpl) fun σ H Q h => ?_
  obtain ⟨F, ρ, r, rl, h, er, hk⟩ := h
  show tL X.K X.mg W af σ H (fun x H1 => rOf X.K [x] H1 Q)
  refine ⟨F, ρ, r, rl, h, er, fun l z q xs F' H' g hq hd => ?_⟩
  exact ⟨q, xs, rfl, .inl (SqL.of hq), fun t ht => hk l z t xs F' _ (g.trans (Grow.own g.sub ht)) (g.hs.free ht) (g.sub.free ht) upd_same hd⟩
theorem nd_listE (hg : Gl X "list") (hm : X.mg "list" = none) (ha : ED X W a f) (na : starEach [a] X.env = (false, eval a X.env) :: starEach [] X.env := by rfl) (hpl : (backTo pos (starEach [] X.env)).any (·.1) = false := by rfl) : ND X W (.Call (.Name "list" p) [a] [] pos) (fun ρ => bnd (f ρ) unSq) := by
  refine PE.to (pe_callTy (r := rOf X.K) call_list_of hg hm PyProof.Rows.boot_list (pa_cons ha pa_nil na) (by decide) (by decide) na hpl) fun σ H Q h => ?_
  obtain ⟨F, ρ, r, rl, h, er, hk⟩ := h
  show tE X.K X.mg W f σ H (fun x H1 => rOf X.K [x] H1 Q)
  refine step rl h er fun d h v F1 H1 g1 rl1 er1 d1 => ?_
  unfold unSq at h
  split at h
  · cases h
    obtain ⟨q, xs, rfl, h3, h4⟩ := d1
    exact ⟨q, xs, rfl, .inr (same_sqT g1.sub h3), fun t ht => hk _ rfl t xs F1 _ (g1.trans (Grow.own g1.sub ht)) (g1.hs.free ht) (g1.sub.free ht) upd_same h4⟩
  · cases h
    obtain ⟨q, xs, rfl, h3, h4⟩ := d1
    exact ⟨q, xs, rfl, .inl (SqL.of (g1.sub _ _ h3)), fun t ht => hk _ rfl t xs F1 _ (g1.trans (Grow.own g1.sub ht)) (g1.hs.free ht) (g1.sub.free ht) upd_same h4⟩
  · cases h
def catN (af ag : AF) : AF := fun ρ => bnd (af ρ) fun l => bnd (ag ρ) fun m => if l.length + m.length ≤ 16777216 then ok (l ++ m) else none
theorem nd_cat (ha : LD X W a af) (hb : LD X W b ag) : ND X W (.BinOp a .Add b pos) (catN af ag) := by
  refine PE.to (pe_op op_cat ha hb) fun σ H Q h => ?_
  obtain ⟨F, ρ, r, rl, h, er, hk⟩ := h
  refine stepL rl h er fun l h q xs F1 H1 g1 rl1 er1 hq d1 => ?_
  refine stepL rl1 h er1 fun m h q2 ys F2 H2 g2 rl2 er2 hq2 d2 => ?_
  split at h
  · rename_i hl
    cases h
    have s := g2.sub
    have g := g1.trans g2
    have d := (d1.mono g2.fs).app d2
    refine ⟨q, q2, xs, ys, rfl, rfl, g2.hs _ _ hq, hq2, by rw [sizeL, d1.len, d2.len]; exact hl, fun t ht => ?_⟩
    exact hk _ rfl t _ F2 _ (g.trans (Grow.own s ht)) (g.hs.free ht) (s.free ht) upd_same d
  · cases h
def repN (af : AF) (g : EF) : AF := fun ρ => bnd (af ρ) fun l => bnd (g ρ) fun d => bnd (asI d) fun k => if -(2 ^ 63) ≤ k ∧ k < 2 ^ 63 ∧ l.length * k.toNat ≤ 16777216 then ok (repL l k) else none
theorem nd_rep (ha : LD X W a af) (hb : ED X W b g) : ND X W (.BinOp a .Mult b pos) (repN af g) := by
  refine PE.to (pe_op op_rep ha hb) fun σ H Q h => ?_
  obtain ⟨F, ρ, r, rl, h, er, hk⟩ := h
  refine stepL rl h er fun l h q xs F1 H1 g1 rl1 er1 hq d1 => ?_
  refine step rl1 h er1 fun d h v F2 H2 g2 rl2 er2 d2 => ?_
  cases d with
  | int k =>
    replace h : (if -(2 ^ 63) ≤ k ∧ k < 2 ^ 63 ∧ l.length * k.toNat ≤ 16777216 then ok (repL l k) else none) = some r := h
    split at h
    · rename_i hl
      cases h
      have s := g2.sub
      have gg := g1.trans g2
      refine ⟨q, k, xs, rfl, d2, g2.hs _ _ hq, hl.1, hl.2.1, by rw [sizeL, d1.len]; exact hl.2.2, fun t ht => ?_⟩
      exact hk _ rfl t _ F2 _ (gg.trans (Grow.own s ht)) (gg.hs.free ht) (s.free ht) upd_same (rep_dat (d1.mono g2.fs) _)
    · cases h
  | _ => cases h

/-! ### text methods -/
def asS : D → R Str
  | .str s => ok s
  | _ => none
theorem asS_some {d : D} {γ : Type} {k : Str → R γ} {r : Except Exn γ} (h : bnd (asS d) k = some r) : ∃ s, d = .str s ∧ k s = some r := by
  cases d with
  | str s => exact ⟨s, rfl, h⟩
  | _ => cases h
def splitN (f g : EF) : AF := fun ρ => bnd (f ρ) fun d => bnd (asS d) fun s => bnd (g ρ) fun e => bnd (asS e) fun t => if (t.length == 0) = false ∧ s.length + 2 ≤ 16777216 then ok ((Txt.split s t).map .str) else none
theorem nd_split (ho : ED X W a f) (he : ED X W e g) (hs : starEach [e] X.env = [(false, eval e X.env)] := by rfl) (hbase : attributeBase a "split" X.env (eval a X.env) = eval a X.env := by rfl) (hline : (apos.endLine == pos.line) = true := by rfl) :
    ND X W (.Call (.Attribute a "split" apos) [e] [] pos) (splitN f g) := by
  refine PE.to (pe_split ho he hs hbase hline) fun σ H Q h => ?_
  obtain ⟨F, ρ, r, rl, h, er, hk⟩ := h
  refine step rl h er fun d h v F1 H1 g1 rl1 er1 d1 => ?_
  obtain ⟨z, rfl, h⟩ := asS_some h
  refine ⟨⟨z, d1⟩, ?_⟩
  refine step rl1 h er1 fun d h w F2 H2 g2 rl2 er2 d2 => ?_
  obtain ⟨t, rfl, h3⟩ := asS_some h
  split at h3
  · rename_i hl
    cases h3
    have s := g2.sub
    have gg := g1.trans g2
    cases (show w = _ from d2)
    refine ⟨z, t, d1, rfl, hl.1, by rw [sizeL]; exact hl.2, fun q hq => ?_⟩
    exact hk _ rfl q _ F2 _ (gg.trans (Grow.own s hq)) (gg.hs.free hq) (s.free hq) upd_same DatL.strs
  · cases h3
def partE (f g : EF) : EF := fun ρ => bnd (f ρ) fun d => bnd (asS d) fun s => bnd (g ρ) fun e => bnd (asS e) fun t => if (t.length == 0) = false ∧ s.length ≤ 16777216 then ok (.tup [.str (Txt.partition s t).1, .str (Txt.partition s t).2.1, .str (Txt.partition s t).2.2]) else none
theorem ed_part (ho : ED X W a f) (he : ED X W e g) (hs : starEach [e] X.env = [(false, eval e X.env)] := by rfl) (hbase : attributeBase a "partition" X.env (eval a X.env) = eval a X.env := by rfl) (hline : (apos.endLine == pos.line) = true := by rfl) :
    ED X W (.Call (.Attribute a "partition" apos) [e] [] pos) (partE f g) := by
  refine PE.to (pe_partition ho he hs hbase hline) fun σ H Q h => ?_
  obtain ⟨F, ρ, r, rl, h, er, hk⟩ := h
  refine step rl h er fun d h v F1 H1 g1 rl1 er1 d1 => ?_
  obtain ⟨z, rfl, h⟩ := asS_some h
  refine ⟨⟨z, d1⟩, ?_⟩
  refine step rl1 h er1 fun d h w F2 H2 g2 rl2 er2 d2 => ?_
  obtain ⟨t, rfl, h3⟩ := asS_some h
  split at h3
  · rename_i hl
    cases h3
    have s := g2.sub
    have gg := g1.trans g2
    cases (show w = _ from d2)
    refine ⟨z, t, d1, rfl, hl.1, by rw [sizeL]; exact hl.2, fun q hq => ?_⟩
    refine hk _ rfl _ _ _ (gg.trans (Grow.lay s hq)) ⟨q, _, rfl, SqT.of upd_same, ?_⟩
    exact DatL.strs (l := [(Txt.partition z t).1, (Txt.partition z t).2.1, (Txt.partition z t).2.2])
  · cases h3
def joinOk (s : Str) (l : List D) : R D := match strsOf l with
  | some ys => if (ys.map (·.length)).sum + ys.length * s.length ≤ 16777216 then ok (.str (Txt.join s ys)) else none
  | none => none
def joinL (f : EF) (ag : AF) : EF := fun ρ => bnd (f ρ) fun d => bnd (asS d) fun s => bnd (ag ρ) fun l => joinOk s l
theorem ed_joinL (ho : ED X W a f) (he : LD X W e ag) (hs : starEach [e] X.env = [(false, eval e X.env)] := by rfl) (hbase : attributeBase a "join" X.env (eval a X.env) = eval a X.env := by rfl) (hline : (apos.endLine == pos.line) = true := by rfl) :
    ED X W (.Call (.Attribute a "join" apos) [e] [] pos) (joinL f ag) := by
  refine PE.to (pe_join ho he hs hbase hline) fun σ H Q h => ?_
  obtain ⟨F, ρ, r, rl, h, er, hk⟩ := h
  refine step rl h er fun d h v F1 H1 g1 rl1 er1 d1 => ?_
  obtain ⟨z, rfl, h⟩ := asS_some h
  refine ⟨⟨z, d1⟩, ?_⟩
  refine stepL rl1 h er1 fun l h q xs F2 H2 g2 rl2 er2 hq d2 => ?_
  unfold joinOk at h
  split at h
  · rename_i ys ey
    split at h
    · rename_i hl
      cases h
      have e1 := strsOf_dat ey
      subst e1
      cases d2.ofStrs
      exact ⟨z, q, ys, d1, rfl, .inl (SqL.of hq), hl, hk _ rfl _ F2 H2 (g1.trans g2) rfl⟩
    · cases h
  · cases h
def joinE (f g : EF) : EF := fun ρ => bnd (f ρ) fun d => bnd (asS d) fun s => bnd (g ρ) fun e => bnd (unSq e) fun l => joinOk s l
theorem unSq_some {d : D} {γ : Type} {k : List D → R γ} {r : Except Exn γ} (h : bnd (unSq d) k = some r) : ∃ l, (d = .tup l ∨ d = .lst l) ∧ k l = some r := by
  cases d with
  | tup l => exact ⟨l, .inl rfl, h⟩
  | lst l => exact ⟨l, .inr rfl, h⟩
  | _ => cases h
theorem sq_dat {K : Frag} {mg : MG} {F H : Hp} {d : D} {l : List D} {v : V} (hd : d = .tup l ∨ d = .lst l) (s : Same F H) (h : Dat K mg F d v) : ∃ a xs, v = .ref a ∧ (SqL K H a xs ∨ SqT K H a xs) ∧ DatL K mg F l xs := by
  rcases hd with rfl | rfl
  · obtain ⟨a, xs, rfl, h1, h2⟩ := h
    exact ⟨a, xs, rfl, .inr (same_sqT s h1), h2⟩
  · obtain ⟨a, xs, rfl, h1, h2⟩ := h
    exact ⟨a, xs, rfl, .inl (SqL.of (s _ _ h1)), h2⟩
theorem ed_joinE (ho : ED X W a f) (he : ED X W e g) (hs : starEach [e] X.env = [(false, eval e X.env)] := by rfl) (hbase : attributeBase a "join" X.env (eval a X.env) = eval a X.env := by rfl) (hline : (apos.endLine == pos.line) = true := by rfl) :
    ED X W (.Call (.Attribute a "join" apos) [e] [] pos) (joinE f g) := by
  refine PE.to (pe_join ho he hs hbase hline) fun σ H Q h => ?_
  obtain ⟨F, ρ, r, rl, h, er, hk⟩ := h
  refine step rl h er fun d h v F1 H1 g1 rl1 er1 d1 => ?_
  obtain ⟨z, rfl, h⟩ := asS_some h
  refine ⟨⟨z, d1⟩, ?_⟩
  refine step rl1 h er1 fun l h w F2 H2 g2 rl2 er2 d2 => ?_
  obtain ⟨l, hd, h⟩ := unSq_some h
  obtain ⟨q, xs, rfl, hq, d2⟩ := sq_dat hd g2.sub d2
  unfold joinOk at h
  split at h
  · rename_i ys ey
    split at h
    · rename_i hl
      cases h
      have e1 := strsOf_dat ey
      subst e1
      cases d2.ofStrs
      exact ⟨z, q, ys, d1, rfl, hq, hl, hk _ rfl _ F2 H2 (g1.trans g2) rfl⟩
    · cases h
  · cases h

/-! ### isinstance -/
/-- the type of data -/
def DTy (X : Cx) (d : D) (t : Value) : Prop := ∀ F H v, Same F H → Dat X.K X.mg F d v → TyX X.K H v t
theorem dty_non : DTy X .non (.type "NoneType") := fun F H v s h => by
  cases (show v = _ from h)
  exact .base .non
theorem dty_bl {i : Bool} : DTy X (.bl i) (.type "bool") := fun F H v s h => by
  cases (show v = _ from h)
  exact .base (.bl _)
theorem dty_int {i : Int} : DTy X (.int i) (.type "int") := fun F H v s h => by
  cases (show v = _ from h)
  exact .base (.int _)
theorem dty_str {i : Str} : DTy X (.str i) (.type "str") := fun F H v s h => by
  cases (show v = _ from h)
  exact .base (.str _)
theorem dty_tup {l : List D} : DTy X (.tup l) (.type "tuple") := fun F H v s h => by
  obtain ⟨a, xs, rfl, h1, h2⟩ := h
  rcases same_sqT s h1 with (h | ⟨o, h⟩) | ⟨o, _, _, h, hc, _⟩
  · exact .base (.tup h)
  · exact .fTuple h
  · exact .kTuple h hc
theorem dty_lst {l : List D} : DTy X (.lst l) (.type "list") := fun F H v s h => by
  obtain ⟨a, xs, rfl, h1, h2⟩ := h
  exact .base (.lst (s _ _ h1))
/-- what isinstance needs of an own class -/
structure ClsI (K : Frag) (C : Addr) : Prop where
  cl : Cls K C
  ha : PySem.W.findIn K (.ref C) "__class__" = some (some (.builtin "object.__class__"))
  hn : PySem.W.specialIn K (.builtin "object.__class__") "__get__" = some (some (.builtin "getset_descriptor.__get__"))
  htk : PySem.W.takesIn K (.builtin "object.__class__") = some true
  hm : PySem.W.mroIn K C (.type "object") = some true
theorem dty_ins {c : Str} {ns : List Str} {l : List D} {C : Addr} (hC : X.mg c = some (.ref C)) (k : ClsI X.K C) : DTy X (.ins c ns l) (.ref C) := fun F H v s h => by
  obtain ⟨C', a, dx, gs, h0, rfl, h2, h3, h4⟩ := h
  rw [hC] at h0
  cases h0
  exact .base (.ins (s _ _ h2) k.cl k.ha k.hn k.htk k.hm)
/-- g tells whether data is an instance of the class u -/
def IsD (X : Cx) (u : Value) (g : D → Option Bool) : Prop := ∀ d b, g d = some b → ∃ t, DTy X d t ∧ PySem.W.kitOne X.K t u = some b
def isiE (g : D → Option Bool) (f : EF) : EF := un1 (fun d => (g d).map .bl) f
theorem ed_isi {cv : V} {u : Value} {h : D → Option Bool} (hg : Gl X "isinstance") (hm : X.mg "isinstance" = none) (hb : bootBuiltins "isinstance" = some (.builtin "isinstance")) (he : ED X W e f) (hc : PE X c (tC cv)) (k : ClsV cv u) (hd : IsD X u h)
    (hs : starEach [e, c] X.env = (false, eval e X.env) :: starEach [c] X.env := by rfl) (hs2 : starEach [c] X.env = (false, eval c X.env) :: starEach [] X.env := by rfl) (hpl : (backTo pos (starEach [c] X.env)).any (·.1) = false := by rfl) :
    ED X W (.Call (.Name "isinstance" p) [e, c] [] pos) (isiE h f) := by
  refine PE.to (pe_callB call_isi hg hm hb (pa_cons he (pa_cons hc pa_nil hs2) hs) (by decide) (by decide) hs hpl) fun σ H Q q => ?_
  obtain ⟨F, ρ, r, rl, q, er, hk⟩ := q
  show tE X.K X.mg W f σ H (fun x H1 => rIsi X.K [x, cv] H1 Q)
  refine step rl q er fun d q v F1 H1 g1 rl1 er1 d1 => ?_
  obtain ⟨d3, e3, rfl⟩ := opt_some q
  replace e3 : (h d).map D.bl = some d3 := e3
  cases eb : h d with
  | none => rw [eb] at e3; cases e3
  | some b =>
    rw [eb] at e3
    cases e3
    obtain ⟨t, h1, h2⟩ := hd d b eb
    exact ⟨v, cv, t, u, b, rfl, k, h1 F1 H1 v g1.sub d1, h2, hk _ rfl _ F1 H1 g1 rfl⟩
def isTup : D → Option Bool
  | .tup _ => some true
  | .ins _ _ _ => none
  | .fls _ => none
  | _ => some false
def isLst : D → Option Bool
  | .lst _ => some true
  | .ins _ _ _ => none
  | .fls _ => none
  | _ => some false
def isStr : D → Option Bool
  | .str _ => some true
  | .ins _ _ _ => none
  | .fls _ => none
  | _ => some false
def isBl : D → Option Bool
  | .bl _ => some true
  | .ins _ _ _ => none
  | .fls _ => none
  | _ => some false
def isInt : D → Option Bool
  | .int _ => some true
  | .bl _ => some true
  | .ins _ _ _ => none
  | .fls _ => none
  | _ => some false
theorem isd_ty {T : String} {g : D → Option Bool} (h0 : ∀ b, g .non = some b → kitB "NoneType" T = some b) (h1 : ∀ i b, g (.bl i) = some b → kitB "bool" T = some b) (h2 : ∀ i b, g (.int i) = some b → kitB "int" T = some b) (h3 : ∀ i b, g (.str i) = some b → kitB "str" T = some b)
    (h4 : ∀ i b, g (.tup i) = some b → kitB "tuple" T = some b) (h5 : ∀ i b, g (.lst i) = some b → kitB "list" T = some b) (h6 : ∀ c n l, g (.ins c n l) = none) (h7 : ∀ l, g (.fls l) = none) : IsD X (.type T) g := fun d b e => by
  cases d with
  | non => exact ⟨_, dty_non, kit_ty (h0 b e)⟩
  | bl i => exact ⟨_, dty_bl, kit_ty (h1 i b e)⟩
  | int i => exact ⟨_, dty_int, kit_ty (h2 i b e)⟩
  | str i => exact ⟨_, dty_str, kit_ty (h3 i b e)⟩
  | tup i => exact ⟨_, dty_tup, kit_ty (h4 i b e)⟩
  | lst i => exact ⟨_, dty_lst, kit_ty (h5 i b e)⟩
  | ins c n l => rw [h6] at e; cases e
  | fls l => rw [h7] at e; cases e
theorem isd_tup : IsD X (.type "tuple") isTup := isd_ty (fun b e => by cases e; decide +kernel) (fun i b e => by cases e; decide +kernel) (fun i b e => by cases e; decide +kernel) (fun i b e => by cases e; decide +kernel) (fun i b e => by cases e; decide +kernel) (fun i b e => by cases e; decide +kernel) (fun _ _ _ => rfl) (fun _ => rfl)
theorem isd_lst : IsD X (.type "list") isLst := isd_ty (fun b e => by cases e; decide +kernel) (fun i b e => by cases e; decide +kernel) (fun i b e => by cases e; decide +kernel) (fun i b e => by cases e; decide +kernel) (fun i b e => by cases e; decide +kernel) (fun i b e => by cases e; decide +kernel) (fun _ _ _ => rfl) (fun _ => rfl)
theorem isd_str : IsD X (.type "str") isStr := isd_ty (fun b e => by cases e; decide +kernel) (fun i b e => by cases e; decide +kernel) (fun i b e => by cases e; decide +kernel) (fun i b e => by cases e; decide +kernel) (fun i b e => by cases e; decide +kernel) (fun i b e => by cases e; decide +kernel) (fun _ _ _ => rfl) (fun _ => rfl)
theorem isd_bl : IsD X (.type "bool") isBl := isd_ty (fun b e => by cases e; decide +kernel) (fun i b e => by cases e; decide +kernel) (fun i b e => by cases e; decide +kernel) (fun i b e => by cases e; decide +kernel) (fun i b e => by cases e; decide +kernel) (fun i b e => by cases e; decide +kernel) (fun _ _ _ => rfl) (fun _ => rfl)
theorem isd_int : IsD X (.type "int") isInt := isd_ty (fun b e => by cases e; decide +kernel) (fun i b e => by cases e; decide +kernel) (fun i b e => by cases e; decide +kernel) (fun i b e => by cases e; decide +kernel) (fun i b e => by cases e; decide +kernel) (fun i b e => by cases e; decide +kernel) (fun _ _ _ => rfl) (fun _ => rfl)
/-- an own class: the instances of the classes in cs, and no others, are told -/
def isOwn (c : Str) (cs : List Str) : D → Option Bool
  | .ins c' _ _ => if c' ∈ cs then some (decide (c' = c)) else none
  | _ => none
theorem isd_own {c : Str} {cs : List Str} {C : Addr} (h : ∀ c' ∈ cs, ∃ C', X.mg c' = some (.ref C') ∧ ClsI X.K C' ∧ PySem.W.kitOne X.K (.ref C') (.ref C) = some (decide (c' = c))) : IsD X (.ref C) (isOwn c cs) := fun d b e => by
  unfold isOwn at e
  split at e
  · split at e
    · rename_i hc
      cases e
      obtain ⟨C', h1, h2, h3⟩ := h _ hc
      exact ⟨_, dty_ins h1 h2, h3⟩
    · cases e
  · cases e
end
end PD
set_option Elab.async false
set_option linter.all false
set_option maxRecDepth 100000
set_option maxHeartbeats 1000000
set_option autoImplicit false
/-! Iteration over sources (lists, tuples, texts), enumerate and zip of them, ranges. -/
namespace PD
open PySem PySem.Spec L2 PyProof.Rows

/-! ### sources -/
def chars (z : Str) : List V := z.cps.toList.map fun c => V.str ⟨#[c]⟩
/-- what is walked: a list, a tuple, a text -/
inductive Kd where
  | l (a : Addr) | t (a : Addr) | s (z : Str)
/-- x is walked as xs -/
def SrcV (K : Frag) (H : Hp) (x : V) (xs : List V) : Kd → Prop
  | .l a => x = .ref a ∧ SqL K H a xs
  | .t a => x = .ref a ∧ SqT K H a xs
  | .s z => x = .str z ∧ xs = chars z
/-- a walk over data: the walked keeps its items while the frozen part (and the own part, if b) grows -/
def Keep (b : Bool) (F0 H0 F H : Hp) : Prop := Same F0 F ∧ Same F H ∧ (b = true → Same H0 H)
structure WkD (K : Frag) (mg : MG) (b : Bool) (J : It) (F0 H0 : Hp) (l : List D) : Prop where
  go : ∀ i F H, i < l.length → Keep b F0 H0 F H → J.go i H
  stop : ∀ F H, Keep b F0 H0 F H → J.stop l.length H
  yld : ∀ i F H x H', i < l.length → Keep b F0 H0 F H → J.yld i H x H' → ∃ F' d, Grow F H F' H' ∧ l[i]? = some d ∧ Dat K mg F' d x
theorem Keep.refl {b : Bool} {F H : Hp} (s : Same F H) : Keep b F H F H := ⟨Same.refl _, s, fun _ => Same.refl _⟩
theorem Keep.grow {b : Bool} {F0 H0 F H F' H' : Hp} (k : Keep b F0 H0 F H) (g : Grow F H F' H') : Keep b F0 H0 F' H' := ⟨k.1.trans g.fs, g.sub, fun z => (k.2.2 z).trans g.hs⟩
def tI (K : Frag) (mg : MG) (W : WX) (b : Bool) (f : AF) : TI := fun σ H R =>
  ∃ F ρ r, Rl K mg F H ρ σ ∧ f ρ = some r ∧ ErrOk K mg F H W σ r ∧ ∀ l, r = .ok l → ∀ J F' H', Grow F H F' H' → WkD K mg b J F' H' l → R J H'
abbrev ID (X : Cx) (W : WX) (b : Bool) (tg e : Expr) (f : AF) : Prop := PI X tg e (tI X.K X.mg W b f)
def tSrc (K : Frag) (mg : MG) (W : WX) (b : Bool) (f : AF) : TE := fun σ H Q =>
  ∃ F ρ r, Rl K mg F H ρ σ ∧ f ρ = some r ∧ ErrOk K mg F H W σ r ∧ ∀ l, r = .ok l → ∀ kd x xs F' H', Grow F H F' H' → (∀ F'' H'', Keep b F' H' F'' H'' → SrcV K H'' x xs kd) → DatL K mg F' l xs → Q x H'
abbrev SD (X : Cx) (W : WX) (b : Bool) (e : Expr) (f : AF) : Prop := PE X e (tSrc X.K X.mg W b f)
def charD (z : Str) : List D := z.cps.toList.map fun c => D.str ⟨#[c]⟩
def unIt : D → R (List D)
  | .tup l => ok l
  | .lst l => ok l
  | .str z => ok (charD z)
  | _ => none
theorem PI.to {X : Cx} {tg e : Expr} {t t' : TI} (h : PI X tg e t) (m : ∀ σ H R, t' σ H R → t σ H R) : PI X tg e t' := ⟨fun pins s σ H Q I q => h.run pins s σ H Q I (m _ _ _ q)⟩
section
variable {X : Cx} {W : WX} {b : Bool} {tg e a c : Expr} {es rest : List Expr} {pos p p2 apos tpos : Pos} {f g k : EF} {af ag ah : AF} {tf : TF} {x : Str} {elts : List Expr} {kk : Nat}
theorem chars_dat {K : Frag} {mg : MG} {F : Hp} (z : Str) : DatL K mg F (charD z) (chars z) := by
  unfold charD chars
  have e : ∀ l : List Nat, DatL K mg F (l.map fun c => D.str ⟨#[c]⟩) (l.map fun c => V.str ⟨#[c]⟩) := fun l => by
    induction l with
    | nil => exact DatL.nil
    | cons c l ih => exact ⟨_, _, rfl, rfl, ih⟩
  exact e _
theorem sd_ed (h : ED X W e f) : SD X W b e (fun ρ => bnd (f ρ) unIt) := by
  refine PE.to h fun σ H Q h => ?_
  obtain ⟨F, ρ, r, rl, h, er, hk⟩ := h
  refine step rl h er fun d h v F1 H1 g1 rl1 er1 d1 => ?_
  unfold unIt at h
  split at h
  · cases h
    obtain ⟨q, xs, rfl, h3, h4⟩ := d1
    exact hk _ rfl (.t q) _ xs F1 H1 g1 (fun F'' H'' k => ⟨rfl, same_sqT (k.1.trans k.2.1) h3⟩) h4
  · cases h
    obtain ⟨q, xs, rfl, h3, h4⟩ := d1
    exact hk _ rfl (.l q) _ xs F1 H1 g1 (fun F'' H'' k => ⟨rfl, SqL.of ((k.1.trans k.2.1) _ _ h3)⟩) h4
  · rename_i z
    cases h
    cases (show v = _ from d1)
    exact hk _ rfl (.s z) _ (chars z) F1 H1 g1 (fun F'' H'' k => ⟨rfl, rfl⟩) (chars_dat z)
  · cases h
theorem sd_ld (h : LD X W e af) : SD X W true e af := by
  refine PE.to h fun σ H Q h => ?_
  obtain ⟨F, ρ, r, rl, h, er, hk⟩ := h
  exact ⟨F, ρ, r, rl, h, er, fun l z q xs F' H' g hq hd => hk l z (.l q) (.ref q) xs F' H' g (fun F'' H'' k => ⟨rfl, SqL.of (k.2.2 rfl _ _ hq)⟩) hd⟩

/-! ### plain walks -/
theorem wk_of {K : Frag} {mg : MG} {J : It} {xs : List V} {G : Hp → Prop} {F0 H0 : Hp} {l : List D} {n : Nat} (w : Walk J n G (YAt xs)) (hn : n = xs.length) (hd : DatL K mg F0 l xs) (hG : ∀ F H, Keep b F0 H0 F H → G H) : WkD K mg b J F0 H0 l where
  go := fun i F H hi k => w.goes i H (by rw [hn, hd.len]; exact hi) (hG F H k)
  stop := fun F H k => by
    have z := w.stops H (hG F H k)
    rw [hn, hd.len] at z
    exact z
  yld := fun i F H x H' hi k y => by
    obtain ⟨rfl, e⟩ := w.yields i H x H' (by rw [hn, hd.len]; exact hi) (hG F H k) y
    obtain ⟨d, h1, h2⟩ := hd.get' e
    exact ⟨F, d, Grow.refl k.2.1, h1, h2.mono k.1⟩
theorem walk_chars {z : Str} : Walk (Its z) z.cps.size (fun _ => True) (YAt (chars z)) :=
  walk_str.mono (fun _ h => h) fun i H x H' hi _ y => by
    obtain ⟨rfl, c, h1, rfl⟩ := y
    refine ⟨rfl, ?_⟩
    unfold chars
    rw [List.getElem?_map, Array.getElem?_toList, h1]
    rfl
theorem chars_len (z : Str) : z.cps.size = (chars z).length := by
  unfold chars
  rw [List.length_map, Array.length_toList]
/-- an iterator over a source that has just come -/
theorem iter_src {pins : List (Addr × Obj)} {σ : L2.St} {H : Hp} {s : Shared} {x : V} {xs : List V} {v : Value} {R : It → Hp → Prop} {F0 : Hp} {l : List D} {kd : Kd} (I : Inv X pins σ H s) (r : RelV x v) (sF : Same F0 H) (sv : ∀ F'' H'', Keep b F0 H F'' H'' → SrcV X.K H'' x xs kd) (hd : DatL X.K X.mg F0 l xs)
    (q : ∀ J, WkD X.K X.mg b J F0 H l → R J H) : wpAny (model X.prog X.w) X.A (pyIter v) (PIE X pins σ tg R) X.xe s := by
  have h := sv F0 H (Keep.refl sF)
  cases kd with
  | l a =>
    obtain ⟨rfl, h⟩ := h
    cases r
    obtain ⟨vs, rv, pl, _⟩ := I.list h
    refine wpAny_pyIter_list pl.isList (pi_one (tk := s.toks) I _ (turn_list a _) ⟨_, Heap.get?_push_size _ rfl, rfl, rfl⟩ (q _ ?_))
    exact wk_of walk_list rfl hd fun F'' H'' k => (sv F'' H'' k).2
  | t a =>
    obtain ⟨rfl, h⟩ := h
    cases r
    obtain ⟨vs, rv, pl, _⟩ := I.tuple h
    refine wpAny_pyIter_tuple (show s.heap.IsTuple a vs.toArray from pl) (pi_one (tk := s.toks) I _ (turn_tuple a _) ⟨_, Heap.get?_push_size _ rfl, rfl, rfl⟩ (q _ ?_))
    exact wk_of walk_tup rfl hd fun F'' H'' k => (sv F'' H'' k).2
  | s z =>
    obtain ⟨rfl, rfl⟩ := h
    obtain ⟨t, rfl⟩ := r
    have wk : WkD X.K X.mg b (Its z) F0 H l := wk_of walk_chars (chars_len z) hd fun _ _ _ => trivial
    cases ha : z.cps.all (· < 128) with
    | false => exact wpAny_pyIter_wide ha (pi_one (tk := s.toks) I _ (turn_str _ z t "str_iterator" (.inr rfl)) ⟨_, Heap.get?_push_size _ rfl, rfl, rfl⟩ (q _ wk))
    | true => exact wpAny_pyIter_ascii ha (pi_one (tk := s.toks) I _ (turn_str _ z t "str_ascii_iterator" (.inl rfl)) ⟨_, Heap.get?_push_size _ rfl, rfl, rfl⟩ (q _ wk))
/-- for x in a source -/
theorem id_src (h : SD X W b e af) : ID X W b tg e af := by
  refine ⟨fun pins s σ H R I q => ?_⟩
  obtain ⟨F, ρ, r, rl, q, er, hk⟩ := q
  refine thn (h.run pins s σ H (fun x H1 => ∃ kd xs F' l, r = .ok l ∧ Grow F H F' H1 ∧ (∀ F'' H'', Keep b F' H1 F'' H'' → SrcV X.K H'' x xs kd) ∧ DatL X.K X.mg F' l xs) I ?_) fun v s1 ⟨x, H1, I1, r1, kd, xs, F', l, z, g, sv, hd⟩ => ?_
  · exact ⟨F, ρ, r, rl, q, er, fun l z kd x xs F' H' g sv hd => ⟨kd, xs, F', l, z, g, sv, hd⟩⟩
  · exact iter_src I1 r1 g.sub sv hd fun J wk => hk l z J F' H1 g wk

/-! ### ranges -/
def rngD (lo : Int) (n : Nat) : List D := (List.range n).map fun i => D.int (lo + (i : Nat))
def rngC (lo c : Int) (n : Nat) : List D := (List.range n).map fun i => D.int (lo + (i : Nat) * c)
theorem rngD_len (lo : Int) (n : Nat) : (rngD lo n).length = n := by unfold rngD; rw [List.length_map, List.length_range]
theorem rngC_len (lo c : Int) (n : Nat) : (rngC lo c n).length = n := by unfold rngC; rw [List.length_map, List.length_range]
theorem rngD_get {lo : Int} {n i : Nat} (h : i < n) : (rngD lo n)[i]? = some (.int (lo + i)) := by
  unfold rngD
  rw [List.getElem?_map, List.getElem?_range h]
  rfl
theorem rngC_get {lo c : Int} {n i : Nat} (h : i < n) : (rngC lo c n)[i]? = some (.int (lo + i * c)) := by
  unfold rngC
  rw [List.getElem?_map, List.getElem?_range h]
  rfl
theorem wk_range {K : Frag} {mg : MG} {F0 H0 : Hp} {lo : Int} {n : Nat} : WkD K mg b (Itr lo n) F0 H0 (rngD lo n) where
  go := fun i F H hi k => by rw [rngD_len] at hi; exact hi
  stop := fun F H k => Nat.le_of_eq (rngD_len _ _).symm
  yld := fun i F H x H' hi k y => by
    obtain ⟨rfl, rfl⟩ := y
    rw [rngD_len] at hi
    exact ⟨F, _, Grow.refl k.2.1, rngD_get hi, rfl⟩
theorem wk_rangeC {K : Frag} {mg : MG} {F0 H0 : Hp} {lo c : Int} {n : Nat} : WkD K mg b (Itc lo c n) F0 H0 (rngC lo c n) where
  go := fun i F H hi k => by rw [rngC_len] at hi; exact hi
  stop := fun F H k => Nat.le_of_eq (rngC_len _ _ _).symm
  yld := fun i F H x H' hi k y => by
    obtain ⟨rfl, rfl⟩ := y
    rw [rngC_len] at hi
    exact ⟨F, _, Grow.refl k.2.1, rngC_get hi, rfl⟩
def rng1 : List D → R (List D)
  | [.int j] => if -(2 ^ 62) ≤ j ∧ j < 2 ^ 62 then ok (rngD 0 j.toNat) else none
  | _ => none
def rng2 : List D → R (List D)
  | [.int i, .int j] => if -(2 ^ 62) ≤ i ∧ i < 2 ^ 62 ∧ -(2 ^ 62) ≤ j ∧ j < 2 ^ 62 then ok (rngD i (j - i).toNat) else none
  | _ => none
/-- range(i, j, -1) -/
def rng3 : List D → R (List D)
  | [.int i, .int j, .int c] => if c = -1 ∧ -(2 ^ 62) ≤ i ∧ i < 2 ^ 62 ∧ -(2 ^ 62) ≤ j ∧ j < 2 ^ 62 then ok (rngC i (-1) (i - j).toNat) else none
  | _ => none
theorem id_range1 (hg : Gl X "range") (hm : X.mg "range" = none) (ha : AD X W [a] af) (hs : starEach [a] X.env = [(false, eval a X.env)] := by rfl) : ID X W b tg (.Call (.Name "range" p) [a] [] pos) (fun ρ => bnd (af ρ) rng1) := by
  refine PI.to (pi_range1 hg hm ha hs) fun σ H R q => ?_
  obtain ⟨F, ρ, r, rl, q, er, hk⟩ := q
  refine step rl q er fun ds q vs F1 H1 g1 rl1 er1 d1 => ?_
  unfold rng1 at q
  split at q
  · split at q
    · rename_i j hj
      cases q
      obtain ⟨v, rfl, e⟩ := dl1 d1
      cases (show v = _ from e)
      exact ⟨j, rfl, hj.1, hj.2, hk _ rfl _ F1 H1 g1 wk_range⟩
    · cases q
  · cases q
theorem id_range2 (hg : Gl X "range") (hm : X.mg "range" = none) (ha : AD X W [a, c] af) (hs : starEach [a, c] X.env = [(false, eval a X.env), (false, eval c X.env)] := by rfl) (hs2 : starEach [c] X.env = [(false, eval c X.env)] := by rfl) :
    ID X W b tg (.Call (.Name "range" p) [a, c] [] pos) (fun ρ => bnd (af ρ) rng2) := by
  refine PI.to (pi_range2 hg hm ha hs hs2) fun σ H R q => ?_
  obtain ⟨F, ρ, r, rl, q, er, hk⟩ := q
  refine step rl q er fun ds q vs F1 H1 g1 rl1 er1 d1 => ?_
  unfold rng2 at q
  split at q
  · split at q
    · rename_i i j hj
      cases q
      obtain ⟨v, w, rfl, e, e2⟩ := dl2 d1
      cases (show v = _ from e)
      cases (show w = _ from e2)
      exact ⟨i, j, rfl, hj, hk _ rfl _ F1 H1 g1 wk_range⟩
    · cases q
  · cases q
theorem dl3 {K : Frag} {mg : MG} {F : Hp} {d e u : D} {vs : List V} (h : DatL K mg F [d, e, u] vs) : ∃ v w z, vs = [v, w, z] ∧ Dat K mg F d v ∧ Dat K mg F e w ∧ Dat K mg F u z := by
  obtain ⟨x, r, rfl, h1, h2⟩ := h
  obtain ⟨y, z, rfl, h3, h4⟩ := dl2 h2
  exact ⟨x, y, z, rfl, h1, h3, h4⟩
theorem id_range3 {a1 a2 a3 : Expr} (hg : Gl X "range") (hm : X.mg "range" = none) (ha : AD X W [a1, a2, a3] af) (hs : starEach [a1, a2, a3] X.env = (false, eval a1 X.env) :: starEach [a2, a3] X.env := by rfl) (hpl : (backTo pos (starEach [a2, a3] X.env)).any (·.1) = false := by rfl) :
    ID X W b tg (.Call (.Name "range" p) [a1, a2, a3] [] pos) (fun ρ => bnd (af ρ) rng3) := by
  refine PI.to (pi_range3 hg hm ha hs hpl) fun σ H R q => ?_
  obtain ⟨F, ρ, r, rl, q, er, hk⟩ := q
  refine step rl q er fun ds q vs F1 H1 g1 rl1 er1 d1 => ?_
  unfold rng3 at q
  split at q
  · split at q
    · rename_i i j c hj
      obtain ⟨rfl, h1, h2, h3, h4⟩ := hj
      cases q
      obtain ⟨v, w, z, rfl, e, e2, e3⟩ := dl3 d1
      cases (show v = _ from e)
      cases (show w = _ from e2)
      cases (show z = _ from e3)
      exact ⟨i, j, -1, (i - j).toNat, rfl, RgC.neg h1 h2 h3 h4, hk _ rfl _ F1 H1 g1 wk_rangeC⟩
    · cases q
  · cases q
end
end PD
set_option Elab.async false
set_option linter.all false
set_option maxRecDepth 100000
set_option maxHeartbeats 2000000
set_option autoImplicit false
/-! enumerate and zip over sources of any kind. -/
namespace PD
open PySem PySem.Spec L2 PyProof.Rows

theorem vals_back : ∀ {xs : List V} {us : List Value} {i : Nat} {u : Value}, Vals xs us → us[i]? = some u → ∃ y, xs[i]? = some y ∧ RelV y u
  | _, _, _, _, .nil, e => by simp at e
  | _, _, 0, _, .cons r _, e => by
    have e' := Option.some.inj e
    subst e'
    exact ⟨_, rfl, r⟩
  | _, _, i + 1, _, .cons _ t, e => vals_back (i := i) t (by simpa using e)
/-- the iterator at it over a source -/
structure SrcK (P : Program) (w : World) (K : Frag) (x : V) (xs : List V) (kd : Kd) (it : Addr) (src : List Addr) (Rec : Nat → Heap → Prop) : Prop where
  obj : ∀ i h, Rec i h → ∃ o, h.get? it = some o ∧ ∀ v, o.data ≠ .cell v
  keep : ∀ i h h', Rec i h → (∀ o, h.get? it = some o → h'.get? it = some o) → Rec i h'
  draws : ∀ (X : Cx), X.prog = P → X.w = w → X.K = K → X.calm = true → ∀ (pins : List (Addr × Obj)) (s : Shared) (σ : L2.St) (H : Hp), Inv X pins σ H s → SrcV K H x xs kd →
    ∃ Pi St, Draws P w X.A.in1 it (it :: src) xs.length Pi St ∧ (∀ i, Rec i s.heap → St i s.heap) ∧ (∀ i h, St i h → Rec i h) ∧ ∀ i v, Pi i v → ∃ y, xs[i]? = some y ∧ RelV y v
theorem src_start {X : Cx} {pins : List (Addr × Obj)} {σ : L2.St} {H : Hp} {s : Shared} {x : V} {xs : List V} {kd : Kd} {v : Value} (I : Inv X pins σ H s) (r : RelV x v) (sv : SrcV X.K H x xs kd) :
    ∃ o Hc src, Begins v o Hc ∧ Hc s.heap ∧ (∀ b ∈ src, b < s.heap.objs.size) ∧ ∀ it, s.heap.objs.size ≤ it → ∃ Rec, SrcK X.prog X.w X.K x xs kd it src Rec ∧ ∀ h' : Heap, h'.get? it = some o → Rec 0 h' := by
  cases kd with
  | l a =>
    obtain ⟨rfl, q⟩ := sv
    cases r
    obtain ⟨vs, rv, pl, _⟩ := I.list q
    have la : a < s.heap.objs.size := pl.lt
    refine ⟨_, _, [a], begins_list a vs.toArray, pl.isList, fun b hb => by rw [List.mem_singleton.mp hb]; exact la, fun it hit => ⟨fun i h => h.IsListIter it a i, ⟨?_, ?_, ?_⟩, fun h' e => ⟨_, e, rfl, rfl⟩⟩⟩
    · rintro i h ⟨o, e, _, d⟩
      exact ⟨o, e, fun v z => by rw [d] at z; cases z⟩
    · exact fun i h h' st k => st.at fun o e => k o e
    · intro Y hP hw hK hc pins' s' σ' H' I' sv'
      rw [← hP, ← hw]
      rw [← hK] at sv'
      obtain ⟨_, q'⟩ := sv'
      obtain ⟨us, ru, pu, _⟩ := I'.list q'
      have hl : xs.length = us.toArray.size := by rw [List.size_toArray]; exact ru.length
      rw [hl]
      refine ⟨_, _, Draws.list (A := Y.A.in1) (show Y.A.in1.handled = none from I'.ok.hd hc) it a (Nat.ne_of_lt (Nat.lt_of_lt_of_le la hit)) us.toArray, fun i st => ⟨st, pu.isList⟩, fun i h st => st.1, fun i v e => ?_⟩
      rw [List.getElem?_toArray] at e
      exact vals_back ru e
  | t a =>
    obtain ⟨rfl, q⟩ := sv
    cases r
    obtain ⟨vs, rv, pl, _⟩ := I.tuple q
    have la : a < s.heap.objs.size := by obtain ⟨o, e, _⟩ := pl; exact Heap.lt_size e
    refine ⟨_, _, [a], begins_tuple a vs.toArray, pl, fun b hb => by rw [List.mem_singleton.mp hb]; exact la, fun it hit => ⟨fun i h => h.IsTupleIter it a i, ⟨?_, ?_, ?_⟩, fun h' e => ⟨_, e, rfl, rfl⟩⟩⟩
    · rintro i h ⟨o, e, _, d⟩
      exact ⟨o, e, fun v z => by rw [d] at z; cases z⟩
    · exact fun i h h' st k => st.at fun o e => k o e
    · intro Y hP hw hK hc pins' s' σ' H' I' sv'
      rw [← hP, ← hw]
      rw [← hK] at sv'
      obtain ⟨_, q'⟩ := sv'
      obtain ⟨us, ru, pu, _⟩ := I'.tuple q'
      have hl : xs.length = us.toArray.size := by rw [List.size_toArray]; exact ru.length
      rw [hl]
      refine ⟨_, _, Draws.tuple (A := Y.A.in1) (show Y.A.in1.handled = none from I'.ok.hd hc) it a (Nat.ne_of_lt (Nat.lt_of_lt_of_le la hit)) us.toArray, fun i st => ⟨st, pu⟩, fun i h st => st.1, fun i v e => ?_⟩
      rw [List.getElem?_toArray] at e
      exact vals_back ru e
  | s z =>
    obtain ⟨rfl, rfl⟩ := sv
    obtain ⟨t, rfl⟩ := r
    refine ⟨_, _, [], begins_text z t, trivial, fun b hb => (by simp at hb), fun it hit => ⟨fun i h => h.IsStrIter it (strIterType z) z t i, ⟨?_, ?_, ?_⟩, fun h' e => ⟨_, e, rfl, rfl⟩⟩⟩
    · rintro i h ⟨o, e, _, d⟩
      exact ⟨o, e, fun v z => by rw [d] at z; cases z⟩
    · rintro i h h' ⟨o, e, r⟩ k
      exact ⟨o, k o e, r⟩
    · intro Y hP hw hK hc pins' s' σ' H' I' sv'
      rw [← hP, ← hw]
      rw [← hK] at sv'
      rw [← chars_len]
      refine ⟨_, _, Draws.text (A := Y.A.in1) (show Y.A.in1.handled = none from I'.ok.hd hc) it z t, fun i st => st, fun i h st => st, fun i v e => ?_⟩
      obtain ⟨c, u, h1, rfl⟩ := e
      refine ⟨.str ⟨#[c]⟩, ?_, u, rfl⟩
      unfold chars
      rw [List.getElem?_map, Array.getElem?_toList, h1]
      rfl

/-! ### enumerate -/
def ItE (K : Frag) (x : V) (xs : List V) (kd : Kd) : It :=
  ⟨fun i H => i < xs.length ∧ SrcV K H x xs kd, fun i H v H' => ∃ T y, v = .ref T ∧ H T = none ∧ H' = upd H T (.tup [.int (i : Nat), y]) ∧ xs[i]? = some y, fun i H => i = xs.length ∧ SrcV K H x xs kd⟩
/-- a new tuple has come of a walk's turn -/
theorem tup_come {X : Cx} {pins : List (Addr × Obj)} {σ : L2.St} {H : Hp} {s : Shared} {ch : List Addr} {T : Addr} {vals : List Value} {ys : List V} {h' h'' : Heap} {tk : Nat} (I : Inv X pins σ H s) (hT : s.heap.objs.size ≤ T) (ht : h'.IsTuple T vals.toArray) (hTc : T ∉ ch)
    (k1 : ∀ c o, c ∉ ch → s.heap.get? c = some o → h'.get? c = some o) (k2 : ∀ c o, c ∉ ch → h'.get? c = some o → h''.get? c = some o) (hf : ∀ c ∈ ch, FpOk X pins H c) (rv : Vals ys vals) (hl : ys.length ≤ 1000) :
    Inv X pins σ (upd H T (.tup ys)) { s with heap := h'', toks := tk } := by
  obtain ⟨o, e, h1, n, h2⟩ := ht
  refine I.turnedNew (ch := ch) (fun c o q e => k2 c o q (k1 c o q e)) hf hT ⟨size1000 hl, vals, rv, ?_⟩
  exact ⟨o, k2 T o hTc e, h1, n, h2⟩
theorem turn_en {P : Program} {w : World} {K : Frag} {elts : List Expr} {kk : Nat} {tpos : Pos} {x : V} {xs : List V} {kd : Kd} {e it : Addr} {src : List Addr} {Rec : Nat → Heap → Prop} (S : SrcK P w K x xs kd it src Rec) (hei : e ≠ it) (hes : e ∉ src) :
    Turn P w K (.Tuple elts kk tpos) (ItE K x xs kd) [e, it] e (fun i h => (∃ old, IsEnum h e it ((i : Nat) : Int) old) ∧ Rec i h) where
  mem := List.mem_cons_self ..
  obj := fun i h st c hc => by
    rcases List.mem_cons.mp hc with q | q
    · obtain ⟨⟨old, he⟩, _⟩ := st
      rw [q]
      exact ⟨_, he, fun v z => nomatch z⟩
    · rw [List.mem_singleton.mp q]
      exact S.obj i h st.2
  keep := fun i h h' st k => ⟨by obtain ⟨⟨old, he⟩, _⟩ := st; exact ⟨old, k e (by simp) _ he⟩, S.keep i h h' st.2 fun o q => k it (by simp) o q⟩
  item := by
    intro X hP hw hK hc i pins s σ H E I hf st hg
    obtain ⟨⟨old, he⟩, hr⟩ := st
    obtain ⟨hi, sv⟩ := hg
    obtain ⟨Pi, St, D, d1, d2, d3⟩ := S.draws X hP hw hK hc pins s σ H I sv
    have hef : e ∉ it :: src := fun q => by
      rcases List.mem_cons.mp q with q | q
      · exact hei q
      · exact hes q
    have Wk := WalksT.enumerateD D e hei hef (List.mem_cons_self ..)
    refine Wk.item i s _ _ hi ⟨⟨old, he⟩, d1 i hr⟩ fun T vals h' tk ⟨t, v, hv, ev⟩ hT ht hm k1 => ?_
    obtain ⟨y, hy, ry⟩ := d3 i v hv
    subst ev
    refine ⟨_, rfl, Wk.go elts kk tpos i T _ _ _ hm fun h'' st2 k2 => ?_⟩
    have I1 := tup_come (ys := [V.int (i : Nat), y]) (vals := [.int i t, v]) (tk := tk) I hT ht (Wk.apart i T h' hm) k1 k2 hf (.cons ⟨t, rfl⟩ (.cons ry .nil)) (show (2 : Nat) ≤ 1000 by decide)
    refine ⟨.ref T, _, I1, rfl, ⟨T, y, rfl, I.hok.fresh hT, rfl, hy⟩, ⟨?_, d2 _ _ st2.2⟩, fun c hcm => ?_⟩
    · exact st2.1
    · have hlt : c ≠ T := fun z => Wk.apart i T h' hm (by rw [← z]; exact hcm)
      rw [upd_ne hlt]
      exact (hf c hcm).1
  done := by
    intro X hP hw hK hc i pins s σ H E I hf st hg
    obtain ⟨⟨old, he⟩, hr⟩ := st
    obtain ⟨hi, sv⟩ := hg
    subst hi
    obtain ⟨Pi, St, D, d1, d2, d3⟩ := S.draws X hP hw hK hc pins s σ H I sv
    have hef : e ∉ it :: src := fun q => by
      rcases List.mem_cons.mp q with q | q
      · exact hei q
      · exact hes q
    exact (WalksT.enumerateD D e hei hef (List.mem_cons_self ..)).done s _ _ ⟨⟨old, he⟩, d1 _ hr⟩ fun h' tk k => ⟨rfl, I.turnedL (t' := tk) (ch := [e, it]) k hf⟩
  self := fun A i s Q E st q => let ⟨⟨_, he⟩, _⟩ := st; wpAny_pyIter_enum he q
theorem meets_en {v : Value} {o : Obj} {Hc : Heap → Prop} (B : Begins v o Hc) :
    Meets (Builtin.«enumerate.__new__» ⟨[.type "enumerate", v], []⟩) (fun _ R s => Hc s.heap ∧
      R (.ok (.ret (.ref (s.heap.push o).objs.size))) { s with heap := (s.heap.push o).push { cls := .type "enumerate", data := .fields #[.none, .bool false, .ref s.heap.objs.size, rawInt 0, .none, .none] } }) :=
  .of_wp fun prog w A R sh hh => by
    obtain ⟨hp, gn, dr, tk, ob⟩ := sh; obtain ⟨hc, hh⟩ := hh
    have hsub := sub_enumerate
    have it1 : ∀ {A' : Around} {E : Value → Shared → Prop} {Q : Value → Shared → Prop}, Q (.ref hp.objs.size) ⟨hp.push o, gn, dr, tk, ob⟩ → wpAny (model prog w) A' (pyIter v) Q E ⟨hp, gn, dr, tk, ob⟩ :=
      fun z => B.iter prog w _ _ ⟨hp, gn, dr, tk, ob⟩ _ hc z
    wp_walk using it1
    refine wpAny_stack_any fun st => wpAny_pure ?_
    split
    · rename_i cl _ _ _ _ _
      cases (cl == Value.type "enumerate") <;> (wp_walk using it1; exact ⟨_, rfl, hh⟩)
    · wp_walk using it1
      exact ⟨_, rfl, hh⟩
theorem call_en {prog : Program} {w : World} {A : Around} {E : Value → Shared → Prop} {s : Shared} {v : Value} {o : Obj} {Hc : Heap → Prop} {Q : Value → Shared → Prop} (B : Begins v o Hc) (h1 : Hc s.heap)
    (h : ∀ h', IsEnum h' (s.heap.objs.size + 1) s.heap.objs.size 0 .none → h'.get? s.heap.objs.size = some o → (∀ c q, s.heap.get? c = some q → h'.get? c = some q) → Q (.ref (s.heap.objs.size + 1)) { s with heap := h' }) :
    wpAny (model prog w) A (call (.type "enumerate") [v]) Q E s := by
  refine callType_new F.called_enumerate (by decide) (F.typeCall_enumerate_1 _) (F.newCall_enumerate_1 _) (fun obj => F.args_object_init_2 obj _) F.entry_enumerate_new (meets_en B) ⟨h1, ?_⟩
  have sz : (s.heap.push o).objs.size = s.heap.objs.size + 1 := Heap.size_push ..
  have en : IsEnum ((s.heap.push o).push { cls := .type "enumerate", data := .fields #[.none, .bool false, .ref s.heap.objs.size, rawInt 0, .none, .none] }) (s.heap.objs.size + 1) s.heap.objs.size 0 .none := by
    have z := Heap.get?_push_size (s.heap.push o) (o := { cls := .type "enumerate", data := .fields #[.none, .bool false, .ref s.heap.objs.size, rawInt 0, .none, .none] }) rfl
    rw [sz] at z
    exact z
  show _ ∧ _
  rw [sz]
  exact ⟨⟨_, en, rfl⟩, h _ en (Heap.get?_push_of_some _ (Heap.get?_push_size _ B.free)) fun c q x => Heap.get?_push_of_some _ (Heap.get?_push_of_some _ x)⟩
def enumD (l : List D) : List D := l.zipIdx.map fun p => D.tup [.int (p.2 : Nat), p.1]
theorem enumD_len (l : List D) : (enumD l).length = l.length := by unfold enumD; rw [List.length_map, List.length_zipIdx]
theorem enumD_get {l : List D} {i : Nat} {d : D} (h : l[i]? = some d) : (enumD l)[i]? = some (.tup [.int (i : Nat), d]) := by
  unfold enumD
  rw [List.getElem?_map, List.getElem?_zipIdx, h]
  simp
section
variable {X : Cx} {W : WX} {b : Bool} {tg e a c : Expr} {es rest : List Expr} {pos p p2 apos tpos : Pos} {f g k : EF} {af ag ah : AF} {tf : TF} {x : Str} {elts : List Expr} {kk : Nat}
theorem wk_enum {K : Frag} {mg : MG} {F0 H0 : Hp} {x : V} {xs : List V} {kd : Kd} {l : List D} (hd : DatL K mg F0 l xs) (sv : ∀ F'' H'', Keep b F0 H0 F'' H'' → SrcV K H'' x xs kd) : WkD K mg b (ItE K x xs kd) F0 H0 (enumD l) where
  go := fun i F H hi k => ⟨by rw [hd.len]; rw [enumD_len] at hi; exact hi, sv F H k⟩
  stop := fun F H k => ⟨by rw [hd.len, enumD_len], sv F H k⟩
  yld := fun i F H v H' hi k y => by
    obtain ⟨T, y, rfl, hT, rfl, hy⟩ := y
    obtain ⟨d, h1, h2⟩ := hd.get' hy
    refine ⟨_, _, Grow.lay k.2.1 hT, enumD_get h1, T, [.int (i : Nat), y], rfl, SqT.of upd_same, _, _, rfl, rfl, DatL.one ((h2.mono k.1).mono (same_upd (k.2.1.free hT)))⟩
theorem id_enum (h : SD X W b e af) (hg : Gl X "enumerate") (hm : X.mg "enumerate" = none) (hs : starEach [e] X.env = (false, eval e X.env) :: starEach [] X.env := by rfl) (hpl : (backTo pos (starEach [] X.env)).any (·.1) = false := by rfl) :
    ID X W b (.Tuple elts kk tpos) (.Call (.Name "enumerate" p) [e] [] pos) (fun ρ => bnd (af ρ) fun l => ok (enumD l)) := by
  refine ⟨fun pins s σ H R I q => ?_⟩
  obtain ⟨F, ρ, r, rl, q, er, hk⟩ := q
  replace q : bnd (af ρ) (fun l => ok (enumD l)) = some r := q
  have q1 : tSrc X.K X.mg W b af σ H (fun x H1 => ∃ kd xs F' l, r = .ok (enumD l) ∧ Grow F H F' H1 ∧ (∀ F'' H'', Keep b F' H1 F'' H'' → SrcV X.K H'' x xs kd) ∧ DatL X.K X.mg F' l xs) := by
    cases ea : af ρ with
    | none => rw [ea] at q; cases q
    | some z =>
      rw [ea] at q
      cases z with
      | error z => cases q; exact ⟨F, ρ, .error z, rl, ea, (fun e' he' => er e' (by cases he'; rfl)), fun l z => nomatch z⟩
      | ok l =>
        cases q
        exact ⟨F, ρ, .ok l, rl, ea, (fun e' he' => nomatch he'), fun l' z kd x xs F' H' g sv hd => ⟨kd, xs, F', l', by cases z; rfl, g, sv, hd⟩⟩
  refine Call_ (ld_blt I hg hm boot_enumerate (PyProof.Rows.callWith_type1 (thn ((pa_cons h pa_nil hs).run pos pins s σ H (fun vs H1 => ∃ x, vs = [x] ∧ ∃ kd xs F' l, r = .ok (enumD l) ∧ Grow F H F' H1 ∧ (∀ F'' H'', Keep b F' H1 F'' H'' → SrcV X.K H'' x xs kd) ∧ DatL X.K X.mg F' l xs) I ?_) fun us s1 ⟨vs, H1, I1, r1, x, ex, kd, xs, F', l, z, g, sv, hd⟩ => ?_) hs hpl))
  · obtain ⟨F0, ρ0, r0, rl0, q0, er0, hk0⟩ := q1
    exact ⟨F0, ρ0, r0, rl0, q0, er0, fun l z kd x xs F' H' g sv hd => ⟨x, rfl, hk0 l z kd x xs F' H' g sv hd⟩⟩
  · subst ex
    cases r1 with
    | cons r1 rr =>
      cases rr
      obtain ⟨o, Hc, src, B, hc, hsrc, mk⟩ := src_start I1 r1 (sv _ _ (Keep.refl g.sub))
      obtain ⟨Rec, S, h0⟩ := mk s1.heap.objs.size (Nat.le_refl _)
      refine call_en B hc fun h' he ho hk' => wpAny_pyIter_enum he ?_
      have I2 : L2.Inv X pins σ H1 { s1 with heap := h' } := I1.kept (t' := s1.toks) hk'
      refine ⟨s1.heap.objs.size + 1, [s1.heap.objs.size + 1, s1.heap.objs.size], _, _, H1, rfl, I2, turn_en S (Nat.succ_ne_self _) (fun m => absurd (hsrc _ m) (Nat.not_lt.mpr (Nat.le_succ _))), ⟨⟨.none, he⟩, h0 h' ho⟩, fun c hcm => ?_, hk _ z _ F' H1 g (wk_enum hd sv)⟩
      have hle : s1.heap.objs.size ≤ c := by
        rcases List.mem_cons.mp hcm with q | q
        · rw [q]; exact Nat.le_succ _
        · rw [List.mem_singleton.mp q]; exact Nat.le_refl _
      exact I1.fpOk hle (I1.hok.fresh hle)
end
end PD
set_option Elab.async false
set_option linter.all false
set_option maxRecDepth 100000
set_option maxHeartbeats 2000000
set_option autoImplicit false
/-! Targets and list comprehensions. -/
namespace PD
open PySem PySem.Spec L2 PyProof.Rows

/-! ### targets -/
def SetsOnly (is : List Nat) (σ σ' : L2.St) : Prop := σ'.length = σ.length ∧ ∀ j, j ∉ is → σ'[j]? = σ[j]?
theorem SetsOnly.refl {is : List Nat} {σ : L2.St} : SetsOnly is σ σ := ⟨rfl, fun _ _ => rfl⟩
theorem SetsOnly.trans {is js : List Nat} {σ σ1 σ2 : L2.St} (a : SetsOnly is σ σ1) (b : SetsOnly js σ1 σ2) : SetsOnly (is ++ js) σ σ2 :=
  ⟨b.1.trans a.1, fun j h => (b.2 j fun z => h (List.mem_append_right _ z)).trans (a.2 j fun z => h (List.mem_append_left _ z))⟩
def tgD (K : Frag) (mg : MG) (is : List Nat) (h : D → List Sl → Option (List Sl)) : TG := fun v σ H Q =>
  ∃ F ρ d ρ', Rl K mg F H ρ σ ∧ Dat K mg F d v ∧ h d ρ = some ρ' ∧ ∀ σ', SetsOnly is σ σ' → Rl K mg F H ρ' σ' → Q σ' H
def tgsD (K : Frag) (mg : MG) (is : List Nat) (h : List D → List Sl → Option (List Sl)) : TGs := fun vs σ H Q =>
  ∃ F ρ ds ρ', Rl K mg F H ρ σ ∧ DatL K mg F ds vs ∧ h ds ρ = some ρ' ∧ ∀ σ', SetsOnly is σ σ' → Rl K mg F H ρ' σ' → Q σ' H
abbrev GD (X : Cx) (is : List Nat) (tg : Expr) (h : D → List Sl → Option (List Sl)) : Prop := PG X tg (tgD X.K X.mg is h)
abbrev GsD (X : Cx) (is : List Nat) (tgs : List Expr) (h : List D → List Sl → Option (List Sl)) : Prop := PGs X tgs (tgsD X.K X.mg is h)
theorem PG.to {X : Cx} {e : Expr} {t t' : TG} (h : PG X e t) (m : ∀ v σ H Q, t' v σ H Q → t v σ H Q) : PG X e t' := ⟨fun pins s σ H v u Q I r q => h.run pins s σ H v u Q I r (m _ _ _ _ q)⟩
theorem PGs.to {X : Cx} {e : List Expr} {t t' : TGs} (h : PGs X e t) (m : ∀ v σ H Q, t' v σ H Q → t v σ H Q) : PGs X e t' := ⟨fun pins s σ H v u Q I r q => h.run pins s σ H v u Q I r (m _ _ _ _ q)⟩
def setN (i : Nat) (d : D) (ρ : List Sl) : Option (List Sl) := some (ρ.set i (.d d))
def nilN (ds : List D) (ρ : List Sl) : Option (List Sl) := match ds with
  | [] => some ρ
  | _ => none
def consN (h : D → List Sl → Option (List Sl)) (hs : List D → List Sl → Option (List Sl)) (ds : List D) (ρ : List Sl) : Option (List Sl) := match ds with
  | d :: r => (h d ρ).bind (hs r)
  | [] => none
def tupN (n : Nat) (hs : List D → List Sl → Option (List Sl)) (d : D) (ρ : List Sl) : Option (List Sl) := match d with
  | .tup ds => if ds.length = n then hs ds ρ else none
  | _ => none
section
variable {X : Cx} {W : WX} {b : Bool} {tg e a c : Expr} {es rest : List Expr} {pos p p2 apos tpos : Pos} {f g k : EF} {af ag ah : AF} {tf : TF} {x : Str} {elts : List Expr} {kk : Nat} {is js : List Nat}
theorem gd_name (i : Nat) (hN : X.N.Nodup) (hi : X.N[i]? = some x := by rfl) (hx : Loc X.env.scope x) (hf : X.fn x = true ∨ X.env.scope.names.lookup x = some .local := by first | exact .inl rfl | exact .inr rfl | assumption) : GD X [i] (.Name x pos) (setN i) := by
  refine PG.to (pg_name hN hi hx hf) fun v σ H Q q => ?_
  obtain ⟨F, ρ, d, ρ', rl, hd, hh, q⟩ := q
  cases hh
  refine q _ ⟨by rw [List.length_set], fun j hj => ?_⟩ (rl.set hd i)
  rw [List.getElem?_set_ne fun z => hj (by rw [z]; exact List.mem_singleton.mpr rfl)]
theorem gsd_nil : GsD X [] [] nilN := by
  refine PGs.to pgs_nil fun vs σ H Q q => ?_
  obtain ⟨F, ρ, ds, ρ', rl, hd, hh, q⟩ := q
  cases ds with
  | nil =>
    cases hh
    cases (show vs = [] from hd)
    exact ⟨rfl, q _ SetsOnly.refl rl⟩
  | cons d r => cases hh
theorem gsd_cons {h : D → List Sl → Option (List Sl)} {hs : List D → List Sl → Option (List Sl)} (h1 : GD X is e h) (h2 : GsD X js es hs) (hs' : (assignEach (e :: es) X.env).map (·.2) = assign e X.env :: (assignEach es X.env).map (·.2) := by rfl) : GsD X (is ++ js) (e :: es) (consN h hs) := by
  refine PGs.to (pgs_cons h1 h2 hs') fun vs σ H Q q => ?_
  obtain ⟨F, ρ, ds, ρ', rl, hd, hh, q⟩ := q
  cases ds with
  | nil => cases hh
  | cons d r =>
    obtain ⟨x, rs, rfl, hx, hr⟩ := hd
    replace hh : (h d ρ).bind (hs r) = some ρ' := hh
    cases e1 : h d ρ with
    | none => rw [e1] at hh; cases hh
    | some ρ1 =>
      rw [e1] at hh
      exact ⟨x, rs, rfl, F, ρ, d, ρ1, rl, hx, e1, fun σ1 o1 rl1 => ⟨F, ρ1, r, ρ', rl1, hr, hh, fun σ2 o2 rl2 => q σ2 (o1.trans o2) rl2⟩⟩
theorem gd_tup {hs : List D → List Sl → Option (List Sl)} (n : Nat) (hc : X.calm = true) (h : GsD X is es hs) (hn : (assignEach es X.env).length = n := by rfl) (hst : (assignEach es X.env).findIdx? (·.1) = none := by rfl) : GD X is (.Tuple es kk pos) (tupN n hs) := by
  refine PG.to (pg_tup hc h hn hst) fun v σ H Q q => ?_
  obtain ⟨F, ρ, d, ρ', rl, hd, hh, q⟩ := q
  cases d with
  | tup ds =>
    obtain ⟨a, xs, rfl, h1, h2⟩ := hd
    replace hh : (if ds.length = n then hs ds ρ else none) = some ρ' := hh
    split at hh
    · rename_i hl
      exact ⟨a, xs, rfl, same_sqT rl.sub h1, by rw [h2.len]; exact hl, F, ρ, ds, ρ', rl, h2, hh, q⟩
    · cases hh
  | _ => cases hh

/-! ### comprehensions -/
def wipeS (ρ : List Sl) : List Nat → List Sl
  | [] => ρ
  | v :: vs => (wipeS ρ vs).set v .un
theorem Rl.wipe {K : Frag} {mg : MG} {F H : Hp} {ρ : List Sl} {σ : L2.St} (r : Rl K mg F H ρ σ) : ∀ vs : List Nat, Rl K mg F H (wipeS ρ vs) (wipe σ vs)
  | [] => r
  | v :: vs => (r.wipe vs).setUn v none
theorem wipe_at {σ : L2.St} {j : Nat} : ∀ {vs : List Nat}, j ∈ vs → (L2.wipe σ vs)[j]? = if j < σ.length then some none else none
  | v :: vs, h => by
    unfold L2.wipe
    rw [set_get, L2.wipe_length]
    by_cases hv : v = j
    · rw [if_pos hv]
    · rw [if_neg hv]
      exact wipe_at ((List.mem_cons.mp h).resolve_left fun z => hv z.symm)
theorem wipe_sets {σ σ2 : L2.St} {vs : List Nat} (h : SetsOnly is (L2.wipe σ vs) σ2) (hv : ∀ i ∈ is, i ∈ vs) : L2.wipe σ2 vs = L2.wipe σ vs := by
  have hl : σ2.length = σ.length := h.1.trans (L2.wipe_length σ vs)
  apply List.ext_getElem?
  intro j
  by_cases hj : j ∈ vs
  · rw [wipe_at hj, wipe_at hj, hl]
  · rw [L2.wipe_out hj, h.2 j fun z => hj (hv j z)]
abbrev WF : WX := fun _ _ _ _ => False
abbrev TsD (X : Cx) (W : WX) (ifs : List Expr) (f : TF) : Prop := PTs X ifs (tT X.K X.mg W f)
theorem PTs.to {X : Cx} {e : List Expr} {t t' : TT} (h : PTs X e t) (m : ∀ σ H Q, t' σ H Q → t σ H Q) : PTs X e t' := ⟨fun pins s σ H Q I q => h.run pins s σ H Q I (m _ _ _ q)⟩
theorem tsd_nil : TsD X W [] (fun _ => ok true) := by
  refine PTs.to pts_nil fun σ H Q h => ?_
  obtain ⟨F, ρ, r, rl, h, _, hk⟩ := h
  cases h
  exact hk true rfl true F H (Grow.refl rl.sub) rfl
theorem tsd_one (h : TD X W c tf) : TsD X W [c] tf := pts_one h
/-- one turn after another -/
def lcGo (h : D → List Sl → Option (List Sl)) (t : TF) (f : EF) (ρ : List Sl) : List D → Option (List D)
  | [] => some []
  | d :: r => match h d ρ with
    | none => none
    | some ρ' => match t ρ' with
      | some (.ok true) => match f ρ' with
        | some (.ok y) => (lcGo h t f ρ r).map (y :: ·)
        | _ => none
      | some (.ok false) => lcGo h t f ρ r
      | _ => none
def lcN (it : AF) (h : D → List Sl → Option (List Sl)) (t : TF) (f : EF) (vs : List Nat) : AF := fun ρ => bnd (it ρ) fun l => if l.length ≤ 16777216 then opt (lcGo h t f (wipeS ρ vs) l) else none
theorem drop_get {l : List D} {i : Nat} {d : D} (h : l[i]? = some d) : l.drop i = d :: l.drop (i + 1) := by
  obtain ⟨hi, e⟩ := List.getElem?_eq_some_iff.mp h
  rw [List.drop_eq_getElem_cons hi, e]
/-- the reading of a comprehension -/
theorem lc_run {h : D → List Sl → Option (List Sl)} {vs : List Nat} (hv : ∀ i ∈ is, i ∈ vs) (σ : L2.St) (H : Hp) (Q : VK) (q : tN X.K X.mg W (lcN af h tf f vs) σ H Q) : tLc (tI X.K X.mg W true af) (tgD X.K X.mg is h) (tT X.K X.mg WF tf) (tE X.K X.mg WF f) vs σ H Q := by
  obtain ⟨F, ρ, r, rl, q, er, hk⟩ := q
  replace q : bnd (af ρ) (fun l => if l.length ≤ 16777216 then opt (lcGo h tf f (wipeS ρ vs) l) else none) = some r := q
  cases ea : af ρ with
  | none => rw [ea] at q; cases q
  | some z =>
    rw [ea] at q
    cases z with
    | error z => cases q; exact ⟨F, ρ, .error z, rl, ea, (fun e' he' => er e' (by cases he'; rfl)), fun l z => nomatch z⟩
    | ok l =>
      replace q : (if l.length ≤ 16777216 then opt (lcGo h tf f (wipeS ρ vs) l) else none) = some r := q
      split at q
      · rename_i hl
        obtain ⟨tot, et, rfl⟩ := opt_some q
        refine ⟨F, ρ, .ok l, rl, ea, (fun e' he' => nomatch he'), fun l' z J F1 H1 g wk Dn hD => ?_⟩
        cases z
        -- what stands after i turns
        let Pv : Nat → Hp → Prop := fun i H' => ∃ F' ys xs zs, Grow F1 H1 F' H' ∧ F' Dn = none ∧ H' Dn = some (.lst xs) ∧ DatL X.K X.mg F' ys xs ∧ ys.length ≤ i ∧ lcGo h tf f (wipeS ρ vs) (l.drop i) = some zs ∧ tot = ys ++ zs
        have p0 : Pv 0 (upd H1 Dn (.lst [])) := ⟨F1, [], [], tot, Grow.own g.sub hD, g.sub.free hD, upd_same, DatL.nil, Nat.zero_le _, et, rfl⟩
        refine ⟨fun i m H' => m = l.length - i ∧ i ≤ l.length ∧ Pv i H', ⟨l.length, rfl, Nat.zero_le _, p0⟩, ?_⟩
        rintro i m H' ⟨rfl, hi, F', ys, xs, zs, g', fD, hD', hd, hys, hz, htot⟩
        by_cases hlt : i < l.length
        · refine .inr ⟨wk.go i F' H' hlt ⟨g'.fs, g'.sub, fun _ => g'.hs⟩, Pv (i + 1), fun H'' p => ⟨l.length - (i + 1), by omega, rfl, hlt, p⟩, fun v H2 y => ?_⟩
          obtain ⟨F2, d, g2, e2, d2⟩ := wk.yld i F' H' v H2 hlt ⟨g'.fs, g'.sub, fun _ => g'.hs⟩ y
          rw [drop_get e2] at hz
          have rl2 : Rl X.K X.mg F2 H2 (wipeS ρ vs) (L2.wipe σ vs) := (rl.grow ((g.trans g').trans g2)).wipe _
          unfold lcGo at hz
          split at hz
          · cases hz
          · rename_i ρ' eh
            refine ⟨F2, _, d, ρ', rl2, d2, eh, fun σ2 o2 rl3 => ⟨wipe_sets o2 hv, ?_⟩⟩
            have fin : ∀ {F4 H4 : Hp} (g4 : Grow F2 H2 F4 H4), F4 Dn = none ∧ H4 Dn = some (.lst xs) ∧ DatL X.K X.mg F4 ys xs := fun g4 => ⟨(g2.trans g4).new Dn _ hD' fD, (g2.trans g4).hs _ _ hD', hd.mono (g2.trans g4).fs⟩
            split at hz
            · rename_i et'
              split at hz
              · rename_i y ey
                refine ⟨F2, ρ', .ok true, rl3, et', (fun e' he' => nomatch he'), fun bb zb b' F3 H3 g3 eb => ?_⟩
                cases zb
                cases (show b' = true from eb)
                rw [if_pos rfl]
                refine ⟨F3, ρ', .ok y, rl3.grow g3, ey, (fun e' he' => nomatch he'), fun yy zy w F4 H4 g4 dy => ?_⟩
                cases zy
                obtain ⟨f4, h4, l4⟩ := fin (g3.trans g4)
                cases er' : lcGo h tf f (wipeS ρ vs) (l.drop (i + 1)) with
                | none => rw [er'] at hz; cases hz
                | some zs' =>
                  rw [er'] at hz
                  cases hz
                  have g5 := (g'.trans g2).trans (g3.trans g4)
                  refine ⟨xs, h4, by rw [sizeL, hd.len]; omega, F4, ys ++ [y], xs ++ [w], zs', ⟨g5.fs, fun b o e => ?_, fun b o e => ?_, g5.new⟩, f4, upd_same, l4.app (DatL.one dy), by simpa using hys, er', by simp [htot]⟩
                  · rw [upd_ne (ne_of_none e hD)]
                    exact g5.hs _ _ e
                  · rw [upd_ne (fun z => by rw [z, f4] at e; cases e)]
                    exact g5.sub _ _ e
              · cases hz
            · rename_i et'
              refine ⟨F2, ρ', .ok false, rl3, et', (fun e' he' => nomatch he'), fun bb zb b' F3 H3 g3 eb => ?_⟩
              cases zb
              cases (show b' = false from eb)
              rw [if_neg Bool.false_ne_true]
              obtain ⟨f4, h4, l4⟩ := fin g3
              exact ⟨F3, ys, xs, zs, (g'.trans g2).trans g3, f4, h4, l4, Nat.le_succ_of_le hys, hz, htot⟩
            · cases hz
        · have e : i = l.length := by omega
          subst e
          refine .inl ⟨wk.stop F' H' ⟨g'.fs, g'.sub, fun _ => g'.hs⟩, ?_⟩
          rw [List.drop_length] at hz
          cases hz
          rw [List.append_nil] at htot
          subst htot
          exact hk _ rfl Dn xs F' H' (g.trans g') (g.hs.free hD) fD hD' hd
      · cases q
theorem nd_lc {iter elt : Expr} {ifs : List Expr} {scope : Scope} {own : List (Str × Nat)} {h : D → List Sl → Option (List Sl)} (hc : X.calm = true) (hN : X.N.Nodup) (hi : ID X W true tg iter af) (ok' : BlkOk X.N X.env.scope scope own)
    (hg : ∀ (s : Shared) (H : Hp) (C : Addr) (cl : List (Str × Addr)) (fp : List Addr), GD (X.blk s H scope (compEnvC scope cl C X.env) fp) is tg h) (ht : ∀ (s : Shared) (H : Hp) (C : Addr) (cl : List (Str × Addr)) (fp : List Addr), TsD (X.blk s H scope (compEnvC scope cl C X.env) fp) WF ifs tf)
    (he : ∀ (s : Shared) (H : Hp) (C : Addr) (cl : List (Str × Addr)) (fp : List Addr), ED (X.blk s H scope (compEnvC scope cl C X.env) fp) WF elt f) (hv : ∀ i ∈ is, i ∈ own.map (·.2) := by decide) (hs : ∀ x, foldedSetIterable iter X.env x = pure x := by intro _; rfl) :
    ND X W (.ListComp elt [⟨tg, iter, ifs, 0⟩] scope pos) (lcN af h tf f (own.map (·.2))) := by
  exact PE.to (pe_lc (g := tgD X.K X.mg is h) (tt := tT X.K X.mg WF tf) (te := tE X.K X.mg WF f) hc hN hi ok' hg ht he hs) fun σ H Q q => lc_run hv σ H Q q
end
end PD
set_option Elab.async false
set_option linter.all false
set_option maxRecDepth 100000
set_option maxHeartbeats 2000000
set_option autoImplicit false
/-! Statements told by plain functions of the slots. -/
namespace PD
open PySem PySem.Spec L2 PyProof.Rows

inductive Out where
  | nx (ρ : List Sl) | rt (d : D) | bk (ρ : List Sl) | ct (ρ : List Sl) | er (e : Exn) (ρ : List Sl)
abbrev SF := List Sl → Option Out
/-- F0, H0: as the def began -/
structure StOk (K : Frag) (mg : MG) (F0 H0 : Hp) (A0 : Addr) (F H : Hp) (ρ : List Sl) (σ : L2.St) : Prop where
  g : Grow F0 H0 F H
  rl : Rl K mg F H ρ σ
  ow : ∀ (i : Nat) (t : Sl) (a : Addr), ρ[i]? = some t → t.ow = true → σ[i]? = some (some (.ref a)) → H0 a = none
  ob : ∀ (i : Nat) (c : Str) (fs : List (Str × D)) (a : Addr), ρ[i]? = some (.obj c fs) → σ[i]? = some (some (.ref a)) → a = A0
def OutOk (K : Frag) (mg : MG) (W : WX) (F0 H0 : Hp) (A0 : Addr) (F : Hp) (E : Ends) : Out → Prop
  | .nx ρ' => ∀ σ' F' H', Same F F' → StOk K mg F0 H0 A0 F' H' ρ' σ' → E.nx σ' H'
  | .rt d => ∀ v F' H', Same F F' → Grow F0 H0 F' H' → Dat K mg F' d v → E.rt v H'
  | .bk ρ' => ∀ σ' F' H', Same F F' → StOk K mg F0 H0 A0 F' H' ρ' σ' → E.bk σ' H'
  | .ct ρ' => ∀ σ' F' H', Same F F' → StOk K mg F0 H0 A0 F' H' ρ' σ' → E.ct σ' H'
  | .er e ρ' => ∀ cls dd σ' F' H', Same F F' → StOk K mg F0 H0 A0 F' H' ρ' σ' → ExD K mg F' e cls dd → W cls dd σ' H'
def tS (K : Frag) (mg : MG) (W : WX) (g : SF) : TS := fun E σ H =>
  ∃ F0 H0 A0 F ρ o, StOk K mg F0 H0 A0 F H ρ σ ∧ g ρ = some o ∧ OutOk K mg W F0 H0 A0 F E o
abbrev StD (X : Cx) (W : WX) (st : Stmt) (g : SF) : Prop := PS X st (tS X.K X.mg W g)
abbrev SsD (X : Cx) (W : WX) (sts : List Stmt) (g : SF) : Prop := PSs X sts (tS X.K X.mg W g)
section
variable {K : Frag} {mg : MG} {W : WX} {F0 H0 F H F' H' : Hp} {A0 : Addr} {ρ : List Sl} {σ : L2.St} {E : Ends} {o : Out}
theorem StOk.grow (s : StOk K mg F0 H0 A0 F H ρ σ) (g : Grow F H F' H') : StOk K mg F0 H0 A0 F' H' ρ σ := ⟨s.g.trans g, s.rl.grow g, s.ow, s.ob⟩
theorem OutOk.up (h : OutOk K mg W F0 H0 A0 F E o) (s : Same F F') : OutOk K mg W F0 H0 A0 F' E o := by
  cases o with
  | nx ρ => exact fun σ' F' H' s' q => h σ' F' H' (s.trans s') q
  | rt d => exact fun σ' F' H' s' q => h σ' F' H' (s.trans s') q
  | bk ρ => exact fun σ' F' H' s' q => h σ' F' H' (s.trans s') q
  | ct ρ => exact fun σ' F' H' s' q => h σ' F' H' (s.trans s') q
  | er e ρ => exact fun c d σ' F' H' s' q => h c d σ' F' H' (s.trans s') q
/-- an expression's error, in a statement -/
theorem ErrOk.of {α : Type} {r : Except Exn α} (s : StOk K mg F0 H0 A0 F H ρ σ) (h : ∀ e, r = .error e → OutOk K mg W F0 H0 A0 F E (.er e ρ)) : ErrOk K mg F H W σ r :=
  fun e he cls dd F' H' g x => h e he cls dd σ F' H' g.fs (s.grow g) x
/-- a value into a slot -/
theorem StOk.set (s : StOk K mg F0 H0 A0 F H ρ σ) {d : D} {v : V} (h : Dat K mg F d v) (i : Nat) : StOk K mg F0 H0 A0 F H (ρ.set i (.d d)) (σ.set i (some v)) := by
  refine ⟨s.g, s.rl.set h i, fun j t a e1 o1 e2 => ?_, fun j c fs a e1 e2 => ?_⟩
  · rw [set_get] at e1 e2
    by_cases hi : i = j
    · rw [if_pos hi] at e1
      split at e1 <;> cases e1
      cases o1
    · rw [if_neg hi] at e1 e2
      exact s.ow j t a e1 o1 e2
  · rw [set_get] at e1 e2
    by_cases hi : i = j
    · rw [if_pos hi] at e1
      split at e1 <;> cases e1
    · rw [if_neg hi] at e1 e2
      exact s.ob j c fs a e1 e2
theorem StOk.setNo (s : StOk K mg F0 H0 A0 F H ρ σ) {t : Sl} {v : Option V} {i : Nat} (nt : t.ow = false) (rl : Rl K mg F H (ρ.set i t) (σ.set i v)) : StOk K mg F0 H0 A0 F H (ρ.set i t) (σ.set i v) := by
  refine ⟨s.g, rl, fun j t' a e1 o1 e2 => ?_, fun j c fs a e1 e2 => ?_⟩
  · rw [set_get] at e1 e2
    by_cases hi : i = j
    · rw [if_pos hi] at e1
      split at e1
      · cases e1
        rw [nt] at o1
        cases o1
      · cases e1
    · rw [if_neg hi] at e1 e2
      exact s.ow j t' a e1 o1 e2
  · rw [set_get] at e1 e2
    by_cases hi : i = j
    · rw [if_pos hi] at e1
      split at e1
      · cases e1
        cases nt
      · cases e1
    · rw [if_neg hi] at e1 e2
      exact s.ob j c fs a e1 e2
/-- a new thing of one's own into a slot -/
theorem StOk.setOw (s : StOk K mg F0 H0 A0 F H ρ σ) {t : Sl} {p : Addr} (h : SlOk K mg F H t (some (some (.ref p)))) (h0 : H0 p = none) (fr : ∀ (i : Nat) (u : Sl), ρ[i]? = some u → u.ow = true → σ[i]? ≠ some (some (.ref p))) (hob : ∀ c fs, t = .obj c fs → p = A0) (i : Nat) :
    StOk K mg F0 H0 A0 F H (ρ.set i t) (σ.set i (some (.ref p))) := by
  refine ⟨s.g, s.rl.setOw fr h i, fun j m a e1 o1 e2 => ?_, fun j c fs a e1 e2 => ?_⟩
  · rw [set_get] at e1 e2
    by_cases hi : i = j
    · rw [if_pos hi] at e2
      split at e2
      · cases e2
        exact h0
      · cases e2
    · rw [if_neg hi] at e1 e2
      exact s.ow j m a e1 o1 e2
  · rw [set_get] at e1 e2
    by_cases hi : i = j
    · rw [if_pos hi] at e1 e2
      split at e1
      · cases e1
        split at e2
        · cases e2
          exact hob _ _ rfl
        · cases e2
      · cases e1
    · rw [if_neg hi] at e1 e2
      exact s.ob j c fs a e1 e2
/-- the addresses of slots that own differ from a new one -/
theorem Rl.fresh (r : Rl K mg F H ρ σ) {p : Addr} (hp : H p = none) : ∀ (i : Nat) (u : Sl), ρ[i]? = some u → u.ow = true → σ[i]? ≠ some (some (.ref p)) := fun i u e o z => by
  have q := r.sl i u e
  cases u with
  | un => cases o
  | d d => cases o
  | own l =>
    obtain ⟨a, xs, h1, h2, h3, h4⟩ := q
    rw [z] at h1
    cases h1
    rw [hp] at h3
    cases h3
  | obj c fs =>
    obtain ⟨a, C, dx, gs, h1, h2, h3, h4, h5⟩ := q
    rw [z] at h1
    cases h1
    rw [hp] at h4
    cases h4
  | exc a e cls dd => cases o
/-- what an owned slot owns is rewritten -/
theorem StOk.mutO (s : StOk K mg F0 H0 A0 F H ρ σ) {i : Nat} {t t' : Sl} {a : Addr} {o' : HO} (e1 : ρ[i]? = some t) (ot : t.ow = true) (ot' : t'.ow = true) (e2 : σ[i]? = some (some (.ref a))) (hF : F a = none) (hob : ∀ c fs, t' = .obj c fs → a = A0) (h : SlOk K mg F (upd H a o') t' (some (some (.ref a)))) :
    StOk K mg F0 H0 A0 F (upd H a o') (ρ.set i t') σ := by
  have ha := s.ow i t a e1 ot e2
  have back : ∀ (j : Nat) (u : Sl), (ρ.set i t')[j]? = some u → u.ow = true → ∃ u' : Sl, ρ[j]? = some u' ∧ u'.ow = true := fun j u e o => by
    rw [set_get] at e
    by_cases hi : i = j
    · subst hi; exact ⟨t, e1, ot⟩
    · rw [if_neg hi] at e; exact ⟨u, e, o⟩
  refine ⟨⟨s.g.fs, fun b o e => ?_, fun b o e => ?_, s.g.new⟩, ⟨fun b o e => ?_, by rw [List.length_set]; exact s.rl.len, fun j sl e => ?_, fun j k m n b hjk h1 o1 h2 o2 h3 => ?_⟩, fun j m b h1 o1 h2 => ?_, fun j c fs b h1 h2 => ?_⟩
  · rw [upd_ne (ne_of_none e ha)]; exact s.g.hs _ _ e
  · rw [upd_ne (ne_of_none e hF)]; exact s.g.sub _ _ e
  · rw [upd_ne (ne_of_none e hF)]; exact s.rl.sub _ _ e
  · rw [set_get] at e
    by_cases hi : i = j
    · subst hi
      rw [if_pos rfl] at e
      split at e
      · cases e
        rw [e2]
        exact h
      · cases e
    · rw [if_neg hi] at e
      have z := s.rl.sl j sl e
      cases sl with
      | un => trivial
      | d d => exact z
      | own m =>
        obtain ⟨b, ys, z1, z2, z3, z4⟩ := z
        refine ⟨b, ys, z1, z2, ?_, z4⟩
        rw [upd_ne fun w => ?_]
        · exact z3
        · rw [w] at z1
          exact s.rl.ne i j t _ a hi e1 ot e rfl e2 z1
      | obj c fs =>
        obtain ⟨b, C, dx, gs, z1, z2, z3, z4, z5⟩ := z
        refine ⟨b, C, dx, gs, z1, z2, z3, ?_, z5⟩
        rw [upd_ne fun w => ?_]
        · exact z4
        · rw [w] at z1
          exact s.rl.ne i j t _ a hi e1 ot e rfl e2 z1
      | exc b e cls dd => exact z
  · obtain ⟨m', h1, o1⟩ := back j m h1 o1
    obtain ⟨n', h2, o2⟩ := back k n h2 o2
    exact s.rl.ne j k m' n' b hjk h1 o1 h2 o2 h3
  · obtain ⟨m', h1, o1⟩ := back j m h1 o1
    exact s.ow j m' b h1 o1 h2
  · rw [set_get] at h1
    by_cases hi : i = j
    · subst hi
      rw [if_pos rfl] at h1
      split at h1
      · cases h1
        rw [e2] at h2
        cases h2
        exact hob _ _ rfl
      · cases h1
    · rw [if_neg hi] at h1
      exact s.ob j c fs b h1 h2
/-- a slot's own list is rewritten -/
theorem StOk.mut (s : StOk K mg F0 H0 A0 F H ρ σ) {i : Nat} {l l' : List D} {xs' : List V} {a : Addr} (e1 : ρ[i]? = some (.own l)) (e2 : σ[i]? = some (some (.ref a))) (h : DatL K mg F l' xs') :
    StOk K mg F0 H0 A0 F (upd H a (.lst xs')) (ρ.set i (.own l')) σ := by
  obtain ⟨a', xs, q1, q2, q3, q4⟩ := s.rl.sl i _ e1
  rw [e2] at q1
  cases q1
  exact s.mutO e1 rfl rfl e2 q2 (fun _ _ z => nomatch z) ⟨a, xs', rfl, q2, upd_same, h⟩
/-- what a slot owns is frozen -/
theorem StOk.frzO (s : StOk K mg F0 H0 A0 F H ρ σ) {i : Nat} {t : Sl} {a : Addr} {o : HO} {d : D} (e1 : ρ[i]? = some t) (ot : t.ow = true) (q1 : σ[i]? = some (some (.ref a))) (q2 : F a = none) (q3 : H a = some o) (hd : Dat K mg (upd F a o) d (.ref a)) :
    StOk K mg F0 H0 A0 (upd F a o) H (ρ.set i (.d d)) σ := by
  have ha := s.ow i t a e1 ot q1
  have sm : Same F (upd F a o) := same_upd q2
  have old : ∀ (j : Nat) (u : Sl), (ρ.set i (Sl.d d))[j]? = some u → u.ow = true → ρ[j]? = some u ∧ i ≠ j := fun j u e ou => by
    rw [set_get] at e
    by_cases hi : i = j
    · rw [if_pos hi] at e
      split at e <;> cases e
      cases ou
    · rw [if_neg hi] at e; exact ⟨e, hi⟩
  refine ⟨s.g.freeze ha q3 q2, ⟨fun b o' e => ?_, by rw [List.length_set]; exact s.rl.len, fun j sl e => ?_, fun j k m n b hjk h1 o1 h2 o2 => s.rl.ne j k m n b hjk (old j m h1 o1).1 o1 (old k n h2 o2).1 o2⟩, fun j m b h1 o1 h2 => s.ow j m b (old j m h1 o1).1 o1 h2, fun j c fs b h1 h2 => s.ob j c fs b (old j _ h1 rfl).1 h2⟩
  · by_cases hb : b = a
    · rw [hb, upd_same] at e
      cases e
      rw [hb]
      exact q3
    · rw [upd_ne hb] at e
      exact s.rl.sub _ _ e
  · rw [set_get] at e
    by_cases hi : i = j
    · subst hi
      rw [if_pos rfl] at e
      split at e
      · cases e
        exact ⟨_, q1, hd⟩
      · cases e
    · rw [if_neg hi] at e
      have z := s.rl.sl j sl e
      cases sl with
      | un => trivial
      | d d =>
        obtain ⟨v, z1, z2⟩ := z
        exact ⟨v, z1, z2.mono sm⟩
      | own m =>
        obtain ⟨b, ys, z1, z2, z3, z4⟩ := z
        refine ⟨b, ys, z1, ?_, z3, z4.mono sm⟩
        rw [upd_ne fun w => ?_]
        · exact z2
        · rw [w] at z1
          exact s.rl.ne i j t _ a hi e1 ot e rfl q1 z1
      | obj c fs =>
        obtain ⟨b, C, dx, gs, z1, z2, z3, z4, z5, z6⟩ := z
        refine ⟨b, C, dx, gs, z1, ?_, z3, z4, z5, z6.mono sm⟩
        rw [upd_ne fun w => ?_]
        · exact z2
        · rw [w] at z1
          exact s.rl.ne i j t _ a hi e1 ot e rfl q1 z1
      | exc b e cls dd => exact ⟨z.1, z.2.mono sm⟩
theorem StOk.frz (s : StOk K mg F0 H0 A0 F H ρ σ) {i : Nat} {l : List D} (e1 : ρ[i]? = some (.own l)) : ∃ F', Same F F' ∧ StOk K mg F0 H0 A0 F' H (ρ.set i (.d (.lst l))) σ := by
  obtain ⟨a, xs, q1, q2, q3, q4⟩ := s.rl.sl i _ e1
  have sm : Same F (upd F a (.lst xs)) := same_upd q2
  exact ⟨_, sm, s.frzO e1 rfl q1 q2 q3 ⟨a, xs, rfl, upd_same, q4.mono sm⟩⟩
/-- an instance of one's own, as data -/
def insOf (c : Str) (fs : List (Str × D)) : D := .ins c (fs.map (·.1)) (fs.map (·.2))
theorem StOk.frzI (s : StOk K mg F0 H0 A0 F H ρ σ) {i : Nat} {c : Str} {fs : List (Str × D)} (e1 : ρ[i]? = some (.obj c fs)) : ∃ F', Same F F' ∧ StOk K mg F0 H0 A0 F' H (ρ.set i (.d (insOf c fs))) σ := by
  obtain ⟨a, C, dx, gs, q1, q2, q5, q3, q6, q4⟩ := s.rl.sl i _ e1
  have sm : Same F (upd F a (.ins C dx gs)) := same_upd q2
  exact ⟨_, sm, s.frzO e1 rfl q1 q2 q3 ⟨C, a, dx, gs, q5, rfl, upd_same, q6, q4.mono sm⟩⟩
end
/-- an expression's outcome as a statement's -/
def xS (r : R (List Sl)) (ρ : List Sl) : Option Out := match r with
  | some (.ok ρ') => some (.nx ρ')
  | some (.error e) => some (.er e ρ)
  | none => none
def thnS {α : Type} (r : R α) (ρ : List Sl) (k : α → Option Out) : Option Out := match r with
  | some (.ok a) => k a
  | some (.error e) => some (.er e ρ)
  | none => none
section
variable {X : Cx} {W : WX} {e a b c tg : Expr} {es rest : List Expr} {pos p p2 apos tpos : Pos} {f g k : EF} {af ag ah : AF} {tf tg' : TF} {x : Str} {st : Stmt} {sts : List Stmt} {g1 g2 : SF} {h : D → List Sl → Option (List Sl)} {is : List Nat}
/-- the first expression of a statement -/
theorem stepS {α β : Type} {Rep : Hp → α → β → Prop} {fx : List Sl → R α} {kk : α → Option Out} {F0 H0 F H : Hp} {A0 : Addr} {ρ : List Sl} {σ : L2.St} {E : Ends} {o : Out} {Q : β → Hp → Prop} (s : StOk X.K X.mg F0 H0 A0 F H ρ σ) (hg : thnS (fx ρ) ρ kk = some o) (ho : OutOk X.K X.mg W F0 H0 A0 F E o)
    (hk : ∀ a, kk a = some o → ∀ b F' H', Grow F H F' H' → StOk X.K X.mg F0 H0 A0 F' H' ρ σ → OutOk X.K X.mg W F0 H0 A0 F' E o → Rep F' a b → Q b H') : tX Rep X.K X.mg W fx σ H Q := by
  cases ex : fx ρ with
  | none => rw [ex] at hg; cases hg
  | some z =>
    rw [ex] at hg
    cases z with
    | error z =>
      replace hg : some (Out.er z ρ) = some o := hg
      cases hg
      exact ⟨F, ρ, .error z, s.rl, ex, ErrOk.of (E := E) s fun e' he' => by cases he'; exact ho, fun a z => nomatch z⟩
    | ok z =>
      exact ⟨F, ρ, .ok z, s.rl, ex, (fun e' he' => nomatch he'), fun a' za b F' H' g rp => by
        cases za
        exact hk z hg b F' H' g (s.grow g) (ho.up g.fs) rp⟩
theorem stepSN {fx : AF} {kk : List D → Option Out} {F0 H0 F H : Hp} {A0 : Addr} {ρ : List Sl} {σ : L2.St} {E : Ends} {o : Out} {Q : VK} (s : StOk X.K X.mg F0 H0 A0 F H ρ σ) (hg : thnS (fx ρ) ρ kk = some o) (ho : OutOk X.K X.mg W F0 H0 A0 F E o)
    (hk : ∀ l, kk l = some o → ∀ a xs F' H', Grow F H F' H' → StOk X.K X.mg F0 H0 A0 F' H' ρ σ → OutOk X.K X.mg W F0 H0 A0 F' E o → H a = none → F' a = none → H' a = some (.lst xs) → DatL X.K X.mg F' l xs → Q (.ref a) H') : tN X.K X.mg W fx σ H Q := by
  cases ex : fx ρ with
  | none => rw [ex] at hg; cases hg
  | some z =>
    rw [ex] at hg
    cases z with
    | error z =>
      replace hg : some (Out.er z ρ) = some o := hg
      cases hg
      exact ⟨F, ρ, .error z, s.rl, ex, ErrOk.of (E := E) s fun e' he' => by cases he'; exact ho, fun a z => nomatch z⟩
    | ok z =>
      exact ⟨F, ρ, .ok z, s.rl, ex, (fun e' he' => nomatch he'), fun a' za b xs F' H' g n1 n2 n3 rp => by
        cases za
        exact hk z hg b xs F' H' g (s.grow g) (ho.up g.fs) n1 n2 n3 rp⟩
theorem stepSL {fx : AF} {kk : List D → Option Out} {F0 H0 F H : Hp} {A0 : Addr} {ρ : List Sl} {σ : L2.St} {E : Ends} {o : Out} {Q : VK} (s : StOk X.K X.mg F0 H0 A0 F H ρ σ) (hg : thnS (fx ρ) ρ kk = some o) (ho : OutOk X.K X.mg W F0 H0 A0 F E o)
    (hk : ∀ l, kk l = some o → ∀ a xs F' H', Grow F H F' H' → StOk X.K X.mg F0 H0 A0 F' H' ρ σ → OutOk X.K X.mg W F0 H0 A0 F' E o → H' a = some (.lst xs) → DatL X.K X.mg F' l xs → Q (.ref a) H') : tL X.K X.mg W fx σ H Q := by
  cases ex : fx ρ with
  | none => rw [ex] at hg; cases hg
  | some z =>
    rw [ex] at hg
    cases z with
    | error z =>
      replace hg : some (Out.er z ρ) = some o := hg
      cases hg
      exact ⟨F, ρ, .error z, s.rl, ex, ErrOk.of (E := E) s fun e' he' => by cases he'; exact ho, fun a z => nomatch z⟩
    | ok z =>
      exact ⟨F, ρ, .ok z, s.rl, ex, (fun e' he' => nomatch he'), fun a' za b xs F' H' g n3 rp => by
        cases za
        exact hk z hg b xs F' H' g (s.grow g) (ho.up g.fs) n3 rp⟩

/-! ### blocks -/
def nilS : SF := fun ρ => some (.nx ρ)
def seqS (g1 g2 : SF) : SF := fun ρ => match g1 ρ with
  | some (.nx ρ') => g2 ρ'
  | o => o
theorem ss_nil : SsD X W [] nilS := by
  refine PSs.to pss_nil fun E σ H q => ?_
  obtain ⟨F0, H0, A0, F, ρ, o, s, hg, ho⟩ := q
  cases hg
  exact ho σ F H (Same.refl _) s
theorem ss_cons (h1 : StD X W st g1) (h2 : SsD X W sts g2) : SsD X W (st :: sts) (seqS g1 g2) := by
  refine PSs.to (pss_cons h1 h2) fun E σ H q => ?_
  obtain ⟨F0, H0, A0, F, ρ, o, s, hg, ho⟩ := q
  unfold seqS at hg
  split at hg
  · rename_i ρ' e1
    exact ⟨F0, H0, A0, F, ρ, _, s, e1, fun σ' F' H' sm s' => ⟨F0, H0, A0, F', ρ', o, s', hg, ho.up sm⟩⟩
  · rename_i hn
    refine ⟨F0, H0, A0, F, ρ, o, s, hg, ?_⟩
    cases o with
    | nx ρ' => exact absurd hg (hn ρ')
    | rt d => exact ho
    | bk ρ => exact ho
    | ct ρ => exact ho
    | er e ρ => exact ho
theorem ss_one (h1 : StD X W st g1) : SsD X W [st] g1 := pss_one h1
theorem st_pass : StD X W (.Pass pos) nilS := by
  refine PS.to ps_pass fun E σ H q => ?_
  obtain ⟨F0, H0, A0, F, ρ, o, s, hg, ho⟩ := q
  cases hg
  exact ho σ F H (Same.refl _) s
def bkS : SF := fun ρ => some (.bk ρ)
def ctS : SF := fun ρ => some (.ct ρ)
theorem st_break : StD X W (.Break pos) bkS := by
  refine PS.to ps_break fun E σ H q => ?_
  obtain ⟨F0, H0, A0, F, ρ, o, s, hg, ho⟩ := q
  cases hg
  exact ho σ F H (Same.refl _) s
theorem st_cont : StD X W (.Continue pos) ctS := by
  refine PS.to ps_continue fun E σ H q => ?_
  obtain ⟨F0, H0, A0, F, ρ, o, s, hg, ho⟩ := q
  cases hg
  exact ho σ F H (Same.refl _) s
def retS (f : EF) : SF := fun ρ => thnS (f ρ) ρ fun d => some (.rt d)
theorem st_ret (he : ED X W e f) : StD X W (.Return (some e) pos) (retS f) := by
  refine PS.to (ps_ret he) fun E σ H q => ?_
  obtain ⟨F0, H0, A0, F, ρ, o, s, hg, ho⟩ := q
  refine stepS s hg ho fun d z v F1 H1 g1 s1 ho1 hd => ?_
  cases z
  exact ho1 v F1 H1 (Same.refl _) s1.g hd
def retNS : SF := fun _ => some (.rt .non)
theorem st_retN : StD X W (.Return none pos) retNS := by
  refine PS.to ps_retN fun E σ H q => ?_
  obtain ⟨F0, H0, A0, F, ρ, o, s, hg, ho⟩ := q
  cases hg
  exact ho _ F H (Same.refl _) s.g rfl
def dropS (f : EF) : SF := fun ρ => thnS (f ρ) ρ fun _ => some (.nx ρ)
theorem st_drop (he : ED X W e f) (hs : swapsWith e none pos.line X.env = pure false := by rfl) : StD X W (.Expr e pos) (dropS f) := by
  refine PS.to (ps_expr he hs) fun E σ H q => ?_
  obtain ⟨F0, H0, A0, F, ρ, o, s, hg, ho⟩ := q
  refine stepS s hg ho fun d z v F1 H1 g1 s1 ho1 hd => ?_
  cases z
  exact ho1 σ F1 H1 (Same.refl _) s1
def ifS (t : TF) (g1 g2 : SF) : SF := fun ρ => thnS (t ρ) ρ fun b => if b = true then g1 ρ else g2 ρ
theorem st_if {s1 s2 : List Stmt} (hc : TD X W c tf) (ha : SsD X W s1 g1) (hb : SsD X W s2 g2) : StD X W (.If c s1 s2 pos) (ifS tf g1 g2) := by
  refine PS.to (ps_if hc ha hb) fun E σ H q => ?_
  obtain ⟨F0, H0, A0, F, ρ, o, s, hg, ho⟩ := q
  refine stepS s hg ho fun b z v F1 H1 g1 s1 ho1 hd => ?_
  subst hd
  split at z
  · rename_i hb
    rw [if_pos hb]
    exact ⟨F0, H0, A0, F1, ρ, o, s1, z, ho1⟩
  · rename_i hb
    rw [if_neg hb]
    exact ⟨F0, H0, A0, F1, ρ, o, s1, z, ho1⟩

/-! ### assignments -/
def asgS (i : Nat) (f : EF) : SF := fun ρ => thnS (f ρ) ρ fun d => some (.nx (ρ.set i (.d d)))
theorem st_set {py : Pos} (i : Nat) (hN : X.N.Nodup) (he : ED X W e f) (hi : X.N[i]? = some x := by rfl) (hx : Loc X.env.scope x) (hs : swapsWith e (some (.Name x py)) pos.line X.env = pure false := by rfl) (hf : X.fn x = true ∨ X.env.scope.names.lookup x = some .local := by first | exact .inl rfl | exact .inr rfl | assumption) :
    StD X W (.Assign [.Name x py] e pos) (asgS i f) := by
  refine PS.to (ps_set hN hi hx he hs hf) fun E σ H q => ?_
  obtain ⟨F0, H0, A0, F, ρ, o, s, hg, ho⟩ := q
  refine stepS s hg ho fun d z v F1 H1 g1 s1 ho1 hd => ?_
  cases z
  exact ho1 _ F1 H1 (Same.refl _) (s1.set hd i)
def ownS (i : Nat) (f : AF) : SF := fun ρ => thnS (f ρ) ρ fun l => some (.nx (ρ.set i (.own l)))
theorem st_own {py : Pos} (i : Nat) (hN : X.N.Nodup) (he : ND X W e af) (hi : X.N[i]? = some x := by rfl) (hx : Loc X.env.scope x) (hs : swapsWith e (some (.Name x py)) pos.line X.env = pure false := by rfl) (hf : X.fn x = true ∨ X.env.scope.names.lookup x = some .local := by first | exact .inl rfl | exact .inr rfl | assumption) :
    StD X W (.Assign [.Name x py] e pos) (ownS i af) := by
  refine PS.to (ps_set hN hi hx he hs hf) fun E σ H q => ?_
  obtain ⟨F0, H0, A0, F, ρ, o, s, hg, ho⟩ := q
  refine stepSN s hg ho fun l z a xs F1 H1 g1 s1 ho1 n1 n2 n3 hd => ?_
  cases z
  refine ho1 _ F1 H1 (Same.refl _) (s1.setOw (t := .own l) ⟨a, xs, rfl, n2, n3, hd⟩ (s.g.hs.free n1) (fun j t e1 o1 e2 => ?_) (fun _ _ z => nomatch z) i)
  exact s.rl.fresh n1 j t e1 o1 e2
/-- name = [..] on one line, the name a local -/
theorem st_lcN {py : Pos} {elt tg' iter : Expr} {ifs : List Expr} {scope : Scope} {own : List (Str × Nat)} {cpos : Pos} {tf' : TF} (i : Nat) (hc : X.calm = true) (hN : X.N.Nodup) (hi : ID X W true tg' iter af) (ok' : BlkOk X.N X.env.scope scope own)
    (hg : ∀ (s : Shared) (H : Hp) (C : Addr) (cl : List (Str × Addr)) (fp : List Addr), GD (X.blk s H scope (compEnvC scope cl C X.env) fp) is tg' h) (ht : ∀ (s : Shared) (H : Hp) (C : Addr) (cl : List (Str × Addr)) (fp : List Addr), TsD (X.blk s H scope (compEnvC scope cl C X.env) fp) WF ifs tf')
    (he : ∀ (s : Shared) (H : Hp) (C : Addr) (cl : List (Str × Addr)) (fp : List Addr), ED (X.blk s H scope (compEnvC scope cl C X.env) fp) WF elt f) (hv : ∀ i ∈ is, i ∈ own.map (·.2) := by decide) (hy : X.N[i]? = some x := by rfl) (hyl : X.env.scope.names.lookup x = some .local := by rfl)
    (hsw : swapsWith (.ListComp elt [⟨tg', iter, ifs, 0⟩] scope cpos) (some (.Name x py)) pos.line X.env = pure true := by rfl) (hs : ∀ x, foldedSetIterable iter X.env x = pure x := by intro _; rfl) :
    StD X W (.Assign [.Name x py] (.ListComp elt [⟨tg', iter, ifs, 0⟩] scope cpos) pos) (ownS i (lcN af h tf' f (own.map (·.2)))) := by
  refine PS.to (ps_setLc (g := tgD X.K X.mg is h) (tt := tT X.K X.mg WF tf') (te := tE X.K X.mg WF f) hc hN hy hyl hsw hi ok' hg ht he hs) fun E σ H q => ?_
  obtain ⟨F0, H0, A0, F, ρ, o, s, hg, ho⟩ := q
  refine lc_run hv σ H _ (stepSN s hg ho fun l z a xs F1 H1 g1 s1 ho1 n1 n2 n3 hd => ?_)
  cases z
  refine ho1 _ F1 H1 (Same.refl _) (s1.setOw (t := .own l) ⟨a, xs, rfl, n2, n3, hd⟩ (s.g.hs.free n1) (fun j t e1 o1 e2 => ?_) (fun _ _ z => nomatch z) i)
  exact s.rl.fresh n1 j t e1 o1 e2
theorem st_lcD {py : Pos} {elt tg' iter : Expr} {ifs : List Expr} {scope : Scope} {own : List (Str × Nat)} {cpos : Pos} {tf' : TF} (i : Nat) (hc : X.calm = true) (hN : X.N.Nodup) (hi : ID X W true tg' iter af) (ok' : BlkOk X.N X.env.scope scope own)
    (hg : ∀ (s : Shared) (H : Hp) (C : Addr) (cl : List (Str × Addr)) (fp : List Addr), GD (X.blk s H scope (compEnvC scope cl C X.env) fp) is tg' h) (ht : ∀ (s : Shared) (H : Hp) (C : Addr) (cl : List (Str × Addr)) (fp : List Addr), TsD (X.blk s H scope (compEnvC scope cl C X.env) fp) WF ifs tf')
    (he : ∀ (s : Shared) (H : Hp) (C : Addr) (cl : List (Str × Addr)) (fp : List Addr), ED (X.blk s H scope (compEnvC scope cl C X.env) fp) WF elt f) (hv : ∀ i ∈ is, i ∈ own.map (·.2) := by decide) (hy : X.N[i]? = some x := by rfl) (hyl : X.env.scope.names.lookup x = some .local := by rfl)
    (hsw : swapsWith (.ListComp elt [⟨tg', iter, ifs, 0⟩] scope cpos) (some (.Name x py)) pos.line X.env = pure true := by rfl) (hs : ∀ x, foldedSetIterable iter X.env x = pure x := by intro _; rfl) :
    StD X W (.Assign [.Name x py] (.ListComp elt [⟨tg', iter, ifs, 0⟩] scope cpos) pos) (asgS i (fun ρ => bnd (lcN af h tf' f (own.map (·.2)) ρ) fun l => ok (.lst l))) := by
  refine PS.to (ps_setLc (g := tgD X.K X.mg is h) (tt := tT X.K X.mg WF tf') (te := tE X.K X.mg WF f) hc hN hy hyl hsw hi ok' hg ht he hs) fun E σ H q => ?_
  obtain ⟨F0, H0, A0, F, ρ, o, s, hg, ho⟩ := q
  have hg2 : thnS (lcN af h tf' f (own.map (·.2)) ρ) ρ (fun l => some (.nx (ρ.set i (.d (.lst l))))) = some o := by
    replace hg : thnS (bnd (lcN af h tf' f (own.map (·.2)) ρ) fun l => ok (.lst l)) ρ (fun d => some (.nx (ρ.set i (.d d)))) = some o := hg
    cases ex : lcN af h tf' f (own.map (·.2)) ρ with
    | none => rw [ex] at hg; cases hg
    | some z => rw [ex] at hg; cases z <;> exact hg
  refine lc_run hv σ H _ (stepSN s hg2 ho fun l z a xs F1 H1 g1 s1 ho1 n1 n2 n3 hd => ?_)
  cases z
  have s2 := s1.setOw (t := .own l) (i := i) ⟨a, xs, rfl, n2, n3, hd⟩ (s.g.hs.free n1) (fun j t e1 o1 e2 => s.rl.fresh n1 j t e1 o1 e2) (fun _ _ z => nomatch z)
  by_cases hi' : i < ρ.length
  · have e1 : (ρ.set i (.own l))[i]? = some (.own l) := by rw [set_get, if_pos rfl, if_pos hi']
    obtain ⟨F', sm, s3⟩ := s2.frz e1
    rw [List.set_set] at s3
    exact ho1 _ F' H1 sm s3
  · have e2 : ∀ t : Sl, ρ.set i t = ρ := fun t => List.set_eq_of_length_le (Nat.le_of_not_lt hi')
    rw [e2] at ho1
    rw [e2] at s2
    exact ho1 _ F1 H1 (Same.refl _) s2
/-- a tuple's parts into names: (the names' slots in is hold no own list after it) -/
def tgS (h : D → List Sl → Option (List Sl)) (f : EF) : SF := fun ρ => thnS (f ρ) ρ fun d => (h d ρ).map .nx
/-- targets keep what is said of own lists -/
def KeepO (is : List Nat) (h : D → List Sl → Option (List Sl)) : Prop := ∀ d ρ ρ', h d ρ = some ρ' → ∀ i (t : Sl), ρ'[i]? = some t → t.ow = true → ρ[i]? = some t ∧ i ∉ is
theorem keepO_name {i : Nat} : KeepO [i] (setN i) := fun d ρ ρ' e j t q ot => by
  cases e
  rw [set_get] at q
  by_cases hi : i = j
  · rw [if_pos hi] at q
    split at q <;> cases q
    cases ot
  · rw [if_neg hi] at q
    exact ⟨q, fun m => hi (List.mem_singleton.mp m).symm⟩
def KeepOs (is : List Nat) (h : List D → List Sl → Option (List Sl)) : Prop := ∀ d ρ ρ', h d ρ = some ρ' → ∀ i (t : Sl), ρ'[i]? = some t → t.ow = true → ρ[i]? = some t ∧ i ∉ is
theorem keepO_nil : KeepOs [] nilN := fun d ρ ρ' e j t q ot => by
  cases d with
  | nil => cases e; exact ⟨q, by simp⟩
  | cons _ _ => cases e
theorem keepO_cons {is js : List Nat} {h : D → List Sl → Option (List Sl)} {hs : List D → List Sl → Option (List Sl)} (h1 : KeepO is h) (h2 : KeepOs js hs) : KeepOs (is ++ js) (consN h hs) := fun ds ρ ρ' e j t q ot => by
  cases ds with
  | nil => cases e
  | cons d r =>
    replace e : (h d ρ).bind (hs r) = some ρ' := e
    cases e1 : h d ρ with
    | none => rw [e1] at e; cases e
    | some ρ1 =>
      rw [e1] at e
      obtain ⟨z1, z2⟩ := h2 r ρ1 ρ' e j t q ot
      obtain ⟨z3, z4⟩ := h1 d ρ ρ1 e1 j t z1 ot
      exact ⟨z3, fun m => (List.mem_append.mp m).elim z4 z2⟩
theorem keepO_tup {is : List Nat} {n : Nat} {hs : List D → List Sl → Option (List Sl)} (h2 : KeepOs is hs) : KeepO is (tupN n hs) := fun d ρ ρ' e j t q ot => by
  cases d with
  | tup ds =>
    replace e : (if ds.length = n then hs ds ρ else none) = some ρ' := e
    split at e
    · exact h2 _ _ _ e j t q ot
    · cases e
  | _ => cases e
theorem StOk.tgt {K : Frag} {mg : MG} {F0 H0 F H : Hp} {A0 : Addr} {ρ ρ' : List Sl} {σ σ' : L2.St} {d : D} (s : StOk K mg F0 H0 A0 F H ρ σ) (ko : KeepO is h) (e : h d ρ = some ρ') (so : SetsOnly is σ σ') (rl : Rl K mg F H ρ' σ') : StOk K mg F0 H0 A0 F H ρ' σ' :=
  ⟨s.g, rl, fun i t a e1 o1 e2 => by
    obtain ⟨z1, z2⟩ := ko d ρ ρ' e i t e1 o1
    rw [so.2 i z2] at e2
    exact s.ow i t a z1 o1 e2, fun i c fs a e1 e2 => by
    obtain ⟨z1, z2⟩ := ko d ρ ρ' e i _ e1 rfl
    rw [so.2 i z2] at e2
    exact s.ob i c fs a z1 e2⟩
theorem st_tg (he : ED X W e f) (hg : GD X is tg h) (ko : KeepO is h) (hs : swapsWithSole [tg] e pos.line X.env = pure false := by rfl) (hw : swappedStores [tg] e X.env = pure none := by rfl)
    (h1 : (assignEach [tg] X.env).map (·.2) = [assign tg X.env] := by rfl) : StD X W (.Assign [tg] e pos) (tgS h f) := by
  refine PS.to (ps_asg he hg hs hw h1) fun E σ H q => ?_
  obtain ⟨F0, H0, A0, F, ρ, o, s, hg, ho⟩ := q
  refine stepS s hg ho fun d z v F1 H1 g1 s1 ho1 hd => ?_
  cases eh : h d ρ with
  | none => rw [eh] at z; cases z
  | some ρ' =>
    rw [eh] at z
    cases z
    exact ⟨F1, ρ, d, ρ', s1.rl, hd, eh, fun σ' so rl => ho1 σ' F1 H1 (Same.refl _) (s1.tgt ko eh so rl)⟩

/-! ### an own list changed -/
def setItS (i : Nat) (fi f : EF) : SF := fun ρ => thnS (f ρ) ρ fun d => thnS (getO ρ i) ρ fun l => thnS (fi ρ) ρ fun j => match j with
  | .int n => match ixN l.length n with
    | some m => some (.nx (ρ.set i (.own (l.set m d))))
    | none => none
  | _ => none
/-- out[j] = e -/
theorem st_setIt {py : Pos} {jx : Expr} {fi : EF} (i : Nat) (he : ED X W e f) (hj : ED X W jx fi) (hN : X.N[i]? = some x := by rfl) (hv : Vis X.env.scope x := by first | exact Or.inl rfl | exact Or.inr (Or.inl rfl) | exact Or.inr (Or.inr rfl)) (hd : (x == ("__debug__" : Str)) = false := by decide)
    (hcd : (x == ("__classdict__" : Str)) = false := by decide) (ha : ∀ v, assign (.Subscript (.Name x py) jx tpos) X.env v = (do
      let ov ← holding [v] (eval (.Name x py) X.env)
      let iv ← holding [v, ov] (eval jx X.env)
      standAt tpos
      holding [v, ov, iv] (setItem ov iv v)
      release [v, ov, iv] []) := by intro _; rfl) (hs : swapsWithSole [.Subscript (.Name x py) jx tpos] e pos.line X.env = pure false := by rfl) (hw : swappedStores [.Subscript (.Name x py) jx tpos] e X.env = pure none := by rfl)
    (h1 : (assignEach [.Subscript (.Name x py) jx tpos] X.env).map (·.2) = [assign (.Subscript (.Name x py) jx tpos) X.env] := by rfl) : StD X W (.Assign [.Subscript (.Name x py) jx tpos] e pos) (setItS i fi f) := by
  refine PS.to (ps_asg he (pg_sub (pv i hN hv hd hcd) hj set_list ha) hs hw h1) fun E σ H q => ?_
  obtain ⟨F0, H0, A0, F, ρ, o, s, hg, ho⟩ := q
  refine stepS s hg ho fun d z v F1 H1 g1 s1 ho1 hd => ?_
  cases eo : ρ[i]? with
  | none => simp only [getO, eo] at z; cases z
  | some sl =>
    cases sl with
    | un => simp only [getO, eo] at z; cases z
    | d d => simp only [getO, eo] at z; cases z
    | obj c fs => simp only [getO, eo] at z; cases z
    | exc b e cls dd => simp only [getO, eo] at z; cases z
    | own l =>
      simp only [getO, eo] at z
      obtain ⟨a, xs, q1, q2, q3, q4⟩ := s1.rl.sl i _ eo
      refine ⟨_, q1, ?_⟩
      refine stepS s1 z ho1 fun jd z j F2 H2 g2 s2 ho2 hjd => ?_
      cases jd with
      | int n =>
        replace z : (match ixN l.length n with
          | some m => some (Out.nx (ρ.set i (.own (l.set m d))))
          | none => none) = some o := z
        split at z
        · rename_i m em
          cases z
          have hd2 := hd.mono g2.fs
          have q4 := q4.mono g2.fs
          refine ⟨a, xs, n, m, rfl, hjd, g2.hs _ _ q3, by rw [q4.len]; exact em, ?_⟩
          exact ho2 σ F2 _ (Same.refl _) (s2.mut eo q1 (DatL.set hd2 m q4))
        · cases z
      | _ => cases z

/-! ### methods of an own list -/
/-- what a method makes of the list, its arguments given -/
def MtO (X : Cx) (id : String) (m : List D → List D → Option (List D)) : Prop := ∃ r, MtR X id r ∧ ∀ ds l l' F H a xs vs Q, m ds l = some l' → Same F H → H a = some (.lst xs) → DatL X.K X.mg F l xs → DatL X.K X.mg F ds vs →
  (∀ v xs', DatL X.K X.mg F l' xs' → Q v (upd H a (.lst xs'))) → r (.ref a) vs H Q
def mAppend : List D → List D → Option (List D)
  | [d], l => if l.length < 16777216 then some (l ++ [d]) else none
  | _, _ => none
theorem mo_append : MtO X "list.append" mAppend := by
  refine ⟨_, mt_append, fun ds l l' F H a xs vs Q e s hq dl dv k => ?_⟩
  unfold mAppend at e
  split at e
  · split at e
    · rename_i hl
      cases e
      obtain ⟨v, rfl, h1⟩ := dl1 dv
      exact ⟨a, xs, v, rfl, rfl, hq, by rw [sizeL, dl.len]; exact hl, k _ _ (dl.app (DatL.one h1))⟩
    · cases e
  · cases e
def mPopAt : List D → List D → Option (List D)
  | [.int i], l => if 0 ≤ i ∧ i < l.length ∧ i < 2 ^ 62 then some (l.eraseIdx i.toNat) else none
  | _, _ => none
theorem DatL.erase {K : Frag} {mg : MG} {F : Hp} : ∀ {ds : List D} {xs : List V} (n : Nat), DatL K mg F ds xs → DatL K mg F (ds.eraseIdx n) (xs.eraseIdx n)
  | [], xs, n, h => by
    have h' : xs = [] := h
    subst h'
    exact DatL.nil
  | d :: ds, _, 0, h => by
    obtain ⟨x, r, rfl, h2, h3⟩ := h
    exact h3
  | d :: ds, _, n + 1, h => by
    obtain ⟨x, r, rfl, h2, h3⟩ := h
    exact ⟨x, r.eraseIdx n, rfl, h2, DatL.erase n h3⟩
theorem mo_popAt : MtO X "list.pop" mPopAt := by
  refine ⟨fun x vs H Q => rPopAt x vs H Q, mt_popAt, fun ds l l' F H a xs vs Q e s hq dl dv k => ?_⟩
  unfold mPopAt at e
  split at e
  · split at e
    · rename_i i hi
      cases e
      obtain ⟨v, rfl, h1⟩ := dl1 dv
      cases (show v = _ from h1)
      have hl := dl.len
      have hj : i.toNat < xs.length := by omega
      exact ⟨a, xs, i, i.toNat, xs[i.toNat], rfl, rfl, hq, by omega, by omega, seqIndex_of hi.1 (by omega), List.getElem?_eq_getElem hj, k _ _ (dl.erase _)⟩
    · cases e
  · cases e
def mPop : List D → List D → Option (List D)
  | [], l => if l = [] then none else some l.dropLast
  | _, _ => none
def mInsert : List D → List D → Option (List D)
  | [.int i, d], l => if 0 ≤ i ∧ i < 2 ^ 62 ∧ l.length < 16777216 then some (l.take i.toNat ++ [d] ++ l.drop i.toNat) else none
  | _, _ => none
theorem mo_insert : MtO X "list.insert" mInsert := by
  refine ⟨_, mt_insert, fun ds l l' F H a xs vs Q e s hq dl dv k => ?_⟩
  unfold mInsert at e
  split at e
  · split at e
    · rename_i i d hi
      cases e
      obtain ⟨v, w, rfl, h1, h2⟩ := dl2 dv
      cases (show v = _ from h1)
      exact ⟨a, xs, i, w, rfl, rfl, hq, by rw [sizeL, dl.len]; exact hi.2.2, hi.1, by omega, k _ _ (((dl.take _).app (DatL.one h2)).app (dl.drop _))⟩
    · cases e
  · cases e
def mExtend : List D → List D → Option (List D)
  | [.lst m], l => if l.length + m.length ≤ 16777216 then some (l ++ m) else none
  | _, _ => none
theorem mo_extend : MtO X "list.extend" mExtend := by
  refine ⟨_, mt_extend, fun ds l l' F H a xs vs Q e s hq dl dv k => ?_⟩
  unfold mExtend at e
  split at e
  · split at e
    · rename_i m hl
      cases e
      obtain ⟨v, rfl, b, ys, rfl, h2, h3⟩ := dl1 dv
      exact ⟨a, b, xs, ys, rfl, rfl, hq, s _ _ h2, by rw [sizeL, dl.len, h3.len]; exact hl, k _ _ (dl.app h3)⟩
    · cases e
  · cases e
def metS (i : Nat) (m : List D → List D → Option (List D)) (af : AF) : SF := fun ρ => thnS (getO ρ i) ρ fun l => thnS (af ρ) ρ fun ds => (m ds l).map fun l' => .nx (ρ.set i (.own l'))
/-- out.append(e), .. -/
theorem st_met {id : String} {m : List D → List D → Option (List D)} {name : Str} {px : Pos} (i : Nat) (pa : PlainAttrs "list") (slot : Slot "list" name id) (hty : typeOf (.builtin id) = pure (.type "method_descriptor")) (hm : MtO X id m) (ha : AD X W (e :: es) af)
    (hN : X.N[i]? = some x := by rfl) (hv : Vis X.env.scope x := by first | exact Or.inl rfl | exact Or.inr (Or.inl rfl) | exact Or.inr (Or.inr rfl)) (hd : (x == ("__debug__" : Str)) = false := by decide) (hcd : (x == ("__classdict__" : Str)) = false := by decide)
    (hbase : attributeBase (.Name x px) name X.env (eval (.Name x px) X.env) = eval (.Name x px) X.env := by rfl)
    (hfew : ((backTo p (starEach (e :: es) X.env)).all (fun x => !x.1) && (backToKw p (keywordEach [] X.env)).all (fun x => x.1.isSome)
      && decide ((e :: es).length + ([] : List Keyword).length + (if ([] : List Keyword).isEmpty then 0 else 1) < 30)) = true := by rfl)
    (hline : (apos.endLine == p.line) = true := by rfl) (hs : starEach (e :: es) X.env = (false, eval e X.env) :: starEach es X.env := by rfl) (hplain : (backTo p (starEach es X.env)).any (·.1) = false := by rfl)
    (hsw : swapsWith (.Call (.Attribute (.Name x px) name apos) (e :: es) [] p) none pos.line X.env = pure false := by rfl) : StD X W (.Expr (.Call (.Attribute (.Name x px) name apos) (e :: es) [] p) pos) (metS i m af) := by
  obtain ⟨r, hr, hm⟩ := hm
  refine PS.to (ps_expr (pe_bm pa slot hty hr (pv i hN hv hd hcd) ha hbase hfew hline hs hplain) hsw) fun E σ H q => ?_
  obtain ⟨F0, H0, A0, F, ρ, o, s, hg, ho⟩ := q
  cases eo : ρ[i]? with
  | none => simp only [metS, getO, eo] at hg; cases hg
  | some sl =>
    cases sl with
    | un => simp only [metS, getO, eo] at hg; cases hg
    | d d => simp only [metS, getO, eo] at hg; cases hg
    | obj c fs => simp only [metS, getO, eo] at hg; cases hg
    | exc b e cls dd => simp only [metS, getO, eo] at hg; cases hg
    | own l =>
      simp only [metS, getO, eo] at hg
      replace hg : thnS (af ρ) ρ (fun ds => (m ds l).map fun l' => Out.nx (ρ.set i (.own l'))) = some o := hg
      obtain ⟨a, xs, q1, q2, q3, q4⟩ := s.rl.sl i _ eo
      refine ⟨_, q1, .inl ⟨rfl, _, SqL.of q3⟩, ?_⟩
      refine stepS s hg ho fun ds z vs F1 H1 g1 s1 ho1 hds => ?_
      cases em : m ds l with
      | none => rw [em] at z; cases z
      | some l' =>
        rw [em] at z
        cases z
        exact hm ds l l' F1 H1 a xs vs _ em g1.sub (g1.hs _ _ q3) (q4.mono g1.fs) hds fun v xs' hx => ho1 σ F1 _ (Same.refl _) (s1.mut eo q1 hx)

/-! ### loops -/
def forGo (h : D → List Sl → Option (List Sl)) (body : SF) : List D → SF
  | [], ρ => some (.nx ρ)
  | d :: r, ρ => match h d ρ with
    | none => none
    | some ρ1 => match body ρ1 with
      | some (.nx ρ2) => forGo h body r ρ2
      | some (.ct ρ2) => forGo h body r ρ2
      | some (.bk ρ2) => some (.nx ρ2)
      | o => o
def forS (it : AF) (h : D → List Sl → Option (List Sl)) (body : SF) : SF := fun ρ => thnS (it ρ) ρ fun l => forGo h body l ρ
theorem st_for {iter : Expr} {body : List Stmt} (hp : PassesOwn (model X.prog X.w) X.A X.env X.xe) (hc : X.calm = true) (hi : ID X W false tg iter af) (hg : GD X is tg h) (ko : KeepO is h) (hb : SsD X W body g1)
    (hs : ∀ x, foldedSetIterable iter X.env x = pure x := by intro _; rfl) : StD X W (.For tg iter body [] pos) (forS af h g1) := by
  refine PS.to (ps_for hp hc hi hg hb hs) fun E σ H q => ?_
  obtain ⟨F0, H0, A0, F, ρ, o, s, hf, ho⟩ := q
  replace hf : thnS (af ρ) ρ (fun l => forGo h g1 l ρ) = some o := hf
  cases ea : af ρ with
  | none => rw [ea] at hf; cases hf
  | some z =>
    rw [ea] at hf
    cases z with
    | error z =>
      cases (show Out.er z ρ = o from Option.some.inj hf)
      exact ⟨F, ρ, .error z, s.rl, ea, ErrOk.of (E := E) s fun e' he' => by cases he'; exact ho, fun l z => nomatch z⟩
    | ok l =>
      replace hf : forGo h g1 l ρ = some o := hf
      refine ⟨F, ρ, .ok l, s.rl, ea, (fun e' he' => nomatch he'), fun l' z J F1 H1 g wk => ?_⟩
      cases z
      let Pv : Nat → L2.St → Hp → Prop := fun i σ' H' => ∃ F' ρ', Same F1 F' ∧ StOk X.K X.mg F0 H0 A0 F' H' ρ' σ' ∧ forGo h g1 (l.drop i) ρ' = some o
      refine ⟨fun i m σ' H' => m = l.length - i ∧ i ≤ l.length ∧ Pv i σ' H', ⟨l.length, rfl, Nat.zero_le _, F1, ρ, Same.refl _, s.grow g, hf⟩, ?_⟩
      rintro i m σ' H' ⟨rfl, hi, F', ρ', sm, s', hf'⟩
      by_cases hlt : i < l.length
      · refine .inr ⟨wk.go i F' H' hlt ⟨sm, s'.rl.sub, fun z => nomatch z⟩, Pv (i + 1), fun σ2 H2 p => ⟨l.length - (i + 1), by omega, rfl, hlt, p⟩, fun v H2 y => ?_⟩
        obtain ⟨F2, d, g2, e2, d2⟩ := wk.yld i F' H' v H2 hlt ⟨sm, s'.rl.sub, fun z => nomatch z⟩ y
        rw [drop_get e2] at hf'
        unfold forGo at hf'
        have s2 := s'.grow g2
        have sm2 := sm.trans g2.fs
        cases eh : h d ρ' with
        | none => rw [eh] at hf'; cases hf'
        | some ρ1 =>
          rw [eh] at hf'
          refine ⟨F2, ρ', d, ρ1, s2.rl, d2, eh, fun σ3 so rl => ?_⟩
          have s3 := s2.tgt ko eh so rl
          cases eb : g1 ρ1 with
          | none => simp only [eb] at hf'; cases hf'
          | some ob =>
            simp only [eb] at hf'
            refine ⟨F0, H0, A0, F2, ρ1, ob, s3, eb, ?_⟩
            cases ob with
            | nx ρ2 => exact fun σ4 F4 H4 s4 z => ⟨F4, ρ2, sm2.trans s4, z, hf'⟩
            | ct ρ2 => exact fun σ4 F4 H4 s4 z => ⟨F4, ρ2, sm2.trans s4, z, hf'⟩
            | bk ρ2 =>
              cases (show Out.nx ρ2 = o from Option.some.inj hf')
              exact fun σ4 F4 H4 s4 z => ho σ4 F4 H4 ((g.fs.trans sm2).trans s4) z
            | rt d =>
              cases (show Out.rt d = o from Option.some.inj hf')
              exact fun v F4 H4 s4 z => ho v F4 H4 ((g.fs.trans sm2).trans s4) z
            | er e ρ2 =>
              cases (show Out.er e ρ2 = o from Option.some.inj hf')
              exact fun c dd σ4 F4 H4 s4 z => ho c dd σ4 F4 H4 ((g.fs.trans sm2).trans s4) z
      · have e : i = l.length := by omega
        subst e
        rw [List.drop_length] at hf'
        cases (show Out.nx ρ' = o from Option.some.inj hf')
        exact .inl ⟨wk.stop F' H' ⟨sm, s'.rl.sub, fun z => nomatch z⟩, ho σ' F' H' (g.fs.trans sm) s'⟩
def whileGo (t : TF) (body : SF) : Nat → SF
  | 0, _ => none
  | n + 1, ρ => thnS (t ρ) ρ fun b => if b = true then
      match body ρ with
      | some (.nx ρ2) => whileGo t body n ρ2
      | some (.ct ρ2) => whileGo t body n ρ2
      | some (.bk ρ2) => some (.nx ρ2)
      | o => o
    else some (.nx ρ)
theorem whileGo_mono {t : TF} {body : SF} : ∀ {n m : Nat} {ρ : List Sl} {o : Out}, whileGo t body n ρ = some o → n ≤ m → whileGo t body m ρ = some o
  | 0, _, _, _, h, _ => by cases h
  | n + 1, 0, _, _, _, l => absurd l (by omega)
  | n + 1, m + 1, ρ, o, h, l => by
    unfold whileGo at h ⊢
    cases et : t ρ with
    | none => rw [et] at h; cases h
    | some z =>
      rw [et] at h
      cases z with
      | error z => exact h
      | ok b =>
        replace h : (if b = true then _ else _) = some o := h
        show (if b = true then _ else _) = some o
        split at h
        · rename_i hb
          rw [if_pos hb]
          cases eb : body ρ with
          | none => simp only [eb] at h; cases h
          | some ob =>
            simp only [eb] at h
            cases ob with
            | nx ρ2 => exact whileGo_mono h (by omega)
            | ct ρ2 => exact whileGo_mono h (by omega)
            | bk ρ2 => exact h
            | rt d => exact h
            | er e ρ2 => exact h
        · rename_i hb
          rw [if_neg hb]
          exact h
open Classical in
noncomputable def whileS (t : TF) (body : SF) : SF := fun ρ => if h : ∃ n o, whileGo t body n ρ = some o then some (Classical.choose (Classical.choose_spec h)) else none
theorem whileS_of {t : TF} {body : SF} {n : Nat} {ρ : List Sl} {o : Out} (h : whileGo t body n ρ = some o) : whileS t body ρ = some o := by
  have hx : ∃ n o, whileGo t body n ρ = some o := ⟨n, o, h⟩
  unfold whileS
  rw [dif_pos hx]
  have h2 := Classical.choose_spec (Classical.choose_spec hx)
  have h3 := whileGo_mono h (Nat.le_max_left n (Classical.choose hx))
  have h4 := whileGo_mono h2 (Nat.le_max_right n (Classical.choose hx))
  rw [h3] at h4
  exact h4.symm
theorem whileS_fuel {t : TF} {body : SF} {ρ : List Sl} {o : Out} (h : whileS t body ρ = some o) : ∃ n, whileGo t body n ρ = some o := by
  unfold whileS at h
  split at h
  · rename_i hx
    cases h
    exact ⟨_, Classical.choose_spec (Classical.choose_spec hx)⟩
  · cases h
theorem st_while {body : List Stmt} (hp : PassesOwn (model X.prog X.w) X.A X.env X.xe) (hc : TD X W c tf) (hb : SsD X W body g1) : StD X W (.While c body [] pos) (whileS tf g1) := by
  refine PS.to (ps_while hp hc hb) fun E σ H q => ?_
  obtain ⟨F0, H0, A0, F, ρ, o, s, hf, ho⟩ := q
  obtain ⟨n0, hf⟩ := whileS_fuel hf
  refine ⟨fun m σ' H' => ∃ F' ρ', Same F F' ∧ StOk X.K X.mg F0 H0 A0 F' H' ρ' σ' ∧ whileGo tf g1 m ρ' = some o, ⟨n0, F, ρ, Same.refl _, s, hf⟩, ?_⟩
  rintro m σ' H' ⟨F', ρ', sm, s', hf'⟩
  cases m with
  | zero => cases hf'
  | succ m =>
    unfold whileGo at hf'
    refine stepS s' hf' (ho.up sm) fun b z v F2 H2 g2 s2 ho2 hv => ?_
    subst hv
    have sm2 := sm.trans g2.fs
    split at z
    · rename_i hb'
      rw [if_pos hb']
      refine ⟨fun σ3 H3 => ∃ F3 ρ3, Same F F3 ∧ StOk X.K X.mg F0 H0 A0 F3 H3 ρ3 σ3 ∧ whileGo tf g1 m ρ3 = some o, fun σ3 H3 p => ⟨m, Nat.lt_succ_self _, p⟩, ?_⟩
      cases eb : g1 ρ' with
      | none => simp only [eb] at z; cases z
      | some ob =>
        simp only [eb] at z
        refine ⟨F0, H0, A0, F2, ρ', ob, s2, eb, ?_⟩
        cases ob with
        | nx ρ2 => exact fun σ4 F4 H4 s4 y => ⟨F4, ρ2, sm2.trans s4, y, z⟩
        | ct ρ2 => exact fun σ4 F4 H4 s4 y => ⟨F4, ρ2, sm2.trans s4, y, z⟩
        | bk ρ2 =>
          cases (show Out.nx ρ2 = o from Option.some.inj z)
          exact fun σ4 F4 H4 s4 y => ho σ4 F4 H4 (sm2.trans s4) y
        | rt d =>
          cases (show Out.rt d = o from Option.some.inj z)
          exact fun v F4 H4 s4 y => ho v F4 H4 (sm2.trans s4) y
        | er e ρ2 =>
          cases (show Out.er e ρ2 = o from Option.some.inj z)
          exact fun c dd σ4 F4 H4 s4 y => ho c dd σ4 F4 H4 (sm2.trans s4) y
    · rename_i hb'
      rw [if_neg hb']
      cases z
      exact ho2 σ' F2 H2 (Same.refl _) s2

/-! ### freezing a slot's own list -/
def frzS (i : Nat) (g : SF) : SF := fun ρ => match ρ[i]? with
  | some (.own l) => g (ρ.set i (.d (.lst l)))
  | some (.obj c fs) => g (ρ.set i (.d (insOf c fs)))
  | _ => g ρ
theorem frz_run {E : Ends} {σ : L2.St} {H : Hp} {i : Nat} (q : tS X.K X.mg W (frzS i g1) E σ H) : tS X.K X.mg W g1 E σ H := by
  obtain ⟨F0, H0, A0, F, ρ, o, s, hg, ho⟩ := q
  unfold frzS at hg
  split at hg
  · rename_i l el
    obtain ⟨F', sm, s'⟩ := s.frz el
    exact ⟨F0, H0, A0, F', _, o, s', hg, ho.up sm⟩
  · rename_i c fs el
    obtain ⟨F', sm, s'⟩ := s.frzI el
    exact ⟨F0, H0, A0, F', _, o, s', hg, ho.up sm⟩
  · exact ⟨F0, H0, A0, F, ρ, o, s, hg, ho⟩
theorem ss_frz (i : Nat) (h : SsD X W sts g1) : SsD X W sts (frzS i g1) := PSs.to h fun E σ H q => frz_run q
theorem st_frz (i : Nat) (h : StD X W st g1) : StD X W st (frzS i g1) := PS.to h fun E σ H q => frz_run q
end
end PD
set_option Elab.async false
set_option linter.all false
set_option maxRecDepth 100000
set_option maxHeartbeats 2000000
set_option autoImplicit false
/-! Defs: what a def promises, told by a plain function of data; calls. -/
namespace PD
open PySem PySem.Spec L2 PyProof.Rows

/-- the promise: fn tells what comes of the arguments -/
def spD (K : Frag) (mg : MG) (fn : List D → R D) : Sp := fun vs H Q E =>
  ∃ F ds r, Same F H ∧ DatL K mg F ds vs ∧ fn ds = some r ∧ (∀ d, r = .ok d → ∀ v F' H', Grow F H F' H' → Dat K mg F' d v → Q v H') ∧
    ∀ e, r = .error e → ∀ cls dd F' H', Grow F H F' H' → ExD K mg F' e cls dd → E cls dd H'
def outR : Option Out → R D
  | some (.rt d) => ok d
  | some (.nx _) => ok .non
  | some (.er e _) => err e
  | _ => none
/-- n parameters, m slots, the body g -/
def fnD (n m : Nat) (g : SF) (ds : List D) : R D := if ds.length = n then outR (g (ds.map .d ++ List.replicate (m - n) .un)) else none
theorem fnD_len {n m : Nat} {g : SF} {ds : List D} {r : Except Exn D} (h : fnD n m g ds = some r) : ds.length = n ∧ outR (g (ds.map .d ++ List.replicate (m - n) .un)) = some r := by
  unfold fnD at h
  split at h
  · rename_i hl
    exact ⟨hl, h⟩
  · cases h
section
variable {K : Frag} {mg : MG} {F H : Hp}
theorem DatL.at : ∀ {ds : List D} {vs : List V} {i : Nat} {d : D}, DatL K mg F ds vs → ds[i]? = some d → ∃ v, vs[i]? = some v ∧ Dat K mg F d v := fun h e => h.get e
theorem start_ok {A0 : Addr} {ds : List D} {vs : List V} {N : List Str} (s : Same F H) (h : DatL K mg F ds vs) (hn : ds.length ≤ N.length) : StOk K mg F H A0 F H (ds.map .d ++ List.replicate (N.length - ds.length) .un) (L2.start N vs) := by
  have hl := h.len
  have own : ∀ (i : Nat) (t : Sl), (ds.map Sl.d ++ List.replicate (N.length - ds.length) Sl.un)[i]? = some t → t.ow ≠ true := fun i t e o => by
    by_cases hi : i < ds.length
    · rw [List.getElem?_append_left (by simpa using hi), List.getElem?_map] at e
      cases q : ds[i]? with
      | none => rw [q] at e; cases e
      | some d => rw [q] at e; cases e; cases o
    · rw [List.getElem?_append_right (by simpa using hi), List.getElem?_replicate] at e
      split at e <;> cases e
      cases o
  refine ⟨Grow.refl s, ⟨s, ?_, fun i sl e => ?_, fun i j t u a _ e o => absurd o (own i t e)⟩, fun i t a e o => absurd o (own i t e), fun i c fs a e => absurd rfl (own i _ e)⟩
  · unfold L2.start
    rw [List.length_append, List.length_append, List.length_map, List.length_map, List.length_replicate, List.length_replicate, hl]
  · by_cases hi : i < ds.length
    · rw [List.getElem?_append_left (by simpa using hi), List.getElem?_map] at e
      cases q : ds[i]? with
      | none => rw [q] at e; cases e
      | some d =>
        rw [q] at e
        cases e
        obtain ⟨v, h1, h2⟩ := h.get q
        refine ⟨v, ?_, h2⟩
        unfold L2.start
        rw [List.getElem?_append_left (by rw [List.length_map, hl]; exact hi), List.getElem?_map, h1]
        rfl
    · rw [List.getElem?_append_right (by simpa using hi), List.getElem?_replicate] at e
      split at e <;> cases e
      trivial
end
section
variable {P : Program} {w : World} {K : Frag} {mg : MG} {base : Heap}
/-- a def by its body's function -/
theorem fnD_ok {CX : CXT} {x qual : Str} {st : Stmt} {f : Addr} {fd : FuncData} {N ps : List Str} {k : Nat} {g : SF} (Fu : Fun K x qual st f fd) (S : FnScope N ps (defScope st)) (hn : ps.length ≤ N.length)
    (hbody : ∀ (cdv : Value) (A : Around) (outer : List Env) (s : Shared) (H : Hp) (E : XK), Room k (A.deeper (envOfC qual (defScope st) s.heap.objs.size f cdv)) →
      SsD (cxOf CX P w K mg base N qual (defScope st) f cdv A outer s H E) (fun cls d _ H => E cls d H) (defBody st) g) : FnOk P w K mg base CX (k + 1) f fd ps (spD K mg (fnD ps.length N.length g)) := by
  obtain ⟨oc, od, kV, doc, pm, an, cdv, ct, osl, rfl, lk, hcd⟩ := Fu.ex
  refine fn_of lk hcd S (fun vs H Q E h => ?_) fun A outer s H vs Q E hr h => ⟨_, hbody cdv A outer s H E hr, ?_⟩
  · obtain ⟨F, ds, r, s, hd, hf, _⟩ := h
    rw [hd.len]
    exact (fnD_len hf).1
  · obtain ⟨F, ds, r, s, hd, hf, hq, he⟩ := h
    obtain ⟨hl, hf⟩ := fnD_len hf
    have s0 := start_ok (A0 := 0) (N := N) s hd (by rw [hl]; exact hn)
    rw [hl] at s0
    cases eg : g (ds.map .d ++ List.replicate (N.length - ps.length) .un) with
    | none => rw [eg] at hf; cases hf
    | some o =>
      rw [eg] at hf
      refine ⟨F, H, 0, F, _, o, s0, eg, ?_⟩
      cases o with
      | nx ρ' => exact fun σ' F' H' _ s' => hq .non (Option.some.inj hf).symm .non F' H' s'.g rfl
      | rt d => exact fun v F' H' _ g' dv => hq d (Option.some.inj hf).symm v F' H' g' dv
      | bk ρ' => cases hf
      | ct ρ' => cases hf
      | er e ρ' => exact fun cls dd σ' F' H' _ s' x => he e (Option.some.inj hf).symm cls dd F' H' s'.g x
/-- what is known of a def's name -/
structure DefD (P : Program) (w : World) (K : Frag) (mg : MG) (base : Heap) (CX : CXT) (k : Nat) (x : Str) (fn : List D → R D) : Prop where
  ex : ∃ f fd ps, FnOk P w K mg base CX k f fd ps (spD K mg fn) ∧ mg x = some (.ref f) ∧ PySem.W.keepIn K (.ref f) = true ∧ Binds K fd ps []
/-- .. it lets out whatever CX' lets out -/
theorem DefD.cx {CX CX' : CXT} {k : Nat} {x : Str} {fn : List D → R D} (h : DefD P w K mg base CX k x fn) (hc : ∀ o H s E u s', CX o H s E u s' → CX' o H s E u s') : DefD P w K mg base CX' k x fn := by
  obtain ⟨f, fd, ps, Fo, a, b, c⟩ := h
  refine ⟨f, fd, ps, ⟨Fo.len, fun A outer s H args us vs Q E hr he hb hv hs => codeAny_mono (Fo.run A outer s H args us vs Q E hr he hb hv hs) fun r s' q => ?_⟩, a, b, c⟩
  cases r with
  | error e => exact hc _ _ _ _ _ _ q
  | ok fl => cases fl <;> exact q
theorem DefD.low {CX : CXT} {j k : Nat} {x : Str} {fn : List D → R D} (h : DefD P w K mg base CX j x fn) (hk : j ≤ k) : DefD P w K mg base CX k x fn := by
  obtain ⟨f, fd, ps, Fo, a, b, c⟩ := h
  exact ⟨f, fd, ps, Fo.mono hk, a, b, c⟩
theorem cx_up {o : List Env} {H : Hp} {s : Shared} {E : XK} {u : Value} {s' : Shared} (h : L2N.CX P w o H s E u s') : L2.CX P w o H s E u s' := by
  obtain ⟨a, B, H', cls, d, e, fl, r⟩ := h
  exact ⟨a, B, H', cls, d, e, L2H.flyingZ_imp (fun _ z => z.zc) fl, r⟩
/-- N: exceptions without a context; else any -/
theorem DefD.up {k : Nat} {x : Str} {fn : List D → R D} (h : DefD P w K mg base (L2N.CX P w) k x fn) : DefD P w K mg base (L2.CX P w) k x fn := h.cx fun _ _ _ _ _ _ z => cx_up z
/-- a def whose promise is known for another function -/
theorem DefD.fn {CX : CXT} {k : Nat} {x : Str} {fn fn' : List D → R D} (h : DefD P w K mg base CX k x fn) (e : ∀ ds r, fn' ds = some r → fn ds = some r) : DefD P w K mg base CX k x fn' := by
  obtain ⟨f, fd, ps, Fo, a, b, c⟩ := h
  exact ⟨f, fd, ps, Fo.imp fun vs H Q E ⟨F, ds, r, s, hd, hf, q⟩ => ⟨F, ds, r, s, hd, e ds r hf, q⟩, a, b, c⟩
theorem defD {CX : CXT} {x qual : Str} {st : Stmt} {f : Addr} {fd : FuncData} {N ps : List Str} {k : Nat} {g : SF} (Fu : Fun K x qual st f fd) (hm : mg x = some (.ref f)) (hb : Binds K fd ps []) (S : FnScope N ps (defScope st)) (hn : ps.length ≤ N.length)
    (hbody : ∀ (cdv : Value) (A : Around) (outer : List Env) (s : Shared) (H : Hp) (E : XK), Room k (A.deeper (envOfC qual (defScope st) s.heap.objs.size f cdv)) →
      SsD (cxOf CX P w K mg base N qual (defScope st) f cdv A outer s H E) (fun cls d _ H => E cls d H) (defBody st) g) : DefD P w K mg base CX (k + 1) x (fnD ps.length N.length g) :=
  ⟨f, fd, ps, fnD_ok Fu S hn hbody, hm, Fu.kp, hb⟩
end
/-! ### calls -/
section
variable {X : Cx} {W : WX} {e a b c tg : Expr} {es rest : List Expr} {pos p p2 apos tpos : Pos} {f g k : EF} {af ag ah : AF} {tf : TF} {x : Str} {fn : List D → R D}
theorem passF {σ : L2.St} : PassesAt (L2.CX X.prog X.w) X σ (WE WF σ) := fun _ _ _ _ _ _ h => by
  obtain ⟨a, B, H', cls, d, e, _, _, _, _, _, _, z⟩ := h
  exact z.elim
theorem passFN {σ : L2.St} : PassesAt (L2N.CX X.prog X.w) X σ (WE WF σ) := fun _ _ _ _ _ _ h => by
  obtain ⟨a, B, H', cls, d, e, _, _, _, _, _, _, z⟩ := h
  exact z.elim
theorem ed_call {CX : CXT} {kk : Nat} (Df : DefD X.prog X.w X.K X.mg X.base CX kk x fn) (hr : Room kk X.A) (hx : ∀ σ, PassesAt CX X σ (WE W σ)) (hg : Gl X x) (ha : AD X W (e :: es) af) (hdb : (x == ("__debug__" : Str)) = false := by decide)
    (he : starEach (e :: es) X.env = (false, eval e X.env) :: starEach es X.env := by rfl) (hpl : (backTo pos (starEach es X.env)).any (·.1) = false := by rfl) : ED X W (.Call (.Name x p) (e :: es) [] pos) (fun ρ => bnd (af ρ) fn) := by
  obtain ⟨f, fd, ps, Fo, hm, hk, hb⟩ := Df.ex
  refine PE.to (pe_callS (E := WE W) Fo hr hg hm hk hb hx ha hdb he hpl) fun σ H Q h => ?_
  obtain ⟨F, ρ, r, rl, h, er, hq⟩ := h
  refine step rl h er fun ds h vs F1 H1 g1 rl1 er1 d1 => ?_
  exact ⟨F1, ds, r, g1.sub, d1, h, fun d z v F' H' g dv => hq d z v F' H' (g1.trans g) dv, fun e z cls dd F' H' g x => er1 e z cls dd F' H' g x⟩
end
end PD
set_option Elab.async false
set_option linter.all false
set_option maxRecDepth 100000
set_option maxHeartbeats 2000000
set_option autoImplicit false
/-! Instances: made, their attributes read and stored. -/
namespace PD
open PySem PySem.Spec L2 PyProof.Rows

def getN (f : Str) : List Str → List D → Option D
  | n :: ns, d :: ds => if f = n then some d else getN f ns ds
  | _, _ => none
def putD (f : Str) (d : D) : List (Str × D) → List (Str × D)
  | [] => [(f, d)]
  | (g, x) :: r => if g = f then (g, d) :: r else (g, x) :: putD f d r
section
variable {K : Frag} {mg : MG} {F H : Hp}
theorem getN_dat {f : Str} {d : D} : ∀ {ns : List Str} {ds : List D} {gs : List (Str × V)}, gs.map (·.1) = ns → DatL K mg F ds (gs.map (·.2)) → getN f ns ds = some d → ∃ v, gs.lookup f = some v ∧ Dat K mg F d v
  | [], ds, gs, _, _, e => by cases ds <;> cases e
  | n :: ns, [], gs, _, _, e => by cases e
  | n :: ns, c :: ds, [], h, _, _ => by cases h
  | n :: ns, c :: ds, (m, v) :: gs, h, hd, e => by
    obtain ⟨x, r, hx, h1, h2⟩ := hd
    have hx' : v :: gs.map (·.2) = x :: r := hx
    injection hx' with ev er
    subst ev er
    have hn : m = n := by injection h
    have hns : gs.map (·.1) = ns := by injection h
    subst hn
    unfold getN at e
    split at e
    · rename_i hf
      cases e
      subst hf
      exact ⟨v, by simp [List.lookup], h1⟩
    · rename_i hf
      obtain ⟨w, hw, hd⟩ := getN_dat hns h2 e
      refine ⟨w, ?_, hd⟩
      have hb : (f == m) = false := by simpa using hf
      rw [List.lookup, hb]
      exact hw
theorem putD_dat {f : Str} {d : D} {v : V} (hd : Dat K mg F d v) : ∀ {fs : List (Str × D)} {gs : List (Str × V)}, gs.map (·.1) = fs.map (·.1) → DatL K mg F (fs.map (·.2)) (gs.map (·.2)) →
    (putF f v gs).map (·.1) = (putD f d fs).map (·.1) ∧ DatL K mg F ((putD f d fs).map (·.2)) ((putF f v gs).map (·.2))
  | [], [], _, _ => ⟨rfl, v, [], rfl, hd, rfl⟩
  | [], _ :: _, h, _ => by cases h
  | _ :: _, [], h, _ => by cases h
  | (n, c) :: fs, (m, w) :: gs, h, hl => by
    obtain ⟨x, r, hx, h1, h2⟩ := hl
    have hx' : w :: gs.map (·.2) = x :: r := hx
    injection hx' with ev er
    subst ev er
    have hn : m = n := by injection h
    have hns : gs.map (·.1) = fs.map (·.1) := by injection h
    subst hn
    unfold putF putD
    by_cases hg : m = f
    · rw [if_pos hg, if_pos hg]
      exact ⟨congrArg (m :: ·) hns, v, gs.map (·.2), rfl, hd, h2⟩
    · rw [if_neg hg, if_neg hg]
      obtain ⟨z1, z2⟩ := putD_dat (f := f) hd hns h2
      exact ⟨congrArg (m :: ·) z1, w, _, rfl, h1, z2⟩
end
/-- the classes in cs have no class attribute f -/
def ClsF (K : Frag) (mg : MG) (cs : List Str) (f : Str) : Prop := ∀ c ∈ cs, ∀ C, mg c = some (.ref C) → Cls K C ∧ NoAttr K C f
def fldD (cs : List Str) (f : Str) : D → Option D
  | .ins c ns l => if c ∈ cs then getN f ns l else none
  | _ => none
section
variable {X : Cx} {W : WX} {e a b c tg o : Expr} {es rest : List Expr} {pos p p2 apos tpos : Pos} {f g k : EF} {af ag ah : AF} {tf : TF} {x fn : Str} {cs : List Str}
theorem ed_fld (hc : ClsF X.K X.mg cs fn) (he : ED X W e f) (hb : attributeBase e fn X.env (eval e X.env) = eval e X.env := by rfl) : ED X W (.Attribute e fn pos) (un1 (fldD cs fn) f) := by
  refine PE.to (pe_fld he hb) fun σ H Q h => ?_
  obtain ⟨F, ρ, r, rl, h, er, hk⟩ := h
  refine step rl h er fun d h v F1 H1 g1 rl1 er1 d1 => ?_
  obtain ⟨d3, e3, rfl⟩ := opt_some h
  unfold fldD at e3
  split at e3
  · split at e3
    · rename_i c ns l hcm
      obtain ⟨C, a, dx, gs, h0, rfl, h2, h3, h4⟩ := d1
      obtain ⟨v, hv, hd⟩ := getN_dat h3 h4 e3
      obtain ⟨z1, z2⟩ := hc c hcm C h0
      exact ⟨a, C, dx, gs, v, rfl, g1.sub _ _ h2, z1, z2, hv, hk _ rfl v F1 H1 g1 hd⟩
    · cases e3
  · cases e3
/-- the attribute of one's own instance -/
def objE (cs : List Str) (f : Str) (i : Nat) : EF := fun ρ => match ρ[i]? with
  | some (.obj c fs) => if c ∈ cs then opt (getN f (fs.map (·.1)) (fs.map (·.2))) else none
  | some (.d d) => opt (fldD cs f d)
  | _ => none
theorem ed_obj {py : Pos} (i : Nat) (hc : ClsF X.K X.mg cs fn) (hN : X.N[i]? = some x := by rfl) (hv : Vis X.env.scope x := by first | exact Or.inl rfl | exact Or.inr (Or.inl rfl) | exact Or.inr (Or.inr rfl)) (hd : (x == ("__debug__" : Str)) = false := by decide)
    (hcd : (x == ("__classdict__" : Str)) = false := by decide) (hb : attributeBase (.Name x py) fn X.env (eval (.Name x py) X.env) = eval (.Name x py) X.env := by rfl) : ED X W (.Attribute (.Name x py) fn pos) (objE cs fn i) := by
  refine PE.to (pe_fld (pv i hN hv hd hcd) hb) fun σ H Q h => ?_
  obtain ⟨F, ρ, r, rl, h, er, hk⟩ := h
  unfold objE at h
  split at h
  · rename_i c fs e
    split at h
    · rename_i hcm
      obtain ⟨d3, e3, rfl⟩ := opt_some h
      obtain ⟨a, C, dx, gs, q1, q2, q3, q4, q5, q6⟩ := rl.sl i _ e
      obtain ⟨v, hv, hd⟩ := getN_dat q5 q6 e3
      obtain ⟨z1, z2⟩ := hc c hcm C q3
      exact ⟨_, q1, a, C, dx, gs, v, rfl, q4, z1, z2, hv, hk _ rfl v F H (Grow.refl rl.sub) hd⟩
    · cases h
  · rename_i d e
    obtain ⟨d3, e3, rfl⟩ := opt_some h
    obtain ⟨v0, q1, q2⟩ := rl.sl i _ e
    unfold fldD at e3
    split at e3
    · split at e3
      · rename_i c ns l hcm
        obtain ⟨C, a, dx, gs, h0, rfl, h2, h3, h4⟩ := q2
        obtain ⟨v, hv, hd⟩ := getN_dat h3 h4 e3
        obtain ⟨z1, z2⟩ := hc c hcm C h0
        exact ⟨_, q1, a, C, dx, gs, v, rfl, rl.sub _ _ h2, z1, z2, hv, hk _ rfl v F H (Grow.refl rl.sub) hd⟩
      · cases e3
    · cases e3
  · cases h
def fldS (cs : List Str) (fn : Str) (i : Nat) (f : EF) : SF := fun ρ => thnS (f ρ) ρ fun d => match ρ[i]? with
  | some (.obj c fs) => if c ∈ cs ∧ fs.length < 1000 then some (.nx (ρ.set i (.obj c (putD fn d fs)))) else none
  | _ => none
/-- self.fn = e -/
theorem st_fld {py pt : Pos} (i : Nat) (hc : ClsF X.K X.mg cs fn) (he : ED X W e f) (hN : X.N[i]? = some x := by rfl) (hv : Vis X.env.scope x := by first | exact Or.inl rfl | exact Or.inr (Or.inl rfl) | exact Or.inr (Or.inr rfl)) (hd : (x == ("__debug__" : Str)) = false := by decide)
    (hcd : (x == ("__classdict__" : Str)) = false := by decide) (hs : swapsWith e (some (.Attribute (.Name x py) fn pt)) pos.line X.env = pure false := by rfl) : StD X W (.Assign [.Attribute (.Name x py) fn pt] e pos) (fldS cs fn i f) := by
  refine PS.to (ps_fld (pv i hN hv hd hcd) he hs) fun E σ H q => ?_
  obtain ⟨F0, H0, A0, F, ρ, o, s, hg, ho⟩ := q
  refine stepS s hg ho fun d z v F1 H1 g1 s1 ho1 hdv => ?_
  cases eo : ρ[i]? with
  | none => simp only [eo] at z; cases z
  | some sl =>
    cases sl with
    | un => simp only [eo] at z; cases z
    | d d => simp only [eo] at z; cases z
    | own l => simp only [eo] at z; cases z
    | exc b e cls dd => simp only [eo] at z; cases z
    | obj c fs =>
      simp only [eo] at z
      split at z
      · rename_i hcm
        cases z
        obtain ⟨a, C, dx, gs, q1, q2, q3, q4, q5, q6⟩ := s1.rl.sl i _ eo
        obtain ⟨z1, z2⟩ := hc c hcm.1 C q3
        obtain ⟨y1, y2⟩ := putD_dat (f := fn) hdv q5 q6
        have hlen : gs.length < 1000 := by
          have e := congrArg List.length q5
          rw [List.length_map, List.length_map] at e
          rw [e]; exact hcm.2
        refine ⟨_, q1, a, C, dx, gs, rfl, q4, z1, z2, hlen, ?_⟩
        refine ho1 σ F1 _ (Same.refl _) (s1.mutO eo rfl rfl q1 q2 (fun _ _ _ => s1.ob i c fs a eo q1) ?_)
        exact ⟨a, C, dx, putF fn v gs, rfl, q2, q3, upd_same, y1, y2⟩
      · cases z
end

/-! ### made -/
/-- all but a -/
def forget (a : Addr) (H : Hp) : Hp := fun b => if b = a then none else H b
/-- what __init__ promises: fn tells the instance -/
def spI (K : Frag) (mg : MG) (c : Str) (n : Nat) (fn : List D → R D) : Sp := fun vs H Q E =>
  ∃ a C dx us F ds r, vs = .ref a :: us ∧ mg c = some (.ref C) ∧ H a = some (.ins C dx []) ∧ F a = none ∧ Same F H ∧ DatL K mg F ds us ∧ ds.length + 1 = n ∧ fn ds = some r ∧
    (∀ d, r = .ok d → ∀ F' H', Grow F (forget a H) F' H' → Dat K mg F' d (.ref a) → Q .non H') ∧
    ∀ e, r = .error e → ∀ cls dd F' H', Grow F (forget a H) F' H' → ExD K mg F' e cls dd → E cls dd H'
def outI : Option Out → R D
  | some (.nx ρ) => match (ρ[0]? : Option Sl) with
    | some (Sl.obj c fs) => ok (insOf c fs)
    | _ => none
  | some (.er e _) => err e
  | _ => none
def fnI (c : Str) (n m : Nat) (g : SF) (ds : List D) : R D := if ds.length + 1 = n then outI (g (.obj c [] :: (ds.map .d ++ List.replicate (m - n) .un))) else none
section
variable {P : Program} {w : World} {K : Frag} {mg : MG} {base : Heap}
theorem forget_same {a : Addr} {H : Hp} : Same (forget a H) H := fun b o e => by
  unfold forget at e
  split at e
  · cases e
  · exact e
theorem same_forget {a : Addr} {F H : Hp} (s : Same F H) (h : F a = none) : Same F (forget a H) := fun b o e => by
  unfold forget
  rw [if_neg fun z => by rw [z, h] at e; cases e]
  exact s b o e
theorem fnI_ok {CX : CXT} {x qual c : Str} {st : Stmt} {f : Addr} {fd : FuncData} {N ps : List Str} {k : Nat} {g : SF} (Fu : Fun K x qual st f fd) (S : FnScope N ps (defScope st)) (hn : ps.length ≤ N.length)
    (hbody : ∀ (cdv : Value) (A : Around) (outer : List Env) (s : Shared) (H : Hp) (E : XK), Room k (A.deeper (envOfC qual (defScope st) s.heap.objs.size f cdv)) →
      SsD (cxOf CX P w K mg base N qual (defScope st) f cdv A outer s H E) (fun cls d _ H => E cls d H) (defBody st) g) : FnOk P w K mg base CX (k + 1) f fd ps (spI K mg c ps.length (fnI c ps.length N.length g)) := by
  obtain ⟨oc, od, kV, doc, pm, an, cdv, ct, osl, rfl, lk, hcd⟩ := Fu.ex
  refine fn_of lk hcd S (fun vs H Q E h => ?_) fun A outer s H vs Q E hr h => ⟨_, hbody cdv A outer s H E hr, ?_⟩
  · obtain ⟨a, C, dx, us, F, ds, r, rfl, _, _, _, _, hd, hl, _⟩ := h
    rw [List.length_cons, hd.len, hl]
  · obtain ⟨a, C, dx, us, F, ds, r, rfl, hC, ha, hF, s, hd, hl, hf, hq, he⟩ := h
    unfold fnI at hf
    rw [if_pos hl] at hf
    -- the slots at the start
    have sf := same_forget (a := a) s hF
    have e0 : L2.start N (V.ref a :: us) = some (.ref a) :: (us.map some ++ List.replicate (N.length - ps.length) none) := by
      unfold L2.start
      rw [List.map_cons, List.length_cons, hd.len, hl]
      rfl
    have own : ∀ (j : Nat) (t : Sl), (ds.map Sl.d ++ List.replicate (N.length - ps.length) Sl.un)[j]? = some t → t.ow ≠ true := fun j t e o => by
      by_cases hi : j < ds.length
      · rw [List.getElem?_append_left (by simpa using hi), List.getElem?_map] at e
        cases q : ds[j]? with
        | none => rw [q] at e; cases e
        | some d => rw [q] at e; cases e; cases o
      · rw [List.getElem?_append_right (by simpa using hi), List.getElem?_replicate] at e
        split at e <;> cases e
        cases o
    have s0 : StOk K mg F (forget a H) a F H (.obj c [] :: (ds.map Sl.d ++ List.replicate (N.length - ps.length) Sl.un)) (L2.start N (V.ref a :: us)) := by
      rw [e0]
      refine ⟨⟨Same.refl _, forget_same, s, fun _ _ _ h => h⟩, ⟨s, ?_, fun i sl e => ?_, fun i j t u b hij e1 o1 e2 o2 e3 e4 => ?_⟩, fun i t b e o z => ?_, fun i c' fs b e z => ?_⟩
      · rw [List.length_cons, List.length_cons, List.length_append, List.length_append, List.length_map, List.length_map, List.length_replicate, List.length_replicate, hd.len]
      · cases i with
        | zero =>
          cases e
          exact ⟨a, C, dx, [], rfl, hF, hC, ha, rfl, rfl⟩
        | succ i =>
          rw [List.getElem?_cons_succ] at e ⊢
          by_cases hi : i < ds.length
          · rw [List.getElem?_append_left (by simpa using hi), List.getElem?_map] at e
            cases q : ds[i]? with
            | none => rw [q] at e; cases e
            | some d =>
              rw [q] at e
              cases e
              obtain ⟨v, h1, h2⟩ := hd.get q
              refine ⟨v, ?_, h2⟩
              rw [List.getElem?_append_left (by rw [List.length_map, hd.len]; exact hi), List.getElem?_map, h1]
              rfl
          · rw [List.getElem?_append_right (by simpa using hi), List.getElem?_replicate] at e
            split at e <;> cases e
            trivial
      · cases i with
        | zero =>
          cases j with
          | zero => exact hij rfl
          | succ j => exact own j u e2 o2
        | succ i => exact own i t e1 o1
      · cases i with
        | zero =>
          cases z
          unfold forget
          rw [if_pos rfl]
        | succ i => exact absurd o (own i t e)
      · cases i with
        | zero => cases z; rfl
        | succ i => exact absurd rfl (own i _ e)
    cases eg : g (.obj c [] :: (ds.map .d ++ List.replicate (N.length - ps.length) .un)) with
    | none => rw [eg] at hf; cases hf
    | some o =>
      rw [eg] at hf
      refine ⟨F, forget a H, a, F, _, o, s0, eg, ?_⟩
      cases o with
      | nx ρ' =>
        intro σ' F' H' sm s'
        replace hf : (match (ρ'[0]? : Option Sl) with
          | some (Sl.obj c fs) => ok (insOf c fs)
          | _ => none) = some r := hf
        split at hf
        · rename_i c' fs' e'
          cases hf
          obtain ⟨a', C', dx', gs, q1, q2, q3, q4, q5, q6⟩ := s'.rl.sl 0 _ e'
          have ea := s'.ob 0 c' fs' a' e' q1
          subst ea
          have sm2 : Same F' (upd F' a' (.ins C' dx' gs)) := same_upd q2
          have s2 := s'.frzO e' rfl q1 q2 q4 (d := insOf c' fs') ⟨C', a', dx', gs, q3, rfl, upd_same, q5, q6.mono sm2⟩
          exact hq _ rfl _ H' s2.g ⟨C', a', dx', gs, q3, rfl, upd_same, q5, q6.mono sm2⟩
        · cases hf
      | rt d => cases hf
      | bk ρ' => cases hf
      | ct ρ' => cases hf
      | er e ρ' => exact fun cls dd σ' F' H' _ s' x => he e (Option.some.inj hf).symm cls dd F' H' s'.g x
/-- what is known of a class's name: fn tells the instance that comes of the arguments -/
structure ClsD (P : Program) (w : World) (K : Frag) (mg : MG) (base : Heap) (CX : CXT) (k : Nat) (c : Str) (fn : List D → R D) : Prop where
  ex : ∃ C f fd ps, Mk K C f ∧ FnOk P w K mg base CX k f fd ps (spI K mg c ps.length fn) ∧ (∀ ds r, fn ds = some r → ds.length + 1 = ps.length) ∧ mg c = some (.ref C) ∧ Binds K fd ps []
end
section
variable {X : Cx} {W : WX} {e a b c tg o : Expr} {es rest : List Expr} {pos p p2 apos tpos : Pos} {f g k : EF} {af ag ah : AF} {tf : TF} {x : Str} {fn : List D → R D}
/-- a class called, what leaves told at σ -/
theorem run_mk {CX : CXT} {k : Nat} {C fi : Addr} {fd : FuncData} {ps : List Str} {sp : Sp} {EX : L2.St → XK} {pins : List (Addr × Obj)} {σ : L2.St} {H : Hp} {s : Shared} {Q : VK} {us : List Value} {vs : List V} (M : Mk X.K C fi) (Fo : FnOk X.prog X.w X.K X.mg X.base CX k fi fd ps sp) (hr : Room (k + 1) X.A) (hb : Binds X.K fd ps [])
    (hx : ∀ σ, PassesAt CX X σ (EX σ)) (I : L2.Inv X pins σ H s) (r : Vals vs us)
    (h : ∀ x dx, H x = none → H dx = none → dx ≠ x → sp (.ref x :: vs) (upd (upd H dx (.own x)) x (.ins C dx [])) (fun v H2 => v = .non ∧ Q (.ref x) H2) (EX σ)) :
    wpAny (model X.prog X.w) X.A (call (.ref C) us) (EP X pins σ Q) X.xe s := by
  have q0 := h (s.heap.objs.size + 1) s.heap.objs.size (I.hok.fresh (Nat.le_succ _)) (I.hok.fresh (Nat.le_refl _)) (Nat.ne_of_lt (Nat.lt_succ_self _))
  have J := L2.Inv.made (C := C) I
  have rs : Vals (V.ref (s.heap.objs.size + 1) :: vs) (Value.ref (s.heap.objs.size + 1) :: us) := .cons rfl r
  have len : (Value.ref (s.heap.objs.size + 1) :: us).length = ps.length := rs.length.symm.trans (Fo.len _ _ _ _ q0)
  have bd := hb ({ s with heap := (s.heap.push PySem.W.emptyDict).push (PySem.W.instObj C s.heap.objs.size) }) (Value.ref (s.heap.objs.size + 1) :: us) J.kIn (by rw [List.append_nil]; exact len)
  rw [List.append_nil] at bd
  have body := Fo.run _ X.stack _ _ ⟨Value.ref (s.heap.objs.size + 1) :: us, []⟩ (Value.ref (s.heap.objs.size + 1) :: us) _ _ (EX σ) (hr.make C us []) (J.env0.make C us []) bd rs q0
  refine wpAny_call (make_map (f := fi) I.kIn M.makes M.init (beq_iff_eq.mp M.fn) (codeAny_mono body fun res s' q => ?_))
  cases res with
  | error e => exact hx σ pins _ _ e s' J q
  | ok fl =>
    cases fl with
    | ret u =>
      obtain ⟨v, H', J', rv, ev, q3⟩ := J.after q
      subst ev
      exact ⟨rv, ⟨V.ref (s.heap.objs.size + 1), H', J', rfl, q3⟩⟩
    | next => exact q.elim
    | brk => exact q.elim
    | cont => exact q.elim
def tMk (C : Addr) (sp : Sp) (EX : L2.St → XK) (t : TA) : TE := fun σ H Q => t σ H fun vs H1 => ∀ x dx, H1 x = none → H1 dx = none → dx ≠ x →
  sp (.ref x :: vs) (upd (upd H1 dx (.own x)) x (.ins C dx [])) (fun v H2 => v = .non ∧ Q (.ref x) H2) (EX σ)
theorem mk_dat {CX : CXT} {C fi : Addr} {ps : List Str} (hl : ∀ ds r, fn ds = some r → ds.length + 1 = ps.length) (hC : X.mg x = some (.ref C)) (σ : L2.St) (H : Hp) (Q : VK) (h : tE X.K X.mg W (fun ρ => bnd (af ρ) fn) σ H Q) : tMk C (spI X.K X.mg x ps.length fn) (WE W) (tA X.K X.mg W af) σ H Q := by
  obtain ⟨F, ρ, r, rl, h, er, hq⟩ := h
  refine step rl h er fun ds h vs F1 H1 g1 rl1 er1 d1 => ?_
  intro y dx hy hdx hne
  have n1 : F1 y = none := g1.sub.free hy
  have h2 : ∀ b, b ≠ y → b ≠ dx → upd (upd H1 dx (.own y)) y (.ins C dx []) b = H1 b := fun b q1 q2 => by rw [upd_ne q1, upd_ne q2]
  have sm : Same H1 (upd (upd H1 dx (.own y)) y (.ins C dx [])) := fun b o e => by rw [h2 b (ne_of_none e hy) (ne_of_none e hdx)]; exact e
  have gr : ∀ F' H', Grow F1 (forget y (upd (upd H1 dx (.own y)) y (.ins C dx []))) F' H' → Grow F1 H1 F' H' := fun F' H' g => by
    have up : Same H1 (forget y (upd (upd H1 dx (.own y)) y (.ins C dx []))) := same_forget sm hy
    exact ⟨g.fs, up.trans g.hs, g.sub, fun b o e n => g.new b o (up b o e) n⟩
  refine ⟨y, C, dx, vs, F1, ds, r, rfl, hC, upd_same, n1, g1.sub.trans sm, d1, hl ds r h, h, fun d z F' H' g dv => ⟨rfl, hq d z _ F' H' (g1.trans (gr F' H' g)) dv⟩, fun e z cls dd F' H' g x => er1 e z cls dd F' H' (gr F' H' g) x⟩
theorem ed_make {CX : CXT} {kk : Nat} (Cd : ClsD X.prog X.w X.K X.mg X.base CX kk x fn) (hr : Room (kk + 1) X.A) (hx : ∀ σ, PassesAt CX X σ (WE W σ)) (hg : Gl X x) (ha : AD X W (e :: es) af) (hdb : (x == ("__debug__" : Str)) = false := by decide)
    (he : starEach (e :: es) X.env = (false, eval e X.env) :: starEach es X.env := by rfl) (hpl : (backTo pos (starEach es X.env)).any (·.1) = false := by rfl) : ED X W (.Call (.Name x p) (e :: es) [] pos) (fun ρ => bnd (af ρ) fn) := by
  obtain ⟨C, fi, fd, ps, M, Fo, hl, hm, hb⟩ := Cd.ex
  have base : PE X (.Call (.Name x p) (e :: es) [] pos) (tMk C (spI X.K X.mg x ps.length fn) (WE W) (tA X.K X.mg W af)) := by
    refine ⟨fun pins s σ H Q I h => ?_⟩
    refine wpAny_Call_Name_kw (ld_glob I hg hm ?_ hdb)
    refine PySem.W.callWith_K (h₀ := X.base) I.ok.mod.kin M.kp (thn (ha.run pos pins s σ H _ I h) fun us s1 ⟨vs, H1, I1, r, q⟩ => ⟨I1.kIn, ?_⟩) he hpl
    exact run_mk M Fo hr hb hx I1 r q
  exact PE.to base (mk_dat (CX := CX) (fi := fi) hl hm)
end
end PD
set_option Elab.async false
set_option linter.all false
set_option maxRecDepth 100000
set_option maxHeartbeats 2000000
set_option autoImplicit false
/-! Own errors whose __init__ says super().__init__(..) and stores its parameters. -/
namespace PySem
namespace SupE
open PySem.W PySem.Calls PyProof.Rows PySem.HandSPX
section
variable {prog : Program} {w : World} {A : Around} {E : Value → Shared → Prop} {K : Frag} {C : Addr} {nm q : Str} {N : Addr} {bs bm : List Value} {hdct : Bool} {sn : List Str} {sub : List Value} {ab : Bool} {col : Option Bool} {dd : Option Addr} {k0 k1 k2 k3 k5 : Option Value}
theorem cls_of (hC : K.lookup C = some (excClassObj nm q C N bs bm hdct sn sub ab col dd k0 k1 k2 k3 k5 "ValueError.__new__")) :
    clsIn K C = some { name := nm, bases := bs, mro := .ref C :: bm, ns := N, qualname := q, hasDict := hdct, slotNames := sn, subclasses := sub, abstract := ab, collection := col, hasDel := false } := by
  unfold clsIn
  rw [hC] <;> rfl
theorem mro_of (hC : K.lookup C = some (excClassObj nm q C N bs bm hdct sn sub ab col dd k0 k1 k2 k3 k5 "ValueError.__new__")) (b : Value) : mroIn K C b = some ((Value.ref C :: bm).contains b) := by
  unfold mroIn
  rw [cls_of hC]
  rfl
theorem drop_self (l : List Value) : ((Value.ref C :: l).dropWhile (· != .ref C)).drop 1 = l := by simp [List.dropWhile_cons]
/-- ValueError's own __init__, bound to the new error, called -/
theorem call_init {u x t0 : Addr} {rest : List Value} {s : Shared} {Q : Value → Shared → Prop} (hC : s.heap.get? C = some (excClassObj nm q C N bs bm hdct sn sub ab col dd k0 k1 k2 k3 k5 "ValueError.__new__")) (hx : s.heap.get? x = some (excO C t0)) (hu : s.heap.get? u = some (kxs_mw "ValueError.__init__" x)) (hl : rest.length ≤ sizeLine)
    (hq : ∀ h' t', (∀ b o, b ≠ x → s.heap.get? b = some o → h'.get? b = some o) → h'.get? x = some (excO C t') → Q .none { s with heap := h' }) : wpAny (model prog w) A (call (.ref u) rest) Q E s := by
  obtain ⟨hp, gn, dr, tk, ob⟩ := s
  refine wpAny_call (codeAny_of_tree ?_)
  show wpAny _ A.in1 (callAny (.ref u) ⟨rest, []⟩) _ _ _
  unfold callAny
  refine wpAny_bind (wpAny_load hu ?_)
  simp only [kxs_mw, show (Value.type "method-wrapper" == Value.type "method" || Value.type "method-wrapper" == Value.type "builtin_function_or_method" || Value.type "method-wrapper" == Value.type "method-wrapper") = true by decide, if_true]
  refine KFB.if_so (by decide) (wpAny_bind (check_bound_init F.excBase_ValueError.toExcCallFacts hC hx rfl ?_))
  refine wpAny_bind (wpAny_pure (wpAny_pure ⟨plainId_quiet F.excBase_ValueError.init.plain _, codeAny_builtin F.excBase_ValueError.initEntry ?_⟩))
  exact exc_init_tree (cls := .ref C) (t0 := t0) (dv := none) (c2 := .none) (c3 := .none) (b4 := .bool false) hx hl fun h' k1 k2 _ => hq h' _ k1 k2
variable {qual : Str} {scope : Scope} {L fI cc cda x t0 SE : Addr} {m mg mb : Str → Option Value} {fd : FuncData} {ar : Arg} {vs : Array Value} {file : Str} {tf : Tok} {oc ccl cl : Value} {od cdd cld : Option Addr} {osl ccs csl : Array (Option Value)} {body : List Stmt} {s : Shared}
/-- super().__init__(e) as a statement -/
theorem sup_stmt {pl : Sem Bool} {e : Expr} {p0 p1 p2 p3 p4 : Pos} {Q : Flow → Shared → Prop} (hks : scope.names.lookup ("super" : Str) = some .globalImplicit) (hkc : scope.names.lookup ("__class__" : Str) = some .free) (hsl : scope.names.lookup ("self" : Str) = some .local) (hk : scope.kind = .function)
    (X : K.In s.heap) (hf : K.lookup fI = some ⟨oc, od, .func fd, osl⟩) (hp : (fd.params.posonlyargs ++ fd.params.args).head? = some ar) (har : ar.arg = ("self" : Str)) (hcode : K.lookup cda = some ⟨ccl, cdd, .fields vs, ccs⟩) (hvs : vs[2]? = some (.str file tf)) (hfile : ((prog.main.file : Str) == file) = true)
    (hcell : K.lookup cc = some ⟨cl, cld, .cell (some (.ref C)), csl⟩) (hC : K.lookup C = some (excClassObj nm q C N bs bm hdct sn sub ab col dd k0 k1 k2 k3 k5 "ValueError.__new__")) (hve : subIn K (.ref C) (.type "ValueError") = some true) (hal : alongIn K "__init__" bm = some (some (.builtin "ValueError.__init__")))
    (hns : s.heap.Ns L m) (hm : m "self" = some (.ref x)) (hx : s.heap.get? x = some (excO C t0)) (hg : s.heap.Ns mainGlobals mg) (hmg : mg "super" = none) (hb : s.heap.Ns builtinsNs mb) (hmb : mb "super" = some (.type "super")) (hopq : nsIn K cStatics "thirdparty.any" = some none) (htop : (prog.main.scope.names.lookup ("super" : Str)).isSome = false)
    (hst : starEach [e] (ksEnv qual scope L fI (.ref cda) cc) = (false, eval e (ksEnv qual scope L fI (.ref cda) cc)) :: starEach [] (ksEnv qual scope L fI (.ref cda) cc))
    (he : ∀ (s1 : Shared) (Q1 : Value → Shared → Prop), (∀ b o, s.heap.get? b = some o → s1.heap.get? b = some o) → (∀ v tk, Q1 v { s1 with toks := tk }) → wpAny (model prog w) A (eval e (ksEnv qual scope L fI (.ref cda) cc)) Q1 E s1)
    (hq : ∀ h' t' tk, (∀ b o, b ≠ x → s.heap.get? b = some o → h'.get? b = some o) → h'.get? x = some (excO C t') → Q .next { s with heap := h', toks := tk })
    (hsw : swapsWith (.Call (.Attribute (.Call (.Name "super" p0) [] [] p1) "__init__" p2) [e] [] p3) none p4.line (ksEnv qual scope L fI (.ref cda) cc) = pure false := by rfl) (hi : interactive (ksEnv qual scope L fI (.ref cda) cc) = false := by rfl)
    (hev : eval (.Call (.Attribute (.Call (.Name "super" p0) [] [] p1) "__init__" p2) [e] [] p3) (ksEnv qual scope L fI (.ref cda) cc) = (do
      let ov ← attributeBase (.Call (.Name "super" p0) [] [] p1) "__init__" (ksEnv qual scope L fI (.ref cda) cc) (eval (.Call (.Name "super" p0) [] [] p1) (ksEnv qual scope L fI (.ref cda) cc))
      standAt p2.atName
      let (f, first) ← holding [ov] (getMethod ov "__init__" pl)
      callWith p3 f first (backTo p3 (starEach [e] (ksEnv qual scope L fI (.ref cda) cc))) []) := by rfl) :
    wpAt (model prog w) A (.func body (ksEnv qual scope L fI (.ref cda) cc)) (exec (.Expr (.Call (.Attribute (.Call (.Name "super" p0) [] [] p1) "__init__" p2) [e] [] p3) p4) (ksEnv qual scope L fI (.ref cda) cc)) Q E s := by
  obtain ⟨hh, gn, dr, tk0, ob⟩ := s
  refine ks_wpAt_Expr_any (ks_wpAt_MethodCall (pl := pl) (ks_wpAt_super_base hks hkc rfl rfl (X _ _ hf) rfl hp rfl (X _ _ hcode) rfl hvs hfile htop ?_) hev) hi hsw
  refine ks_loadName_global hk hks (loadGlobal_builtin hg hmg hb hmb ⟨rfl, ?_⟩)
  refine wpAny_loadName_free hk hkc rfl ⟨_, X _ _ hcell, rfl⟩ ?_
  rw [har]
  refine wpAny_loadName_local hk hsl hns hm ?_
  refine ks_wpAny_isType_cls (X _ _ hC) rfl ⟨rfl, ?_⟩
  have hself : mroIn K C (.ref C) = some true := by
    rw [mro_of hC, List.contains_cons]
    simp
  have I : InstAt hh x (excO C t0) C none := ⟨hx, rfl, rfl, trivial⟩
  refine ks_wpAny_call_super (X _ _ hC) rfl hx rfl (fun c z => nomatch z) (looks_mroIn X hself) fun h1 e1 k1 => ?_
  have X1 : K.In h1 := X.keeps k1
  have I1 : InstAt h1 x (excO C t0) C none := ⟨k1 _ _ hx, rfl, rfl, trivial⟩
  have hI : Looks (model prog w) h1 (isInstance (.ref x) (.type "ValueError")) true := I1.type.andThen (looks_subIn X1 hve)
  have hM : Looks (model prog w) h1 (mroOf (.ref C)) (.ref C :: bm) := (looks_clsIn X1 (cls_of hC)).andThen .now
  refine kxs_getMethod kxs_ValueError e1 (looks_opaque X1 hopq) (l₀ := .ref C :: bm) hM (drop_self bm) X1 hal hI (ks_ne X1 I1 (cls_of hC)) (by decide) ?_
  -- the call
  have hu : (h1.push (kxs_mw "ValueError.__init__" x)).get? h1.objs.size = some (kxs_mw "ValueError.__init__" x) := Heap.get?_push_size _ rfl
  have k2 : ∀ b o, hh.get? b = some o → (h1.push (kxs_mw "ValueError.__init__" x)).get? b = some o := fun b o z => Heap.get?_push_of_some _ (k1 b o z)
  show wpAny (model prog w) A (callWith p3 (.ref h1.objs.size) [] (backTo p3 (starEach [e] (ksEnv qual scope L fI (.ref cda) cc))) []) _ _ _
  rw [hst]
  refine kxs_callWith (i := "ValueError.__init__") (x := x) rfl ?_
  refine evalArgs_plain (spliced_cons (he _ _ k2 fun v tk => spliced_nil ⟨hu, ?_⟩))
  refine call_init ((X.keeps k2) _ _ hC) (k2 _ _ hx) hu (by show 1 ≤ sizeLine; decide) fun h' t' k3 hx' => ?_
  exact hq h' t' tk (fun b o hb z => k3 b o hb (k2 b o z)) hx'

/-! ### one field -/
def supA (fn : Str) (p1 p2 : Pos) : Arguments := { posonlyargs := [], args := [{ arg := "self", annotation := none, pos := p1 }, { arg := fn, annotation := none, pos := p2 }], vararg := none, kwonlyargs := [], kw_defaults := [], kwarg := none, defaults := [] }
def supB (fn : Str) (e : Expr) (p0 p1 p2 p3 p4 q1 q2 q3 q4 : Pos) : List Stmt :=
  [.Expr (.Call (.Attribute (.Call (.Name "super" p0) [] [] p1) "__init__" p2) [e] [] p3) p4, .Assign [.Attribute (.Name "self" q1) fn q2] (.Name fn q3) q4]
def supS (fn : Str) : Scope := { kind := .function, names := [(PySem.Str.ofString "self", .local), (fn, .local), (PySem.Str.ofString "__class__", .free), (PySem.Str.ofString "super", .globalImplicit)], isGenerator := false, isCoroutine := false, more := [] }
/-- what a made error leaves -/
structure Made (h h' : Heap) (e C d : Addr) (mF : Str → Option Value) : Prop where
  keep : ∀ b o, h.get? b = some o → h'.get? b = some o
  new : h.objs.size ≤ e
  obj : ∃ t, h'.get? e = some { cls := .ref C, dict := some d, data := .fields #[.ref t, .none, .none, .none, .bool false, .none] }
  dbig : h.objs.size ≤ d
  dne : d ≠ e
  ns : h'.Ns1 d mF
/-- what the written part says of the class at C (own name x), and of the record of its __init__ at fI -/
structure SupCls (P : Program) (K : Frag) (mg : Str → Option Value) (x : Str) (C fI : Addr) : Prop where
  gC : mg x = some (.ref C)
  cls : ∃ nm q N bs bm sn sub ab col dd k0 k1 k2 k3 k5, K.lookup C = some (excClassObj nm q C N bs bm true sn sub ab col dd k0 k1 k2 k3 k5 "ValueError.__new__") ∧ refsVE bm = true ∧ alongIn K "__init__" bm = some (some (.builtin "ValueError.__init__"))
  ve : subIn K (.ref C) (.type "ValueError") = some true
  sa : findIn K (.ref C) "__setattr__" = some (some (.builtin "object.__setattr__"))
  ga : findIn K (.ref C) "__getattribute__" = some (some (.builtin "BaseException.__getattribute__"))
  gg : findIn K (.ref C) "__getattr__" = some none
  iC : findIn K (.ref C) "__init__" = some (some (.ref fI))
  tC : typeIn K (.ref fI) = some (.type "function")
  kC : keepIn K (.ref C) = true
  exC : subIn K (.ref C) (.type "BaseException") = some true
  tyC : typeIn K (.ref C) = some (.type "type")
  hdC : hasDictIn K C = true
  sup : mg "super" = none
  opq : nsIn K cStatics "thirdparty.any" = some none
  top : (P.main.scope.names.lookup ("super" : Str)).isSome = false
/-- .. of the code of __init__ -/
structure SupFn (P : Program) (K : Frag) (C fI : Addr) (A : Arguments) (B : List Stmt) (S : Scope) : Prop where
  fn : ∃ (oc : Value) (od : Option Addr) (qual : Str) (doc pm : Value) (an : Option Addr) (cda : Addr) (ct : Value) (osl : Array (Option Value)) (cc : Addr),
    K.lookup fI = some ⟨oc, od, .func (ksFn "__init__" qual A B S .none .none doc pm an (.ref cda) ct cc), osl⟩ ∧ codeIn K (.ref cda) qual = true ∧
    (∃ (ccl : Value) (cdd : Option Addr) (vs : Array Value) (ccs : Array (Option Value)) (file : Str) (tf : Tok), K.lookup cda = some ⟨ccl, cdd, .fields vs, ccs⟩ ∧ vs[2]? = some (.str file tf) ∧ ((P.main.file : Str) == file) = true) ∧
    ∃ (cl : Value) (cld : Option Addr) (csl : Array (Option Value)), K.lookup cc = some ⟨cl, cld, .cell (some (.ref C)), csl⟩
theorem ld1 {M : Model} {E : Value → Shared → Prop} {env : Env} {x : Str} {pos : Pos} {v : Value} {m : Str → Option Value} {s : Shared} {Q : Value → Shared → Prop} {A : Around} (hn : s.heap.Ns env.locals m) (hv : m x = some v) (h : Q v s) (hk : env.scope.kind = .function) (hl : env.kindOf x = some .local) (hd : (x == ("__debug__" : Str)) = false) :
    wpAny M A (eval (.Name x pos) env) Q E s := wpAny_Name (wpAny_loadName_local hk hl hn hv h) hd
theorem one_line {α : Type} (v : α) : [v].length ≤ sizeLine := by
  rw [sizeLine_eq]
  exact (by decide : 1 ≤ 16777216)
theorem init1 {R : Result → Shared → Prop} {fn x : Str} {e : Expr} {p1' p2' p0 p1 p2 p3 p4 q1 q2 q3 q4 : Pos} (T : SupCls prog K mg x C fI) (G : SupFn prog K C fI (supA fn p1' p2') (supB fn e p0 p1 p2 p3 p4 q1 q2 q3 q4) (supS fn))
    (noN : findIn K (.ref C) fn = some none) (hfn : (fn == ("self" : Str)) = false) (hfc : (fn == ("__class__" : Str)) = false) (hfs : (fn == ("super" : Str)) = false) (hfd : (fn == ("__debug__" : Str)) = false)
    {xa : Addr} {v : Value} (X : K.In s.heap) (hlim : s.heap.NoLimit) (hg : s.heap.Ns mainGlobals mg) (hb : s.heap.Ns builtinsNs mb) (hmb : mb "super" = some (.type "super")) (hx : s.heap.get? xa = some (excO C t0)) (hnx : K.lookup xa = none) (hnm : xa ≠ mainGlobals) (hnb : xa ≠ builtinsNs) (hroom : A.depth < recursionLimit)
    (he : ∀ (env : Env) (A' : Around) (E' : Value → Shared → Prop) (s1 : Shared) (Q1 : Value → Shared → Prop), env.scope = supS fn → s1.heap.Ns env.locals (fun y => [(("self" : Str), Value.ref xa), (fn, v)].reverse.lookup y) → (∀ u tk, Q1 u { s1 with toks := tk }) → wpAny (model prog w) A' (eval e env) Q1 E' s1)
    (hst : ∀ env : Env, starEach [e] env = (false, eval e env) :: starEach [] env)
    (hbd : ∀ (qual : Str) (doc pm : Value) (an : Option Addr) (cda : Addr) (ct : Value) (cc : Addr) (a b : Value), bindArgs (ksFn "__init__" qual (supA fn p1' p2') (supB fn e p0 p1 p2 p3 p4 q1 q2 q3 q4) (supS fn) .none .none doc pm an (.ref cda) ct cc) ⟨[a, b], []⟩ = pure [(("self" : Str), a), (fn, b)])
    (hev : ∀ (qual : Str) (L fI cda cc : Addr), ∃ pl : Sem Bool, eval (.Call (.Attribute (.Call (.Name "super" p0) [] [] p1) "__init__" p2) [e] [] p3) (ksEnv qual (supS fn) L fI (.ref cda) cc) = (do
      let ov ← attributeBase (.Call (.Name "super" p0) [] [] p1) "__init__" (ksEnv qual (supS fn) L fI (.ref cda) cc) (eval (.Call (.Name "super" p0) [] [] p1) (ksEnv qual (supS fn) L fI (.ref cda) cc))
      standAt p2.atName
      let (f, first) ← holding [ov] (getMethod ov "__init__" pl)
      callWith p3 f first (backTo p3 (starEach [e] (ksEnv qual (supS fn) L fI (.ref cda) cc))) []))
    (hq : ∀ h' tk dx t', (∀ b o, b ≠ xa → s.heap.get? b = some o → h'.get? b = some o) → h'.get? xa = some { cls := .ref C, dict := some dx, data := .fields #[.ref t', .none, .none, .none, .bool false, .none] } → s.heap.objs.size ≤ dx → dx ≠ xa → h'.Ns1 dx (fun y => if y = fn then some v else none) → R (.ok (.ret .none)) { s with heap := h', toks := tk }) :
    codeAny (model prog w) A (.call (.ref fI) ⟨[.ref xa, v], []⟩) R s := by
  obtain ⟨oc, od, qual, doc, pm, an, cda, ct, osl, cc, ho, hcd, ⟨ccl, cdd, vs, ccs, file, tf, hcode, hvs, hfile⟩, cl, cld, csl, hcell⟩ := G.fn
  obtain ⟨nm, q, N, bs, bm, sn, sub, ab, col, dd, k0, k1, k2, k3, k5, hC, hbm, hal⟩ := T.cls
  have lf : (supS fn).names.lookup fn = some .local := by
    show List.lookup fn [(PySem.Str.ofString "self", NameKind.local), (fn, .local), _, _] = _
    rw [List.lookup, show (fn == PySem.Str.ofString "self") = false from hfn]
    simp [List.lookup]
  have lc : (supS fn).names.lookup ("__class__" : Str) = some .free := by
    show List.lookup (PySem.Str.ofString "__class__") [(PySem.Str.ofString "self", NameKind.local), (fn, .local), _, _] = _
    have e1 : (PySem.Str.ofString "__class__" == PySem.Str.ofString "self") = false := by decide
    have e2 : (PySem.Str.ofString "__class__" == fn) = false := by
      have := hfc
      rw [beq_eq_false_iff_ne] at this ⊢
      exact fun z => this z.symm
    simp [List.lookup, e1, e2]
  have ls : (supS fn).names.lookup ("super" : Str) = some .globalImplicit := by
    show List.lookup (PySem.Str.ofString "super") [(PySem.Str.ofString "self", NameKind.local), (fn, .local), _, _] = _
    have e1 : (PySem.Str.ofString "super" == PySem.Str.ofString "self") = false := by decide
    have e2 : (PySem.Str.ofString "super" == fn) = false := by
      have := hfs
      rw [beq_eq_false_iff_ne] at this ⊢
      exact fun z => this z.symm
    have e3 : (PySem.Str.ofString "super" == PySem.Str.ofString "__class__") = false := by decide
    simp [List.lookup, e1, e2, e3]
  have lself : (supS fn).names.lookup ("self" : Str) = some .local := by
    show List.lookup (PySem.Str.ofString "self") [(PySem.Str.ofString "self", NameKind.local), (fn, .local), _, _] = _
    simp [List.lookup]
  have hxs : s.heap.objs.size ≠ xa := Nat.ne_of_gt (Heap.lt_size hx)
  have m1 : (fun y => [(("self" : Str), Value.ref xa), (fn, v)].reverse.lookup y) "self" = some (.ref xa) := by
    show List.lookup (PySem.Str.ofString "self") [(fn, v), (PySem.Str.ofString "self", Value.ref xa)] = _
    have e2 : (PySem.Str.ofString "self" == fn) = false := by
      have := hfn
      rw [beq_eq_false_iff_ne] at this ⊢
      exact fun z => this z.symm
    simp [List.lookup, e2]
  have m2 : (fun y => [(("self" : Str), Value.ref xa), (fn, v)].reverse.lookup y) fn = some v := by
    show List.lookup fn [(fn, v), (PySem.Str.ofString "self", Value.ref xa)] = _
    simp [List.lookup]
  refine ks_codeAny_call_defAt (fd := ksFn "__init__" qual (supA fn p1' p2') (supB fn e p0 p1 p2 p3 p4 q1 q2 q3 q4) (supS fn) .none .none doc pm an (.ref cda) ct cc) (body := supB fn e p0 p1 p2 p3 p4 q1 q2 q3 q4) (binds := [("self", .ref xa), (fn, v)])
    hroom (X _ _ ho) rfl hlim (codeRec_of X hcd) rfl (BindsTo.of_eq (hbd ..)) (fun y hy => ?_) (fun y hy => ?_) (fun h₀ hns k => ?_) rfl rfl rfl
  · have hy' : y ∈ [(PySem.Str.ofString "self", NameKind.local), (fn, .local), (PySem.Str.ofString "__class__", .free), (PySem.Str.ofString "super", .globalImplicit)] := hy
    simp only [List.mem_cons, List.not_mem_nil, or_false] at hy'
    rcases hy' with rfl | rfl | rfl | rfl <;> exact fun z => nomatch z
  · simp only [List.mem_cons, List.not_mem_nil, or_false] at hy
    rcases hy with rfl | rfl
    · exact lself
    · exact lf
  · -- the body
    have X0 : K.In h₀ := X.keeps k
    show wpAt (model prog w) (A.deeper (ksEnv qual (supS fn) s.heap.objs.size fI (.ref cda) cc)) (.func (supB fn e p0 p1 p2 p3 p4 q1 q2 q3 q4) (ksEnv qual (supS fn) s.heap.objs.size fI (.ref cda) cc)) (execs (supB fn e p0 p1 p2 p3 p4 q1 q2 q3 q4) (ksEnv qual (supS fn) s.heap.objs.size fI (.ref cda) cc)) _ _ _
    obtain ⟨pl, hev⟩ := hev qual s.heap.objs.size fI cda cc
    refine ks_wpAt_execs_cons (sup_stmt (pl := pl) (hev := hev) (s := { s with heap := h₀, toks := s.toks + 2 }) ls lc lself rfl X0 ho rfl rfl hcode hvs hfile hcell hC T.ve hal hns m1 (k _ _ hx) (hg.keeps k) T.sup (hb.keeps k) hmb T.opq T.top (hst _) (fun s1 Q1 k1 q => he _ _ _ s1 Q1 rfl (hns.keeps k1) q) (fun h1 t1 tk1 k1 hx1 => ?_))
    have X1 : K.In h1 := fun b o z => k1 b o (fun y => by rw [y, hnx] at z; cases z) (X0 b o z)
    have hns1 : h1.Ns s.heap.objs.size (fun y => [(("self" : Str), Value.ref xa), (fn, v)].reverse.lookup y) := by
      obtain ⟨oL, es, ep, hL, r⟩ := hns
      exact ⟨oL, es, ep, k1 _ _ hxs hL, r⟩
    refine wpAt_of_wpAny (wpAny_execs_cons (plainObj_wpAny_Assign_Attribute ?_ rfl))
    refine ld1 (v := v) hns1 m2 (ld1 (v := .ref xa) hns1 m1 ?_ rfl lself (by decide)) rfl lf hfd
    refine set_plain (s := { s with heap := h1, toks := tk1 }) X1 (ox := excO C t1) (od := none) ⟨hx1, rfl, rfl, trivial⟩ T.sa ?_
    refine exc_osa X1 hx1 (cls_of hC) (show refsVE (.ref C :: bm) = true from hbm) rfl noN (fun h₃ tk₃ dx k₃ dn dne hx₃ hn₃ => ?_)
    show wpAny _ _ (execs _ _) _ _ _
    exact wpAny_execs_nil (hq h₃ tk₃ dx t1 (fun b o hb z => k₃ b o hb (k1 b o hb (k b o z))) hx₃ (Nat.le_of_lt (Nat.lt_of_lt_of_le hns1.lt dn)) dne hn₃)
theorem made1 {R : Result → Shared → Prop} {fn x : Str} {e : Expr} {p1' p2' p0 p1 p2 p3 p4 q1 q2 q3 q4 : Pos} (T : SupCls prog K mg x C fI) (G : SupFn prog K C fI (supA fn p1' p2') (supB fn e p0 p1 p2 p3 p4 q1 q2 q3 q4) (supS fn))
    (noN : findIn K (.ref C) fn = some none) (hfn : (fn == ("self" : Str)) = false) (hfc : (fn == ("__class__" : Str)) = false) (hfs : (fn == ("super" : Str)) = false) (hfd : (fn == ("__debug__" : Str)) = false)
    {v : Value} (X : K.In s.heap) (hlim : s.heap.NoLimit) (hg : s.heap.Ns mainGlobals mg) (hb : s.heap.Ns builtinsNs mb) (hmb : mb "super" = some (.type "super")) (hroom : A.depth + 1 < recursionLimit)
    (he : ∀ (self : Value) (env : Env) (A' : Around) (E' : Value → Shared → Prop) (s1 : Shared) (Q1 : Value → Shared → Prop), env.scope = supS fn → s1.heap.Ns env.locals (fun y => [(("self" : Str), self), (fn, v)].reverse.lookup y) → (∀ u tk, Q1 u { s1 with toks := tk }) → wpAny (model prog w) A' (eval e env) Q1 E' s1)
    (hst : ∀ env : Env, starEach [e] env = (false, eval e env) :: starEach [] env)
    (hbd : ∀ (qual : Str) (doc pm : Value) (an : Option Addr) (cda : Addr) (ct : Value) (cc : Addr) (a b : Value), bindArgs (ksFn "__init__" qual (supA fn p1' p2') (supB fn e p0 p1 p2 p3 p4 q1 q2 q3 q4) (supS fn) .none .none doc pm an (.ref cda) ct cc) ⟨[a, b], []⟩ = pure [(("self" : Str), a), (fn, b)])
    (hev : ∀ (qual : Str) (L fI cda cc : Addr), ∃ pl : Sem Bool, eval (.Call (.Attribute (.Call (.Name "super" p0) [] [] p1) "__init__" p2) [e] [] p3) (ksEnv qual (supS fn) L fI (.ref cda) cc) = (do
      let ov ← attributeBase (.Call (.Name "super" p0) [] [] p1) "__init__" (ksEnv qual (supS fn) L fI (.ref cda) cc) (eval (.Call (.Name "super" p0) [] [] p1) (ksEnv qual (supS fn) L fI (.ref cda) cc))
      standAt p2.atName
      let (f, first) ← holding [ov] (getMethod ov "__init__" pl)
      callWith p3 f first (backTo p3 (starEach [e] (ksEnv qual (supS fn) L fI (.ref cda) cc))) []))
    (hq : ∀ h' tk e d, Made s.heap h' e C d (fun y => if y = fn then some v else none) → R (.ok (.ret (.ref e))) { s with heap := h', toks := tk }) :
    codeAny (model prog w) A (.call (.ref C) ⟨[v], []⟩) R s := by
  obtain ⟨nm, q, N, bs, bm, sn, sub, ab, col, dd, k0, k1, k2, k3, k5, hC, hbm, hal⟩ := T.cls
  obtain ⟨hp, gn, dr, tk, ob⟩ := s
  have up : ∀ b o, hp.get? b = some o → ((hp.push (kdv_tup [v])).push (excO C hp.objs.size)).get? b = some o := fun b o z => Heap.get?_push_of_some _ (Heap.get?_push_of_some _ z)
  have at1 : ((hp.push (kdv_tup [v])).push (excO C hp.objs.size)).get? (hp.objs.size + 1) = some (excO C hp.objs.size) := by heap_get
  have no1 : K.lookup (hp.objs.size + 1) = none := by
    cases z : K.lookup (hp.objs.size + 1) with
    | none => rfl
    | some o => exact absurd (Nat.lt_of_succ_lt (Heap.lt_size (X _ _ z : hp.get? (hp.objs.size + 1) = some o))) (Nat.lt_irrefl _)
  refine call_own F.excBase_ValueError (fun Y => refsVE_contains Y bm hbm) (X _ _ hC) (looks_findIn X T.iC) (fun self => bind_fn X self T.tC) (one_line v) ?_
  have gsz : mainGlobals ≠ hp.objs.size + 1 := by
    obtain ⟨o, es, ep, z, _⟩ := hg
    exact Nat.ne_of_lt (Nat.lt_succ_of_lt (Heap.lt_size z))
  have bsz : builtinsNs ≠ hp.objs.size + 1 := by
    obtain ⟨o, es, ep, z, _⟩ := hb
    exact Nat.ne_of_lt (Nat.lt_succ_of_lt (Heap.lt_size z))
  refine init1 (s := ⟨(hp.push (kdv_tup [v])).push (excO C hp.objs.size), gn, dr, tk, ob⟩) T G noN hfn hfc hfs hfd (X.keeps up) (hlim.keeps up) (hg.keeps up) (hb.keeps up) hmb at1 no1 gsz.symm bsz.symm (by show A.depth + 1 < recursionLimit; exact hroom) (he _) hst hbd hev fun h' tk' dx t' k' hx dn dne hns => ?_
  have old : ∀ b o, hp.get? b = some o → h'.get? b = some o := fun b o z => k' b o (Nat.ne_of_lt (Nat.lt_succ_of_lt (Heap.lt_size z))) (up b o z)
  have dn' : hp.objs.size ≤ dx := by
    have z := dn
    rw [Heap.size_push, Heap.size_push] at z
    exact Nat.le_trans (Nat.le_trans (Nat.le_succ _) (Nat.le_succ _)) z
  exact ⟨rfl, hq h' tk' (hp.objs.size + 1) dx ⟨old, Nat.le_succ _, ⟨_, hx⟩, dn', dne, hns⟩⟩
end
end SupE
end PySem
set_option Elab.async false
set_option linter.all false
set_option maxRecDepth 100000
set_option maxHeartbeats 2000000
set_option autoImplicit false
/-! raise of own errors, told. -/
namespace PD
open PySem PySem.Spec L2 PyProof.Rows

theorem boot_super : bootBuiltins "super" = some (.type "super") := by decide +kernel
/-- all that is known of a one-field error class: name x, field fn -/
structure Err1 (P : Program) (K : Frag) (mg : MG) (x fn : Str) : Prop where
  ex : ∃ (C fI : Addr) (e : Expr) (p1' p2' p0 p1 p2 p3 p4 q1 q2 q3 q4 : Pos), SupE.SupCls P K mg x C fI ∧ SupE.SupFn P K C fI (SupE.supA fn p1' p2') (SupE.supB fn e p0 p1 p2 p3 p4 q1 q2 q3 q4) (SupE.supS fn) ∧ PySem.W.findIn K (.ref C) fn = some none ∧
    (fn == ("self" : Str)) = false ∧ (fn == ("__class__" : Str)) = false ∧ (fn == ("super" : Str)) = false ∧ (fn == ("__debug__" : Str)) = false ∧
    (∃ (msg : Str) (j : Nat) (pe : Pos), e = .Constant (.str msg) j pe) ∧
    (∀ (qual : Str) (doc pm : Value) (an : Option Addr) (cda : Addr) (ct : Value) (cc : Addr) (a b : Value), bindArgs (PySem.W.ksFn "__init__" qual (SupE.supA fn p1' p2') (SupE.supB fn e p0 p1 p2 p3 p4 q1 q2 q3 q4) (SupE.supS fn) .none .none doc pm an (.ref cda) ct cc) ⟨[a, b], []⟩ = pure [(("self" : Str), a), (fn, b)]) ∧
    (∀ (qual : Str) (L fI cda cc : Addr), ∃ pl : Sem Bool, eval (.Call (.Attribute (.Call (.Name "super" p0) [] [] p1) "__init__" p2) [e] [] p3) (PySem.W.ksEnv qual (SupE.supS fn) L fI (.ref cda) cc) = (do
      let ov ← attributeBase (.Call (.Name "super" p0) [] [] p1) "__init__" (PySem.W.ksEnv qual (SupE.supS fn) L fI (.ref cda) cc) (eval (.Call (.Name "super" p0) [] [] p1) (PySem.W.ksEnv qual (SupE.supS fn) L fI (.ref cda) cc))
      standAt p2.atName
      let (f, first) ← holding [ov] (getMethod ov "__init__" pl)
      callWith p3 f first (backTo p3 (starEach [e] (PySem.W.ksEnv qual (SupE.supS fn) L fI (.ref cda) cc))) []))
theorem relO1 {fn : Str} {v : V} {u : Value} (r : RelV v u) (f : Str) : RelO (List.lookup f [(fn, v)]) (if f = fn then some u else none) := by
  by_cases h : f = fn
  · subst h
    rw [if_pos rfl]
    have e : List.lookup f [(f, v)] = some v := by simp [List.lookup]
    rw [e]
    exact r
  · rw [if_neg h]
    have b : (f == fn) = false := by simpa using h
    have e : List.lookup f [(fn, v)] = none := by simp [List.lookup, b]
    rw [e]
    trivial
/-- an error with these fields comes -/
def tErr (K : Frag) (mg : MG) (x : Str) (fns : List Str) (ta : TA) : L2.St → Hp → XK → Prop := fun σ H Q => ta σ H fun vs H1 => vs.length = fns.length ∧ ∀ C d, mg x = some (.ref C) → H1 d = none → Q (.ref C) (some d) (upd H1 d (.xd (fns.zip vs)))
section
variable {X : Cx} {W : WX} {e a b c tg o : Expr} {es rest : List Expr} {pos p p2 apos tpos : Pos} {f g k : EF} {af ag ah : AF} {tf : TF} {x fn : Str}
theorem pmk1 (T : Err1 X.prog X.K X.mg x fn) {te : TE} (hroom : X.A.depth + 1 < recursionLimit) (ha : PE X a te) (hg : Gl X x) (hdb : (x == ("__debug__" : Str)) = false := by decide)
    (he : starEach [a] X.env = (false, eval a X.env) :: starEach [] X.env := by rfl) (hpl : (backTo pos (starEach [] X.env)).any (·.1) = false := by rfl) : L2H.PMk5 X (.Call (.Name x p) [a] [] pos) (tErr X.K X.mg x [fn] (tCons te tNil)) := by
  intro pins s σ H Q I h
  obtain ⟨C, fI, ex, p1', p2', p0, p1, p2, p3, p4, q1, q2, q3, q4, T, G, noN, n1, n2, n3, n4, ⟨msg, j, pe, rfl⟩, hbd, hev⟩ := T.ex
  refine wpAny_Call_Name_kw (ld_glob I hg T.gC ?_ hdb)
  refine PySem.W.callWith_K (h₀ := X.base) I.ok.mod.kin T.kC (thn ((pa_cons ha pa_nil he).run pos pins s σ H _ I h) fun us s1 hh => ?_) he hpl
  obtain ⟨vs, H1, I1, r1, hl, q⟩ := hh
  refine ⟨I1.kIn, ?_⟩
  match vs, us, r1, hl with
  | [v], [u], .cons ru _, _ =>
    obtain ⟨mb, b1, b2⟩ := I1.mod.blt
    have lim := I1.nolimit
    have hgl : s1.heap.Ns mainGlobals X.mg := I1.mod.glob.keeps I1.bk
    have hbl : s1.heap.Ns builtinsNs mb := b1.keeps I1.bk
    refine wpAny_call (SupE.made1 (s := s1) T G noN n1 n2 n3 n4 I1.kIn lim hgl hbl ((b2 "super" (by decide)).trans boot_super) hroom (fun _ env A' E' s2 Q2 _ _ k => Calls.Constant_str (k _ _)) (fun _ => rfl) hbd hev fun h' tk' e d M => ?_)
    obtain ⟨t, hoe⟩ := M.obj
    obtain ⟨G', g1, g2⟩ := restrict h' fun b => decide (b ≠ e)
    have gk : ∀ b, b ≠ e → G'.get? b = h'.get? b := fun b hb => g1 b (decide_eq_true hb)
    have ge : G'.get? e = none := g2 e (by simp)
    have old : ∀ b o, s1.heap.get? b = some o → G'.get? b = some o := fun b o z => (gk b (Nat.ne_of_lt (Nat.lt_of_lt_of_le (Heap.lt_size z) M.new))).trans (M.keep b o z)
    have ob : ObjOk X.prog X.w (upd H1 d (.xd [(fn, v)])) G' d (.xd [(fn, v)]) := ⟨_, M.ns.at (fun o z => (gk d M.dne).trans z), fun f => relO1 ru f⟩
    have J : L2.Inv X pins σ (upd H1 d (.xd [(fn, v)])) { s1 with heap := G', toks := tk' } := I1.laid (t' := tk') old M.dbig ob
    have hd0 : H1 d = none := I1.hok.fresh M.dbig
    refine ⟨⟨e, _, _, { s1 with heap := G', toks := tk' }, _, .ref C, some d, rfl, J, fun b o z => ?_, ge, hoe, ⟨rfl, rfl, fun vs z => by cases z; rfl⟩, rfl, rfl, ?_, rfl, I1.bare, raises_own T.exC T.tyC, q C d T.gC hd0⟩, fun a2 oe2 vs2 z1 z2 z3 => ?_⟩
    · by_cases hb : b = e
      · have z' : G'.get? b = some o := z
        rw [hb, ge] at z'; cases z'
      · exact (gk b hb).symm.trans z
    · rw [upd_ne (Ne.symm M.dne)]
      exact I1.hok.fresh M.new
    · cases z1
      have z2' : h'.get? e = some oe2 := z2
      rw [hoe] at z2'
      cases z2'
      cases z3
      show (4 : Nat) < 6
      decide
theorem pmk_up {e : Expr} {t : L2.St → Hp → XK → Prop} (h : L2N.PMk X e t) : L2.PMk X e t := fun pins s σ H Q I q => thn (h pins s σ H Q I q) fun u s' z => by
  obtain ⟨a, oe, vs, sI, H', cls, d, h1, h2, h3, h4, h5, h6, h7⟩ := z
  exact ⟨a, oe, vs, sI, H', cls, d, h1, h2, h3, h4, h5, h6.zc, h7⟩
def raiseS (x : Str) (fns : List Str) (af : AF) : SF := fun ρ => thnS (af ρ) ρ fun ds => if ds.length = fns.length then some (.er ⟨x, fns, ds⟩ ρ) else none
theorem zip_map {fns : List Str} {vs : List V} (h : vs.length = fns.length) : (fns.zip vs).map (·.1) = fns ∧ (fns.zip vs).map (·.2) = vs := by
  induction fns generalizing vs with
  | nil =>
    cases vs with
    | nil => exact ⟨rfl, rfl⟩
    | cons v vs => cases h
  | cons f fns ih =>
    cases vs with
    | nil => cases h
    | cons v vs =>
      obtain ⟨h1, h2⟩ := ih (by simpa using h)
      exact ⟨by simp [h1], by simp [h2]⟩
/-- the reading of a raise -/
theorem raise_run {fns : List Str} {ta : TA} {C0 : Addr} (hC : X.mg x = some (.ref C0)) {E : Ends} {σ : L2.St} {H : Hp} (m : ∀ σ H Q, tA X.K X.mg W af σ H Q → ta σ H Q) (q : tS X.K X.mg W (raiseS x fns af) E σ H) : tErr X.K X.mg x fns ta σ H (fun cls d H' => W cls d σ H') := by
  obtain ⟨F0, H0, A0, F, ρ, o, s, hg, ho⟩ := q
  refine m _ _ _ ?_
  refine stepS s hg ho fun ds z vs F1 H1 g1 s1 ho1 hds => ?_
  split at z
  · rename_i hl
    cases z
    refine ⟨by rw [hds.len]; exact hl, fun C d hC' hd => ?_⟩
    have gl := Grow.lay (o := .xd (fns.zip vs)) g1.sub hd
    obtain ⟨m1, m2⟩ := zip_map (fns := fns) (vs := vs) (by rw [hds.len]; exact hl)
    refine ho1 (.ref C) (some d) σ _ _ gl.fs (s1.grow gl) ⟨C, d, fns.zip vs, hC', rfl, rfl, upd_same, m1, ?_⟩
    rw [m2]
    exact hds.mono gl.fs
  · cases z
theorem adPA1 {es : List Expr} (ha : ED X W a f) (he : starEach [a] X.env = (false, eval a X.env) :: starEach [] X.env := by rfl) (σ : L2.St) (H : Hp) (Q : List V → Hp → Prop) (h : tA X.K X.mg W (fun ρ => bnd (f ρ) fun d => ok [d]) σ H Q) : tCons (tE X.K X.mg W f) tNil σ H Q := by
  obtain ⟨F, ρ, r, rl, h, er, hk⟩ := h
  refine step rl h er fun d h v F1 H1 g1 rl1 er1 d1 => ?_
  cases h
  exact hk _ rfl [v] F1 H1 g1 (DatL.one d1)
def one1 (f : EF) : AF := fun ρ => bnd (f ρ) fun d => ok [d]
/-- raise x(a), exceptions without a context wanted -/
theorem st_raise1N (T : Err1 X.prog X.K X.mg x fn) (hc : X.calm = true) (tk : L2N.Takes X W) (hroom : X.A.depth + 1 < recursionLimit) (ha : ED X W a f) (hg : Gl X x) (hdb : (x == ("__debug__" : Str)) = false := by decide)
    (he : starEach [a] X.env = (false, eval a X.env) :: starEach [] X.env := by rfl) (hpl : (backTo pos (starEach [] X.env)).any (·.1) = false := by rfl) : StD X W (.Raise (some (.Call (.Name x p) [a] [] pos)) none tpos) (raiseS x [fn] (one1 f)) := by
  obtain ⟨C, fI, _, _, _, _, _, _, _, _, _, _, _, _, T1, _⟩ := T.ex
  exact PS.to (L2N.ps_raise hc tk (pmk1 T hroom ha hg hdb he hpl).pmk) fun E σ H q => raise_run T1.gC (fun σ H Q z => adPA1 (es := []) ha he σ H Q z) q
theorem st_raise1 (T : Err1 X.prog X.K X.mg x fn) (hc : X.calm = true) (tk : L2.Takes X W) (hroom : X.A.depth + 1 < recursionLimit) (ha : ED X W a f) (hg : Gl X x) (hdb : (x == ("__debug__" : Str)) = false := by decide)
    (he : starEach [a] X.env = (false, eval a X.env) :: starEach [] X.env := by rfl) (hpl : (backTo pos (starEach [] X.env)).any (·.1) = false := by rfl) : StD X W (.Raise (some (.Call (.Name x p) [a] [] pos)) none tpos) (raiseS x [fn] (one1 f)) := by
  obtain ⟨C, fI, _, _, _, _, _, _, _, _, _, _, _, _, T1, _⟩ := T.ex
  exact PS.to (L2.ps_raise hc tk (pmk_up (pmk1 T hroom ha hg hdb he hpl).pmk)) fun E σ H q => raise_run T1.gC (fun σ H Q z => adPA1 (es := []) ha he σ H Q z) q
/-- raise x(a) from None in an except suite -/
theorem st_raise1H {j : Nat} {cpos : Pos} (T : Err1 X.prog X.K X.mg x fn) (hc : L2H.HotC X) (tk : L2.Takes X W) (hroom : X.A.depth + 1 < recursionLimit) (ha : ED X W a f) (hg : Gl X x) (hdb : (x == ("__debug__" : Str)) = false := by decide)
    (he : starEach [a] X.env = (false, eval a X.env) :: starEach [] X.env := by rfl) (hpl : (backTo pos (starEach [] X.env)).any (·.1) = false := by rfl) : StD X W (.Raise (some (.Call (.Name x p) [a] [] pos)) (some (.Constant .none j cpos)) tpos) (raiseS x [fn] (one1 f)) := by
  obtain ⟨C, fI, _, _, _, _, _, _, _, _, _, _, _, _, T1, _⟩ := T.ex
  exact PS.to (L2H.ps_raiseHN hc tk (pmk1 T hroom ha hg hdb he hpl)) fun E σ H q => raise_run T1.gC (fun σ H Q z => adPA1 (es := []) ha he σ H Q z) q
end
end PD
set_option Elab.async false
set_option linter.all false
set_option maxRecDepth 100000
set_option maxHeartbeats 2000000
set_option autoImplicit false
/-! try, except: told. -/
namespace PySem
namespace SupE
open PySem.W PySem.Calls PyProof.Rows
section
variable {prog : Program} {w : World} {A : Around} {E : Value → Shared → Prop} {s : Shared} {K : Frag} {x D : Addr} {ox : Obj} {od : Option Obj}
theorem found_data {name : Str} {at_ gt : Value} (hc : (clsIn K D).isSome = true) (h1 : findIn K (.ref D) name = some (some at_)) (h2 : specialIn K at_ "__get__" = some (some gt)) (h3 : takesIn K at_ = some true) : findObj K D od name = some (.bind gt at_) := by
  obtain ⟨cd, e⟩ := Option.isSome_iff_exists.mp hc
  unfold findObj
  rw [e, Option.bind_some, h1, Option.bind_some]
  simp [h2, h3]
/-- x.__class__ of an error with or without a dict of its own -/
theorem class_of_error {Q : Option Value → Shared → Prop} (C : L2.ExcC K D) (X : K.In s.heap) (I : InstAt s.heap x ox D od) (hq : Q (some (.ref D)) { s with toks := s.toks + 1 }) : wpAny (model prog w) A (getAttr? (.ref x) "__class__") Q E s := by
  have fo : findObj K D od "__class__" = some (.bind (.builtin "getset_descriptor.__get__") (.builtin "object.__class__")) := found_data (by obtain ⟨cd, z, _⟩ := any_some C.hd; rw [z]; rfl) C.ha C.hn C.ht
  obtain ⟨hp, gn, dr, tk, ob⟩ := s
  have T0 := I.type (M := model prog w)
  have T1 := looks_findIn (M := model prog w) X C.hg
  have T2 := looks_findIn (M := model prog w) X C.hk
  have T3 := looks_find (M := model prog w) X I fo
  have isB : Looks (model prog w) hp (isInstance (.ref x) (.type "BaseException")) true := T0.andThen (looks_subIn X C.hs)
  have ne2 : (Value.builtin "BaseException.__getattribute__" == Value.builtin "object.__getattribute__") = false := by decide +kernel
  have ne1 : (onTheHeap (Value.ref D) && Value.builtin "BaseException.__getattribute__" == Value.builtin "object.__getattribute__") = false := by rw [ne2]; rfl
  unfold getAttr? getAttrBy? getAttrBy
  refine wpAny_bind (wpAny_mkText (wpAny_bind (wpAny_attempt (wpAny_holding (wpAny_bind (T0.at (wpAny_bind (T1.at ?_))))))))
  show wpAny _ _ (if (onTheHeap (Value.ref D) && Value.builtin "BaseException.__getattribute__" == Value.builtin "object.__getattribute__") = true then _ else _) _ _ _
  rw [ne1, if_neg Bool.false_ne_true]
  unfold getAttrByItsOwn hookBefore
  refine wpAny_bind ?_
  rw [if_pos (show onTheHeap (Value.ref D) = true from rfl)]
  refine T2.at (wpAny_bind (wpAny_attempt (wpAny_holding ?_)))
  unfold callGetattribute
  rw [show (false && onTheHeap (Value.builtin "BaseException.__getattribute__")) = false from rfl, if_neg Bool.false_ne_true]
  unfold boundAndCalled
  rw [PySem.F.excAttr_ValueError.ga.bind (.ref x)]
  refine wpAny_bind (wpAny_pure ?_)
  show wpAny _ _ (call (.builtin "BaseException.__getattribute__") [.ref x, .str "__class__" tk]) _ _ _
  refine wpAny_call (codeAny_call_builtin PySem.F.excAttr_ValueError.ga.plain PySem.F.entry_bexc_ga ?_)
  refine @check_slot (model prog w) _ _ ⟨hp, gn, dr, tk + 1, ob⟩ "BaseException.__getattribute__" "BaseException" "__getattribute__" (.ref x) [.str "__class__" tk] [] _ (by decide +kernel) (by decide +kernel) isB (PySem.F.args_bexc_ga (.ref x) (.str "__class__" tk)) ?_
  unfold Builtin.«object.__getattribute__»
  refine wpAny_bind (wpAny_of_eq (a := ((Value.ref x : Value), [Value.str "__class__" tk])) (by first | rfl | (simp only [slotArgs]; rfl)) ?_)
  refine wpAny_bind (wpAny_pure (wpAny_bind (T0.at (wpAny_bind (T3.at ?_)))))
  show wpAny _ _ (holding [Value.builtin "object.__class__"] (call (.builtin "getset_descriptor.__get__") [.builtin "object.__class__", .ref x, .ref D]) >>= ret) _ _ _
  refine wpAny_bind (wpAny_holding (wpAny_call (class_get (s := ⟨hp, gn, dr, tk + 1, ob⟩) (ox := ox) (od := od) X I C.hm (wpAny_pure ?_))))
  show wpAny _ _ (handedOut (.ref D)) _ _ _
  rw [handedOut_of (v := .ref D) rfl]
  first
    | exact wpAny_pure (wpAny_pure hq)
    | exact wpAny_pure hq
    | exact wpAny_pure (wpAny_bind (wpAny_pure (wpAny_pure hq)))
theorem kit_error (C : L2.ExcC K D) : KitX K (.ref x) (.ref D) (fun h => InstAt h x ox D od) where
  ty := fun _ _ _ I => I.type
  it := fun _ _ X _ => by
    obtain ⟨cd, e, _⟩ := any_some C.hd
    unfold clsIn at e
    split at e
    · rename_i c1 d1 cd1 sl1 ho
      intro A' Q' E' s' up q
      unfold isType loadHead
      exact wpAny_bind (wpAny_loadPart (up _ _ (X _ _ ho)) (wpAny_pure q))
    · cases e
  ne := fun h tp dd its n sl X htp => by
    obtain ⟨cd, e, _⟩ := any_some C.hd
    refine Bool.eq_false_iff.mpr fun q => ?_
    have ed : D = tp := Value.ref.inj (beq_iff_eq.mp q)
    subst ed
    unfold clsIn at e
    split at e
    · rename_i c1 d1 cd1 sl1 ho
      cases (X _ _ ho).symm.trans htp
    · cases e
  ca := fun X I up => class_of_error C X I up
end
end SupE
end PySem
namespace PD
open PySem PySem.Spec L2 PyProof.Rows

/-! ### what an except suite reads of its error -/
section
variable {X : Cx} {W : WX} {e a b c tg o : Expr} {es rest : List Expr} {pos p p2 apos tpos py : Pos} {f g k : EF} {af ag ah : AF} {tf : TF} {x fn : Str} {ad : Addr} {oe : Obj} {cls : Value} {dd : Option Addr} {pn : List (Addr × Obj)} {cs : List Str}
/-- the classes in cs read their attributes plainly, fn is none of the class -/
def ExF (K : Frag) (mg : MG) (cs : List Str) (fn : Str) : Prop := ∀ c ∈ cs, ∀ C, mg c = some (.ref C) → XfC K C ∧ PySem.W.findIn K (.ref C) fn = some none
open Classical in
noncomputable def exE (ad : Addr) (cls : Value) (dd : Option Addr) (cs : List Str) (fn : Str) (i : Nat) : EF := fun ρ => match ρ[i]? with
  | some (.exc a e c d) => if a = ad ∧ c = cls ∧ d = dd ∧ e.c ∈ cs then opt (getN fn e.ns e.l) else none
  | _ => none
theorem ed_exf (i : Nat) (hx : ExF X.K X.mg cs fn) (hz : Zc cls dd oe) (hf : ∃ vs, oe.data = .fields vs) (hN : X.N[i]? = some x := by rfl) (hv : Vis X.env.scope x := by first | exact Or.inl rfl | exact Or.inr (Or.inl rfl) | exact Or.inr (Or.inr rfl)) (hd : (x == ("__debug__" : Str)) = false := by decide)
    (hcd : (x == ("__classdict__" : Str)) = false := by decide) (hb : attributeBase (.Name x py) fn X.env (eval (.Name x py) X.env) = eval (.Name x py) X.env := by rfl) : ED (X.suite ad ((ad, oe) :: pn)) W (.Attribute (.Name x py) fn pos) (exE ad cls dd cs fn i) := by
  by_cases hC : ∃ cn C, cn ∈ cs ∧ X.mg cn = some (.ref C) ∧ cls = .ref C
  · obtain ⟨cn, C, h1, h2, rfl⟩ := hC
    obtain ⟨T, hno⟩ := hx cn h1 C h2
    refine PE.to (pe_xf T hno hz hf (pv (X := X.suite ad ((ad, oe) :: pn)) i hN hv hd hcd) hb) fun σ H Q h => ?_
    obtain ⟨F, ρ, r, rl, h, er, hk⟩ := h
    unfold exE at h
    split at h
    · rename_i a e c d eq
      split at h
      · rename_i hh
        obtain ⟨rfl, rfl, rfl, h4⟩ := hh
        obtain ⟨d3, e3, rfl⟩ := opt_some h
        obtain ⟨q1, C', d', gs, q2, q3, q4, q5, q6, q7⟩ := rl.sl i _ eq
        obtain ⟨v, hv, hdv⟩ := getN_dat q6 q7 e3
        exact ⟨_, q1, rfl, rfl, d', gs, v, q4, rl.sub _ _ q5, hv, hk _ rfl v F H (Grow.refl rl.sub) hdv⟩
      · cases h
    · cases h
  · refine ⟨fun pins s σ H Q I h => ?_⟩
    exfalso
    obtain ⟨F, ρ, r, rl, h, er, hk⟩ := h
    unfold exE at h
    split at h
    · rename_i a e c d eq
      split at h
      · rename_i hh
        obtain ⟨rfl, rfl, rfl, h4⟩ := hh
        obtain ⟨q1, C', d', gs, q2, q3, q4⟩ := rl.sl i _ eq
        exact hC ⟨e.c, C', h4, q2, q3⟩
      · cases h
    · cases h
open Classical in
/-- isinstance(e, u) of the suite's error -/
noncomputable def exI (ad : Addr) (cls : Value) (dd : Option Addr) (h : Str → Option Bool) (i : Nat) : EF := fun ρ => match ρ[i]? with
  | some (.exc a e c d) => if a = ad ∧ c = cls ∧ d = dd then opt ((h e.c).map .bl) else none
  | _ => none
theorem ed_exi {cv : V} {u : Value} {h : Str → Option Bool} (i : Nat) (hI : ∀ c b, h c = some b → ∀ C, X.mg c = some (.ref C) → ExcC X.K C ∧ PySem.W.kitOne X.K (.ref C) u = some b) (hz : Zc cls dd oe) (hf : ∃ vs, oe.data = .fields vs) (hg : Gl X "isinstance") (hm : X.mg "isinstance" = none) (hbt : bootBuiltins "isinstance" = some (.builtin "isinstance"))
    (hc : PE (X.suite ad ((ad, oe) :: pn)) c (tC cv)) (ck : ClsV cv u) (hN : X.N[i]? = some x := by rfl) (hv : Vis X.env.scope x := by first | exact Or.inl rfl | exact Or.inr (Or.inl rfl) | exact Or.inr (Or.inr rfl)) (hd : (x == ("__debug__" : Str)) = false := by decide) (hcd : (x == ("__classdict__" : Str)) = false := by decide)
    (hs : starEach [.Name x py, c] X.env = (false, eval (.Name x py) X.env) :: starEach [c] X.env := by rfl) (hs2 : starEach [c] X.env = (false, eval c X.env) :: starEach [] X.env := by rfl) (hpl : (backTo pos (starEach [c] X.env)).any (·.1) = false := by rfl) :
    ED (X.suite ad ((ad, oe) :: pn)) W (.Call (.Name "isinstance" p) [.Name x py, c] [] pos) (exI ad cls dd h i) := by
  by_cases hC : ∃ cn C b, h cn = some b ∧ X.mg cn = some (.ref C) ∧ cls = .ref C ∧ ∃ d : Addr, dd = some d
  · obtain ⟨cn, C, b0, h1, h2, rfl, d0, rfl⟩ := hC
    obtain ⟨Ce, _⟩ := hI cn b0 h1 C h2
    have rule : CallR (X.suite ad ((ad, oe) :: pn)) (.builtin "isinstance") (fun xs H Q => ∃ (b : Bool) (fs : List (Str × V)), xs = [.ref ad, cv] ∧ H d0 = some (.xd fs) ∧ PySem.W.kitOne X.K (.ref C) u = some b ∧ Q (.bl b) H) := by
      intro pins s σ H xs us Q I r q
      obtain ⟨b, fs, rfl, hx, e, q⟩ := q
      obtain ⟨u1, u2, rfl, r1, r2⟩ := vals2 r
      cases (show u1 = Value.ref ad from r1)
      have e2 := ck.eq r2
      subst e2
      obtain ⟨hget, _⟩ := I.pin (ad, oe) (List.mem_append.mpr (.inl List.mem_cons_self))
      obtain ⟨vs, hv⟩ := hf
      have hx' : ObjOk X.prog X.w H s.heap d0 (.xd fs) := I.hok d0 _ hx
      obtain ⟨mA, hns, hr⟩ := hx'
      obtain ⟨od, ho, hl⟩ := lookIn_ns hns
      have J : PySem.W.InstAt s.heap ad oe C (some od) := ⟨hget, hz.1, by unfold PySem.W.notCls; rw [hv] <;> rfl, by rw [hz.2]; exact ho⟩
      exact PySem.W.kia_one (PySem.SupE.kit_error Ce) I.kIn J e (fun z => nomatch z) fun tk => ⟨.bl b, H, I.kept (t' := tk) fun _ _ z => z, rfl, q⟩
    refine PE.to (pe_callB rule hg hm hbt (pa_cons (pv (X := X.suite ad ((ad, oe) :: pn)) i hN hv hd hcd) (pa_cons hc pa_nil hs2) hs) (by decide) (by decide) hs hpl) fun σ H Q q => ?_
    obtain ⟨F, ρ, r, rl, q, er, hk⟩ := q
    unfold exI at q
    split at q
    · rename_i a e c d eq
      split at q
      · rename_i hh
        obtain ⟨rfl, rfl, rfl⟩ := hh
        obtain ⟨d3, e3, rfl⟩ := opt_some q
        cases eb : h e.c with
        | none => rw [eb] at e3; cases e3
        | some b =>
          rw [eb] at e3
          cases e3
          obtain ⟨q1, C', d', gs, q2, q3, q4, q5, q6, q7⟩ := rl.sl i _ eq
          cases q3
          cases q4
          obtain ⟨_, ek⟩ := hI e.c b eb C q2
          exact ⟨_, q1, b, gs, rfl, rl.sub _ _ q5, ek, hk _ rfl _ F H (Grow.refl rl.sub) rfl⟩
      · cases q
    · cases q
  · refine ⟨fun pins s σ H Q I q => ?_⟩
    exfalso
    obtain ⟨F, ρ, r, rl, q, er, hk⟩ := q
    unfold exI at q
    split at q
    · rename_i a e c d eq
      split at q
      · rename_i hh
        obtain ⟨rfl, rfl, rfl⟩ := hh
        obtain ⟨d3, e3, rfl⟩ := opt_some q
        cases eb : h e.c with
        | none => rw [eb] at e3; cases e3
        | some b =>
          obtain ⟨q1, C', d', gs, q2, q3, q4, q5⟩ := rl.sl i _ eq
          exact hC ⟨e.c, C', b, eb, q2, q3, d', q4⟩
      · cases q
    · cases q
end
end PD
set_option Elab.async false
set_option linter.all false
set_option maxRecDepth 100000
set_option maxHeartbeats 2000000
set_option autoImplicit false
/-! try statements, told. -/
namespace PD
open PySem PySem.Spec L2 PyProof.Rows
/-- which errors a clause names -/
def Hdl (K : Frag) (mg : MG) (c : Value) (h : Str → Option Bool) : Prop := ∀ x b, h x = some b → ∀ C, mg x = some (.ref C) → PySem.W.exmOne K (.ref C) c = some b
def unO (i : Nat) : Out → Option Out
  | .nx ρ => some (.nx (ρ.set i .un))
  | .rt d => some (.rt d)
  | .bk ρ => some (.bk (ρ.set i .un))
  | .ct ρ => some (.ct (ρ.set i .un))
  | .er _ _ => none
open Classical in
/-- try: g except .. as name: gs; the suite's outcome is the same wherever the error lies -/
noncomputable def tryA (i : Nat) (h : Str → Option Bool) (g : SF) (gs : Addr → Value → Option Addr → SF) : SF := fun ρ => match g ρ with
  | some (.er e ρ') => match h e.c with
    | some true => if q : ∃ o, ∀ a c d, (gs a c d (ρ'.set i (.exc a e c d))).bind (unO i) = some o then some (Classical.choose q) else none
    | some false => some (.er e ρ')
    | none => none
  | o => o
open Classical in
theorem tryA_of {i : Nat} {h : Str → Option Bool} {g : SF} {gs : Addr → Value → Option Addr → SF} {ρ ρ' : List Sl} {e : Exn} {o : Out} (h1 : g ρ = some (.er e ρ')) (h2 : h e.c = some true) (h3 : ∀ a c d, (gs a c d (ρ'.set i (.exc a e c d))).bind (unO i) = some o) : tryA i h g gs ρ = some o := by
  have q : ∃ o, ∀ a c d, (gs a c d (ρ'.set i (.exc a e c d))).bind (unO i) = some o := ⟨o, h3⟩
  unfold tryA
  rw [h1]
  show (match h e.c with | some true => _ | some false => _ | none => _) = _
  rw [h2]
  show (if q : _ then some (Classical.choose q) else none) = _
  rw [dif_pos q]
  have z := Classical.choose_spec q 0 .none none
  rw [h3 0 .none none] at z
  exact z.symm
theorem tryA_no {i : Nat} {h : Str → Option Bool} {g : SF} {gs : Addr → Value → Option Addr → SF} {ρ : List Sl} {o : Out} (h1 : g ρ = some o) (h2 : ∀ e ρ', o ≠ .er e ρ') : tryA i h g gs ρ = some o := by
  unfold tryA
  rw [h1]
  cases o with
  | er e ρ' => exact absurd rfl (h2 e ρ')
  | _ => rfl
/-- try: g except ..: gs, the error not named -/
def tryO (h : Str → Option Bool) (g gs : SF) : SF := fun ρ => match g ρ with
  | some (.er e ρ') => match h e.c with
    | some true => gs ρ'
    | some false => some (.er e ρ')
    | none => none
  | o => o
section
variable {X : Cx} {W : WX} {x n : Str} {c : Value} {body suite : List Stmt} {b₀ : Stmt} {np pos pos' : Pos} {g : SF} {h : Str → Option Bool} {i : Nat}
open Classical in
theorem st_try_as {gs : Addr → Value → Option Addr → SF} (i : Nat) (hs : X.stack = X.env :: X.outer) (hf : X.env.frame = some X.env.locals) (hN : X.N.Nodup) (hi : X.N[i]? = some n) (hln : X.env.kindOf n = some .local) (hc : Names X x c) (hh : Hdl X.K X.mg c h) (tk : L2.Takes X W)
    (hb : ∀ (W' : WX) (pn : List (Addr × Obj)) (xe : Value → Shared → Prop), L2.Takes (X.tr pn xe) W' → PassesOwn (model X.prog X.w) X.A X.env xe → SsD (X.tr pn xe) W' body g)
    (hsu : ∀ (a : Addr) (oe : Obj) (cls : Value) (d : Option Addr) (pn : List (Addr × Obj)), Zc cls d oe → (∃ vs, oe.data = .fields vs) → SsD (X.suite a ((a, oe) :: pn)) WF (b₀ :: suite) (gs a cls d)) :
    StD X W (.Try body [.ExceptHandler (some (.Name x np)) (some n) (b₀ :: suite) pos'] [] [] pos) (tryA i h g gs) := by
  refine PS.to (L2.ps_try_as (tb := fun W' => tS X.K X.mg W' g) (ts := fun a cls d => tS X.K X.mg WF (gs a cls d)) (Wout := W) hs hf hN hi hln hc tk hb hsu) fun E σ H q => ?_
  obtain ⟨F0, H0, A0, F, ρ, o, s, hg, ho⟩ := q
  unfold tryA at hg
  cases eg : g ρ with
  | none => rw [eg] at hg; cases hg
  | some ob =>
    rw [eg] at hg
    refine ⟨F0, H0, A0, F, ρ, ob, s, eg, ?_⟩
    cases ob with
    | nx ρ1 => cases hg; exact ho
    | rt d => cases hg; exact ho
    | bk ρ1 => cases hg; exact ho
    | ct ρ1 => cases hg; exact ho
    | er e ρ1 =>
      intro cls dd σ1 F1 H1 sm st ex
      obtain ⟨C, d, gl, m1, rfl, rfl, m2⟩ := id ex
      replace hg : (match h e.c with
        | some true => if q : ∃ o, ∀ a c d, (gs a c d (ρ1.set i (.exc a e c d))).bind (unO i) = some o then some (Classical.choose q) else none
        | some false => some (.er e ρ1)
        | none => none) = some o := hg
      cases eh : h e.c with
      | none => rw [eh] at hg; cases hg
      | some b =>
        rw [eh] at hg
        refine ⟨b, hh _ _ eh C m1, fun hb a ha => ?_, fun hb => ?_⟩
        · subst hb
          replace hg : (if q : ∃ o, ∀ a c d, (gs a c d (ρ1.set i (.exc a e c d))).bind (unO i) = some o then some (Classical.choose q) else none) = some o := hg
          split at hg
          · rename_i qx
            cases hg
            have z := Classical.choose_spec qx a (.ref C) (some d)
            cases e1 : gs a (.ref C) (some d) (ρ1.set i (.exc a e (.ref C) (some d))) with
            | none => rw [e1] at z; cases z
            | some o1 =>
              rw [e1] at z
              have st2 := st.setNo (t := .exc a e (.ref C) (some d)) rfl (st.rl.setEx ex i)
              refine ⟨F0, H0, A0, F1, _, o1, st2, e1, ?_⟩
              have ho1 := ho.up sm
              generalize Classical.choose qx = o at z ho ho1
              cases o1 with
              | nx ρ2 =>
                cases z
                exact fun σ2 F2 H2 sm2 st3 => ho1 _ F2 H2 sm2 (st3.setNo rfl (st3.rl.setUn i none))
              | rt d2 => cases z; exact fun v F2 H2 sm2 st3 hd => ho1 v F2 H2 sm2 st3 hd
              | bk ρ2 =>
                cases z
                exact fun σ2 F2 H2 sm2 st3 => ho1 _ F2 H2 sm2 (st3.setNo rfl (st3.rl.setUn i none))
              | ct ρ2 =>
                cases z
                exact fun σ2 F2 H2 sm2 st3 => ho1 _ F2 H2 sm2 (st3.setNo rfl (st3.rl.setUn i none))
              | er e2 ρ2 => cases z
          · cases hg
        · subst hb
          cases (show Out.er e ρ1 = o from Option.some.inj hg)
          exact ho (.ref C) (some d) σ1 F1 H1 sm st ex
theorem st_try_onlyX {gs : SF} (hs : X.stack = X.env :: X.outer) (hf : X.env.frame = some X.env.locals) (hc : Names X x c) (hh : Hdl X.K X.mg c h) (hpa : ∀ hd : Option Value, PassesOwnAt (model X.prog X.w) (X.A.mark hd) X.A X.env X.xe) (tk : L2.Takes X W)
    (hb : ∀ (W' : WX) (pn : List (Addr × Obj)) (xe : Value → Shared → Prop), L2N.Takes (X.tr pn xe) W' → PassesOwn (model X.prog X.w) X.A X.env xe → SsD (X.tr pn xe) W' body g)
    (hsu : ∀ (a : Addr) (oe : Obj) (pn : List (Addr × Obj)), (∃ vs, oe.data = .fields vs) → L2.Takes (L2H.suiteX X a ((a, oe) :: pn)) W → L2H.HotC (L2H.suiteX X a ((a, oe) :: pn)) → SsD (L2H.suiteX X a ((a, oe) :: pn)) W (b₀ :: suite) gs) :
    StD X W (.Try body [.ExceptHandler (some (.Name x np)) none (b₀ :: suite) pos'] [] [] pos) (tryO h g gs) := by
  refine PS.to (L2H.ps_try_onlyX (tb := fun W' => tS X.K X.mg W' g) (ts := fun a cls d => tS X.K X.mg W gs) (Wout := W) hs hf hc hpa tk (fun W' pn xe t1 _ po => hb W' pn xe t1 po) fun a oe cls d pn hz hf t h => hsu a oe pn hf t h) fun E σ H q => ?_
  obtain ⟨F0, H0, A0, F, ρ, o, s, hg, ho⟩ := q
  unfold tryO at hg
  cases eg : g ρ with
  | none => rw [eg] at hg; cases hg
  | some ob =>
    rw [eg] at hg
    refine ⟨F0, H0, A0, F, ρ, ob, s, eg, ?_⟩
    cases ob with
    | nx ρ1 => cases hg; exact ho
    | rt d => cases hg; exact ho
    | bk ρ1 => cases hg; exact ho
    | ct ρ1 => cases hg; exact ho
    | er e ρ1 =>
      intro cls dd σ1 F1 H1 sm st ex
      obtain ⟨C, d, gl, m1, rfl, rfl, m2⟩ := id ex
      replace hg : (match h e.c with
        | some true => gs ρ1
        | some false => some (.er e ρ1)
        | none => none) = some o := hg
      cases eh : h e.c with
      | none => rw [eh] at hg; cases hg
      | some b =>
        rw [eh] at hg
        refine ⟨b, hh _ _ eh C m1, fun hb a ha => ?_, fun hb => ?_⟩
        · subst hb
          exact ⟨F0, H0, A0, F1, ρ1, o, st, hg, ho.up sm⟩
        · subst hb
          cases (show Out.er e ρ1 = o from Option.some.inj hg)
          exact ho (.ref C) (some d) σ1 F1 H1 sm st ex
end
end PD
set_option Elab.async false
set_option linter.all false
set_option maxRecDepth 100000
set_option maxHeartbeats 2000000
set_option autoImplicit false
/-! Written dicts with text keys. -/
namespace PD
open PySem PySem.Spec L2 PyProof.Rows
/-- the module's name x holds a written dict whose values dct tells -/
structure DctD (K : Frag) (w : World) (mg : MG) (x : Str) (dct : Str → Option D) : Prop where
  ex : ∃ p es n, mg x = some (.ref p) ∧ KDict K w p es n ∧ (∀ z d, dct z = some d → ∃ u v, PySem.W.nsIn K p z = some (some u) ∧ RelV v u ∧ ∀ F, Dat K mg F d v) ∧ ∀ z, dct z = none → PySem.W.nsIn K p z = some none
section
variable {X : Cx} {W : WX} {e a b c tg o : Expr} {pos p p2 px : Pos} {f g k : EF} {x : Str} {dct : Str → Option D}
def atK (dct : Str → Option D) : D → Option D
  | .str z => dct z
  | _ => none
theorem ed_kix (T : DctD X.K X.w X.mg x dct) (hg : Gl X x) (hb : ED X W b g) (hs : PlainIx b := by exact fun _ _ => rfl) (hdb : (x == ("__debug__" : Str)) = false := by decide) : ED X W (.Subscript (.Name x px) b pos) (un1 (atK dct) g) := by
  obtain ⟨q, es, n, hm, D, h1, h2⟩ := T.ex
  refine PE.to (pe_ix ix_kdict (pe_glob (v := .ref q) hg hm rfl hdb) hb hs) fun σ H Q h => ?_
  show tE X.K X.mg W g σ H (fun y H2 => rIxD X.K X.w (.ref q) y H2 Q)
  obtain ⟨F, ρ, r, rl, h, er, hk⟩ := h
  refine step rl h er fun d h v F1 H1 g1 rl1 er1 d1 => ?_
  obtain ⟨d3, e3, rfl⟩ := opt_some h
  cases d with
  | str z =>
    cases (show v = _ from d1)
    obtain ⟨u, w, z1, z2, z3⟩ := h1 z d3 e3
    exact ⟨q, z, w, rfl, rfl, ⟨es, n, u, D.at_, D.lit, z1, z2⟩, hk _ rfl w F1 H1 g1 (z3 F1)⟩
  | _ => cases e3
def inK (dct : Str → Option D) (f : EF) : TF := fun ρ => bnd (f ρ) fun d => match d with
  | .str z => ok (dct z).isSome
  | _ => none
def notInK (dct : Str → Option D) (f : EF) : TF := fun ρ => bnd (f ρ) fun d => match d with
  | .str z => ok (!(dct z).isSome)
  | _ => none
theorem kin_of {p : Addr} (h1 : ∀ z d, dct z = some d → ∃ u v, PySem.W.nsIn X.K p z = some (some u) ∧ RelV v u ∧ ∀ F, Dat X.K X.mg F d v) (h2 : ∀ z, dct z = none → PySem.W.nsIn X.K p z = some none) (z : Str) : ∃ r, PySem.W.nsIn X.K p z = some r ∧ r.isSome = (dct z).isSome := by
  cases e : dct z with
  | none => exact ⟨none, h2 z e, rfl⟩
  | some d =>
    obtain ⟨u, v, z1, _⟩ := h1 z d e
    exact ⟨some u, z1, rfl⟩
theorem td_inK (T : DctD X.K X.w X.mg x dct) (hg : Gl X x) (ha : ED X W a f) (hm' : behindInMarks .In (.Name x px) = false := by first | exact nomark _ | rfl | with_unfolding_all rfl) (hdb : (x == ("__debug__" : Str)) = false := by decide) : TD X W (.Compare a [.In] [.Name x px] pos) (inK dct f) := by
  obtain ⟨q, es, n, hm, D, h1, h2⟩ := T.ex
  refine PT.to (pt_cmpR (op_in_kd D) ha (pe_glob (v := .ref q) hg hm rfl hdb) hm') fun σ H Q h => ?_
  obtain ⟨F, ρ, r, rl, h, er, hk⟩ := h
  refine step rl h er fun d h v F1 H1 g1 rl1 er1 d1 => ?_
  cases d with
  | str z =>
    cases h
    cases (show v = _ from d1)
    obtain ⟨r, z1, z2⟩ := kin_of h1 h2 z
    exact ⟨z, r, rfl, rfl, z1, _, rfl, hk _ rfl _ F1 H1 g1 z2⟩
  | _ => cases h
theorem td_notInK (T : DctD X.K X.w X.mg x dct) (hg : Gl X x) (ha : ED X W a f) (hm' : behindInMarks .NotIn (.Name x px) = false := by first | exact nomark _ | rfl | with_unfolding_all rfl) (hdb : (x == ("__debug__" : Str)) = false := by decide) : TD X W (.Compare a [.NotIn] [.Name x px] pos) (notInK dct f) := by
  obtain ⟨q, es, n, hm, D, h1, h2⟩ := T.ex
  refine PT.to (pt_cmpR (op_notIn_kd D) ha (pe_glob (v := .ref q) hg hm rfl hdb) hm') fun σ H Q h => ?_
  obtain ⟨F, ρ, r, rl, h, er, hk⟩ := h
  refine step rl h er fun d h v F1 H1 g1 rl1 er1 d1 => ?_
  cases d with
  | str z =>
    cases h
    cases (show v = _ from d1)
    obtain ⟨r, z1, z2⟩ := kin_of h1 h2 z
    exact ⟨z, r, rfl, rfl, z1, _, rfl, hk _ rfl _ F1 H1 g1 (by show (!r.isSome) = _; rw [z2])⟩
  | _ => cases h
end
end PD
set_option Elab.async false
set_option linter.all false
set_option maxRecDepth 100000
set_option maxHeartbeats 2000000
set_option autoImplicit false
/-! Words for the printed terms. -/
namespace PD
open PySem PySem.Spec L2 PyProof.Rows
abbrev vS (i : Nat) : EF := fun ρ => getS ρ i
abbrev vO (i : Nat) : AF := fun ρ => getO ρ i
abbrev kI (n : Int) : EF := fun _ => ok (.int n)
abbrev kB (b : Bool) : EF := fun _ => ok (.bl b)
abbrev kN : EF := fun _ => ok .non
abbrev kS (s : Str) : EF := fun _ => ok (.str s)
abbrev kD (d : D) : EF := fun _ => ok d
abbrev nilA : AF := fun _ => ok []
abbrev consA (f : EF) (af : AF) : AF := fun ρ => bnd (f ρ) fun d => bnd (af ρ) fun ds => ok (d :: ds)
abbrev asT (f : EF) : TF := fun ρ => bnd (f ρ) asB
abbrev tupE (af : AF) : EF := fun ρ => bnd (af ρ) tupR
abbrev lstE (af : AF) : EF := fun ρ => bnd (af ρ) lstR
abbrev lstN (af : AF) : AF := fun ρ => bnd (af ρ) fun ds => if ds.length ≤ 1000 then ok ds else none
abbrev ndE (af : AF) : EF := fun ρ => bnd (af ρ) fun l => ok (.lst l)
abbrev unLE (f : EF) : AF := fun ρ => bnd (f ρ) unL
abbrev unSqE (f : EF) : AF := fun ρ => bnd (f ρ) unSq
abbrev unItE (f : EF) : AF := fun ρ => bnd (f ρ) unIt
abbrev tupL (af : AF) : EF := fun ρ => bnd (af ρ) fun l => ok (.tup l)
abbrev pN : List Sl → R (Option Int) := fun _ => ok none
abbrev pS (f : EF) : List Sl → R (Option Int) := fun ρ => bnd (f ρ) fun d => bnd (asI d) fun i => ok (some i)
abbrev rng1A (af : AF) : AF := fun ρ => bnd (af ρ) rng1
abbrev rng2A (af : AF) : AF := fun ρ => bnd (af ρ) rng2
abbrev rng3A (af : AF) : AF := fun ρ => bnd (af ρ) rng3
abbrev enumA (af : AF) : AF := fun ρ => bnd (af ρ) fun l => ok (enumD l)
abbrev callE (fn : List D → R D) (af : AF) : EF := fun ρ => bnd (af ρ) fn
abbrev yesT : TF := fun _ => ok true
section
variable {X : Cx} {W : WX} {x : Str} {pos : Pos}
theorem ed_gstr {s : Str} (h : ∃ t, X.mg x = some (.str s t)) (hg : Gl X x) (hdb : (x == ("__debug__" : Str)) = false := by decide) : ED X W (.Name x pos) (kS s) := by
  obtain ⟨t, h⟩ := h
  exact ed_glob (v := .str s) (.str s) h ⟨t, rfl⟩ (fun _ => rfl) hg hdb
theorem ed_gint {i : Int} (h : ∃ t, X.mg x = some (.int i t)) (hg : Gl X x) (hdb : (x == ("__debug__" : Str)) = false := by decide) : ED X W (.Name x pos) (kI i) := by
  obtain ⟨t, h⟩ := h
  exact ed_glob (v := .int i) (.int i) h ⟨t, rfl⟩ (fun _ => rfl) hg hdb
theorem room2 {k : Nat} {A : Around} (hr : Room k A) (h : 2 ≤ k := by decide) : A.depth + 1 < recursionLimit := by
  have := hr.dp
  omega
theorem pe_ty {T : String} (hg : Gl X x) (hm : X.mg x = none) (hv : bootBuiltins x = some (.type T)) (hn : x ≠ "__name__" := by decide) (hd : (x == ("__debug__" : Str)) = false := by decide) : PE X (.Name x pos) (tC (.ty T)) := pe_bltn hg hm hv rfl hn hd
theorem pe_cls {C : Addr} (hg : Gl X x) (hm : X.mg x = some (.ref C)) (hd : (x == ("__debug__" : Str)) = false := by decide) : PE X (.Name x pos) (tC (.ref C)) := pe_glob hg hm rfl hd
end
theorem bt_isi : bootBuiltins "isinstance" = some (.builtin "isinstance") := by decide +kernel
theorem bt_len : bootBuiltins "len" = some (.builtin "len") := by decide +kernel
theorem bt_abs : bootBuiltins "abs" = some (.builtin "abs") := by decide +kernel
theorem bt_int : bootBuiltins "int" = some (.type "int") := by decide +kernel
theorem bt_bool : bootBuiltins "bool" = some (.type "bool") := by decide +kernel
theorem bt_str : bootBuiltins "str" = some (.type "str") := by decide +kernel
theorem bt_tuple : bootBuiltins "tuple" = some (.type "tuple") := by decide +kernel
theorem bt_list : bootBuiltins "list" = some (.type "list") := by decide +kernel
theorem bt_max : bootBuiltins "max" = some (.builtin "max") := by decide +kernel
theorem bt_min : bootBuiltins "min" = some (.builtin "min") := by decide +kernel
theorem bt_sum : bootBuiltins "sum" = some (.builtin "sum") := by decide +kernel
end PD
namespace PD
open PySem PySem.Spec L2 PyProof.Rows
theorem fnI_len {c : Str} {n m : Nat} {g : SF} (ds : List D) (r : Except Exn D) (h : fnI c n m g ds = some r) : ds.length + 1 = n := by
  unfold fnI at h
  split at h
  · assumption
  · cases h
theorem ClsD.up {P : Program} {w : World} {K : Frag} {mg : MG} {base : Heap} {k : Nat} {c : Str} {fn : List D → R D} (h : ClsD P w K mg base (L2N.CX P w) k c fn) : ClsD P w K mg base (L2.CX P w) k c fn := by
  obtain ⟨C, f, fd, ps, M, Fo, hl, a, b⟩ := h
  refine ⟨C, f, fd, ps, M, ⟨Fo.len, fun A outer s H args us vs Q E hr he hb hv hs => codeAny_mono (Fo.run A outer s H args us vs Q E hr he hb hv hs) fun r s' q => ?_⟩, hl, a, b⟩
  cases r with
  | error e => exact cx_up q
  | ok fl => cases fl <;> exact q
theorem u65 {k : Nat} {A : Around} (hr : Room k A) (h : 1 ≤ k := by decide) : A.units + 65 < cLine := by
  have := hr.un
  omega
/-- the module's own part of the text, as all defs lean on it -/
structure DefT (K : Frag) (mg : MG) (x qual : Str) (st : Stmt) (ps : List Str) : Prop where
  ex : ∃ f fd, Fun K x qual st f fd ∧ mg x = some (.ref f) ∧ Binds K fd ps []
structure ClsT (K : Frag) (mg : MG) (x qual : Str) (st : Stmt) (ps : List Str) : Prop where
  ex : ∃ C f fd, Mk K C f ∧ Fun K "__init__" qual st f fd ∧ mg x = some (.ref C) ∧ Binds K fd ps []
end PD
namespace PD
theorem bt_ValueError : PySem.bootBuiltins "ValueError" = some (.type "ValueError") := by decide +kernel
end PD
set_option Elab.async false
set_option linter.all false
set_option maxRecDepth 100000
set_option maxHeartbeats 4000000
set_option autoImplicit false
namespace K86
open PySem PySem.Spec L2 PyProof.Rows PD
abbrev prog := PySem.Challenge.pw_whattoshow_k86_papers_as_lines
def top (i : Nat) : Stmt := prog.main.body.getD i (.Pass ⟨0, 0, 0, 0⟩)
def clsBody : Stmt → List Stmt
  | .ClassDef _ _ _ b _ _ _ _ _ _ _ => b
  | _ => []
def meth (i j : Nat) : Stmt := (clsBody (top i)).getD j (.Pass ⟨0, 0, 0, 0⟩)
abbrev s_write_ratio : Stmt := top 8
def N_write_ratio : List Str := ["value"]
abbrev s_read_digits : Stmt := top 9
def N_read_digits : List Str := ["text", "whole_text", "char"]
abbrev s_read_ratio : Stmt := top 10
def N_read_ratio : List Str := ["text", "body", "top_text", "slash", "bottom_text", "top", "bottom"]
abbrev s_Best___init__ : Stmt := meth 12 0
def N_Best___init__ : List Str := ["self", "worth", "point", "prices"]
abbrev s_Barred___init__ : Stmt := meth 13 0
def N_Barred___init__ : List Str := ["self", "prices"]
abbrev s_Endless___init__ : Stmt := meth 14 0
def N_Endless___init__ : List Str := ["self", "point", "ray"]
abbrev s_number_line : Stmt := top 18
def N_number_line : List Str := ["word", "numbers", "number"]
abbrev s_read_numbers : Stmt := top 19
def N_read_numbers : List Str := ["words", "at", "values", "word"]
abbrev s_read_line : Stmt := top 20
def N_read_line : List Str := ["line", "word", "at", "words"]
abbrev s_write_answer : Stmt := top 21
def N_write_answer : List Str := ["answer", "head"]
abbrev s_read_answer : Stmt := top 22
def N_read_answer : List Str := ["lines", "kind", "told", "at", "word"]
abbrev s__law_cell : Stmt := top 24
def N__law_cell : List Str := ["script", "k"]
abbrev s__law_draws : Stmt := top 25
def N__law_draws : List Str := ["script", "k", "many", "cell", "great", "out", "at", "mixed"]
abbrev s__law_fraction : Stmt := top 26
def N__law_fraction : List Str := ["top", "bottom", "one", "other", "step", "rest"]
abbrev s__law_number : Stmt := top 27
def N__law_number : List Str := ["script", "k", "draws", "size", "top", "bottom", "at"]
abbrev s__law_row : Stmt := top 28
def N__law_row : List Str := ["script", "k", "many", "at"]
abbrev s__law_written : Stmt := top 29
def N__law_written : List Str := ["value"]
abbrev s__law_line : Stmt := top 30
def N__law_line : List Str := ["word", "numbers", "value"]
abbrev s__law_same : Stmt := top 31
def N__law_same : List Str := ["told", "due", "at"]
abbrev s__law_told : Stmt := top 32
def N__law_told : List Str := ["lines", "answer", "e"]
abbrev s__law_changed : Stmt := top 33
def N__law_changed : List Str := ["lines", "draws", "out", "way", "place", "line", "spot", "sign", "words", "other"]
abbrev s__law_forms : Stmt := top 34
def N__law_forms : List Str := ["word"]
abbrev s__law_digits : Stmt := top 35
def N__law_digits : List Str := ["text", "sign"]
abbrev s__law_read : Stmt := top 36
def N__law_read : List Str := ["word", "body", "top", "slash", "bottom", "value"]
abbrev s__law_reading : Stmt := top 37
def N__law_reading : List Str := ["lines", "forms", "told", "at", "words", "numbers", "word"]
abbrev s__law_only_bad : Stmt := top 38
def N__law_only_bad : List Str := ["lines", "e"]
abbrev s_law : Stmt := top 39
def N_law : List Str := ["script", "draws", "sizes", "worth", "first", "second", "answer", "lines", "due", "at", "extra", "changed", "wanted"]
def dct_HEADS (z : Str) : Option D := if z = "best" then some (.int 1) else if z = "barred" then some (.int 0) else if z = "endless" then some (.int 0) else none
def dct_PARTS (z : Str) : Option D := if z = "best" then some (.tup [(.str "best"), (.str "point"), (.str "prices")]) else if z = "barred" then some (.tup [(.str "barred"), (.str "prices")]) else if z = "endless" then some (.tup [(.str "endless"), (.str "point"), (.str "ray")]) else none
def clsAll : List Str := ["Best", "Barred", "Endless"]
def is_ShowError (x : Str) : Option Bool := if x = "ShowError" then some true else if x = "BadNumber" then some true else if x = "BadText" then some true else none
def is_BadNumber (x : Str) : Option Bool := if x = "ShowError" then some false else if x = "BadNumber" then some true else if x = "BadText" then some false else none
def is_BadText (x : Str) : Option Bool := if x = "ShowError" then some false else if x = "BadNumber" then some false else if x = "BadText" then some true else none
def is_ValueError (x : Str) : Option Bool := if x = "ShowError" then some true else if x = "BadNumber" then some true else if x = "BadText" then some true else none
def cs_point : List Str := ["Best", "Endless"]
def cs_prices : List Str := ["Best", "Barred"]
def cs_ray : List Str := ["Endless"]
def cs_worth : List Str := ["Best"]
/-- where the classes lie -/
structure Ad where
  Best : Addr
  Barred : Addr
  Endless : Addr
  ShowError : Addr
  BadNumber : Addr
  BadText : Addr
/-- what the module's top has written -/
structure Txt (P : Program) (w : World) (K : Frag) (mg : MG) (a : Ad) : Prop where
  t_write_ratio : DefT K mg "write_ratio" "write_ratio" s_write_ratio ["value"]
  t_read_digits : DefT K mg "read_digits" "read_digits" s_read_digits ["text", "whole_text"]
  t_read_ratio : DefT K mg "read_ratio" "read_ratio" s_read_ratio ["text"]
  t_Best___init__ : ClsT K mg "Best" "Best.__init__" s_Best___init__ ["self", "worth", "point", "prices"]
  t_Barred___init__ : ClsT K mg "Barred" "Barred.__init__" s_Barred___init__ ["self", "prices"]
  t_Endless___init__ : ClsT K mg "Endless" "Endless.__init__" s_Endless___init__ ["self", "point", "ray"]
  t_number_line : DefT K mg "number_line" "number_line" s_number_line ["word", "numbers"]
  t_read_numbers : DefT K mg "read_numbers" "read_numbers" s_read_numbers ["words", "at"]
  t_read_line : DefT K mg "read_line" "read_line" s_read_line ["line", "word", "at"]
  t_write_answer : DefT K mg "write_answer" "write_answer" s_write_answer ["answer"]
  t_read_answer : DefT K mg "read_answer" "read_answer" s_read_answer ["lines"]
  t__law_cell : DefT K mg "_law_cell" "_law_cell" s__law_cell ["script", "k"]
  t__law_draws : DefT K mg "_law_draws" "_law_draws" s__law_draws ["script", "k", "many"]
  t__law_fraction : DefT K mg "_law_fraction" "_law_fraction" s__law_fraction ["top", "bottom"]
  t__law_number : DefT K mg "_law_number" "_law_number" s__law_number ["script", "k"]
  t__law_row : DefT K mg "_law_row" "_law_row" s__law_row ["script", "k", "many"]
  t__law_written : DefT K mg "_law_written" "_law_written" s__law_written ["value"]
  t__law_line : DefT K mg "_law_line" "_law_line" s__law_line ["word", "numbers"]
  t__law_same : DefT K mg "_law_same" "_law_same" s__law_same ["told", "due"]
  t__law_told : DefT K mg "_law_told" "_law_told" s__law_told ["lines"]
  t__law_changed : DefT K mg "_law_changed" "_law_changed" s__law_changed ["lines", "draws"]
  t__law_forms : DefT K mg "_law_forms" "_law_forms" s__law_forms ["word"]
  t__law_digits : DefT K mg "_law_digits" "_law_digits" s__law_digits ["text"]
  t__law_read : DefT K mg "_law_read" "_law_read" s__law_read ["word"]
  t__law_reading : DefT K mg "_law_reading" "_law_reading" s__law_reading ["lines"]
  t__law_only_bad : DefT K mg "_law_only_bad" "_law_only_bad" s__law_only_bad ["lines"]
  t_law : DefT K mg "law" "law" s_law ["script"]
  n_ValueError : mg "ValueError" = none
  n_abs : mg "abs" = none
  n_bool : mg "bool" = none
  n_enumerate : mg "enumerate" = none
  n_int : mg "int" = none
  n_isinstance : mg "isinstance" = none
  n_len : mg "len" = none
  n_list : mg "list" = none
  n_range : mg "range" = none
  n_str : mg "str" = none
  n_tuple : mg "tuple" = none
  c_DIGITS : ∃ t, mg "DIGITS" = some (.str "0123456789" t)
  c_MOST_DIGITS : ∃ t, mg "MOST_DIGITS" = some (.int 4000 t)
  g_gcd : mg "gcd" = some (.builtin "math.gcd")
  g_Best : mg "Best" = some (.ref a.Best)
  g_Barred : mg "Barred" = some (.ref a.Barred)
  g_Endless : mg "Endless" = some (.ref a.Endless)
  g_ShowError : mg "ShowError" = some (.ref a.ShowError)
  g_BadNumber : mg "BadNumber" = some (.ref a.BadNumber)
  g_BadText : mg "BadText" = some (.ref a.BadText)
  k_HEADS : DctD K w mg "HEADS" dct_HEADS
  k_PARTS : DctD K w mg "PARTS" dct_PARTS
  e_BadNumber : Err1 P K mg "BadNumber" "text"
  e_BadText : Err1 P K mg "BadText" "line"
  h_BadNumber : Hdl K mg (.ref a.BadNumber) is_BadNumber
  h_BadText : Hdl K mg (.ref a.BadText) is_BadText
  h_ShowError : Hdl K mg (.ref a.ShowError) is_ShowError
  xf_line : ExF K mg ["BadText"] "line"
  xi_BadNumber : ∀ c b, is_BadNumber c = some b → ∀ C, mg c = some (.ref C) → ExcC K C ∧ PySem.W.kitOne K (.ref C) (.ref a.BadNumber) = some b
  xi_BadText : ∀ c b, is_BadText c = some b → ∀ C, mg c = some (.ref C) → ExcC K C ∧ PySem.W.kitOne K (.ref C) (.ref a.BadText) = some b
  xi_ValueError : ∀ c b, is_ValueError c = some b → ∀ C, mg c = some (.ref C) → ExcC K C ∧ PySem.W.kitOne K (.ref C) (.type "ValueError") = some b
  i_Barred : ∀ c' ∈ clsAll, ∃ C', mg c' = some (.ref C') ∧ ClsI K C' ∧ PySem.W.kitOne K (.ref C') (.ref a.Barred) = some (decide (c' = "Barred"))
  i_Best : ∀ c' ∈ clsAll, ∃ C', mg c' = some (.ref C') ∧ ClsI K C' ∧ PySem.W.kitOne K (.ref C') (.ref a.Best) = some (decide (c' = "Best"))
  i_Endless : ∀ c' ∈ clsAll, ∃ C', mg c' = some (.ref C') ∧ ClsI K C' ∧ PySem.W.kitOne K (.ref C') (.ref a.Endless) = some (decide (c' = "Endless"))
  f_point : ClsF K mg cs_point "point"
  f_prices : ClsF K mg cs_prices "prices"
  f_ray : ClsF K mg cs_ray "ray"
  f_worth : ClsF K mg cs_worth "worth"
variable {P : Program} {w : World} {K : Frag} {mg : MG} {base : Heap} {a : Ad}
theorem sc_write_ratio : FnScope N_write_ratio ["value"] (defScope s_write_ratio) := ⟨rfl, rfl, rfl, by decide +kernel, rfl, by decide +kernel, by decide +kernel⟩
noncomputable def b_write_ratio : SF := (seqS (ifS (asT (op2 dEq (op2 dIx (vS 0) (kI 1)) (kI 1))) (retS (calE dStr (consA (op2 dIx (vS 0) (kI 0)) nilA))) nilS) (retS (op2 dAdd (op2 dAdd (calE dStr (consA (op2 dIx (vS 0) (kI 0)) nilA)) (kS "/")) (calE dStr (consA (op2 dIx (vS 0) (kI 1)) nilA)))))
noncomputable def f_write_ratio : List D → R D := fnD 1 1 b_write_ratio
theorem d_write_ratio (T : Txt P w K mg a) : DefD P w K mg base (L2N.CX P w) 3 "write_ratio" f_write_ratio := by
  have ⟨f, fd, Fu, hm, hb⟩ := T.t_write_ratio.ex
  have e : fnD (["value"] : List Str).length N_write_ratio.length b_write_ratio = f_write_ratio := rfl
  rw [← e]
  refine defD (CX := (L2N.CX P w)) (P := P) (w := w) (base := base) (k := 2) (g := b_write_ratio) Fu hm hb sc_write_ratio (by decide) fun cdv A outer s H E hr => ?_
  have tk := L2N.takes_of (X := cxOf (L2N.CX P w) P w K mg base N_write_ratio "write_ratio" (defScope s_write_ratio) f cdv A outer s H E) (E := E) rfl rfl rfl rfl
  have hu64 := hr.units
  have hu65 := u65 hr
  have hrm := room2 hr
  exact (ss_cons (st_if (td_cmp (od_eq hu64) (ed_ix (ed_var 0) ed_int) ed_int) (ss_one (st_ret (ed_callTy cd_str rfl T.n_str bt_str (ad_cons (ed_ix (ed_var 0) ed_int) ad_nil)))) ss_nil) (ss_one (st_ret (ed_op od_add (ed_op od_add (ed_callTy cd_str rfl T.n_str bt_str (ad_cons (ed_ix (ed_var 0) ed_int) ad_nil)) ed_str) (ed_callTy cd_str rfl T.n_str bt_str (ad_cons (ed_ix (ed_var 0) ed_int) ad_nil))))))
theorem sc_read_digits : FnScope N_read_digits ["text", "whole_text"] (defScope s_read_digits) := ⟨rfl, rfl, rfl, by decide +kernel, rfl, by decide +kernel, by decide +kernel⟩
noncomputable def b_read_digits : SF := (seqS (ifS (orT (asT (op2 dEq (vS 0) (kS ""))) (asT (op2 dGt (calE dLen (consA (vS 0) nilA)) (kI 4000)))) (raiseS "BadNumber" ["text"] (one1 (vS 1))) nilS) (seqS (forS (unItE (vS 0)) (setN 2) (ifS (asT (op2 dNotIn (vS 2) (kS "0123456789"))) (raiseS "BadNumber" ["text"] (one1 (vS 1))) nilS)) (seqS (ifS (andT (asT (op2 dEq (op2 dIx (vS 0) (kI 0)) (kS "0"))) (asT (op2 dGt (calE dLen (consA (vS 0) nilA)) (kI 1)))) (raiseS "BadNumber" ["text"] (one1 (vS 1))) nilS) (retS (calE dInt (consA (vS 0) nilA))))))
noncomputable def f_read_digits : List D → R D := fnD 2 3 b_read_digits
theorem d_read_digits (T : Txt P w K mg a) : DefD P w K mg base (L2N.CX P w) 3 "read_digits" f_read_digits := by
  have ⟨f, fd, Fu, hm, hb⟩ := T.t_read_digits.ex
  have e : fnD (["text", "whole_text"] : List Str).length N_read_digits.length b_read_digits = f_read_digits := rfl
  rw [← e]
  refine defD (CX := (L2N.CX P w)) (P := P) (w := w) (base := base) (k := 2) (g := b_read_digits) Fu hm hb sc_read_digits (by decide) fun cdv A outer s H E hr => ?_
  have tk := L2N.takes_of (X := cxOf (L2N.CX P w) P w K mg base N_read_digits "read_digits" (defScope s_read_digits) f cdv A outer s H E) (E := E) rfl rfl rfl rfl
  have hu64 := hr.units
  have hu65 := u65 hr
  have hrm := room2 hr
  exact (ss_cons (st_if (td_w (wd_or (td_cmp (od_eq hu64) (ed_var 0) ed_str) (wd_or1 (td_cmp od_gt (ed_callB cd_len rfl T.n_len bt_len (ad_cons (ed_var 0) ad_nil)) (ed_gint T.c_MOST_DIGITS rfl))))) (ss_one (st_raise1N T.e_BadNumber rfl tk hrm (ed_var 1) rfl)) ss_nil) (ss_cons (st_for PassesOwn.leaving rfl (id_src (sd_ed (ed_var 0))) (gd_name 2 sc_read_digits.nd rfl (by first | exact Or.inl rfl | exact Or.inr rfl)) keepO_name (ss_one (st_if (td_cmp (od_notIn hu65) (ed_var 2) (ed_gstr T.c_DIGITS rfl)) (ss_one (st_raise1N T.e_BadNumber rfl tk hrm (ed_var 1) rfl)) ss_nil))) (ss_cons (st_if (td_w (wd_and (td_cmp (od_eq hu64) (ed_ix (ed_var 0) ed_int) ed_str) (wd_and1 (td_cmp od_gt (ed_callB cd_len rfl T.n_len bt_len (ad_cons (ed_var 0) ad_nil)) ed_int)))) (ss_one (st_raise1N T.e_BadNumber rfl tk hrm (ed_var 1) rfl)) ss_nil) (ss_one (st_ret (ed_callTy cd_int rfl T.n_int bt_int (ad_cons (ed_var 0) ad_nil)))))))
theorem sc_read_ratio : FnScope N_read_ratio ["text"] (defScope s_read_ratio) := ⟨rfl, rfl, rfl, by decide +kernel, rfl, by decide +kernel, by decide +kernel⟩
noncomputable def b_read_ratio : SF := (seqS (asgS 1 (vS 0)) (seqS (ifS (asT (op2 dEq (slE (vS 0) pN (pS (kI 1))) (kS "-"))) (asgS 1 (slE (vS 0) (pS (kI 1)) pN)) nilS) (seqS (tgS (tupN 3 (consN (setN 2) (consN (setN 3) (consN (setN 4) nilN)))) (partE (vS 1) (kS "/"))) (seqS (asgS 5 (callE f_read_digits (consA (vS 2) (consA (vS 0) nilA)))) (seqS (asgS 6 (kI 1)) (seqS (ifS (asT (op2 dEq (vS 3) (kS "/"))) (seqS (asgS 6 (callE f_read_digits (consA (vS 4) (consA (vS 0) nilA)))) (ifS (orT (asT (op2 dLt (vS 6) (kI 2))) (asT (op2 dNe (calE dGcd (consA (vS 5) (consA (vS 6) nilA))) (kI 1)))) (raiseS "BadNumber" ["text"] (one1 (vS 0))) nilS)) nilS) (seqS (ifS (asT (op2 dEq (slE (vS 0) pN (pS (kI 1))) (kS "-"))) (seqS (ifS (asT (op2 dEq (vS 5) (kI 0))) (raiseS "BadNumber" ["text"] (one1 (vS 0))) nilS) (retS (tupE (consA (un1 dNeg (vS 5)) (consA (vS 6) nilA))))) nilS) (retS (tupE (consA (vS 5) (consA (vS 6) nilA)))))))))))
noncomputable def f_read_ratio : List D → R D := fnD 1 7 b_read_ratio
theorem d_read_ratio (T : Txt P w K mg a) : DefD P w K mg base (L2N.CX P w) 4 "read_ratio" f_read_ratio := by
  have ⟨f, fd, Fu, hm, hb⟩ := T.t_read_ratio.ex
  have e : fnD (["text"] : List Str).length N_read_ratio.length b_read_ratio = f_read_ratio := rfl
  rw [← e]
  refine defD (CX := (L2N.CX P w)) (P := P) (w := w) (base := base) (k := 3) (g := b_read_ratio) Fu hm hb sc_read_ratio (by decide) fun cdv A outer s H E hr => ?_
  have tk := L2N.takes_of (X := cxOf (L2N.CX P w) P w K mg base N_read_ratio "read_ratio" (defScope s_read_ratio) f cdv A outer s H E) (E := E) rfl rfl rfl rfl
  have hu64 := hr.units
  have hu65 := u65 hr
  have hrm := room2 hr
  exact (ss_cons (st_set 1 sc_read_ratio.nd (ed_var 0) rfl (by first | exact Or.inl rfl | exact Or.inr rfl)) (ss_cons (st_if (td_cmp (od_eq hu64) (ed_sl (ed_var 0) od_none (od_some ed_int)) ed_str) (ss_one (st_set 1 sc_read_ratio.nd (ed_sl (ed_var 0) (od_some ed_int) od_none) rfl (by first | exact Or.inl rfl | exact Or.inr rfl))) ss_nil) (ss_cons (st_tg (ed_part (ed_var 1) ed_str) (gd_tup 3 rfl (gsd_cons (gd_name 2 sc_read_ratio.nd rfl (by first | exact Or.inl rfl | exact Or.inr rfl)) (gsd_cons (gd_name 3 sc_read_ratio.nd rfl (by first | exact Or.inl rfl | exact Or.inr rfl)) (gsd_cons (gd_name 4 sc_read_ratio.nd rfl (by first | exact Or.inl rfl | exact Or.inr rfl)) gsd_nil)))) (keepO_tup (keepO_cons keepO_name (keepO_cons keepO_name (keepO_cons keepO_name keepO_nil))))) (ss_cons (st_set 5 sc_read_ratio.nd (ed_call (d_read_digits T) (hr.mono (by decide)) (fun σ => L2N.passAt tk σ) rfl (ad_cons (ed_var 2) (ad_cons (ed_var 0) ad_nil))) rfl (by first | exact Or.inl rfl | exact Or.inr rfl)) (ss_cons (st_set 6 sc_read_ratio.nd ed_int rfl (by first | exact Or.inl rfl | exact Or.inr rfl)) (ss_cons (st_if (td_cmp (od_eq hu64) (ed_var 3) ed_str) (ss_cons (st_set 6 sc_read_ratio.nd (ed_call (d_read_digits T) (hr.mono (by decide)) (fun σ => L2N.passAt tk σ) rfl (ad_cons (ed_var 4) (ad_cons (ed_var 0) ad_nil))) rfl (by first | exact Or.inl rfl | exact Or.inr rfl)) (ss_one (st_if (td_w (wd_or (td_cmp od_lt (ed_var 6) ed_int) (wd_or1 (td_cmp (od_ne hu64) (ed_callFn cd_gcd rfl T.g_gcd (ad_cons (ed_var 5) (ad_cons (ed_var 6) ad_nil))) ed_int)))) (ss_one (st_raise1N T.e_BadNumber rfl tk hrm (ed_var 0) rfl)) ss_nil))) ss_nil) (ss_cons (st_if (td_cmp (od_eq hu64) (ed_sl (ed_var 0) od_none (od_some ed_int)) ed_str) (ss_cons (st_if (td_cmp (od_eq hu64) (ed_var 5) ed_int) (ss_one (st_raise1N T.e_BadNumber rfl tk hrm (ed_var 0) rfl)) ss_nil) (ss_one (st_ret (ed_tup (ad_cons (ed_neg (ed_var 5)) (ad_cons (ed_var 6) ad_nil)))))) ss_nil) (ss_one (st_ret (ed_tup (ad_cons (ed_var 5) (ad_cons (ed_var 6) ad_nil))))))))))))
theorem sc_Best___init__ : FnScope N_Best___init__ ["self", "worth", "point", "prices"] (defScope s_Best___init__) := ⟨rfl, rfl, rfl, by decide +kernel, rfl, by decide +kernel, by decide +kernel⟩
noncomputable def b_Best___init__ : SF := (seqS (fldS cs_worth "worth" 0 (vS 1)) (seqS (fldS cs_point "point" 0 (vS 2)) (fldS cs_prices "prices" 0 (vS 3))))
noncomputable def c_Best : List D → R D := fnI "Best" 4 4 b_Best___init__
theorem k_Best (T : Txt P w K mg a) : ClsD P w K mg base (L2N.CX P w) 3 "Best" c_Best := by
  have ⟨C, f, fd, M, Fu, hm, hb⟩ := T.t_Best___init__.ex
  have e : fnI "Best" (["self", "worth", "point", "prices"] : List Str).length N_Best___init__.length b_Best___init__ = c_Best := rfl
  rw [← e]
  refine ⟨C, f, fd, ["self", "worth", "point", "prices"], M, ?_, fun ds r h => fnI_len ds r h, hm, hb⟩
  refine fnI_ok (CX := (L2N.CX P w)) (P := P) (w := w) (base := base) (k := 2) (c := "Best") (g := b_Best___init__) Fu sc_Best___init__ (by decide) fun cdv A outer s H E hr => ?_
  have tk := L2N.takes_of (X := cxOf (L2N.CX P w) P w K mg base N_Best___init__ "Best.__init__" (defScope s_Best___init__) f cdv A outer s H E) (E := E) rfl rfl rfl rfl
  have hu64 := hr.units
  have hu65 := u65 hr
  have hrm := room2 hr
  exact (ss_cons (st_fld 0 T.f_worth (ed_var 1)) (ss_cons (st_fld 0 T.f_point (ed_var 2)) (ss_one (st_fld 0 T.f_prices (ed_var 3)))))
theorem sc_Barred___init__ : FnScope N_Barred___init__ ["self", "prices"] (defScope s_Barred___init__) := ⟨rfl, rfl, rfl, by decide +kernel, rfl, by decide +kernel, by decide +kernel⟩
noncomputable def b_Barred___init__ : SF := (fldS cs_prices "prices" 0 (vS 1))
noncomputable def c_Barred : List D → R D := fnI "Barred" 2 2 b_Barred___init__
theorem k_Barred (T : Txt P w K mg a) : ClsD P w K mg base (L2N.CX P w) 3 "Barred" c_Barred := by
  have ⟨C, f, fd, M, Fu, hm, hb⟩ := T.t_Barred___init__.ex
  have e : fnI "Barred" (["self", "prices"] : List Str).length N_Barred___init__.length b_Barred___init__ = c_Barred := rfl
  rw [← e]
  refine ⟨C, f, fd, ["self", "prices"], M, ?_, fun ds r h => fnI_len ds r h, hm, hb⟩
  refine fnI_ok (CX := (L2N.CX P w)) (P := P) (w := w) (base := base) (k := 2) (c := "Barred") (g := b_Barred___init__) Fu sc_Barred___init__ (by decide) fun cdv A outer s H E hr => ?_
  have tk := L2N.takes_of (X := cxOf (L2N.CX P w) P w K mg base N_Barred___init__ "Barred.__init__" (defScope s_Barred___init__) f cdv A outer s H E) (E := E) rfl rfl rfl rfl
  have hu64 := hr.units
  have hu65 := u65 hr
  have hrm := room2 hr
  exact (ss_one (st_fld 0 T.f_prices (ed_var 1)))
theorem sc_Endless___init__ : FnScope N_Endless___init__ ["self", "point", "ray"] (defScope s_Endless___init__) := ⟨rfl, rfl, rfl, by decide +kernel, rfl, by decide +kernel, by decide +kernel⟩
noncomputable def b_Endless___init__ : SF := (seqS (fldS cs_point "point" 0 (vS 1)) (fldS cs_ray "ray" 0 (vS 2)))
noncomputable def c_Endless : List D → R D := fnI "Endless" 3 3 b_Endless___init__
theorem k_Endless (T : Txt P w K mg a) : ClsD P w K mg base (L2N.CX P w) 3 "Endless" c_Endless := by
  have ⟨C, f, fd, M, Fu, hm, hb⟩ := T.t_Endless___init__.ex
  have e : fnI "Endless" (["self", "point", "ray"] : List Str).length N_Endless___init__.length b_Endless___init__ = c_Endless := rfl
  rw [← e]
  refine ⟨C, f, fd, ["self", "point", "ray"], M, ?_, fun ds r h => fnI_len ds r h, hm, hb⟩
  refine fnI_ok (CX := (L2N.CX P w)) (P := P) (w := w) (base := base) (k := 2) (c := "Endless") (g := b_Endless___init__) Fu sc_Endless___init__ (by decide) fun cdv A outer s H E hr => ?_
  have tk := L2N.takes_of (X := cxOf (L2N.CX P w) P w K mg base N_Endless___init__ "Endless.__init__" (defScope s_Endless___init__) f cdv A outer s H E) (E := E) rfl rfl rfl rfl
  have hu64 := hr.units
  have hu65 := u65 hr
  have hrm := room2 hr
  exact (ss_cons (st_fld 0 T.f_point (ed_var 1)) (ss_one (st_fld 0 T.f_ray (ed_var 2))))
theorem sc_number_line : FnScope N_number_line ["word", "numbers"] (defScope s_number_line) := ⟨rfl, rfl, rfl, by decide +kernel, rfl, by decide +kernel, by decide +kernel⟩
noncomputable def b_number_line : SF := (retS (joinE (kS " ") (op2 dAdd (lstE (consA (vS 0) nilA)) (ndE (lcN (unItE (vS 1)) (setN 2) yesT (callE f_write_ratio (consA (vS 2) nilA)) [2])))))
noncomputable def f_number_line : List D → R D := fnD 2 3 b_number_line
theorem d_number_line (T : Txt P w K mg a) : DefD P w K mg base (L2N.CX P w) 4 "number_line" f_number_line := by
  have ⟨f, fd, Fu, hm, hb⟩ := T.t_number_line.ex
  have e : fnD (["word", "numbers"] : List Str).length N_number_line.length b_number_line = f_number_line := rfl
  rw [← e]
  refine defD (CX := (L2N.CX P w)) (P := P) (w := w) (base := base) (k := 3) (g := b_number_line) Fu hm hb sc_number_line (by decide) fun cdv A outer s H E hr => ?_
  have tk := L2N.takes_of (X := cxOf (L2N.CX P w) P w K mg base N_number_line "number_line" (defScope s_number_line) f cdv A outer s H E) (E := E) rfl rfl rfl rfl
  have hu64 := hr.units
  have hu65 := u65 hr
  have hrm := room2 hr
  exact (ss_one (st_ret (ed_joinE ed_str (ed_op od_add (ed_lst (ad_cons (ed_var 0) ad_nil)) (ed_nd (nd_lc (own := [("number", 2)]) rfl sc_number_line.nd (id_src (sd_ed (ed_var 1))) (show BlkOk N_number_line (defScope s_number_line) _ _ from ⟨rfl, by decide +kernel, by decide +kernel, by decide +kernel, by decide +kernel⟩) (fun _ _ _ _ _ => (gd_name 2 sc_number_line.nd rfl (by first | exact Or.inl rfl | exact Or.inr rfl))) (fun _ _ _ _ _ => tsd_nil) (fun _ _ _ _ _ => (ed_call (d_write_ratio T) (hr.mono (by decide)) (fun _ => passFN) rfl (ad_cons (ed_var 2) ad_nil)))))))))
theorem sc_read_numbers : FnScope N_read_numbers ["words", "at"] (defScope s_read_numbers) := ⟨rfl, rfl, rfl, by decide +kernel, rfl, by decide +kernel, by decide +kernel⟩
noncomputable def b_read_numbers : SF := (seqS (ownS 2 (lstN nilA)) (seqS (forS (unItE (vS 0)) (setN 3) (tryO is_BadNumber (metS 2 mAppend (consA (callE f_read_ratio (consA (vS 3) nilA)) nilA)) (raiseS "BadText" ["line"] (one1 (vS 1))))) (retS (tupL (vO 2)))))
noncomputable def f_read_numbers : List D → R D := fnD 2 4 b_read_numbers
theorem d_read_numbers (T : Txt P w K mg a) : DefD P w K mg base (L2.CX P w) 5 "read_numbers" f_read_numbers := by
  have ⟨f, fd, Fu, hm, hb⟩ := T.t_read_numbers.ex
  have e : fnD (["words", "at"] : List Str).length N_read_numbers.length b_read_numbers = f_read_numbers := rfl
  rw [← e]
  refine defD (CX := (L2.CX P w)) (P := P) (w := w) (base := base) (k := 4) (g := b_read_numbers) Fu hm hb sc_read_numbers (by decide) fun cdv A outer s H E hr => ?_
  have tk := L2.takes_of (X := cxOf (L2.CX P w) P w K mg base N_read_numbers "read_numbers" (defScope s_read_numbers) f cdv A outer s H E) (E := E) rfl rfl rfl rfl
  have hu64 := hr.units
  have hu65 := u65 hr
  have hrm := room2 hr
  exact (ss_cons (st_own 2 sc_read_numbers.nd (nd_lst ad_nil) rfl (by first | exact Or.inl rfl | exact Or.inr rfl)) (ss_cons (st_for PassesOwn.leaving rfl (id_src (sd_ed (ed_var 0))) (gd_name 3 sc_read_numbers.nd rfl (by first | exact Or.inl rfl | exact Or.inr rfl)) keepO_name (ss_one (st_try_onlyX rfl rfl ⟨rfl, by decide, Or.inl T.g_BadNumber⟩ T.h_BadNumber (L2H.passesAt_of rfl) tk (fun _ _ _ tk po => (ss_one (st_met 2 PySem.F.plainAttrs_list PySem.F.slot_list_append PySem.F.type_list_append mo_append (ad_cons (ed_call (d_read_ratio T) (hr.mono (by decide)) (fun σ => L2N.passAt tk σ) rfl (ad_cons (ed_var 3) ad_nil)) ad_nil)))) (fun _ _ _ hf tk hot => (ss_one (st_raise1H T.e_BadText hot tk hrm (ed_var 1) rfl)))))) (ss_one (st_ret (ed_tupleL rfl T.n_tuple (ld_own 2))))))
theorem sc_read_line : FnScope N_read_line ["line", "word", "at"] (defScope s_read_line) := ⟨rfl, rfl, rfl, by decide +kernel, rfl, by decide +kernel, by decide +kernel⟩
noncomputable def b_read_line : SF := (seqS (asgS 3 (ndE (splitN (vS 0) (kS " ")))) (seqS (ifS (asT (op2 dNe (op2 dIx (vS 3) (kI 0)) (vS 1))) (raiseS "BadText" ["line"] (one1 (vS 2))) nilS) (retS (callE f_read_numbers (consA (slE (vS 3) (pS (kI 1)) pN) (consA (vS 2) nilA))))))
noncomputable def f_read_line : List D → R D := fnD 3 4 b_read_line
theorem d_read_line (T : Txt P w K mg a) : DefD P w K mg base (L2.CX P w) 6 "read_line" f_read_line := by
  have ⟨f, fd, Fu, hm, hb⟩ := T.t_read_line.ex
  have e : fnD (["line", "word", "at"] : List Str).length N_read_line.length b_read_line = f_read_line := rfl
  rw [← e]
  refine defD (CX := (L2.CX P w)) (P := P) (w := w) (base := base) (k := 5) (g := b_read_line) Fu hm hb sc_read_line (by decide) fun cdv A outer s H E hr => ?_
  have tk := L2.takes_of (X := cxOf (L2.CX P w) P w K mg base N_read_line "read_line" (defScope s_read_line) f cdv A outer s H E) (E := E) rfl rfl rfl rfl
  have hu64 := hr.units
  have hu65 := u65 hr
  have hrm := room2 hr
  exact (ss_cons (st_set 3 sc_read_line.nd (ed_nd (nd_split (ed_var 0) ed_str)) rfl (by first | exact Or.inl rfl | exact Or.inr rfl)) (ss_cons (st_if (td_cmp (od_ne hu64) (ed_ix (ed_var 3) ed_int) (ed_var 1)) (ss_one (st_raise1 T.e_BadText rfl tk hrm (ed_var 2) rfl)) ss_nil) (ss_one (st_ret (ed_call (d_read_numbers T) (hr.mono (by decide)) (fun σ => L2.passAt tk σ) rfl (ad_cons (ed_sl (ed_var 3) (od_some ed_int) od_none) (ad_cons (ed_var 2) ad_nil)))))))
theorem sc_write_answer : FnScope N_write_answer ["answer"] (defScope s_write_answer) := ⟨rfl, rfl, rfl, by decide +kernel, rfl, by decide +kernel, by decide +kernel⟩
noncomputable def b_write_answer : SF := (seqS (ifS (asT (isiE (isOwn "Best" clsAll) (vS 0))) (seqS (asgS 1 (callE f_number_line (consA (kS "best") (consA (tupE (consA (un1 (fldD cs_worth "worth") (vS 0)) nilA)) nilA)))) (retS (tupE (consA (vS 1) (consA (callE f_number_line (consA (kS "point") (consA (un1 (fldD cs_point "point") (vS 0)) nilA))) (consA (callE f_number_line (consA (kS "prices") (consA (un1 (fldD cs_prices "prices") (vS 0)) nilA))) nilA)))))) nilS) (seqS (ifS (asT (isiE (isOwn "Barred" clsAll) (vS 0))) (retS (tupE (consA (kS "barred") (consA (callE f_number_line (consA (kS "prices") (consA (un1 (fldD cs_prices "prices") (vS 0)) nilA))) nilA)))) nilS) (retS (tupE (consA (kS "endless") (consA (callE f_number_line (consA (kS "point") (consA (un1 (fldD cs_point "point") (vS 0)) nilA))) (consA (callE f_number_line (consA (kS "ray") (consA (un1 (fldD cs_ray "ray") (vS 0)) nilA))) nilA)))))))
noncomputable def f_write_answer : List D → R D := fnD 1 2 b_write_answer
theorem d_write_answer (T : Txt P w K mg a) : DefD P w K mg base (L2N.CX P w) 5 "write_answer" f_write_answer := by
  have ⟨f, fd, Fu, hm, hb⟩ := T.t_write_answer.ex
  have e : fnD (["answer"] : List Str).length N_write_answer.length b_write_answer = f_write_answer := rfl
  rw [← e]
  refine defD (CX := (L2N.CX P w)) (P := P) (w := w) (base := base) (k := 4) (g := b_write_answer) Fu hm hb sc_write_answer (by decide) fun cdv A outer s H E hr => ?_
  have tk := L2N.takes_of (X := cxOf (L2N.CX P w) P w K mg base N_write_answer "write_answer" (defScope s_write_answer) f cdv A outer s H E) (E := E) rfl rfl rfl rfl
  have hu64 := hr.units
  have hu65 := u65 hr
  have hrm := room2 hr
  exact (ss_cons (st_if (td_val (ed_isi rfl T.n_isinstance bt_isi (ed_var 0) (pe_cls rfl T.g_Best) (.own _) (isd_own T.i_Best))) (ss_cons (st_set 1 sc_write_answer.nd (ed_call (d_number_line T) (hr.mono (by decide)) (fun σ => L2N.passAt tk σ) rfl (ad_cons ed_str (ad_cons (ed_tup (ad_cons (ed_fld T.f_worth (ed_var 0)) ad_nil)) ad_nil))) rfl (by first | exact Or.inl rfl | exact Or.inr rfl)) (ss_one (st_ret (ed_tup (ad_cons (ed_var 1) (ad_cons (ed_call (d_number_line T) (hr.mono (by decide)) (fun σ => L2N.passAt tk σ) rfl (ad_cons ed_str (ad_cons (ed_fld T.f_point (ed_var 0)) ad_nil))) (ad_cons (ed_call (d_number_line T) (hr.mono (by decide)) (fun σ => L2N.passAt tk σ) rfl (ad_cons ed_str (ad_cons (ed_fld T.f_prices (ed_var 0)) ad_nil))) ad_nil))))))) ss_nil) (ss_cons (st_if (td_val (ed_isi rfl T.n_isinstance bt_isi (ed_var 0) (pe_cls rfl T.g_Barred) (.own _) (isd_own T.i_Barred))) (ss_one (st_ret (ed_tup (ad_cons ed_str (ad_cons (ed_call (d_number_line T) (hr.mono (by decide)) (fun σ => L2N.passAt tk σ) rfl (ad_cons ed_str (ad_cons (ed_fld T.f_prices (ed_var 0)) ad_nil))) ad_nil))))) ss_nil) (ss_one (st_ret (ed_tup (ad_cons ed_str (ad_cons (ed_call (d_number_line T) (hr.mono (by decide)) (fun σ => L2N.passAt tk σ) rfl (ad_cons ed_str (ad_cons (ed_fld T.f_point (ed_var 0)) ad_nil))) (ad_cons (ed_call (d_number_line T) (hr.mono (by decide)) (fun σ => L2N.passAt tk σ) rfl (ad_cons ed_str (ad_cons (ed_fld T.f_ray (ed_var 0)) ad_nil))) ad_nil))))))))
theorem sc_read_answer : FnScope N_read_answer ["lines"] (defScope s_read_answer) := ⟨rfl, rfl, rfl, by decide +kernel, rfl, by decide +kernel, by decide +kernel⟩
noncomputable def b_read_answer : SF := (seqS (asgS 1 (ifE (asT (op2 dGt (calE dLen (consA (vS 0) nilA)) (kI 0))) (ixL (splitN (op2 dIx (vS 0) (kI 0)) (kS " ")) (kI 0)) (kS ""))) (seqS (ifS (notInK dct_PARTS (vS 1)) (raiseS "BadText" ["line"] (one1 (kI 1))) nilS) (seqS (ownS 2 (lstN nilA)) (seqS (forS (enumA (unItE (un1 (atK dct_PARTS) (vS 1)))) (tupN 2 (consN (setN 3) (consN (setN 4) nilN))) (seqS (ifS (asT (op2 dEq (vS 3) (calE dLen (consA (vS 0) nilA)))) (raiseS "BadText" ["line"] (one1 (op2 dAdd (vS 3) (kI 1)))) nilS) (seqS (metS 2 mAppend (consA (callE f_read_line (consA (op2 dIx (vS 0) (vS 3)) (consA (vS 4) (consA (op2 dAdd (vS 3) (kI 1)) nilA)))) nilA)) (ifS (andT (asT (op2 dEq (vS 3) (kI 0))) (asT (op2 dNe (calE dLen (consA (ixL (vO 2) (kI 0)) nilA)) (un1 (atK dct_HEADS) (vS 1))))) (raiseS "BadText" ["line"] (one1 (kI 1))) nilS)))) (seqS (ifS (asT (op2 dGt (calE dLen (consA (vS 0) nilA)) (calE lLen (vO 2)))) (raiseS "BadText" ["line"] (one1 (op2 dAdd (calE lLen (vO 2)) (kI 1)))) nilS) (seqS (ifS (asT (op2 dEq (vS 1) (kS "best"))) (retS (callE c_Best (consA (op2 dIx (ixL (vO 2) (kI 0)) (kI 0)) (consA (ixL (vO 2) (kI 1)) (consA (ixL (vO 2) (kI 2)) nilA))))) nilS) (seqS (ifS (asT (op2 dEq (vS 1) (kS "barred"))) (retS (callE c_Barred (consA (ixL (vO 2) (kI 1)) nilA))) nilS) (retS (callE c_Endless (consA (ixL (vO 2) (kI 1)) (consA (ixL (vO 2) (kI 2)) nilA)))))))))))
noncomputable def f_read_answer : List D → R D := fnD 1 5 b_read_answer
theorem d_read_answer (T : Txt P w K mg a) : DefD P w K mg base (L2.CX P w) 7 "read_answer" f_read_answer := by
  have ⟨f, fd, Fu, hm, hb⟩ := T.t_read_answer.ex
  have e : fnD (["lines"] : List Str).length N_read_answer.length b_read_answer = f_read_answer := rfl
  rw [← e]
  refine defD (CX := (L2.CX P w)) (P := P) (w := w) (base := base) (k := 6) (g := b_read_answer) Fu hm hb sc_read_answer (by decide) fun cdv A outer s H E hr => ?_
  have tk := L2.takes_of (X := cxOf (L2.CX P w) P w K mg base N_read_answer "read_answer" (defScope s_read_answer) f cdv A outer s H E) (E := E) rfl rfl rfl rfl
  have hu64 := hr.units
  have hu65 := u65 hr
  have hrm := room2 hr
  exact (ss_cons (st_set 1 sc_read_answer.nd (ed_if (td_cmp od_gt (ed_callB cd_len rfl T.n_len bt_len (ad_cons (ed_var 0) ad_nil)) ed_int) (ed_ixL (ld_nd (nd_split (ed_ix (ed_var 0) ed_int) ed_str)) ed_int) ed_str) rfl (by first | exact Or.inl rfl | exact Or.inr rfl)) (ss_cons (st_if (td_notInK T.k_PARTS rfl (ed_var 1)) (ss_one (st_raise1 T.e_BadText rfl tk hrm ed_int rfl)) ss_nil) (ss_cons (st_own 2 sc_read_answer.nd (nd_lst ad_nil) rfl (by first | exact Or.inl rfl | exact Or.inr rfl)) (ss_cons (st_for PassesOwn.leaving rfl (id_enum (sd_ed (ed_kix T.k_PARTS rfl (ed_var 1))) rfl T.n_enumerate) (gd_tup 2 rfl (gsd_cons (gd_name 3 sc_read_answer.nd rfl (by first | exact Or.inl rfl | exact Or.inr rfl)) (gsd_cons (gd_name 4 sc_read_answer.nd rfl (by first | exact Or.inl rfl | exact Or.inr rfl)) gsd_nil))) (keepO_tup (keepO_cons keepO_name (keepO_cons keepO_name keepO_nil))) (ss_cons (st_if (td_cmp (od_eq hu64) (ed_var 3) (ed_callB cd_len rfl T.n_len bt_len (ad_cons (ed_var 0) ad_nil))) (ss_one (st_raise1 T.e_BadText rfl tk hrm (ed_op od_add (ed_var 3) ed_int) rfl)) ss_nil) (ss_cons (st_met 2 PySem.F.plainAttrs_list PySem.F.slot_list_append PySem.F.type_list_append mo_append (ad_cons (ed_call (d_read_line T) (hr.mono (by decide)) (fun σ => L2.passAt tk σ) rfl (ad_cons (ed_ix (ed_var 0) (ed_var 3)) (ad_cons (ed_var 4) (ad_cons (ed_op od_add (ed_var 3) ed_int) ad_nil)))) ad_nil)) (ss_one (st_if (td_w (wd_and (td_cmp (od_eq hu64) (ed_var 3) ed_int) (wd_and1 (td_cmp (od_ne hu64) (ed_callB cd_len rfl T.n_len bt_len (ad_cons (ed_ixL (ld_own 2) ed_int) ad_nil)) (ed_kix T.k_HEADS rfl (ed_var 1)))))) (ss_one (st_raise1 T.e_BadText rfl tk hrm ed_int rfl)) ss_nil))))) (ss_cons (st_if (td_cmp od_gt (ed_callB cd_len rfl T.n_len bt_len (ad_cons (ed_var 0) ad_nil)) (ed_callBL cl_len rfl T.n_len bt_len (ld_own 2))) (ss_one (st_raise1 T.e_BadText rfl tk hrm (ed_op od_add (ed_callBL cl_len rfl T.n_len bt_len (ld_own 2)) ed_int) rfl)) ss_nil) (ss_cons (st_if (td_cmp (od_eq hu64) (ed_var 1) ed_str) (ss_one (st_ret (ed_make (k_Best T).up (hr.mono (by decide)) (fun σ => L2.passAt tk σ) rfl (ad_cons (ed_ix (ed_ixL (ld_own 2) ed_int) ed_int) (ad_cons (ed_ixL (ld_own 2) ed_int) (ad_cons (ed_ixL (ld_own 2) ed_int) ad_nil)))))) ss_nil) (ss_cons (st_if (td_cmp (od_eq hu64) (ed_var 1) ed_str) (ss_one (st_ret (ed_make (k_Barred T).up (hr.mono (by decide)) (fun σ => L2.passAt tk σ) rfl (ad_cons (ed_ixL (ld_own 2) ed_int) ad_nil)))) ss_nil) (ss_one (st_ret (ed_make (k_Endless T).up (hr.mono (by decide)) (fun σ => L2.passAt tk σ) rfl (ad_cons (ed_ixL (ld_own 2) ed_int) (ad_cons (ed_ixL (ld_own 2) ed_int) ad_nil))))))))))))
theorem sc__law_cell : FnScope N__law_cell ["script", "k"] (defScope s__law_cell) := ⟨rfl, rfl, rfl, by decide +kernel, rfl, by decide +kernel, by decide +kernel⟩
noncomputable def b__law_cell : SF := (seqS (ifS (asT (op2 dLt (vS 1) (calE dLen (consA (vS 0) nilA)))) (retS (calE dAbs (consA (calE dInt (consA (op2 dIx (vS 0) (vS 1)) nilA)) nilA))) nilS) (retS (kI 0)))
noncomputable def f__law_cell : List D → R D := fnD 2 2 b__law_cell
theorem d__law_cell (T : Txt P w K mg a) : DefD P w K mg base (L2N.CX P w) 3 "_law_cell" f__law_cell := by
  have ⟨f, fd, Fu, hm, hb⟩ := T.t__law_cell.ex
  have e : fnD (["script", "k"] : List Str).length N__law_cell.length b__law_cell = f__law_cell := rfl
  rw [← e]
  refine defD (CX := (L2N.CX P w)) (P := P) (w := w) (base := base) (k := 2) (g := b__law_cell) Fu hm hb sc__law_cell (by decide) fun cdv A outer s H E hr => ?_
  have tk := L2N.takes_of (X := cxOf (L2N.CX P w) P w K mg base N__law_cell "_law_cell" (defScope s__law_cell) f cdv A outer s H E) (E := E) rfl rfl rfl rfl
  have hu64 := hr.units
  have hu65 := u65 hr
  have hrm := room2 hr
  exact (ss_cons (st_if (td_cmp od_lt (ed_var 1) (ed_callB cd_len rfl T.n_len bt_len (ad_cons (ed_var 0) ad_nil))) (ss_one (st_ret (ed_callB cd_abs rfl T.n_abs bt_abs (ad_cons (ed_callTy cd_int rfl T.n_int bt_int (ad_cons (ed_ix (ed_var 0) (ed_var 1)) ad_nil)) ad_nil)))) ss_nil) (ss_one (st_ret ed_int)))
theorem sc__law_draws : FnScope N__law_draws ["script", "k", "many"] (defScope s__law_draws) := ⟨rfl, rfl, rfl, by decide +kernel, rfl, by decide +kernel, by decide +kernel⟩
noncomputable def b__law_draws : SF := (seqS (asgS 3 (callE f__law_cell (consA (vS 0) (consA (vS 1) nilA)))) (seqS (asgS 4 (op2 dGe (vS 3) (op2 dPow (kI 10) (kI 18)))) (seqS (ownS 5 (lstN nilA)) (seqS (forS (rng1A (consA (vS 2) nilA)) (setN 6) (ifS (andT (asT (vS 4)) (asT (op2 dGt (vS 3) (kI 0)))) (seqS (metS 5 mAppend (consA (op2 dMod (calE dInt (consA (vS 3) nilA)) (kI 10007)) nilA)) (asgS 3 (op2 dDiv (calE dInt (consA (vS 3) nilA)) (kI 10007)))) (seqS (asgS 7 (op2 dMod (calE dInt (consA (op2 dAdd (op2 dAdd (op2 dAdd (op2 dMul (callE f__law_cell (consA (vS 0) (consA (vS 1) nilA))) (kI 48271)) (op2 dMul (vS 1) (kI 69621))) (op2 dMul (vS 6) (kI 40692))) (kI 12345)) nilA)) (kI 2147483647))) (seqS (asgS 7 (op2 dMod (calE dInt (consA (op2 dAdd (op2 dAdd (op2 dAdd (op2 dMul (vS 7) (vS 7)) (op2 dMul (vS 7) (kI 16807))) (op2 dMul (vS 6) (kI 7919))) (vS 1)) nilA)) (kI 2147483399))) (seqS (asgS 7 (op2 dMod (calE dInt (consA (op2 dAdd (op2 dAdd (op2 dMul (vS 7) (vS 7)) (op2 dMul (vS 7) (kI 30269))) (kI 11)) nilA)) (kI 999999937))) (metS 5 mAppend (consA (op2 dMod (op2 dDiv (calE dInt (consA (vS 7) nilA)) (kI 7)) (kI 10007)) nilA))))))) (frzS 5 (retS (vS 5)))))))
noncomputable def f__law_draws : List D → R D := fnD 3 8 b__law_draws
theorem d__law_draws (T : Txt P w K mg a) : DefD P w K mg base (L2N.CX P w) 4 "_law_draws" f__law_draws := by
  have ⟨f, fd, Fu, hm, hb⟩ := T.t__law_draws.ex
  have e : fnD (["script", "k", "many"] : List Str).length N__law_draws.length b__law_draws = f__law_draws := rfl
  rw [← e]
  refine defD (CX := (L2N.CX P w)) (P := P) (w := w) (base := base) (k := 3) (g := b__law_draws) Fu hm hb sc__law_draws (by decide) fun cdv A outer s H E hr => ?_
  have tk := L2N.takes_of (X := cxOf (L2N.CX P w) P w K mg base N__law_draws "_law_draws" (defScope s__law_draws) f cdv A outer s H E) (E := E) rfl rfl rfl rfl
  have hu64 := hr.units
  have hu65 := u65 hr
  have hrm := room2 hr
  exact (ss_cons (st_set 3 sc__law_draws.nd (ed_call (d__law_cell T) (hr.mono (by decide)) (fun σ => L2N.passAt tk σ) rfl (ad_cons (ed_var 0) (ad_cons (ed_var 1) ad_nil))) rfl (by first | exact Or.inl rfl | exact Or.inr rfl)) (ss_cons (st_set 4 sc__law_draws.nd (ed_cmp od_ge (ed_var 3) (ed_op od_pow ed_int ed_int)) rfl (by first | exact Or.inl rfl | exact Or.inr rfl)) (ss_cons (st_own 5 sc__law_draws.nd (nd_lst ad_nil) rfl (by first | exact Or.inl rfl | exact Or.inr rfl)) (ss_cons (st_for PassesOwn.leaving rfl (id_range1 rfl T.n_range (ad_cons (ed_var 2) ad_nil)) (gd_name 6 sc__law_draws.nd rfl (by first | exact Or.inl rfl | exact Or.inr rfl)) keepO_name (ss_one (st_if (td_w (wd_and (td_val (ed_var 4)) (wd_and1 (td_cmp od_gt (ed_var 3) ed_int)))) (ss_cons (st_met 5 PySem.F.plainAttrs_list PySem.F.slot_list_append PySem.F.type_list_append mo_append (ad_cons (ed_op od_mod (ed_callTy cd_int rfl T.n_int bt_int (ad_cons (ed_var 3) ad_nil)) ed_int) ad_nil)) (ss_one (st_set 3 sc__law_draws.nd (ed_op od_div (ed_callTy cd_int rfl T.n_int bt_int (ad_cons (ed_var 3) ad_nil)) ed_int) rfl (by first | exact Or.inl rfl | exact Or.inr rfl)))) (ss_cons (st_set 7 sc__law_draws.nd (ed_op od_mod (ed_callTy cd_int rfl T.n_int bt_int (ad_cons (ed_op od_add (ed_op od_add (ed_op od_add (ed_op od_mul (ed_call (d__law_cell T) (hr.mono (by decide)) (fun σ => L2N.passAt tk σ) rfl (ad_cons (ed_var 0) (ad_cons (ed_var 1) ad_nil))) ed_int) (ed_op od_mul (ed_var 1) ed_int)) (ed_op od_mul (ed_var 6) ed_int)) ed_int) ad_nil)) ed_int) rfl (by first | exact Or.inl rfl | exact Or.inr rfl)) (ss_cons (st_set 7 sc__law_draws.nd (ed_op od_mod (ed_callTy cd_int rfl T.n_int bt_int (ad_cons (ed_op od_add (ed_op od_add (ed_op od_add (ed_op od_mul (ed_var 7) (ed_var 7)) (ed_op od_mul (ed_var 7) ed_int)) (ed_op od_mul (ed_var 6) ed_int)) (ed_var 1)) ad_nil)) ed_int) rfl (by first | exact Or.inl rfl | exact Or.inr rfl)) (ss_cons (st_set 7 sc__law_draws.nd (ed_op od_mod (ed_callTy cd_int rfl T.n_int bt_int (ad_cons (ed_op od_add (ed_op od_add (ed_op od_mul (ed_var 7) (ed_var 7)) (ed_op od_mul (ed_var 7) ed_int)) ed_int) ad_nil)) ed_int) rfl (by first | exact Or.inl rfl | exact Or.inr rfl)) (ss_one (st_met 5 PySem.F.plainAttrs_list PySem.F.slot_list_append PySem.F.type_list_append mo_append (ad_cons (ed_op od_mod (ed_op od_div (ed_callTy cd_int rfl T.n_int bt_int (ad_cons (ed_var 7) ad_nil)) ed_int) ed_int) ad_nil))))))))) (ss_one (st_frz 5 (st_ret (ed_var 5))))))))
theorem sc__law_fraction : FnScope N__law_fraction ["top", "bottom"] (defScope s__law_fraction) := ⟨rfl, rfl, rfl, by decide +kernel, rfl, by decide +kernel, by decide +kernel⟩
noncomputable def b__law_fraction : SF := (seqS (ifS (asT (op2 dLt (vS 1) (kI 0))) (seqS (asgS 0 (un1 dNeg (vS 0))) (asgS 1 (un1 dNeg (vS 1)))) nilS) (seqS (asgS 2 (calE dAbs (consA (vS 0) nilA))) (seqS (asgS 3 (vS 1)) (seqS (forS (rng1A (consA (kI 100000) nilA)) (setN 4) (seqS (ifS (asT (op2 dEq (vS 3) (kI 0))) bkS nilS) (seqS (asgS 5 (op2 dMod (calE dInt (consA (vS 2) nilA)) (vS 3))) (seqS (asgS 2 (vS 3)) (asgS 3 (vS 5)))))) (retS (tupE (consA (op2 dDiv (vS 0) (vS 2)) (consA (op2 dDiv (vS 1) (vS 2)) nilA))))))))
noncomputable def f__law_fraction : List D → R D := fnD 2 6 b__law_fraction
theorem d__law_fraction (T : Txt P w K mg a) : DefD P w K mg base (L2N.CX P w) 3 "_law_fraction" f__law_fraction := by
  have ⟨f, fd, Fu, hm, hb⟩ := T.t__law_fraction.ex
  have e : fnD (["top", "bottom"] : List Str).length N__law_fraction.length b__law_fraction = f__law_fraction := rfl
  rw [← e]
  refine defD (CX := (L2N.CX P w)) (P := P) (w := w) (base := base) (k := 2) (g := b__law_fraction) Fu hm hb sc__law_fraction (by decide) fun cdv A outer s H E hr => ?_
  have tk := L2N.takes_of (X := cxOf (L2N.CX P w) P w K mg base N__law_fraction "_law_fraction" (defScope s__law_fraction) f cdv A outer s H E) (E := E) rfl rfl rfl rfl
  have hu64 := hr.units
  have hu65 := u65 hr
  have hrm := room2 hr
  exact (ss_cons (st_if (td_cmp od_lt (ed_var 1) ed_int) (ss_cons (st_set 0 sc__law_fraction.nd (ed_neg (ed_var 0)) rfl (by first | exact Or.inl rfl | exact Or.inr rfl)) (ss_one (st_set 1 sc__law_fraction.nd (ed_neg (ed_var 1)) rfl (by first | exact Or.inl rfl | exact Or.inr rfl)))) ss_nil) (ss_cons (st_set 2 sc__law_fraction.nd (ed_callB cd_abs rfl T.n_abs bt_abs (ad_cons (ed_var 0) ad_nil)) rfl (by first | exact Or.inl rfl | exact Or.inr rfl)) (ss_cons (st_set 3 sc__law_fraction.nd (ed_var 1) rfl (by first | exact Or.inl rfl | exact Or.inr rfl)) (ss_cons (st_for PassesOwn.leaving rfl (id_range1 rfl T.n_range (ad_cons ed_int ad_nil)) (gd_name 4 sc__law_fraction.nd rfl (by first | exact Or.inl rfl | exact Or.inr rfl)) keepO_name (ss_cons (st_if (td_cmp (od_eq hu64) (ed_var 3) ed_int) (ss_one st_break) ss_nil) (ss_cons (st_set 5 sc__law_fraction.nd (ed_op od_mod (ed_callTy cd_int rfl T.n_int bt_int (ad_cons (ed_var 2) ad_nil)) (ed_var 3)) rfl (by first | exact Or.inl rfl | exact Or.inr rfl)) (ss_cons (st_set 2 sc__law_fraction.nd (ed_var 3) rfl (by first | exact Or.inl rfl | exact Or.inr rfl)) (ss_one (st_set 3 sc__law_fraction.nd (ed_var 5) rfl (by first | exact Or.inl rfl | exact Or.inr rfl))))))) (ss_one (st_ret (ed_tup (ad_cons (ed_op od_div (ed_var 0) (ed_var 2)) (ad_cons (ed_op od_div (ed_var 1) (ed_var 2)) ad_nil)))))))))
theorem sc__law_number : FnScope N__law_number ["script", "k"] (defScope s__law_number) := ⟨rfl, rfl, rfl, by decide +kernel, rfl, by decide +kernel, by decide +kernel⟩
noncomputable def b__law_number : SF := (seqS (asgS 2 (callE f__law_draws (consA (vS 0) (consA (vS 1) (consA (kI 24) nilA))))) (seqS (asgS 3 (kI 1)) (seqS (ifS (asT (op2 dEq (op2 dMod (op2 dIx (vS 2) (kI 0)) (kI 4)) (kI 0))) (asgS 3 (op2 dAdd (kI 1) (op2 dMod (op2 dIx (vS 2) (kI 1)) (kI 10)))) nilS) (seqS (asgS 4 (kI 0)) (seqS (asgS 5 (kI 0)) (seqS (forS (rng1A (consA (vS 3) nilA)) (setN 6) (seqS (asgS 4 (op2 dAdd (op2 dMul (vS 4) (kI 10007)) (op2 dIx (vS 2) (op2 dAdd (kI 2) (vS 6))))) (asgS 5 (op2 dAdd (op2 dMul (vS 5) (kI 10007)) (op2 dIx (vS 2) (op2 dAdd (kI 12) (vS 6))))))) (seqS (ifS (asT (op2 dEq (op2 dMod (op2 dIx (vS 2) (kI 0)) (kI 4)) (kI 1))) (seqS (asgS 4 (op2 dMod (calE dInt (consA (vS 4) nilA)) (kI 4))) (asgS 5 (op2 dMod (calE dInt (consA (vS 5) nilA)) (kI 3)))) nilS) (seqS (ifS (asT (op2 dEq (op2 dMod (op2 dIx (vS 2) (kI 22)) (kI 3)) (kI 0))) (asgS 5 (kI 0)) nilS) (seqS (ifS (asT (op2 dEq (op2 dMod (op2 dIx (vS 2) (kI 23)) (kI 2)) (kI 0))) (asgS 4 (un1 dNeg (vS 4))) nilS) (retS (callE f__law_fraction (consA (vS 4) (consA (op2 dAdd (kI 1) (vS 5)) nilA)))))))))))))
noncomputable def f__law_number : List D → R D := fnD 2 7 b__law_number
theorem d__law_number (T : Txt P w K mg a) : DefD P w K mg base (L2N.CX P w) 5 "_law_number" f__law_number := by
  have ⟨f, fd, Fu, hm, hb⟩ := T.t__law_number.ex
  have e : fnD (["script", "k"] : List Str).length N__law_number.length b__law_number = f__law_number := rfl
  rw [← e]
  refine defD (CX := (L2N.CX P w)) (P := P) (w := w) (base := base) (k := 4) (g := b__law_number) Fu hm hb sc__law_number (by decide) fun cdv A outer s H E hr => ?_
  have tk := L2N.takes_of (X := cxOf (L2N.CX P w) P w K mg base N__law_number "_law_number" (defScope s__law_number) f cdv A outer s H E) (E := E) rfl rfl rfl rfl
  have hu64 := hr.units
  have hu65 := u65 hr
  have hrm := room2 hr
  exact (ss_cons (st_set 2 sc__law_number.nd (ed_call (d__law_draws T) (hr.mono (by decide)) (fun σ => L2N.passAt tk σ) rfl (ad_cons (ed_var 0) (ad_cons (ed_var 1) (ad_cons ed_int ad_nil)))) rfl (by first | exact Or.inl rfl | exact Or.inr rfl)) (ss_cons (st_set 3 sc__law_number.nd ed_int rfl (by first | exact Or.inl rfl | exact Or.inr rfl)) (ss_cons (st_if (td_cmp (od_eq hu64) (ed_op od_mod (ed_ix (ed_var 2) ed_int) ed_int) ed_int) (ss_one (st_set 3 sc__law_number.nd (ed_op od_add ed_int (ed_op od_mod (ed_ix (ed_var 2) ed_int) ed_int)) rfl (by first | exact Or.inl rfl | exact Or.inr rfl))) ss_nil) (ss_cons (st_set 4 sc__law_number.nd ed_int rfl (by first | exact Or.inl rfl | exact Or.inr rfl)) (ss_cons (st_set 5 sc__law_number.nd ed_int rfl (by first | exact Or.inl rfl | exact Or.inr rfl)) (ss_cons (st_for PassesOwn.leaving rfl (id_range1 rfl T.n_range (ad_cons (ed_var 3) ad_nil)) (gd_name 6 sc__law_number.nd rfl (by first | exact Or.inl rfl | exact Or.inr rfl)) keepO_name (ss_cons (st_set 4 sc__law_number.nd (ed_op od_add (ed_op od_mul (ed_var 4) ed_int) (ed_ix (ed_var 2) (ed_op od_add ed_int (ed_var 6)))) rfl (by first | exact Or.inl rfl | exact Or.inr rfl)) (ss_one (st_set 5 sc__law_number.nd (ed_op od_add (ed_op od_mul (ed_var 5) ed_int) (ed_ix (ed_var 2) (ed_op od_add ed_int (ed_var 6)))) rfl (by first | exact Or.inl rfl | exact Or.inr rfl))))) (ss_cons (st_if (td_cmp (od_eq hu64) (ed_op od_mod (ed_ix (ed_var 2) ed_int) ed_int) ed_int) (ss_cons (st_set 4 sc__law_number.nd (ed_op od_mod (ed_callTy cd_int rfl T.n_int bt_int (ad_cons (ed_var 4) ad_nil)) ed_int) rfl (by first | exact Or.inl rfl | exact Or.inr rfl)) (ss_one (st_set 5 sc__law_number.nd (ed_op od_mod (ed_callTy cd_int rfl T.n_int bt_int (ad_cons (ed_var 5) ad_nil)) ed_int) rfl (by first | exact Or.inl rfl | exact Or.inr rfl)))) ss_nil) (ss_cons (st_if (td_cmp (od_eq hu64) (ed_op od_mod (ed_ix (ed_var 2) ed_int) ed_int) ed_int) (ss_one (st_set 5 sc__law_number.nd ed_int rfl (by first | exact Or.inl rfl | exact Or.inr rfl))) ss_nil) (ss_cons (st_if (td_cmp (od_eq hu64) (ed_op od_mod (ed_ix (ed_var 2) ed_int) ed_int) ed_int) (ss_one (st_set 4 sc__law_number.nd (ed_neg (ed_var 4)) rfl (by first | exact Or.inl rfl | exact Or.inr rfl))) ss_nil) (ss_one (st_ret (ed_call (d__law_fraction T) (hr.mono (by decide)) (fun σ => L2N.passAt tk σ) rfl (ad_cons (ed_var 4) (ad_cons (ed_op od_add ed_int (ed_var 5)) ad_nil))))))))))))))
theorem sc__law_row : FnScope N__law_row ["script", "k", "many"] (defScope s__law_row) := ⟨rfl, rfl, rfl, by decide +kernel, rfl, by decide +kernel, by decide +kernel⟩
noncomputable def b__law_row : SF := (retS (tupL (lcN (rng1A (consA (vS 2) nilA)) (setN 3) yesT (callE f__law_number (consA (vS 0) (consA (op2 dAdd (vS 1) (vS 3)) nilA))) [3])))
noncomputable def f__law_row : List D → R D := fnD 3 4 b__law_row
theorem d__law_row (T : Txt P w K mg a) : DefD P w K mg base (L2N.CX P w) 6 "_law_row" f__law_row := by
  have ⟨f, fd, Fu, hm, hb⟩ := T.t__law_row.ex
  have e : fnD (["script", "k", "many"] : List Str).length N__law_row.length b__law_row = f__law_row := rfl
  rw [← e]
  refine defD (CX := (L2N.CX P w)) (P := P) (w := w) (base := base) (k := 5) (g := b__law_row) Fu hm hb sc__law_row (by decide) fun cdv A outer s H E hr => ?_
  have tk := L2N.takes_of (X := cxOf (L2N.CX P w) P w K mg base N__law_row "_law_row" (defScope s__law_row) f cdv A outer s H E) (E := E) rfl rfl rfl rfl
  have hu64 := hr.units
  have hu65 := u65 hr
  have hrm := room2 hr
  exact (ss_one (st_ret (ed_tupleL rfl T.n_tuple (ld_nd (nd_lc (own := [("at", 3)]) rfl sc__law_row.nd (id_range1 rfl T.n_range (ad_cons (ed_var 2) ad_nil)) (show BlkOk N__law_row (defScope s__law_row) _ _ from ⟨rfl, by decide +kernel, by decide +kernel, by decide +kernel, by decide +kernel⟩) (fun _ _ _ _ _ => (gd_name 3 sc__law_row.nd rfl (by first | exact Or.inl rfl | exact Or.inr rfl))) (fun _ _ _ _ _ => tsd_nil) (fun _ _ _ _ _ => (ed_call (d__law_number T) (hr.mono (by decide)) (fun _ => passFN) rfl (ad_cons (ed_var 0) (ad_cons (ed_op od_add (ed_var 1) (ed_var 3)) ad_nil)))))))))
theorem sc__law_written : FnScope N__law_written ["value"] (defScope s__law_written) := ⟨rfl, rfl, rfl, by decide +kernel, rfl, by decide +kernel, by decide +kernel⟩
noncomputable def b__law_written : SF := (seqS (ifS (asT (op2 dEq (op2 dIx (vS 0) (kI 1)) (kI 1))) (retS (calE dStr (consA (op2 dIx (vS 0) (kI 0)) nilA))) nilS) (retS (op2 dAdd (op2 dAdd (calE dStr (consA (op2 dIx (vS 0) (kI 0)) nilA)) (kS "/")) (calE dStr (consA (op2 dIx (vS 0) (kI 1)) nilA)))))
noncomputable def f__law_written : List D → R D := fnD 1 1 b__law_written
theorem d__law_written (T : Txt P w K mg a) : DefD P w K mg base (L2N.CX P w) 3 "_law_written" f__law_written := by
  have ⟨f, fd, Fu, hm, hb⟩ := T.t__law_written.ex
  have e : fnD (["value"] : List Str).length N__law_written.length b__law_written = f__law_written := rfl
  rw [← e]
  refine defD (CX := (L2N.CX P w)) (P := P) (w := w) (base := base) (k := 2) (g := b__law_written) Fu hm hb sc__law_written (by decide) fun cdv A outer s H E hr => ?_
  have tk := L2N.takes_of (X := cxOf (L2N.CX P w) P w K mg base N__law_written "_law_written" (defScope s__law_written) f cdv A outer s H E) (E := E) rfl rfl rfl rfl
  have hu64 := hr.units
  have hu65 := u65 hr
  have hrm := room2 hr
  exact (ss_cons (st_if (td_cmp (od_eq hu64) (ed_ix (ed_var 0) ed_int) ed_int) (ss_one (st_ret (ed_callTy cd_str rfl T.n_str bt_str (ad_cons (ed_ix (ed_var 0) ed_int) ad_nil)))) ss_nil) (ss_one (st_ret (ed_op od_add (ed_op od_add (ed_callTy cd_str rfl T.n_str bt_str (ad_cons (ed_ix (ed_var 0) ed_int) ad_nil)) ed_str) (ed_callTy cd_str rfl T.n_str bt_str (ad_cons (ed_ix (ed_var 0) ed_int) ad_nil))))))
theorem sc__law_line : FnScope N__law_line ["word", "numbers"] (defScope s__law_line) := ⟨rfl, rfl, rfl, by decide +kernel, rfl, by decide +kernel, by decide +kernel⟩
noncomputable def b__law_line : SF := (retS (joinE (kS " ") (op2 dAdd (lstE (consA (vS 0) nilA)) (ndE (lcN (unItE (vS 1)) (setN 2) yesT (callE f__law_written (consA (vS 2) nilA)) [2])))))
noncomputable def f__law_line : List D → R D := fnD 2 3 b__law_line
theorem d__law_line (T : Txt P w K mg a) : DefD P w K mg base (L2N.CX P w) 4 "_law_line" f__law_line := by
  have ⟨f, fd, Fu, hm, hb⟩ := T.t__law_line.ex
  have e : fnD (["word", "numbers"] : List Str).length N__law_line.length b__law_line = f__law_line := rfl
  rw [← e]
  refine defD (CX := (L2N.CX P w)) (P := P) (w := w) (base := base) (k := 3) (g := b__law_line) Fu hm hb sc__law_line (by decide) fun cdv A outer s H E hr => ?_
  have tk := L2N.takes_of (X := cxOf (L2N.CX P w) P w K mg base N__law_line "_law_line" (defScope s__law_line) f cdv A outer s H E) (E := E) rfl rfl rfl rfl
  have hu64 := hr.units
  have hu65 := u65 hr
  have hrm := room2 hr
  exact (ss_one (st_ret (ed_joinE ed_str (ed_op od_add (ed_lst (ad_cons (ed_var 0) ad_nil)) (ed_nd (nd_lc (own := [("value", 2)]) rfl sc__law_line.nd (id_src (sd_ed (ed_var 1))) (show BlkOk N__law_line (defScope s__law_line) _ _ from ⟨rfl, by decide +kernel, by decide +kernel, by decide +kernel, by decide +kernel⟩) (fun _ _ _ _ _ => (gd_name 2 sc__law_line.nd rfl (by first | exact Or.inl rfl | exact Or.inr rfl))) (fun _ _ _ _ _ => tsd_nil) (fun _ _ _ _ _ => (ed_call (d__law_written T) (hr.mono (by decide)) (fun _ => passFN) rfl (ad_cons (ed_var 2) ad_nil)))))))))
theorem sc__law_same : FnScope N__law_same ["told", "due"] (defScope s__law_same) := ⟨rfl, rfl, rfl, by decide +kernel, rfl, by decide +kernel, by decide +kernel⟩
noncomputable def b__law_same (rec_ : List D → R D) : SF := (seqS (ifS (asT (isiE isTup (vS 1))) (seqS (ifS (orT (notT (asT (isiE isTup (vS 0)))) (asT (op2 dNe (calE dLen (consA (vS 0) nilA)) (calE dLen (consA (vS 1) nilA))))) (retS (kB false)) nilS) (seqS (forS (rng1A (consA (calE dLen (consA (vS 1) nilA)) nilA)) (setN 2) (ifS (notT (asT (callE rec_ (consA (op2 dIx (vS 0) (vS 2)) (consA (op2 dIx (vS 1) (vS 2)) nilA))))) (retS (kB false)) nilS)) (retS (kB true)))) nilS) (seqS (ifS (asT (op2 dIs (vS 1) kN)) (retS (op2 dIs (vS 0) kN)) nilS) (seqS (ifS (asT (isiE isBl (vS 1))) (retS (andE (isiE isBl (vS 0)) (op2 dEq (vS 0) (vS 1)))) nilS) (seqS (ifS (asT (isiE isInt (vS 1))) (retS (andE (isiE isInt (vS 0)) (andE (notE (isiE isBl (vS 0))) (op2 dEq (vS 0) (vS 1))))) nilS) (retS (andE (isiE isStr (vS 0)) (op2 dEq (vS 0) (vS 1))))))))
noncomputable def f__law_same : Nat → List D → R D
  | 0 => fun _ => none
  | n + 1 => fnD 2 3 (b__law_same (f__law_same n))
theorem d__law_same (T : Txt P w K mg a) : ∀ n, DefD P w K mg base (L2N.CX P w) (3 + n) "_law_same" (f__law_same n)
  | 0 => by
    have ⟨f, fd, Fu, hm, hb⟩ := T.t__law_same.ex
    exact ⟨f, fd, _, ⟨fun vs H Q E h => (by obtain ⟨F, ds, r, s, hd, hf, _⟩ := h; cases hf), fun A outer s H args us vs Q E hr he hb' hv h => (by obtain ⟨F, ds, r, s, hd, hf, _⟩ := h; cases hf)⟩, hm, Fu.kp, hb⟩
  | n + 1 => by
    have ⟨f, fd, Fu, hm, hb⟩ := T.t__law_same.ex
    have R_ := d__law_same T n
    have e : fnD (["told", "due"] : List Str).length N__law_same.length (b__law_same (f__law_same n)) = f__law_same (n + 1) := rfl
    rw [← e]
    refine defD (CX := (L2N.CX P w)) (P := P) (w := w) (base := base) (k := 3 + n) (g := b__law_same (f__law_same n)) Fu hm hb sc__law_same (by decide) fun cdv A outer s H E hr => ?_
    have tk := L2N.takes_of (X := cxOf (L2N.CX P w) P w K mg base N__law_same "_law_same" (defScope s__law_same) f cdv A outer s H E) (E := E) rfl rfl rfl rfl
    have hu64 := hr.units
    have hu65 := u65 hr (by omega)
    have hrm := room2 hr (by omega)
    exact (ss_cons (st_if (td_val (ed_isi rfl T.n_isinstance bt_isi (ed_var 1) (pe_ty rfl T.n_tuple bt_tuple) (.ty _) isd_tup)) (ss_cons (st_if (td_w (wd_or (td_not (td_val (ed_isi rfl T.n_isinstance bt_isi (ed_var 0) (pe_ty rfl T.n_tuple bt_tuple) (.ty _) isd_tup))) (wd_or1 (td_cmp (od_ne hu64) (ed_callB cd_len rfl T.n_len bt_len (ad_cons (ed_var 0) ad_nil)) (ed_callB cd_len rfl T.n_len bt_len (ad_cons (ed_var 1) ad_nil)))))) (ss_one (st_ret ed_bl)) ss_nil) (ss_cons (st_for PassesOwn.leaving rfl (id_range1 rfl T.n_range (ad_cons (ed_callB cd_len rfl T.n_len bt_len (ad_cons (ed_var 1) ad_nil)) ad_nil)) (gd_name 2 sc__law_same.nd rfl (by first | exact Or.inl rfl | exact Or.inr rfl)) keepO_name (ss_one (st_if (td_not (td_val (ed_call R_ (hr.mono (by omega)) (fun σ => L2N.passAt tk σ) rfl (ad_cons (ed_ix (ed_var 0) (ed_var 2)) (ad_cons (ed_ix (ed_var 1) (ed_var 2)) ad_nil))))) (ss_one (st_ret ed_bl)) ss_nil))) (ss_one (st_ret ed_bl)))) ss_nil) (ss_cons (st_if (td_cmp od_is (ed_var 1) ed_non) (ss_one (st_ret (ed_cmp od_is (ed_var 0) ed_non))) ss_nil) (ss_cons (st_if (td_val (ed_isi rfl T.n_isinstance bt_isi (ed_var 1) (pe_ty rfl T.n_bool bt_bool) (.ty _) isd_bl)) (ss_one (st_ret (ed_and (ed_isi rfl T.n_isinstance bt_isi (ed_var 0) (pe_ty rfl T.n_bool bt_bool) (.ty _) isd_bl) (ed_one (ed_cmp (od_eq hu64) (ed_var 0) (ed_var 1)))))) ss_nil) (ss_cons (st_if (td_val (ed_isi rfl T.n_isinstance bt_isi (ed_var 1) (pe_ty rfl T.n_int bt_int) (.ty _) isd_int)) (ss_one (st_ret (ed_and (ed_isi rfl T.n_isinstance bt_isi (ed_var 0) (pe_ty rfl T.n_int bt_int) (.ty _) isd_int) (ed_and (ed_not (ed_isi rfl T.n_isinstance bt_isi (ed_var 0) (pe_ty rfl T.n_bool bt_bool) (.ty _) isd_bl)) (ed_one (ed_cmp (od_eq hu64) (ed_var 0) (ed_var 1))))))) ss_nil) (ss_one (st_ret (ed_and (ed_isi rfl T.n_isinstance bt_isi (ed_var 0) (pe_ty rfl T.n_str bt_str) (.ty _) isd_str) (ed_one (ed_cmp (od_eq hu64) (ed_var 0) (ed_var 1))))))))))
theorem sc__law_told : FnScope N__law_told ["lines"] (defScope s__law_told) := ⟨rfl, rfl, rfl, by decide +kernel, rfl, by decide +kernel, by decide +kernel⟩
noncomputable def b__law_told : SF := (seqS (tryA 2 is_BadText (asgS 1 (callE f_read_answer (consA (vS 0) nilA))) (fun ad cls dd => (retS (tupE (consA (kS "bad") (consA (exE ad cls dd ["BadText"] "line" 2) nilA)))))) (seqS (ifS (asT (isiE (isOwn "Best" clsAll) (vS 1))) (retS (tupE (consA (kS "best") (consA (tupE (consA (tupE (consA (un1 (fldD cs_worth "worth") (vS 1)) nilA)) (consA (un1 (fldD cs_point "point") (vS 1)) (consA (un1 (fldD cs_prices "prices") (vS 1)) nilA)))) nilA)))) nilS) (seqS (ifS (asT (isiE (isOwn "Barred" clsAll) (vS 1))) (retS (tupE (consA (kS "barred") (consA (tupE (consA (tupE nilA) (consA (un1 (fldD cs_prices "prices") (vS 1)) nilA))) nilA)))) nilS) (seqS (ifS (asT (isiE (isOwn "Endless" clsAll) (vS 1))) (retS (tupE (consA (kS "endless") (consA (tupE (consA (tupE nilA) (consA (un1 (fldD cs_point "point") (vS 1)) (consA (un1 (fldD cs_ray "ray") (vS 1)) nilA)))) nilA)))) nilS) (retS (tupE (consA (kS "none") nilA)))))))
noncomputable def f__law_told : List D → R D := fnD 1 3 b__law_told
theorem d__law_told (T : Txt P w K mg a) : DefD P w K mg base (L2.CX P w) 8 "_law_told" f__law_told := by
  have ⟨f, fd, Fu, hm, hb⟩ := T.t__law_told.ex
  have e : fnD (["lines"] : List Str).length N__law_told.length b__law_told = f__law_told := rfl
  rw [← e]
  refine defD (CX := (L2.CX P w)) (P := P) (w := w) (base := base) (k := 7) (g := b__law_told) Fu hm hb sc__law_told (by decide) fun cdv A outer s H E hr => ?_
  have tk := L2.takes_of (X := cxOf (L2.CX P w) P w K mg base N__law_told "_law_told" (defScope s__law_told) f cdv A outer s H E) (E := E) rfl rfl rfl rfl
  have hu64 := hr.units
  have hu65 := u65 hr
  have hrm := room2 hr
  exact (ss_cons (st_try_as 2 rfl rfl sc__law_told.nd rfl rfl ⟨rfl, by decide, Or.inl T.g_BadText⟩ T.h_BadText tk (fun _ _ _ tk po => (ss_one (st_set 1 sc__law_told.nd (ed_call (d_read_answer T) (hr.mono (by decide)) (fun σ => L2.passAt tk σ) rfl (ad_cons (ed_var 0) ad_nil)) rfl (by first | exact Or.inl rfl | exact Or.inr rfl)))) (fun ad oe cls dd _ hz hf => (ss_one (st_ret (ed_tup (ad_cons ed_str (ad_cons (ed_exf 2 (T.xf_line) hz hf) ad_nil))))))) (ss_cons (st_if (td_val (ed_isi rfl T.n_isinstance bt_isi (ed_var 1) (pe_cls rfl T.g_Best) (.own _) (isd_own T.i_Best))) (ss_one (st_ret (ed_tup (ad_cons ed_str (ad_cons (ed_tup (ad_cons (ed_tup (ad_cons (ed_fld T.f_worth (ed_var 1)) ad_nil)) (ad_cons (ed_fld T.f_point (ed_var 1)) (ad_cons (ed_fld T.f_prices (ed_var 1)) ad_nil)))) ad_nil))))) ss_nil) (ss_cons (st_if (td_val (ed_isi rfl T.n_isinstance bt_isi (ed_var 1) (pe_cls rfl T.g_Barred) (.own _) (isd_own T.i_Barred))) (ss_one (st_ret (ed_tup (ad_cons ed_str (ad_cons (ed_tup (ad_cons (ed_tup ad_nil) (ad_cons (ed_fld T.f_prices (ed_var 1)) ad_nil))) ad_nil))))) ss_nil) (ss_cons (st_if (td_val (ed_isi rfl T.n_isinstance bt_isi (ed_var 1) (pe_cls rfl T.g_Endless) (.own _) (isd_own T.i_Endless))) (ss_one (st_ret (ed_tup (ad_cons ed_str (ad_cons (ed_tup (ad_cons (ed_tup ad_nil) (ad_cons (ed_fld T.f_point (ed_var 1)) (ad_cons (ed_fld T.f_ray (ed_var 1)) ad_nil)))) ad_nil))))) ss_nil) (ss_one (st_ret (ed_tup (ad_cons ed_str ad_nil))))))))
theorem sc__law_changed : FnScope N__law_changed ["lines", "draws"] (defScope s__law_changed) := ⟨rfl, rfl, rfl, by decide +kernel, rfl, by decide +kernel, by decide +kernel⟩
noncomputable def b__law_changed : SF := (seqS (ownS 2 (unSqE (vS 0))) (seqS (ifS (asT (op2 dEq (calE lLen (vO 2)) (kI 0))) (retS (slE (tupE (consA (kS "") (consA (kS "best 1") (consA (kS "barred") nilA)))) (pS (op2 dMod (op2 dIx (vS 1) (kI 0)) (kI 3))) pN)) nilS) (seqS (asgS 3 (op2 dMod (op2 dIx (vS 1) (kI 0)) (kI 12))) (seqS (asgS 4 (op2 dMod (op2 dIx (vS 1) (kI 1)) (calE lLen (vO 2)))) (seqS (asgS 5 (ixL (vO 2) (vS 4))) (seqS (asgS 6 (op2 dMod (op2 dIx (vS 1) (kI 2)) (op2 dAdd (calE dLen (consA (vS 5) nilA)) (kI 1)))) (seqS (asgS 7 (op2 dIx (kS "0123456789 /-+.aP") (op2 dMod (op2 dIx (vS 1) (kI 3)) (kI 17)))) (seqS (ownS 8 (splitN (vS 5) (kS " "))) (seqS (ifS (asT (op2 dEq (vS 3) (kI 0))) (metS 2 mPopAt (consA (vS 4) nilA)) (ifS (asT (op2 dEq (vS 3) (kI 1))) (metS 2 mInsert (consA (vS 4) (consA (vS 5) nilA))) (ifS (asT (op2 dEq (vS 3) (kI 2))) (seqS (asgS 9 (op2 dMod (op2 dIx (vS 1) (kI 4)) (calE lLen (vO 2)))) (seqS (setItS 2 (vS 4) (ixL (vO 2) (vS 9))) (setItS 2 (vS 9) (vS 5)))) (ifS (asT (op2 dEq (vS 3) (kI 3))) (seqS (setItS 8 (kI 0) (op2 dIx (lstE (consA (kS "best") (consA (kS "point") (consA (kS "prices") (consA (kS "barred") (consA (kS "endless") (consA (kS "ray") (consA (kS "Point") (consA (kS "") nilA))))))))) (op2 dMod (op2 dIx (vS 1) (kI 4)) (kI 8)))) (setItS 2 (vS 4) (joinL (kS " ") (vO 8)))) (ifS (asT (op2 dEq (vS 3) (kI 4))) (setItS 2 (vS 4) (op2 dAdd (op2 dAdd (slE (vS 5) pN (pS (vS 6))) (vS 7)) (slE (vS 5) (pS (vS 6)) pN))) (ifS (asT (op2 dEq (vS 3) (kI 5))) (setItS 2 (vS 4) (op2 dAdd (slE (vS 5) pN (pS (vS 6))) (slE (vS 5) (pS (op2 dAdd (vS 6) (kI 1))) pN))) (ifS (asT (op2 dEq (vS 3) (kI 6))) (setItS 2 (vS 4) (op2 dAdd (op2 dAdd (slE (vS 5) pN (pS (vS 6))) (vS 7)) (slE (vS 5) (pS (op2 dAdd (vS 6) (kI 1))) pN))) (ifS (asT (op2 dEq (vS 3) (kI 7))) (metS 2 mAppend (consA (op2 dIx (lstE (consA (kS "") (consA (kS "prices") (consA (kS "point 1") (consA (vS 5) (consA (kS "ray 0") (consA (kS " ") nilA))))))) (op2 dMod (op2 dIx (vS 1) (kI 4)) (kI 6))) nilA)) (ifS (asT (op2 dEq (vS 3) (kI 8))) (setItS 2 (vS 4) (op2 dIx (lstE (consA (kS "") (consA (kS "point") (consA (kS "prices 1") (consA (kS "ray") (consA (kS "barred") (consA (kS "endless") (consA (kS "best") (consA (kS "best 1") (consA (kS "best 1 2") nilA)))))))))) (op2 dMod (op2 dIx (vS 1) (kI 4)) (kI 9)))) (ifS (asT (op2 dEq (vS 3) (kI 9))) (setItS 2 (vS 4) (op2 dAdd (vS 5) (op2 dIx (lstE (consA (kS "") (consA (kS " ") (consA (kS " 1") (consA (kS "  1") (consA (kS " 01") (consA (kS " 2/4") (consA (kS " -0") (consA (kS " 1/1") (consA (kS " 0/3") nilA)))))))))) (op2 dMod (op2 dIx (vS 1) (kI 4)) (kI 9))))) (ifS (asT (op2 dEq (vS 3) (kI 10))) (ownS 2 (slL (vO 2) pN (pS (op2 dMod (op2 dIx (vS 1) (kI 4)) (op2 dAdd (calE lLen (vO 2)) (kI 1)))))) (setItS 2 (kI 0) (op2 dIx (lstE (consA (kS "best 3") (consA (kS "barred") (consA (kS "endless") (consA (kS "best") (consA (kS "barred 0") (consA (kS "endless 1") nilA))))))) (op2 dMod (op2 dIx (vS 1) (kI 4)) (kI 6))))))))))))))) (retS (tupL (vO 2))))))))))))
noncomputable def f__law_changed : List D → R D := fnD 2 10 b__law_changed
theorem d__law_changed (T : Txt P w K mg a) : DefD P w K mg base (L2N.CX P w) 3 "_law_changed" f__law_changed := by
  have ⟨f, fd, Fu, hm, hb⟩ := T.t__law_changed.ex
  have e : fnD (["lines", "draws"] : List Str).length N__law_changed.length b__law_changed = f__law_changed := rfl
  rw [← e]
  refine defD (CX := (L2N.CX P w)) (P := P) (w := w) (base := base) (k := 2) (g := b__law_changed) Fu hm hb sc__law_changed (by decide) fun cdv A outer s H E hr => ?_
  have tk := L2N.takes_of (X := cxOf (L2N.CX P w) P w K mg base N__law_changed "_law_changed" (defScope s__law_changed) f cdv A outer s H E) (E := E) rfl rfl rfl rfl
  have hu64 := hr.units
  have hu65 := u65 hr
  have hrm := room2 hr
  exact (ss_cons (st_own 2 sc__law_changed.nd (nd_listE rfl T.n_list (ed_var 0)) rfl (by first | exact Or.inl rfl | exact Or.inr rfl)) (ss_cons (st_if (td_cmp (od_eq hu64) (ed_callBL cl_len rfl T.n_len bt_len (ld_own 2)) ed_int) (ss_one (st_ret (ed_sl (ed_tup (ad_cons ed_str (ad_cons ed_str (ad_cons ed_str ad_nil)))) (od_some (ed_op od_mod (ed_ix (ed_var 1) ed_int) ed_int)) od_none))) ss_nil) (ss_cons (st_set 3 sc__law_changed.nd (ed_op od_mod (ed_ix (ed_var 1) ed_int) ed_int) rfl (by first | exact Or.inl rfl | exact Or.inr rfl)) (ss_cons (st_set 4 sc__law_changed.nd (ed_op od_mod (ed_ix (ed_var 1) ed_int) (ed_callBL cl_len rfl T.n_len bt_len (ld_own 2))) rfl (by first | exact Or.inl rfl | exact Or.inr rfl)) (ss_cons (st_set 5 sc__law_changed.nd (ed_ixL (ld_own 2) (ed_var 4)) rfl (by first | exact Or.inl rfl | exact Or.inr rfl)) (ss_cons (st_set 6 sc__law_changed.nd (ed_op od_mod (ed_ix (ed_var 1) ed_int) (ed_op od_add (ed_callB cd_len rfl T.n_len bt_len (ad_cons (ed_var 5) ad_nil)) ed_int)) rfl (by first | exact Or.inl rfl | exact Or.inr rfl)) (ss_cons (st_set 7 sc__law_changed.nd (ed_ix ed_str (ed_op od_mod (ed_ix (ed_var 1) ed_int) ed_int)) rfl (by first | exact Or.inl rfl | exact Or.inr rfl)) (ss_cons (st_own 8 sc__law_changed.nd (nd_split (ed_var 5) ed_str) rfl (by first | exact Or.inl rfl | exact Or.inr rfl)) (ss_cons (st_if (td_cmp (od_eq hu64) (ed_var 3) ed_int) (ss_one (st_met 2 PySem.F.plainAttrs_list PySem.F.slot_list_pop PySem.F.type_list_pop mo_popAt (ad_cons (ed_var 4) ad_nil))) (ss_one (st_if (td_cmp (od_eq hu64) (ed_var 3) ed_int) (ss_one (st_met 2 PySem.F.plainAttrs_list PySem.F.slot_list_insert PySem.F.type_list_insert mo_insert (ad_cons (ed_var 4) (ad_cons (ed_var 5) ad_nil)))) (ss_one (st_if (td_cmp (od_eq hu64) (ed_var 3) ed_int) (ss_cons (st_set 9 sc__law_changed.nd (ed_op od_mod (ed_ix (ed_var 1) ed_int) (ed_callBL cl_len rfl T.n_len bt_len (ld_own 2))) rfl (by first | exact Or.inl rfl | exact Or.inr rfl)) (ss_cons (st_setIt 2 (ed_ixL (ld_own 2) (ed_var 9)) (ed_var 4)) (ss_one (st_setIt 2 (ed_var 5) (ed_var 9))))) (ss_one (st_if (td_cmp (od_eq hu64) (ed_var 3) ed_int) (ss_cons (st_setIt 8 (ed_ix (ed_lst (ad_cons ed_str (ad_cons ed_str (ad_cons ed_str (ad_cons ed_str (ad_cons ed_str (ad_cons ed_str (ad_cons ed_str (ad_cons ed_str ad_nil))))))))) (ed_op od_mod (ed_ix (ed_var 1) ed_int) ed_int)) ed_int) (ss_one (st_setIt 2 (ed_joinL ed_str (ld_own 8)) (ed_var 4)))) (ss_one (st_if (td_cmp (od_eq hu64) (ed_var 3) ed_int) (ss_one (st_setIt 2 (ed_op od_add (ed_op od_add (ed_sl (ed_var 5) od_none (od_some (ed_var 6))) (ed_var 7)) (ed_sl (ed_var 5) (od_some (ed_var 6)) od_none)) (ed_var 4))) (ss_one (st_if (td_cmp (od_eq hu64) (ed_var 3) ed_int) (ss_one (st_setIt 2 (ed_op od_add (ed_sl (ed_var 5) od_none (od_some (ed_var 6))) (ed_sl (ed_var 5) (od_some (ed_op od_add (ed_var 6) ed_int)) od_none)) (ed_var 4))) (ss_one (st_if (td_cmp (od_eq hu64) (ed_var 3) ed_int) (ss_one (st_setIt 2 (ed_op od_add (ed_op od_add (ed_sl (ed_var 5) od_none (od_some (ed_var 6))) (ed_var 7)) (ed_sl (ed_var 5) (od_some (ed_op od_add (ed_var 6) ed_int)) od_none)) (ed_var 4))) (ss_one (st_if (td_cmp (od_eq hu64) (ed_var 3) ed_int) (ss_one (st_met 2 PySem.F.plainAttrs_list PySem.F.slot_list_append PySem.F.type_list_append mo_append (ad_cons (ed_ix (ed_lst (ad_cons ed_str (ad_cons ed_str (ad_cons ed_str (ad_cons (ed_var 5) (ad_cons ed_str (ad_cons ed_str ad_nil))))))) (ed_op od_mod (ed_ix (ed_var 1) ed_int) ed_int)) ad_nil))) (ss_one (st_if (td_cmp (od_eq hu64) (ed_var 3) ed_int) (ss_one (st_setIt 2 (ed_ix (ed_lst (ad_cons ed_str (ad_cons ed_str (ad_cons ed_str (ad_cons ed_str (ad_cons ed_str (ad_cons ed_str (ad_cons ed_str (ad_cons ed_str (ad_cons ed_str ad_nil)))))))))) (ed_op od_mod (ed_ix (ed_var 1) ed_int) ed_int)) (ed_var 4))) (ss_one (st_if (td_cmp (od_eq hu64) (ed_var 3) ed_int) (ss_one (st_setIt 2 (ed_op od_add (ed_var 5) (ed_ix (ed_lst (ad_cons ed_str (ad_cons ed_str (ad_cons ed_str (ad_cons ed_str (ad_cons ed_str (ad_cons ed_str (ad_cons ed_str (ad_cons ed_str (ad_cons ed_str ad_nil)))))))))) (ed_op od_mod (ed_ix (ed_var 1) ed_int) ed_int))) (ed_var 4))) (ss_one (st_if (td_cmp (od_eq hu64) (ed_var 3) ed_int) (ss_one (st_own 2 sc__law_changed.nd (nd_sl (ld_own 2) od_none (od_some (ed_op od_mod (ed_ix (ed_var 1) ed_int) (ed_op od_add (ed_callBL cl_len rfl T.n_len bt_len (ld_own 2)) ed_int)))) rfl (by first | exact Or.inl rfl | exact Or.inr rfl))) (ss_one (st_setIt 2 (ed_ix (ed_lst (ad_cons ed_str (ad_cons ed_str (ad_cons ed_str (ad_cons ed_str (ad_cons ed_str (ad_cons ed_str ad_nil))))))) (ed_op od_mod (ed_ix (ed_var 1) ed_int) ed_int)) ed_int))))))))))))))))))))))) (ss_one (st_ret (ed_tupleL rfl T.n_tuple (ld_own 2)))))))))))))
theorem sc__law_forms : FnScope N__law_forms ["word"] (defScope s__law_forms) := ⟨rfl, rfl, rfl, by decide +kernel, rfl, by decide +kernel, by decide +kernel⟩
noncomputable def b__law_forms : SF := (seqS (ifS (asT (op2 dEq (vS 0) (kS "best"))) (retS (lstE (consA (kS "best") (consA (kS "point") (consA (kS "prices") nilA))))) nilS) (seqS (ifS (asT (op2 dEq (vS 0) (kS "barred"))) (retS (lstE (consA (kS "barred") (consA (kS "prices") nilA)))) nilS) (seqS (ifS (asT (op2 dEq (vS 0) (kS "endless"))) (retS (lstE (consA (kS "endless") (consA (kS "point") (consA (kS "ray") nilA))))) nilS) (retS (lstE nilA)))))
noncomputable def f__law_forms : List D → R D := fnD 1 1 b__law_forms
theorem d__law_forms (T : Txt P w K mg a) : DefD P w K mg base (L2N.CX P w) 3 "_law_forms" f__law_forms := by
  have ⟨f, fd, Fu, hm, hb⟩ := T.t__law_forms.ex
  have e : fnD (["word"] : List Str).length N__law_forms.length b__law_forms = f__law_forms := rfl
  rw [← e]
  refine defD (CX := (L2N.CX P w)) (P := P) (w := w) (base := base) (k := 2) (g := b__law_forms) Fu hm hb sc__law_forms (by decide) fun cdv A outer s H E hr => ?_
  have tk := L2N.takes_of (X := cxOf (L2N.CX P w) P w K mg base N__law_forms "_law_forms" (defScope s__law_forms) f cdv A outer s H E) (E := E) rfl rfl rfl rfl
  have hu64 := hr.units
  have hu65 := u65 hr
  have hrm := room2 hr
  exact (ss_cons (st_if (td_cmp (od_eq hu64) (ed_var 0) ed_str) (ss_one (st_ret (ed_lst (ad_cons ed_str (ad_cons ed_str (ad_cons ed_str ad_nil)))))) ss_nil) (ss_cons (st_if (td_cmp (od_eq hu64) (ed_var 0) ed_str) (ss_one (st_ret (ed_lst (ad_cons ed_str (ad_cons ed_str ad_nil))))) ss_nil) (ss_cons (st_if (td_cmp (od_eq hu64) (ed_var 0) ed_str) (ss_one (st_ret (ed_lst (ad_cons ed_str (ad_cons ed_str (ad_cons ed_str ad_nil)))))) ss_nil) (ss_one (st_ret (ed_lst ad_nil))))))
theorem sc__law_digits : FnScope N__law_digits ["text"] (defScope s__law_digits) := ⟨rfl, rfl, rfl, by decide +kernel, rfl, by decide +kernel, by decide +kernel⟩
noncomputable def b__law_digits : SF := (seqS (ifS (orT (asT (op2 dEq (vS 0) (kS ""))) (andT (asT (op2 dEq (op2 dIx (vS 0) (kI 0)) (kS "0"))) (asT (op2 dGt (calE dLen (consA (vS 0) nilA)) (kI 1))))) (retS (kB false)) nilS) (seqS (forS (unItE (vS 0)) (setN 1) (ifS (asT (op2 dNotIn (vS 1) (kS "0123456789"))) (retS (kB false)) nilS)) (retS (kB true))))
noncomputable def f__law_digits : List D → R D := fnD 1 2 b__law_digits
theorem d__law_digits (T : Txt P w K mg a) : DefD P w K mg base (L2N.CX P w) 3 "_law_digits" f__law_digits := by
  have ⟨f, fd, Fu, hm, hb⟩ := T.t__law_digits.ex
  have e : fnD (["text"] : List Str).length N__law_digits.length b__law_digits = f__law_digits := rfl
  rw [← e]
  refine defD (CX := (L2N.CX P w)) (P := P) (w := w) (base := base) (k := 2) (g := b__law_digits) Fu hm hb sc__law_digits (by decide) fun cdv A outer s H E hr => ?_
  have tk := L2N.takes_of (X := cxOf (L2N.CX P w) P w K mg base N__law_digits "_law_digits" (defScope s__law_digits) f cdv A outer s H E) (E := E) rfl rfl rfl rfl
  have hu64 := hr.units
  have hu65 := u65 hr
  have hrm := room2 hr
  exact (ss_cons (st_if (td_w (wd_or (td_cmp (od_eq hu64) (ed_var 0) ed_str) (wd_or1 (td_w (wd_and (td_cmp (od_eq hu64) (ed_ix (ed_var 0) ed_int) ed_str) (wd_and1 (td_cmp od_gt (ed_callB cd_len rfl T.n_len bt_len (ad_cons (ed_var 0) ad_nil)) ed_int))))))) (ss_one (st_ret ed_bl)) ss_nil) (ss_cons (st_for PassesOwn.leaving rfl (id_src (sd_ed (ed_var 0))) (gd_name 1 sc__law_digits.nd rfl (by first | exact Or.inl rfl | exact Or.inr rfl)) keepO_name (ss_one (st_if (td_cmp (od_notIn hu65) (ed_var 1) ed_str) (ss_one (st_ret ed_bl)) ss_nil))) (ss_one (st_ret ed_bl))))
theorem sc__law_read : FnScope N__law_read ["word"] (defScope s__law_read) := ⟨rfl, rfl, rfl, by decide +kernel, rfl, by decide +kernel, by decide +kernel⟩
noncomputable def b__law_read : SF := (seqS (asgS 1 (vS 0)) (seqS (ifS (asT (op2 dEq (slE (vS 0) pN (pS (kI 1))) (kS "-"))) (asgS 1 (slE (vS 0) (pS (kI 1)) pN)) nilS) (seqS (tgS (tupN 3 (consN (setN 2) (consN (setN 3) (consN (setN 4) nilN)))) (partE (vS 1) (kS "/"))) (seqS (ifS (asT (op2 dEq (vS 3) (kS ""))) (asgS 4 (kS "1")) (ifS (asT (op2 dEq (vS 4) (kS "1"))) (retS kN) nilS)) (seqS (ifS (orT (notT (asT (callE f__law_digits (consA (vS 2) nilA)))) (orT (notT (asT (callE f__law_digits (consA (vS 4) nilA)))) (orT (asT (op2 dEq (vS 4) (kS "0"))) (asT (op2 dEq (vS 0) (kS "-0")))))) (retS kN) nilS) (seqS (asgS 5 (tupE (consA (calE dInt (consA (vS 2) nilA)) (consA (calE dInt (consA (vS 4) nilA)) nilA)))) (seqS (ifS (asT (op2 dNe (callE f__law_fraction (consA (op2 dIx (vS 5) (kI 0)) (consA (op2 dIx (vS 5) (kI 1)) nilA))) (vS 5))) (retS kN) nilS) (seqS (ifS (asT (op2 dNe (vS 1) (vS 0))) (retS (tupE (consA (un1 dNeg (op2 dIx (vS 5) (kI 0))) (consA (op2 dIx (vS 5) (kI 1)) nilA)))) nilS) (retS (vS 5))))))))))
noncomputable def f__law_read : List D → R D := fnD 1 6 b__law_read
theorem d__law_read (T : Txt P w K mg a) : DefD P w K mg base (L2N.CX P w) 4 "_law_read" f__law_read := by
  have ⟨f, fd, Fu, hm, hb⟩ := T.t__law_read.ex
  have e : fnD (["word"] : List Str).length N__law_read.length b__law_read = f__law_read := rfl
  rw [← e]
  refine defD (CX := (L2N.CX P w)) (P := P) (w := w) (base := base) (k := 3) (g := b__law_read) Fu hm hb sc__law_read (by decide) fun cdv A outer s H E hr => ?_
  have tk := L2N.takes_of (X := cxOf (L2N.CX P w) P w K mg base N__law_read "_law_read" (defScope s__law_read) f cdv A outer s H E) (E := E) rfl rfl rfl rfl
  have hu64 := hr.units
  have hu65 := u65 hr
  have hrm := room2 hr
  exact (ss_cons (st_set 1 sc__law_read.nd (ed_var 0) rfl (by first | exact Or.inl rfl | exact Or.inr rfl)) (ss_cons (st_if (td_cmp (od_eq hu64) (ed_sl (ed_var 0) od_none (od_some ed_int)) ed_str) (ss_one (st_set 1 sc__law_read.nd (ed_sl (ed_var 0) (od_some ed_int) od_none) rfl (by first | exact Or.inl rfl | exact Or.inr rfl))) ss_nil) (ss_cons (st_tg (ed_part (ed_var 1) ed_str) (gd_tup 3 rfl (gsd_cons (gd_name 2 sc__law_read.nd rfl (by first | exact Or.inl rfl | exact Or.inr rfl)) (gsd_cons (gd_name 3 sc__law_read.nd rfl (by first | exact Or.inl rfl | exact Or.inr rfl)) (gsd_cons (gd_name 4 sc__law_read.nd rfl (by first | exact Or.inl rfl | exact Or.inr rfl)) gsd_nil)))) (keepO_tup (keepO_cons keepO_name (keepO_cons keepO_name (keepO_cons keepO_name keepO_nil))))) (ss_cons (st_if (td_cmp (od_eq hu64) (ed_var 3) ed_str) (ss_one (st_set 4 sc__law_read.nd ed_str rfl (by first | exact Or.inl rfl | exact Or.inr rfl))) (ss_one (st_if (td_cmp (od_eq hu64) (ed_var 4) ed_str) (ss_one (st_ret ed_non)) ss_nil))) (ss_cons (st_if (td_w (wd_or (td_not (td_val (ed_call (d__law_digits T) (hr.mono (by decide)) (fun σ => L2N.passAt tk σ) rfl (ad_cons (ed_var 2) ad_nil)))) (wd_or (td_not (td_val (ed_call (d__law_digits T) (hr.mono (by decide)) (fun σ => L2N.passAt tk σ) rfl (ad_cons (ed_var 4) ad_nil)))) (wd_or (td_cmp (od_eq hu64) (ed_var 4) ed_str) (wd_or1 (td_cmp (od_eq hu64) (ed_var 0) ed_str)))))) (ss_one (st_ret ed_non)) ss_nil) (ss_cons (st_set 5 sc__law_read.nd (ed_tup (ad_cons (ed_callTy cd_int rfl T.n_int bt_int (ad_cons (ed_var 2) ad_nil)) (ad_cons (ed_callTy cd_int rfl T.n_int bt_int (ad_cons (ed_var 4) ad_nil)) ad_nil))) rfl (by first | exact Or.inl rfl | exact Or.inr rfl)) (ss_cons (st_if (td_cmp (od_ne hu64) (ed_call (d__law_fraction T) (hr.mono (by decide)) (fun σ => L2N.passAt tk σ) rfl (ad_cons (ed_ix (ed_var 5) ed_int) (ad_cons (ed_ix (ed_var 5) ed_int) ad_nil))) (ed_var 5)) (ss_one (st_ret ed_non)) ss_nil) (ss_cons (st_if (td_cmp (od_ne hu64) (ed_var 1) (ed_var 0)) (ss_one (st_ret (ed_tup (ad_cons (ed_neg (ed_ix (ed_var 5) ed_int)) (ad_cons (ed_ix (ed_var 5) ed_int) ad_nil))))) ss_nil) (ss_one (st_ret (ed_var 5)))))))))))
theorem sc__law_reading : FnScope N__law_reading ["lines"] (defScope s__law_reading) := ⟨rfl, rfl, rfl, by decide +kernel, rfl, by decide +kernel, by decide +kernel⟩
noncomputable def b__law_reading : SF := (seqS (ifS (asT (op2 dEq (calE dLen (consA (vS 0) nilA)) (kI 0))) (retS (tupE (consA (kS "bad") (consA (kI 1) nilA)))) nilS) (seqS (asgS 1 (callE f__law_forms (consA (ixL (splitN (op2 dIx (vS 0) (kI 0)) (kS " ")) (kI 0)) nilA))) (seqS (ifS (asT (op2 dEq (calE dLen (consA (vS 1) nilA)) (kI 0))) (retS (tupE (consA (kS "bad") (consA (kI 1) nilA)))) nilS) (seqS (ownS 2 (lstN nilA)) (seqS (forS (rng1A (consA (calE dLen (consA (vS 1) nilA)) nilA)) (setN 3) (seqS (ifS (asT (op2 dGe (vS 3) (calE dLen (consA (vS 0) nilA)))) (retS (tupE (consA (kS "bad") (consA (op2 dAdd (vS 3) (kI 1)) nilA)))) nilS) (seqS (asgS 4 (ndE (splitN (op2 dIx (vS 0) (vS 3)) (kS " ")))) (seqS (asgS 5 (ndE (lcN (unItE (slE (vS 4) (pS (kI 1)) pN)) (setN 6) yesT (callE f__law_read (consA (vS 6) nilA)) [6]))) (seqS (ifS (orT (asT (op2 dNe (op2 dIx (vS 4) (kI 0)) (op2 dIx (vS 1) (vS 3)))) (asT (op2 dIn kN (vS 5)))) (retS (tupE (consA (kS "bad") (consA (op2 dAdd (vS 3) (kI 1)) nilA)))) nilS) (seqS (ifS (andT (asT (op2 dEq (vS 3) (kI 0))) (asT (op2 dNe (calE dLen (consA (vS 5) nilA)) (ifE (asT (op2 dEq (op2 dIx (vS 1) (kI 0)) (kS "best"))) (kI 1) (kI 0))))) (retS (tupE (consA (kS "bad") (consA (kI 1) nilA)))) nilS) (metS 2 mAppend (consA (un1 unTL (vS 5)) nilA)))))))) (seqS (ifS (asT (op2 dGt (calE dLen (consA (vS 0) nilA)) (calE dLen (consA (vS 1) nilA)))) (retS (tupE (consA (kS "bad") (consA (op2 dAdd (calE dLen (consA (vS 1) nilA)) (kI 1)) nilA)))) nilS) (retS (tupE (consA (op2 dIx (vS 1) (kI 0)) (consA (tupL (vO 2)) nilA))))))))))
noncomputable def f__law_reading : List D → R D := fnD 1 7 b__law_reading
theorem d__law_reading (T : Txt P w K mg a) : DefD P w K mg base (L2N.CX P w) 5 "_law_reading" f__law_reading := by
  have ⟨f, fd, Fu, hm, hb⟩ := T.t__law_reading.ex
  have e : fnD (["lines"] : List Str).length N__law_reading.length b__law_reading = f__law_reading := rfl
  rw [← e]
  refine defD (CX := (L2N.CX P w)) (P := P) (w := w) (base := base) (k := 4) (g := b__law_reading) Fu hm hb sc__law_reading (by decide) fun cdv A outer s H E hr => ?_
  have tk := L2N.takes_of (X := cxOf (L2N.CX P w) P w K mg base N__law_reading "_law_reading" (defScope s__law_reading) f cdv A outer s H E) (E := E) rfl rfl rfl rfl
  have hu64 := hr.units
  have hu65 := u65 hr
  have hrm := room2 hr
  exact (ss_cons (st_if (td_cmp (od_eq hu64) (ed_callB cd_len rfl T.n_len bt_len (ad_cons (ed_var 0) ad_nil)) ed_int) (ss_one (st_ret (ed_tup (ad_cons ed_str (ad_cons ed_int ad_nil))))) ss_nil) (ss_cons (st_set 1 sc__law_reading.nd (ed_call (d__law_forms T) (hr.mono (by decide)) (fun σ => L2N.passAt tk σ) rfl (ad_cons (ed_ixL (ld_nd (nd_split (ed_ix (ed_var 0) ed_int) ed_str)) ed_int) ad_nil)) rfl (by first | exact Or.inl rfl | exact Or.inr rfl)) (ss_cons (st_if (td_cmp (od_eq hu64) (ed_callB cd_len rfl T.n_len bt_len (ad_cons (ed_var 1) ad_nil)) ed_int) (ss_one (st_ret (ed_tup (ad_cons ed_str (ad_cons ed_int ad_nil))))) ss_nil) (ss_cons (st_own 2 sc__law_reading.nd (nd_lst ad_nil) rfl (by first | exact Or.inl rfl | exact Or.inr rfl)) (ss_cons (st_for PassesOwn.leaving rfl (id_range1 rfl T.n_range (ad_cons (ed_callB cd_len rfl T.n_len bt_len (ad_cons (ed_var 1) ad_nil)) ad_nil)) (gd_name 3 sc__law_reading.nd rfl (by first | exact Or.inl rfl | exact Or.inr rfl)) keepO_name (ss_cons (st_if (td_cmp od_ge (ed_var 3) (ed_callB cd_len rfl T.n_len bt_len (ad_cons (ed_var 0) ad_nil))) (ss_one (st_ret (ed_tup (ad_cons ed_str (ad_cons (ed_op od_add (ed_var 3) ed_int) ad_nil))))) ss_nil) (ss_cons (st_set 4 sc__law_reading.nd (ed_nd (nd_split (ed_ix (ed_var 0) (ed_var 3)) ed_str)) rfl (by first | exact Or.inl rfl | exact Or.inr rfl)) (ss_cons (st_lcD 5 (own := [("word", 6)]) rfl sc__law_reading.nd (id_src (sd_ed (ed_sl (ed_var 4) (od_some ed_int) od_none))) (show BlkOk N__law_reading (defScope s__law_reading) _ _ from ⟨rfl, by decide +kernel, by decide +kernel, by decide +kernel, by decide +kernel⟩) (fun _ _ _ _ _ => (gd_name 6 sc__law_reading.nd rfl (by first | exact Or.inl rfl | exact Or.inr rfl))) (fun _ _ _ _ _ => tsd_nil) (fun _ _ _ _ _ => (ed_call (d__law_read T) (hr.mono (by decide)) (fun _ => passFN) rfl (ad_cons (ed_var 6) ad_nil)))) (ss_cons (st_if (td_w (wd_or (td_cmp (od_ne hu64) (ed_ix (ed_var 4) ed_int) (ed_ix (ed_var 1) (ed_var 3))) (wd_or1 (td_cmp (od_in hu65) ed_non (ed_var 5))))) (ss_one (st_ret (ed_tup (ad_cons ed_str (ad_cons (ed_op od_add (ed_var 3) ed_int) ad_nil))))) ss_nil) (ss_cons (st_if (td_w (wd_and (td_cmp (od_eq hu64) (ed_var 3) ed_int) (wd_and1 (td_cmp (od_ne hu64) (ed_callB cd_len rfl T.n_len bt_len (ad_cons (ed_var 5) ad_nil)) (ed_if (td_cmp (od_eq hu64) (ed_ix (ed_var 1) ed_int) ed_str) ed_int ed_int))))) (ss_one (st_ret (ed_tup (ad_cons ed_str (ad_cons ed_int ad_nil))))) ss_nil) (ss_one (st_met 2 PySem.F.plainAttrs_list PySem.F.slot_list_append PySem.F.type_list_append mo_append (ad_cons (ed_tupleE rfl T.n_tuple (ed_var 5)) ad_nil))))))))) (ss_cons (st_if (td_cmp od_gt (ed_callB cd_len rfl T.n_len bt_len (ad_cons (ed_var 0) ad_nil)) (ed_callB cd_len rfl T.n_len bt_len (ad_cons (ed_var 1) ad_nil))) (ss_one (st_ret (ed_tup (ad_cons ed_str (ad_cons (ed_op od_add (ed_callB cd_len rfl T.n_len bt_len (ad_cons (ed_var 1) ad_nil)) ed_int) ad_nil))))) ss_nil) (ss_one (st_ret (ed_tup (ad_cons (ed_ix (ed_var 1) ed_int) (ad_cons (ed_tupleL rfl T.n_tuple (ld_own 2)) ad_nil)))))))))))
theorem sc__law_only_bad : FnScope N__law_only_bad ["lines"] (defScope s__law_only_bad) := ⟨rfl, rfl, rfl, by decide +kernel, rfl, by decide +kernel, by decide +kernel⟩
noncomputable def b__law_only_bad : SF := (seqS (tryA 1 is_ShowError (dropS (callE f_read_answer (consA (vS 0) nilA))) (fun ad cls dd => (retS (andE (exI ad cls dd is_BadText 1) (andE (exI ad cls dd is_ValueError 1) (notE (exI ad cls dd is_BadNumber 1))))))) (retS (kB false)))
noncomputable def f__law_only_bad : List D → R D := fnD 1 2 b__law_only_bad
theorem d__law_only_bad (T : Txt P w K mg a) : DefD P w K mg base (L2.CX P w) 8 "_law_only_bad" f__law_only_bad := by
  have ⟨f, fd, Fu, hm, hb⟩ := T.t__law_only_bad.ex
  have e : fnD (["lines"] : List Str).length N__law_only_bad.length b__law_only_bad = f__law_only_bad := rfl
  rw [← e]
  refine defD (CX := (L2.CX P w)) (P := P) (w := w) (base := base) (k := 7) (g := b__law_only_bad) Fu hm hb sc__law_only_bad (by decide) fun cdv A outer s H E hr => ?_
  have tk := L2.takes_of (X := cxOf (L2.CX P w) P w K mg base N__law_only_bad "_law_only_bad" (defScope s__law_only_bad) f cdv A outer s H E) (E := E) rfl rfl rfl rfl
  have hu64 := hr.units
  have hu65 := u65 hr
  have hrm := room2 hr
  exact (ss_cons (st_try_as 1 rfl rfl sc__law_only_bad.nd rfl rfl ⟨rfl, by decide, Or.inl T.g_ShowError⟩ T.h_ShowError tk (fun _ _ _ tk po => (ss_one (st_drop (ed_call (d_read_answer T) (hr.mono (by decide)) (fun σ => L2.passAt tk σ) rfl (ad_cons (ed_var 0) ad_nil))))) (fun ad oe cls dd _ hz hf => (ss_one (st_ret (ed_and (ed_exi 1 T.xi_BadText hz hf rfl T.n_isinstance bt_isi (pe_cls rfl T.g_BadText) (.own _)) (ed_and (ed_exi 1 T.xi_ValueError hz hf rfl T.n_isinstance bt_isi (pe_ty rfl T.n_ValueError bt_ValueError) (.ty _)) (ed_one (ed_not (ed_exi 1 T.xi_BadNumber hz hf rfl T.n_isinstance bt_isi (pe_cls rfl T.g_BadNumber) (.own _)))))))))) (ss_one (st_ret ed_bl)))
theorem sc_law : FnScope N_law ["script"] (defScope s_law) := ⟨rfl, rfl, rfl, by decide +kernel, rfl, by decide +kernel, by decide +kernel⟩
noncomputable def b_law : SF := (seqS (asgS 1 (callE f__law_draws (consA (vS 0) (consA (kI 0) (consA (kI 4) nilA))))) (seqS (ownS 2 (lstN (consA (op2 dMod (op2 dIx (vS 1) (kI 1)) (kI 21)) (consA (op2 dMod (op2 dIx (vS 1) (kI 2)) (kI 21)) nilA)))) (seqS (ifS (asT (op2 dEq (op2 dMod (op2 dIx (vS 1) (kI 3)) (kI 3)) (kI 0))) (setItS 2 (op2 dMod (op2 dDiv (op2 dIx (vS 1) (kI 3)) (kI 3)) (kI 2)) (kI 0)) nilS) (seqS (asgS 3 (callE f__law_number (consA (vS 0) (consA (kI 1) nilA)))) (seqS (asgS 4 (callE f__law_row (consA (vS 0) (consA (kI 2) (consA (ixL (vO 2) (kI 0)) nilA))))) (seqS (asgS 5 (callE f__law_row (consA (vS 0) (consA (kI 22) (consA (ixL (vO 2) (kI 1)) nilA))))) (seqS (asgS 6 (callE c_Barred (consA (vS 5) nilA))) (seqS (asgS 7 (tupE (consA (kS "barred") (consA (callE f__law_line (consA (kS "prices") (consA (vS 5) nilA))) nilA)))) (seqS (asgS 8 (tupE (consA (kS "barred") (consA (tupE (consA (tupE nilA) (consA (vS 5) nilA))) nilA)))) (seqS (ifS (asT (op2 dEq (op2 dMod (op2 dIx (vS 1) (kI 0)) (kI 3)) (kI 1))) (seqS (asgS 6 (callE c_Best (consA (vS 3) (consA (vS 4) (consA (vS 5) nilA))))) (seqS (asgS 7 (tupE (consA (callE f__law_line (consA (kS "best") (consA (lstE (consA (vS 3) nilA)) nilA))) (consA (callE f__law_line (consA (kS "point") (consA (vS 4) nilA))) (consA (callE f__law_line (consA (kS "prices") (consA (vS 5) nilA))) nilA))))) (asgS 8 (tupE (consA (kS "best") (consA (tupE (consA (tupE (consA (vS 3) nilA)) (consA (vS 4) (consA (vS 5) nilA)))) nilA)))))) nilS) (seqS (ifS (asT (op2 dEq (op2 dMod (op2 dIx (vS 1) (kI 0)) (kI 3)) (kI 2))) (seqS (asgS 6 (callE c_Endless (consA (vS 4) (consA (vS 5) nilA)))) (seqS (asgS 7 (tupE (consA (kS "endless") (consA (callE f__law_line (consA (kS "point") (consA (vS 4) nilA))) (consA (callE f__law_line (consA (kS "ray") (consA (vS 5) nilA))) nilA))))) (asgS 8 (tupE (consA (kS "endless") (consA (tupE (consA (tupE nilA) (consA (vS 4) (consA (vS 5) nilA)))) nilA)))))) nilS) (seqS (ifS (orT (notT (asT (callE (f__law_same 6) (consA (callE f_write_answer (consA (vS 6) nilA)) (consA (vS 7) nilA))))) (notT (asT (callE (f__law_same 6) (consA (callE f__law_told (consA (vS 7) nilA)) (consA (vS 8) nilA)))))) (retS (kB false)) nilS) (seqS (forS (rng1A (consA (kI 4) nilA)) (setN 9) (seqS (asgS 10 (callE f__law_draws (consA (vS 0) (consA (op2 dAdd (kI 44) (vS 9)) (consA (kI 11) nilA))))) (seqS (asgS 11 (callE f__law_changed (consA (vS 7) (consA (vS 10) nilA)))) (seqS (ifS (asT (op2 dEq (op2 dMod (op2 dIx (vS 10) (kI 5)) (kI 2)) (kI 0))) (asgS 11 (callE f__law_changed (consA (vS 11) (consA (slE (vS 10) (pS (kI 6)) pN) nilA)))) nilS) (seqS (asgS 12 (callE f__law_reading (consA (vS 11) nilA))) (seqS (ifS (notT (asT (callE (f__law_same 6) (consA (callE f__law_told (consA (vS 11) nilA)) (consA (vS 12) nilA))))) (retS (kB false)) nilS) (seqS (ifS (andT (asT (op2 dEq (op2 dIx (vS 12) (kI 0)) (kS "bad"))) (notT (asT (callE f__law_only_bad (consA (vS 11) nilA))))) (retS (kB false)) nilS) (ifS (andT (asT (op2 dNe (op2 dIx (vS 12) (kI 0)) (kS "bad"))) (notT (asT (callE (f__law_same 6) (consA (callE f_write_answer (consA (callE f_read_answer (consA (vS 11) nilA)) nilA)) (consA (vS 11) nilA)))))) (retS (kB false)) nilS)))))))) (retS (andE (callE (f__law_same 6) (consA (callE f__law_told (consA (tupE nilA) nilA)) (consA (tupE (consA (kS "bad") (consA (kI 1) nilA))) nilA))) (callE (f__law_same 6) (consA (callE f__law_told (consA (vS 7) nilA)) (consA (vS 8) nilA))))))))))))))))))
noncomputable def f_law : List D → R D := fnD 1 13 b_law
theorem d_law (T : Txt P w K mg a) : DefD P w K mg base (L2.CX P w) 10 "law" f_law := by
  have ⟨f, fd, Fu, hm, hb⟩ := T.t_law.ex
  have e : fnD (["script"] : List Str).length N_law.length b_law = f_law := rfl
  rw [← e]
  refine defD (CX := (L2.CX P w)) (P := P) (w := w) (base := base) (k := 9) (g := b_law) Fu hm hb sc_law (by decide) fun cdv A outer s H E hr => ?_
  have tk := L2.takes_of (X := cxOf (L2.CX P w) P w K mg base N_law "law" (defScope s_law) f cdv A outer s H E) (E := E) rfl rfl rfl rfl
  have hu64 := hr.units
  have hu65 := u65 hr
  have hrm := room2 hr
  exact (ss_cons (st_set 1 sc_law.nd (ed_call (d__law_draws T).up (hr.mono (by decide)) (fun σ => L2.passAt tk σ) rfl (ad_cons (ed_var 0) (ad_cons ed_int (ad_cons ed_int ad_nil)))) rfl (by first | exact Or.inl rfl | exact Or.inr rfl)) (ss_cons (st_own 2 sc_law.nd (nd_lst (ad_cons (ed_op od_mod (ed_ix (ed_var 1) ed_int) ed_int) (ad_cons (ed_op od_mod (ed_ix (ed_var 1) ed_int) ed_int) ad_nil))) rfl (by first | exact Or.inl rfl | exact Or.inr rfl)) (ss_cons (st_if (td_cmp (od_eq hu64) (ed_op od_mod (ed_ix (ed_var 1) ed_int) ed_int) ed_int) (ss_one (st_setIt 2 ed_int (ed_op od_mod (ed_op od_div (ed_ix (ed_var 1) ed_int) ed_int) ed_int))) ss_nil) (ss_cons (st_set 3 sc_law.nd (ed_call (d__law_number T).up (hr.mono (by decide)) (fun σ => L2.passAt tk σ) rfl (ad_cons (ed_var 0) (ad_cons ed_int ad_nil))) rfl (by first | exact Or.inl rfl | exact Or.inr rfl)) (ss_cons (st_set 4 sc_law.nd (ed_call (d__law_row T).up (hr.mono (by decide)) (fun σ => L2.passAt tk σ) rfl (ad_cons (ed_var 0) (ad_cons ed_int (ad_cons (ed_ixL (ld_own 2) ed_int) ad_nil)))) rfl (by first | exact Or.inl rfl | exact Or.inr rfl)) (ss_cons (st_set 5 sc_law.nd (ed_call (d__law_row T).up (hr.mono (by decide)) (fun σ => L2.passAt tk σ) rfl (ad_cons (ed_var 0) (ad_cons ed_int (ad_cons (ed_ixL (ld_own 2) ed_int) ad_nil)))) rfl (by first | exact Or.inl rfl | exact Or.inr rfl)) (ss_cons (st_set 6 sc_law.nd (ed_make (k_Barred T).up (hr.mono (by decide)) (fun σ => L2.passAt tk σ) rfl (ad_cons (ed_var 5) ad_nil)) rfl (by first | exact Or.inl rfl | exact Or.inr rfl)) (ss_cons (st_set 7 sc_law.nd (ed_tup (ad_cons ed_str (ad_cons (ed_call (d__law_line T).up (hr.mono (by decide)) (fun σ => L2.passAt tk σ) rfl (ad_cons ed_str (ad_cons (ed_var 5) ad_nil))) ad_nil))) rfl (by first | exact Or.inl rfl | exact Or.inr rfl)) (ss_cons (st_set 8 sc_law.nd (ed_tup (ad_cons ed_str (ad_cons (ed_tup (ad_cons (ed_tup ad_nil) (ad_cons (ed_var 5) ad_nil))) ad_nil))) rfl (by first | exact Or.inl rfl | exact Or.inr rfl)) (ss_cons (st_if (td_cmp (od_eq hu64) (ed_op od_mod (ed_ix (ed_var 1) ed_int) ed_int) ed_int) (ss_cons (st_set 6 sc_law.nd (ed_make (k_Best T).up (hr.mono (by decide)) (fun σ => L2.passAt tk σ) rfl (ad_cons (ed_var 3) (ad_cons (ed_var 4) (ad_cons (ed_var 5) ad_nil)))) rfl (by first | exact Or.inl rfl | exact Or.inr rfl)) (ss_cons (st_set 7 sc_law.nd (ed_tup (ad_cons (ed_call (d__law_line T).up (hr.mono (by decide)) (fun σ => L2.passAt tk σ) rfl (ad_cons ed_str (ad_cons (ed_lst (ad_cons (ed_var 3) ad_nil)) ad_nil))) (ad_cons (ed_call (d__law_line T).up (hr.mono (by decide)) (fun σ => L2.passAt tk σ) rfl (ad_cons ed_str (ad_cons (ed_var 4) ad_nil))) (ad_cons (ed_call (d__law_line T).up (hr.mono (by decide)) (fun σ => L2.passAt tk σ) rfl (ad_cons ed_str (ad_cons (ed_var 5) ad_nil))) ad_nil)))) rfl (by first | exact Or.inl rfl | exact Or.inr rfl)) (ss_one (st_set 8 sc_law.nd (ed_tup (ad_cons ed_str (ad_cons (ed_tup (ad_cons (ed_tup (ad_cons (ed_var 3) ad_nil)) (ad_cons (ed_var 4) (ad_cons (ed_var 5) ad_nil)))) ad_nil))) rfl (by first | exact Or.inl rfl | exact Or.inr rfl))))) ss_nil) (ss_cons (st_if (td_cmp (od_eq hu64) (ed_op od_mod (ed_ix (ed_var 1) ed_int) ed_int) ed_int) (ss_cons (st_set 6 sc_law.nd (ed_make (k_Endless T).up (hr.mono (by decide)) (fun σ => L2.passAt tk σ) rfl (ad_cons (ed_var 4) (ad_cons (ed_var 5) ad_nil))) rfl (by first | exact Or.inl rfl | exact Or.inr rfl)) (ss_cons (st_set 7 sc_law.nd (ed_tup (ad_cons ed_str (ad_cons (ed_call (d__law_line T).up (hr.mono (by decide)) (fun σ => L2.passAt tk σ) rfl (ad_cons ed_str (ad_cons (ed_var 4) ad_nil))) (ad_cons (ed_call (d__law_line T).up (hr.mono (by decide)) (fun σ => L2.passAt tk σ) rfl (ad_cons ed_str (ad_cons (ed_var 5) ad_nil))) ad_nil)))) rfl (by first | exact Or.inl rfl | exact Or.inr rfl)) (ss_one (st_set 8 sc_law.nd (ed_tup (ad_cons ed_str (ad_cons (ed_tup (ad_cons (ed_tup ad_nil) (ad_cons (ed_var 4) (ad_cons (ed_var 5) ad_nil)))) ad_nil))) rfl (by first | exact Or.inl rfl | exact Or.inr rfl))))) ss_nil) (ss_cons (st_if (td_w (wd_or (td_not (td_val (ed_call (d__law_same T 6).up (hr.mono (by decide)) (fun σ => L2.passAt tk σ) rfl (ad_cons (ed_call (d_write_answer T).up (hr.mono (by decide)) (fun σ => L2.passAt tk σ) rfl (ad_cons (ed_var 6) ad_nil)) (ad_cons (ed_var 7) ad_nil))))) (wd_or1 (td_not (td_val (ed_call (d__law_same T 6).up (hr.mono (by decide)) (fun σ => L2.passAt tk σ) rfl (ad_cons (ed_call (d__law_told T) (hr.mono (by decide)) (fun σ => L2.passAt tk σ) rfl (ad_cons (ed_var 7) ad_nil)) (ad_cons (ed_var 8) ad_nil)))))))) (ss_one (st_ret ed_bl)) ss_nil) (ss_cons (st_for PassesOwn.leaving rfl (id_range1 rfl T.n_range (ad_cons ed_int ad_nil)) (gd_name 9 sc_law.nd rfl (by first | exact Or.inl rfl | exact Or.inr rfl)) keepO_name (ss_cons (st_set 10 sc_law.nd (ed_call (d__law_draws T).up (hr.mono (by decide)) (fun σ => L2.passAt tk σ) rfl (ad_cons (ed_var 0) (ad_cons (ed_op od_add ed_int (ed_var 9)) (ad_cons ed_int ad_nil)))) rfl (by first | exact Or.inl rfl | exact Or.inr rfl)) (ss_cons (st_set 11 sc_law.nd (ed_call (d__law_changed T).up (hr.mono (by decide)) (fun σ => L2.passAt tk σ) rfl (ad_cons (ed_var 7) (ad_cons (ed_var 10) ad_nil))) rfl (by first | exact Or.inl rfl | exact Or.inr rfl)) (ss_cons (st_if (td_cmp (od_eq hu64) (ed_op od_mod (ed_ix (ed_var 10) ed_int) ed_int) ed_int) (ss_one (st_set 11 sc_law.nd (ed_call (d__law_changed T).up (hr.mono (by decide)) (fun σ => L2.passAt tk σ) rfl (ad_cons (ed_var 11) (ad_cons (ed_sl (ed_var 10) (od_some ed_int) od_none) ad_nil))) rfl (by first | exact Or.inl rfl | exact Or.inr rfl))) ss_nil) (ss_cons (st_set 12 sc_law.nd (ed_call (d__law_reading T).up (hr.mono (by decide)) (fun σ => L2.passAt tk σ) rfl (ad_cons (ed_var 11) ad_nil)) rfl (by first | exact Or.inl rfl | exact Or.inr rfl)) (ss_cons (st_if (td_not (td_val (ed_call (d__law_same T 6).up (hr.mono (by decide)) (fun σ => L2.passAt tk σ) rfl (ad_cons (ed_call (d__law_told T) (hr.mono (by decide)) (fun σ => L2.passAt tk σ) rfl (ad_cons (ed_var 11) ad_nil)) (ad_cons (ed_var 12) ad_nil))))) (ss_one (st_ret ed_bl)) ss_nil) (ss_cons (st_if (td_w (wd_and (td_cmp (od_eq hu64) (ed_ix (ed_var 12) ed_int) ed_str) (wd_and1 (td_not (td_val (ed_call (d__law_only_bad T) (hr.mono (by decide)) (fun σ => L2.passAt tk σ) rfl (ad_cons (ed_var 11) ad_nil))))))) (ss_one (st_ret ed_bl)) ss_nil) (ss_one (st_if (td_w (wd_and (td_cmp (od_ne hu64) (ed_ix (ed_var 12) ed_int) ed_str) (wd_and1 (td_not (td_val (ed_call (d__law_same T 6).up (hr.mono (by decide)) (fun σ => L2.passAt tk σ) rfl (ad_cons (ed_call (d_write_answer T).up (hr.mono (by decide)) (fun σ => L2.passAt tk σ) rfl (ad_cons (ed_call (d_read_answer T) (hr.mono (by decide)) (fun σ => L2.passAt tk σ) rfl (ad_cons (ed_var 11) ad_nil)) ad_nil)) (ad_cons (ed_var 11) ad_nil)))))))) (ss_one (st_ret ed_bl)) ss_nil))))))))) (ss_one (st_ret (ed_and (ed_call (d__law_same T 6).up (hr.mono (by decide)) (fun σ => L2.passAt tk σ) rfl (ad_cons (ed_call (d__law_told T) (hr.mono (by decide)) (fun σ => L2.passAt tk σ) rfl (ad_cons (ed_tup ad_nil) ad_nil)) (ad_cons (ed_tup (ad_cons ed_str (ad_cons ed_int ad_nil))) ad_nil))) (ed_one (ed_call (d__law_same T 6).up (hr.mono (by decide)) (fun σ => L2.passAt tk σ) rfl (ad_cons (ed_call (d__law_told T) (hr.mono (by decide)) (fun σ => L2.passAt tk σ) rfl (ad_cons (ed_var 7) ad_nil)) (ad_cons (ed_var 8) ad_nil))))))))))))))))))))
end K86
set_option Elab.async false
set_option linter.all false
set_option maxRecDepth 100000
set_option maxHeartbeats 4000000
set_option autoImplicit false
/-! Plain laws: stepping through printed words. -/
namespace PD
open PySem PySem.Spec L2
section
variable {f g : EF} {af : AF} {t : TF} {g1 g2 k : SF} {ρ ρ' : List Sl} {d : D} {i : Nat}
theorem seq_nx (h : g1 ρ = some (.nx ρ')) : seqS g1 k ρ = k ρ' := by unfold seqS; rw [h]
theorem seq_rt (h : g1 ρ = some (.rt d)) : seqS g1 k ρ = some (.rt d) := by unfold seqS; rw [h]
theorem seq_bk (h : g1 ρ = some (.bk ρ')) : seqS g1 k ρ = some (.bk ρ') := by unfold seqS; rw [h]
theorem seq_er {e : Exn} (h : g1 ρ = some (.er e ρ')) : seqS g1 k ρ = some (.er e ρ') := by unfold seqS; rw [h]
theorem if_T (h : t ρ = some (.ok true)) : ifS t g1 g2 ρ = g1 ρ := by unfold ifS thnS; rw [h]; rfl
theorem if_F (h : t ρ = some (.ok false)) : ifS t g1 g2 ρ = g2 ρ := by unfold ifS thnS; rw [h]; rfl
theorem seq_T (h : t ρ = some (.ok true)) : seqS (ifS t g1 g2) k ρ = seqS g1 k ρ := by unfold seqS; rw [if_T h]
theorem seq_F (h : t ρ = some (.ok false)) : seqS (ifS t g1 g2) k ρ = seqS g2 k ρ := by unfold seqS; rw [if_F h]
theorem seq_nil : seqS nilS k ρ = k ρ := rfl
theorem seq_seq : seqS (seqS g1 g2) k ρ = seqS g1 (seqS g2 k) ρ := by
  unfold seqS
  cases g1 ρ with
  | none => rfl
  | some o => cases o <;> rfl
theorem asg_of (h : f ρ = some (.ok d)) : asgS i f ρ = some (.nx (ρ.set i (.d d))) := by unfold asgS thnS; rw [h]
theorem seq_asg (h : f ρ = some (.ok d)) : seqS (asgS i f) k ρ = k (ρ.set i (.d d)) := seq_nx (asg_of h)
theorem ret_of (h : f ρ = some (.ok d)) : retS f ρ = some (.rt d) := by unfold retS thnS; rw [h]
theorem seq_ret (h : f ρ = some (.ok d)) : seqS (retS f) k ρ = some (.rt d) := seq_rt (ret_of h)
theorem own_of {l : List D} (h : af ρ = some (.ok l)) : ownS i af ρ = some (.nx (ρ.set i (.own l))) := by unfold ownS thnS; rw [h]
theorem seq_own {l : List D} (h : af ρ = some (.ok l)) : seqS (ownS i af) k ρ = k (ρ.set i (.own l)) := seq_nx (own_of h)
theorem for_of {l : List D} {h : D → List Sl → Option (List Sl)} (e : af ρ = some (.ok l)) : forS af h g1 ρ = forGo h g1 l ρ := by unfold forS thnS; rw [e]
theorem asT_of {b : Bool} (h : f ρ = some (.ok (.bl b))) : asT f ρ = some (.ok b) := by
  show bnd (f ρ) asB = _
  rw [h]
  rfl
theorem op_of {o : D → D → Option D} {a b c : D} (h1 : f ρ = some (.ok a)) (h2 : g ρ = some (.ok b)) (h : o a b = some c) : op2 o f g ρ = some (.ok c) := by
  unfold op2
  rw [h1, h2]
  show opt (o a b) = _
  rw [h]
  rfl
theorem un_of {o : D → Option D} {a c : D} (h1 : f ρ = some (.ok a)) (h : o a = some c) : un1 o f ρ = some (.ok c) := by
  unfold un1
  rw [h1]
  show opt (o a) = _
  rw [h]
  rfl
theorem cons_of {l : List D} (h1 : f ρ = some (.ok d)) (h2 : af ρ = some (.ok l)) : consA f af ρ = some (.ok (d :: l)) := by
  show bnd (f ρ) (fun d => bnd (af ρ) fun ds => ok (d :: ds)) = _
  rw [h1, h2]
  rfl
theorem cal_of {o : List D → Option D} {l : List D} (h1 : af ρ = some (.ok l)) (h : o l = some d) : calE o af ρ = some (.ok d) := by
  unfold calE
  rw [h1]
  show opt (o l) = _
  rw [h]
  rfl
theorem call_of {o : List D → R D} {l : List D} {r : R D} (h1 : af ρ = some (.ok l)) (h : o l = r) : callE o af ρ = r := by
  show bnd (af ρ) o = _
  rw [h1]
  exact h
theorem and_T {t2 : TF} (h : t ρ = some (.ok true)) : andT t t2 ρ = t2 ρ := by unfold andT; rw [h]; rfl
theorem and_F {t2 : TF} (h : t ρ = some (.ok false)) : andT t t2 ρ = some (.ok false) := by unfold andT; rw [h]; rfl
theorem or_T {t2 : TF} (h : t ρ = some (.ok true)) : orT t t2 ρ = some (.ok true) := by unfold orT; rw [h]; rfl
theorem or_F {t2 : TF} (h : t ρ = some (.ok false)) : orT t t2 ρ = t2 ρ := by unfold orT; rw [h]; rfl
theorem not_of {b : Bool} (h : t ρ = some (.ok b)) : notT t ρ = some (.ok (!b)) := by unfold notT; rw [h]; rfl
theorem and_of {t2 : TF} {b c : Bool} (h : t ρ = some (.ok b)) (h2 : b = true → t2 ρ = some (.ok c)) (e : b = false → c = false) : andT t t2 ρ = some (.ok c) := by
  cases b with
  | true => rw [and_T h, h2 rfl]
  | false => rw [and_F h, e rfl]
theorem mul_of {i j : Int} (h : -(2 ^ 64) < j ∧ j < 2 ^ 64) : dMul (.int i) (.int j) = some (.int (i * j)) := by
  show (if mulOk i j = true then some (D.int (i * j)) else none) = _
  rw [if_pos]
  unfold mulOk
  exact decide_eq_true (.inr (.inl h))
theorem mod_of {i j : Int} (h : 0 < j) : dMod (.int i) (.int j) = some (.int (i % j)) := by
  show (if 0 < j then some (D.int (i % j)) else none) = _
  rw [if_pos h]
theorem div_of {i j : Int} (h : 0 < j) (h2 : j.natAbs.log2 < 9000) : dDiv (.int i) (.int j) = some (.int (i / j)) := by
  show (if divOk j = true then some (D.int (i / j)) else none) = _
  rw [if_pos]
  unfold divOk
  exact decide_eq_true ⟨h, h2⟩
theorem atI_nat {α : Type} {xs : List α} {n : Nat} (h : n < xs.length) : atI xs (n : Int) = some (xs[n]'h) := by
  have e : ixN xs.length (n : Int) = some n := by
    unfold ixN
    simp
    omega
  unfold atI
  rw [e]
  simp [h]
end
end PD
namespace K86
open PySem PySem.Spec L2 PD
abbrev iL (l : List Int) : List D := l.map D.int
theorem ints_ix {S : List Int} {k : Nat} (h : k < S.length) : dIx (.fls (iL S)) (.int k) = some (.int (S[k]'h)) := by
  show atI (S.map D.int) (k : Int) = _
  rw [atI_nat (by simpa using h)]
  simp
theorem ints_ixT {S : List Int} {k : Nat} (h : k < S.length) : dIx (.tup (iL S)) (.int k) = some (.int (S[k]'h)) := ints_ix h
theorem x_cell (S : List Int) (k : Nat) : ∃ c : Int, 0 ≤ c ∧ f__law_cell [.fls (iL S), .int k] = some (.ok (.int c)) := by
  show ∃ c : Int, 0 ≤ c ∧ outR (b__law_cell [.d (.fls (iL S)), .d (.int k)]) = some (.ok (.int c))
  unfold b__law_cell
  have e : (asT (op2 dLt (vS 1) (calE dLen (consA (vS 0) nilA)))) [.d (.fls (iL S)), .d (.int k)] = some (.ok (decide ((k : Int) < S.length))) := by
    refine asT_of (op_of (a := .int k) (b := .int S.length) rfl ?_ rfl)
    refine cal_of (l := [.fls (iL S)]) rfl ?_
    show some (D.int ((iL S).length : Nat)) = _
    rw [List.length_map]
  by_cases h : k < S.length
  · rw [seq_T (by rw [e]; simpa using h)]
    rw [seq_ret (d := .int (if S[k] < 0 then -S[k] else S[k])) (cal_of (l := [.int S[k]]) (cons_of (cal_of (l := [.int S[k]]) (cons_of (op_of (a := .fls (iL S)) (b := .int k) rfl rfl (ints_ix h)) rfl) rfl) rfl) rfl)]
    refine ⟨_, ?_, rfl⟩
    split <;> omega
  · rw [seq_F (by rw [e]; simpa using h)]
    exact ⟨0, by omega, rfl⟩
end K86
set_option Elab.async false
set_option linter.all false
set_option maxRecDepth 100000
set_option maxHeartbeats 4000000
set_option autoImplicit false
namespace PD
open PySem PySem.Spec L2
section
variable {f g : EF} {af : AF} {t : TF} {g1 g2 k body : SF} {ρ ρ' ρ1 ρ2 : List Sl} {d : D} {i : Nat} {h : D → List Sl → Option (List Sl)} {r : List D}
theorem met_of {l ds l' : List D} {m : List D → List D → Option (List D)} (h1 : getO ρ i = some (.ok l)) (h2 : af ρ = some (.ok ds)) (h3 : m ds l = some l') : metS i m af ρ = some (.nx (ρ.set i (.own l'))) := by
  unfold metS
  rw [h1]
  show thnS (af ρ) ρ _ = _
  rw [h2]
  show (m ds l).map _ = _
  rw [h3]
  rfl
theorem app_of {l : List D} (h : l.length < 16777216) : mAppend [d] l = some (l ++ [d]) := by
  show (if l.length < 16777216 then some (l ++ [d]) else none) = _
  rw [if_pos h]
theorem go_nil : forGo h body [] ρ = some (.nx ρ) := rfl
theorem go_nx (h1 : h d ρ = some ρ1) (h2 : body ρ1 = some (.nx ρ2)) : forGo h body (d :: r) ρ = forGo h body r ρ2 := by
  show (match h d ρ with | none => none | some ρ1 => _) = _
  rw [h1]
  show (match body ρ1 with | some (.nx ρ2) => _ | some (.ct ρ2) => _ | some (.bk ρ2) => _ | o => o) = _
  rw [h2]
theorem go_bk (h1 : h d ρ = some ρ1) (h2 : body ρ1 = some (.bk ρ2)) : forGo h body (d :: r) ρ = some (.nx ρ2) := by
  show (match h d ρ with | none => none | some ρ1 => _) = _
  rw [h1]
  show (match body ρ1 with | some (.nx ρ2) => _ | some (.ct ρ2) => _ | some (.bk ρ2) => _ | o => o) = _
  rw [h2]
theorem go_rt {e : D} (h1 : h d ρ = some ρ1) (h2 : body ρ1 = some (.rt e)) : forGo h body (d :: r) ρ = some (.rt e) := by
  show (match h d ρ with | none => none | some ρ1 => _) = _
  rw [h1]
  show (match body ρ1 with | some (.nx ρ2) => _ | some (.ct ρ2) => _ | some (.bk ρ2) => _ | o => o) = _
  rw [h2]
theorem go_er {e : Exn} (h1 : h d ρ = some ρ1) (h2 : body ρ1 = some (.er e ρ2)) : forGo h body (d :: r) ρ = some (.er e ρ2) := by
  show (match h d ρ with | none => none | some ρ1 => _) = _
  rw [h1]
  show (match body ρ1 with | some (.nx ρ2) => _ | some (.ct ρ2) => _ | some (.bk ρ2) => _ | o => o) = _
  rw [h2]
theorem rng1_of {n : Nat} (h : n < 2 ^ 62) : rng1 [.int n] = some (.ok (rngD 0 n)) := by
  unfold rng1
  dsimp only
  rw [if_pos (by omega), Int.toNat_natCast]
theorem bnd_ok {α β : Type} {a : α} {f : α → R β} : bnd (some (.ok a)) f = f a := rfl
theorem rngA_of {n : Nat} (h : f ρ = some (.ok (.int n))) (hn : n < 2 ^ 62) : rng1A (consA f nilA) ρ = some (.ok (rngD 0 n)) := by
  show bnd (consA f nilA ρ) rng1 = _
  rw [cons_of (d := .int n) h rfl]
  rw [bnd_ok]
  exact rng1_of hn
theorem frz_own {l : List D} (e : ρ[i]? = some (.own l)) : frzS i k ρ = k (ρ.set i (.d (.lst l))) := by
  unfold frzS
  rw [e]
end
end PD
namespace K86
open PySem PySem.Spec L2 PD
theorem rng_ints (lo : Int) (n : Nat) : ∃ l : List Int, l.length = n ∧ rngD lo n = iL l := by
  refine ⟨(List.range n).map fun i => lo + (i : Nat), by simp, ?_⟩
  unfold rngD iL
  rw [List.map_map]
  rfl
def Dr (n : Nat) (xs : List Int) : Prop := xs.length = n ∧ ∀ x ∈ xs, 0 ≤ x ∧ x < 10007
noncomputable abbrev drB : SF := (ifS (andT (asT (vS 4)) (asT (op2 dGt (vS 3) (kI 0)))) (seqS (metS 5 mAppend (consA (op2 dMod (calE dInt (consA (vS 3) nilA)) (kI 10007)) nilA)) (asgS 3 (op2 dDiv (calE dInt (consA (vS 3) nilA)) (kI 10007)))) (seqS (asgS 7 (op2 dMod (calE dInt (consA (op2 dAdd (op2 dAdd (op2 dAdd (op2 dMul (callE f__law_cell (consA (vS 0) (consA (vS 1) nilA))) (kI 48271)) (op2 dMul (vS 1) (kI 69621))) (op2 dMul (vS 6) (kI 40692))) (kI 12345)) nilA)) (kI 2147483647))) (seqS (asgS 7 (op2 dMod (calE dInt (consA (op2 dAdd (op2 dAdd (op2 dAdd (op2 dMul (vS 7) (vS 7)) (op2 dMul (vS 7) (kI 16807))) (op2 dMul (vS 6) (kI 7919))) (vS 1)) nilA)) (kI 2147483399))) (seqS (asgS 7 (op2 dMod (calE dInt (consA (op2 dAdd (op2 dAdd (op2 dMul (vS 7) (vS 7)) (op2 dMul (vS 7) (kI 30269))) (kI 11)) nilA)) (kI 999999937))) (metS 5 mAppend (consA (op2 dMod (op2 dDiv (calE dInt (consA (vS 7) nilA)) (kI 7)) (kI 10007)) nilA))))))
abbrev drR (S : List Int) (k : Nat) (m c : Int) (g : Bool) (out : List Int) (s6 s7 : Sl) : List Sl := [.d (.fls (iL S)), .d (.int k), .d (.int m), .d (.int c), .d (.bl g), .own (iL out), s6, s7]
theorem seq_asg7 {f : EF} {k : SF} {ρ : List Sl} {d : D} {i : Nat} (h : f ρ = some (.ok d)) : seqS (asgS i f) k ρ = k (ρ.set i (.d d)) := seq_asg h
theorem x_drB (S : List Int) (k : Nat) (m c a : Int) (g : Bool) (out : List Int) (s7 : Sl) (hc : 0 ≤ c) (hl : out.length < 1000) :
    ∃ x c' s7', 0 ≤ x ∧ x < 10007 ∧ 0 ≤ c' ∧ drB (drR S k m c g out (.d (.int a)) s7) = some (.nx (drR S k m c' g (out ++ [x]) (.d (.int a)) s7')) := by
  have hol : (iL out).length < 16777216 := by rw [List.length_map]; omega
  have e : (andT (asT (vS 4)) (asT (op2 dGt (vS 3) (kI 0)))) (drR S k m c g out (.d (.int a)) s7) = some (.ok (g && decide (0 < c))) := by
    refine and_of (b := g) rfl (c := g && decide (0 < c)) (fun hg => ?_) (fun hg => by rw [hg]; rfl)
    rw [hg]
    rfl
  by_cases hh : (g && decide (0 < c)) = true
  · rw [hh] at e
    refine ⟨c % 10007, c / 10007, s7, Int.emod_nonneg _ (by decide), Int.emod_lt_of_pos _ (by decide), Int.ediv_nonneg hc (by decide), ?_⟩
    unfold drB
    rw [if_T e]
    rw [seq_nx (met_of (l := iL out) (ds := [.int (c % 10007)]) rfl (cons_of (op_of (a := .int c) (b := .int 10007) rfl rfl (mod_of (by decide))) rfl) (app_of hol))]
    rw [asg_of (op_of (a := .int c) (b := .int 10007) (c := .int (c / 10007)) rfl rfl (div_of (by decide) (by decide)))]
    simp [drR, iL]
  · have hh' : (g && decide (0 < c)) = false := by simpa using hh
    rw [hh'] at e
    unfold drB
    rw [if_F e]
    obtain ⟨v, hv0, hv⟩ := x_cell S k
    rw [seq_asg (op_of (a := .int (v * 48271 + k * 69621 + a * 40692 + 12345)) (b := .int 2147483647) (cal_of (l := [.int (v * 48271 + k * 69621 + a * 40692 + 12345)]) (cons_of (op_of (op_of (op_of (op_of (a := .int v) (b := .int 48271) (call_of (l := [.fls (iL S), .int k]) rfl hv) rfl (mul_of (by decide))) (op_of (a := .int k) (b := .int 69621) rfl rfl (mul_of (by decide))) rfl) (op_of (a := .int a) (b := .int 40692) rfl rfl (mul_of (by decide))) rfl) rfl rfl) rfl) rfl) rfl (mod_of (by decide)))]
    generalize e1 : (v * 48271 + k * 69621 + a * 40692 + 12345) % 2147483647 = m1
    have b1 : 0 ≤ m1 ∧ m1 < 2147483647 := by rw [← e1]; exact ⟨Int.emod_nonneg _ (by decide), Int.emod_lt_of_pos _ (by decide)⟩
    show ∃ x c' s7', 0 ≤ x ∧ x < 10007 ∧ 0 ≤ c' ∧ seqS _ _ [.d (.fls (iL S)), .d (.int k), .d (.int m), .d (.int c), .d (.bl g), .own (iL out), .d (.int a), .d (.int m1)] = _
    rw [seq_asg (op_of (a := .int (m1 * m1 + m1 * 16807 + a * 7919 + k)) (b := .int 2147483399) (cal_of (l := [.int (m1 * m1 + m1 * 16807 + a * 7919 + k)]) (cons_of (op_of (op_of (op_of (op_of (a := .int m1) (b := .int m1) rfl rfl (mul_of (by omega))) (op_of (a := .int m1) (b := .int 16807) rfl rfl (mul_of (by decide))) rfl) (op_of (a := .int a) (b := .int 7919) rfl rfl (mul_of (by decide))) rfl) rfl rfl) rfl) rfl) rfl (mod_of (by decide)))]
    generalize e2 : (m1 * m1 + m1 * 16807 + a * 7919 + k) % 2147483399 = m2
    have b2 : 0 ≤ m2 ∧ m2 < 2147483399 := by rw [← e2]; exact ⟨Int.emod_nonneg _ (by decide), Int.emod_lt_of_pos _ (by decide)⟩
    show ∃ x c' s7', 0 ≤ x ∧ x < 10007 ∧ 0 ≤ c' ∧ seqS _ _ [.d (.fls (iL S)), .d (.int k), .d (.int m), .d (.int c), .d (.bl g), .own (iL out), .d (.int a), .d (.int m2)] = _
    rw [seq_asg (op_of (a := .int (m2 * m2 + m2 * 30269 + 11)) (b := .int 999999937) (cal_of (l := [.int (m2 * m2 + m2 * 30269 + 11)]) (cons_of (op_of (op_of (op_of (a := .int m2) (b := .int m2) rfl rfl (mul_of (by omega))) (op_of (a := .int m2) (b := .int 30269) rfl rfl (mul_of (by decide))) rfl) rfl rfl) rfl) rfl) rfl (mod_of (by decide)))]
    generalize (m2 * m2 + m2 * 30269 + 11) % 999999937 = m3
    show ∃ x c' s7', 0 ≤ x ∧ x < 10007 ∧ 0 ≤ c' ∧ metS _ _ _ [.d (.fls (iL S)), .d (.int k), .d (.int m), .d (.int c), .d (.bl g), .own (iL out), .d (.int a), .d (.int m3)] = _
    refine ⟨m3 / 7 % 10007, c, .d (.int m3), Int.emod_nonneg _ (by decide), Int.emod_lt_of_pos _ (by decide), hc, ?_⟩
    rw [met_of (l := iL out) (ds := [.int (m3 / 7 % 10007)]) rfl (cons_of (op_of (a := .int (m3 / 7)) (b := .int 10007) (op_of (a := .int m3) (b := .int 7) rfl rfl (div_of (by decide) (by decide))) rfl (mod_of (by decide))) rfl) (app_of hol)]
    simp [drR, iL]
theorem x_drGo (S : List Int) (k : Nat) (m : Int) (g : Bool) : ∀ (l : List Int) (c : Int) (out : List Int) (s6 s7 : Sl), 0 ≤ c → out.length + l.length ≤ 1000 → (∀ x ∈ out, 0 ≤ x ∧ x < 10007) →
    ∃ c' out' s6' s7', Dr (out.length + l.length) out' ∧ forGo (setN 6) drB (iL l) (drR S k m c g out s6 s7) = some (.nx (drR S k m c' g out' s6' s7'))
  | [], c, out, s6, s7, hc, hl, ho => ⟨c, out, s6, s7, ⟨rfl, ho⟩, rfl⟩
  | a :: l, c, out, s6, s7, hc, hl, ho => by
    rw [List.length_cons] at hl
    obtain ⟨x, c1, s7', x0, x1, hc1, hb⟩ := x_drB S k m c a g out s7 hc (by omega)
    obtain ⟨c', out', s6', s7'', h1, h2⟩ := x_drGo S k m g l c1 (out ++ [x]) (.d (.int a)) s7' hc1 (by rw [List.length_append]; simp; omega) (fun y hy => by
      rcases List.mem_append.mp hy with h | h
      · exact ho y h
      · rw [List.mem_singleton.mp h]; exact ⟨x0, x1⟩)
    refine ⟨c', out', s6', s7'', ?_, ?_⟩
    · rw [List.length_append] at h1
      rw [List.length_cons]
      have e : out.length + (l.length + 1) = out.length + [x].length + l.length := by simp; omega
      rw [e]
      exact h1
    · show forGo (setN 6) drB (.int a :: iL l) _ = _
      rw [go_nx (ρ1 := drR S k m c g out (.d (.int a)) s7) rfl hb]
      exact h2
theorem x_draws (S : List Int) (k n : Nat) (hn : n ≤ 1000) : ∃ xs, Dr n xs ∧ f__law_draws [.fls (iL S), .int k, .int n] = some (.ok (.lst (iL xs))) := by
  show ∃ xs, Dr n xs ∧ outR (b__law_draws [.d (.fls (iL S)), .d (.int k), .d (.int n), .un, .un, .un, .un, .un]) = _
  obtain ⟨v, hv0, hv⟩ := x_cell S k
  unfold b__law_draws
  rw [seq_asg (d := .int v) (call_of (l := [.fls (iL S), .int k]) rfl hv)]
  rw [seq_asg (d := .bl (decide ((10 : Int) ^ 18 ≤ v))) (op_of (a := .int v) (b := .int (10 ^ 18)) rfl rfl rfl)]
  rw [seq_own (l := []) rfl]
  obtain ⟨l, h1, h2⟩ := rng_ints 0 n
  obtain ⟨c', out', s6', s7', h3, h4⟩ := x_drGo S k n (decide ((10 : Int) ^ 18 ≤ v)) l v [] .un .un hv0 (by simp; omega) (by simp)
  have e : forS (rng1A (consA (vS 2) nilA)) (setN 6) drB (drR S k n v (decide ((10 : Int) ^ 18 ≤ v)) [] .un .un) = some (.nx (drR S k n c' (decide ((10 : Int) ^ 18 ≤ v)) out' s6' s7')) := by
    rw [for_of (l := iL l)]
    · exact h4
    · rw [← h2]
      exact rngA_of (n := n) rfl (by omega)
  show ∃ xs, Dr n xs ∧ outR (seqS (forS (rng1A (consA (vS 2) nilA)) (setN 6) drB) _ (drR S k n v (decide ((10 : Int) ^ 18 ≤ v)) [] .un .un)) = _
  rw [seq_nx e]
  refine ⟨out', ?_, ?_⟩
  · rw [h1] at h3
    simpa using h3
  · rw [frz_own (l := iL out') rfl]
    rfl
/-! ### Euclid -/
abbrev eucB : SF := (seqS (ifS (asT (op2 dEq (vS 3) (kI 0))) bkS nilS) (seqS (asgS 5 (op2 dMod (calE dInt (consA (vS 2) nilA)) (vS 3))) (seqS (asgS 2 (vS 3)) (asgS 3 (vS 5)))))
abbrev eucR (t b : Int) (x y : Nat) (s4 s5 : Sl) : List Sl := [.d (.int t), .d (.int b), .d (.int x), .d (.int y), s4, s5]
theorem euc_stop (t b : Int) (x : Nat) (s4 s5 : Sl) : eucB (eucR t b x 0 s4 s5) = some (.bk (eucR t b x 0 s4 s5)) := by
  unfold eucB
  rw [seq_T (by rfl)]
  rfl
theorem euc_step (t b : Int) (x y : Nat) (s4 s5 : Sl) (hy : y ≠ 0) : ∃ s5', eucB (eucR t b x y s4 s5) = some (.nx (eucR t b y (x % y) s4 s5')) := by
  have e : (asT (op2 dEq (vS 3) (kI 0))) (eucR t b x y s4 s5) = some (.ok false) := by
    refine asT_of (op_of (a := .int y) (b := .int 0) rfl rfl ?_)
    show some (D.bl (decide ((y : Int) = 0))) = _
    rw [decide_eq_false (by omega)]
  refine ⟨.d (.int ((x % y : Nat) : Int)), ?_⟩
  unfold eucB
  rw [seq_F e, seq_nil]
  rw [seq_asg (op_of (a := .int x) (b := .int y) (c := .int ((x % y : Nat) : Int)) rfl rfl ?_)]
  · rfl
  · rw [mod_of (by omega)]
    rfl
theorem euc_go (t b : Int) : ∀ (k x y : Nat) (l : List D) (s4 s5 : Sl), y < 2 ^ k → 2 * k + 1 ≤ l.length → ∃ s4' s5', forGo (setN 4) eucB l (eucR t b x y s4 s5) = some (.nx (eucR t b (Nat.gcd x y) 0 s4' s5'))
  | k, x, 0, d :: l, s4, s5, hk, hl => ⟨.d d, s5, by
      rw [go_bk (ρ1 := eucR t b x 0 (.d d) s5) rfl (euc_stop _ _ _ _ _), Nat.gcd_zero_right]⟩
  | 0, x, y + 1, _, s4, s5, hk, hl => by simp at hk
  | k + 1, x, y + 1, [], s4, s5, hk, hl => by simp at hl
  | k + 1, x, y + 1, [_], s4, s5, hk, hl => by simp at hl
  | k + 1, x, y + 1, d :: d2 :: l, s4, s5, hk, hl => by
    obtain ⟨s5a, h1⟩ := euc_step t b x (y + 1) (.d d) s5 (by omega)
    rw [go_nx (ρ1 := eucR t b x (y + 1) (.d d) s5) rfl h1]
    by_cases hz : x % (y + 1) = 0
    · rw [hz]
      refine ⟨.d d2, s5a, ?_⟩
      rw [go_bk (ρ1 := eucR t b (y + 1 : Nat) 0 (.d d2) s5a) rfl (euc_stop _ _ _ _ _)]
      have : Nat.gcd x (y + 1) = y + 1 := by rw [Nat.gcd_comm, Nat.gcd_rec, hz, Nat.gcd_zero_left]
      rw [this]
    · obtain ⟨s5b, h2⟩ := euc_step t b (y + 1) (x % (y + 1)) (.d d2) s5a hz
      rw [go_nx (ρ1 := eucR t b (y + 1 : Nat) (x % (y + 1) : Nat) (.d d2) s5a) rfl h2]
      have hlt : (y + 1) % (x % (y + 1)) < 2 ^ k := by
        have a1 : x % (y + 1) < y + 1 := Nat.mod_lt _ (by omega)
        have a2 : (y + 1) % (x % (y + 1)) < x % (y + 1) := Nat.mod_lt _ (by omega)
        have a3 : (y + 1) % (x % (y + 1)) + x % (y + 1) ≤ y + 1 := by
          have := Nat.div_add_mod (y + 1) (x % (y + 1))
          have hq : 1 ≤ (y + 1) / (x % (y + 1)) := (Nat.le_div_iff_mul_le (by omega)).mpr (by omega)
          have : x % (y + 1) * 1 ≤ x % (y + 1) * ((y + 1) / (x % (y + 1))) := Nat.mul_le_mul_left _ hq
          omega
        rw [Nat.pow_succ] at hk
        omega
      obtain ⟨s4', s5', h3⟩ := euc_go t b k (x % (y + 1)) ((y + 1) % (x % (y + 1))) l (.d d2) s5b hlt (by simp at hl; omega)
      refine ⟨s4', s5', ?_⟩
      rw [h3]
      have : Nat.gcd (x % (y + 1)) ((y + 1) % (x % (y + 1))) = Nat.gcd x (y + 1) := by
        rw [Nat.gcd_comm x, Nat.gcd_rec (y + 1) x, Nat.gcd_rec (x % (y + 1)) (y + 1), Nat.gcd_comm]
      rw [this]
abbrev frac (t b : Int) : D := .tup [.int t, .int b]
theorem x_fraction (t : Int) (b : Nat) (hb : 0 < b) (hs : b < 2 ^ 4000) : f__law_fraction [.int t, .int b] = some (.ok (frac (t / (Nat.gcd t.natAbs b : Nat)) (b / (Nat.gcd t.natAbs b : Nat)))) := by
  show outR (b__law_fraction [.d (.int t), .d (.int b), .un, .un, .un, .un]) = _
  unfold b__law_fraction
  have e : (asT (op2 dLt (vS 1) (kI 0))) [.d (.int t), .d (.int b), .un, .un, .un, .un] = some (.ok false) := by
    refine asT_of (op_of (a := .int b) (b := .int 0) rfl rfl ?_)
    show some (D.bl (decide ((b : Int) < 0))) = _
    rw [decide_eq_false (by omega)]
  rw [seq_F e, seq_nil]
  rw [seq_asg (d := .int (t.natAbs : Nat)) (cal_of (l := [.int t]) rfl ?_)]
  · rw [seq_asg (d := .int b) rfl]
    obtain ⟨s4', s5', h⟩ := euc_go t b 4000 t.natAbs b (rngD 0 100000) .un .un hs (by rw [rngD_len]; omega)
    have e2 : forS (rng1A (consA (kI 100000) nilA)) (setN 4) eucB (eucR t b t.natAbs b .un .un) = some (.nx (eucR t b (Nat.gcd t.natAbs b) 0 s4' s5')) := by
      rw [for_of (l := rngD 0 100000)]
      · exact h
      · exact rngA_of (n := 100000) rfl (by omega)
    show outR (seqS (forS (rng1A (consA (kI 100000) nilA)) (setN 4) eucB) _ (eucR t b t.natAbs b .un .un)) = _
    rw [seq_nx e2]
    have hg : 0 < Nat.gcd t.natAbs b := Nat.gcd_pos_of_pos_right _ hb
    have hgl : Nat.gcd t.natAbs b ≤ b := Nat.le_of_dvd hb (Nat.gcd_dvd_right _ _)
    have hlog : ((Nat.gcd t.natAbs b : Nat) : Int).natAbs.log2 < 9000 := by
      rw [Int.natAbs_natCast]
      rw [Nat.log2_lt (by omega)]
      refine Nat.lt_of_lt_of_le (Nat.lt_of_le_of_lt hgl hs) ?_
      exact Nat.pow_le_pow_right (by decide) (by decide)
    rw [ret_of (d := frac (t / (Nat.gcd t.natAbs b : Nat)) (b / (Nat.gcd t.natAbs b : Nat)))]
    · rfl
    · show bnd _ tupR = _
      rw [cons_of (op_of (a := .int t) (b := .int (Nat.gcd t.natAbs b : Nat)) rfl rfl (div_of (by omega) hlog)) (cons_of (op_of (a := .int b) (b := .int (Nat.gcd t.natAbs b : Nat)) rfl rfl (div_of (by omega) hlog)) rfl)]
      rfl
  · show some (D.int (if t < 0 then -t else t)) = _
    congr 2
    split <;> omega
end K86
set_option Elab.async false
set_option linter.all false
set_option maxRecDepth 100000
set_option maxHeartbeats 4000000
set_option autoImplicit false
namespace K86
open PySem PySem.Spec L2 PD
theorem rng_intsB (n : Nat) : ∃ l : List Int, l.length = n ∧ rngD 0 n = iL l ∧ ∀ x ∈ l, 0 ≤ x ∧ x < n := by
  refine ⟨(List.range n).map fun i => (0 : Int) + (i : Nat), by simp, ?_, ?_⟩
  · unfold rngD iL
    rw [List.map_map]
    rfl
  · intro x hx
    obtain ⟨i, hi, rfl⟩ := List.mem_map.mp hx
    have := List.mem_range.mp hi
    omega
theorem ix_mem {xs : List Int} {i : Int} (h0 : 0 ≤ i) (h : i < xs.length) : ∃ v, v ∈ xs ∧ dIx (.lst (iL xs)) (.int i) = some (.int v) := by
  obtain ⟨k, rfl⟩ := Int.eq_ofNat_of_zero_le h0
  have hk : k < xs.length := by omega
  exact ⟨xs[k], List.getElem_mem hk, ints_ix hk⟩
/-- an index into the draws -/
theorem ev_ix {xs : List Int} {n : Nat} {f g : EF} {ρ : List Sl} {i : Int} (hd : Dr n xs) (hf : f ρ = some (.ok (.lst (iL xs)))) (hg : g ρ = some (.ok (.int i))) (h0 : 0 ≤ i) (h : i < n) : ∃ v : Int, 0 ≤ v ∧ v < 10007 ∧ op2 dIx f g ρ = some (.ok (.int v)) := by
  obtain ⟨v, hv, e⟩ := ix_mem (xs := xs) h0 (by rw [hd.1]; exact h)
  exact ⟨v, (hd.2 v hv).1, (hd.2 v hv).2, op_of hf hg e⟩
abbrev nuB : SF := (seqS (asgS 4 (op2 dAdd (op2 dMul (vS 4) (kI 10007)) (op2 dIx (vS 2) (op2 dAdd (kI 2) (vS 6))))) (asgS 5 (op2 dAdd (op2 dMul (vS 5) (kI 10007)) (op2 dIx (vS 2) (op2 dAdd (kI 12) (vS 6))))))
abbrev nuR (s0 s1 : Sl) (xs : List Int) (z t b : Int) (s6 : Sl) : List Sl := [s0, s1, .d (.lst (iL xs)), .d (.int z), .d (.int t), .d (.int b), s6]
theorem x_nuB (s0 s1 : Sl) {xs : List Int} (hd : Dr 24 xs) (z t b x : Int) (hx : 0 ≤ x ∧ x < 10) : ∃ u v : Int, 0 ≤ u ∧ u < 10007 ∧ 0 ≤ v ∧ v < 10007 ∧ nuB (nuR s0 s1 xs z t b (.d (.int x))) = some (.nx (nuR s0 s1 xs z (t * 10007 + u) (b * 10007 + v) (.d (.int x)))) := by
  obtain ⟨u, u0, u1, eu⟩ := ev_ix (f := vS 2) (g := op2 dAdd (kI 2) (vS 6)) (ρ := nuR s0 s1 xs z t b (.d (.int x))) (i := 2 + x) hd rfl (op_of rfl rfl rfl) (by omega) (by omega)
  obtain ⟨v, v0, v1, ev⟩ := ev_ix (f := vS 2) (g := op2 dAdd (kI 12) (vS 6)) (ρ := nuR s0 s1 xs z (t * 10007 + u) b (.d (.int x))) (i := 12 + x) hd rfl (op_of rfl rfl rfl) (by omega) (by omega)
  refine ⟨u, v, u0, u1, v0, v1, ?_⟩
  unfold nuB
  rw [seq_asg (d := .int (t * 10007 + u)) (op_of (op_of (a := .int t) (b := .int 10007) rfl rfl (mul_of (by decide))) eu rfl)]
  exact asg_of (op_of (op_of (a := .int b) (b := .int 10007) rfl rfl (mul_of (by decide))) ev rfl)
theorem x_nuGo (s0 s1 : Sl) {xs : List Int} (hd : Dr 24 xs) (z : Int) : ∀ (l : List Int) (j : Nat) (t b : Int) (s6 : Sl), (∀ x ∈ l, 0 ≤ x ∧ x < 10) → 0 ≤ t → t < 10007 ^ j → 0 ≤ b → b < 10007 ^ j →
    ∃ t' b' s6', 0 ≤ t' ∧ t' < 10007 ^ (j + l.length) ∧ 0 ≤ b' ∧ b' < 10007 ^ (j + l.length) ∧ forGo (setN 6) nuB (iL l) (nuR s0 s1 xs z t b s6) = some (.nx (nuR s0 s1 xs z t' b' s6'))
  | [], j, t, b, s6, hl, t0, t1, b0, b1 => ⟨t, b, s6, t0, t1, b0, b1, rfl⟩
  | x :: l, j, t, b, s6, hl, t0, t1, b0, b1 => by
    obtain ⟨u, v, u0, u1, v0, v1, e⟩ := x_nuB s0 s1 hd z t b x (hl x (List.mem_cons_self ..))
    have p : (10007 : Int) ^ (j + 1) = 10007 ^ j * 10007 := Int.pow_succ ..
    obtain ⟨t', b', s6', h1, h2, h3, h4, h5⟩ := x_nuGo s0 s1 hd z l (j + 1) (t * 10007 + u) (b * 10007 + v) (.d (.int x)) (fun y hy => hl y (List.mem_cons_of_mem _ hy)) (by omega) (by rw [p]; omega) (by omega) (by rw [p]; omega)
    refine ⟨t', b', s6', h1, ?_, h3, ?_, ?_⟩
    · rw [List.length_cons, show j + (l.length + 1) = j + 1 + l.length by omega]; exact h2
    · rw [List.length_cons, show j + (l.length + 1) = j + 1 + l.length by omega]; exact h4
    · show forGo (setN 6) nuB (.int x :: iL l) _ = _
      rw [go_nx (ρ1 := nuR s0 s1 xs z t b (.d (.int x))) rfl e]
      exact h5
/-- a number as the law draws it -/
def Nm (q : Int × Nat) : Prop := 0 < q.2 ∧ Nat.gcd q.1.natAbs q.2 = 1 ∧ q.1.natAbs < 10 ^ 41 ∧ q.2 < 10 ^ 41
abbrev qD (q : Int × Nat) : D := frac q.1 q.2
theorem gcd_red (t : Int) (b : Nat) (hb : 0 < b) : Nat.gcd (t / (Nat.gcd t.natAbs b : Nat)).natAbs (b / Nat.gcd t.natAbs b) = 1 := by
  have hg : 0 < Nat.gcd t.natAbs b := Nat.gcd_pos_of_pos_right _ hb
  have e : (t / (Nat.gcd t.natAbs b : Nat)).natAbs = t.natAbs / Nat.gcd t.natAbs b := by
    have hd : ((Nat.gcd t.natAbs b : Nat) : Int) ∣ t := by
      rw [← Int.dvd_natAbs]
      exact Int.natCast_dvd_natCast.mpr (Nat.gcd_dvd_left _ _)
    rw [Int.natAbs_ediv_of_dvd hd]
    rfl
  rw [e]
  rw [Nat.gcd_div (Nat.gcd_dvd_left _ _) (Nat.gcd_dvd_right _ _), Nat.div_self hg]
theorem x_frac_red (t : Int) (b : Nat) (hb : 0 < b) (ht : t.natAbs < 10 ^ 41) (hs : b < 10 ^ 41) : ∃ q, Nm q ∧ f__law_fraction [.int t, .int b] = some (.ok (qD q)) := by
  refine ⟨(t / (Nat.gcd t.natAbs b : Nat), b / Nat.gcd t.natAbs b), ?_, ?_⟩
  · have hg : 0 < Nat.gcd t.natAbs b := Nat.gcd_pos_of_pos_right _ hb
    have hgl : Nat.gcd t.natAbs b ≤ b := Nat.le_of_dvd hb (Nat.gcd_dvd_right _ _)
    refine ⟨Nat.div_pos hgl hg, gcd_red t b hb, ?_, Nat.lt_of_le_of_lt (Nat.div_le_self _ _) hs⟩
    have hd : ((Nat.gcd t.natAbs b : Nat) : Int) ∣ t := by
      rw [← Int.dvd_natAbs]
      exact Int.natCast_dvd_natCast.mpr (Nat.gcd_dvd_left _ _)
    show (t / (Nat.gcd t.natAbs b : Nat)).natAbs < _
    rw [Int.natAbs_ediv_of_dvd hd]
    exact Nat.lt_of_le_of_lt (Nat.div_le_self _ _) ht
  · rw [x_fraction t b hb (Nat.lt_trans hs (by decide +kernel))]
    rfl
theorem x_number (S : List Int) (k : Nat) : ∃ q, Nm q ∧ f__law_number [.fls (iL S), .int k] = some (.ok (qD q)) := by
  show ∃ q, Nm q ∧ outR (b__law_number [.d (.fls (iL S)), .d (.int k), .un, .un, .un, .un, .un]) = _
  obtain ⟨xs, hd, hx⟩ := x_draws S k 24 (by decide)
  have ix : ∀ (i : Int) (z t b : Sl) (s6 : Sl), 0 ≤ i → i < 24 → ∃ v : Int, 0 ≤ v ∧ v < 10007 ∧ op2 dIx (vS 2) (kI i) [.d (.fls (iL S)), .d (.int k), .d (.lst (iL xs)), z, t, b, s6] = some (.ok (.int v)) := fun i z t b s6 h0 h1 => ev_ix hd rfl rfl h0 h1
  unfold b__law_number
  rw [seq_asg (call_of (l := [.fls (iL S), .int k, .int 24]) rfl hx)]
  rw [seq_asg (d := .int 1) rfl]
  obtain ⟨x0, x00, x01, ex0⟩ := ix 0 (.d (.int 1)) .un .un .un (by decide) (by decide)
  obtain ⟨x1, x10, x11, ex1⟩ := ix 1 (.d (.int 1)) .un .un .un (by decide) (by decide)
  have hz : ∃ z : Int, 1 ≤ z ∧ z ≤ 10 ∧ ∀ kk : SF, seqS (ifS (asT (op2 dEq (op2 dMod (op2 dIx (vS 2) (kI 0)) (kI 4)) (kI 0))) (asgS 3 (op2 dAdd (kI 1) (op2 dMod (op2 dIx (vS 2) (kI 1)) (kI 10)))) nilS) kk [.d (.fls (iL S)), .d (.int k), .d (.lst (iL xs)), .d (.int 1), .un, .un, .un] =
      kk [.d (.fls (iL S)), .d (.int k), .d (.lst (iL xs)), .d (.int z), .un, .un, .un] := by
    have e : (asT (op2 dEq (op2 dMod (op2 dIx (vS 2) (kI 0)) (kI 4)) (kI 0))) [.d (.fls (iL S)), .d (.int k), .d (.lst (iL xs)), .d (.int 1), .un, .un, .un] = some (.ok (decide (x0 % 4 = 0))) :=
      asT_of (op_of (op_of (a := .int x0) (b := .int 4) ex0 rfl (mod_of (by decide))) rfl rfl)
    by_cases hh : x0 % 4 = 0
    · rw [decide_eq_true hh] at e
      refine ⟨1 + x1 % 10, by omega, by omega, fun kk => ?_⟩
      rw [seq_T e, seq_asg (d := .int (1 + x1 % 10)) (op_of (a := .int 1) rfl (op_of (a := .int x1) (b := .int 10) ex1 rfl (mod_of (by decide))) rfl)]
      rfl
    · rw [decide_eq_false hh] at e
      refine ⟨1, by omega, by omega, fun kk => ?_⟩
      rw [seq_F e, seq_nil]
  obtain ⟨z, z0, z1, hz⟩ := hz
  show ∃ q, Nm q ∧ outR (seqS _ _ [.d (.fls (iL S)), .d (.int k), .d (.lst (iL xs)), .d (.int 1), .un, .un, .un]) = _
  rw [hz]
  rw [seq_asg (d := .int 0) rfl, seq_asg (d := .int 0) rfl]
  obtain ⟨zn, rfl⟩ := Int.eq_ofNat_of_zero_le (show (0 : Int) ≤ z by omega)
  obtain ⟨l, l1, l2, l3⟩ := rng_intsB zn
  obtain ⟨t, b, s6, t0, t1, b0, b1, e⟩ := x_nuGo (.d (.fls (iL S))) (.d (.int k)) hd zn l 0 0 0 .un (fun x hx => by have := l3 x hx; omega) (by decide) (by decide) (by decide) (by decide)
  have e2 : forS (rng1A (consA (vS 3) nilA)) (setN 6) nuB (nuR (.d (.fls (iL S))) (.d (.int k)) xs zn 0 0 .un) = some (.nx (nuR (.d (.fls (iL S))) (.d (.int k)) xs zn t b s6)) := by
    rw [for_of (l := iL l)]
    · exact e
    · rw [← l2]
      exact rngA_of (n := zn) rfl (by omega)
  show ∃ q, Nm q ∧ outR (seqS (forS (rng1A (consA (vS 3) nilA)) (setN 6) nuB) _ (nuR (.d (.fls (iL S))) (.d (.int k)) xs zn 0 0 .un)) = _
  rw [seq_nx e2]
  have bd : (10007 : Int) ^ (0 + l.length) ≤ 10007 ^ 10 := by
    rw [Nat.zero_add, l1]
    have hz10 : zn ≤ 10 := by omega
    have h := Nat.pow_le_pow_right (show 0 < 10007 by decide) hz10
    have h' : ((10007 ^ zn : Nat) : Int) ≤ ((10007 ^ 10 : Nat) : Int) := Int.ofNat_le.mpr h
    rw [Int.natCast_pow, Int.natCast_pow] at h'
    exact h'
  have t2 : t < 10007 ^ 10 := Int.lt_of_lt_of_le t1 bd
  have b2 : b < 10007 ^ 10 := Int.lt_of_lt_of_le b1 bd
  clear e e2 t1 b1 bd hz
  -- small ones
  have sm : ∃ t' b' : Int, 0 ≤ t' ∧ t' < 10007 ^ 10 ∧ 0 ≤ b' ∧ b' < 10007 ^ 10 ∧ ∀ kk : SF, seqS (ifS (asT (op2 dEq (op2 dMod (op2 dIx (vS 2) (kI 0)) (kI 4)) (kI 1))) (seqS (asgS 4 (op2 dMod (calE dInt (consA (vS 4) nilA)) (kI 4))) (asgS 5 (op2 dMod (calE dInt (consA (vS 5) nilA)) (kI 3)))) nilS) kk (nuR (.d (.fls (iL S))) (.d (.int k)) xs zn t b s6) =
      kk (nuR (.d (.fls (iL S))) (.d (.int k)) xs zn t' b' s6) := by
    obtain ⟨x0, x00, x01, ex0⟩ := ix 0 (.d (.int zn)) (.d (.int t)) (.d (.int b)) s6 (by decide) (by decide)
    have e : (asT (op2 dEq (op2 dMod (op2 dIx (vS 2) (kI 0)) (kI 4)) (kI 1))) (nuR (.d (.fls (iL S))) (.d (.int k)) xs zn t b s6) = some (.ok (decide (x0 % 4 = 1))) :=
      asT_of (op_of (op_of (a := .int x0) (b := .int 4) ex0 rfl (mod_of (by decide))) rfl rfl)
    by_cases hh : x0 % 4 = 1
    · rw [decide_eq_true hh] at e
      refine ⟨t % 4, b % 3, by omega, by omega, by omega, by omega, fun kk => ?_⟩
      rw [seq_T e, seq_seq, seq_asg (d := .int (t % 4)) (op_of (a := .int t) (b := .int 4) rfl rfl (mod_of (by decide))), seq_asg (d := .int (b % 3)) (op_of (a := .int b) (b := .int 3) rfl rfl (mod_of (by decide)))]
      rfl
    · rw [decide_eq_false hh] at e
      exact ⟨t, b, t0, t2, b0, b2, fun kk => by rw [seq_F e, seq_nil]⟩
  obtain ⟨t, b, t0, t2, b0, b2, sm⟩ := sm
  rw [sm]
  have zb : ∃ b' : Int, 0 ≤ b' ∧ b' < 10007 ^ 10 ∧ ∀ kk : SF, seqS (ifS (asT (op2 dEq (op2 dMod (op2 dIx (vS 2) (kI 22)) (kI 3)) (kI 0))) (asgS 5 (kI 0)) nilS) kk (nuR (.d (.fls (iL S))) (.d (.int k)) xs zn t b s6) = kk (nuR (.d (.fls (iL S))) (.d (.int k)) xs zn t b' s6) := by
    obtain ⟨x0, x00, x01, ex0⟩ := ix 22 (.d (.int zn)) (.d (.int t)) (.d (.int b)) s6 (by decide) (by decide)
    have e : (asT (op2 dEq (op2 dMod (op2 dIx (vS 2) (kI 22)) (kI 3)) (kI 0))) (nuR (.d (.fls (iL S))) (.d (.int k)) xs zn t b s6) = some (.ok (decide (x0 % 3 = 0))) :=
      asT_of (op_of (op_of (a := .int x0) (b := .int 3) ex0 rfl (mod_of (by decide))) rfl rfl)
    by_cases hh : x0 % 3 = 0
    · rw [decide_eq_true hh] at e
      exact ⟨0, by decide, by decide, fun kk => by rw [seq_T e, seq_asg (d := .int 0) rfl]; rfl⟩
    · rw [decide_eq_false hh] at e
      exact ⟨b, b0, b2, fun kk => by rw [seq_F e, seq_nil]⟩
  obtain ⟨b, b0, b2, zb⟩ := zb
  rw [zb]
  have ng : ∃ t' : Int, t'.natAbs < 10007 ^ 10 ∧ ∀ kk : SF, seqS (ifS (asT (op2 dEq (op2 dMod (op2 dIx (vS 2) (kI 23)) (kI 2)) (kI 0))) (asgS 4 (un1 dNeg (vS 4))) nilS) kk (nuR (.d (.fls (iL S))) (.d (.int k)) xs zn t b s6) = kk (nuR (.d (.fls (iL S))) (.d (.int k)) xs zn t' b s6) := by
    obtain ⟨x0, x00, x01, ex0⟩ := ix 23 (.d (.int zn)) (.d (.int t)) (.d (.int b)) s6 (by decide) (by decide)
    have e : (asT (op2 dEq (op2 dMod (op2 dIx (vS 2) (kI 23)) (kI 2)) (kI 0))) (nuR (.d (.fls (iL S))) (.d (.int k)) xs zn t b s6) = some (.ok (decide (x0 % 2 = 0))) :=
      asT_of (op_of (op_of (a := .int x0) (b := .int 2) ex0 rfl (mod_of (by decide))) rfl rfl)
    by_cases hh : x0 % 2 = 0
    · rw [decide_eq_true hh] at e
      exact ⟨-t, by omega, fun kk => by rw [seq_T e, seq_asg (d := .int (-t)) rfl]; rfl⟩
    · rw [decide_eq_false hh] at e
      exact ⟨t, by omega, fun kk => by rw [seq_F e, seq_nil]⟩
  obtain ⟨t, t2, ng⟩ := ng
  rw [ng]
  obtain ⟨bn, rfl⟩ := Int.eq_ofNat_of_zero_le b0
  obtain ⟨q, hq, eq⟩ := x_frac_red t (1 + bn) (by omega) (by omega) (by omega)
  refine ⟨q, hq, ?_⟩
  rw [ret_of (d := qD q)]
  · rfl
  · refine call_of (l := [.int t, .int ((1 + bn : Nat) : Int)]) ?_ eq
    refine cons_of rfl (cons_of (op_of (a := .int 1) (b := .int bn) rfl rfl ?_) rfl)
    show some (D.int (1 + (bn : Int))) = _
    rw [Int.natCast_add]
    rfl
end K86
namespace PD
open PySem PySem.Spec L2
theorem lcGo_ex {β : Type} {P : β → Prop} {toD : β → D} {h : D → List Sl → Option (List Sl)} {f : EF} {ρ : List Sl} : ∀ (l : List D), (∀ x ∈ l, ∃ ρ1 q, h x ρ = some ρ1 ∧ P q ∧ f ρ1 = some (.ok (toD q))) →
    ∃ qs : List β, qs.length = l.length ∧ (∀ q ∈ qs, P q) ∧ lcGo h yesT f ρ l = some (qs.map toD)
  | [], _ => ⟨[], rfl, by simp, rfl⟩
  | x :: l, H => by
    obtain ⟨ρ1, q, h1, hp, h2⟩ := H x (List.mem_cons_self ..)
    obtain ⟨qs, e1, e2, e3⟩ := lcGo_ex l fun y hy => H y (List.mem_cons_of_mem _ hy)
    refine ⟨q :: qs, by simp [e1], fun y hy => ?_, ?_⟩
    · rcases List.mem_cons.mp hy with rfl | hy
      · exact hp
      · exact e2 y hy
    · unfold lcGo
      rw [h1]
      dsimp only
      rw [h2]
      dsimp only
      rw [e3]
      rfl
theorem lcGo_map {β : Type} {inD outD : β → D} {h : D → List Sl → Option (List Sl)} {f : EF} {ρ : List Sl} : ∀ (l : List β), (∀ x ∈ l, ∃ ρ1, h (inD x) ρ = some ρ1 ∧ f ρ1 = some (.ok (outD x))) → lcGo h yesT f ρ (l.map inD) = some (l.map outD)
  | [], _ => rfl
  | x :: l, H => by
    obtain ⟨ρ1, h1, h2⟩ := H x (List.mem_cons_self ..)
    have e3 := lcGo_map l fun y hy => H y (List.mem_cons_of_mem _ hy)
    rw [List.map_cons]
    unfold lcGo
    rw [h1]
    dsimp only
    rw [h2]
    dsimp only
    rw [e3]
    rfl
end PD
namespace K86
open PySem PySem.Spec L2 PD
theorem x_row (S : List Int) (k n : Nat) (hn : n ≤ 1000) : ∃ qs : List (Int × Nat), qs.length = n ∧ (∀ q ∈ qs, Nm q) ∧ f__law_row [.fls (iL S), .int k, .int n] = some (.ok (.tup (qs.map qD))) := by
  obtain ⟨l, l1, l2, l3⟩ := rng_intsB n
  have H : ∀ x ∈ iL l, ∃ ρ1 q, setN 3 x [.d (.fls (iL S)), .d (.int k), .d (.int n), .un] = some ρ1 ∧ Nm q ∧ (callE f__law_number (consA (vS 0) (consA (op2 dAdd (vS 1) (vS 3)) nilA))) ρ1 = some (.ok (qD q)) := by
    intro x hx
    obtain ⟨i, hi, rfl⟩ := List.mem_map.mp hx
    obtain ⟨i, rfl⟩ := Int.eq_ofNat_of_zero_le (l3 i hi).1
    obtain ⟨q, hq, e⟩ := x_number S (k + i)
    refine ⟨_, q, rfl, hq, ?_⟩
    refine call_of (l := [.fls (iL S), .int ((k + i : Nat) : Int)]) ?_ e
    exact cons_of rfl (cons_of (op_of (a := .int k) (b := .int i) rfl rfl rfl) rfl)
  obtain ⟨qs, q1, q2, q3⟩ := lcGo_ex _ H
  refine ⟨qs, by rw [q1, List.length_map, l1], q2, ?_⟩
  show outR (b__law_row [.d (.fls (iL S)), .d (.int k), .d (.int n), .un]) = _
  unfold b__law_row
  rw [ret_of (d := .tup (qs.map qD))]
  · rfl
  · show bnd (lcN _ _ _ _ _ _) _ = _
    unfold lcN
    rw [rngA_of (n := n) rfl (by omega), bnd_ok, if_pos (by rw [rngD_len]; omega), l2]
    show bnd (opt (lcGo (setN 3) yesT _ [.d (.fls (iL S)), .d (.int k), .d (.int n), .un] (iL l))) _ = _
    rw [q3]
    rfl
end K86
set_option Elab.async false
set_option linter.all false
set_option maxRecDepth 100000
set_option maxHeartbeats 4000000
set_option autoImplicit false
namespace PD
open PySem PySem.Spec L2
section
variable {f g : EF} {af : AF} {t t2 : TF} {g1 g2 k body : SF} {ρ ρ' ρ1 ρ2 : List Sl} {d : D} {i : Nat} {h : D → List Sl → Option (List Sl)} {r : List D}
theorem asg_er {e : Exn} (h : f ρ = some (.error e)) : asgS i f ρ = some (.er e ρ) := by unfold asgS thnS; rw [h]
theorem seq_asg_er {e : Exn} (h : f ρ = some (.error e)) : seqS (asgS i f) k ρ = some (.er e ρ) := seq_er (asg_er h)
theorem or_of {b c : Bool} (h1 : t ρ = some (.ok b)) (h2 : t2 ρ = some (.ok c)) : orT t t2 ρ = some (.ok (b || c)) := by
  cases b with
  | true => rw [or_T h1]; rfl
  | false => rw [or_F h1, h2]; rfl
theorem andd_of {b c : Bool} (h1 : t ρ = some (.ok b)) (h2 : t2 ρ = some (.ok c)) : andT t t2 ρ = some (.ok (b && c)) := by
  cases b with
  | true => rw [and_T h1, h2]; rfl
  | false => rw [and_F h1]; rfl
theorem raise1_of {x fn : Str} (h : f ρ = some (.ok d)) : raiseS x [fn] (one1 f) ρ = some (.er ⟨x, [fn], [d]⟩ ρ) := by
  unfold raiseS one1 thnS
  rw [h]
  rfl
theorem tg_of {d : D} (h1 : f ρ = some (.ok d)) (h2 : h d ρ = some ρ') : tgS h f ρ = some (.nx ρ') := by
  unfold tgS thnS
  rw [h1]
  dsimp only
  rw [h2]
  rfl
theorem dLen_str {s : Str} (h : s.length ≤ 16777216) : dLen [.str s] = some (.int s.length) := by
  show (if s.length ≤ 16777216 then some (D.int s.length) else none) = _
  rw [if_pos h]
theorem dSl_str {s : Str} {lo hi : Option Int} (h : s.length ≤ 16777216) : dSl (.str s) lo hi = some (.str (cutS s lo hi)) := by
  show (if s.length ≤ 16777216 then some (D.str (cutS s lo hi)) else none) = _
  rw [if_pos h]
theorem sl_of {fl fh : List Sl → R (Option Int)} {lo hi : Option Int} {d e : D} (h1 : f ρ = some (.ok d)) (h2 : fl ρ = some (.ok lo)) (h3 : fh ρ = some (.ok hi)) (h4 : dSl d lo hi = some e) : slE f fl fh ρ = some (.ok e) := by
  unfold slE
  rw [h1, bnd_ok, h2, bnd_ok, h3, bnd_ok, h4]
  rfl
end
end PD
namespace K86
open PySem PySem.Spec L2 PD TL
def dgB : List Nat → Bool
  | [] => false
  | c :: r => ((c :: r).all fun c => decide (48 ≤ c ∧ c ≤ 57)) && (decide (c ≠ 48) || r.isEmpty)
theorem dgB_cons (c : Nat) (r : List Nat) : dgB (c :: r) = (((c :: r).all fun c => decide (48 ≤ c ∧ c ≤ 57)) && (decide (c ≠ 48) || r.isEmpty)) := rfl
theorem dgB_all {l : List Nat} (h : dgB l = true) : NumText.AllDigits l ∧ l ≠ [] ∧ ∀ r, l = 48 :: r → r = [] := by
  cases l with
  | nil => cases h
  | cons c r =>
    unfold dgB at h
    rw [Bool.and_eq_true, List.all_eq_true] at h
    refine ⟨fun x hx => of_decide_eq_true (h.1 x hx), by simp, fun r' e => ?_⟩
    cases e
    simpa using h.2
theorem dgB_of {l : List Nat} (h1 : NumText.AllDigits l) (h2 : l ≠ []) (h3 : ∀ r, l = 48 :: r → r = []) : dgB l = true := by
  cases l with
  | nil => exact absurd rfl h2
  | cons c r =>
    unfold dgB
    rw [Bool.and_eq_true, List.all_eq_true]
    refine ⟨fun x hx => decide_eq_true (h1 x hx), ?_⟩
    by_cases hc : c = 48
    · subst hc
      rw [h3 r rfl]
      simp
    · simp [hc]
theorem num_head (n : Nat) (h : 0 < n) : ∀ r, numL n ≠ 48 :: r := by
  induction n using Nat.strongRecOn with
  | _ n ih =>
    intro r e
    by_cases hn : n < 10
    · rw [numL_lt hn] at e
      injection e with e1 e2
      omega
    · rw [numL_step (by omega)] at e
      have hne := numL_ne (n / 10)
      cases e2 : numL (n / 10) with
      | nil => exact hne e2
      | cons c q =>
        rw [e2] at e
        injection e with e3 e4
        exact ih (n / 10) (by omega) (by omega) q (by rw [e2, e3])
theorem dg_num (n : Nat) : dgB (numL n) = true := by
  refine dgB_of (numL_digits n) (numL_ne n) fun r e => ?_
  by_cases h : 0 < n
  · exact absurd e (num_head n h r)
  · have h0 : n = 0 := by omega
    subst h0
    rw [numL_lt (by decide)] at e
    injection e with e1 e2
    exact e2.symm
theorem val_snoc (l : List Nat) (c : Nat) : NumText.digitsVal (l ++ [c]) = NumText.digitsVal l * 10 + (c - 48) := by
  unfold NumText.digitsVal
  rw [List.foldl_append]
  rfl
theorem rev_ind {α : Type} {P : List α → Prop} (h0 : P []) (h1 : ∀ l x, P l → P (l ++ [x])) (l : List α) : P l := by
  have : ∀ m : List α, P m.reverse := fun m => by
    induction m with
    | nil => exact h0
    | cons x m ih => rw [List.reverse_cons]; exact h1 _ _ ih
  have h := this l.reverse
  rwa [List.reverse_reverse] at h
theorem num_dg (l : List Nat) : dgB l = true → numL (NumText.digitsVal l) = l := by
  refine rev_ind (P := fun l => dgB l = true → numL (NumText.digitsVal l) = l) (fun h => by cases h) (fun l c ih h => ?_) l
  obtain ⟨h1, h2, h3⟩ := dgB_all h
  have hc : 48 ≤ c ∧ c ≤ 57 := h1 c (by simp)
  rw [val_snoc]
  cases l with
  | nil =>
    show numL (0 * 10 + (c - 48)) = [c]
    rw [numL_lt (by omega)]
    congr 1
    omega
  | cons a r =>
    have ha : a ≠ 48 := fun z => by
      subst z
      have := h3 (r ++ [c]) rfl
      simp at this
    have hd : dgB (a :: r) = true := dgB_of (fun x hx => h1 x (List.mem_append_left _ hx)) (by simp) (fun q e => absurd (List.cons.inj e).1 ha)
    have e := ih hd
    have hp : 0 < NumText.digitsVal (a :: r) := by
      rcases Nat.eq_zero_or_pos (NumText.digitsVal (a :: r)) with z | z
      · rw [z, numL_lt (by decide)] at e
        injection e with e1 e2
        omega
      · exact z
    rw [numL_step (by omega)]
    have q1 : (NumText.digitsVal (a :: r) * 10 + (c - 48)) / 10 = NumText.digitsVal (a :: r) := by omega
    have q2 : 48 + (NumText.digitsVal (a :: r) * 10 + (c - 48)) % 10 = c := by omega
    rw [q1, q2, e]
theorem val_lt (l : List Nat) : NumText.AllDigits l → NumText.digitsVal l < 10 ^ l.length := by
  refine rev_ind (P := fun l => NumText.AllDigits l → NumText.digitsVal l < 10 ^ l.length) (fun _ => by decide) (fun l c ih h => ?_) l
  have hc : 48 ≤ c ∧ c ≤ 57 := h c (by simp)
  have := ih fun x hx => h x (List.mem_append_left _ hx)
  rw [val_snoc, List.length_append]
  show _ < 10 ^ (l.length + 1)
  rw [Nat.pow_succ]
  omega
abbrev vl (l : List Nat) : Nat := NumText.digitsVal l
theorem int_dg {s : Str} (h : dgB (tl s) = true) (hs : s.length ≤ 640) : dInt [.str s] = some (.int (vl (tl s))) := by
  obtain ⟨h1, h2, h3⟩ := dgB_all h
  show (if s.length ≤ 640 then (PySem.intText? s).map D.int else none) = _
  rw [if_pos hs, intText_digits h1 h2 (by omega)]
  rfl
theorem char_in (c : Nat) : dNotIn (.str ⟨#[c]⟩) (.str "0123456789") = some (.bl (!decide (48 ≤ c ∧ c ≤ 57))) := by
  show some (D.bl (!decide (c ∈ ("0123456789" : Str).cps.toList))) = _
  have e : ("0123456789" : Str).cps.toList = [48, 49, 50, 51, 52, 53, 54, 55, 56, 57] := by decide
  rw [e]
  have : (c ∈ [48, 49, 50, 51, 52, 53, 54, 55, 56, 57]) ↔ (48 ≤ c ∧ c ≤ 57) := by
    simp
    omega
  rw [decide_eq_decide.mpr this]
theorem str_eq (a b : Str) : dEq (.str a) (.str b) = some (.bl (decide (a = b))) := rfl
theorem s_eq {a : Str} {l : List Nat} {b : Str} (hb : tl b = l) : decide (a = b) = decide (tl a = l) := by
  refine decide_eq_decide.mpr ⟨fun h => by rw [h, hb], fun h => ext_tl (by rw [h, hb])⟩
theorem first_eq (s : Str) (c : Nat) (r : List Nat) (e : tl s = c :: r) (hs : s.length ≤ 640) : dIx (.str s) (.int 0) = some (.str ⟨#[c]⟩) := by
  show (if s.length ≤ 16777216 then (atI s.cps.toList 0).map fun c => D.str ⟨#[c]⟩ else none) = _
  rw [if_pos (by omega)]
  show (atI (tl s) ((0 : Nat) : Int)).map _ = _
  rw [e, PD.atI_nat (by simp)]
  rfl
theorem x_law_digits {s : Str} (hs : s.length ≤ 640) : f__law_digits [.str s] = some (.ok (.bl (dgB (tl s)))) := by
  show outR (b__law_digits [.d (.str s), .un]) = _
  unfold b__law_digits
  cases el : tl s with
  | nil =>
    have e : s = "" := ext_tl (by rw [el]; rfl)
    subst e
    rfl
  | cons c r =>
    have hlen : s.length = r.length + 1 := by rw [len_tl, el]; rfl
    have e0 : (asT (op2 dEq (vS 0) (kS ""))) [.d (.str s), .un] = some (.ok false) := by
      refine asT_of (op_of (a := .str s) (b := .str "") rfl rfl ?_)
      rw [str_eq, s_eq (l := []) rfl, el]
      rfl
    have e1 : (asT (op2 dEq (op2 dIx (vS 0) (kI 0)) (kS "0"))) [.d (.str s), .un] = some (.ok (decide (c = 48))) := by
      refine asT_of (op_of (a := .str ⟨#[c]⟩) (b := .str "0") (op_of (a := .str s) (b := .int 0) rfl rfl (first_eq s c r el hs)) rfl ?_)
      rw [str_eq, s_eq (l := [48]) (by decide)]
      have : (tl ⟨#[c]⟩ = [48]) ↔ c = 48 := by simp [tl]
      rw [decide_eq_decide.mpr this]
    have e2 : (asT (op2 dGt (calE dLen (consA (vS 0) nilA)) (kI 1))) [.d (.str s), .un] = some (.ok (!r.isEmpty)) := by
      refine asT_of (op_of (a := .int s.length) (b := .int 1) (cal_of (l := [.str s]) rfl (dLen_str (by omega))) rfl ?_)
      show some (D.bl (decide ((1 : Int) < (s.length : Int)))) = _
      rw [hlen]
      cases r with
      | nil => rfl
      | cons _ _ => simp; omega
    have eo := or_of e0 (andd_of e1 e2)
    rw [Bool.false_or] at eo
    cases hb : (decide (c = 48) && !r.isEmpty) with
    | true =>
      rw [hb] at eo
      rw [seq_T eo, seq_ret (d := .bl false) rfl]
      rw [Bool.and_eq_true] at hb
      have h48 := of_decide_eq_true hb.1
      have hre : r.isEmpty = false := by simpa using hb.2
      show some (Except.ok (D.bl false)) = _
      rw [dgB_cons, hre, h48]
      simp
    | false =>
      rw [hb] at eo
      rw [seq_F eo, seq_nil]
      have go : ∀ (l : List Nat) (s1 : Sl), (l.all (fun c => decide (48 ≤ c ∧ c ≤ 57)) = true → ∃ s1', forGo (setN 1) (ifS (asT (op2 dNotIn (vS 1) (kS "0123456789"))) (retS (kB false)) nilS) (l.map fun c => D.str ⟨#[c]⟩) [.d (.str s), s1] = some (.nx [.d (.str s), s1'])) ∧
          (l.all (fun c => decide (48 ≤ c ∧ c ≤ 57)) = false → forGo (setN 1) (ifS (asT (op2 dNotIn (vS 1) (kS "0123456789"))) (retS (kB false)) nilS) (l.map fun c => D.str ⟨#[c]⟩) [.d (.str s), s1] = some (.rt (.bl false))) := by
        intro l
        induction l with
        | nil => exact fun s1 => ⟨fun _ => ⟨s1, rfl⟩, fun h => (by cases h)⟩
        | cons a l ih =>
          intro s1
          have et : (asT (op2 dNotIn (vS 1) (kS "0123456789"))) [.d (.str s), .d (.str ⟨#[a]⟩)] = some (.ok (!decide (48 ≤ a ∧ a ≤ 57))) := asT_of (op_of (a := .str ⟨#[a]⟩) (b := .str "0123456789") rfl rfl (char_in a))
          cases ha : decide (48 ≤ a ∧ a ≤ 57) with
          | true =>
            rw [ha] at et
            rw [List.all_cons, ha, Bool.true_and, List.map_cons]
            rw [go_nx (ρ1 := [.d (.str s), .d (.str ⟨#[a]⟩)]) (ρ2 := [.d (.str s), .d (.str ⟨#[a]⟩)]) rfl (by rw [if_F et]; rfl)]
            exact ih _
          | false =>
            rw [ha] at et
            rw [List.all_cons, ha, Bool.false_and, List.map_cons]
            refine ⟨fun h => (by cases h), fun _ => ?_⟩
            exact go_rt (ρ1 := [.d (.str s), .d (.str ⟨#[a]⟩)]) rfl (by rw [if_T et]; rfl)
      have hd : dgB (c :: r) = (c :: r).all fun c => decide (48 ≤ c ∧ c ≤ 57) := by
        rw [dgB_cons]
        have : (decide (c ≠ 48) || r.isEmpty) = true := by
          cases hc : decide (c = 48) with
          | true =>
            rw [hc] at hb
            have := of_decide_eq_true hc
            simp at hb
            simp [hb]
          | false =>
            have := of_decide_eq_false hc
            simp [this]
        rw [this, Bool.and_true]
      have hf : forS (unItE (vS 0)) (setN 1) (ifS (asT (op2 dNotIn (vS 1) (kS "0123456789"))) (retS (kB false)) nilS) [.d (.str s), .un] = forGo (setN 1) (ifS (asT (op2 dNotIn (vS 1) (kS "0123456789"))) (retS (kB false)) nilS) ((tl s).map fun c => D.str ⟨#[c]⟩) [.d (.str s), .un] := for_of rfl
      rw [el] at hf
      rw [hd]
      cases ha : (c :: r).all fun c => decide (48 ≤ c ∧ c ≤ 57) with
      | true =>
        obtain ⟨s1', h⟩ := (go (c :: r) .un).1 ha
        rw [seq_nx (hf.trans h)]
        rfl
      | false =>
        have h := (go (c :: r) .un).2 ha
        rw [seq_rt (hf.trans h)]
        rfl
end K86
set_option Elab.async false
set_option linter.all false
set_option maxRecDepth 100000
set_option maxHeartbeats 4000000
set_option autoImplicit false
namespace K86
open PySem PySem.Spec L2 PD TL
abbrev badN (w : D) : Exn := ⟨"BadNumber", ["text"], [w]⟩
theorem ev_empty (s : Str) {f : EF} {ρ : List Sl} (hf : f ρ = some (.ok (.str s))) : (asT (op2 dEq f (kS ""))) ρ = some (.ok (tl s).isEmpty) := by
  refine asT_of (op_of (a := .str s) (b := .str "") hf rfl ?_)
  rw [str_eq, s_eq (l := []) rfl]
  cases tl s <;> rfl
theorem ev_first0 {s : Str} {c : Nat} {r : List Nat} (el : tl s = c :: r) (hs : s.length ≤ 640) {f : EF} {ρ : List Sl} (hf : f ρ = some (.ok (.str s))) : (asT (op2 dEq (op2 dIx f (kI 0)) (kS "0"))) ρ = some (.ok (decide (c = 48))) := by
  refine asT_of (op_of (a := .str ⟨#[c]⟩) (b := .str "0") (op_of (a := .str s) (b := .int 0) hf rfl (first_eq s c r el hs)) rfl ?_)
  rw [str_eq, s_eq (l := [48]) (by decide)]
  have : (tl ⟨#[c]⟩ = [48]) ↔ c = 48 := by simp [tl]
  rw [decide_eq_decide.mpr this]
theorem ev_len {s : Str} (hs : s.length ≤ 640) {f : EF} {ρ : List Sl} {n : Int} (hf : f ρ = some (.ok (.str s))) : (asT (op2 dGt (calE dLen (consA f nilA)) (kI n))) ρ = some (.ok (decide (n < (tl s).length))) := by
  refine asT_of (op_of (a := .int s.length) (b := .int n) (cal_of (l := [.str s]) (cons_of hf rfl) (dLen_str (by omega))) rfl ?_)
  show some (D.bl (decide (n < (s.length : Int)))) = _
  rw [len_tl]
theorem x_read_digits {s : Str} (hs : s.length ≤ 640) (w : D) : f_read_digits [.str s, w] = if dgB (tl s) = true then some (.ok (.int (vl (tl s)))) else some (.error (badN w)) := by
  show outR (b_read_digits [.d (.str s), .d w, .un]) = _
  unfold b_read_digits
  have h1 := or_of (ev_empty s (f := vS 0) (ρ := [.d (.str s), .d w, .un]) rfl) (ev_len (n := 4000) hs (f := vS 0) (ρ := [.d (.str s), .d w, .un]) rfl)
  rw [show decide ((4000 : Int) < (tl s).length) = false from decide_eq_false (by rw [← len_tl]; omega), Bool.or_false] at h1
  cases el : tl s with
  | nil =>
    rw [el] at h1
    rw [seq_T h1, seq_er (raise1_of (d := w) rfl)]
    rfl
  | cons c r =>
    rw [el] at h1
    rw [seq_F h1, seq_nil]
    have go : ∀ (l : List Nat) (s1 : Sl), (l.all (fun c => decide (48 ≤ c ∧ c ≤ 57)) = true → ∃ s1', forGo (setN 2) (ifS (asT (op2 dNotIn (vS 2) (kS "0123456789"))) (raiseS "BadNumber" ["text"] (one1 (vS 1))) nilS) (l.map fun c => D.str ⟨#[c]⟩) [.d (.str s), .d w, s1] = some (.nx [.d (.str s), .d w, s1'])) ∧
        (l.all (fun c => decide (48 ≤ c ∧ c ≤ 57)) = false → ∃ ρ', forGo (setN 2) (ifS (asT (op2 dNotIn (vS 2) (kS "0123456789"))) (raiseS "BadNumber" ["text"] (one1 (vS 1))) nilS) (l.map fun c => D.str ⟨#[c]⟩) [.d (.str s), .d w, s1] = some (.er (badN w) ρ')) := by
      intro l
      induction l with
      | nil => exact fun s1 => ⟨fun _ => ⟨s1, rfl⟩, fun h => (by cases h)⟩
      | cons a l ih =>
        intro s1
        have et : (asT (op2 dNotIn (vS 2) (kS "0123456789"))) [.d (.str s), .d w, .d (.str ⟨#[a]⟩)] = some (.ok (!decide (48 ≤ a ∧ a ≤ 57))) := asT_of (op_of (a := .str ⟨#[a]⟩) (b := .str "0123456789") rfl rfl (char_in a))
        cases ha : decide (48 ≤ a ∧ a ≤ 57) with
        | true =>
          rw [ha] at et
          rw [List.all_cons, ha, Bool.true_and, List.map_cons]
          rw [go_nx (ρ1 := [.d (.str s), .d w, .d (.str ⟨#[a]⟩)]) (ρ2 := [.d (.str s), .d w, .d (.str ⟨#[a]⟩)]) rfl (by rw [if_F et]; rfl)]
          exact ih _
        | false =>
          rw [ha] at et
          rw [List.all_cons, ha, Bool.false_and, List.map_cons]
          refine ⟨fun h => (by cases h), fun _ => ⟨[.d (.str s), .d w, .d (.str ⟨#[a]⟩)], ?_⟩⟩
          exact go_er (ρ1 := [.d (.str s), .d w, .d (.str ⟨#[a]⟩)]) rfl (by rw [if_T et]; exact raise1_of rfl)
    have hf : forS (unItE (vS 0)) (setN 2) (ifS (asT (op2 dNotIn (vS 2) (kS "0123456789"))) (raiseS "BadNumber" ["text"] (one1 (vS 1))) nilS) [.d (.str s), .d w, .un] = forGo (setN 2) (ifS (asT (op2 dNotIn (vS 2) (kS "0123456789"))) (raiseS "BadNumber" ["text"] (one1 (vS 1))) nilS) ((tl s).map fun c => D.str ⟨#[c]⟩) [.d (.str s), .d w, .un] := for_of rfl
    rw [el] at hf
    rw [dgB_cons]
    cases ha : (c :: r).all fun c => decide (48 ≤ c ∧ c ≤ 57) with
    | false =>
      obtain ⟨ρ', h⟩ := (go (c :: r) .un).2 ha
      rw [seq_er (hf.trans h)]
      rfl
    | true =>
      obtain ⟨s1', h⟩ := (go (c :: r) .un).1 ha
      rw [seq_nx (hf.trans h)]
      have e2 := andd_of (ev_first0 el hs (f := vS 0) (ρ := [.d (.str s), .d w, s1']) rfl) (ev_len (n := 1) hs (f := vS 0) (ρ := [.d (.str s), .d w, s1']) rfl)
      rw [el] at e2
      have er : decide ((1 : Int) < (c :: r).length) = !r.isEmpty := by
        cases r with
        | nil => rfl
        | cons _ _ => simp; omega
      rw [er] at e2
      rw [Bool.true_and]
      cases hb : (decide (c ≠ 48) || r.isEmpty) with
      | false =>
        have : (decide (c = 48) && !r.isEmpty) = true := by
          simp only [Bool.or_eq_false_iff, decide_eq_false_iff_not, Decidable.not_not] at hb
          simp [hb]
        rw [this] at e2
        rw [seq_T e2, seq_er (raise1_of (d := w) rfl)]
        rfl
      | true =>
        have : (decide (c = 48) && !r.isEmpty) = false := by
          simp at hb ⊢
          intro hc
          rcases hb with hb | hb
          · exact absurd hc hb
          · exact hb
        rw [this] at e2
        rw [seq_F e2, seq_nil]
        have hd : dgB (tl s) = true := by rw [el, dgB_cons, ha, hb]; rfl
        rw [ret_of (d := .int (vl (tl s))) (cal_of (l := [.str s]) rfl (int_dg hd hs))]
        rw [el]
        rfl
/-! ### the reading of a word, on signs -/
def rdP (l : List Nat) : Option (Nat × Nat) := match par [47] [] l with
  | none => if dgB l = true then some (vl l, 1) else none
  | some (a, b) => if dgB a = true ∧ dgB b = true ∧ 2 ≤ vl b ∧ Nat.gcd (vl a) (vl b) = 1 then some (vl a, vl b) else none
def rdN (l : List Nat) : Option (Int × Nat) := match rdP l with
  | some (a, b) => if a = 0 then none else some (-(a : Int), b)
  | none => none
def rd (l : List Nat) : Option (Int × Nat) := match l with
  | 45 :: r => rdN r
  | l => (rdP l).map fun p => ((p.1 : Int), p.2)
def qS (q : Option (Int × Nat)) (w : D) : R D := match q with
  | some q => some (.ok (qD q))
  | none => some (.error (badN w))
theorem par_parts {l a b : List Nat} (h : par [47] [] l = some (a, b)) : a.length + b.length + 1 = l.length := by
  have key : ∀ (l acc a b : List Nat), par [47] acc l = some (a, b) → a.length + b.length + 1 = acc.length + l.length := by
    intro l
    induction l with
    | nil => intro acc a b h; cases h
    | cons c r ih =>
      intro acc a b h
      cases hp : pre [47] (c :: r) with
      | true =>
        rw [par_hit hp] at h
        cases h
        simp
        omega
      | false =>
        rw [par_miss hp] at h
        have := ih _ _ _ h
        rw [List.length_append] at this
        simp at this ⊢
        omega
  have := key l [] a b h
  simpa using this
theorem tl_take1 (s : Str) (hs : s.length ≤ 640) : tl (cutS s none (some 1)) = (tl s).take 1 := by
  show ((tl s).drop 0).take (HT.sIx s.length s.length (some ((1 : Nat) : Int)) - 0) = _
  rw [HT.sIx_nat, List.drop_zero, len_tl]
  cases tl s with
  | nil => rfl
  | cons c r => simp
theorem tl_drop1 (s : Str) (hs : s.length ≤ 640) : tl (cutS s (some 1) none) = (tl s).drop 1 := by
  show ((tl s).drop (HT.sIx s.length 0 (some ((1 : Nat) : Int)))).take (HT.sIx s.length s.length none - HT.sIx s.length 0 (some ((1 : Nat) : Int))) = _
  rw [HT.sIx_nat, HT.sIx_none, len_tl]
  cases tl s with
  | nil => rfl
  | cons c r => simp
theorem ev_minus {s : Str} (hs : s.length ≤ 640) {f : EF} {ρ : List Sl} (hf : f ρ = some (.ok (.str s))) : (asT (op2 dEq (slE f pN (pS (kI 1))) (kS "-"))) ρ = some (.ok (decide ((tl s).head? = some 45))) := by
  refine asT_of (op_of (a := .str (cutS s none (some 1))) (b := .str "-") (sl_of hf rfl rfl (dSl_str (by omega))) rfl ?_)
  rw [str_eq, s_eq (l := [45]) (by decide), tl_take1 s hs]
  cases tl s with
  | nil => rfl
  | cons c r => simp
theorem ev_part {b : Str} (hb : b.length ≤ 640) {f : EF} {ρ : List Sl} (hf : f ρ = some (.ok (.str b))) : ∃ x y z : Str, partE f (kS "/") ρ = some (.ok (.tup [.str x, .str y, .str z])) ∧
    (par [47] [] (tl b) = none ∧ x = b ∧ y = Str.empty ∧ z = Str.empty ∨ ∃ u v, par [47] [] (tl b) = some (u, v) ∧ tl x = u ∧ y = "/" ∧ tl z = v) := by
  have e : partE f (kS "/") ρ = some (.ok (.tup [.str (Txt.partition b "/").1, .str (Txt.partition b "/").2.1, .str (Txt.partition b "/").2.2])) := by
    unfold partE
    rw [hf, bnd_ok]
    show bnd (some (Except.ok b)) (fun s => bnd (asS (.str ("/" : Str))) fun t => if (t.length == 0) = false ∧ s.length ≤ 16777216 then _ else _) = _
    rw [bnd_ok]
    show (if ((("/" : Str)).length == 0) = false ∧ b.length ≤ 16777216 then _ else _) = _
    rw [if_pos ⟨by decide, by omega⟩]
  refine ⟨_, _, _, e, ?_⟩
  have hp := partition_par b "/" (by decide)
  have ht : tl ("/" : Str) = [47] := by decide
  rw [ht] at hp
  cases hq : par [47] [] (tl b) with
  | none =>
    rw [hq] at hp
    rw [hp]
    exact .inl ⟨rfl, rfl, rfl, rfl⟩
  | some p =>
    obtain ⟨u, v⟩ := p
    rw [hq] at hp
    rw [hp]
    exact .inr ⟨u, v, rfl, rfl, rfl, rfl⟩
end K86
set_option Elab.async false
set_option linter.all false
set_option maxRecDepth 100000
set_option maxHeartbeats 4000000
set_option autoImplicit false
namespace K86
open PySem PySem.Spec L2 PD TL
def sgn (neg : Bool) (p : Option (Nat × Nat)) : Option (Int × Nat) := match neg, p with
  | true, some (a, b) => if a = 0 then none else some (-(a : Int), b)
  | false, some (a, b) => some ((a : Int), b)
  | _, none => none
theorem sgn_T (a b : Nat) : sgn true (some (a, b)) = if a = 0 then none else some (-(a : Int), b) := rfl
theorem rd_sgn {s b : Str} {neg : Bool} (h : decide ((tl s).head? = some 45) = neg) (hb : tl b = if neg = true then (tl s).drop 1 else tl s) : rd (tl s) = sgn neg (rdP (tl b)) := by
  cases neg with
  | true =>
    have h1 := of_decide_eq_true h
    rw [if_pos rfl] at hb
    cases e : tl s with
    | nil => rw [e] at h1; cases h1
    | cons c r =>
      rw [e] at h1 hb
      simp at h1
      subst h1
      have hb' : tl b = r := hb
      show rdN r = _
      rw [hb']
      unfold rdN sgn
      cases rdP r with
      | none => rfl
      | some p => rfl
  | false =>
    have h1 := of_decide_eq_false h
    rw [if_neg (by decide)] at hb
    rw [hb]
    cases e : tl s with
    | nil => rfl
    | cons c r =>
      rw [e] at h1
      have hc : c ≠ 45 := fun z => h1 (by rw [z]; rfl)
      have : rd (c :: r) = (rdP (c :: r)).map fun p => ((p.1 : Int), p.2) := by
        unfold rd
        split
        · rename_i r' e2
          injection e2 with e3 e4
          exact absurd e3 hc
        · rfl
      rw [this]
      unfold sgn
      cases rdP (c :: r) with
      | none => rfl
      | some p => rfl
abbrev rrE : SF := (seqS (ifS (asT (op2 dEq (slE (vS 0) pN (pS (kI 1))) (kS "-"))) (seqS (ifS (asT (op2 dEq (vS 5) (kI 0))) (raiseS "BadNumber" ["text"] (one1 (vS 0))) nilS) (retS (tupE (consA (un1 dNeg (vS 5)) (consA (vS 6) nilA))))) nilS) (retS (tupE (consA (vS 5) (consA (vS 6) nilA)))))
noncomputable abbrev rrK : SF := (seqS (tgS (tupN 3 (consN (setN 2) (consN (setN 3) (consN (setN 4) nilN)))) (partE (vS 1) (kS "/"))) (seqS (asgS 5 (callE f_read_digits (consA (vS 2) (consA (vS 0) nilA)))) (seqS (asgS 6 (kI 1)) (seqS (ifS (asT (op2 dEq (vS 3) (kS "/"))) (seqS (asgS 6 (callE f_read_digits (consA (vS 4) (consA (vS 0) nilA)))) (ifS (orT (asT (op2 dLt (vS 6) (kI 2))) (asT (op2 dNe (calE dGcd (consA (vS 5) (consA (vS 6) nilA))) (kI 1)))) (raiseS "BadNumber" ["text"] (one1 (vS 0))) nilS)) nilS) rrE))))
theorem ev_nat0 {n : Nat} {f : EF} {ρ : List Sl} (hf : f ρ = some (.ok (.int n))) : (asT (op2 dEq f (kI 0))) ρ = some (.ok (decide (n = 0))) := by
  refine asT_of (op_of (a := .int n) (b := .int 0) hf rfl ?_)
  show some (D.bl (decide ((n : Int) = 0))) = _
  rw [decide_eq_decide.mpr (show (n : Int) = 0 ↔ n = 0 by omega)]
theorem x_rrE {s : Str} (hs : s.length ≤ 640) {neg : Bool} (h : decide ((tl s).head? = some 45) = neg) (s1 s2 s3 s4 : Sl) (a b : Nat) : outR (rrE [.d (.str s), s1, s2, s3, s4, .d (.int a), .d (.int b)]) = qS (sgn neg (some (a, b))) (.str s) := by
  unfold rrE
  have e := ev_minus hs (f := vS 0) (ρ := [.d (.str s), s1, s2, s3, s4, .d (.int a), .d (.int b)]) rfl
  rw [h] at e
  cases neg with
  | false =>
    rw [seq_F e, seq_nil]
    rfl
  | true =>
    rw [seq_T e, seq_seq]
    have e2 := ev_nat0 (n := a) (f := vS 5) (ρ := [.d (.str s), s1, s2, s3, s4, .d (.int a), .d (.int b)]) rfl
    by_cases ha : a = 0
    · rw [decide_eq_true ha] at e2
      rw [seq_T e2, seq_er (raise1_of (d := .str s) rfl)]
      rw [sgn_T, if_pos ha]
      rfl
    · rw [decide_eq_false ha] at e2
      rw [seq_F e2, seq_nil]
      rw [sgn_T, if_neg ha]
      rfl
theorem x_rrK {s b : Str} (hs : s.length ≤ 640) (hb : b.length ≤ 640) {neg : Bool} (h : decide ((tl s).head? = some 45) = neg) : outR (rrK [.d (.str s), .d (.str b), .un, .un, .un, .un, .un]) = qS (sgn neg (rdP (tl b))) (.str s) := by
  obtain ⟨x, y, z, ep, hc⟩ := ev_part hb (f := vS 1) (ρ := [.d (.str s), .d (.str b), .un, .un, .un, .un, .un]) rfl
  unfold rrK
  rw [seq_nx (tg_of ep rfl)]
  show outR (seqS _ _ [.d (.str s), .d (.str b), .d (.str x), .d (.str y), .d (.str z), .un, .un]) = _
  rcases hc with ⟨hp, rfl, rfl, rfl⟩ | ⟨u, v, hp, rfl, rfl, rfl⟩
  · unfold rdP
    rw [hp]
    dsimp only
    have ec : callE f_read_digits (consA (vS 2) (consA (vS 0) nilA)) [.d (.str s), .d (.str x), .d (.str x), .d (.str Str.empty), .d (.str Str.empty), .un, .un] = _ := call_of (l := [.str x, .str s]) rfl (x_read_digits hb (.str s))
    by_cases hd : dgB (tl x) = true
    · rw [if_pos hd] at ec ⊢
      rw [seq_asg ec, seq_asg (d := .int 1) rfl]
      dsimp only [List.set]
      rw [seq_F (show (asT (op2 dEq (vS 3) (kS "/"))) [.d (.str s), .d (.str x), .d (.str x), .d (.str Str.empty), .d (.str Str.empty), .d (.int (vl (tl x))), .d (.int 1)] = some (.ok false) by rfl), seq_nil]
      exact x_rrE hs h _ _ _ _ (vl (tl x)) 1
    · rw [if_neg hd] at ec ⊢
      rw [seq_asg_er ec]
      cases neg <;> rfl
  · have hl := par_parts hp
    have hx : x.length ≤ 640 := by rw [len_tl]; rw [len_tl] at hb; omega
    have hz : z.length ≤ 640 := by rw [len_tl]; rw [len_tl] at hb; omega
    unfold rdP
    rw [hp]
    dsimp only
    have ec : callE f_read_digits (consA (vS 2) (consA (vS 0) nilA)) [.d (.str s), .d (.str b), .d (.str x), .d (.str "/"), .d (.str z), .un, .un] = _ := call_of (l := [.str x, .str s]) rfl (x_read_digits hx (.str s))
    by_cases hd : dgB (tl x) = true
    · rw [if_pos hd] at ec
      rw [seq_asg ec, seq_asg (d := .int 1) rfl]
      dsimp only [List.set]
      rw [seq_T (show (asT (op2 dEq (vS 3) (kS "/"))) [.d (.str s), .d (.str b), .d (.str x), .d (.str "/"), .d (.str z), .d (.int (vl (tl x))), .d (.int 1)] = some (.ok true) by rfl), seq_seq]
      have ec2 : callE f_read_digits (consA (vS 4) (consA (vS 0) nilA)) [.d (.str s), .d (.str b), .d (.str x), .d (.str "/"), .d (.str z), .d (.int (vl (tl x))), .d (.int 1)] = _ := call_of (l := [.str z, .str s]) rfl (x_read_digits hz (.str s))
      by_cases hd2 : dgB (tl z) = true
      · rw [if_pos hd2] at ec2
        rw [seq_asg ec2]
        show outR (seqS _ _ [.d (.str s), .d (.str b), .d (.str x), .d (.str "/"), .d (.str z), .d (.int (vl (tl x))), .d (.int (vl (tl z)))]) = _
        have e1 : (asT (op2 dLt (vS 6) (kI 2))) [.d (.str s), .d (.str b), .d (.str x), .d (.str "/"), .d (.str z), .d (.int (vl (tl x))), .d (.int (vl (tl z)))] = some (.ok (decide (vl (tl z) < 2))) := by
          refine asT_of (op_of (a := .int (vl (tl z))) (b := .int 2) rfl rfl ?_)
          show some (D.bl (decide ((vl (tl z) : Int) < 2))) = _
          rw [decide_eq_decide.mpr (show ((vl (tl z) : Nat) : Int) < 2 ↔ vl (tl z) < 2 by omega)]
        have e2 : (asT (op2 dNe (calE dGcd (consA (vS 5) (consA (vS 6) nilA))) (kI 1))) [.d (.str s), .d (.str b), .d (.str x), .d (.str "/"), .d (.str z), .d (.int (vl (tl x))), .d (.int (vl (tl z)))] = some (.ok (!decide (Nat.gcd (vl (tl x)) (vl (tl z)) = 1))) := by
          refine asT_of (op_of (a := .int (Nat.gcd (vl (tl x)) (vl (tl z)) : Nat)) (b := .int 1) (cal_of (l := [.int (vl (tl x)), .int (vl (tl z))]) rfl rfl) rfl ?_)
          show some (D.bl (!decide (((Nat.gcd (vl (tl x)) (vl (tl z)) : Nat) : Int) = 1))) = _
          rw [decide_eq_decide.mpr (show ((Nat.gcd (vl (tl x)) (vl (tl z)) : Nat) : Int) = 1 ↔ Nat.gcd (vl (tl x)) (vl (tl z)) = 1 by omega)]
        have eo := or_of e1 e2
        by_cases hh : 2 ≤ vl (tl z) ∧ Nat.gcd (vl (tl x)) (vl (tl z)) = 1
        · rw [decide_eq_false (by omega), decide_eq_true hh.2] at eo
          rw [seq_F eo, seq_nil, if_pos ⟨hd, hd2, hh⟩]
          exact x_rrE hs h _ _ _ _ (vl (tl x)) (vl (tl z))
        · have : (decide (vl (tl z) < 2) || !decide (Nat.gcd (vl (tl x)) (vl (tl z)) = 1)) = true := by
            by_cases h2 : vl (tl z) < 2
            · simp [h2]
            · have : ¬ Nat.gcd (vl (tl x)) (vl (tl z)) = 1 := fun q => hh ⟨by omega, q⟩
              simp [this]
          rw [this] at eo
          rw [seq_T eo, seq_er (raise1_of (d := .str s) rfl), if_neg (fun q => hh q.2.2)]
          cases neg <;> rfl
      · rw [if_neg hd2] at ec2
        rw [seq_asg_er ec2, if_neg (fun q => hd2 q.2.1)]
        cases neg <;> rfl
    · rw [if_neg hd] at ec
      rw [seq_asg_er ec, if_neg (fun q => hd q.1)]
      cases neg <;> rfl
theorem x_read_ratio {s : Str} (hs : s.length ≤ 640) : f_read_ratio [.str s] = qS (rd (tl s)) (.str s) := by
  show outR (b_read_ratio [.d (.str s), .un, .un, .un, .un, .un, .un]) = _
  unfold b_read_ratio
  rw [seq_asg (d := .str s) rfl]
  show outR (seqS _ rrK [.d (.str s), .d (.str s), .un, .un, .un, .un, .un]) = _
  have e := ev_minus hs (f := vS 0) (ρ := [.d (.str s), .d (.str s), .un, .un, .un, .un, .un]) rfl
  cases h : decide ((tl s).head? = some 45) with
  | false =>
    rw [h] at e
    rw [seq_F e, seq_nil, x_rrK hs hs h, rd_sgn h (b := s) rfl]
  | true =>
    rw [h] at e
    have hb : (cutS s (some 1) none).length ≤ 640 := by rw [len_tl, tl_drop1 s hs, List.length_drop]; rw [len_tl] at hs; omega
    rw [seq_T e, seq_asg (d := .str (cutS s (some 1) none)) (sl_of (d := .str s) rfl rfl rfl (dSl_str (by omega)))]
    show outR (rrK [.d (.str s), .d (.str (cutS s (some 1) none)), .un, .un, .un, .un, .un]) = _
    rw [x_rrK hs hb h, rd_sgn h (b := cutS s (some 1) none) (by rw [tl_drop1 s hs]; rfl)]
end K86
set_option Elab.async false
set_option linter.all false
set_option maxRecDepth 100000
set_option maxHeartbeats 4000000
set_option autoImplicit false
namespace K86
open PySem PySem.Spec L2 PD TL
def qN (q : Option (Int × Nat)) : D := match q with
  | some q => qD q
  | none => .non
theorem eq_frac (a b c d : Int) : dNe (frac a b) (frac c d) = some (.bl (!decide (a = c ∧ b = d))) := by
  have e : eqD (frac a b) (frac c d) = some (decide (a = c ∧ b = d)) := by
    show deepEq (frac a b) (frac c d) = _
    unfold deepEq
    have t1 : toPy (frac a b) = some (.tuple [.int a, .int b]) := by
      simp [toPy, toPyL]
    have t2 : toPy (frac c d) = some (.tuple [.int c, .int d]) := by
      simp [toPy, toPyL]
    rw [t1, t2]
    dsimp only
    have sh : ∀ a b : Int, SeqAt.shaped (.tuple [.int a, .int b]) = true := fun a b => by
      rfl
    rw [if_pos ⟨sh a b, sh c d⟩]
    simp [PyData.eqv, PyData.eqvAll]
    by_cases h1 : a = c
    · by_cases h2 : b = d
      · simp [h1, h2]
      · simp [h1, h2]
    · simp [h1]
  unfold dNe
  rw [e]
  rfl
abbrev lrE : SF := (seqS (ifS (asT (op2 dNe (vS 1) (vS 0))) (retS (tupE (consA (un1 dNeg (op2 dIx (vS 5) (kI 0))) (consA (op2 dIx (vS 5) (kI 1)) nilA)))) nilS) (retS (vS 5)))
noncomputable abbrev lrM : SF := (seqS (asgS 5 (tupE (consA (calE dInt (consA (vS 2) nilA)) (consA (calE dInt (consA (vS 4) nilA)) nilA)))) (seqS (ifS (asT (op2 dNe (callE f__law_fraction (consA (op2 dIx (vS 5) (kI 0)) (consA (op2 dIx (vS 5) (kI 1)) nilA))) (vS 5))) (retS kN) nilS) lrE))
noncomputable abbrev lrK : SF := (seqS (tgS (tupN 3 (consN (setN 2) (consN (setN 3) (consN (setN 4) nilN)))) (partE (vS 1) (kS "/"))) (seqS (ifS (asT (op2 dEq (vS 3) (kS ""))) (asgS 4 (kS "1")) (ifS (asT (op2 dEq (vS 4) (kS "1"))) (retS kN) nilS)) (seqS (ifS (orT (notT (asT (callE f__law_digits (consA (vS 2) nilA)))) (orT (notT (asT (callE f__law_digits (consA (vS 4) nilA)))) (orT (asT (op2 dEq (vS 4) (kS "0"))) (asT (op2 dEq (vS 0) (kS "-0")))))) (retS kN) nilS) lrM)))
/-- the reading, once the digits are known to be good -/
theorem x_lrM {s b x z : Str} {y : Sl} {neg : Bool} (hn : decide (b ≠ s) = neg) (hx : x.length ≤ 640) (hz : z.length ≤ 640) (dx : dgB (tl x) = true) (dz : dgB (tl z) = true) (h0 : vl (tl z) ≠ 0) (hne : neg = true → vl (tl x) = 0 → ¬ Nat.gcd (vl (tl x)) (vl (tl z)) = 1) :
    outR (lrM [.d (.str s), .d (.str b), .d (.str x), y, .d (.str z), .un]) = some (.ok (qN (sgn neg (if Nat.gcd (vl (tl x)) (vl (tl z)) = 1 then some (vl (tl x), vl (tl z)) else none)))) := by
  unfold lrM
  have e1 : (tupE (consA (calE dInt (consA (vS 2) nilA)) (consA (calE dInt (consA (vS 4) nilA)) nilA))) [.d (.str s), .d (.str b), .d (.str x), y, .d (.str z), .un] = some (.ok (frac (vl (tl x)) (vl (tl z)))) := by
    show bnd _ tupR = _
    rw [cons_of (cal_of (l := [.str x]) rfl (int_dg dx hx)) (cons_of (cal_of (l := [.str z]) rfl (int_dg dz hz)) rfl)]
    rfl
  rw [seq_asg e1]
  dsimp only [List.set]
  have hlt : vl (tl z) < 2 ^ 4000 := by
    have h1 := val_lt (tl z) (dgB_all dz).1
    have h2 : (10 : Nat) ^ (tl z).length ≤ 10 ^ 640 := Nat.pow_le_pow_right (by decide) (by rw [← len_tl]; exact hz)
    have h3 : (10 : Nat) ^ 640 ≤ 2 ^ 4000 := by decide +kernel
    exact Nat.lt_of_lt_of_le h1 (Nat.le_trans h2 h3)
  have ef := x_fraction (vl (tl x)) (vl (tl z)) (by omega) hlt
  rw [Int.natAbs_natCast] at ef
  have ec : callE f__law_fraction (consA (op2 dIx (vS 5) (kI 0)) (consA (op2 dIx (vS 5) (kI 1)) nilA)) [.d (.str s), .d (.str b), .d (.str x), y, .d (.str z), .d (frac (vl (tl x)) (vl (tl z)))] = _ := call_of (l := [.int (vl (tl x)), .int (vl (tl z))]) rfl ef
  clear hlt
  have hiff : ((vl (tl x) : Int) / (Nat.gcd (vl (tl x)) (vl (tl z)) : Nat) = vl (tl x) ∧ (vl (tl z) : Int) / (Nat.gcd (vl (tl x)) (vl (tl z)) : Nat) = vl (tl z)) ↔ Nat.gcd (vl (tl x)) (vl (tl z)) = 1 := by
    refine ⟨fun h => ?_, fun h => ?_⟩
    · have h2 := h.2
      have h3 : vl (tl z) / Nat.gcd (vl (tl x)) (vl (tl z)) = vl (tl z) := by exact_mod_cast h2
      rcases Nat.lt_or_ge 1 (Nat.gcd (vl (tl x)) (vl (tl z))) with h4 | h4
      · have := Nat.div_lt_self (show 0 < vl (tl z) by omega) h4
        omega
      · have : 0 < Nat.gcd (vl (tl x)) (vl (tl z)) := Nat.gcd_pos_of_pos_right _ (by omega)
        omega
    · rw [h]
      simp
  have et : (asT (op2 dNe (callE f__law_fraction (consA (op2 dIx (vS 5) (kI 0)) (consA (op2 dIx (vS 5) (kI 1)) nilA))) (vS 5))) [.d (.str s), .d (.str b), .d (.str x), y, .d (.str z), .d (frac (vl (tl x)) (vl (tl z)))] = some (.ok (!decide (Nat.gcd (vl (tl x)) (vl (tl z)) = 1))) := by
    refine asT_of (op_of ec (b := frac (vl (tl x)) (vl (tl z))) rfl ?_)
    rw [eq_frac, decide_eq_decide.mpr hiff]
  by_cases hg : Nat.gcd (vl (tl x)) (vl (tl z)) = 1
  · rw [decide_eq_true hg] at et
    rw [seq_F et, seq_nil, if_pos hg]
    show outR (seqS _ _ _) = _
    have eb : (asT (op2 dNe (vS 1) (vS 0))) [.d (.str s), .d (.str b), .d (.str x), y, .d (.str z), .d (frac (vl (tl x)) (vl (tl z)))] = some (.ok neg) := by
      refine asT_of (op_of (a := .str b) (b := .str s) rfl rfl ?_)
      show some (D.bl (!decide (b = s))) = _
      rw [← hn]
      simp
    cases neg with
    | true =>
      have ha : vl (tl x) ≠ 0 := fun q => hne rfl q hg
      rw [seq_T eb, sgn_T, if_neg ha]
      rfl
    | false =>
      rw [seq_F eb, seq_nil]
      rfl
  · rw [decide_eq_false hg] at et
    rw [seq_T et, if_neg hg]
    cases neg <;> rfl
theorem x_lrK {s b : Str} (hs : s.length ≤ 640) (hb : b.length ≤ 640) {neg : Bool} (h : decide ((tl s).head? = some 45) = neg) (htb : tl b = if neg = true then (tl s).drop 1 else tl s) : outR (lrK [.d (.str s), .d (.str b), .un, .un, .un, .un]) = some (.ok (qN (sgn neg (rdP (tl b))))) := by
  have hn : decide (b ≠ s) = neg := by
    cases neg with
    | true =>
      refine decide_eq_true fun q => ?_
      rw [q, if_pos rfl] at htb
      have := congrArg List.length htb
      rw [List.length_drop] at this
      have h1 := of_decide_eq_true h
      cases e : tl s with
      | nil => rw [e] at h1; cases h1
      | cons c r => rw [e] at this; simp at this
    | false =>
      rw [if_neg (by decide)] at htb
      simp [ext_tl htb]
  have hm0 : decide (s = "-0") = true ↔ (neg = true ∧ tl b = [48]) := by
    rw [s_eq (l := [45, 48]) (by decide), decide_eq_true_iff]
    cases neg with
    | true =>
      rw [if_pos rfl] at htb
      rw [htb]
      have h1 := of_decide_eq_true h
      cases e : tl s with
      | nil => rw [e] at h1; cases h1
      | cons c r =>
        rw [e] at h1
        simp at h1
        subst h1
        simp
    | false =>
      have h1 := of_decide_eq_false h
      refine ⟨fun q => ?_, fun q => by cases q.1⟩
      rw [q] at h1
      exact absurd rfl h1
  obtain ⟨x, y, z, ep, hc⟩ := ev_part hb (f := vS 1) (ρ := [.d (.str s), .d (.str b), .un, .un, .un, .un]) rfl
  unfold lrK
  rw [seq_nx (tg_of ep rfl)]
  show outR (seqS _ _ [.d (.str s), .d (.str b), .d (.str x), .d (.str y), .d (.str z), .un]) = _
  -- the middle test
  have mid : ∀ (x z : Str) (y : Sl), x.length ≤ 640 → z.length ≤ 640 → (orT (notT (asT (callE f__law_digits (consA (vS 2) nilA)))) (orT (notT (asT (callE f__law_digits (consA (vS 4) nilA)))) (orT (asT (op2 dEq (vS 4) (kS "0"))) (asT (op2 dEq (vS 0) (kS "-0")))))) [.d (.str s), .d (.str b), .d (.str x), y, .d (.str z), .un] =
      some (.ok (!dgB (tl x) || (!dgB (tl z) || (decide (tl z = [48]) || decide (s = "-0"))))) := by
    intro x z y hx hz
    refine or_of (not_of (asT_of (call_of (l := [.str x]) rfl (x_law_digits hx)))) (or_of (not_of (asT_of (call_of (l := [.str z]) rfl (x_law_digits hz)))) (or_of (asT_of (op_of (a := .str z) (b := .str "0") rfl rfl ?_)) (asT_of (op_of (a := .str s) (b := .str "-0") rfl rfl ?_))))
    · rw [str_eq, s_eq (l := [48]) (by decide)]
    · rw [str_eq]
  rcases hc with ⟨hp, rfl, rfl, rfl⟩ | ⟨u, v, hp, rfl, rfl, rfl⟩
  · unfold rdP
    rw [hp]
    dsimp only
    rw [seq_T (show (asT (op2 dEq (vS 3) (kS ""))) [.d (.str s), .d (.str x), .d (.str x), .d (.str Str.empty), .d (.str Str.empty), .un] = some (.ok true) by rfl), seq_asg (d := .str "1") rfl]
    dsimp only [List.set]
    have em := mid x "1" (.d (.str Str.empty)) hb (by decide)
    have d1 : dgB (tl ("1" : Str)) = true := by decide
    have v1 : vl (tl ("1" : Str)) = 1 := by decide
    have e48 : decide (tl ("1" : Str) = [48]) = false := by decide
    simp only [d1, e48, Bool.not_true, Bool.false_or] at em
    by_cases hd : dgB (tl x) = true
    · rw [hd, Bool.not_true, Bool.false_or] at em
      rw [if_pos hd]
      cases hz0 : decide (s = "-0") with
      | true =>
        rw [hz0] at em
        obtain ⟨rfl, q2⟩ := hm0.mp hz0
        rw [seq_T em, q2]
        rfl
      | false =>
        rw [hz0] at em
        rw [seq_F em, seq_nil]
        rw [x_lrM hn hb (by decide) hd d1 (by rw [v1]; decide) (fun q1 q2 => ?_)]
        · rw [v1, if_pos (Nat.gcd_one_right _)]
        · exfalso
          have e := num_dg (tl x) hd
          rw [show NumText.digitsVal (tl x) = 0 from q2, numL_lt (by decide)] at e
          have : decide (s = "-0") = true := hm0.mpr ⟨q1, e.symm⟩
          rw [hz0] at this
          cases this
    · have hd' : dgB (tl x) = false := by simpa using hd
      rw [hd', Bool.not_false, Bool.true_or] at em
      rw [if_neg hd, seq_T em]
      cases neg <;> rfl
  · have hl := par_parts hp
    have hx : x.length ≤ 640 := by rw [len_tl]; rw [len_tl] at hb; omega
    have hz : z.length ≤ 640 := by rw [len_tl]; rw [len_tl] at hb; omega
    have hz0 : decide (s = "-0") = false := by
      cases q : decide (s = "-0") with
      | false => rfl
      | true =>
        have := (hm0.mp q).2
        rw [this] at hp
        cases hp
    unfold rdP
    rw [hp]
    dsimp only
    rw [seq_F (show (asT (op2 dEq (vS 3) (kS ""))) [.d (.str s), .d (.str b), .d (.str x), .d (.str "/"), .d (.str z), .un] = some (.ok false) by rfl)]
    have e1 : (asT (op2 dEq (vS 4) (kS "1"))) [.d (.str s), .d (.str b), .d (.str x), .d (.str "/"), .d (.str z), .un] = some (.ok (decide (tl z = [49]))) := by
      refine asT_of (op_of (a := .str z) (b := .str "1") rfl rfl ?_)
      rw [str_eq, s_eq (l := [49]) (by decide)]
    by_cases hz1 : tl z = [49]
    · rw [decide_eq_true hz1] at e1
      rw [seq_T e1, hz1]
      rw [if_neg (fun q => by
        have := q.2.2.1
        revert this
        decide)]
      cases neg <;> rfl
    · rw [decide_eq_false hz1] at e1
      rw [seq_F e1, seq_nil]
      have em := mid x z (.d (.str "/")) hx hz
      rw [hz0, Bool.or_false] at em
      by_cases hh : dgB (tl x) = true ∧ dgB (tl z) = true ∧ tl z ≠ [48]
      · rw [hh.1, hh.2.1, decide_eq_false hh.2.2] at em
        rw [seq_F em, seq_nil]
        have e := num_dg (tl z) hh.2.1
        have g0 : vl (tl z) ≠ 0 := fun q => hh.2.2 (by rw [← e, show NumText.digitsVal (tl z) = 0 from q, numL_lt (by decide)])
        have g1 : vl (tl z) ≠ 1 := fun q => hz1 (by rw [← e, show NumText.digitsVal (tl z) = 1 from q, numL_lt (by decide)])
        rw [x_lrM hn hx hz hh.1 hh.2.1 g0 (fun q1 q2 q3 => ?_)]
        · by_cases hg : Nat.gcd (vl (tl x)) (vl (tl z)) = 1
          · rw [if_pos hg, if_pos ⟨hh.1, hh.2.1, by omega, hg⟩]
          · rw [if_neg hg, if_neg (fun q => hg q.2.2.2)]
        · rw [q2, Nat.gcd_zero_left] at q3
          exact g1 q3
      · have : (!dgB (tl x) || (!dgB (tl z) || decide (tl z = [48]))) = true := by
          cases h1 : dgB (tl x) with
          | false => rfl
          | true =>
            cases h2 : dgB (tl z) with
            | false => rfl
            | true =>
              have : tl z = [48] := Classical.byContradiction fun q => hh ⟨h1, h2, q⟩
              simp [this]
        rw [this] at em
        rw [seq_T em, if_neg (fun q => hh ⟨q.1, q.2.1, fun q' => by
          have h2 := q.2.2.1
          rw [q'] at h2
          revert h2
          decide⟩)]
        cases neg <;> rfl
theorem x_law_read {s : Str} (hs : s.length ≤ 640) : f__law_read [.str s] = some (.ok (qN (rd (tl s)))) := by
  show outR (b__law_read [.d (.str s), .un, .un, .un, .un, .un]) = _
  unfold b__law_read
  rw [seq_asg (d := .str s) rfl]
  show outR (seqS _ lrK [.d (.str s), .d (.str s), .un, .un, .un, .un]) = _
  have e := ev_minus hs (f := vS 0) (ρ := [.d (.str s), .d (.str s), .un, .un, .un, .un]) rfl
  cases h : decide ((tl s).head? = some 45) with
  | false =>
    rw [h] at e
    rw [seq_F e, seq_nil, x_lrK hs hs h rfl, rd_sgn h (b := s) rfl]
  | true =>
    rw [h] at e
    have hb : (cutS s (some 1) none).length ≤ 640 := by rw [len_tl, tl_drop1 s hs, List.length_drop]; rw [len_tl] at hs; omega
    rw [seq_T e, seq_asg (d := .str (cutS s (some 1) none)) (sl_of (d := .str s) rfl rfl rfl (dSl_str (by omega)))]
    show outR (lrK [.d (.str s), .d (.str (cutS s (some 1) none)), .un, .un, .un, .un]) = _
    rw [x_lrK hs hb h (by rw [tl_drop1 s hs]; rfl), rd_sgn h (b := cutS s (some 1) none) (by rw [tl_drop1 s hs]; rfl)]
end K86
set_option Elab.async false
set_option linter.all false
set_option maxRecDepth 100000
set_option maxHeartbeats 4000000
set_option autoImplicit false
namespace K86
open PySem PySem.Spec L2 PD TL
abbrev tS' (i : Int) : Str := Str.ofString (toString i)
theorem tl_int (i : Int) : tl (tS' i) = if i < 0 then 45 :: numL i.natAbs else numL i.natAbs := by
  by_cases h : i < 0
  · rw [if_pos h]
    have e := PyProof.Rows.toString_neg h
    show tl (Str.ofString (toString i)) = _
    rw [e, tl_ofString, String.toList_append, List.map_append, ← tl_ofString (toString (0 - i))]
    have e2 : (0 : Int) - i = (i.natAbs : Nat) := by omega
    rw [e2, tl_num]
    rfl
  · rw [if_neg h]
    have e2 : i = (i.natAbs : Nat) := by omega
    show tl (Str.ofString (toString i)) = _
    rw [e2, tl_num, Int.natAbs_natCast]
noncomputable def wrS (q : Int × Nat) : Str := if q.2 = 1 then tS' q.1 else tS' q.1 ++ ("/" : Str) ++ tS' q.2
def bodyL (a b : Nat) : List Nat := if b = 1 then numL a else numL a ++ 47 :: numL b
theorem tl_wr (q : Int × Nat) : tl (wrS q) = if q.1 < 0 then 45 :: bodyL q.1.natAbs q.2 else bodyL q.1.natAbs q.2 := by
  unfold wrS bodyL
  by_cases h : q.2 = 1
  · rw [if_pos h, if_pos h, tl_int]
  · rw [if_neg h, if_neg h, tl_append, tl_append, tl_int, tl_int, if_neg (show ¬ ((q.2 : Nat) : Int) < 0 by omega), Int.natAbs_natCast]
    have e : tl ("/" : Str) = [47] := by decide
    rw [e]
    split <;> simp
theorem par_eq {l u v : List Nat} (h : par [47] [] l = some (u, v)) : l = u ++ 47 :: v := by
  have key : ∀ (l acc u v : List Nat), par [47] acc l = some (u, v) → acc ++ l = u ++ 47 :: v := by
    intro l
    induction l with
    | nil => intro acc a b h; cases h
    | cons c r ih =>
      intro acc a b h
      by_cases hc : c = 47
      · subst hc
        rw [par_hit (by simp [pre])] at h
        cases h
        rfl
      · rw [par_miss (pre_of_head [] r hc)] at h
        have := ih _ _ _ h
        rw [← this]
        simp
  exact key l [] u v h
theorem par_free {l : List Nat} (h : 47 ∉ l) : par [47] [] l = none := by
  cases e : par [47] [] l with
  | none => rfl
  | some p =>
    obtain ⟨u, v⟩ := p
    exact absurd (by rw [par_eq e]; simp) h
theorem par_at {u v : List Nat} (h : 47 ∉ u) : par [47] [] (u ++ 47 :: v) = some (u, v) := by
  have key : ∀ (u acc : List Nat), 47 ∉ u → par [47] acc (u ++ 47 :: v) = some (acc ++ u, v) := by
    intro u
    induction u with
    | nil =>
      intro acc _
      show par [47] acc (47 :: v) = _
      rw [par_hit (by simp [pre])]
      simp
    | cons c r ih =>
      intro acc h
      have hc : c ≠ 47 := fun z => h (by rw [z]; exact List.mem_cons_self ..)
      show par [47] acc (c :: (r ++ 47 :: v)) = _
      rw [par_miss (pre_of_head [] _ hc), ih _ fun z => h (List.mem_cons_of_mem _ z)]
      simp
  exact key u [] h
theorem rdP_body {a b : Nat} (hb : 0 < b) (hg : Nat.gcd a b = 1) : rdP (bodyL a b) = some (a, b) := by
  have va : vl (numL a) = a := numL_val a
  have vb : vl (numL b) = b := numL_val b
  unfold bodyL rdP
  by_cases h : b = 1
  · rw [if_pos h, par_free (numL_free (by decide))]
    dsimp only
    rw [if_pos (dg_num a), va, h]
  · rw [if_neg h, par_at (numL_free (by decide))]
    dsimp only
    rw [if_pos ⟨dg_num a, dg_num b, by omega, by rw [va, vb]; exact hg⟩, va, vb]
theorem rdP_back {l : List Nat} {a b : Nat} (h : rdP l = some (a, b)) : bodyL a b = l ∧ 0 < b ∧ Nat.gcd a b = 1 ∧ a < 10 ^ l.length ∧ b < 10 ^ l.length := by
  unfold rdP at h
  cases e : par [47] [] l with
  | none =>
    rw [e] at h
    dsimp only at h
    split at h
    · rename_i hd
      cases h
      have hl : 0 < l.length := by
        cases l with
        | nil => cases hd
        | cons => simp
      refine ⟨?_, by decide, Nat.gcd_one_right _, val_lt l (dgB_all hd).1, ?_⟩
      · unfold bodyL
        rw [if_pos rfl]
        exact num_dg l hd
      · exact Nat.one_lt_pow (by omega) (by decide)
    · cases h
  | some p =>
    obtain ⟨u, v⟩ := p
    rw [e] at h
    dsimp only at h
    split at h
    · rename_i hd
      cases h
      have el := par_eq e
      have hl : u.length + v.length + 1 = l.length := by rw [el]; simp; omega
      refine ⟨?_, by omega, hd.2.2.2, ?_, ?_⟩
      · unfold bodyL
        rw [if_neg (by omega), el]
        rw [show numL (vl u) = u from num_dg u hd.1, show numL (vl v) = v from num_dg v hd.2.1]
      · exact Nat.lt_of_lt_of_le (val_lt u (dgB_all hd.1).1) (Nat.pow_le_pow_right (by decide) (by omega))
      · exact Nat.lt_of_lt_of_le (val_lt v (dgB_all hd.2.1).1) (Nat.pow_le_pow_right (by decide) (by omega))
    · cases h
theorem body_head (a b : Nat) : ∀ r, bodyL a b ≠ 45 :: r := by
  intro r e
  have hne := numL_ne a
  cases en : numL a with
  | nil => exact hne en
  | cons c q =>
    have hc : c = 45 := by
      unfold bodyL at e
      rw [en] at e
      split at e
      · exact (List.cons.inj e).1
      · exact (List.cons.inj e).1
    exact numL_free (n := a) (s := 45) (by decide) (by rw [en, hc]; exact List.mem_cons_self ..)
/-- in lowest terms, and not too long -/
def Nw (q : Int × Nat) : Prop := 0 < q.2 ∧ Nat.gcd q.1.natAbs q.2 = 1 ∧ q.1.natAbs < 10 ^ 400 ∧ q.2 < 10 ^ 400
theorem Nm.w {q : Int × Nat} (h : Nm q) : Nw q := by
  have e : (10 : Nat) ^ 41 ≤ 10 ^ 400 := Nat.pow_le_pow_right (by decide) (by decide)
  exact ⟨h.1, h.2.1, Nat.lt_of_lt_of_le h.2.2.1 e, Nat.lt_of_lt_of_le h.2.2.2 e⟩
theorem rd_not45 {l : List Nat} (h : ∀ r, l ≠ 45 :: r) : rd l = (rdP l).map fun p => ((p.1 : Int), p.2) := by
  unfold rd
  split
  · rename_i r
    exact absurd rfl (h r)
  · rfl
theorem rd_wr {q : Int × Nat} (h0 : 0 < q.2) (hg : Nat.gcd q.1.natAbs q.2 = 1) : rd (tl (wrS q)) = some q := by
  rw [tl_wr]
  by_cases h : q.1 < 0
  · rw [if_pos h]
    show rdN (bodyL q.1.natAbs q.2) = _
    unfold rdN
    rw [rdP_body h0 hg]
    dsimp only
    rw [if_neg (by omega)]
    have : (-(q.1.natAbs : Int)) = q.1 := by omega
    rw [this]
  · rw [if_neg h, rd_not45 (body_head _ _), rdP_body h0 hg]
    have : (q.1.natAbs : Int) = q.1 := by omega
    show some ((q.1.natAbs : Int), q.2) = _
    rw [this]
theorem wr_rd {l : List Nat} {q : Int × Nat} (h : rd l = some q) : tl (wrS q) = l ∧ 0 < q.2 ∧ Nat.gcd q.1.natAbs q.2 = 1 ∧ q.1.natAbs < 10 ^ l.length ∧ q.2 < 10 ^ l.length := by
  by_cases hl : ∃ r, l = 45 :: r
  · obtain ⟨r, rfl⟩ := hl
    replace h : rdN r = some q := h
    unfold rdN at h
    cases e : rdP r with
    | none => rw [e] at h; cases h
    | some p =>
      obtain ⟨a, b⟩ := p
      rw [e] at h
      dsimp only at h
      split at h
      · cases h
      · rename_i ha
        cases h
        obtain ⟨h1, h2, h3, h4, h5⟩ := rdP_back e
        have ea : (-(a : Int)).natAbs = a := by omega
        have hp : (10 : Nat) ^ r.length ≤ 10 ^ (45 :: r).length := Nat.pow_le_pow_right (by decide) (by simp)
        refine ⟨?_, h2, by show Nat.gcd (-(a : Int)).natAbs b = 1; rw [ea]; exact h3, by show (-(a : Int)).natAbs < _; rw [ea]; exact Nat.lt_of_lt_of_le h4 hp, Nat.lt_of_lt_of_le h5 hp⟩
        rw [tl_wr, if_pos (show (-(a : Int)) < 0 by omega), ea, h1]
  · rw [rd_not45 fun r e => hl ⟨r, e⟩] at h
    cases e : rdP l with
    | none => rw [e] at h; cases h
    | some p =>
      obtain ⟨a, b⟩ := p
      rw [e] at h
      cases h
      obtain ⟨h1, h2, h3, h4, h5⟩ := rdP_back e
      refine ⟨?_, h2, h3, h4, h5⟩
      rw [tl_wr, if_neg (show ¬ (a : Int) < 0 by omega)]
      exact h1
theorem wr_len {q : Int × Nat} {k : Nat} (hk : 0 < k) (h1 : q.1.natAbs < 10 ^ k) (h2 : q.2 < 10 ^ k) : (wrS q).length ≤ 2 * k + 2 := by
  rw [len_tl, tl_wr]
  have a := numL_len hk h1
  have b := numL_len hk h2
  have hb : (bodyL q.1.natAbs q.2).length ≤ 2 * k + 1 := by
    unfold bodyL
    split
    · omega
    · rw [List.length_append, List.length_cons]
      omega
  split
  · rw [List.length_cons]; omega
  · omega
theorem wr_free (q : Int × Nat) : 32 ∉ tl (wrS q) := by
  rw [tl_wr]
  have a : 32 ∉ numL q.1.natAbs := numL_free (by decide)
  have b : 32 ∉ numL q.2 := numL_free (by decide)
  have hb : 32 ∉ bodyL q.1.natAbs q.2 := by
    unfold bodyL
    split
    · exact a
    · simp [a, b]
  split
  · simp [hb]
  · exact hb
theorem str_of {i : Int} (h : i.natAbs < 10 ^ 400) : dStr [.int i] = some (.str (tS' i)) := by
  have hl : i.natAbs.log2 < 1920 := by
    rcases Nat.eq_zero_or_pos i.natAbs with z | z
    · rw [z]; decide
    · rw [Nat.log2_lt (by omega)]
      exact Nat.lt_of_lt_of_le h (by decide +kernel)
  show (if i.natAbs.log2 < 1920 then some (D.str (tS' i)) else none) = _
  rw [if_pos hl]
theorem add_str {a b : Str} (h : a.length + b.length ≤ 16777216) : dAdd (.str a) (.str b) = some (.str (a ++ b)) := by
  show (if a.length + b.length ≤ 16777216 then some (D.str (a ++ b)) else none) = _
  rw [if_pos h]
theorem x_written {q : Int × Nat} (h : Nw q) : f__law_written [qD q] = some (.ok (.str (wrS q))) := by
  show outR (b__law_written [.d (qD q)]) = _
  unfold b__law_written
  have e : (asT (op2 dEq (op2 dIx (vS 0) (kI 1)) (kI 1))) [.d (qD q)] = some (.ok (decide (q.2 = 1))) := by
    refine asT_of (op_of (a := .int q.2) (b := .int 1) (op_of (a := qD q) (b := .int 1) rfl rfl rfl) rfl ?_)
    show some (D.bl (decide ((q.2 : Int) = 1))) = _
    rw [decide_eq_decide.mpr (show (q.2 : Int) = 1 ↔ q.2 = 1 by omega)]
  have e1 : (calE dStr (consA (op2 dIx (vS 0) (kI 0)) nilA)) [.d (qD q)] = some (.ok (.str (tS' q.1))) := cal_of (l := [.int q.1]) rfl (str_of h.2.2.1)
  have e2 : (calE dStr (consA (op2 dIx (vS 0) (kI 1)) nilA)) [.d (qD q)] = some (.ok (.str (tS' q.2))) := cal_of (l := [.int q.2]) rfl (str_of (by rw [Int.natAbs_natCast]; exact h.2.2.2))
  unfold wrS
  by_cases hq : q.2 = 1
  · rw [decide_eq_true hq] at e
    rw [seq_T e, seq_ret e1, if_pos hq]
    rfl
  · rw [decide_eq_false hq] at e
    have l1 : (tS' q.1).length ≤ 401 := by
      have := numL_len (k := 400) (by decide) h.2.2.1
      rw [len_tl, tl_int]
      split
      · rw [List.length_cons]; omega
      · omega
    have l2 : (tS' q.2).length ≤ 401 := by
      have := numL_len (k := 400) (by decide) h.2.2.2
      rw [len_tl, tl_int, if_neg (by omega), Int.natAbs_natCast]
      omega
    have l3 : (tS' q.1 ++ ("/" : Str)).length ≤ 402 := by
      rw [len_tl, tl_append, List.length_append, ← len_tl, show (tl ("/" : Str)).length = 1 by decide]
      omega
    rw [seq_F e, seq_nil, ret_of (op_of (op_of (a := .str (tS' q.1)) (b := .str "/") e1 rfl (add_str (by rw [show ("/" : Str).length = 1 by decide]; omega))) e2 (add_str (by omega))), if_neg hq]
    rfl
theorem x_write {q : Int × Nat} (h : Nw q) : f_write_ratio [qD q] = some (.ok (.str (wrS q))) := x_written h
end K86
set_option Elab.async false
set_option linter.all false
set_option maxRecDepth 100000
set_option maxHeartbeats 4000000
set_option autoImplicit false
namespace K86
open PySem PySem.Spec L2 PD TL
/-- each run without a blank is short -/
def Sh (n : Nat) (l : List Nat) : Prop := ∀ a b c, l = a ++ b ++ c → 32 ∉ b → b.length ≤ n
theorem pieces {l acc : List Nat} : 32 ∉ acc → (∀ p ∈ spl [32] 0 acc l, 32 ∉ p ∧ ∃ a c, acc ++ l = a ++ p ++ c) ∧ (spl [32] 0 acc l).length ≤ l.length + 1 ∧ spl [32] 0 acc l ≠ [] := by
  induction l generalizing acc with
  | nil =>
    intro h
    rw [spl_nil]
    refine ⟨fun p hp => ?_, by simp, by simp⟩
    rw [List.mem_singleton.mp hp]
    exact ⟨h, [], [], by simp⟩
  | cons c r ih =>
    intro h
    by_cases hc : c = 32
    · subst hc
      rw [spl_hit (by simp [pre])]
      obtain ⟨h1, h2, h3⟩ := ih (acc := []) (by simp)
      refine ⟨fun p hp => ?_, by simp; exact h2, by simp⟩
      rcases List.mem_cons.mp hp with rfl | hp
      · exact ⟨h, [], 32 :: r, by simp⟩
      · obtain ⟨q1, a, c, q2⟩ := h1 p hp
        refine ⟨q1, acc ++ 32 :: a, c, ?_⟩
        rw [List.nil_append] at q2
        rw [q2]
        simp
    · rw [spl_miss (pre_of_head [] r hc)]
      obtain ⟨h1, h2, h3⟩ := ih (acc := acc ++ [c]) (by simp [h]; exact fun z => hc z.symm)
      refine ⟨fun p hp => ?_, by simp; omega, h3⟩
      obtain ⟨q1, a, c', q2⟩ := h1 p hp
      exact ⟨q1, a, c', by rw [← q2]; simp⟩
/-- a line: not too long, its words short -/
structure Ln (n m : Nat) (s : Str) : Prop where
  len : s.length ≤ m
  sh : Sh n (tl s)
abbrev wds (s : Str) : List Str := Txt.split s " "
theorem tl_sp : tl (" " : Str) = [32] := by decide
theorem wds_tl (s : Str) : (wds s).map tl = spl [32] 0 [] (tl s) := by
  have h := split_spl s " " (by rw [tl_sp]; simp) (kind_ok (by decide +kernel))
  rw [tl_sp] at h
  exact h
theorem wds_ok {n m : Nat} {s : Str} (h : Ln n m s) : (∀ w ∈ wds s, w.length ≤ n ∧ 32 ∉ tl w) ∧ (wds s).length ≤ m + 1 ∧ wds s ≠ [] := by
  obtain ⟨h1, h2, h3⟩ := pieces (l := tl s) (acc := []) (by simp)
  rw [← wds_tl] at h1 h2 h3
  refine ⟨fun w hw => ?_, ?_, fun e => h3 (by rw [e]; rfl)⟩
  · obtain ⟨q1, a, c, q2⟩ := h1 (tl w) (List.mem_map_of_mem hw)
    rw [List.nil_append] at q2
    exact ⟨by rw [len_tl]; exact h.sh a (tl w) c q2 q1, q1⟩
  · rw [List.length_map] at h2
    have := h.len
    rw [len_tl] at this
    omega
theorem wds_join (s : Str) : Txt.join " " (wds s) = s := by rw [join_eq]; exact PySem.StrLaws.join_split s " "
theorem join_wds {ps : List Str} (h : ps ≠ []) (hp : ∀ p ∈ ps, 32 ∉ tl p) : wds (Txt.join " " ps) = ps := split_join tl_sp (by decide +kernel) h hp
noncomputable abbrev lineS (w : Str) (qs : List (Int × Nat)) : Str := Txt.join " " (w :: qs.map wrS)
theorem sum_le {l : List Nat} {b : Nat} (h : ∀ x ∈ l, x ≤ b) : l.sum ≤ b * l.length := by
  induction l with
  | nil => simp
  | cons a r ih =>
    have := ih fun x hx => h x (List.mem_cons_of_mem _ hx)
    have ha := h a (List.mem_cons_self ..)
    rw [List.sum_cons, List.length_cons, Nat.mul_add]
    omega
theorem join_of {f : EF} {ag : EF} {ρ : List Sl} {ws : List Str} (h1 : f ρ = some (.ok (.str " "))) (h2 : ag ρ = some (.ok (.lst (ws.map D.str)))) (hl : ∀ w ∈ ws, w.length ≤ 1000) (hc : ws.length ≤ 10001) : joinE f ag ρ = some (.ok (.str (Txt.join " " ws))) := by
  unfold joinE
  rw [h1, bnd_ok]
  show bnd (ag ρ) _ = _
  rw [h2, bnd_ok]
  show joinOk " " (ws.map D.str) = _
  unfold joinOk
  rw [strsOf_map]
  dsimp only
  have hs : (ws.map (·.length)).sum ≤ 1000 * ws.length := by
    have := sum_le (l := ws.map (·.length)) (b := 1000) (fun x hx => by obtain ⟨w, hw, rfl⟩ := List.mem_map.mp hx; exact hl w hw)
    rwa [List.length_map] at this
  rw [if_pos (by rw [show (" " : Str).length = 1 by decide]; omega)]
def dOf (b : Bool) (l : List D) : D := if b = true then .tup l else .lst l
theorem x_number_line (b : Bool) {w : Str} {qs : List (Int × Nat)} (hw : w.length ≤ 1000) (hq : ∀ q ∈ qs, Nw q) (hc : qs.length ≤ 10000) : f_number_line [.str w, dOf b (qs.map qD)] = some (.ok (.str (lineS w qs))) := by
  show outR (b_number_line [.d (.str w), .d (dOf b (qs.map qD)), .un]) = _
  unfold b_number_line
  have hl : ∀ x ∈ w :: qs.map wrS, x.length ≤ 1000 := fun x hx => by
    rcases List.mem_cons.mp hx with rfl | hx
    · exact hw
    · obtain ⟨q, h, rfl⟩ := List.mem_map.mp hx
      have := wr_len (k := 400) (by decide) (hq q h).2.2.1 (hq q h).2.2.2
      omega
  rw [ret_of (d := .str (lineS w qs))]
  · rfl
  · refine join_of rfl ?_ hl (by simp; omega)
    have e : lcGo (setN 2) yesT (callE f_write_ratio (consA (vS 2) nilA)) [.d (.str w), .d (dOf b (qs.map qD)), .un] (qs.map qD) = some (qs.map fun q => D.str (wrS q)) :=
      lcGo_map (inD := qD) (outD := fun q => D.str (wrS q)) qs fun q h => ⟨_, rfl, call_of (l := [qD q]) rfl (x_write (hq q h))⟩
    refine op_of (a := .lst [.str w]) (b := .lst (qs.map fun q => D.str (wrS q))) rfl ?_ ?_
    · show bnd (lcN _ _ _ _ _ _) _ = _
      unfold lcN
      rw [show unItE (vS 1) [.d (.str w), .d (dOf b (qs.map qD)), .un] = some (.ok (qs.map qD)) by cases b <;> rfl, bnd_ok, if_pos (by rw [List.length_map]; omega)]
      show bnd (opt (lcGo (setN 2) yesT _ [.d (.str w), .d (dOf b (qs.map qD)), .un] (qs.map qD))) _ = _
      rw [e]
      rfl
    · show (if [D.str w].length + (qs.map fun q => D.str (wrS q)).length ≤ 16777216 then some (D.lst ([D.str w] ++ qs.map fun q => D.str (wrS q))) else none) = _
      rw [if_pos (by rw [List.length_map]; simp; omega)]
      simp
theorem x_law_line (b : Bool) {w : Str} {qs : List (Int × Nat)} (hw : w.length ≤ 1000) (hq : ∀ q ∈ qs, Nw q) (hc : qs.length ≤ 10000) : f__law_line [.str w, dOf b (qs.map qD)] = some (.ok (.str (lineS w qs))) := x_number_line b hw hq hc
/-! ### the reading of a line -/
def nums : List Str → Option (List (Int × Nat))
  | [] => some []
  | w :: ws => match rd (tl w) with
    | none => none
    | some q => (nums ws).map (q :: ·)
abbrev badT (w : D) : Exn := ⟨"BadText", ["line"], [w]⟩
noncomputable abbrev rnB : SF := tryO is_BadNumber (metS 2 mAppend (consA (callE f_read_ratio (consA (vS 3) nilA)) nilA)) (raiseS "BadText" ["line"] (one1 (vS 1)))
theorem met_er {i : Nat} {m : List D → List D → Option (List D)} {af : AF} {ρ : List Sl} {l : List D} {e : Exn} (h1 : getO ρ i = some (.ok l)) (h2 : af ρ = some (.error e)) : metS i m af ρ = some (.er e ρ) := by
  unfold metS
  rw [h1]
  show thnS (af ρ) ρ _ = _
  rw [h2]
  rfl
theorem cons_er {f : EF} {af : AF} {ρ : List Sl} {e : Exn} (h : f ρ = some (.error e)) : consA f af ρ = some (.error e) := by
  show bnd (f ρ) (fun d => bnd (af ρ) fun ds => ok (d :: ds)) = _
  rw [h]
  rfl
theorem x_rnGo (W : D) (w : D) : ∀ (ws : List Str) (acc : List (Int × Nat)) (s3 : Sl), (∀ x ∈ ws, x.length ≤ 640) → acc.length + ws.length ≤ 10000 →
    match nums ws with
    | some qs => ∃ s3', forGo (setN 3) rnB (ws.map D.str) [.d W, .d w, .own (acc.map qD), s3] = some (.nx [.d W, .d w, .own ((acc ++ qs).map qD), s3'])
    | none => ∃ ρ', forGo (setN 3) rnB (ws.map D.str) [.d W, .d w, .own (acc.map qD), s3] = some (.er (badT w) ρ')
  | [], acc, s3, _, _ => ⟨s3, by rw [List.append_nil]; rfl⟩
  | x :: ws, acc, s3, hl, hc => by
    have hx := x_read_ratio (hl x (List.mem_cons_self ..))
    have ec : callE f_read_ratio (consA (vS 3) nilA) [.d W, .d w, .own (acc.map qD), .d (.str x)] = _ := call_of (l := [.str x]) rfl hx
    rw [List.length_cons] at hc
    unfold nums
    cases e : rd (tl x) with
    | none =>
      rw [e] at ec
      dsimp only
      refine ⟨[.d W, .d w, .own (acc.map qD), .d (.str x)], ?_⟩
      rw [List.map_cons]
      refine go_er (ρ1 := [.d W, .d w, .own (acc.map qD), .d (.str x)]) rfl ?_
      unfold rnB tryO
      rw [met_er (l := acc.map qD) rfl (cons_er ec)]
      dsimp only
      exact raise1_of rfl
    | some q =>
      rw [e] at ec
      dsimp only
      have hb : rnB [.d W, .d w, .own (acc.map qD), .d (.str x)] = some (.nx [.d W, .d w, .own ((acc ++ [q]).map qD), .d (.str x)]) := by
        unfold rnB tryO
        rw [met_of (l := acc.map qD) (ds := [qD q]) rfl (cons_of ec rfl) (app_of (by rw [List.length_map]; omega))]
        dsimp only
        rw [List.map_append]
        rfl
      have ih := x_rnGo W w ws (acc ++ [q]) (.d (.str x)) (fun y hy => hl y (List.mem_cons_of_mem _ hy)) (by rw [List.length_append]; simp; omega)
      cases en : nums ws with
      | none =>
        rw [en] at ih
        obtain ⟨ρ', h⟩ := ih
        refine ⟨ρ', ?_⟩
        rw [List.map_cons, go_nx (ρ1 := [.d W, .d w, .own (acc.map qD), .d (.str x)]) rfl hb]
        exact h
      | some qs =>
        rw [en] at ih
        obtain ⟨s3', h⟩ := ih
        refine ⟨s3', ?_⟩
        rw [List.map_cons, go_nx (ρ1 := [.d W, .d w, .own (acc.map qD), .d (.str x)]) rfl hb, h]
        simp
def numR (r : Option (List (Int × Nat))) (w : D) : R D := match r with
  | some qs => some (.ok (.tup (qs.map qD)))
  | none => some (.error (badT w))
theorem x_read_numbers {ws : List Str} (w : D) (hl : ∀ x ∈ ws, x.length ≤ 640) (hc : ws.length ≤ 10000) : f_read_numbers [.lst (ws.map D.str), w] = numR (nums ws) w := by
  show outR (b_read_numbers [.d (.lst (ws.map D.str)), .d w, .un, .un]) = _
  unfold b_read_numbers
  rw [seq_own (l := []) rfl]
  dsimp only [List.set]
  have hf : forS (unItE (vS 0)) (setN 3) rnB [.d (.lst (ws.map D.str)), .d w, .own [], .un] = forGo (setN 3) rnB (ws.map D.str) [.d (.lst (ws.map D.str)), .d w, .own [], .un] := for_of rfl
  have h := x_rnGo (.lst (ws.map D.str)) w ws [] .un hl (by simp; omega)
  cases en : nums ws with
  | none =>
    rw [en] at h
    obtain ⟨ρ', h⟩ := h
    rw [seq_er (hf.trans h)]
    rfl
  | some qs =>
    rw [en] at h
    obtain ⟨s3', h⟩ := h
    rw [seq_nx (hf.trans h)]
    rfl
def lineR (word line : Str) : Option (List (Int × Nat)) := match wds line with
  | [] => none
  | x :: ws => if x = word then nums ws else none
theorem split_of {f : EF} {ρ : List Sl} {s : Str} (h : f ρ = some (.ok (.str s))) (hl : s.length ≤ 9000) : splitN f (kS " ") ρ = some (.ok ((wds s).map D.str)) := by
  unfold splitN
  rw [h, bnd_ok]
  show (if (((" " : Str)).length == 0) = false ∧ s.length + 2 ≤ 16777216 then _ else _) = _
  rw [if_pos ⟨by decide, by omega⟩]
theorem cut_tail {α : Type} (x : α) (l : List α) : cutL (x :: l) (some 1) none = l := by
  unfold cutL
  show ((x :: l).drop (HT.sIx (x :: l).length 0 (some ((1 : Nat) : Int)))).take (HT.sIx (x :: l).length (x :: l).length none - HT.sIx (x :: l).length 0 (some ((1 : Nat) : Int))) = _
  rw [HT.sIx_nat, HT.sIx_none]
  simp
theorem x_read_line {line word : Str} (w : D) (h : Ln 400 9000 line) : f_read_line [.str line, .str word, w] = numR (lineR word line) w := by
  show outR (b_read_line [.d (.str line), .d (.str word), .d w, .un]) = _
  unfold b_read_line
  have es : ndE (splitN (vS 0) (kS " ")) [.d (.str line), .d (.str word), .d w, .un] = some (.ok (.lst ((wds line).map D.str))) := by
    show bnd (splitN _ _ _) _ = _
    rw [split_of (s := line) rfl h.len]
    rfl
  rw [seq_asg es]
  dsimp only [List.set]
  obtain ⟨h1, h2, h3⟩ := wds_ok h
  unfold lineR
  cases ew : wds line with
  | nil => exact absurd ew h3
  | cons x ws =>
    rw [ew] at h1 h2
    dsimp only
    have e : (asT (op2 dNe (op2 dIx (vS 3) (kI 0)) (vS 1))) [.d (.str line), .d (.str word), .d w, .d (.lst ((x :: ws).map D.str))] = some (.ok (!decide (x = word))) := by
      refine asT_of (op_of (a := .str x) (b := .str word) (op_of (a := .lst ((x :: ws).map D.str)) (b := .int 0) rfl rfl ?_) rfl rfl)
      show atI ((x :: ws).map D.str) ((0 : Nat) : Int) = _
      rw [PD.atI_nat (by simp)]
      rfl
    by_cases hx : x = word
    · rw [decide_eq_true hx] at e
      rw [seq_F e, seq_nil, if_pos hx]
      have ec : callE f_read_numbers (consA (slE (vS 3) (pS (kI 1)) pN) (consA (vS 2) nilA)) [.d (.str line), .d (.str word), .d w, .d (.lst ((x :: ws).map D.str))] = _ :=
        call_of (l := [.lst (ws.map D.str), w]) (cons_of (sl_of (d := .lst ((x :: ws).map D.str)) (lo := some 1) (hi := none) rfl rfl rfl (by
          show some (D.lst (cutL ((x :: ws).map D.str) (some 1) none)) = _
          rw [List.map_cons, cut_tail])) rfl) (x_read_numbers w (fun y hy => by have := (h1 y (List.mem_cons_of_mem _ hy)).1; omega) (by simp at h2; omega))
      unfold retS
      rw [ec]
      cases nums ws <;> rfl
    · rw [decide_eq_false hx] at e
      rw [seq_T e, seq_er (raise1_of (d := w) rfl), if_neg hx]
      rfl
theorem nums_back : ∀ {ws : List Str} {qs : List (Int × Nat)}, nums ws = some qs → (∀ w ∈ ws, w.length ≤ 400) → qs.map wrS = ws ∧ ∀ q ∈ qs, Nw q
  | [], qs, h, _ => by cases h; exact ⟨rfl, by simp⟩
  | w :: ws, qs, h, hl => by
    unfold nums at h
    cases e : rd (tl w) with
    | none => rw [e] at h; cases h
    | some q =>
      rw [e] at h
      dsimp only at h
      cases en : nums ws with
      | none => rw [en] at h; cases h
      | some r =>
        rw [en] at h
        cases h
        obtain ⟨h1, h2⟩ := nums_back en fun y hy => hl y (List.mem_cons_of_mem _ hy)
        obtain ⟨a1, a2, a3, a4, a5⟩ := wr_rd e
        have hp : (10 : Nat) ^ (tl w).length ≤ 10 ^ 400 := Nat.pow_le_pow_right (by decide) (by rw [← len_tl]; exact hl w (List.mem_cons_self ..))
        refine ⟨by rw [List.map_cons, h1, ext_tl a1], fun y hy => ?_⟩
        rcases List.mem_cons.mp hy with rfl | hy
        · exact ⟨a2, a3, Nat.lt_of_lt_of_le a4 hp, Nat.lt_of_lt_of_le a5 hp⟩
        · exact h2 y hy
theorem nums_wr : ∀ {qs : List (Int × Nat)}, (∀ q ∈ qs, Nw q) → nums (qs.map wrS) = some qs
  | [], _ => rfl
  | q :: qs, h => by
    have hq := h q (List.mem_cons_self ..)
    rw [List.map_cons]
    unfold nums
    rw [rd_wr hq.1 hq.2.1]
    dsimp only
    rw [nums_wr fun y hy => h y (List.mem_cons_of_mem _ hy)]
    rfl
theorem lineR_back {word line : Str} {qs : List (Int × Nat)} (h : lineR word line = some qs) (hl : Ln 400 9000 line) : lineS word qs = line ∧ (∀ q ∈ qs, Nw q) ∧ qs.length ≤ 10000 := by
  obtain ⟨h1, h2, h3⟩ := wds_ok hl
  unfold lineR at h
  cases ew : wds line with
  | nil => exact absurd ew h3
  | cons x ws =>
    rw [ew] at h h1 h2
    dsimp only at h
    split at h
    · rename_i hx
      obtain ⟨a1, a2⟩ := nums_back h fun w hw => (h1 w (List.mem_cons_of_mem _ hw)).1
      refine ⟨?_, a2, ?_⟩
      · show Txt.join " " (word :: qs.map wrS) = line
        rw [a1, ← hx, ← ew, wds_join]
      · have := congrArg List.length a1
        rw [List.length_map] at this
        simp at h2
        omega
    · cases h
theorem lineR_wr {word : Str} {qs : List (Int × Nat)} (hw : 32 ∉ tl word) (h : ∀ q ∈ qs, Nw q) : lineR word (lineS word qs) = some qs := by
  unfold lineR
  rw [join_wds (by simp) (fun p hp => by
    rcases List.mem_cons.mp hp with rfl | hp
    · exact hw
    · obtain ⟨q, _, rfl⟩ := List.mem_map.mp hp
      exact wr_free q)]
  dsimp only
  rw [if_pos rfl, nums_wr h]
end K86
set_option Elab.async false
set_option linter.all false
set_option maxRecDepth 100000
set_option maxHeartbeats 4000000
set_option autoImplicit false
namespace K86
open PySem PySem.Spec L2 PD TL
abbrev Q := Int × Nat
abbrev rowD (qs : List Q) : D := .tup (qs.map qD)
def formsOf (k : Str) : List Str := if k = "best" then ["best", "point", "prices"] else if k = "barred" then ["barred", "prices"] else if k = "endless" then ["endless", "point", "ray"] else []
def heads (k : Str) : Nat := if k = "best" then 1 else 0
def goR (c0 : Nat) (lines : List Str) : List Str → Nat → Except Nat (List (List Q))
  | [], _ => .ok []
  | f :: fs, i => match (lines[i]?).bind (lineR f) with
    | none => .error (i + 1)
    | some qs => if i = 0 ∧ qs.length ≠ c0 then .error 1 else match goR c0 lines fs (i + 1) with
      | .ok r => .ok (qs :: r)
      | .error e => .error e
def firstW (lines : List Str) : Str := match lines with
  | [] => ""
  | l :: _ => match wds l with
    | w :: _ => w
    | [] => ""
inductive Ans where
  | best (q : Q) (a b : List Q) | barred (a : List Q) | endless (a b : List Q)
def mkA (k : Str) (r : List (List Q)) : Option Ans := if k = "best" then (match r with | [[q], a, b] => some (.best q a b) | _ => none) else if k = "barred" then (match r with | [[], a] => some (.barred a) | _ => none) else (match r with | [[], a, b] => some (.endless a b) | _ => none)
def ansD : Ans → D
  | .best q a b => .ins "Best" ["worth", "point", "prices"] [qD q, rowD a, rowD b]
  | .barred a => .ins "Barred" ["prices"] [rowD a]
  | .endless a b => .ins "Endless" ["point", "ray"] [rowD a, rowD b]
def dueD : Ans → D
  | .best q a b => .tup [.str "best", .tup [.tup [qD q], rowD a, rowD b]]
  | .barred a => .tup [.str "barred", .tup [.tup [], rowD a]]
  | .endless a b => .tup [.str "endless", .tup [.tup [], rowD a, rowD b]]
noncomputable def linesA : Ans → List Str
  | .best q a b => [lineS "best" [q], lineS "point" a, lineS "prices" b]
  | .barred a => ["barred", lineS "prices" a]
  | .endless a b => ["endless", lineS "point" a, lineS "ray" b]
def goodN (l : List Q) : Prop := (∀ q ∈ l, Nw q) ∧ l.length ≤ 10000
def goodA : Ans → Prop
  | .best q a b => Nw q ∧ goodN a ∧ goodN b
  | .barred a => goodN a
  | .endless a b => goodN a ∧ goodN b
/-- what the lines tell: an answer, or the first bad line -/
def reading (lines : List Str) : Except Nat Ans := if formsOf (firstW lines) = [] then .error 1 else match goR (heads (firstW lines)) lines (formsOf (firstW lines)) 0 with
  | .error e => .error e
  | .ok r => if lines.length > (formsOf (firstW lines)).length then .error ((formsOf (firstW lines)).length + 1) else match mkA (firstW lines) r with
    | some A => .ok A
    | none => .error 0
theorem goR_len {c0 : Nat} {lines : List Str} : ∀ {fs : List Str} {i : Nat} {r : List (List Q)}, goR c0 lines fs i = .ok r → r.length = fs.length
  | [], i, r, h => by cases h; rfl
  | f :: fs, i, r, h => by
    unfold goR at h
    split at h
    · cases h
    · split at h
      · cases h
      · split at h
        · rename_i r' e
          cases h
          rw [List.length_cons, List.length_cons, goR_len e]
        · cases h
theorem goR_head {c0 : Nat} {lines : List Str} {f : Str} {fs : List Str} {r : List (List Q)} (h : goR c0 lines (f :: fs) 0 = .ok r) : ∃ x y, r = x :: y ∧ x.length = c0 := by
  unfold goR at h
  split at h
  · cases h
  · split at h
    · cases h
    · rename_i hc
      split at h
      · rename_i r' e
        cases h
        refine ⟨_, _, rfl, ?_⟩
        exact Classical.byContradiction fun q => hc ⟨rfl, q⟩
      · cases h
theorem goR_at {c0 : Nat} {lines : List Str} : ∀ {fs : List Str} {i : Nat} {r : List (List Q)}, goR c0 lines fs i = .ok r → ∀ (j : Nat) (f : Str) (x : List Q), fs[j]? = some f → r[j]? = some x → ∃ ln, lines[i + j]? = some ln ∧ lineR f ln = some x
  | [], i, r, h, j, f, x, e, _ => by simp at e
  | f :: fs, i, r, h, j, g, x, e1, e2 => by
    unfold goR at h
    split at h
    · cases h
    · rename_i qs eq
      split at h
      · cases h
      · split at h
        · rename_i r' e
          cases h
          cases j with
          | zero =>
            simp at e1 e2
            subst e1 e2
            cases el : lines[i]? with
            | none => rw [el] at eq; cases eq
            | some ln => rw [el] at eq; exact ⟨ln, rfl, eq⟩
          | succ j =>
            obtain ⟨ln, h1, h2⟩ := goR_at e j g x (by simpa using e1) (by simpa using e2)
            exact ⟨ln, by rw [← h1]; congr 1; omega, h2⟩
        · cases h
/-! ### read_answer -/
abbrev okL (lines : List Str) : Prop := (∀ l ∈ lines, Ln 400 9000 l) ∧ lines.length ≤ 100
def enm (i : Nat) (fs : List Str) : List D := ((fs.map D.str).zipIdx i).map fun p => D.tup [.int (p.2 : Nat), p.1]
theorem enm_cons (i : Nat) (f : Str) (fs : List Str) : enm i (f :: fs) = .tup [.int i, .str f] :: enm (i + 1) fs := rfl
noncomputable abbrev raB : SF := (seqS (ifS (asT (op2 dEq (vS 3) (calE dLen (consA (vS 0) nilA)))) (raiseS "BadText" ["line"] (one1 (op2 dAdd (vS 3) (kI 1)))) nilS) (seqS (metS 2 mAppend (consA (callE f_read_line (consA (op2 dIx (vS 0) (vS 3)) (consA (vS 4) (consA (op2 dAdd (vS 3) (kI 1)) nilA)))) nilA)) (ifS (andT (asT (op2 dEq (vS 3) (kI 0))) (asT (op2 dNe (calE dLen (consA (ixL (vO 2) (kI 0)) nilA)) (un1 (atK dct_HEADS) (vS 1))))) (raiseS "BadText" ["line"] (one1 (kI 1))) nilS)))
abbrev lnD (lines : List Str) : D := .tup (lines.map D.str)
theorem len_lnD (lines : List Str) {f : EF} {ρ : List Sl} (h : f ρ = some (.ok (lnD lines))) : calE dLen (consA f nilA) ρ = some (.ok (.int lines.length)) := by
  refine cal_of (l := [lnD lines]) (cons_of h rfl) ?_
  show some (D.int ((lines.map D.str).length : Nat)) = _
  rw [List.length_map]
theorem ix_lnD {lines : List Str} {i : Nat} {ln : Str} (h : lines[i]? = some ln) : dIx (lnD lines) (.int i) = some (.str ln) := by
  obtain ⟨hi, e⟩ := List.getElem?_eq_some_iff.mp h
  show atI (lines.map D.str) (i : Int) = _
  rw [PD.atI_nat (by simpa using hi)]
  simp [e]
theorem ev_eqn {f g : EF} {ρ : List Sl} {a b : Nat} (h1 : f ρ = some (.ok (.int a))) (h2 : g ρ = some (.ok (.int b))) : (asT (op2 dEq f g)) ρ = some (.ok (decide (a = b))) := by
  refine asT_of (op_of h1 h2 ?_)
  show some (D.bl (decide ((a : Int) = b))) = _
  rw [decide_eq_decide.mpr (show (a : Int) = b ↔ a = b by omega)]
theorem ev_nen {f g : EF} {ρ : List Sl} {a b : Nat} (h1 : f ρ = some (.ok (.int a))) (h2 : g ρ = some (.ok (.int b))) : (asT (op2 dNe f g)) ρ = some (.ok (!decide (a = b))) := by
  refine asT_of (op_of h1 h2 ?_)
  show some (D.bl (!decide ((a : Int) = b))) = _
  rw [decide_eq_decide.mpr (show (a : Int) = b ↔ a = b by omega)]
theorem x_raGo {lines : List Str} (hL : okL lines) {kind : Str} {c0 : Nat} (hk : dct_HEADS kind = some (.int c0)) : ∀ (fs : List Str) (i : Nat) (told : List (List Q)) (s3 s4 : Sl), told.length = i → i ≤ lines.length →
    match goR c0 lines fs i with
    | .error n => ∃ ρ', forGo (tupN 2 (consN (setN 3) (consN (setN 4) nilN))) raB (enm i fs) [.d (lnD lines), .d (.str kind), .own (told.map rowD), s3, s4] = some (.er (badT (.int n)) ρ')
    | .ok r => ∃ s3' s4', forGo (tupN 2 (consN (setN 3) (consN (setN 4) nilN))) raB (enm i fs) [.d (lnD lines), .d (.str kind), .own (told.map rowD), s3, s4] = some (.nx [.d (lnD lines), .d (.str kind), .own ((told ++ r).map rowD), s3', s4'])
  | [], i, told, s3, s4, ht, hi => ⟨s3, s4, by rw [List.append_nil]; rfl⟩
  | f :: fs, i, told, s3, s4, ht, hi => by
    have e1 := ev_eqn (f := vS 3) (g := calE dLen (consA (vS 0) nilA)) (ρ := [.d (lnD lines), .d (.str kind), .own (told.map rowD), .d (.int i), .d (.str f)]) (a := i) (b := lines.length) rfl (len_lnD lines rfl)
    unfold goR
    cases el : lines[i]? with
    | none =>
      dsimp only [Option.bind]
      have : i = lines.length := by
        have := List.getElem?_eq_none_iff.mp el
        omega
      rw [decide_eq_true this] at e1
      refine ⟨[.d (lnD lines), .d (.str kind), .own (told.map rowD), .d (.int i), .d (.str f)], ?_⟩
      rw [enm_cons]
      refine go_er (ρ1 := [.d (lnD lines), .d (.str kind), .own (told.map rowD), .d (.int i), .d (.str f)]) rfl ?_
      unfold raB
      rw [seq_T e1, seq_er (raise1_of (d := .int ((i + 1 : Nat) : Int)) (op_of (a := .int i) (b := .int 1) rfl rfl rfl))]
    | some ln =>
      dsimp only [Option.bind]
      obtain ⟨hlt, eln⟩ := List.getElem?_eq_some_iff.mp el
      rw [decide_eq_false (by omega)] at e1
      have hln : Ln 400 9000 ln := hL.1 ln (by rw [← eln]; exact List.getElem_mem hlt)
      have ec : callE f_read_line (consA (op2 dIx (vS 0) (vS 3)) (consA (vS 4) (consA (op2 dAdd (vS 3) (kI 1)) nilA))) [.d (lnD lines), .d (.str kind), .own (told.map rowD), .d (.int i), .d (.str f)] = numR (lineR f ln) (.int ((i + 1 : Nat) : Int)) :=
        call_of (l := [.str ln, .str f, .int ((i + 1 : Nat) : Int)]) (cons_of (op_of (a := lnD lines) (b := .int i) rfl rfl (ix_lnD el)) (cons_of rfl (cons_of (op_of (a := .int i) (b := .int 1) rfl rfl rfl) rfl))) (x_read_line _ hln)
      cases er : lineR f ln with
      | none =>
        rw [er] at ec
        dsimp only
        refine ⟨[.d (lnD lines), .d (.str kind), .own (told.map rowD), .d (.int i), .d (.str f)], ?_⟩
        rw [enm_cons]
        refine go_er (ρ1 := [.d (lnD lines), .d (.str kind), .own (told.map rowD), .d (.int i), .d (.str f)]) rfl ?_
        unfold raB
        rw [seq_F e1, seq_nil, seq_er (met_er (l := told.map rowD) rfl (cons_er ec))]
      | some qs =>
        rw [er] at ec
        dsimp only
        have hm : metS 2 mAppend (consA (callE f_read_line (consA (op2 dIx (vS 0) (vS 3)) (consA (vS 4) (consA (op2 dAdd (vS 3) (kI 1)) nilA)))) nilA) [.d (lnD lines), .d (.str kind), .own (told.map rowD), .d (.int i), .d (.str f)] = some (.nx [.d (lnD lines), .d (.str kind), .own ((told ++ [qs]).map rowD), .d (.int i), .d (.str f)]) := by
          rw [met_of (l := told.map rowD) (ds := [rowD qs]) rfl (cons_of ec rfl) (app_of (by rw [List.length_map]; have := hL.2; omega)), List.map_append]
          rfl
        have et : (andT (asT (op2 dEq (vS 3) (kI 0))) (asT (op2 dNe (calE dLen (consA (ixL (vO 2) (kI 0)) nilA)) (un1 (atK dct_HEADS) (vS 1))))) [.d (lnD lines), .d (.str kind), .own ((told ++ [qs]).map rowD), .d (.int i), .d (.str f)] = some (.ok (decide (i = 0) && !decide (qs.length = c0))) := by
          by_cases hi0 : i = 0
          · subst hi0
            have ht0 : told = [] := List.eq_nil_of_length_eq_zero ht
            subst ht0
            refine andd_of (ev_eqn (a := 0) (b := 0) rfl rfl) (ev_nen (a := qs.length) (b := c0) ?_ (un_of (a := .str kind) rfl hk))
            refine cal_of (l := [rowD qs]) rfl ?_
            show some (D.int ((qs.map qD).length : Nat)) = _
            rw [List.length_map]
          · have e0 := ev_eqn (f := vS 3) (g := kI 0) (ρ := [.d (lnD lines), .d (.str kind), .own ((told ++ [qs]).map rowD), .d (.int i), .d (.str f)]) (a := i) (b := 0) rfl rfl
            rw [decide_eq_false hi0] at e0 ⊢
            rw [and_F e0]
            rfl
        by_cases hh : i = 0 ∧ qs.length ≠ c0
        · rw [if_pos hh]
          dsimp only
          rw [decide_eq_true hh.1, decide_eq_false hh.2] at et
          refine ⟨[.d (lnD lines), .d (.str kind), .own ((told ++ [qs]).map rowD), .d (.int i), .d (.str f)], ?_⟩
          rw [enm_cons]
          refine go_er (ρ1 := [.d (lnD lines), .d (.str kind), .own (told.map rowD), .d (.int i), .d (.str f)]) rfl ?_
          unfold raB
          rw [seq_F e1, seq_nil, seq_nx hm, if_T et]
          exact raise1_of rfl
        · rw [if_neg hh]
          have hb : raB [.d (lnD lines), .d (.str kind), .own (told.map rowD), .d (.int i), .d (.str f)] = some (.nx [.d (lnD lines), .d (.str kind), .own ((told ++ [qs]).map rowD), .d (.int i), .d (.str f)]) := by
            have : (decide (i = 0) && !decide (qs.length = c0)) = false := by
              by_cases h0 : i = 0
              · have : qs.length = c0 := Classical.byContradiction fun q => hh ⟨h0, q⟩
                simp [this]
              · simp [h0]
            rw [this] at et
            unfold raB
            rw [seq_F e1, seq_nil, seq_nx hm, if_F et]
            rfl
          have ih := x_raGo hL hk fs (i + 1) (told ++ [qs]) (.d (.int i)) (.d (.str f)) (by simp [ht]) (by omega)
          rw [enm_cons]
          rw [go_nx (ρ1 := [.d (lnD lines), .d (.str kind), .own (told.map rowD), .d (.int i), .d (.str f)]) rfl hb]
          cases eg : goR c0 lines fs (i + 1) with
          | error n =>
            rw [eg] at ih
            exact ih
          | ok r =>
            rw [eg] at ih
            obtain ⟨s3', s4', h⟩ := ih
            refine ⟨s3', s4', ?_⟩
            rw [h]
            simp
theorem kinds (k : Str) : (k = "best" ∨ k = "barred" ∨ k = "endless") ∨ formsOf k = [] ∧ dct_PARTS k = none := by
  by_cases h1 : k = "best"
  · exact .inl (.inl h1)
  · by_cases h2 : k = "barred"
    · exact .inl (.inr (.inl h2))
    · by_cases h3 : k = "endless"
      · exact .inl (.inr (.inr h3))
      · refine .inr ⟨?_, ?_⟩
        · unfold formsOf
          rw [if_neg h1, if_neg h2, if_neg h3]
        · unfold dct_PARTS
          rw [if_neg h1, if_neg h2, if_neg h3]
theorem len1 {l : List Q} (h : l.length = 1) : ∃ q, l = [q] := by
  match l, h with
  | [q], _ => exact ⟨q, rfl⟩
def ansR (r : Except Nat Ans) : R D := match r with
  | .error n => some (.error (badT (.int n)))
  | .ok A => some (.ok (ansD A))
end K86
set_option Elab.async false
set_option linter.all false
set_option maxRecDepth 100000
set_option maxHeartbeats 4000000
set_option autoImplicit false
namespace K86
open PySem PySem.Spec L2 PD TL
theorem x_Best (a b c : D) : c_Best [a, b, c] = some (.ok (.ins "Best" ["worth", "point", "prices"] [a, b, c])) := by rfl
theorem x_Barred (a : D) : c_Barred [a] = some (.ok (.ins "Barred" ["prices"] [a])) := by rfl
theorem x_Endless (a b : D) : c_Endless [a, b] = some (.ok (.ins "Endless" ["point", "ray"] [a, b])) := by rfl
theorem kind_facts {k : Str} (h : k = "best" ∨ k = "barred" ∨ k = "endless") : dct_PARTS k = some (.tup ((formsOf k).map D.str)) ∧ dct_HEADS k = some (.int (heads k)) ∧ formsOf k ≠ [] ∧ (formsOf k).length ≤ 3 := by
  rcases h with rfl | rfl | rfl
  · exact ⟨rfl, rfl, by decide, by decide⟩
  · exact ⟨rfl, rfl, by decide, by decide⟩
  · exact ⟨rfl, rfl, by decide, by decide⟩
theorem first_of {lines : List Str} (hL : okL lines) {f : EF} {ρ : List Sl} (h : f ρ = some (.ok (lnD lines))) (h0 : lines ≠ []) : ixL (splitN (op2 dIx f (kI 0)) (kS " ")) (kI 0) ρ = some (.ok (.str (firstW lines))) := by
  cases lines with
  | nil => exact absurd rfl h0
  | cons l r =>
    have hl := hL.1 l (List.mem_cons_self ..)
    have e1 : op2 dIx f (kI 0) ρ = some (.ok (.str l)) := op_of (a := lnD (l :: r)) (b := .int 0) h rfl (ix_lnD (i := 0) rfl)
    obtain ⟨_, _, h3⟩ := wds_ok hl
    unfold ixL
    rw [split_of e1 hl.len, bnd_ok, bnd_ok]
    unfold firstW
    dsimp only
    cases ew : wds l with
    | nil => exact absurd ew h3
    | cons w ws =>
      show opt (atI ((w :: ws).map D.str) ((0 : Nat) : Int)) = _
      rw [PD.atI_nat (by simp)]
      rfl
theorem kind_of {lines : List Str} (hL : okL lines) (s1 s2 s3 s4 : Sl) : ifE (asT (op2 dGt (calE dLen (consA (vS 0) nilA)) (kI 0))) (ixL (splitN (op2 dIx (vS 0) (kI 0)) (kS " ")) (kI 0)) (kS "") [.d (lnD lines), s1, s2, s3, s4] = some (.ok (.str (firstW lines))) := by
  have e : (asT (op2 dGt (calE dLen (consA (vS 0) nilA)) (kI 0))) [.d (lnD lines), s1, s2, s3, s4] = some (.ok (decide ((0 : Int) < lines.length))) := asT_of (op_of (a := .int lines.length) (b := .int 0) (len_lnD lines rfl) rfl rfl)
  unfold ifE
  rw [e, bnd_ok]
  cases lines with
  | nil => rfl
  | cons l r =>
    have : decide ((0 : Int) < (l :: r).length) = true := by simp
    rw [this, if_pos rfl]
    exact first_of hL rfl (by simp)
theorem reading_bad {lines : List Str} (h : formsOf (firstW lines) = []) : reading lines = .error 1 := by unfold reading; rw [if_pos h]
theorem reading_go {lines : List Str} (h : formsOf (firstW lines) ≠ []) : reading lines = match goR (heads (firstW lines)) lines (formsOf (firstW lines)) 0 with
  | .error e => .error e
  | .ok r => if lines.length > (formsOf (firstW lines)).length then .error ((formsOf (firstW lines)).length + 1) else match mkA (firstW lines) r with
    | some A => .ok A
    | none => .error 0 := by
  unfold reading
  rw [if_neg h]
  all_goals (cases goR (heads (firstW lines)) lines (formsOf (firstW lines)) 0 <;> rfl)
theorem forms_ne {k : Str} (h : formsOf k ≠ []) : k = "best" ∨ k = "barred" ∨ k = "endless" := by
  rcases kinds k with q | q
  · exact q
  · exact absurd q.1 h
/-- the shapes of what is told -/
theorem shapes {k : Str} (hk : k = "best" ∨ k = "barred" ∨ k = "endless") {lines : List Str} {r : List (List Q)} (h : goR (heads k) lines (formsOf k) 0 = .ok r) :
    (k = "best" ∧ ∃ q a b, r = [[q], a, b]) ∨ (k = "barred" ∧ ∃ a, r = [[], a]) ∨ (k = "endless" ∧ ∃ a b, r = [[], a, b]) := by
  have hl := goR_len h
  rcases hk with rfl | rfl | rfl
  · obtain ⟨x, y, rfl, hx⟩ := goR_head (f := "best") (fs := ["point", "prices"]) h
    obtain ⟨q, rfl⟩ := len1 hx
    have hl' : y.length = 2 := by
      have h3 : y.length + 1 = 3 := hl
      omega
    match y, hl' with
    | [a, b], _ => exact .inl ⟨rfl, q, a, b, rfl⟩
  · obtain ⟨x, y, rfl, hx⟩ := goR_head (f := "barred") (fs := ["prices"]) h
    cases List.eq_nil_of_length_eq_zero hx
    have hl' : y.length = 1 := by
      have h3 : y.length + 1 = 2 := hl
      omega
    match y, hl' with
    | [a], _ => exact .inr (.inl ⟨rfl, a, rfl⟩)
  · obtain ⟨x, y, rfl, hx⟩ := goR_head (f := "endless") (fs := ["point", "ray"]) h
    cases List.eq_nil_of_length_eq_zero hx
    have hl' : y.length = 2 := by
      have h3 : y.length + 1 = 3 := hl
      omega
    match y, hl' with
    | [a, b], _ => exact .inr (.inr ⟨rfl, a, b, rfl⟩)
theorem x_read_answer {lines : List Str} (hL : okL lines) : f_read_answer [lnD lines] = ansR (reading lines) := by
  show outR (b_read_answer [.d (lnD lines), .un, .un, .un, .un]) = _
  unfold b_read_answer
  rw [seq_asg (kind_of hL .un .un .un .un)]
  dsimp only [List.set]
  have en : notInK dct_PARTS (vS 1) [.d (lnD lines), .d (.str (firstW lines)), .un, .un, .un] = some (.ok (!(dct_PARTS (firstW lines)).isSome)) := rfl
  rcases kinds (firstW lines) with hk | ⟨hk, hp⟩
  · obtain ⟨hp, hh, hf, h3⟩ := kind_facts hk
    rw [reading_go hf]
    rw [hp] at en
    rw [seq_F en, seq_nil, seq_own (l := []) rfl]
    dsimp only [List.set]
    have ei : enumA (unItE (un1 (atK dct_PARTS) (vS 1))) [.d (lnD lines), .d (.str (firstW lines)), .own [], .un, .un] = some (.ok (enm 0 (formsOf (firstW lines)))) := by
      show bnd (bnd (un1 (atK dct_PARTS) (vS 1) _) unIt) _ = _
      rw [un_of (a := .str (firstW lines)) (c := .tup ((formsOf (firstW lines)).map D.str)) rfl hp]
      rfl
    have hg := x_raGo hL hh (formsOf (firstW lines)) 0 [] .un .un rfl (Nat.zero_le _)
    cases eg : goR (heads (firstW lines)) lines (formsOf (firstW lines)) 0 with
    | error n =>
      rw [eg] at hg
      obtain ⟨ρ', h⟩ := hg
      rw [seq_er ((for_of ei).trans h)]
      rfl
    | ok r =>
      rw [eg] at hg
      obtain ⟨s3', s4', h⟩ := hg
      rw [List.nil_append] at h
      have hrl := goR_len eg
      dsimp only
      rw [seq_nx ((for_of ei).trans h)]
      have el : (asT (op2 dGt (calE dLen (consA (vS 0) nilA)) (calE lLen (vO 2)))) [.d (lnD lines), .d (.str (firstW lines)), .own (r.map rowD), s3', s4'] = some (.ok (decide ((formsOf (firstW lines)).length < lines.length))) := by
        refine asT_of (op_of (a := .int lines.length) (b := .int r.length) (len_lnD lines rfl) (cal_of (l := r.map rowD) rfl (by show some (D.int ((r.map rowD).length : Nat)) = _; rw [List.length_map])) ?_)
        show some (D.bl (decide ((r.length : Int) < lines.length))) = _
        rw [hrl]
        rw [decide_eq_decide.mpr (show ((formsOf (firstW lines)).length : Int) < lines.length ↔ (formsOf (firstW lines)).length < lines.length by omega)]
      by_cases hh2 : lines.length > (formsOf (firstW lines)).length
      · rw [decide_eq_true hh2] at el
        rw [if_pos hh2, seq_T el, seq_er (raise1_of (d := .int (((formsOf (firstW lines)).length + 1 : Nat) : Int)) (op_of (a := .int r.length) (b := .int 1) (cal_of (l := r.map rowD) rfl (by show some (D.int ((r.map rowD).length : Nat)) = _; rw [List.length_map])) rfl (by
          show some (D.int ((r.length : Int) + 1)) = _
          rw [hrl]
          rfl)))]
        rfl
      · rw [decide_eq_false hh2] at el
        rw [if_neg hh2, seq_F el, seq_nil]
        rcases shapes hk eg with ⟨e, q, a, b, rfl⟩ | ⟨e, a, rfl⟩ | ⟨e, a, b, rfl⟩
        · rw [e]
          rfl
        · rw [e]
          rfl
        · rw [e]
          rfl
  · rw [hp] at en
    rw [reading_bad hk, seq_T en, seq_er (raise1_of (d := .int 1) rfl)]
    rfl
/-! ### _law_told, _law_only_bad -/
def toldD (r : Except Nat Ans) : D := match r with
  | .error n => .tup [.str "bad", .int n]
  | .ok A => dueD A
theorem x_law_told {lines : List Str} (hL : okL lines) : f__law_told [lnD lines] = some (.ok (toldD (reading lines))) := by
  show outR (b__law_told [.d (lnD lines), .un, .un]) = _
  unfold b__law_told
  have ec : callE f_read_answer (consA (vS 0) nilA) [.d (lnD lines), .un, .un] = _ := call_of (l := [lnD lines]) rfl (x_read_answer hL)
  cases er : reading lines with
  | error n =>
    rw [er] at ec
    rw [seq_rt (d := .tup [.str "bad", .int n])]
    · rfl
    · refine tryA_of (e := badT (.int n)) (ρ' := [.d (lnD lines), .un, .un]) (asg_er ec) rfl fun a c d => ?_
      have : exE a c d ["BadText"] "line" 2 [.d (lnD lines), .un, .exc a (badT (.int n)) c d] = some (.ok (.int n)) := by
        unfold exE
        show (if a = a ∧ c = c ∧ d = d ∧ ("BadText" : Str) ∈ (["BadText"] : List Str) then _ else _) = _
        rw [if_pos ⟨rfl, rfl, rfl, by simp⟩]
        rfl
      show (retS (tupE (consA (kS "bad") (consA (exE a c d ["BadText"] "line" 2) nilA))) [.d (lnD lines), .un, .exc a (badT (.int n)) c d]).bind (unO 2) = _
      rw [ret_of (d := .tup [.str "bad", .int n])]
      · rfl
      · show bnd _ tupR = _
        rw [cons_of (d := .str "bad") rfl (cons_of this rfl)]
        rfl
  | ok A =>
    rw [er] at ec
    have et : tryA 2 is_BadText (asgS 1 (callE f_read_answer (consA (vS 0) nilA))) (fun ad cls dd => (retS (tupE (consA (kS "bad") (consA (exE ad cls dd ["BadText"] "line" 2) nilA))))) [.d (lnD lines), .un, .un] = some (.nx [.d (lnD lines), .d (ansD A), .un]) := by
      unfold tryA
      rw [asg_of ec]
      rfl
    rw [seq_nx et]
    cases A <;> rfl
theorem x_only_bad {lines : List Str} (hL : okL lines) {n : Nat} (h : reading lines = .error n) : f__law_only_bad [lnD lines] = some (.ok (.bl true)) := by
  show outR (b__law_only_bad [.d (lnD lines), .un]) = _
  unfold b__law_only_bad
  have ec : callE f_read_answer (consA (vS 0) nilA) [.d (lnD lines), .un] = _ := call_of (l := [lnD lines]) rfl (x_read_answer hL)
  rw [h] at ec
  have ed : dropS (callE f_read_answer (consA (vS 0) nilA)) [.d (lnD lines), .un] = some (.er (badT (.int n)) [.d (lnD lines), .un]) := by
    unfold dropS thnS
    rw [ec]
    rfl
  rw [seq_rt (d := .bl true)]
  · rfl
  · refine tryA_of (e := badT (.int n)) (ρ' := [.d (lnD lines), .un]) ed rfl fun a c d => ?_
    have ex : ∀ (h : Str → Option Bool) (b : Bool), h "BadText" = some b → exI a c d h 1 [.d (lnD lines), .exc a (badT (.int n)) c d] = some (.ok (.bl b)) := by
      intro h b hb
      unfold exI
      show (if a = a ∧ c = c ∧ d = d then opt ((h "BadText").map D.bl) else none) = _
      rw [if_pos ⟨rfl, rfl, rfl⟩, hb]
      rfl
    show (retS (andE (exI a c d is_BadText 1) (andE (exI a c d is_ValueError 1) (notE (exI a c d is_BadNumber 1)))) [.d (lnD lines), .exc a (badT (.int n)) c d]).bind (unO 1) = _
    rw [ret_of (d := .bl true)]
    · rfl
    · unfold andE notE
      rw [ex is_BadText true rfl, ex is_ValueError true rfl, ex is_BadNumber false rfl]
      rfl
/-! ### write_answer -/
theorem x_write_answer {A : Ans} (h : goodA A) : f_write_answer [ansD A] = some (.ok (lnD (linesA A))) := by
  show outR (b_write_answer [.d (ansD A), .un]) = _
  unfold b_write_answer
  have nl : ∀ (w : Str) (qs : List Q) (f g : EF) (ρ : List Sl), w.length ≤ 1000 → goodN qs → f ρ = some (.ok (.str w)) → g ρ = some (.ok (rowD qs)) → callE f_number_line (consA f (consA g nilA)) ρ = some (.ok (.str (lineS w qs))) :=
    fun w qs f g ρ hw hq hf hg => call_of (l := [.str w, rowD qs]) (cons_of hf (cons_of hg rfl)) (x_number_line true hw hq.1 hq.2)
  cases A with
  | best q a b =>
    rw [seq_T (show (asT (isiE (isOwn "Best" clsAll) (vS 0))) [.d (ansD (.best q a b)), .un] = some (.ok true) by rfl), seq_seq]
    rw [seq_asg (nl "best" [q] _ _ _ (by decide) ⟨fun x hx => by rw [List.mem_singleton.mp hx]; exact h.1, by simp⟩ rfl rfl)]
    dsimp only [List.set]
    rw [seq_ret (d := lnD (linesA (.best q a b)))]
    · rfl
    · show bnd _ tupR = _
      rw [cons_of (d := .str (lineS "best" [q])) rfl (cons_of (nl "point" a _ _ _ (by decide) h.2.1 rfl rfl) (cons_of (nl "prices" b _ _ _ (by decide) h.2.2 rfl rfl) rfl))]
      rfl
  | barred a =>
    rw [seq_F (show (asT (isiE (isOwn "Best" clsAll) (vS 0))) [.d (ansD (.barred a)), .un] = some (.ok false) by rfl), seq_nil]
    rw [seq_T (show (asT (isiE (isOwn "Barred" clsAll) (vS 0))) [.d (ansD (.barred a)), .un] = some (.ok true) by rfl)]
    rw [seq_ret (d := lnD (linesA (.barred a)))]
    · rfl
    · show bnd _ tupR = _
      rw [cons_of (d := .str "barred") rfl (cons_of (nl "prices" a _ _ _ (by decide) h rfl rfl) rfl)]
      rfl
  | endless a b =>
    rw [seq_F (show (asT (isiE (isOwn "Best" clsAll) (vS 0))) [.d (ansD (.endless a b)), .un] = some (.ok false) by rfl), seq_nil]
    rw [seq_F (show (asT (isiE (isOwn "Barred" clsAll) (vS 0))) [.d (ansD (.endless a b)), .un] = some (.ok false) by rfl), seq_nil]
    rw [ret_of (d := lnD (linesA (.endless a b)))]
    · rfl
    · show bnd _ tupR = _
      rw [cons_of (d := .str "endless") rfl (cons_of (nl "point" a _ _ _ (by decide) h.1 rfl rfl) (cons_of (nl "ray" b _ _ _ (by decide) h.2 rfl rfl) rfl))]
      rfl
/-! ### there and back -/
theorem list3 {α : Type} {l : List α} {a b c : α} (h : l.length ≤ 3) (h0 : l[0]? = some a) (h1 : l[1]? = some b) (h2 : l[2]? = some c) : l = [a, b, c] := by
  match l, h with
  | [x, y, z], _ => simp at h0 h1 h2; rw [h0, h1, h2]
  | [x, y], _ => simp at h2
  | [x], _ => simp at h2
  | [], _ => simp at h2
theorem list2 {α : Type} {l : List α} {a b : α} (h : l.length ≤ 2) (h0 : l[0]? = some a) (h1 : l[1]? = some b) : l = [a, b] := by
  match l, h with
  | [x, y], _ => simp at h0 h1; rw [h0, h1]
  | [x], _ => simp at h1
  | [], _ => simp at h1
theorem lineS_nil (w : Str) : lineS w [] = w := rfl
theorem reading_back {lines : List Str} {A : Ans} (hL : okL lines) (h : reading lines = .ok A) : linesA A = lines ∧ goodA A := by
  by_cases hf : formsOf (firstW lines) = []
  · rw [reading_bad hf] at h
    cases h
  · rw [reading_go hf] at h
    cases eg : goR (heads (firstW lines)) lines (formsOf (firstW lines)) 0 with
    | error n => rw [eg] at h; cases h
    | ok r =>
      rw [eg] at h
      dsimp only at h
      have at_ : ∀ (j : Nat) (f : Str) (x : List Q), (formsOf (firstW lines))[j]? = some f → r[j]? = some x → lines[j]? = some (lineS f x) ∧ goodN x := by
        intro j f x e1 e2
        obtain ⟨ln, h1, h2⟩ := goR_at eg j f x e1 e2
        rw [Nat.zero_add] at h1
        obtain ⟨hi, e⟩ := List.getElem?_eq_some_iff.mp h1
        obtain ⟨h3, h4, h5⟩ := lineR_back h2 (hL.1 ln (by rw [← e]; exact List.getElem_mem hi))
        exact ⟨by rw [h1, h3], h4, h5⟩
      split at h
      · cases h
      · rename_i hl
        rcases shapes (forms_ne hf) eg with ⟨e, q, a, b, rfl⟩ | ⟨e, a, rfl⟩ | ⟨e, a, b, rfl⟩
        · rw [e] at h at_ hl
          have h' : A = .best q a b := (Except.ok.inj h).symm
          subst h'
          have e0 := at_ 0 "best" [q] rfl rfl
          have e1 := at_ 1 "point" a rfl rfl
          have e2 := at_ 2 "prices" b rfl rfl
          have hl' : lines.length ≤ 3 := by
            have : (formsOf ("best" : Str)).length = 3 := rfl
            omega
          exact ⟨(list3 hl' e0.1 e1.1 e2.1).symm, e0.2.1 q (by simp), e1.2, e2.2⟩
        · rw [e] at h at_ hl
          have h' : A = .barred a := (Except.ok.inj h).symm
          subst h'
          have e0 := at_ 0 "barred" [] rfl rfl
          have e1 := at_ 1 "prices" a rfl rfl
          have hl' : lines.length ≤ 2 := by
            have : (formsOf ("barred" : Str)).length = 2 := rfl
            omega
          exact ⟨(list2 hl' e0.1 e1.1).symm, e1.2⟩
        · rw [e] at h at_ hl
          have h' : A = .endless a b := (Except.ok.inj h).symm
          subst h'
          have e0 := at_ 0 "endless" [] rfl rfl
          have e1 := at_ 1 "point" a rfl rfl
          have e2 := at_ 2 "ray" b rfl rfl
          have hl' : lines.length ≤ 3 := by
            have : (formsOf ("endless" : Str)).length = 3 := rfl
            omega
          exact ⟨(list3 hl' e0.1 e1.1 e2.1).symm, e1.2, e2.2⟩
theorem firstW_line {w : Str} {qs : List Q} {r : List Str} (hw : 32 ∉ tl w) : firstW (lineS w qs :: r) = w := by
  unfold firstW
  dsimp only
  rw [join_wds (by simp) (fun p hp => by
    rcases List.mem_cons.mp hp with rfl | hp
    · exact hw
    · obtain ⟨q, _, rfl⟩ := List.mem_map.mp hp
      exact wr_free q)]
theorem goR_step {c0 : Nat} {lines fs : List Str} {f ln : Str} {i : Nat} {qs : List Q} {r : List (List Q)} (h1 : lines[i]? = some ln) (h2 : lineR f ln = some qs) (h3 : i = 0 → qs.length = c0) (h4 : goR c0 lines fs (i + 1) = .ok r) : goR c0 lines (f :: fs) i = .ok (qs :: r) := by
  unfold goR
  rw [h1]
  dsimp only [Option.bind]
  rw [h2]
  dsimp only
  rw [if_neg (fun q => q.2 (h3 q.1)), h4]
theorem reading_lines {A : Ans} (h : goodA A) : reading (linesA A) = .ok A := by
  cases A with
  | best q a b =>
    have hf : firstW (linesA (.best q a b)) = "best" := firstW_line (by decide)
    rw [reading_go (by rw [hf]; decide), hf]
    have hg : goR (heads "best") (linesA (.best q a b)) (formsOf "best") 0 = .ok [[q], a, b] :=
      goR_step rfl (lineR_wr (by decide) fun x hx => by rw [List.mem_singleton.mp hx]; exact h.1) (fun _ => rfl) (goR_step rfl (lineR_wr (by decide) h.2.1.1) (fun z => by cases z) (goR_step rfl (lineR_wr (by decide) h.2.2.1) (fun z => by cases z) rfl))
    rw [hg]
    rfl
  | barred a =>
    have hf : firstW (linesA (.barred a)) = "barred" := firstW_line (qs := []) (by decide)
    rw [reading_go (by rw [hf]; decide), hf]
    have hg : goR (heads "barred") (linesA (.barred a)) (formsOf "barred") 0 = .ok [[], a] :=
      goR_step rfl (lineR_wr (qs := []) (by decide) (by simp)) (fun _ => rfl) (goR_step rfl (lineR_wr (by decide) h.1) (fun z => by cases z) rfl)
    rw [hg]
    rfl
  | endless a b =>
    have hf : firstW (linesA (.endless a b)) = "endless" := firstW_line (qs := []) (by decide)
    rw [reading_go (by rw [hf]; decide), hf]
    have hg : goR (heads "endless") (linesA (.endless a b)) (formsOf "endless") 0 = .ok [[], a, b] :=
      goR_step rfl (lineR_wr (qs := []) (by decide) (by simp)) (fun _ => rfl) (goR_step rfl (lineR_wr (by decide) h.1.1) (fun z => by cases z) (goR_step rfl (lineR_wr (by decide) h.2.1) (fun z => by cases z) rfl))
    rw [hg]
    rfl
end K86
set_option Elab.async false
set_option linter.all false
set_option maxRecDepth 100000
set_option maxHeartbeats 4000000
set_option autoImplicit false
namespace K86
open PySem PySem.Spec L2 PD TL
theorem x_law_forms (k : Str) : f__law_forms [.str k] = some (.ok (.lst ((formsOf k).map D.str))) := by
  show outR (b__law_forms [.d (.str k)]) = _
  unfold b__law_forms formsOf
  have e : ∀ z : Str, (asT (op2 dEq (vS 0) (kS z))) [.d (.str k)] = some (.ok (decide (k = z))) := fun z => asT_of (op_of (a := .str k) (b := .str z) rfl rfl rfl)
  by_cases h1 : k = "best"
  · have e1 := e "best"
    rw [decide_eq_true h1] at e1
    rw [seq_T e1, if_pos h1]
    rfl
  · have e1 := e "best"
    rw [decide_eq_false h1] at e1
    rw [seq_F e1, seq_nil, if_neg h1]
    by_cases h2 : k = "barred"
    · have e1 := e "barred"
      rw [decide_eq_true h2] at e1
      rw [seq_T e1, if_pos h2]
      rfl
    · have e1 := e "barred"
      rw [decide_eq_false h2] at e1
      rw [seq_F e1, seq_nil, if_neg h2]
      by_cases h3 : k = "endless"
      · have e1 := e "endless"
        rw [decide_eq_true h3] at e1
        rw [seq_T e1, if_pos h3]
        rfl
      · have e1 := e "endless"
        rw [decide_eq_false h3] at e1
        rw [seq_F e1, seq_nil, if_neg h3]
        rfl
/-! ### None in numbers -/
abbrev nD (w : Str) : D := qN (rd (tl w))
theorem any_none : ∀ ws : List Str, (ws.any fun w => (rd (tl w)).isNone) = (nums ws).isNone
  | [] => rfl
  | w :: ws => by
    rw [List.any_cons]
    unfold nums
    cases e : rd (tl w) with
    | none => rfl
    | some q =>
      dsimp only
      rw [any_none ws]
      cases nums ws <;> rfl
theorem nums_map : ∀ {ws : List Str} {qs : List Q}, nums ws = some qs → ws.map nD = qs.map qD
  | [], qs, h => by cases h; rfl
  | w :: ws, qs, h => by
    unfold nums at h
    cases e : rd (tl w) with
    | none => rw [e] at h; cases h
    | some q =>
      rw [e] at h
      dsimp only at h
      cases en : nums ws with
      | none => rw [en] at h; cases h
      | some r =>
        rw [en] at h
        cases h
        rw [List.map_cons, List.map_cons, nums_map en]
        show qN (rd (tl w)) :: _ = _
        rw [e]
        rfl
def pyN (q : Option Q) : PyData := match q with
  | some q => .tuple [.int q.1, .int (q.2 : Int)]
  | none => .none
theorem toPy_nD (w : Str) : toPy (nD w) = some (pyN (rd (tl w))) := by
  unfold nD
  cases rd (tl w) with
  | none => rfl
  | some q => rfl
theorem toPyL_nD : ∀ ws : List Str, toPyL (ws.map nD) = some (ws.map fun w => pyN (rd (tl w)))
  | [] => rfl
  | w :: ws => by
    rw [List.map_cons]
    unfold toPyL
    rw [toPy_nD, toPyL_nD ws]
    rfl
theorem pyN_ok (q : Option Q) : (pyN q).canLay0 = true ∧ (pyN q).depth ≤ 1 := by
  cases q with
  | none => exact ⟨rfl, by decide⟩
  | some q => exact ⟨rfl, by show max 0 (max 0 0) + 1 ≤ 1; decide⟩
theorem pyAll : ∀ ws : List Str, PyData.canLayAll0 (ws.map fun w => pyN (rd (tl w))) = true ∧ PyData.depthAll (ws.map fun w => pyN (rd (tl w))) ≤ 1
  | [] => ⟨by simp [PyData.canLayAll0], by simp [PyData.depthAll]⟩
  | w :: ws => by
    obtain ⟨h1, h2⟩ := pyAll ws
    obtain ⟨g1, g2⟩ := pyN_ok (rd (tl w))
    rw [List.map_cons]
    refine ⟨?_, ?_⟩
    · unfold PyData.canLayAll0
      rw [g1, h1]
      rfl
    · unfold PyData.depthAll
      omega
theorem none_in (ws : List Str) : dIn .non (.lst (ws.map nD)) = some (.bl (nums ws).isNone) := by
  have h : inD .non (.lst (ws.map nD)) = some (nums ws).isNone := by
    show (match inL .non (ws.map nD) with | some b => some b | none => inLD .non (ws.map nD)) = _
    unfold inL
    split
    · rename_i b hb
      split at hb
      · cases hb
        rw [← any_none, List.any_map]
        congr 1
        congr 1
        funext w
        show eqF (nD w) .non = _
        unfold nD
        cases rd (tl w) <;> rfl
      · cases hb
    · unfold inLD
      rw [toPyL_nD]
      show (if SeqAt.shaped .none = true ∧ SeqAt.shaped (.list (ws.map fun w => pyN (rd (tl w)))) = true then some ((ws.map fun w => pyN (rd (tl w))).any fun z => PyData.eqv z .none) else none) = _
      obtain ⟨h1, h2⟩ := pyAll ws
      rw [if_pos ⟨rfl, by
        unfold SeqAt.shaped
        unfold PyData.canLay0 PyData.depth
        rw [h1]
        simp
        omega⟩]
      rw [← any_none, List.any_map]
      congr 1
      congr 1
      funext w
      show PyData.eqv (pyN (rd (tl w))) .none = _
      cases rd (tl w) with
      | none => simp [pyN, PyData.eqv]
      | some q => simp [pyN, PyData.eqv]
  unfold dIn
  rw [h]
  rfl
/-! ### _law_reading -/
theorem rngD_cons (lo n : Nat) : rngD lo (n + 1) = .int lo :: rngD ((lo + 1 : Nat) : Int) n := by
  unfold rngD
  rw [List.range_succ_eq_map, List.map_cons, List.map_map]
  congr 1
  refine List.map_congr_left fun x hx => ?_
  show D.int ((lo : Int) + ((x + 1 : Nat) : Int)) = D.int (((lo + 1 : Nat) : Int) + (x : Int))
  congr 1
  omega
noncomputable abbrev lgB : SF := (seqS (ifS (asT (op2 dGe (vS 3) (calE dLen (consA (vS 0) nilA)))) (retS (tupE (consA (kS "bad") (consA (op2 dAdd (vS 3) (kI 1)) nilA)))) nilS) (seqS (asgS 4 (ndE (splitN (op2 dIx (vS 0) (vS 3)) (kS " ")))) (seqS (asgS 5 (ndE (lcN (unItE (slE (vS 4) (pS (kI 1)) pN)) (setN 6) yesT (callE f__law_read (consA (vS 6) nilA)) [6]))) (seqS (ifS (orT (asT (op2 dNe (op2 dIx (vS 4) (kI 0)) (op2 dIx (vS 1) (vS 3)))) (asT (op2 dIn kN (vS 5)))) (retS (tupE (consA (kS "bad") (consA (op2 dAdd (vS 3) (kI 1)) nilA)))) nilS) (seqS (ifS (andT (asT (op2 dEq (vS 3) (kI 0))) (asT (op2 dNe (calE dLen (consA (vS 5) nilA)) (ifE (asT (op2 dEq (op2 dIx (vS 1) (kI 0)) (kS "best"))) (kI 1) (kI 0))))) (retS (tupE (consA (kS "bad") (consA (kI 1) nilA)))) nilS) (metS 2 mAppend (consA (un1 unTL (vS 5)) nilA)))))))
abbrev badD (n : Nat) : D := .tup [.str "bad", .int n]
theorem ix_lst {forms : List Str} {i : Nat} {ln : Str} (h : forms[i]? = some ln) : dIx (.lst (forms.map D.str)) (.int i) = some (.str ln) := ix_lnD h
theorem x_lgGo {lines : List Str} (hL : okL lines) {kind : Str} (hf : formsOf kind ≠ []) : ∀ (fs pre : List Str) (i : Nat) (told : List (List Q)) (s3 s4 s5 s6 : Sl), formsOf kind = pre ++ fs → pre.length = i → told.length = i → i ≤ lines.length →
    match goR (heads kind) lines fs i with
    | .error n => forGo (setN 3) lgB (rngD i fs.length) [.d (lnD lines), .d (.lst ((formsOf kind).map D.str)), .own (told.map rowD), s3, s4, s5, s6] = some (.rt (badD n))
    | .ok r => ∃ s3' s4' s5', forGo (setN 3) lgB (rngD i fs.length) [.d (lnD lines), .d (.lst ((formsOf kind).map D.str)), .own (told.map rowD), s3, s4, s5, s6] = some (.nx [.d (lnD lines), .d (.lst ((formsOf kind).map D.str)), .own ((told ++ r).map rowD), s3', s4', s5', s6])
  | [], pre, i, told, s3, s4, s5, s6, hp, hpl, ht, hi => ⟨s3, s4, s5, by rw [List.append_nil]; rfl⟩
  | f :: fs, pre, i, told, s3, s4, s5, s6, hp, hpl, ht, hi => by
    rw [List.length_cons, rngD_cons]
    have hfi : (formsOf kind)[i]? = some f := by
      rw [hp, List.getElem?_append_right (by omega)]
      have : i - pre.length = 0 := by omega
      rw [this]
      rfl
    have e1 : (asT (op2 dGe (vS 3) (calE dLen (consA (vS 0) nilA)))) [.d (lnD lines), .d (.lst ((formsOf kind).map D.str)), .own (told.map rowD), .d (.int i), s4, s5, s6] = some (.ok (decide (lines.length ≤ i))) := by
      refine asT_of (op_of (a := .int i) (b := .int lines.length) rfl (len_lnD lines rfl) ?_)
      show some (D.bl (decide ((lines.length : Int) ≤ i))) = _
      rw [decide_eq_decide.mpr (show (lines.length : Int) ≤ i ↔ lines.length ≤ i by omega)]
    have rb : ∀ (s4 s5 : Sl) (told : List D), (tupE (consA (kS "bad") (consA (op2 dAdd (vS 3) (kI 1)) nilA))) [.d (lnD lines), .d (.lst ((formsOf kind).map D.str)), .own told, .d (.int i), s4, s5, s6] = some (.ok (badD (i + 1))) := fun _ _ _ => rfl
    unfold goR
    cases el : lines[i]? with
    | none =>
      dsimp only [Option.bind]
      have : lines.length ≤ i := List.getElem?_eq_none_iff.mp el
      rw [decide_eq_true this] at e1
      refine go_rt (ρ1 := [.d (lnD lines), .d (.lst ((formsOf kind).map D.str)), .own (told.map rowD), .d (.int i), s4, s5, s6]) rfl ?_
      unfold lgB
      rw [seq_T e1, seq_ret (rb _ _ _)]
    | some ln =>
      dsimp only [Option.bind]
      obtain ⟨hlt, eln⟩ := List.getElem?_eq_some_iff.mp el
      rw [decide_eq_false (by omega)] at e1
      have hln : Ln 400 9000 ln := hL.1 ln (by rw [← eln]; exact List.getElem_mem hlt)
      obtain ⟨h1, h2, h3⟩ := wds_ok hln
      have es : ndE (splitN (op2 dIx (vS 0) (vS 3)) (kS " ")) [.d (lnD lines), .d (.lst ((formsOf kind).map D.str)), .own (told.map rowD), .d (.int i), s4, s5, s6] = some (.ok (.lst ((wds ln).map D.str))) := by
        show bnd (splitN _ _ _) _ = _
        rw [split_of (s := ln) (op_of (a := lnD lines) (b := .int i) rfl rfl (ix_lnD el)) hln.len]
        rfl
      unfold lineR
      cases ew : wds ln with
      | nil => exact absurd ew h3
      | cons x ws =>
        rw [ew] at h1 h2 es
        dsimp only
        have en : ndE (lcN (unItE (slE (vS 4) (pS (kI 1)) pN)) (setN 6) yesT (callE f__law_read (consA (vS 6) nilA)) [6]) [.d (lnD lines), .d (.lst ((formsOf kind).map D.str)), .own (told.map rowD), .d (.int i), .d (.lst ((x :: ws).map D.str)), s5, s6] = some (.ok (.lst (ws.map nD))) := by
          show bnd (lcN _ _ _ _ _ _) _ = _
          unfold lcN
          have eu : unItE (slE (vS 4) (pS (kI 1)) pN) [.d (lnD lines), .d (.lst ((formsOf kind).map D.str)), .own (told.map rowD), .d (.int i), .d (.lst ((x :: ws).map D.str)), s5, s6] = some (.ok (ws.map D.str)) := by
            show bnd (slE _ _ _ _) unIt = _
            rw [sl_of (d := .lst ((x :: ws).map D.str)) (e := .lst (ws.map D.str)) (lo := some 1) (hi := none) rfl rfl rfl (by
              show some (D.lst (cutL ((x :: ws).map D.str) (some 1) none)) = _
              rw [List.map_cons, cut_tail])]
            rfl
          rw [eu, bnd_ok, if_pos (by rw [List.length_map]; simp at h2; omega)]
          show bnd (opt (lcGo (setN 6) yesT _ [.d (lnD lines), .d (.lst ((formsOf kind).map D.str)), .own (told.map rowD), .d (.int i), .d (.lst ((x :: ws).map D.str)), s5, .un] (ws.map D.str))) _ = _
          rw [lcGo_map (inD := D.str) (outD := nD) ws fun w hw => ⟨_, rfl, call_of (l := [.str w]) rfl (x_law_read (by have := (h1 w (List.mem_cons_of_mem _ hw)).1; omega))⟩]
          rfl
        have eo : (orT (asT (op2 dNe (op2 dIx (vS 4) (kI 0)) (op2 dIx (vS 1) (vS 3)))) (asT (op2 dIn kN (vS 5)))) [.d (lnD lines), .d (.lst ((formsOf kind).map D.str)), .own (told.map rowD), .d (.int i), .d (.lst ((x :: ws).map D.str)), .d (.lst (ws.map nD)), s6] = some (.ok (!decide (x = f) || (nums ws).isNone)) :=
          or_of (asT_of (op_of (a := .str x) (b := .str f) (op_of (a := .lst ((x :: ws).map D.str)) (b := .int 0) rfl rfl (ix_lst (i := 0) rfl)) (op_of (a := .lst ((formsOf kind).map D.str)) (b := .int i) rfl rfl (ix_lst hfi)) rfl)) (asT_of (op_of (a := .non) (b := .lst (ws.map nD)) rfl rfl (none_in ws)))
        -- the bad line
        have bad : (!decide (x = f) || (nums ws).isNone) = true → forGo (setN 3) lgB (.int i :: rngD ((i + 1 : Nat) : Int) fs.length) [.d (lnD lines), .d (.lst ((formsOf kind).map D.str)), .own (told.map rowD), s3, s4, s5, s6] = some (.rt (badD (i + 1))) := by
          intro hb
          rw [hb] at eo
          refine go_rt (ρ1 := [.d (lnD lines), .d (.lst ((formsOf kind).map D.str)), .own (told.map rowD), .d (.int i), s4, s5, s6]) rfl ?_
          unfold lgB
          rw [seq_F e1, seq_nil, seq_asg es]
          dsimp only [List.set]
          rw [seq_asg en]
          dsimp only [List.set]
          rw [seq_T eo, seq_ret (rb _ _ _)]
        by_cases hx : x = f
        · rw [if_pos hx]
          cases en2 : nums ws with
          | none => exact bad (by rw [en2]; simp)
          | some qs =>
            dsimp only
            rw [en2, decide_eq_true hx] at eo
            have hmap := nums_map en2
            rw [hmap] at en eo
            have et : (andT (asT (op2 dEq (vS 3) (kI 0))) (asT (op2 dNe (calE dLen (consA (vS 5) nilA)) (ifE (asT (op2 dEq (op2 dIx (vS 1) (kI 0)) (kS "best"))) (kI 1) (kI 0))))) [.d (lnD lines), .d (.lst ((formsOf kind).map D.str)), .own (told.map rowD), .d (.int i), .d (.lst ((x :: ws).map D.str)), .d (.lst (qs.map qD)), s6] = some (.ok (decide (i = 0) && !decide (qs.length = heads kind))) := by
              refine andd_of (ev_eqn (a := i) (b := 0) rfl rfl) (ev_nen (a := qs.length) (b := heads kind) ?_ ?_)
              · refine cal_of (l := [.lst (qs.map qD)]) rfl ?_
                show some (D.int ((qs.map qD).length : Nat)) = _
                rw [List.length_map]
              · rcases forms_ne hf with rfl | rfl | rfl <;> rfl
            by_cases hh : i = 0 ∧ qs.length ≠ heads kind
            · rw [if_pos hh]
              dsimp only
              rw [decide_eq_true hh.1, decide_eq_false hh.2] at et
              refine go_rt (ρ1 := [.d (lnD lines), .d (.lst ((formsOf kind).map D.str)), .own (told.map rowD), .d (.int i), s4, s5, s6]) rfl ?_
              unfold lgB
              rw [seq_F e1, seq_nil, seq_asg es]
              dsimp only [List.set]
              rw [seq_asg en]
              dsimp only [List.set]
              rw [seq_F eo, seq_nil, seq_T et, seq_ret (d := badD 1) rfl]
            · rw [if_neg hh]
              have : (decide (i = 0) && !decide (qs.length = heads kind)) = false := by
                by_cases h0 : i = 0
                · have : qs.length = heads kind := Classical.byContradiction fun q => hh ⟨h0, q⟩
                  simp [this]
                · simp [h0]
              rw [this] at et
              have hb : lgB [.d (lnD lines), .d (.lst ((formsOf kind).map D.str)), .own (told.map rowD), .d (.int i), s4, s5, s6] = some (.nx [.d (lnD lines), .d (.lst ((formsOf kind).map D.str)), .own ((told ++ [qs]).map rowD), .d (.int i), .d (.lst ((x :: ws).map D.str)), .d (.lst (qs.map qD)), s6]) := by
                unfold lgB
                rw [seq_F e1, seq_nil, seq_asg es]
                dsimp only [List.set]
                rw [seq_asg en]
                dsimp only [List.set]
                rw [seq_F eo, seq_nil, seq_F et, seq_nil]
                rw [met_of (l := told.map rowD) (ds := [rowD qs]) rfl (cons_of (un_of (a := .lst (qs.map qD)) rfl rfl) rfl) (app_of (by rw [List.length_map]; have := hL.2; omega)), List.map_append]
                rfl
              have ih := x_lgGo hL hf fs (pre ++ [f]) (i + 1) (told ++ [qs]) (.d (.int i)) (.d (.lst ((x :: ws).map D.str))) (.d (.lst (qs.map qD))) s6 (by rw [hp]; simp) (by simp [hpl]) (by simp [ht]) (by omega)
              rw [go_nx (ρ1 := [.d (lnD lines), .d (.lst ((formsOf kind).map D.str)), .own (told.map rowD), .d (.int i), s4, s5, s6]) rfl hb]
              cases eg : goR (heads kind) lines fs (i + 1) with
              | error n =>
                rw [eg] at ih
                exact ih
              | ok r =>
                rw [eg] at ih
                obtain ⟨s3', s4', s5', h⟩ := ih
                refine ⟨s3', s4', s5', ?_⟩
                rw [h]
                simp
        · rw [if_neg hx]
          exact bad (by rw [decide_eq_false hx]; rfl)
theorem x_law_reading {lines : List Str} (hL : okL lines) : f__law_reading [lnD lines] = some (.ok (toldD (reading lines))) := by
  show outR (b__law_reading [.d (lnD lines), .un, .un, .un, .un, .un, .un]) = _
  unfold b__law_reading
  have e0 := ev_eqn (f := calE dLen (consA (vS 0) nilA)) (g := kI 0) (ρ := [.d (lnD lines), .un, .un, .un, .un, .un, .un]) (a := lines.length) (b := 0) (len_lnD lines rfl) rfl
  by_cases h0 : lines = []
  · subst h0
    rw [seq_T e0]
    rfl
  · rw [decide_eq_false (fun z => h0 (List.eq_nil_of_length_eq_zero z))] at e0
    rw [seq_F e0, seq_nil]
    rw [seq_asg (call_of (l := [.str (firstW lines)]) (cons_of (first_of hL rfl h0) rfl) (x_law_forms _))]
    dsimp only [List.set]
    have e1 := ev_eqn (f := calE dLen (consA (vS 1) nilA)) (g := kI 0) (ρ := [.d (lnD lines), .d (.lst ((formsOf (firstW lines)).map D.str)), .un, .un, .un, .un, .un]) (a := (formsOf (firstW lines)).length) (b := 0) (by
      refine cal_of (l := [.lst ((formsOf (firstW lines)).map D.str)]) rfl ?_
      show some (D.int (((formsOf (firstW lines)).map D.str).length : Nat)) = _
      rw [List.length_map]) rfl
    by_cases hf : formsOf (firstW lines) = []
    · rw [reading_bad hf]
      rw [decide_eq_true (by rw [hf]; rfl)] at e1
      rw [seq_T e1]
      rfl
    · rw [decide_eq_false (fun z => hf (List.eq_nil_of_length_eq_zero z))] at e1
      rw [seq_F e1, seq_nil, seq_own (l := []) rfl]
      dsimp only [List.set]
      rw [reading_go hf]
      have hlf : ∀ (s2 s3 s4 s5 s6 : Sl), calE dLen (consA (vS 1) nilA) [.d (lnD lines), .d (.lst ((formsOf (firstW lines)).map D.str)), s2, s3, s4, s5, s6] = some (.ok (.int (formsOf (firstW lines)).length)) := fun _ _ _ _ _ => by
        refine cal_of (l := [.lst ((formsOf (firstW lines)).map D.str)]) rfl ?_
        show some (D.int (((formsOf (firstW lines)).map D.str).length : Nat)) = _
        rw [List.length_map]
      have hfl := (kind_facts (forms_ne hf)).2.2.2
      have hg := x_lgGo hL hf (formsOf (firstW lines)) [] 0 [] .un .un .un .un rfl rfl rfl (Nat.zero_le _)
      have hfor : forS (rng1A (consA (calE dLen (consA (vS 1) nilA)) nilA)) (setN 3) lgB [.d (lnD lines), .d (.lst ((formsOf (firstW lines)).map D.str)), .own [], .un, .un, .un, .un] = _ := for_of (rngA_of (hlf _ _ _ _ _) (by omega))
      cases eg : goR (heads (firstW lines)) lines (formsOf (firstW lines)) 0 with
      | error n =>
        rw [eg] at hg
        rw [seq_rt (hfor.trans hg)]
        rfl
      | ok r =>
        rw [eg] at hg
        obtain ⟨s3', s4', s5', h⟩ := hg
        rw [List.nil_append] at h
        dsimp only
        rw [seq_nx (hfor.trans h)]
        have el : (asT (op2 dGt (calE dLen (consA (vS 0) nilA)) (calE dLen (consA (vS 1) nilA)))) [.d (lnD lines), .d (.lst ((formsOf (firstW lines)).map D.str)), .own (r.map rowD), s3', s4', s5', .un] = some (.ok (decide ((formsOf (firstW lines)).length < lines.length))) := by
          refine asT_of (op_of (a := .int lines.length) (b := .int (formsOf (firstW lines)).length) (len_lnD lines rfl) (hlf _ _ _ _ _) ?_)
          show some (D.bl (decide (((formsOf (firstW lines)).length : Int) < lines.length))) = _
          rw [decide_eq_decide.mpr (show ((formsOf (firstW lines)).length : Int) < lines.length ↔ (formsOf (firstW lines)).length < lines.length by omega)]
        by_cases hh2 : lines.length > (formsOf (firstW lines)).length
        · rw [decide_eq_true hh2] at el
          rw [if_pos hh2, seq_T el, seq_ret (d := badD ((formsOf (firstW lines)).length + 1))]
          · rfl
          · show bnd _ tupR = _
            rw [cons_of (d := .str "bad") rfl (cons_of (op_of (hlf _ _ _ _ _) (b := .int 1) rfl rfl) rfl)]
            rfl
        · rw [decide_eq_false hh2] at el
          rw [if_neg hh2, seq_F el, seq_nil]
          rcases shapes (forms_ne hf) eg with ⟨e, q, a, b, rfl⟩ | ⟨e, a, rfl⟩ | ⟨e, a, b, rfl⟩
          · rw [e]
            rfl
          · rw [e]
            rfl
          · rw [e]
            rfl
end K86
set_option Elab.async false
set_option linter.all false
set_option maxRecDepth 100000
set_option maxHeartbeats 4000000
set_option autoImplicit false
namespace K86
open PySem PySem.Spec L2 PD TL
/-! ### _law_same -/
def pl : Nat → D → Prop
  | 0, _ => False
  | n + 1, .tup l => (∀ x ∈ l, pl n x) ∧ l.length ≤ 100000
  | _ + 1, .int _ => True
  | _ + 1, .str _ => True
  | _ + 1, _ => False
abbrev lsB (rec_ : List D → R D) : SF := (ifS (notT (asT (callE rec_ (consA (op2 dIx (vS 0) (vS 2)) (consA (op2 dIx (vS 1) (vS 2)) nilA))))) (retS (kB false)) nilS)
theorem x_lsGo {rec_ : List D → R D} {l : List D} (h : ∀ x ∈ l, rec_ [x, x] = some (.ok (.bl true))) : ∀ (n i : Nat) (s2 : Sl), i + n = l.length → ∃ s2', forGo (setN 2) (lsB rec_) (rngD i n) [.d (.tup l), .d (.tup l), s2] = some (.nx [.d (.tup l), .d (.tup l), s2'])
  | 0, i, s2, _ => ⟨s2, rfl⟩
  | n + 1, i, s2, hi => by
    have hlt : i < l.length := by omega
    obtain ⟨s2', ih⟩ := x_lsGo h n (i + 1) (.d (.int i)) (by omega)
    refine ⟨s2', ?_⟩
    rw [rngD_cons]
    have ex : dIx (.tup l) (.int i) = some l[i] := PD.atI_nat hlt
    have e : (notT (asT (callE rec_ (consA (op2 dIx (vS 0) (vS 2)) (consA (op2 dIx (vS 1) (vS 2)) nilA))))) [.d (.tup l), .d (.tup l), .d (.int i)] = some (.ok (!true)) :=
      not_of (asT_of (call_of (l := [l[i], l[i]]) (cons_of (op_of (a := .tup l) (b := .int i) rfl rfl ex) (cons_of (op_of (a := .tup l) (b := .int i) rfl rfl ex) rfl)) (h _ (List.getElem_mem hlt))))
    rw [go_nx (ρ1 := [.d (.tup l), .d (.tup l), .d (.int i)]) (ρ2 := [.d (.tup l), .d (.tup l), .d (.int i)]) rfl (by unfold lsB; rw [if_F e]; rfl)]
    exact ih
theorem x_same : ∀ (n : Nat) (d : D), pl n d → f__law_same n [d, d] = some (.ok (.bl true))
  | 0, _, h => h.elim
  | n + 1, .int i, _ => by
    show outR (b__law_same (f__law_same n) [.d (.int i), .d (.int i), .un]) = _
    unfold b__law_same
    rw [seq_F rfl, seq_nil, seq_F rfl, seq_nil, seq_F rfl, seq_nil, seq_T rfl]
    rw [seq_ret (d := .bl (decide (i = i))) rfl]
    rw [decide_eq_true rfl]
    rfl
  | n + 1, .str s, _ => by
    show outR (b__law_same (f__law_same n) [.d (.str s), .d (.str s), .un]) = _
    unfold b__law_same
    rw [seq_F rfl, seq_nil, seq_F rfl, seq_nil, seq_F rfl, seq_nil, seq_F rfl, seq_nil]
    rw [ret_of (d := .bl (decide (s = s))) rfl]
    rw [decide_eq_true rfl]
    rfl
  | n + 1, .tup l, h => by
    show outR (b__law_same (f__law_same n) [.d (.tup l), .d (.tup l), .un]) = _
    unfold b__law_same
    rw [seq_T rfl, seq_seq]
    have el : ∀ {f : EF} {s2 : Sl}, f [.d (.tup l), .d (.tup l), s2] = some (.ok (.tup l)) → calE dLen (consA f nilA) [.d (.tup l), .d (.tup l), s2] = some (.ok (.int l.length)) := fun hf => cal_of (cons_of hf rfl) rfl
    have e1 : (orT (notT (asT (isiE isTup (vS 0)))) (asT (op2 dNe (calE dLen (consA (vS 0) nilA)) (calE dLen (consA (vS 1) nilA))))) [.d (.tup l), .d (.tup l), .un] = some (.ok (!true || !decide (l.length = l.length))) :=
      or_of (not_of (asT_of rfl)) (ev_nen (el rfl) (el rfl))
    rw [decide_eq_true rfl] at e1
    rw [seq_F e1, seq_nil, seq_seq]
    obtain ⟨s2', hg⟩ := x_lsGo (rec_ := f__law_same n) (l := l) (fun x hx => x_same n x (h.1 x hx)) l.length 0 .un (by omega)
    have hfor : forS (rng1A (consA (calE dLen (consA (vS 1) nilA)) nilA)) (setN 2) (lsB (f__law_same n)) [.d (.tup l), .d (.tup l), .un] = _ := for_of (rngA_of (el rfl) (by have := h.2; omega))
    rw [seq_nx (hfor.trans hg), seq_ret (d := .bl true) rfl]
    rfl
  | n + 1, .non, h => h.elim
  | n + 1, .bl _, h => h.elim
  | n + 1, .lst _, h => h.elim
  | n + 1, .ins _ _ _, h => h.elim
theorem pl_row {qs : List Q} (n : Nat) (h : qs.length ≤ 100000) : pl (n + 3) (rowD qs) := by
  refine ⟨fun x hx => ?_, by rw [List.length_map]; exact h⟩
  obtain ⟨q, _, rfl⟩ := List.mem_map.mp hx
  refine ⟨fun y hy => ?_, by simp⟩
  rcases List.mem_cons.mp hy with rfl | hy
  · trivial
  · rw [List.mem_singleton.mp hy]; trivial
theorem pl_q (q : Q) (n : Nat) : pl (n + 2) (qD q) := by
  refine ⟨fun y hy => ?_, by simp⟩
  rcases List.mem_cons.mp hy with rfl | hy
  · trivial
  · rw [List.mem_singleton.mp hy]; trivial
theorem goodN.c {l : List Q} (h : goodN l) : l.length ≤ 100000 := Nat.le_trans h.2 (by decide)
theorem pl_due {A : Ans} (h : goodA A) : pl 6 (dueD A) := by
  cases A with
  | best q a b =>
    refine ⟨fun x hx => ?_, by simp⟩
    rcases List.mem_cons.mp hx with rfl | hx
    · trivial
    · rw [List.mem_singleton.mp hx]
      refine ⟨fun y hy => ?_, by simp⟩
      rcases List.mem_cons.mp hy with rfl | hy
      · exact ⟨fun z hz => by rw [List.mem_singleton.mp hz]; exact pl_q q 1, by simp⟩
      · rcases List.mem_cons.mp hy with rfl | hy
        · exact pl_row 1 h.2.1.c
        · rw [List.mem_singleton.mp hy]
          exact pl_row 1 h.2.2.c
  | barred a =>
    refine ⟨fun x hx => ?_, by simp⟩
    rcases List.mem_cons.mp hx with rfl | hx
    · trivial
    · rw [List.mem_singleton.mp hx]
      refine ⟨fun y hy => ?_, by simp⟩
      rcases List.mem_cons.mp hy with rfl | hy
      · exact ⟨fun z hz => (by cases hz), by simp⟩
      · rw [List.mem_singleton.mp hy]
        exact pl_row 1 h.c
  | endless a b =>
    refine ⟨fun x hx => ?_, by simp⟩
    rcases List.mem_cons.mp hx with rfl | hx
    · trivial
    · rw [List.mem_singleton.mp hx]
      refine ⟨fun y hy => ?_, by simp⟩
      rcases List.mem_cons.mp hy with rfl | hy
      · exact ⟨fun z hz => (by cases hz), by simp⟩
      · rcases List.mem_cons.mp hy with rfl | hy
        · exact pl_row 1 h.1.c
        · rw [List.mem_singleton.mp hy]
          exact pl_row 1 h.2.c
theorem pl_lines {lines : List Str} (h : lines.length ≤ 100) : pl 6 (lnD lines) := by
  refine ⟨fun x hx => ?_, by rw [List.length_map]; omega⟩
  obtain ⟨w, _, rfl⟩ := List.mem_map.mp hx
  trivial
theorem pl_bad (n : Nat) : pl 6 (badD n) := by
  refine ⟨fun x hx => ?_, by simp⟩
  rcases List.mem_cons.mp hx with rfl | hx
  · trivial
  · rw [List.mem_singleton.mp hx]; trivial
/-! ### lines under change -/
theorem Ln.mono {n m n' m' : Nat} {s : Str} (h : Ln n m s) (h1 : n ≤ n') (h2 : m ≤ m') : Ln n' m' s := ⟨Nat.le_trans h.len h2, fun a b c e f => Nat.le_trans (h.sh a b c e f) h1⟩
theorem Ln.small {n m : Nat} {s : Str} (h : s.length ≤ n) (h2 : n ≤ m) : Ln n m s := ⟨Nat.le_trans h h2, fun a b c e _ => by
  rw [len_tl, e] at h
  simp at h
  omega⟩
theorem split_app {a b c x y : List Nat} (e : x ++ y = a ++ b ++ c) : ∃ b1 b2, b = b1 ++ b2 ∧ (∃ a1 c1, x = a1 ++ b1 ++ c1) ∧ ∃ a2 c2, y = a2 ++ b2 ++ c2 := by
  rw [List.append_assoc] at e
  rcases List.append_eq_append_iff.mp e with ⟨p, h1, h2⟩ | ⟨p, h1, h2⟩
  · exact ⟨[], b, rfl, ⟨x, [], by simp⟩, p, c, by rw [h2]; simp⟩
  · rcases List.append_eq_append_iff.mp h2 with ⟨q, h3, h4⟩ | ⟨q, h3, h4⟩
    · refine ⟨b, [], by simp, ⟨a, q, by rw [h1, h3]; simp⟩, y, [], by simp⟩
    · refine ⟨p, q, h3, ⟨a, [], by rw [h1]; simp⟩, [], c, by rw [h4]; simp⟩
theorem Ln.app {n m n' m' : Nat} {s t : Str} (h : Ln n m s) (h' : Ln n' m' t) : Ln (n + n') (m + m') (s ++ t) := by
  refine ⟨?_, fun a b c e f => ?_⟩
  · rw [len_tl, tl_append, List.length_append, ← len_tl, ← len_tl]
    have := h.len
    have := h'.len
    omega
  · rw [tl_append] at e
    obtain ⟨b1, b2, rfl, ⟨a1, c1, e1⟩, a2, c2, e2⟩ := split_app e
    rw [List.length_append]
    have := h.sh a1 b1 c1 e1 (fun z => f (List.mem_append_left _ z))
    have := h'.sh a2 b2 c2 e2 (fun z => f (List.mem_append_right _ z))
    omega
theorem Ln.infix {n m : Nat} {s t : Str} (h : Ln n m s) {a c : List Nat} (e : tl s = a ++ tl t ++ c) : Ln n m t := by
  refine ⟨?_, fun a' b c' e' f => ?_⟩
  · have := h.len
    rw [len_tl, e, List.length_append, List.length_append] at this
    rw [len_tl]
    omega
  · refine h.sh (a ++ a') b (c' ++ c) ?_ f
    rw [e, e']
    simp
theorem Ln.cut {n m : Nat} {s : Str} (h : Ln n m s) (lo hi : Option Int) : Ln n m (cutS s lo hi) := by
  have e : tl (cutS s lo hi) = ((tl s).drop (HT.sIx s.length 0 lo)).take (HT.sIx s.length s.length hi - HT.sIx s.length 0 lo) := rfl
  refine h.infix (a := (tl s).take (HT.sIx s.length 0 lo)) (c := ((tl s).drop (HT.sIx s.length 0 lo)).drop (HT.sIx s.length s.length hi - HT.sIx s.length 0 lo)) ?_
  rw [e, List.append_assoc, List.take_append_drop, List.take_append_drop]
theorem split_sp {a b c x y : List Nat} (e : x ++ 32 :: y = a ++ b ++ c) (f : 32 ∉ b) : (∃ a1 c1, x = a1 ++ b ++ c1) ∨ ∃ a2 c2, y = a2 ++ b ++ c2 := by
  rcases List.append_eq_append_iff.mp e with ⟨p, h1, h2⟩ | ⟨p, h1, h2⟩
  · cases p with
    | nil => exact .inl ⟨a, [], by rw [List.append_nil, h1, List.append_nil]⟩
    | cons z p' =>
      injection h2 with h3 h4
      subst h3
      rcases List.append_eq_append_iff.mp h1 with ⟨q, h5, h6⟩ | ⟨q, h5, h6⟩
      · exact absurd (by rw [h6]; simp) f
      · cases q with
        | nil => exact absurd (by rw [show b = 32 :: p' from h6.symm]; simp) f
        | cons z2 q' =>
          injection h6 with h7 h8
          exact .inr ⟨q', c, by rw [h4, h8]; rfl⟩
  · exact .inl ⟨a, p, h1⟩
/-- lines joined by a blank -/
theorem Ln.sp {n m m' : Nat} {s t : Str} (h : Ln n m s) (h' : Ln n m' t) : Ln n (m + 1 + m') (s ++ (" " : Str) ++ t) := by
  refine ⟨?_, fun a b c e f => ?_⟩
  · rw [len_tl, tl_append, tl_append, List.length_append, List.length_append, tl_sp, ← len_tl, ← len_tl]
    have := h.len
    have := h'.len
    simp only [List.length_cons, List.length_nil]
    omega
  · rw [tl_append, tl_append, tl_sp, List.append_assoc] at e
    rcases split_sp e f with ⟨a1, c1, q⟩ | ⟨a1, c1, q⟩
    · exact h.sh a1 b c1 q f
    · exact h'.sh a1 b c1 q f
end K86
set_option Elab.async false
set_option linter.all false
set_option maxRecDepth 100000
set_option maxHeartbeats 4000000
set_option autoImplicit false
namespace K86
open PySem PySem.Spec L2 PD TL
theorem set_of {i : Nat} {fi f : EF} {ρ : List Sl} {l : List D} {d : D} {n : Nat} (h1 : f ρ = some (.ok d)) (h2 : getO ρ i = some (.ok l)) (h3 : fi ρ = some (.ok (.int n))) (hn : n < l.length) : setItS i fi f ρ = some (.nx (ρ.set i (.own (l.set n d)))) := by
  unfold setItS
  rw [h1]
  show thnS (getO ρ i) ρ _ = _
  rw [h2]
  show thnS (fi ρ) ρ _ = _
  rw [h3]
  show (match ixN l.length (n : Int) with | some m => some (Out.nx (ρ.set i (.own (l.set m d)))) | none => none) = _
  have e : ixN l.length (n : Int) = some n := by
    unfold ixN
    simp
    omega
  rw [e]
/-- an index into the draws, cut by a remainder -/
theorem ev_mod {xs : List Int} {k : Nat} (hd : Dr k xs) {ρ : List Sl} {j : Int} (h0 : 0 ≤ j) (hj : j < k) (h1 : getS ρ 1 = some (.ok (.lst (iL xs)))) {g : EF} {n : Nat} (hg : g ρ = some (.ok (.int n))) (hn : 0 < n) : ∃ v : Nat, v < n ∧ op2 dMod (op2 dIx (vS 1) (kI j)) g ρ = some (.ok (.int v)) := by
  obtain ⟨v, v0, v1, e⟩ := ev_ix (f := vS 1) (g := kI j) (ρ := ρ) hd h1 rfl h0 hj
  obtain ⟨u, rfl⟩ := Int.eq_ofNat_of_zero_le v0
  refine ⟨u % n, Nat.mod_lt _ hn, op_of e hg ?_⟩
  rw [mod_of (by omega)]
  rfl
theorem ev_lit {P : Str → Prop} {f g : EF} {ρ : List Sl} {zs : List Str} (hz : ∀ z ∈ zs, P z) (hf : f ρ = some (.ok (.lst (zs.map D.str)))) {v : Nat} (hv : v < zs.length) (hg : g ρ = some (.ok (.int v))) : ∃ z, P z ∧ op2 dIx f g ρ = some (.ok (.str z)) := by
  refine ⟨zs[v], hz _ (List.getElem_mem hv), op_of hf hg ?_⟩
  exact ix_lst (by simp [hv])
theorem map_erase (l : List Str) (n : Nat) : (l.map D.str).eraseIdx n = (l.eraseIdx n).map D.str := by
  induction l generalizing n with
  | nil => rfl
  | cons a r ih =>
    cases n with
    | zero => rfl
    | succ n =>
      show D.str a :: (r.map D.str).eraseIdx n = _
      rw [ih]
      rfl
theorem mem_erase {l : List Str} {n : Nat} {x : Str} (h : x ∈ l.eraseIdx n) : x ∈ l := List.mem_of_mem_eraseIdx h
theorem len_erase (l : List Str) (n : Nat) : (l.eraseIdx n).length ≤ l.length := List.length_eraseIdx_le l n
theorem map_cut (l : List Str) (lo hi : Option Int) : cutL (l.map D.str) lo hi = (cutL l lo hi).map D.str := by
  unfold cutL
  rw [List.length_map, List.map_take, List.map_drop]
theorem mem_cut {l : List Str} {lo hi : Option Int} {x : Str} (h : x ∈ cutL l lo hi) : x ∈ l := List.mem_of_mem_drop (List.mem_of_mem_take h)
theorem len_cut (l : List Str) (lo hi : Option Int) : (cutL l lo hi).length ≤ l.length := by
  unfold cutL
  rw [List.length_take, List.length_drop]
  omega
theorem fin_ {g : SF} {ρ ρ' : List Sl} {out : List Str} (h : g ρ = some (.nx ρ')) (h2 : getO ρ' 2 = some (.ok (out.map D.str))) : outR (seqS g (retS (tupL (vO 2))) ρ) = some (.ok (lnD out)) := by
  rw [seq_nx h, ret_of (d := lnD out)]
  · rfl
  · show bnd (getO ρ' 2) _ = _
    rw [h2]
    rfl
/-- what a change may make -/
structure Chg (n m c : Nat) (out : List Str) : Prop where
  ln : ∀ l ∈ out, Ln (2 * n + 10) (2 * m + 20) l
  len : out.length ≤ c + 1
theorem Chg.of {n m c : Nat} {out : List Str} (h : ∀ l ∈ out, Ln n m l) (h2 : out.length ≤ c + 1) : Chg n m c out := ⟨fun l hl => (h l hl).mono (by omega) (by omega), h2⟩
theorem Chg.set {n m c : Nat} {out : List Str} (h : ∀ l ∈ out, Ln n m l) (h2 : out.length ≤ c) {p : Nat} {z : Str} (hz : Ln (2 * n + 10) (2 * m + 20) z) : Chg n m c (out.set p z) := by
  refine ⟨fun l hl => ?_, by rw [List.length_set]; omega⟩
  rcases List.mem_or_eq_of_mem_set hl with q | q
  · exact (h l q).mono (by omega) (by omega)
  · rw [q]; exact hz
theorem add_of {f g : EF} {ρ : List Sl} {a b : Str} (h1 : f ρ = some (.ok (.str a))) (h2 : g ρ = some (.ok (.str b))) (h : a.length + b.length ≤ 16777216) : op2 dAdd f g ρ = some (.ok (.str (a ++ b))) := op_of h1 h2 (add_str h)
theorem sign_ln (c : Nat) : Ln 1 1 ⟨#[c]⟩ := Ln.small (by exact Nat.le_refl 1) (by decide)
theorem join_cons2 (x y : Str) (r : List Str) : Txt.join " " (x :: y :: r) = x ++ (" " : Str) ++ Txt.join " " (y :: r) := by
  rw [join_eq, join_eq]
  rfl
abbrev lcM : SF := (ifS (asT (op2 dEq (vS 3) (kI 0))) (metS 2 mPopAt (consA (vS 4) nilA)) (ifS (asT (op2 dEq (vS 3) (kI 1))) (metS 2 mInsert (consA (vS 4) (consA (vS 5) nilA))) (ifS (asT (op2 dEq (vS 3) (kI 2))) (seqS (asgS 9 (op2 dMod (op2 dIx (vS 1) (kI 4)) (calE lLen (vO 2)))) (seqS (setItS 2 (vS 4) (ixL (vO 2) (vS 9))) (setItS 2 (vS 9) (vS 5)))) (ifS (asT (op2 dEq (vS 3) (kI 3))) (seqS (setItS 8 (kI 0) (op2 dIx (lstE (consA (kS "best") (consA (kS "point") (consA (kS "prices") (consA (kS "barred") (consA (kS "endless") (consA (kS "ray") (consA (kS "Point") (consA (kS "") nilA))))))))) (op2 dMod (op2 dIx (vS 1) (kI 4)) (kI 8)))) (setItS 2 (vS 4) (joinL (kS " ") (vO 8)))) (ifS (asT (op2 dEq (vS 3) (kI 4))) (setItS 2 (vS 4) (op2 dAdd (op2 dAdd (slE (vS 5) pN (pS (vS 6))) (vS 7)) (slE (vS 5) (pS (vS 6)) pN))) (ifS (asT (op2 dEq (vS 3) (kI 5))) (setItS 2 (vS 4) (op2 dAdd (slE (vS 5) pN (pS (vS 6))) (slE (vS 5) (pS (op2 dAdd (vS 6) (kI 1))) pN))) (ifS (asT (op2 dEq (vS 3) (kI 6))) (setItS 2 (vS 4) (op2 dAdd (op2 dAdd (slE (vS 5) pN (pS (vS 6))) (vS 7)) (slE (vS 5) (pS (op2 dAdd (vS 6) (kI 1))) pN))) (ifS (asT (op2 dEq (vS 3) (kI 7))) (metS 2 mAppend (consA (op2 dIx (lstE (consA (kS "") (consA (kS "prices") (consA (kS "point 1") (consA (vS 5) (consA (kS "ray 0") (consA (kS " ") nilA))))))) (op2 dMod (op2 dIx (vS 1) (kI 4)) (kI 6))) nilA)) (ifS (asT (op2 dEq (vS 3) (kI 8))) (setItS 2 (vS 4) (op2 dIx (lstE (consA (kS "") (consA (kS "point") (consA (kS "prices 1") (consA (kS "ray") (consA (kS "barred") (consA (kS "endless") (consA (kS "best") (consA (kS "best 1") (consA (kS "best 1 2") nilA)))))))))) (op2 dMod (op2 dIx (vS 1) (kI 4)) (kI 9)))) (ifS (asT (op2 dEq (vS 3) (kI 9))) (setItS 2 (vS 4) (op2 dAdd (vS 5) (op2 dIx (lstE (consA (kS "") (consA (kS " ") (consA (kS " 1") (consA (kS "  1") (consA (kS " 01") (consA (kS " 2/4") (consA (kS " -0") (consA (kS " 1/1") (consA (kS " 0/3") nilA)))))))))) (op2 dMod (op2 dIx (vS 1) (kI 4)) (kI 9))))) (ifS (asT (op2 dEq (vS 3) (kI 10))) (ownS 2 (slL (vO 2) pN (pS (op2 dMod (op2 dIx (vS 1) (kI 4)) (op2 dAdd (calE lLen (vO 2)) (kI 1)))))) (setItS 2 (kI 0) (op2 dIx (lstE (consA (kS "best 3") (consA (kS "barred") (consA (kS "endless") (consA (kS "best") (consA (kS "barred 0") (consA (kS "endless 1") nilA))))))) (op2 dMod (op2 dIx (vS 1) (kI 4)) (kI 6)))))))))))))))
theorem lits {n m : Nat} (hn : 10 ≤ n) (hnm : n ≤ m) {zs : List Str} (h : zs.all (fun z => decide (z.length ≤ 10)) = true) : ∀ z ∈ zs, Ln n m z := fun z hz => Ln.small (by
  have := of_decide_eq_true (List.all_eq_true.mp h z hz)
  omega) hnm
theorem x_lcM {n m c k : Nat} (hn : 10 ≤ n) (hn2 : n ≤ 900) (hnm : n ≤ m) (hm : m ≤ 9000) {lines : List Str} {xs : List Int} (hL : ∀ l ∈ lines, Ln n m l) (hc : lines.length ≤ c) (hc2 : c ≤ 90) (hd : Dr k xs) (hk : 5 ≤ k)
    (way p sp : Nat) (line : Str) (sg : Nat) (hp : lines[p]? = some line) (ws : List Str) (hws : wds line = ws) :
    ∃ out, Chg n m c out ∧ outR (seqS lcM (retS (tupL (vO 2))) [.d (lnD lines), .d (.lst (iL xs)), .own (lines.map D.str), .d (.int way), .d (.int p), .d (.str line), .d (.int sp), .d (.str ⟨#[sg]⟩), .own (ws.map D.str), .un]) = some (.ok (lnD out)) := by
  obtain ⟨hlt, eln⟩ := List.getElem?_eq_some_iff.mp hp
  have hln : Ln n m line := hL line (by rw [← eln]; exact List.getElem_mem hlt)
  have hll : line.length ≤ 9000 := Nat.le_trans hln.len hm
  have hpl : p < (lines.map D.str).length := by rw [List.length_map]; exact hlt
  generalize hρ : ([.d (lnD lines), .d (.lst (iL xs)), .own (lines.map D.str), .d (.int way), .d (.int p), .d (.str line), .d (.int sp), .d (.str ⟨#[sg]⟩), .own (ws.map D.str), .un] : List Sl) = ρ
  have t : ∀ (j : Nat) (z : Int), z = (j : Int) → (asT (op2 dEq (vS 3) (kI z))) ρ = some (.ok (decide (way = j))) := fun j z hz => by
    subst hz
    exact ev_eqn (by rw [← hρ]; rfl) rfl
  have g2 : getO ρ 2 = some (.ok (lines.map D.str)) := by rw [← hρ]; rfl
  have g1 : getS ρ 1 = some (.ok (.lst (iL xs))) := by rw [← hρ]; rfl
  have g4 : vS 4 ρ = some (.ok (.int p)) := by rw [← hρ]; rfl
  have g5 : vS 5 ρ = some (.ok (.str line)) := by rw [← hρ]; rfl
  have g6 : vS 6 ρ = some (.ok (.int sp)) := by rw [← hρ]; rfl
  have g7 : vS 7 ρ = some (.ok (.str ⟨#[sg]⟩)) := by rw [← hρ]; rfl
  have g8 : getO ρ 8 = some (.ok (ws.map D.str)) := by rw [← hρ]; rfl
  have go2 : ∀ l : List D, getO (ρ.set 2 (.own l)) 2 = some (.ok l) := fun l => by rw [← hρ]; rfl
  have lm : ∀ (j : Nat) (z : Int), z = (j : Int) → 0 < j → ∃ v : Nat, v < j ∧ op2 dMod (op2 dIx (vS 1) (kI 4)) (kI z) ρ = some (.ok (.int v)) := fun j z hz hj => by
    subst hz
    exact ev_mod hd (by decide) (by omega) g1 rfl hj
  -- a line put in the place
  have put : ∀ (f : EF) (z : Str), f ρ = some (.ok (.str z)) → Ln (2 * n + 10) (2 * m + 20) z → ∃ out, Chg n m c out ∧ outR (seqS (setItS 2 (vS 4) f) (retS (tupL (vO 2))) ρ) = some (.ok (lnD out)) := by
    intro f z hf hz
    refine ⟨lines.set p z, Chg.set hL hc hz, ?_⟩
    refine fin_ (set_of hf g2 g4 hpl) ?_
    rw [go2, List.map_set]
  have cutA : ∀ {b : EF} {i : Nat}, b ρ = some (.ok (.int i)) → slE (vS 5) pN (pS b) ρ = some (.ok (.str (cutS line none (some (i : Int))))) := fun {b i} hb => sl_of g5 rfl (by show bnd (b ρ) _ = _; rw [hb]; rfl) (dSl_str (by omega))
  have cutB : ∀ {b : EF} {i : Nat}, b ρ = some (.ok (.int i)) → slE (vS 5) (pS b) pN ρ = some (.ok (.str (cutS line (some (i : Int)) none))) := fun {b i} hb => sl_of g5 (by show bnd (b ρ) _ = _; rw [hb]; rfl) rfl (dSl_str (by omega))
  have lcut : ∀ lo hi, (cutS line lo hi).length ≤ 9000 := fun lo hi => Nat.le_trans (hln.cut lo hi).len hm
  have sp1 : op2 dAdd (vS 6) (kI 1) ρ = some (.ok (.int ((sp + 1 : Nat) : Int))) := op_of g6 rfl rfl
  have sl1 : (⟨#[sg]⟩ : Str).length = 1 := rfl
  have ladd : ∀ a b : Str, (a ++ b).length = a.length + b.length := fun a b => by rw [len_tl, tl_append, List.length_append, ← len_tl, ← len_tl]
  unfold lcM
  by_cases h0 : way = 0
  · have e := t 0 0 rfl
    rw [decide_eq_true h0] at e
    rw [seq_T e]
    refine ⟨lines.eraseIdx p, Chg.of (fun l hl => hL l (mem_erase hl)) (Nat.le_trans (len_erase _ _) (by omega)), ?_⟩
    refine fin_ (met_of (l' := (lines.map D.str).eraseIdx p) g2 (cons_of g4 rfl) ?_) (by rw [go2, map_erase])
    show (if 0 ≤ (p : Int) ∧ (p : Int) < (lines.map D.str).length ∧ (p : Int) < 2 ^ 62 then some ((lines.map D.str).eraseIdx ((p : Int)).toNat) else none) = _
    rw [if_pos (by omega), Int.toNat_natCast]
  have e := t 0 0 rfl
  rw [decide_eq_false h0] at e
  rw [seq_F e]
  by_cases h1 : way = 1
  · have e := t 1 1 rfl
    rw [decide_eq_true h1] at e
    rw [seq_T e]
    refine ⟨lines.take p ++ [line] ++ lines.drop p, Chg.of (fun l hl => ?_) ?_, ?_⟩
    · rcases List.mem_append.mp hl with q | q
      · rcases List.mem_append.mp q with q | q
        · exact hL l (List.mem_of_mem_take q)
        · rw [List.mem_singleton.mp q]; exact hln
      · exact hL l (List.mem_of_mem_drop q)
    · rw [List.length_append, List.length_append, List.length_take, List.length_drop]
      simp
      omega
    · refine fin_ (met_of (l' := (lines.map D.str).take p ++ [.str line] ++ (lines.map D.str).drop p) g2 (cons_of g4 (cons_of g5 rfl)) ?_) (by rw [go2]; simp)
      unfold mInsert
      dsimp only
      rw [if_pos (by rw [List.length_map]; omega), Int.toNat_natCast]
  have e := t 1 1 rfl
  rw [decide_eq_false h1] at e
  rw [seq_F e]
  by_cases h2 : way = 2
  · have e := t 2 2 rfl
    rw [decide_eq_true h2] at e
    rw [seq_T e]
    obtain ⟨o, ho, eo⟩ := ev_mod (j := 4) (g := calE lLen (vO 2)) (n := lines.length) hd (by decide) (by omega) g1 (cal_of g2 (by show some (D.int ((lines.map D.str).length : Nat)) = _; rw [List.length_map])) (by omega)
    rw [seq_seq, seq_asg eo, seq_seq]
    subst hρ
    dsimp only [List.set]
    have eix : ixL (vO 2) (vS 9) [.d (lnD lines), .d (.lst (iL xs)), .own (lines.map D.str), .d (.int way), .d (.int p), .d (.str line), .d (.int sp), .d (.str ⟨#[sg]⟩), .own (ws.map D.str), .d (.int o)] = some (.ok (.str lines[o])) := by
      show bnd (some (Except.ok (lines.map D.str))) (fun l => bnd (some (Except.ok (D.int o))) fun d => opt (dIx (.lst l) d)) = _
      rw [bnd_ok, bnd_ok, ix_lst (i := o) (ln := lines[o]) (by simp [ho])]
      rfl
    rw [seq_nx (set_of (n := p) eix rfl rfl hpl)]
    dsimp only [List.set]
    refine ⟨(lines.set p lines[o]).set o line, ⟨fun l hl => ?_, by rw [List.length_set, List.length_set]; omega⟩, ?_⟩
    · rcases List.mem_or_eq_of_mem_set hl with q | q
      · rcases List.mem_or_eq_of_mem_set q with q | q
        · exact (hL l q).mono (by omega) (by omega)
        · rw [q]; exact (hL _ (List.getElem_mem ho)).mono (by omega) (by omega)
      · rw [q]; exact hln.mono (by omega) (by omega)
    · refine fin_ (set_of (n := o) (d := .str line) (l := (lines.map D.str).set p (.str lines[o])) rfl rfl rfl (by rw [List.length_set, List.length_map]; exact ho)) ?_
      show some (Except.ok (((lines.map D.str).set p (.str lines[o])).set o (.str line))) = _
      rw [List.map_set, List.map_set]
  have e := t 2 2 rfl
  rw [decide_eq_false h2] at e
  rw [seq_F e]
  by_cases h3 : way = 3
  · have e := t 3 3 rfl
    rw [decide_eq_true h3] at e
    rw [seq_T e]
    obtain ⟨v, hv, ev⟩ := lm 8 8 rfl (by decide)
    obtain ⟨z, ⟨hz, hzf⟩, ez⟩ := ev_lit (P := fun z => z.length ≤ 10 ∧ 32 ∉ tl z) (f := lstE (consA (kS "best") (consA (kS "point") (consA (kS "prices") (consA (kS "barred") (consA (kS "endless") (consA (kS "ray") (consA (kS "Point") (consA (kS "") nilA))))))))) (zs := ["best", "point", "prices", "barred", "endless", "ray", "Point", ""]) (by decide) rfl hv ev
    obtain ⟨w1, w2, w3⟩ := wds_ok hln
    rw [hws] at w1 w2 w3
    cases ws with
    | nil => exact absurd rfl w3
    | cons w0 wr =>
      rw [seq_seq, seq_nx (set_of (n := 0) ez g8 rfl (by simp))]
      subst hρ
      dsimp only [List.set]
      have hj : Ln (2 * n + 10) (2 * m + 20) (Txt.join " " (z :: wr)) := by
        cases wr with
        | nil => exact Ln.small (by show z.length ≤ _; omega) (by omega)
        | cons y r =>
          rw [join_cons2]
          have hline : line = w0 ++ (" " : Str) ++ Txt.join " " (y :: r) := by rw [← join_cons2, ← hws, wds_join]
          have hr : Ln n m (Txt.join " " (y :: r)) := hln.infix (a := tl (w0 ++ (" " : Str))) (c := []) (by rw [List.append_nil]; conv => lhs; rw [hline, tl_append])
          exact ((Ln.small (n := n) (m := n) (show z.length ≤ n by omega) (Nat.le_refl _)).sp hr).mono (by omega) (by omega)
      have ej : joinL (kS " ") (vO 8) [.d (lnD lines), .d (.lst (iL xs)), .own (lines.map D.str), .d (.int way), .d (.int p), .d (.str line), .d (.int sp), .d (.str ⟨#[sg]⟩), .own (.str z :: wr.map D.str), .un] = some (.ok (.str (Txt.join " " (z :: wr)))) := by
        show bnd (some (Except.ok (.str (" " : Str)))) (fun d => bnd (asS d) fun s => bnd (some (Except.ok ((z :: wr).map D.str))) fun l => joinOk s l) = _
        rw [bnd_ok]
        show joinOk " " ((z :: wr).map D.str) = _
        unfold joinOk
        rw [strsOf_map]
        dsimp only
        have hs : ((z :: wr).map (·.length)).sum ≤ 1000 * (z :: wr).length := by
          have := sum_le (l := (z :: wr).map (·.length)) (b := 1000) (fun x hx => by
            obtain ⟨w, hw, rfl⟩ := List.mem_map.mp hx
            rcases List.mem_cons.mp hw with rfl | hw
            · omega
            · have := (w1 w (List.mem_cons_of_mem _ hw)).1
              omega)
          rwa [List.length_map] at this
        rw [if_pos (by
          rw [show (" " : Str).length = 1 by decide]
          rw [List.length_cons] at hs w2 ⊢
          omega)]
      refine ⟨lines.set p (Txt.join " " (z :: wr)), Chg.set hL hc hj, ?_⟩
      refine fin_ (set_of (n := p) ej rfl rfl hpl) ?_
      show some (Except.ok ((lines.map D.str).set p (.str (Txt.join " " (z :: wr))))) = _
      rw [List.map_set]
  have e := t 3 3 rfl
  rw [decide_eq_false h3] at e
  rw [seq_F e]
  by_cases h4 : way = 4
  · have e := t 4 4 rfl
    rw [decide_eq_true h4] at e
    rw [seq_T e]
    have l1 := lcut none (some (sp : Int))
    have l2 := lcut (some (sp : Int)) none
    refine put _ _ (add_of (add_of (cutA g6) g7 (by omega)) (cutB g6) (by rw [ladd]; omega)) ?_
    exact (((hln.cut _ _).app (sign_ln sg)).app (hln.cut _ _)).mono (by omega) (by omega)
  have e := t 4 4 rfl
  rw [decide_eq_false h4] at e
  rw [seq_F e]
  by_cases h5 : way = 5
  · have e := t 5 5 rfl
    rw [decide_eq_true h5] at e
    rw [seq_T e]
    have l1 := lcut none (some (sp : Int))
    have l2 := lcut (some ((sp + 1 : Nat) : Int)) none
    refine put _ _ (add_of (cutA g6) (cutB sp1) (by omega)) ?_
    exact ((hln.cut _ _).app (hln.cut _ _)).mono (by omega) (by omega)
  have e := t 5 5 rfl
  rw [decide_eq_false h5] at e
  rw [seq_F e]
  by_cases h6 : way = 6
  · have e := t 6 6 rfl
    rw [decide_eq_true h6] at e
    rw [seq_T e]
    have l1 := lcut none (some (sp : Int))
    have l2 := lcut (some ((sp + 1 : Nat) : Int)) none
    refine put _ _ (add_of (add_of (cutA g6) g7 (by omega)) (cutB sp1) (by rw [ladd]; omega)) ?_
    exact (((hln.cut _ _).app (sign_ln sg)).app (hln.cut _ _)).mono (by omega) (by omega)
  have e := t 6 6 rfl
  rw [decide_eq_false h6] at e
  rw [seq_F e]
  by_cases h7 : way = 7
  · have e := t 7 7 rfl
    rw [decide_eq_true h7] at e
    rw [seq_T e]
    obtain ⟨v, hv, ev⟩ := lm 6 6 rfl (by decide)
    obtain ⟨z, hz, ez⟩ := ev_lit (P := fun z => Ln n m z) (f := lstE (consA (kS "") (consA (kS "prices") (consA (kS "point 1") (consA (vS 5) (consA (kS "ray 0") (consA (kS " ") nilA))))))) (zs := ["", "prices", "point 1", line, "ray 0", " "]) (fun z hz => by
      have lit : ∀ x ∈ (["", "prices", "point 1", "ray 0", " "] : List Str), Ln n m x := lits hn hnm (by decide)
      simp only [List.mem_cons, List.not_mem_nil, or_false] at hz
      rcases hz with rfl | rfl | rfl | rfl | rfl | rfl
      · exact lit _ (by simp)
      · exact lit _ (by simp)
      · exact lit _ (by simp)
      · exact hln
      · exact lit _ (by simp)
      · exact lit _ (by simp)) (by rw [← hρ]; rfl) hv ev
    refine ⟨lines ++ [z], Chg.of (fun l hl => ?_) (by rw [List.length_append]; simp; omega), ?_⟩
    · rcases List.mem_append.mp hl with q | q
      · exact hL l q
      · rw [List.mem_singleton.mp q]; exact hz
    · exact fin_ (met_of g2 (cons_of ez rfl) (app_of (by rw [List.length_map]; omega))) (by rw [go2, List.map_append]; rfl)
  have e := t 7 7 rfl
  rw [decide_eq_false h7] at e
  rw [seq_F e]
  by_cases h8 : way = 8
  · have e := t 8 8 rfl
    rw [decide_eq_true h8] at e
    rw [seq_T e]
    obtain ⟨v, hv, ev⟩ := lm 9 9 rfl (by decide)
    obtain ⟨z, hz, ez⟩ := ev_lit (P := fun z => Ln n m z) (f := lstE (consA (kS "") (consA (kS "point") (consA (kS "prices 1") (consA (kS "ray") (consA (kS "barred") (consA (kS "endless") (consA (kS "best") (consA (kS "best 1") (consA (kS "best 1 2") nilA)))))))))) (zs := ["", "point", "prices 1", "ray", "barred", "endless", "best", "best 1", "best 1 2"]) (lits hn hnm (by decide)) rfl hv ev
    exact put _ z ez (hz.mono (by omega) (by omega))
  have e := t 8 8 rfl
  rw [decide_eq_false h8] at e
  rw [seq_F e]
  by_cases h9 : way = 9
  · have e := t 9 9 rfl
    rw [decide_eq_true h9] at e
    rw [seq_T e]
    obtain ⟨v, hv, ev⟩ := lm 9 9 rfl (by decide)
    obtain ⟨z, hz, ez⟩ := ev_lit (P := fun z => Ln n m z) (f := lstE (consA (kS "") (consA (kS " ") (consA (kS " 1") (consA (kS "  1") (consA (kS " 01") (consA (kS " 2/4") (consA (kS " -0") (consA (kS " 1/1") (consA (kS " 0/3") nilA)))))))))) (zs := ["", " ", " 1", "  1", " 01", " 2/4", " -0", " 1/1", " 0/3"]) (lits hn hnm (by decide)) rfl hv ev
    have := hz.len
    exact put _ _ (add_of g5 ez (by omega)) ((hln.app hz).mono (by omega) (by omega))
  have e := t 9 9 rfl
  rw [decide_eq_false h9] at e
  rw [seq_F e]
  by_cases h10 : way = 10
  · have e := t 10 10 rfl
    rw [decide_eq_true h10] at e
    rw [seq_T e]
    obtain ⟨v, hv, ev⟩ := ev_mod (j := 4) (g := op2 dAdd (calE lLen (vO 2)) (kI 1)) (n := lines.length + 1) hd (by decide) (by omega) g1 (op_of (a := .int lines.length) (b := .int 1) (cal_of g2 (by show some (D.int ((lines.map D.str).length : Nat)) = _; rw [List.length_map])) rfl rfl) (by omega)
    refine ⟨cutL lines none (some (v : Int)), Chg.of (fun l hl => hL l (mem_cut hl)) (Nat.le_trans (len_cut _ _ _) (by omega)), ?_⟩
    refine fin_ (own_of (l := cutL (lines.map D.str) none (some (v : Int))) ?_) (by rw [go2, map_cut])
    unfold slL
    rw [show vO 2 ρ = some (.ok (lines.map D.str)) from g2, bnd_ok]
    show bnd (bnd (op2 dMod _ _ ρ) _) _ = _
    rw [ev]
    rfl
  have e := t 10 10 rfl
  rw [decide_eq_false h10] at e
  rw [seq_F e]
  obtain ⟨v, hv, ev⟩ := lm 6 6 rfl (by decide)
  obtain ⟨z, hz, ez⟩ := ev_lit (P := fun z => Ln n m z) (f := lstE (consA (kS "best 3") (consA (kS "barred") (consA (kS "endless") (consA (kS "best") (consA (kS "barred 0") (consA (kS "endless 1") nilA))))))) (zs := ["best 3", "barred", "endless", "best", "barred 0", "endless 1"]) (lits hn hnm (by decide)) rfl hv ev
  refine ⟨lines.set 0 z, Chg.set hL hc (hz.mono (by omega) (by omega)), ?_⟩
  refine fin_ (set_of (n := 0) ez g2 rfl (by rw [List.length_map]; omega)) ?_
  rw [go2, List.map_set]
end K86
set_option Elab.async false
set_option linter.all false
set_option maxRecDepth 100000
set_option maxHeartbeats 4000000
set_option autoImplicit false
namespace K86
open PySem PySem.Spec L2 PD TL
theorem x_changed {n m c k : Nat} (hn : 10 ≤ n) (hn2 : n ≤ 900) (hnm : n ≤ m) (hm : m ≤ 9000) {lines : List Str} {xs : List Int} (hL : ∀ l ∈ lines, Ln n m l) (hc : lines.length ≤ c) (hc0 : 2 ≤ c) (hc2 : c ≤ 90) (hd : Dr k xs) (hk : 5 ≤ k) :
    ∃ out, Chg n m c out ∧ f__law_changed [lnD lines, .lst (iL xs)] = some (.ok (lnD out)) := by
  show ∃ out, Chg n m c out ∧ outR (b__law_changed [.d (lnD lines), .d (.lst (iL xs)), .un, .un, .un, .un, .un, .un, .un, .un]) = _
  unfold b__law_changed
  rw [seq_own (l := lines.map D.str) rfl]
  dsimp only [List.set]
  have elen : ∀ (s3 s4 s5 s6 s7 s8 s9 : Sl), calE lLen (vO 2) [.d (lnD lines), .d (.lst (iL xs)), .own (lines.map D.str), s3, s4, s5, s6, s7, s8, s9] = some (.ok (.int lines.length)) := fun _ _ _ _ _ _ _ => cal_of (l := lines.map D.str) rfl (by show some (D.int ((lines.map D.str).length : Nat)) = _; rw [List.length_map])
  have e0 := ev_eqn (elen .un .un .un .un .un .un .un) (g := kI 0) (b := 0) rfl
  by_cases h0 : lines = []
  · rw [decide_eq_true (by rw [h0]; rfl)] at e0
    obtain ⟨v, hv, ev⟩ := ev_mod (j := 0) (g := kI 3) (n := 3) (ρ := [.d (lnD lines), .d (.lst (iL xs)), .own (lines.map D.str), .un, .un, .un, .un, .un, .un, .un]) hd (by decide) (by omega) rfl rfl (by decide)
    refine ⟨cutL ["", "best 1", "barred"] (some (v : Int)) none, Chg.of (fun l hl => lits hn hnm (zs := ["", "best 1", "barred"]) (by decide) l (mem_cut hl)) (Nat.le_trans (len_cut _ _ _) (by simp; omega)), ?_⟩
    rw [seq_T e0, seq_ret (d := lnD (cutL ["", "best 1", "barred"] (some (v : Int)) none))]
    · rfl
    · refine sl_of (d := lnD ["", "best 1", "barred"]) rfl (by show bnd (op2 dMod _ _ _) _ = _; rw [ev]; rfl) rfl ?_
      show some (D.tup (cutL ((["", "best 1", "barred"] : List Str).map D.str) (some (v : Int)) none)) = _
      rw [map_cut]
  · have hpos : 0 < lines.length := List.length_pos_iff.mpr h0
    rw [decide_eq_false (by omega)] at e0
    rw [seq_F e0, seq_nil]
    obtain ⟨way, hw, ew⟩ := ev_mod (j := 0) (g := kI 12) (n := 12) (ρ := [.d (lnD lines), .d (.lst (iL xs)), .own (lines.map D.str), .un, .un, .un, .un, .un, .un, .un]) hd (by decide) (by omega) rfl rfl (by decide)
    rw [seq_asg ew]
    dsimp only [List.set]
    obtain ⟨p, hp, ep⟩ := ev_mod (j := 1) (g := calE lLen (vO 2)) (n := lines.length) (ρ := [.d (lnD lines), .d (.lst (iL xs)), .own (lines.map D.str), .d (.int way), .un, .un, .un, .un, .un, .un]) hd (by decide) (by omega) rfl (elen _ _ _ _ _ _ _) hpos
    rw [seq_asg ep]
    dsimp only [List.set]
    have el : lines[p]? = some lines[p] := by simp [hp]
    have eix : ixL (vO 2) (vS 4) [.d (lnD lines), .d (.lst (iL xs)), .own (lines.map D.str), .d (.int way), .d (.int p), .un, .un, .un, .un, .un] = some (.ok (.str lines[p])) := by
      show bnd (some (Except.ok (lines.map D.str))) (fun l => bnd (some (Except.ok (D.int p))) fun d => opt (dIx (.lst l) d)) = _
      rw [bnd_ok, bnd_ok, ix_lst el]
      rfl
    rw [seq_asg eix]
    dsimp only [List.set]
    have hln : Ln n m lines[p] := hL _ (List.getElem_mem hp)
    have hll : lines[p].length ≤ 9000 := Nat.le_trans hln.len hm
    obtain ⟨sp, hs, es⟩ := ev_mod (j := 2) (g := op2 dAdd (calE dLen (consA (vS 5) nilA)) (kI 1)) (n := lines[p].length + 1) (ρ := [.d (lnD lines), .d (.lst (iL xs)), .own (lines.map D.str), .d (.int way), .d (.int p), .d (.str lines[p]), .un, .un, .un, .un]) hd (by decide) (by omega) rfl (op_of (cal_of (l := [.str lines[p]]) rfl (dLen_str (by omega))) (b := .int 1) rfl rfl) (by omega)
    rw [seq_asg es]
    dsimp only [List.set]
    obtain ⟨v, hv, ev⟩ := ev_mod (j := 3) (g := kI 17) (n := 17) (ρ := [.d (lnD lines), .d (.lst (iL xs)), .own (lines.map D.str), .d (.int way), .d (.int p), .d (.str lines[p]), .d (.int sp), .un, .un, .un]) hd (by decide) (by omega) rfl rfl (by decide)
    have hsg : ∃ c : Nat, dIx (.str "0123456789 /-+.aP") (.int v) = some (.str ⟨#[c]⟩) := by
      have hl : v < ("0123456789 /-+.aP" : Str).cps.toList.length := by
        rw [show ("0123456789 /-+.aP" : Str).cps.toList.length = 17 by decide]
        exact hv
      refine ⟨("0123456789 /-+.aP" : Str).cps.toList[v], ?_⟩
      show (if ("0123456789 /-+.aP" : Str).length ≤ 16777216 then (atI ("0123456789 /-+.aP" : Str).cps.toList (v : Int)).map fun c => D.str ⟨#[c]⟩ else none) = _
      rw [if_pos (by decide), PD.atI_nat hl]
      rfl
    obtain ⟨sg, hsg⟩ := hsg
    rw [seq_asg (op_of (a := .str "0123456789 /-+.aP") rfl ev hsg)]
    dsimp only [List.set]
    rw [seq_own (split_of (s := lines[p]) rfl hll)]
    dsimp only [List.set]
    exact x_lcM hn hn2 hnm hm hL hc hc2 hd hk way p sp lines[p] sg el (wds lines[p]) rfl
/-! ### lines as they are written -/
theorem Ln.join {n : Nat} : ∀ {ws : List Str}, ws ≠ [] → (∀ w ∈ ws, w.length ≤ n) → Ln n ((n + 1) * ws.length) (Txt.join " " ws)
  | [], h, _ => absurd rfl h
  | [w], _, hw => Ln.small (hw w (by simp)) (by simp)
  | w :: y :: r, _, hw => by
    rw [join_cons2]
    have h1 : Ln n n w := Ln.small (hw w (by simp)) (Nat.le_refl _)
    have h2 := Ln.join (ws := y :: r) (by simp) fun z hz => hw z (List.mem_cons_of_mem _ hz)
    refine (h1.sp h2).mono (Nat.le_refl _) ?_
    rw [List.length_cons (as := y :: r), Nat.mul_add]
    omega
def smallN (l : List Q) : Prop := (∀ q ∈ l, Nm q) ∧ l.length ≤ 20
def smallA : Ans → Prop
  | .best q a b => Nm q ∧ smallN a ∧ smallN b
  | .barred a => smallN a
  | .endless a b => smallN a ∧ smallN b
theorem smallN.good {l : List Q} (h : smallN l) : goodN l := ⟨fun q hq => (h.1 q hq).w, Nat.le_trans h.2 (by decide)⟩
theorem smallA.good {A : Ans} (h : smallA A) : goodA A := by
  cases A with
  | best q a b => exact ⟨h.1.w, h.2.1.good, h.2.2.good⟩
  | barred a => exact smallN.good h
  | endless a b => exact ⟨h.1.good, h.2.good⟩
theorem ln_line {w : Str} {qs : List Q} (hw : w.length ≤ 10) (h : smallN qs) : Ln 84 1800 (lineS w qs) := by
  refine (Ln.join (n := 84) (ws := w :: qs.map wrS) (by simp) (fun z hz => ?_)).mono (Nat.le_refl _) ?_
  · rcases List.mem_cons.mp hz with rfl | hz
    · omega
    · obtain ⟨q, hq, rfl⟩ := List.mem_map.mp hz
      have := wr_len (k := 41) (by decide) (h.1 q hq).2.2.1 (h.1 q hq).2.2.2
      omega
  · rw [List.length_cons, List.length_map]
    have := h.2
    omega
theorem ln_A {A : Ans} (h : smallA A) : (∀ l ∈ linesA A, Ln 84 1800 l) ∧ (linesA A).length ≤ 3 := by
  have hs : ∀ w : Str, w.length ≤ 10 → Ln 84 1800 w := fun w hw => ln_line (qs := []) hw ⟨by simp, by simp⟩
  cases A with
  | best q a b =>
    refine ⟨fun l hl => ?_, by simp [linesA]⟩
    rcases List.mem_cons.mp hl with rfl | hl
    · exact ln_line (by decide) ⟨fun x hx => by rw [List.mem_singleton.mp hx]; exact h.1, by simp⟩
    · rcases List.mem_cons.mp hl with rfl | hl
      · exact ln_line (by decide) h.2.1
      · rw [List.mem_singleton.mp hl]; exact ln_line (by decide) h.2.2
  | barred a =>
    refine ⟨fun l hl => ?_, by simp [linesA]⟩
    rcases List.mem_cons.mp hl with rfl | hl
    · exact hs _ (by decide)
    · rw [List.mem_singleton.mp hl]; exact ln_line (by decide) h
  | endless a b =>
    refine ⟨fun l hl => ?_, by simp [linesA]⟩
    rcases List.mem_cons.mp hl with rfl | hl
    · exact hs _ (by decide)
    · rcases List.mem_cons.mp hl with rfl | hl
      · exact ln_line (by decide) h.1
      · rw [List.mem_singleton.mp hl]; exact ln_line (by decide) h.2
theorem okL_of {n m c : Nat} {lines : List Str} (h : ∀ l ∈ lines, Ln n m l) (hc : lines.length ≤ c) (h1 : n ≤ 400) (h2 : m ≤ 9000) (h3 : c ≤ 100) : okL lines := ⟨fun l hl => (h l hl).mono h1 h2, by omega⟩
theorem pl_told {lines : List Str} (hL : okL lines) : pl 6 (toldD (reading lines)) := by
  cases h : reading lines with
  | error n => exact pl_bad n
  | ok A => exact pl_due (reading_back hL h).2
/-! ### the law's loop -/
noncomputable abbrev lwB : SF := (seqS (asgS 10 (callE f__law_draws (consA (vS 0) (consA (op2 dAdd (kI 44) (vS 9)) (consA (kI 11) nilA))))) (seqS (asgS 11 (callE f__law_changed (consA (vS 7) (consA (vS 10) nilA)))) (seqS (ifS (asT (op2 dEq (op2 dMod (op2 dIx (vS 10) (kI 5)) (kI 2)) (kI 0))) (asgS 11 (callE f__law_changed (consA (vS 11) (consA (slE (vS 10) (pS (kI 6)) pN) nilA)))) nilS) (seqS (asgS 12 (callE f__law_reading (consA (vS 11) nilA))) (seqS (ifS (notT (asT (callE (f__law_same 6) (consA (callE f__law_told (consA (vS 11) nilA)) (consA (vS 12) nilA))))) (retS (kB false)) nilS) (seqS (ifS (andT (asT (op2 dEq (op2 dIx (vS 12) (kI 0)) (kS "bad"))) (notT (asT (callE f__law_only_bad (consA (vS 11) nilA))))) (retS (kB false)) nilS) (ifS (andT (asT (op2 dNe (op2 dIx (vS 12) (kI 0)) (kS "bad"))) (notT (asT (callE (f__law_same 6) (consA (callE f_write_answer (consA (callE f_read_answer (consA (vS 11) nilA)) nilA)) (consA (vS 11) nilA)))))) (retS (kB false)) nilS)))))))
abbrev lwR (S : List Int) (s1 s2 s3 s4 s5 s6 : Sl) (L : List Str) (s8 s9 s10 s11 s12 : Sl) : List Sl := [.d (.fls (iL S)), s1, s2, s3, s4, s5, s6, .d (lnD L), s8, s9, s10, s11, s12]
theorem x_tests (S : List Int) (s1 s2 s3 s4 s5 s6 s8 s9 s10 s12 : Sl) {L C : List Str} (hC : okL C) :
    seqS (asgS 12 (callE f__law_reading (consA (vS 11) nilA))) (seqS (ifS (notT (asT (callE (f__law_same 6) (consA (callE f__law_told (consA (vS 11) nilA)) (consA (vS 12) nilA))))) (retS (kB false)) nilS) (seqS (ifS (andT (asT (op2 dEq (op2 dIx (vS 12) (kI 0)) (kS "bad"))) (notT (asT (callE f__law_only_bad (consA (vS 11) nilA))))) (retS (kB false)) nilS) (ifS (andT (asT (op2 dNe (op2 dIx (vS 12) (kI 0)) (kS "bad"))) (notT (asT (callE (f__law_same 6) (consA (callE f_write_answer (consA (callE f_read_answer (consA (vS 11) nilA)) nilA)) (consA (vS 11) nilA)))))) (retS (kB false)) nilS))) (lwR S s1 s2 s3 s4 s5 s6 L s8 s9 s10 (.d (lnD C)) s12) = some (.nx (lwR S s1 s2 s3 s4 s5 s6 L s8 s9 s10 (.d (lnD C)) (.d (toldD (reading C))))) := by
  rw [seq_asg (call_of (l := [lnD C]) rfl (x_law_reading hC))]
  dsimp only [List.set]
  have ha : ∀ s12' : Sl, (consA (vS 11) nilA) (lwR S s1 s2 s3 s4 s5 s6 L s8 s9 s10 (.d (lnD C)) s12') = some (.ok [lnD C]) := fun _ => rfl
  have e1 : (notT (asT (callE (f__law_same 6) (consA (callE f__law_told (consA (vS 11) nilA)) (consA (vS 12) nilA))))) (lwR S s1 s2 s3 s4 s5 s6 L s8 s9 s10 (.d (lnD C)) (.d (toldD (reading C)))) = some (.ok (!true)) :=
    not_of (asT_of (call_of (l := [toldD (reading C), toldD (reading C)]) (cons_of (call_of (ha _) (x_law_told hC)) rfl) (x_same 6 _ (pl_told hC))))
  rw [seq_F e1, seq_nil]
  cases hr : reading C with
  | error n =>
    have e2 : (andT (asT (op2 dEq (op2 dIx (vS 12) (kI 0)) (kS "bad"))) (notT (asT (callE f__law_only_bad (consA (vS 11) nilA))))) (lwR S s1 s2 s3 s4 s5 s6 L s8 s9 s10 (.d (lnD C)) (.d (toldD (.error n)))) = some (.ok (true && !true)) :=
      andd_of (by rfl) (not_of (asT_of (call_of (ha _) (x_only_bad hC hr))))
    rw [seq_F e2, seq_nil]
    rw [if_F (and_F (by rfl))]
    rfl
  | ok A =>
    obtain ⟨b1, b2⟩ := reading_back hC hr
    have e2 : (asT (op2 dEq (op2 dIx (vS 12) (kI 0)) (kS "bad"))) (lwR S s1 s2 s3 s4 s5 s6 L s8 s9 s10 (.d (lnD C)) (.d (toldD (.ok A)))) = some (.ok false) := by cases A <;> rfl
    rw [seq_F (and_F e2), seq_nil]
    have e3 : (asT (op2 dNe (op2 dIx (vS 12) (kI 0)) (kS "bad"))) (lwR S s1 s2 s3 s4 s5 s6 L s8 s9 s10 (.d (lnD C)) (.d (toldD (.ok A)))) = some (.ok true) := by cases A <;> rfl
    have hra := x_read_answer hC
    rw [hr] at hra
    have e4 : (notT (asT (callE (f__law_same 6) (consA (callE f_write_answer (consA (callE f_read_answer (consA (vS 11) nilA)) nilA)) (consA (vS 11) nilA))))) (lwR S s1 s2 s3 s4 s5 s6 L s8 s9 s10 (.d (lnD C)) (.d (toldD (.ok A)))) = some (.ok (!true)) := by
      refine not_of (asT_of (call_of (l := [lnD C, lnD C]) (cons_of (call_of (l := [ansD A]) (cons_of (call_of (ha _) hra) rfl) ?_) rfl) (x_same 6 _ (pl_lines hC.2))))
      rw [x_write_answer b2, b1]
    rw [if_F (andd_of e3 e4)]
    rfl
theorem x_lwB (S : List Int) (s1 s2 s3 s4 s5 s6 s8 s10 s11 s12 : Sl) {L : List Str} (at_ : Nat) (hL : ∀ l ∈ L, Ln 84 1800 l) (hl : L.length ≤ 3) :
    ∃ s10' s11' s12', lwB (lwR S s1 s2 s3 s4 s5 s6 L s8 (.d (.int at_)) s10 s11 s12) = some (.nx (lwR S s1 s2 s3 s4 s5 s6 L s8 (.d (.int at_)) s10' s11' s12')) := by
  obtain ⟨xs, hd, hx⟩ := x_draws S (44 + at_) 11 (by decide)
  unfold lwB
  rw [seq_asg (call_of (l := [.fls (iL S), .int ((44 + at_ : Nat) : Int), .int ((11 : Nat) : Int)]) (cons_of rfl (cons_of (op_of (a := .int 44) (b := .int at_) rfl rfl (by show some (D.int (44 + (at_ : Int))) = _; rw [Int.natCast_add]; rfl)) rfl)) hx)]
  dsimp only [List.set]
  obtain ⟨C, hC, eC⟩ := x_changed (n := 84) (m := 1800) (c := 3) (by decide) (by decide) (by decide) (by decide) hL hl (by decide) (by decide) hd (by decide)
  rw [seq_asg (call_of (l := [lnD L, .lst (iL xs)]) rfl eC)]
  dsimp only [List.set]
  obtain ⟨v, v0, v1, ev⟩ := ev_ix (f := vS 10) (g := kI 5) (ρ := lwR S s1 s2 s3 s4 s5 s6 L s8 (.d (.int at_)) (.d (.lst (iL xs))) (.d (lnD C)) s12) hd rfl rfl (by decide) (by decide)
  have e : (asT (op2 dEq (op2 dMod (op2 dIx (vS 10) (kI 5)) (kI 2)) (kI 0))) (lwR S s1 s2 s3 s4 s5 s6 L s8 (.d (.int at_)) (.d (.lst (iL xs))) (.d (lnD C)) s12) = some (.ok (decide (v % 2 = 0))) :=
    asT_of (op_of (op_of (a := .int v) (b := .int 2) ev rfl (mod_of (by decide))) rfl rfl)
  have hlC : C.length ≤ 4 := hC.len
  by_cases hv : v % 2 = 0
  · rw [decide_eq_true hv] at e
    have hdr : Dr 5 (xs.drop 6) := ⟨by rw [List.length_drop, hd.1], fun x hx => hd.2 x (List.mem_of_mem_drop hx)⟩
    obtain ⟨C2, hC2, eC2⟩ := x_changed (n := 178) (m := 3620) (c := 4) (by decide) (by decide) (by decide) (by decide) (fun l q => (hC.ln l q).mono (by decide) (by decide)) hlC (by decide) (by decide) hdr (by decide)
    have hcut : cutL (iL xs) (some 6) none = iL (xs.drop 6) := by
      unfold cutL
      have h11 : (iL xs).length = 11 := by rw [List.length_map, hd.1]
      have h1 : HT.sIx (iL xs).length 0 (some 6) = 6 := by
        have := HT.sIx_nat (iL xs).length 0 6
        rw [h11] at this ⊢
        exact this
      rw [h1, HT.sIx_none, List.take_of_length_le (by rw [List.length_drop]; omega)]
      show (xs.map D.int).drop 6 = (xs.drop 6).map D.int
      rw [List.map_drop]
    rw [seq_T e, seq_asg (call_of (l := [lnD C, .lst (iL (xs.drop 6))]) (cons_of rfl (cons_of (sl_of (d := .lst (iL xs)) (lo := some 6) (hi := none) rfl rfl rfl (by
      show some (D.lst (cutL (iL xs) (some 6) none)) = _
      rw [hcut])) rfl)) eC2)]
    dsimp only [List.set]
    exact ⟨_, _, _, x_tests S s1 s2 s3 s4 s5 s6 s8 _ _ s12 (okL_of hC2.ln hC2.len (by decide) (by decide) (by decide))⟩
  · rw [decide_eq_false hv] at e
    rw [seq_F e, seq_nil]
    exact ⟨_, _, _, x_tests S s1 s2 s3 s4 s5 s6 s8 _ _ s12 (okL_of hC.ln hC.len (by decide) (by decide) (by decide))⟩
theorem x_lwGo (S : List Int) (s1 s2 s3 s4 s5 s6 s8 : Sl) {L : List Str} (hL : ∀ l ∈ L, Ln 84 1800 l) (hl : L.length ≤ 3) : ∀ (n i : Nat) (s9 s10 s11 s12 : Sl),
    ∃ s9' s10' s11' s12', forGo (setN 9) lwB (rngD i n) (lwR S s1 s2 s3 s4 s5 s6 L s8 s9 s10 s11 s12) = some (.nx (lwR S s1 s2 s3 s4 s5 s6 L s8 s9' s10' s11' s12'))
  | 0, i, s9, s10, s11, s12 => ⟨s9, s10, s11, s12, rfl⟩
  | n + 1, i, s9, s10, s11, s12 => by
    obtain ⟨a, b, c, e⟩ := x_lwB S s1 s2 s3 s4 s5 s6 s8 s10 s11 s12 i hL hl
    obtain ⟨s9', s10', s11', s12', h⟩ := x_lwGo S s1 s2 s3 s4 s5 s6 s8 hL hl n (i + 1) (.d (.int i)) a b c
    refine ⟨s9', s10', s11', s12', ?_⟩
    rw [rngD_cons, go_nx (ρ1 := lwR S s1 s2 s3 s4 s5 s6 L s8 (.d (.int i)) s10 s11 s12) rfl e]
    exact h
end K86
set_option Elab.async false
set_option linter.all false
set_option maxRecDepth 100000
set_option maxHeartbeats 4000000
set_option autoImplicit false
namespace K86
open PySem PySem.Spec L2 PD TL
noncomputable abbrev lfR (S xs : List Int) (sz : List D) (q : Q) (a b : List Q) (A : Ans) : List Sl := [.d (.fls (iL S)), .d (.lst (iL xs)), .own sz, .d (qD q), .d (rowD a), .d (rowD b), .d (ansD A), .d (lnD (linesA A)), .d (dueD A), .un, .un, .un, .un]
noncomputable abbrev lfK : SF := (seqS (ifS (orT (notT (asT (callE (f__law_same 6) (consA (callE f_write_answer (consA (vS 6) nilA)) (consA (vS 7) nilA))))) (notT (asT (callE (f__law_same 6) (consA (callE f__law_told (consA (vS 7) nilA)) (consA (vS 8) nilA)))))) (retS (kB false)) nilS) (seqS (forS (rng1A (consA (kI 4) nilA)) (setN 9) lwB) (retS (andE (callE (f__law_same 6) (consA (callE f__law_told (consA (tupE nilA) nilA)) (consA (tupE (consA (kS "bad") (consA (kI 1) nilA))) nilA))) (callE (f__law_same 6) (consA (callE f__law_told (consA (vS 7) nilA)) (consA (vS 8) nilA)))))))
theorem x_lfK (S xs : List Int) (sz : List D) (q : Q) (a b : List Q) {A : Ans} (h : smallA A) : outR (lfK (lfR S xs sz q a b A)) = some (.ok (.bl true)) := by
  obtain ⟨hL, hl⟩ := ln_A h
  have hO : okL (linesA A) := okL_of hL hl (by decide) (by decide) (by decide)
  have hr := reading_lines h.good
  have htold := x_law_told hO
  rw [hr] at htold
  have ew : ∀ s9 s10 s11 s12 : Sl, callE (f__law_same 6) (consA (callE f_write_answer (consA (vS 6) nilA)) (consA (vS 7) nilA)) [.d (.fls (iL S)), .d (.lst (iL xs)), .own sz, .d (qD q), .d (rowD a), .d (rowD b), .d (ansD A), .d (lnD (linesA A)), .d (dueD A), s9, s10, s11, s12] = some (.ok (.bl true)) := fun _ _ _ _ =>
    call_of (l := [lnD (linesA A), lnD (linesA A)]) (cons_of (call_of (l := [ansD A]) rfl (x_write_answer h.good)) rfl) (x_same 6 _ (pl_lines hO.2))
  have et : ∀ s9 s10 s11 s12 : Sl, callE (f__law_same 6) (consA (callE f__law_told (consA (vS 7) nilA)) (consA (vS 8) nilA)) [.d (.fls (iL S)), .d (.lst (iL xs)), .own sz, .d (qD q), .d (rowD a), .d (rowD b), .d (ansD A), .d (lnD (linesA A)), .d (dueD A), s9, s10, s11, s12] = some (.ok (.bl true)) := fun _ _ _ _ =>
    call_of (l := [dueD A, dueD A]) (cons_of (call_of (l := [lnD (linesA A)]) rfl htold) rfl) (x_same 6 _ (pl_due h.good))
  unfold lfK
  rw [seq_F (or_of (b := !true) (c := !true) (not_of (asT_of (ew _ _ _ _))) (not_of (asT_of (et _ _ _ _)))), seq_nil]
  obtain ⟨s9', s10', s11', s12', hg⟩ := x_lwGo S (.d (.lst (iL xs))) (.own sz) (.d (qD q)) (.d (rowD a)) (.d (rowD b)) (.d (ansD A)) (.d (dueD A)) hL hl 4 0 .un .un .un .un
  have hfor : forS (rng1A (consA (kI 4) nilA)) (setN 9) lwB (lfR S xs sz q a b A) = _ := for_of (rngA_of (n := 4) rfl (by decide))
  rw [seq_nx (hfor.trans hg)]
  have e0 : okL [] := ⟨by simp, by simp⟩
  have t0 := x_law_told e0
  rw [show reading [] = .error 1 from rfl] at t0
  have eb : callE (f__law_same 6) (consA (callE f__law_told (consA (tupE nilA) nilA)) (consA (tupE (consA (kS "bad") (consA (kI 1) nilA))) nilA)) (lwR S (.d (.lst (iL xs))) (.own sz) (.d (qD q)) (.d (rowD a)) (.d (rowD b)) (.d (ansD A)) (linesA A) (.d (dueD A)) s9' s10' s11' s12') = some (.ok (.bl true)) :=
    call_of (l := [badD 1, badD 1]) (cons_of (call_of (l := [lnD []]) rfl t0) rfl) (x_same 6 _ (pl_bad 1))
  rw [ret_of (d := .bl true)]
  · rfl
  · unfold andE
    rw [eb]
    show callE (f__law_same 6) (consA (callE f__law_told (consA (vS 7) nilA)) (consA (vS 8) nilA)) _ = _
    exact et _ _ _ _
theorem x_law (S : List Int) : f_law [.fls (iL S)] = some (.ok (.bl true)) := by
  show outR (b_law [.d (.fls (iL S)), .un, .un, .un, .un, .un, .un, .un, .un, .un, .un, .un, .un]) = _
  unfold b_law
  obtain ⟨xs, hd, hx⟩ := x_draws S 0 4 (by decide)
  rw [seq_asg (call_of (l := [.fls (iL S), .int ((0 : Nat) : Int), .int ((4 : Nat) : Int)]) rfl hx)]
  dsimp only [List.set]
  have ix : ∀ (j : Int) (ρ : List Sl), 0 ≤ j → j < 4 → getS ρ 1 = some (.ok (.lst (iL xs))) → ∃ v : Nat, op2 dIx (vS 1) (kI j) ρ = some (.ok (.int v)) := fun j ρ h0 h1 hg => by
    obtain ⟨v, v0, _, e⟩ := ev_ix (f := vS 1) (g := kI j) (ρ := ρ) hd hg rfl h0 h1
    obtain ⟨u, rfl⟩ := Int.eq_ofNat_of_zero_le v0
    exact ⟨u, e⟩
  obtain ⟨u1, e1⟩ := ix 1 [.d (.fls (iL S)), .d (.lst (iL xs)), .un, .un, .un, .un, .un, .un, .un, .un, .un, .un, .un] (by decide) (by decide) rfl
  obtain ⟨u2, e2⟩ := ix 2 [.d (.fls (iL S)), .d (.lst (iL xs)), .un, .un, .un, .un, .un, .un, .un, .un, .un, .un, .un] (by decide) (by decide) rfl
  have m21 : ∀ u : Nat, dMod (.int u) (.int 21) = some (.int ((u % 21 : Nat) : Int)) := fun u => by rw [mod_of (by decide)]; rfl
  rw [seq_own (l := [.int ((u1 % 21 : Nat) : Int), .int ((u2 % 21 : Nat) : Int)]) (by
    show bnd (consA _ _ _) _ = _
    rw [cons_of (op_of e1 (b := .int 21) rfl (m21 u1)) (cons_of (op_of e2 (b := .int 21) rfl (m21 u2)) rfl)]
    rfl)]
  dsimp only [List.set]
  obtain ⟨u3, e3⟩ := ix 3 [.d (.fls (iL S)), .d (.lst (iL xs)), .own [.int ((u1 % 21 : Nat) : Int), .int ((u2 % 21 : Nat) : Int)], .un, .un, .un, .un, .un, .un, .un, .un, .un, .un] (by decide) (by decide) rfl
  have hz : ∃ x y : Nat, x ≤ 20 ∧ y ≤ 20 ∧ ∀ kk : SF, seqS (ifS (asT (op2 dEq (op2 dMod (op2 dIx (vS 1) (kI 3)) (kI 3)) (kI 0))) (setItS 2 (op2 dMod (op2 dDiv (op2 dIx (vS 1) (kI 3)) (kI 3)) (kI 2)) (kI 0)) nilS) kk [.d (.fls (iL S)), .d (.lst (iL xs)), .own [.int ((u1 % 21 : Nat) : Int), .int ((u2 % 21 : Nat) : Int)], .un, .un, .un, .un, .un, .un, .un, .un, .un, .un] =
      kk [.d (.fls (iL S)), .d (.lst (iL xs)), .own [.int x, .int y], .un, .un, .un, .un, .un, .un, .un, .un, .un, .un] := by
    have em : (asT (op2 dEq (op2 dMod (op2 dIx (vS 1) (kI 3)) (kI 3)) (kI 0))) [.d (.fls (iL S)), .d (.lst (iL xs)), .own [.int ((u1 % 21 : Nat) : Int), .int ((u2 % 21 : Nat) : Int)], .un, .un, .un, .un, .un, .un, .un, .un, .un, .un] = some (.ok (decide ((u3 : Int) % 3 = 0))) :=
      asT_of (op_of (op_of e3 (b := .int 3) rfl (mod_of (by decide))) rfl rfl)
    by_cases h3 : (u3 : Int) % 3 = 0
    · rw [decide_eq_true h3] at em
      have ei : op2 dMod (op2 dDiv (op2 dIx (vS 1) (kI 3)) (kI 3)) (kI 2) [.d (.fls (iL S)), .d (.lst (iL xs)), .own [.int ((u1 % 21 : Nat) : Int), .int ((u2 % 21 : Nat) : Int)], .un, .un, .un, .un, .un, .un, .un, .un, .un, .un] = some (.ok (.int ((u3 / 3 % 2 : Nat) : Int))) :=
        op_of (op_of e3 (b := .int 3) rfl (div_of (by decide) (by decide))) (b := .int 2) rfl (mod_of (by decide))
      have h2 : u3 / 3 % 2 = 0 ∨ u3 / 3 % 2 = 1 := by omega
      rcases h2 with h2 | h2
      · rw [h2] at ei
        refine ⟨0, u2 % 21, by omega, by omega, fun kk => ?_⟩
        rw [seq_T em, seq_nx (set_of (n := 0) (d := .int 0) rfl rfl ei (by simp))]
        rfl
      · rw [h2] at ei
        refine ⟨u1 % 21, 0, by omega, by omega, fun kk => ?_⟩
        rw [seq_T em, seq_nx (set_of (n := 1) (d := .int 0) rfl rfl ei (by simp))]
        rfl
    · rw [decide_eq_false h3] at em
      exact ⟨u1 % 21, u2 % 21, by omega, by omega, fun kk => by rw [seq_F em, seq_nil]⟩
  obtain ⟨x, y, hx20, hy20, hz⟩ := hz
  rw [hz]
  obtain ⟨q, hq, eq⟩ := x_number S 1
  rw [seq_asg (call_of (l := [.fls (iL S), .int ((1 : Nat) : Int)]) rfl eq)]
  dsimp only [List.set]
  obtain ⟨a, a1, a2, ea⟩ := x_row S 2 x (by omega)
  rw [seq_asg (call_of (l := [.fls (iL S), .int ((2 : Nat) : Int), .int x]) rfl ea)]
  dsimp only [List.set]
  obtain ⟨b, b1, b2, eb⟩ := x_row S 22 y (by omega)
  rw [seq_asg (call_of (l := [.fls (iL S), .int ((22 : Nat) : Int), .int y]) rfl eb)]
  dsimp only [List.set]
  have sa : smallN a := ⟨a2, by omega⟩
  have sb : smallN b := ⟨b2, by omega⟩
  have ll : ∀ (w : Str) (qs : List Q) (f g : EF) (ρ : List Sl), w.length ≤ 1000 → goodN qs → f ρ = some (.ok (.str w)) → g ρ = some (.ok (rowD qs)) → callE f__law_line (consA f (consA g nilA)) ρ = some (.ok (.str (lineS w qs))) :=
    fun w qs f g ρ hw hq hf hg => call_of (l := [.str w, rowD qs]) (cons_of hf (cons_of hg rfl)) (x_law_line true hw hq.1 hq.2)
  rw [seq_asg (d := ansD (.barred b)) (call_of (l := [rowD b]) rfl (x_Barred _))]
  dsimp only [List.set]
  rw [seq_asg (d := lnD (linesA (.barred b))) (by
    show bnd _ tupR = _
    rw [cons_of (d := .str "barred") rfl (cons_of (ll "prices" b _ _ _ (by decide) sb.good rfl rfl) rfl)]
    rfl)]
  dsimp only [List.set]
  rw [seq_asg (d := dueD (.barred b)) rfl]
  dsimp only [List.set]
  -- the three kinds
  obtain ⟨u0, e0⟩ := ix 0 (lfR S xs [.int x, .int y] q a b (.barred b)) (by decide) (by decide) rfl
  have em : ∀ z : Int, (asT (op2 dEq (op2 dMod (op2 dIx (vS 1) (kI 0)) (kI 3)) (kI z))) (lfR S xs [.int x, .int y] q a b (.barred b)) = some (.ok (decide ((u0 : Int) % 3 = z))) := fun z =>
    asT_of (op_of (op_of e0 (b := .int 3) rfl (mod_of (by decide))) rfl rfl)
  by_cases k1 : (u0 : Int) % 3 = 1
  · have e1 := em 1
    rw [decide_eq_true k1] at e1
    rw [seq_T e1, seq_seq, seq_asg (d := ansD (.best q a b)) (call_of (l := [qD q, rowD a, rowD b]) rfl (x_Best _ _ _))]
    dsimp only [List.set]
    rw [seq_seq, seq_asg (d := lnD (linesA (.best q a b))) (by
      show bnd _ tupR = _
      rw [cons_of (d := .str (lineS "best" [q])) (call_of (l := [.str "best", .lst ([q].map qD)]) rfl (x_law_line false (by decide) (fun z hz => by rw [List.mem_singleton.mp hz]; exact hq.w) (by simp))) (cons_of (ll "point" a _ _ _ (by decide) sa.good rfl rfl) (cons_of (ll "prices" b _ _ _ (by decide) sb.good rfl rfl) rfl))]
      rfl)]
    dsimp only [List.set]
    rw [seq_asg (d := dueD (.best q a b)) rfl]
    dsimp only [List.set]
    obtain ⟨v0, f0⟩ := ix 0 (lfR S xs [.int x, .int y] q a b (.best q a b)) (by decide) (by decide) rfl
    have : v0 = u0 := by
      have h1 := op_of (o := dIx) (f := vS 1) (g := kI 0) (ρ := lfR S xs [.int x, .int y] q a b (.best q a b)) (a := .lst (iL xs)) (b := .int 0) (c := .int v0) rfl rfl (by
        have := f0
        unfold op2 at this
        cases h : dIx (.lst (iL xs)) (.int 0) with
        | none =>
          rw [show (vS 1) (lfR S xs [.int x, .int y] q a b (.best q a b)) = some (.ok (.lst (iL xs))) from rfl, bnd_ok] at this
          rw [show (kI 0) (lfR S xs [.int x, .int y] q a b (.best q a b)) = some (.ok (.int 0)) from rfl, bnd_ok, h] at this
          cases this
        | some d =>
          rw [show (vS 1) (lfR S xs [.int x, .int y] q a b (.best q a b)) = some (.ok (.lst (iL xs))) from rfl, bnd_ok] at this
          rw [show (kI 0) (lfR S xs [.int x, .int y] q a b (.best q a b)) = some (.ok (.int 0)) from rfl, bnd_ok, h] at this
          cases this
          rfl)
      have h2 : op2 dIx (vS 1) (kI 0) (lfR S xs [.int x, .int y] q a b (.best q a b)) = op2 dIx (vS 1) (kI 0) (lfR S xs [.int x, .int y] q a b (.barred b)) := rfl
      rw [h2, e0] at h1
      cases h1
      rfl
    rw [this] at f0
    have e2 : (asT (op2 dEq (op2 dMod (op2 dIx (vS 1) (kI 0)) (kI 3)) (kI 2))) (lfR S xs [.int x, .int y] q a b (.best q a b)) = some (.ok (decide ((u0 : Int) % 3 = 2))) :=
      asT_of (op_of (op_of f0 (b := .int 3) rfl (mod_of (by decide))) rfl rfl)
    rw [decide_eq_false (by omega)] at e2
    rw [seq_F e2, seq_nil]
    exact x_lfK S xs [.int x, .int y] q a b (A := .best q a b) ⟨hq, sa, sb⟩
  · have e1 := em 1
    rw [decide_eq_false k1] at e1
    rw [seq_F e1, seq_nil]
    by_cases k2 : (u0 : Int) % 3 = 2
    · have e2 := em 2
      rw [decide_eq_true k2] at e2
      rw [seq_T e2, seq_seq, seq_asg (d := ansD (.endless a b)) (call_of (l := [rowD a, rowD b]) rfl (x_Endless _ _))]
      dsimp only [List.set]
      rw [seq_seq, seq_asg (d := lnD (linesA (.endless a b))) (by
        show bnd _ tupR = _
        rw [cons_of (d := .str "endless") rfl (cons_of (ll "point" a _ _ _ (by decide) sa.good rfl rfl) (cons_of (ll "ray" b _ _ _ (by decide) sb.good rfl rfl) rfl))]
        rfl)]
      dsimp only [List.set]
      rw [seq_asg (d := dueD (.endless a b)) rfl]
      dsimp only [List.set]
      exact x_lfK S xs [.int x, .int y] q a b (A := .endless a b) ⟨sa, sb⟩
    · have e2 := em 2
      rw [decide_eq_false k2] at e2
      rw [seq_F e2, seq_nil]
      exact x_lfK S xs [.int x, .int y] q a b (A := .barred b) sb
end K86
set_option Elab.async false
set_option linter.all false
set_option maxRecDepth 100000
set_option maxHeartbeats 4000000
set_option autoImplicit false
/-! What the top has written, as the words of PyT. -/
namespace PD
open PySem PySem.Spec L2 PyProof.Rows PySem.Calls PySem.HandSPX
open PySem.W (nsIn findIn typeIn subIn keepIn codeIn isFn makesIn hasDictIn)
section
variable {P : Program} {w : World} {K : Frag} {mg : MG} {h : Heap}
theorem defT_of {x qual : Str} {st : Stmt} {ps : List Str} {f : Addr} {oc : Value} {od an : Option Addr} {osl : Array (Option Value)} {kV doc pm cdv ct : Value} (X : K.In h) (G : h.Ns mainGlobals mg)
    (a : nsIn K mainGlobals x = some (some (.ref f))) (l : K.lookup f = some ⟨oc, od, .func (PySem.W.fnOf x qual (defArgs st) (defBody st) (defScope st) .none kV doc pm an cdv ct), osl⟩) (c : codeIn K cdv qual = true) (k : keepIn K (.ref f) = true)
    (b : ∀ (kV doc pm : Value) (an : Option Addr) (cdv ct : Value) (us : List Value), us.length = ps.length → bindArgs (PySem.W.fnOf x qual (defArgs st) (defBody st) (defScope st) .none kV doc pm an cdv ct) ⟨us, []⟩ = pure (ps.zip us)) : DefT K mg x qual st ps :=
  ⟨f, _, fun_mk l c k, PySem.W.mg_of X G a, (fun_mk l c k).binds b⟩
theorem clsT_of {x qual : Str} {st : Stmt} {ps : List Str} {C f : Addr} {oc : Value} {od an : Option Addr} {osl : Array (Option Value)} {kV doc pm cdv ct : Value} (X : K.In h) (G : h.Ns mainGlobals mg)
    (a : nsIn K mainGlobals x = some (some (.ref C))) (i : findIn K (.ref C) "__init__" = some (some (.ref f))) (m : makesIn K C = true) (fn : isFn K (.ref f) = true) (kp : keepIn K (.ref C) = true)
    (l : K.lookup f = some ⟨oc, od, .func (PySem.W.fnOf "__init__" qual (defArgs st) (defBody st) (defScope st) .none kV doc pm an cdv ct), osl⟩) (c : codeIn K cdv qual = true) (k : keepIn K (.ref f) = true)
    (b : ∀ (kV doc pm : Value) (an : Option Addr) (cdv ct : Value) (us : List Value), us.length = ps.length → bindArgs (PySem.W.fnOf "__init__" qual (defArgs st) (defBody st) (defScope st) .none kV doc pm an cdv ct) ⟨us, []⟩ = pure (ps.zip us)) : ClsT K mg x qual st ps :=
  ⟨C, f, _, ⟨m, i, fn, kp⟩, fun_mk l c k, PySem.W.mg_of X G a, (fun_mk l c k).binds b⟩
theorem free_of' {x : Str} (X : K.In h) (G : h.Ns mainGlobals mg) (a : nsIn K mainGlobals x = some none) : mg x = none := PySem.W.mg_none_of X G a
theorem glo_of {x : Str} {v : Value} (X : K.In h) (G : h.Ns mainGlobals mg) (a : nsIn K mainGlobals x = some (some v)) : mg x = some v := PySem.W.mg_of X G a
theorem str_of' {x s : Str} {t : Tok} (X : K.In h) (G : h.Ns mainGlobals mg) (a : nsIn K mainGlobals x = some (some (.str s t))) : ∃ t, mg x = some (.str s t) := ⟨t, PySem.W.mg_of X G a⟩
theorem int_of' {x : Str} {i : Int} {t : Tok} (X : K.In h) (G : h.Ns mainGlobals mg) (a : nsIn K mainGlobals x = some (some (.int i t))) : ∃ t, mg x = some (.int i t) := ⟨t, PySem.W.mg_of X G a⟩
theorem err1_of {x fn : Str} {C fI : Addr} {A : Arguments} {B : List Stmt} {S : Scope} {nm q : Str} {N : Addr} {bs bm : List Value} {sn : List Str} {sub : List Value} {ab : Bool} {col : Option Bool} {dd : Option Addr} {m0 m1 m2 m3 m5 : Option Value}
    {oc : Value} {od : Option Addr} {qual : Str} {doc pm : Value} {an : Option Addr} {cda : Addr} {ct : Value} {osl : Array (Option Value)} {cc : Addr} {ccl : Value} {cdd : Option Addr} {vs : Array Value} {ccs : Array (Option Value)} {file : Str} {tf : Tok}
    {cl : Value} {cld : Option Addr} {csl : Array (Option Value)} {msg : Str} {j : Nat} {pe p1' p2' p0 p1 p2 p3 p4 q1 q2 q3 q4 : Pos}
    (X : K.In h) (G : h.Ns mainGlobals mg) (a : nsIn K mainGlobals x = some (some (.ref C)))
    (xL : K.lookup C = some (excClassObj nm q C N bs bm true sn sub ab col dd m0 m1 m2 m3 m5 "ValueError.__new__"))
    (iC : findIn K (.ref C) "__init__" = some (some (.ref fI)))
    (l : K.lookup fI = some ⟨oc, od, .func (PySem.W.ksFn "__init__" qual A B S .none .none doc pm an (.ref cda) ct cc), osl⟩)
    (lc : K.lookup cda = some ⟨ccl, cdd, .fields vs, ccs⟩) (lcell : K.lookup cc = some ⟨cl, cld, .cell (some (.ref C)), csl⟩)
    (cI : codeIn K (.ref cda) qual = true)
    (ve : subIn K (.ref C) (.type "ValueError") = some true) (sa : findIn K (.ref C) "__setattr__" = some (some (.builtin "object.__setattr__"))) (ga : findIn K (.ref C) "__getattribute__" = some (some (.builtin "BaseException.__getattribute__"))) (gg : findIn K (.ref C) "__getattr__" = some none)
    (tC : typeIn K (.ref fI) = some (.type "function")) (kC : keepIn K (.ref C) = true) (exC : subIn K (.ref C) (.type "BaseException") = some true) (tyC : typeIn K (.ref C) = some (.type "type")) (hdC : hasDictIn K C = true)
    (sup : nsIn K mainGlobals "super" = some none) (opq : nsIn K cStatics "thirdparty.any" = some none) (noN : findIn K (.ref C) fn = some none)
    (hbm : refsVE bm = true) (al : PySem.W.alongIn K "__init__" bm = some (some (.builtin "ValueError.__init__")))
    (hv : vs[2]? = some (.str file tf)) (hf : ((P.main.file : Str) == file) = true) (top : (P.main.scope.names.lookup ("super" : Str)).isSome = false)
    (hA : A = SupE.supA fn p1' p2') (hB : B = SupE.supB fn (.Constant (.str msg) j pe) p0 p1 p2 p3 p4 q1 q2 q3 q4) (hS : S = SupE.supS fn)
    (n1 : (fn == ("self" : Str)) = false) (n2 : (fn == ("__class__" : Str)) = false) (n3 : (fn == ("super" : Str)) = false) (n4 : (fn == ("__debug__" : Str)) = false)
    (hbd : ∀ (qual : Str) (doc pm : Value) (an : Option Addr) (cda : Addr) (ct : Value) (cc : Addr) (a b : Value), bindArgs (PySem.W.ksFn "__init__" qual (SupE.supA fn p1' p2') (SupE.supB fn (.Constant (.str msg) j pe) p0 p1 p2 p3 p4 q1 q2 q3 q4) (SupE.supS fn) .none .none doc pm an (.ref cda) ct cc) ⟨[a, b], []⟩ = pure [(("self" : Str), a), (fn, b)])
    (hev : ∀ (qual : Str) (L fI cda cc : Addr), ∃ pl : Sem Bool, eval (.Call (.Attribute (.Call (.Name "super" p0) [] [] p1) "__init__" p2) [.Constant (.str msg) j pe] [] p3) (PySem.W.ksEnv qual (SupE.supS fn) L fI (.ref cda) cc) = (do
      let ov ← attributeBase (.Call (.Name "super" p0) [] [] p1) "__init__" (PySem.W.ksEnv qual (SupE.supS fn) L fI (.ref cda) cc) (eval (.Call (.Name "super" p0) [] [] p1) (PySem.W.ksEnv qual (SupE.supS fn) L fI (.ref cda) cc))
      standAt p2.atName
      let (f, first) ← holding [ov] (getMethod ov "__init__" pl)
      callWith p3 f first (backTo p3 (starEach [.Constant (.str msg) j pe] (PySem.W.ksEnv qual (SupE.supS fn) L fI (.ref cda) cc))) [])) : Err1 P K mg x fn := by
  subst hA hB hS
  exact ⟨C, fI, _, p1', p2', p0, p1, p2, p3, p4, q1, q2, q3, q4,
    { gC := PySem.W.mg_of X G a, cls := ⟨nm, q, N, bs, bm, sn, sub, ab, col, dd, m0, m1, m2, m3, m5, xL, hbm, al⟩, ve := ve, sa := sa, ga := ga, gg := gg, iC := iC, tC := tC, kC := kC, exC := exC, tyC := tyC, hdC := hdC, sup := PySem.W.mg_none_of X G sup, opq := opq, top := top },
    ⟨oc, od, qual, doc, pm, an, cda, ct, osl, cc, l, cI, ⟨ccl, cdd, vs, ccs, file, tf, lc, hv, hf⟩, cl, cld, csl, lcell⟩, noN, n1, n2, n3, n4, ⟨msg, j, pe, rfl⟩, hbd, hev⟩
theorem hdl_of {g : Str → Option Bool} {S : Addr} (h1 : subIn K (.ref S) (.type "BaseException") = some true) (hd : hasDictIn K S = true) (ht : typeIn K (.ref S) = some (.type "type")) (hall : ∀ x b, g x = some b → ∃ C, mg x = some (.ref C) ∧ subIn K (.ref C) (.ref S) = some b) : Hdl K mg (.ref S) g := fun x b e C hC => by
  obtain ⟨C', h2, h3⟩ := hall x b e
  rw [h2] at hC
  cases hC
  exact PySem.W.exm_ref h1 hd ht h3
theorem law_ok {CX : CXT} {base : Heap} {k : Nat} {fa : Addr} {fd : FuncData} {fn : List D → R D} (hfn : ∀ S : List Int, fn [.fls (S.map D.int)] = some (.ok (.bl true))) (F : FnOk P w K mg base CX k fa fd ["script"] (spD K mg fn)) :
    FnOk P w K mg base CX k fa fd ["script"] (fun vs H Q _ => ∃ (a : Addr) (ns : List Int), vs = [.ref a] ∧ SqL K H a (ns.map V.int) ∧ ∀ H', Q (.bl true) H') :=
  F.imp fun vs H Q E q => by
    obtain ⟨a, ns, rfl, hs, hQ⟩ := q
    refine ⟨H, [.fls (ns.map D.int)], .ok (.bl true), Same.refl _, ⟨.ref a, [], rfl, ⟨a, _, rfl, hs, DatL.ints⟩, rfl⟩, hfn ns, fun d e v F' H' g hd => ?_, fun e he => by cases he⟩
    cases e
    cases (show v = _ from hd)
    exact hQ H'
end
end PD
set_option Elab.async false
set_option linter.all false
set_option maxRecDepth 100000
set_option maxHeartbeats 4000000
set_option autoImplicit false
namespace K86
open PySem PySem.Spec L2 PyProof.Rows PD
open PySem.W (nsIn)
section
variable {P : Program} {w : World} {K : Frag} {mg : MG} {base : Heap} {a : Ad}
theorem o_law (T : Txt P w K mg a) {f : Addr} {fd : FuncData} (Fu : Fun K "law" "law" s_law f fd) : FnOk P w K mg base (L2.CX P w) 10 f fd ["script"] (spD K mg f_law) := by
  have e : fnD (["script"] : List Str).length N_law.length b_law = f_law := rfl
  rw [← e]
  refine fnD_ok (CX := (L2.CX P w)) (P := P) (w := w) (base := base) (k := 9) (g := b_law) Fu sc_law (by decide) fun cdv A outer s H E hr => ?_
  have tk := L2.takes_of (X := cxOf (L2.CX P w) P w K mg base N_law "law" (defScope s_law) f cdv A outer s H E) (E := E) rfl rfl rfl rfl
  have hu64 := hr.units
  have hu65 := u65 hr
  have hrm := room2 hr
  exact (ss_cons (st_set 1 sc_law.nd (ed_call (d__law_draws T).up (hr.mono (by decide)) (fun σ => L2.passAt tk σ) rfl (ad_cons (ed_var 0) (ad_cons ed_int (ad_cons ed_int ad_nil)))) rfl (by first | exact Or.inl rfl | exact Or.inr rfl)) (ss_cons (st_own 2 sc_law.nd (nd_lst (ad_cons (ed_op od_mod (ed_ix (ed_var 1) ed_int) ed_int) (ad_cons (ed_op od_mod (ed_ix (ed_var 1) ed_int) ed_int) ad_nil))) rfl (by first | exact Or.inl rfl | exact Or.inr rfl)) (ss_cons (st_if (td_cmp (od_eq hu64) (ed_op od_mod (ed_ix (ed_var 1) ed_int) ed_int) ed_int) (ss_one (st_setIt 2 ed_int (ed_op od_mod (ed_op od_div (ed_ix (ed_var 1) ed_int) ed_int) ed_int))) ss_nil) (ss_cons (st_set 3 sc_law.nd (ed_call (d__law_number T).up (hr.mono (by decide)) (fun σ => L2.passAt tk σ) rfl (ad_cons (ed_var 0) (ad_cons ed_int ad_nil))) rfl (by first | exact Or.inl rfl | exact Or.inr rfl)) (ss_cons (st_set 4 sc_law.nd (ed_call (d__law_row T).up (hr.mono (by decide)) (fun σ => L2.passAt tk σ) rfl (ad_cons (ed_var 0) (ad_cons ed_int (ad_cons (ed_ixL (ld_own 2) ed_int) ad_nil)))) rfl (by first | exact Or.inl rfl | exact Or.inr rfl)) (ss_cons (st_set 5 sc_law.nd (ed_call (d__law_row T).up (hr.mono (by decide)) (fun σ => L2.passAt tk σ) rfl (ad_cons (ed_var 0) (ad_cons ed_int (ad_cons (ed_ixL (ld_own 2) ed_int) ad_nil)))) rfl (by first | exact Or.inl rfl | exact Or.inr rfl)) (ss_cons (st_set 6 sc_law.nd (ed_make (k_Barred T).up (hr.mono (by decide)) (fun σ => L2.passAt tk σ) rfl (ad_cons (ed_var 5) ad_nil)) rfl (by first | exact Or.inl rfl | exact Or.inr rfl)) (ss_cons (st_set 7 sc_law.nd (ed_tup (ad_cons ed_str (ad_cons (ed_call (d__law_line T).up (hr.mono (by decide)) (fun σ => L2.passAt tk σ) rfl (ad_cons ed_str (ad_cons (ed_var 5) ad_nil))) ad_nil))) rfl (by first | exact Or.inl rfl | exact Or.inr rfl)) (ss_cons (st_set 8 sc_law.nd (ed_tup (ad_cons ed_str (ad_cons (ed_tup (ad_cons (ed_tup ad_nil) (ad_cons (ed_var 5) ad_nil))) ad_nil))) rfl (by first | exact Or.inl rfl | exact Or.inr rfl)) (ss_cons (st_if (td_cmp (od_eq hu64) (ed_op od_mod (ed_ix (ed_var 1) ed_int) ed_int) ed_int) (ss_cons (st_set 6 sc_law.nd (ed_make (k_Best T).up (hr.mono (by decide)) (fun σ => L2.passAt tk σ) rfl (ad_cons (ed_var 3) (ad_cons (ed_var 4) (ad_cons (ed_var 5) ad_nil)))) rfl (by first | exact Or.inl rfl | exact Or.inr rfl)) (ss_cons (st_set 7 sc_law.nd (ed_tup (ad_cons (ed_call (d__law_line T).up (hr.mono (by decide)) (fun σ => L2.passAt tk σ) rfl (ad_cons ed_str (ad_cons (ed_lst (ad_cons (ed_var 3) ad_nil)) ad_nil))) (ad_cons (ed_call (d__law_line T).up (hr.mono (by decide)) (fun σ => L2.passAt tk σ) rfl (ad_cons ed_str (ad_cons (ed_var 4) ad_nil))) (ad_cons (ed_call (d__law_line T).up (hr.mono (by decide)) (fun σ => L2.passAt tk σ) rfl (ad_cons ed_str (ad_cons (ed_var 5) ad_nil))) ad_nil)))) rfl (by first | exact Or.inl rfl | exact Or.inr rfl)) (ss_one (st_set 8 sc_law.nd (ed_tup (ad_cons ed_str (ad_cons (ed_tup (ad_cons (ed_tup (ad_cons (ed_var 3) ad_nil)) (ad_cons (ed_var 4) (ad_cons (ed_var 5) ad_nil)))) ad_nil))) rfl (by first | exact Or.inl rfl | exact Or.inr rfl))))) ss_nil) (ss_cons (st_if (td_cmp (od_eq hu64) (ed_op od_mod (ed_ix (ed_var 1) ed_int) ed_int) ed_int) (ss_cons (st_set 6 sc_law.nd (ed_make (k_Endless T).up (hr.mono (by decide)) (fun σ => L2.passAt tk σ) rfl (ad_cons (ed_var 4) (ad_cons (ed_var 5) ad_nil))) rfl (by first | exact Or.inl rfl | exact Or.inr rfl)) (ss_cons (st_set 7 sc_law.nd (ed_tup (ad_cons ed_str (ad_cons (ed_call (d__law_line T).up (hr.mono (by decide)) (fun σ => L2.passAt tk σ) rfl (ad_cons ed_str (ad_cons (ed_var 4) ad_nil))) (ad_cons (ed_call (d__law_line T).up (hr.mono (by decide)) (fun σ => L2.passAt tk σ) rfl (ad_cons ed_str (ad_cons (ed_var 5) ad_nil))) ad_nil)))) rfl (by first | exact Or.inl rfl | exact Or.inr rfl)) (ss_one (st_set 8 sc_law.nd (ed_tup (ad_cons ed_str (ad_cons (ed_tup (ad_cons (ed_tup ad_nil) (ad_cons (ed_var 4) (ad_cons (ed_var 5) ad_nil)))) ad_nil))) rfl (by first | exact Or.inl rfl | exact Or.inr rfl))))) ss_nil) (ss_cons (st_if (td_w (wd_or (td_not (td_val (ed_call (d__law_same T 6).up (hr.mono (by decide)) (fun σ => L2.passAt tk σ) rfl (ad_cons (ed_call (d_write_answer T).up (hr.mono (by decide)) (fun σ => L2.passAt tk σ) rfl (ad_cons (ed_var 6) ad_nil)) (ad_cons (ed_var 7) ad_nil))))) (wd_or1 (td_not (td_val (ed_call (d__law_same T 6).up (hr.mono (by decide)) (fun σ => L2.passAt tk σ) rfl (ad_cons (ed_call (d__law_told T) (hr.mono (by decide)) (fun σ => L2.passAt tk σ) rfl (ad_cons (ed_var 7) ad_nil)) (ad_cons (ed_var 8) ad_nil)))))))) (ss_one (st_ret ed_bl)) ss_nil) (ss_cons (st_for PassesOwn.leaving rfl (id_range1 rfl T.n_range (ad_cons ed_int ad_nil)) (gd_name 9 sc_law.nd rfl (by first | exact Or.inl rfl | exact Or.inr rfl)) keepO_name (ss_cons (st_set 10 sc_law.nd (ed_call (d__law_draws T).up (hr.mono (by decide)) (fun σ => L2.passAt tk σ) rfl (ad_cons (ed_var 0) (ad_cons (ed_op od_add ed_int (ed_var 9)) (ad_cons ed_int ad_nil)))) rfl (by first | exact Or.inl rfl | exact Or.inr rfl)) (ss_cons (st_set 11 sc_law.nd (ed_call (d__law_changed T).up (hr.mono (by decide)) (fun σ => L2.passAt tk σ) rfl (ad_cons (ed_var 7) (ad_cons (ed_var 10) ad_nil))) rfl (by first | exact Or.inl rfl | exact Or.inr rfl)) (ss_cons (st_if (td_cmp (od_eq hu64) (ed_op od_mod (ed_ix (ed_var 10) ed_int) ed_int) ed_int) (ss_one (st_set 11 sc_law.nd (ed_call (d__law_changed T).up (hr.mono (by decide)) (fun σ => L2.passAt tk σ) rfl (ad_cons (ed_var 11) (ad_cons (ed_sl (ed_var 10) (od_some ed_int) od_none) ad_nil))) rfl (by first | exact Or.inl rfl | exact Or.inr rfl))) ss_nil) (ss_cons (st_set 12 sc_law.nd (ed_call (d__law_reading T).up (hr.mono (by decide)) (fun σ => L2.passAt tk σ) rfl (ad_cons (ed_var 11) ad_nil)) rfl (by first | exact Or.inl rfl | exact Or.inr rfl)) (ss_cons (st_if (td_not (td_val (ed_call (d__law_same T 6).up (hr.mono (by decide)) (fun σ => L2.passAt tk σ) rfl (ad_cons (ed_call (d__law_told T) (hr.mono (by decide)) (fun σ => L2.passAt tk σ) rfl (ad_cons (ed_var 11) ad_nil)) (ad_cons (ed_var 12) ad_nil))))) (ss_one (st_ret ed_bl)) ss_nil) (ss_cons (st_if (td_w (wd_and (td_cmp (od_eq hu64) (ed_ix (ed_var 12) ed_int) ed_str) (wd_and1 (td_not (td_val (ed_call (d__law_only_bad T) (hr.mono (by decide)) (fun σ => L2.passAt tk σ) rfl (ad_cons (ed_var 11) ad_nil))))))) (ss_one (st_ret ed_bl)) ss_nil) (ss_one (st_if (td_w (wd_and (td_cmp (od_ne hu64) (ed_ix (ed_var 12) ed_int) ed_str) (wd_and1 (td_not (td_val (ed_call (d__law_same T 6).up (hr.mono (by decide)) (fun σ => L2.passAt tk σ) rfl (ad_cons (ed_call (d_write_answer T).up (hr.mono (by decide)) (fun σ => L2.passAt tk σ) rfl (ad_cons (ed_call (d_read_answer T) (hr.mono (by decide)) (fun σ => L2.passAt tk σ) rfl (ad_cons (ed_var 11) ad_nil)) ad_nil)) (ad_cons (ed_var 11) ad_nil)))))))) (ss_one (st_ret ed_bl)) ss_nil))))))))) (ss_one (st_ret (ed_and (ed_call (d__law_same T 6).up (hr.mono (by decide)) (fun σ => L2.passAt tk σ) rfl (ad_cons (ed_call (d__law_told T) (hr.mono (by decide)) (fun σ => L2.passAt tk σ) rfl (ad_cons (ed_tup ad_nil) ad_nil)) (ad_cons (ed_tup (ad_cons ed_str (ad_cons ed_int ad_nil))) ad_nil))) (ed_one (ed_call (d__law_same T 6).up (hr.mono (by decide)) (fun σ => L2.passAt tk σ) rfl (ad_cons (ed_call (d__law_told T) (hr.mono (by decide)) (fun σ => L2.passAt tk σ) rfl (ad_cons (ed_var 7) ad_nil)) (ad_cons (ed_var 8) ad_nil))))))))))))))))))))

end
abbrev spL (K : Frag) : Sp := fun vs H Q _ => ∃ (a : Addr) (ns : List Int), vs = [.ref a] ∧ SqL K H a (ns.map V.int) ∧ ∀ H', Q (.bl true) H'
theorem fin_mk {P : Program} {w : World} {K : Frag} {mg : MG} {h : Heap} {fa : Addr} {a1 a2 a3 a4 a5 a6 : Addr} (X : K.In h) (G : h.Ns mainGlobals mg) (hfa : mg "law" = some (.ref fa))
    (h1 : nsIn K mainGlobals "Best" = some (some (.ref a1))) (h2 : nsIn K mainGlobals "Barred" = some (some (.ref a2))) (h3 : nsIn K mainGlobals "Endless" = some (some (.ref a3)))
    (h4 : nsIn K mainGlobals "ShowError" = some (some (.ref a4))) (h5 : nsIn K mainGlobals "BadNumber" = some (some (.ref a5))) (h6 : nsIn K mainGlobals "BadText" = some (some (.ref a6)))
    (T : Txt P w K mg ⟨a1, a2, a3, a4, a5, a6⟩) :
    ∃ fd : FuncData, (∀ (s : Shared) (u : Value), BindsTo s fd ⟨[u], []⟩ [("script", u)]) ∧ ∀ base : Heap, K.In base → base.Ns mainGlobals mg → FnOk P w K mg base (L2.CX P w) 10 fa fd ["script"] (spL K) := by
  obtain ⟨f, fd, Fu, hm, hb⟩ := T.t_law.ex
  rw [hfa] at hm
  cases hm
  refine ⟨fd, fun s u => ?_, fun base _ _ => law_ok x_law (o_law T Fu)⟩
  obtain ⟨oc, od, kV, doc, pm, an, cdv, ct, osl, rfl, _, _⟩ := Fu.ex
  exact .of_eq rfl
theorem walk86 {l : PySem.W.OpenLaw} {q : Program} {loose : List Str} {XP : (Str → Option Value) → Heap → Prop} {YP : World → Heap → Prop} {d : DefRec} {K : Params → Frag} (hn : l.most = some 63) (hdf : d.params.defaults = [])
    (hY : ∀ (w : World) (h : Heap), YP w h → (K w.params).In h)
    (F : ∀ (w : World) (mg : Str → Option Value) (fa : Addr) (h : Heap), (K w.params).In h → h.Ns mainGlobals mg → mg d.name = some (.ref fa) →
      ∃ fd : FuncData, (∀ (s : Shared) (u : Value), BindsTo s fd ⟨[u], []⟩ [("script", u)]) ∧ ∀ base : Heap, (K w.params).In base → base.Ns mainGlobals mg → FnOk l.prog w (K w.params) mg base (L2.CX l.prog w) 10 fa fd ["script"] (spL (K w.params))) :
    PySem.W.WalkO q loose XP YP l.row.toRowW d [] (fun f vs => PySem.call f vs) :=
  L2.walk_of (n := 63) (k := 10) (x := "script") (CX := fun w => L2.CX l.prog w) (sp := fun w => spL (K w.params)) hn (by decide) hdf ⟨rfl, by decide, by decide⟩ hY F (fun _ _ a ns hl _ hS => ⟨a, ns, rfl, hS, fun _ => rfl⟩) fun w H s e s' z => by
    obtain ⟨_, _, _, _, _, _, _, _, _, _, _, _, z⟩ := z
    exact z
end K86
set_option Elab.async false
set_option linter.all false
set_option maxRecDepth 100000
set_option maxHeartbeats 4000000
set_option autoImplicit false
namespace PD
open PySem PySem.Spec L2 PyProof.Rows PySem.Calls PySem.HandSPX
open PySem.W (nsIn findIn typeIn subIn keepIn codeIn isFn makesIn hasDictIn plainGet plainOver kitOne specialIn takesIn mroIn)
section
variable {P : Program} {w : World} {K : Frag} {mg : MG} {h : Heap}
theorem clsF1_of {c f : Str} {C : Addr} (X : K.In h) (G : h.Ns mainGlobals mg) (a : nsIn K mainGlobals c = some (some (.ref C))) (k : Cls K C) (n : findIn K (.ref C) f = some none) : ClsF K mg [c] f := fun c' hc C' hC => by
  rw [List.mem_singleton.mp hc, PySem.W.mg_of X G a] at hC
  cases hC
  exact ⟨k, n⟩
theorem clsF2_of {c d f : Str} {C D : Addr} (X : K.In h) (G : h.Ns mainGlobals mg) (a : nsIn K mainGlobals c = some (some (.ref C))) (k : Cls K C) (n : findIn K (.ref C) f = some none)
    (a2 : nsIn K mainGlobals d = some (some (.ref D))) (k2 : Cls K D) (n2 : findIn K (.ref D) f = some none) : ClsF K mg [c, d] f := fun c' hc C' hC => by
  rcases List.mem_cons.mp hc with rfl | hc
  · rw [PySem.W.mg_of X G a] at hC
    cases hC
    exact ⟨k, n⟩
  · rw [List.mem_singleton.mp hc, PySem.W.mg_of X G a2] at hC
    cases hC
    exact ⟨k2, n2⟩
theorem kit_own {C S : Addr} {b : Bool} (hs : subIn K (.ref C) (.ref S) = some b) (hd : hasDictIn K S = true) (ht : typeIn K (.ref S) = some (.type "type")) (hb : C = S → b = true) : kitOne K (.ref C) (.ref S) = some b := by
  obtain ⟨cd, hc, _⟩ := PySem.W.any_some hd
  by_cases e : C = S
  · subst e
    rw [hb rfl]
    show (if (Value.ref C == Value.ref C) = true then some true else PySem.W.kitCls K (.ref C) (.ref C)) = _
    rw [if_pos (beq_self_eq_true _)]
  · have ne : (Value.ref C == Value.ref S) = false := by
      cases q : (Value.ref C == Value.ref S) with
      | false => rfl
      | true =>
        have := eq_of_beq q
        cases this
        exact absurd rfl e
    show (if (Value.ref C == Value.ref S) = true then some true else (if ((PySem.W.clsIn K S).isSome && typeIn K (.ref S) == some (.type "type")) = true then subIn K (.ref C) (.ref S) else none)) = _
    rw [ne, if_neg Bool.false_ne_true, if_pos (by rw [hc, ht] <;> rfl), hs]
theorem kit_type {C : Addr} {T : String} {b : Bool} (hm : PySem.W.kitMeta T = true) (hs : subIn K (.ref C) (.type T) = some b) : kitOne K (.ref C) (.type T) = some b := by
  have ne : (Value.ref C == Value.type T) = false := by
    cases q : (Value.ref C == Value.type T) with
    | false => rfl
    | true =>
      have := eq_of_beq q
      cases this
  show (if (Value.ref C == Value.type T) = true then some true else (if PySem.W.kitMeta T = true then subIn K (.ref C) (.type T) else none)) = _
  rw [ne, if_neg Bool.false_ne_true, if_pos hm, hs]
theorem own3_of {c1 c2 c3 x : Str} {C1 C2 C3 S : Addr} {b1 b2 b3 : Bool} (X : K.In h) (G : h.Ns mainGlobals mg) (a1 : nsIn K mainGlobals c1 = some (some (.ref C1))) (a2 : nsIn K mainGlobals c2 = some (some (.ref C2))) (a3 : nsIn K mainGlobals c3 = some (some (.ref C3)))
    (I1 : ClsI K C1) (I2 : ClsI K C2) (I3 : ClsI K C3) (s1 : subIn K (.ref C1) (.ref S) = some b1) (s2 : subIn K (.ref C2) (.ref S) = some b2) (s3 : subIn K (.ref C3) (.ref S) = some b3) (hd : hasDictIn K S = true) (ht : typeIn K (.ref S) = some (.type "type"))
    (r1 : C1 = S → b1 = true) (r2 : C2 = S → b2 = true) (r3 : C3 = S → b3 = true) (e1 : b1 = decide (c1 = x)) (e2 : b2 = decide (c2 = x)) (e3 : b3 = decide (c3 = x)) :
    ∀ c' ∈ [c1, c2, c3], ∃ C', mg c' = some (.ref C') ∧ ClsI K C' ∧ kitOne K (.ref C') (.ref S) = some (decide (c' = x)) := by
  intro c' hc
  rcases List.mem_cons.mp hc with rfl | hc
  · exact ⟨C1, PySem.W.mg_of X G a1, I1, by rw [← e1]; exact kit_own s1 hd ht r1⟩
  · rcases List.mem_cons.mp hc with rfl | hc
    · exact ⟨C2, PySem.W.mg_of X G a2, I2, by rw [← e2]; exact kit_own s2 hd ht r2⟩
    · cases List.mem_singleton.mp hc
      exact ⟨C3, PySem.W.mg_of X G a3, I3, by rw [← e3]; exact kit_own s3 hd ht r3⟩
/-- three names and what is said of each -/
def Say3 (g : Str → Option Bool) (n1 n2 n3 : Str) (b1 b2 b3 : Bool) : Prop := ∀ x b, g x = some b → (x = n1 ∧ b = b1) ∨ (x = n2 ∧ b = b2) ∨ (x = n3 ∧ b = b3)
theorem say3 {n1 n2 n3 : Str} {b1 b2 b3 : Bool} : Say3 (fun x => if x = n1 then some b1 else if x = n2 then some b2 else if x = n3 then some b3 else none) n1 n2 n3 b1 b2 b3 := by
  intro x b e
  dsimp only at e
  split at e
  · cases e; exact .inl ⟨by assumption, rfl⟩
  · split at e
    · cases e; exact .inr (.inl ⟨by assumption, rfl⟩)
    · split at e
      · cases e; exact .inr (.inr ⟨by assumption, rfl⟩)
      · cases e
theorem hdl3_of {g : Str → Option Bool} {n1 n2 n3 : Str} {b1 b2 b3 : Bool} {C1 C2 C3 S : Addr} (X : K.In h) (G : h.Ns mainGlobals mg) (a1 : nsIn K mainGlobals n1 = some (some (.ref C1))) (a2 : nsIn K mainGlobals n2 = some (some (.ref C2))) (a3 : nsIn K mainGlobals n3 = some (some (.ref C3)))
    (hg : Say3 g n1 n2 n3 b1 b2 b3) (s1 : subIn K (.ref C1) (.ref S) = some b1) (s2 : subIn K (.ref C2) (.ref S) = some b2) (s3 : subIn K (.ref C3) (.ref S) = some b3) (hx : subIn K (.ref S) (.type "BaseException") = some true) (hd : hasDictIn K S = true) (ht : typeIn K (.ref S) = some (.type "type")) : Hdl K mg (.ref S) g :=
  hdl_of hx hd ht fun x b e => by
    rcases hg x b e with ⟨rfl, rfl⟩ | ⟨rfl, rfl⟩ | ⟨rfl, rfl⟩
    · exact ⟨C1, PySem.W.mg_of X G a1, s1⟩
    · exact ⟨C2, PySem.W.mg_of X G a2, s2⟩
    · exact ⟨C3, PySem.W.mg_of X G a3, s3⟩
theorem exi3_of {g : Str → Option Bool} {n1 n2 n3 : Str} {b1 b2 b3 : Bool} {C1 C2 C3 : Addr} {u : Value} (X : K.In h) (G : h.Ns mainGlobals mg) (a1 : nsIn K mainGlobals n1 = some (some (.ref C1))) (a2 : nsIn K mainGlobals n2 = some (some (.ref C2))) (a3 : nsIn K mainGlobals n3 = some (some (.ref C3)))
    (hg : Say3 g n1 n2 n3 b1 b2 b3) (E1 : ExcC K C1) (E2 : ExcC K C2) (E3 : ExcC K C3) (k1 : kitOne K (.ref C1) u = some b1) (k2 : kitOne K (.ref C2) u = some b2) (k3 : kitOne K (.ref C3) u = some b3) :
    ∀ c b, g c = some b → ∀ C, mg c = some (.ref C) → ExcC K C ∧ kitOne K (.ref C) u = some b := by
  intro c b e C hC
  rcases hg c b e with ⟨rfl, rfl⟩ | ⟨rfl, rfl⟩ | ⟨rfl, rfl⟩
  · rw [PySem.W.mg_of X G a1] at hC; cases hC; exact ⟨E1, k1⟩
  · rw [PySem.W.mg_of X G a2] at hC; cases hC; exact ⟨E2, k2⟩
  · rw [PySem.W.mg_of X G a3] at hC; cases hC; exact ⟨E3, k3⟩
theorem exf1_of {c f : Str} {C : Addr} (X : K.In h) (G : h.Ns mainGlobals mg) (a : nsIn K mainGlobals c = some (some (.ref C))) (k : XfC K C) (n : findIn K (.ref C) f = some none) : ExF K mg [c] f := fun c' hc C' hC => by
  rw [List.mem_singleton.mp hc, PySem.W.mg_of X G a] at hC
  cases hC
  exact ⟨k, n⟩
theorem dct3_of {x n1 n2 n3 : Str} {t1 t2 t3 : Tok} {p : Addr} {es : Array DictEntry} {n : Nat} {e1 e2 e3 : DictEntry} {d1 d2 d3 : D} {v1 v2 v3 : V} (X : K.In h) (G : h.Ns mainGlobals mg) (a : nsIn K mainGlobals x = some (some (.ref p)))
    (l : K.lookup p = some ⟨.type "dict", none, .dict es n, #[]⟩) (he : es.toList = [e1, e2, e3]) (q1 : e1.key = .str n1 t1) (q2 : e2.key = .str n2 t2) (q3 : e3.key = .str n3 t3)
    (lit : PySem.W.KeysLit w.params es.toList) (low : (p == sysModules) = false) (ne1 : n1 ≠ n2) (ne2 : n1 ≠ n3) (ne3 : n2 ≠ n3)
    (r1 : RelV v1 e1.val) (r2 : RelV v2 e2.val) (r3 : RelV v3 e3.val) (h1 : ∀ F, Dat K mg F d1 v1) (h2 : ∀ F, Dat K mg F d2 v2) (h3 : ∀ F, Dat K mg F d3 v3) :
    DctD K w mg x (fun z => if z = n1 then some d1 else if z = n2 then some d2 else if z = n3 then some d3 else none) := by
  have isS : ∀ (k : Str) (t : Tok) (z : Str), (Value.str k t).isStr z = (k == z) := fun k t z => by rw [PySem.W.isStr_of]; rfl
  have ns : ∀ z, nsIn K p z = if z = n1 then some (some e1.val) else if z = n2 then some (some e2.val) else if z = n3 then some (some e3.val) else some none := fun z => by
    unfold nsIn
    rw [l]
    show (match es.toList.find? (·.key.isStr z) with | some e => some (some e.val) | none => if es.toList.any (·.refKey) then none else some none) = _
    rw [he]
    have f1 : e1.key.isStr z = decide (z = n1) := by
      rw [q1, isS]
      by_cases e : n1 = z
      · subst e; simp
      · have e' : ¬ z = n1 := fun q => e q.symm
        simp [e, e']
    have f2 : e2.key.isStr z = decide (z = n2) := by
      rw [q2, isS]
      by_cases e : n2 = z
      · subst e; simp
      · have e' : ¬ z = n2 := fun q => e q.symm
        simp [e, e']
    have f3 : e3.key.isStr z = decide (z = n3) := by
      rw [q3, isS]
      by_cases e : n3 = z
      · subst e; simp
      · have e' : ¬ z = n3 := fun q => e q.symm
        simp [e, e']
    have k1 : e1.refKey = false := by unfold DictEntry.refKey; rw [q1]
    have k2 : e2.refKey = false := by unfold DictEntry.refKey; rw [q2]
    have k3 : e3.refKey = false := by unfold DictEntry.refKey; rw [q3]
    by_cases z1 : z = n1
    · rw [if_pos z1, List.find?_cons_of_pos (by rw [f1]; exact decide_eq_true z1)]
    · rw [if_neg z1, List.find?_cons_of_neg (by rw [f1]; simpa using z1)]
      by_cases z2 : z = n2
      · rw [if_pos z2, List.find?_cons_of_pos (by rw [f2]; exact decide_eq_true z2)]
      · rw [if_neg z2, List.find?_cons_of_neg (by rw [f2]; simpa using z2)]
        by_cases z3 : z = n3
        · rw [if_pos z3, List.find?_cons_of_pos (by rw [f3]; exact decide_eq_true z3)]
        · rw [if_neg z3, List.find?_cons_of_neg (by rw [f3]; simpa using z3)]
          simp [k1, k2, k3]
  refine ⟨p, es, n, PySem.W.mg_of X G a, ⟨l, lit, low⟩, fun z d e => ?_, fun z e => ?_⟩
  · rw [ns z]
    split at e
    · cases e
      rename_i z1
      exact ⟨_, _, by rw [if_pos z1], r1, h1⟩
    · split at e
      · cases e
        rename_i z1 z2
        exact ⟨_, _, by rw [if_neg z1, if_pos z2], r2, h2⟩
      · split at e
        · cases e
          rename_i z1 z2 z3
          exact ⟨_, _, by rw [if_neg z1, if_neg z2, if_pos z3], r3, h3⟩
        · cases e
  · rw [ns z]
    split at e
    · cases e
    · split at e
      · cases e
      · split at e
        · cases e
        · rename_i z1 z2 z3
          rw [if_neg z1, if_neg z2, if_neg z3]
theorem tup_dat {l : List Str} {a : Addr} {od : Option Addr} {its : Array Value} {n : Nat} {osl : Array (Option Value)} (lk : K.lookup a = some ⟨.type "tuple", od, .seq its n, osl⟩) (hz : its.size ≤ 1000) (hv : Vals (l.map V.str) its.toList) (F : Hp) : Dat K mg F (.tup (l.map D.str)) (.ref a) :=
  ⟨a, l.map V.str, rfl, .inr ⟨_, its, n, lk, rfl, rfl, size1000 hz, hv⟩, DatL.strs⟩
end
end PD
set_option Elab.async false
set_option linter.all false
set_option maxRecDepth 100000
set_option maxHeartbeats 0
open PySem PySem.W PyProof.Rows PD K86
theorem PySem.Challenge.cw_whattoshow_k86_papers_as_lines_holds : PySem.Challenge.rw_whattoshow_k86_papers_as_lines.Holds := by
  w_on; o_law; k_head; (case hw => w_witness2)
  k_fill
  refine K86.walk86 (l := PySem.Challenge.rw_whattoshow_k86_papers_as_lines) rfl rfl (fun w h Y => PySem.W.kIn_of Y) ?F
  case F =>
    intro w mg fa h KX G hmg
    refine' K86.fin_mk KX G hmg ?h1 ?h2 ?h3 ?h4 ?h5 ?h6 ?T
    (case h1 => k_is); (case h2 => k_is); (case h3 => k_is); (case h4 => k_is); (case h5 => k_is); (case h6 => k_is)
    case T =>
      constructor
      case t_write_ratio => refine' defT_of KX G ?zz ?l ?c ?k (fun _ _ _ _ _ _ us hl => match us, hl with | [_], _ => rfl); (case zz => k_is); (case l => k_is); (case c => k_is); (case k => k_is)
      case t_read_digits => refine' defT_of KX G ?zz ?l ?c ?k (fun _ _ _ _ _ _ us hl => match us, hl with | [_, _], _ => rfl); (case zz => k_is); (case l => k_is); (case c => k_is); (case k => k_is)
      case t_read_ratio => refine' defT_of KX G ?zz ?l ?c ?k (fun _ _ _ _ _ _ us hl => match us, hl with | [_], _ => rfl); (case zz => k_is); (case l => k_is); (case c => k_is); (case k => k_is)
      case t_Best___init__ => refine' clsT_of KX G ?zz ?i ?m ?fn ?kp ?l ?c ?k (fun _ _ _ _ _ _ us hl => match us, hl with | [_, _, _, _], _ => rfl); (case zz => k_is); (case i => k_is); (case m => k_is); (case fn => k_is); (case kp => k_is); (case l => k_is); (case c => k_is); (case k => k_is)
      case t_Barred___init__ => refine' clsT_of KX G ?zz ?i ?m ?fn ?kp ?l ?c ?k (fun _ _ _ _ _ _ us hl => match us, hl with | [_, _], _ => rfl); (case zz => k_is); (case i => k_is); (case m => k_is); (case fn => k_is); (case kp => k_is); (case l => k_is); (case c => k_is); (case k => k_is)
      case t_Endless___init__ => refine' clsT_of KX G ?zz ?i ?m ?fn ?kp ?l ?c ?k (fun _ _ _ _ _ _ us hl => match us, hl with | [_, _, _], _ => rfl); (case zz => k_is); (case i => k_is); (case m => k_is); (case fn => k_is); (case kp => k_is); (case l => k_is); (case c => k_is); (case k => k_is)
      case t_number_line => refine' defT_of KX G ?zz ?l ?c ?k (fun _ _ _ _ _ _ us hl => match us, hl with | [_, _], _ => rfl); (case zz => k_is); (case l => k_is); (case c => k_is); (case k => k_is)
      case t_read_numbers => refine' defT_of KX G ?zz ?l ?c ?k (fun _ _ _ _ _ _ us hl => match us, hl with | [_, _], _ => rfl); (case zz => k_is); (case l => k_is); (case c => k_is); (case k => k_is)
      case t_read_line => refine' defT_of KX G ?zz ?l ?c ?k (fun _ _ _ _ _ _ us hl => match us, hl with | [_, _, _], _ => rfl); (case zz => k_is); (case l => k_is); (case c => k_is); (case k => k_is)
      case t_write_answer => refine' defT_of KX G ?zz ?l ?c ?k (fun _ _ _ _ _ _ us hl => match us, hl with | [_], _ => rfl); (case zz => k_is); (case l => k_is); (case c => k_is); (case k => k_is)
      case t_read_answer => refine' defT_of KX G ?zz ?l ?c ?k (fun _ _ _ _ _ _ us hl => match us, hl with | [_], _ => rfl); (case zz => k_is); (case l => k_is); (case c => k_is); (case k => k_is)
      case t__law_cell => refine' defT_of KX G ?zz ?l ?c ?k (fun _ _ _ _ _ _ us hl => match us, hl with | [_, _], _ => rfl); (case zz => k_is); (case l => k_is); (case c => k_is); (case k => k_is)
      case t__law_draws => refine' defT_of KX G ?zz ?l ?c ?k (fun _ _ _ _ _ _ us hl => match us, hl with | [_, _, _], _ => rfl); (case zz => k_is); (case l => k_is); (case c => k_is); (case k => k_is)
      case t__law_fraction => refine' defT_of KX G ?zz ?l ?c ?k (fun _ _ _ _ _ _ us hl => match us, hl with | [_, _], _ => rfl); (case zz => k_is); (case l => k_is); (case c => k_is); (case k => k_is)
      case t__law_number => refine' defT_of KX G ?zz ?l ?c ?k (fun _ _ _ _ _ _ us hl => match us, hl with | [_, _], _ => rfl); (case zz => k_is); (case l => k_is); (case c => k_is); (case k => k_is)
      case t__law_row => refine' defT_of KX G ?zz ?l ?c ?k (fun _ _ _ _ _ _ us hl => match us, hl with | [_, _, _], _ => rfl); (case zz => k_is); (case l => k_is); (case c => k_is); (case k => k_is)
      case t__law_written => refine' defT_of KX G ?zz ?l ?c ?k (fun _ _ _ _ _ _ us hl => match us, hl with | [_], _ => rfl); (case zz => k_is); (case l => k_is); (case c => k_is); (case k => k_is)
      case t__law_line => refine' defT_of KX G ?zz ?l ?c ?k (fun _ _ _ _ _ _ us hl => match us, hl with | [_, _], _ => rfl); (case zz => k_is); (case l => k_is); (case c => k_is); (case k => k_is)
      case t__law_same => refine' defT_of KX G ?zz ?l ?c ?k (fun _ _ _ _ _ _ us hl => match us, hl with | [_, _], _ => rfl); (case zz => k_is); (case l => k_is); (case c => k_is); (case k => k_is)
      case t__law_told => refine' defT_of KX G ?zz ?l ?c ?k (fun _ _ _ _ _ _ us hl => match us, hl with | [_], _ => rfl); (case zz => k_is); (case l => k_is); (case c => k_is); (case k => k_is)
      case t__law_changed => refine' defT_of KX G ?zz ?l ?c ?k (fun _ _ _ _ _ _ us hl => match us, hl with | [_, _], _ => rfl); (case zz => k_is); (case l => k_is); (case c => k_is); (case k => k_is)
      case t__law_forms => refine' defT_of KX G ?zz ?l ?c ?k (fun _ _ _ _ _ _ us hl => match us, hl with | [_], _ => rfl); (case zz => k_is); (case l => k_is); (case c => k_is); (case k => k_is)
      case t__law_digits => refine' defT_of KX G ?zz ?l ?c ?k (fun _ _ _ _ _ _ us hl => match us, hl with | [_], _ => rfl); (case zz => k_is); (case l => k_is); (case c => k_is); (case k => k_is)
      case t__law_read => refine' defT_of KX G ?zz ?l ?c ?k (fun _ _ _ _ _ _ us hl => match us, hl with | [_], _ => rfl); (case zz => k_is); (case l => k_is); (case c => k_is); (case k => k_is)
      case t__law_reading => refine' defT_of KX G ?zz ?l ?c ?k (fun _ _ _ _ _ _ us hl => match us, hl with | [_], _ => rfl); (case zz => k_is); (case l => k_is); (case c => k_is); (case k => k_is)
      case t__law_only_bad => refine' defT_of KX G ?zz ?l ?c ?k (fun _ _ _ _ _ _ us hl => match us, hl with | [_], _ => rfl); (case zz => k_is); (case l => k_is); (case c => k_is); (case k => k_is)
      case t_law => refine' defT_of KX G ?zz ?l ?c ?k (fun _ _ _ _ _ _ us hl => match us, hl with | [_], _ => rfl); (case zz => k_is); (case l => k_is); (case c => k_is); (case k => k_is)
      case n_ValueError => exact free_of' KX G (by k_is)
      case n_abs => exact free_of' KX G (by k_is)
      case n_bool => exact free_of' KX G (by k_is)
      case n_enumerate => exact free_of' KX G (by k_is)
      case n_int => exact free_of' KX G (by k_is)
      case n_isinstance => exact free_of' KX G (by k_is)
      case n_len => exact free_of' KX G (by k_is)
      case n_list => exact free_of' KX G (by k_is)
      case n_range => exact free_of' KX G (by k_is)
      case n_str => exact free_of' KX G (by k_is)
      case n_tuple => exact free_of' KX G (by k_is)
      case c_DIGITS => (refine' str_of' KX G ?zz; (case zz => k_is))
      case c_MOST_DIGITS => (refine' int_of' KX G ?zz; (case zz => k_is))
      case g_gcd => exact glo_of KX G (by k_is)
      case g_Best => exact glo_of KX G (by k_is)
      case g_Barred => exact glo_of KX G (by k_is)
      case g_Endless => exact glo_of KX G (by k_is)
      case g_ShowError => exact glo_of KX G (by k_is)
      case g_BadNumber => exact glo_of KX G (by k_is)
      case g_BadText => exact glo_of KX G (by k_is)
      case k_HEADS => (show DctD _ _ _ "HEADS" (fun z => if z = "best" then some (.int 1) else if z = "barred" then some (.int 0) else if z = "endless" then some (.int 0) else none)); (refine' dct3_of (v1 := .int 1) (v2 := .int 0) (v3 := .int 0) KX G ?zz ?l ?he ?q1 ?q2 ?q3 ?lit ?low ?ne1 ?ne2 ?ne3 ?r1 ?r2 ?r3 (fun _ => rfl) (fun _ => rfl) (fun _ => rfl)); (case zz => k_is); (case l => k_is); (case he => rfl); (case q1 => rfl); (case q2 => rfl); (case q3 => rfl); (case lit => exact ⟨⟨_, _, rfl, rfl⟩, ⟨_, _, rfl, rfl⟩, ⟨_, _, rfl, rfl⟩, trivial⟩); (case low => first | rfl | decide); (case ne1 => decide); (case ne2 => decide); (case ne3 => decide); (case r1 => exact ⟨_, rfl⟩); (case r2 => exact ⟨_, rfl⟩); (case r3 => exact ⟨_, rfl⟩)
      case k_PARTS => (show DctD _ _ _ "PARTS" (fun z => if z = "best" then some (.tup ((["best", "point", "prices"] : List PySem.Str).map D.str)) else if z = "barred" then some (.tup ((["barred", "prices"] : List PySem.Str).map D.str)) else if z = "endless" then some (.tup ((["endless", "point", "ray"] : List PySem.Str).map D.str)) else none)); (refine' dct3_of KX G ?zz ?l ?he ?q1 ?q2 ?q3 ?lit ?low ?ne1 ?ne2 ?ne3 ?r1 ?r2 ?r3 (tup_dat ?k1 ?y1 ?x1) (tup_dat ?k2 ?y2 ?x2) (tup_dat ?k3 ?y3 ?x3)); (case zz => k_is); (case l => k_is); (case he => rfl); (case q1 => rfl); (case q2 => rfl); (case q3 => rfl); (case lit => exact ⟨⟨_, _, rfl, rfl⟩, ⟨_, _, rfl, rfl⟩, ⟨_, _, rfl, rfl⟩, trivial⟩); (case low => first | rfl | decide); (case ne1 => decide); (case ne2 => decide); (case ne3 => decide); (case r1 => exact rfl); (case r2 => exact rfl); (case r3 => exact rfl); (case k1 => k_is); (case k2 => k_is); (case k3 => k_is); (case y1 => first | decide | exact (by decide +kernel)); (case y2 => first | decide | exact (by decide +kernel)); (case y3 => first | decide | exact (by decide +kernel)); (case x1 => exact .cons ⟨_, rfl⟩ (.cons ⟨_, rfl⟩ (.cons ⟨_, rfl⟩ .nil))); (case x2 => exact .cons ⟨_, rfl⟩ (.cons ⟨_, rfl⟩ .nil)); (case x3 => exact .cons ⟨_, rfl⟩ (.cons ⟨_, rfl⟩ (.cons ⟨_, rfl⟩ .nil)))
      case e_BadNumber => (refine' err1_of KX G ?zz ?xL ?iC ?l ?lc ?lcell ?cI ?ve ?sa ?ga ?gg ?tC ?kC ?exC ?tyC ?hdC ?sup ?opq ?noN ?hbm ?al ?hv ?hf ?top ?hA ?hB ?hS ?n1 ?n2 ?n3 ?n4 ?hbd ?hev); (case zz => k_is); (case xL => k_is); (case iC => k_is); (case l => k_is); (case lc => k_is); (case lcell => k_is); (case cI => k_is); (case ve => k_is); (case sa => k_is); (case ga => k_is); (case gg => k_is); (case tC => k_is); (case kC => k_is); (case exC => k_is); (case tyC => k_is); (case hdC => k_is); (case sup => k_is); (case opq => k_is); (case noN => k_is); (case hbm => first | rfl | decide +kernel); (case al => first | k_is | kernel_rfl | rfl); (case hv => rfl); (case hf => first | rfl | decide +kernel); (case top => first | rfl | decide +kernel); (case hA => rfl); (case hB => rfl); (case hS => rfl); (case n1 => decide); (case n2 => decide); (case n3 => decide); (case n4 => decide); (case hbd => intros; rfl); (case hev => intros; exact ⟨_, rfl⟩)
      case e_BadText => (refine' err1_of KX G ?zz ?xL ?iC ?l ?lc ?lcell ?cI ?ve ?sa ?ga ?gg ?tC ?kC ?exC ?tyC ?hdC ?sup ?opq ?noN ?hbm ?al ?hv ?hf ?top ?hA ?hB ?hS ?n1 ?n2 ?n3 ?n4 ?hbd ?hev); (case zz => k_is); (case xL => k_is); (case iC => k_is); (case l => k_is); (case lc => k_is); (case lcell => k_is); (case cI => k_is); (case ve => k_is); (case sa => k_is); (case ga => k_is); (case gg => k_is); (case tC => k_is); (case kC => k_is); (case exC => k_is); (case tyC => k_is); (case hdC => k_is); (case sup => k_is); (case opq => k_is); (case noN => k_is); (case hbm => first | rfl | decide +kernel); (case al => first | k_is | kernel_rfl | rfl); (case hv => rfl); (case hf => first | rfl | decide +kernel); (case top => first | rfl | decide +kernel); (case hA => rfl); (case hB => rfl); (case hS => rfl); (case n1 => decide); (case n2 => decide); (case n3 => decide); (case n4 => decide); (case hbd => intros; rfl); (case hev => intros; exact ⟨_, rfl⟩)
      case h_BadNumber => (try dsimp only); (refine' hdl3_of (b1 := false) (b2 := true) (b3 := false) (n1 := "ShowError") (n2 := "BadNumber") (n3 := "BadText") KX G ?z1 ?z2 ?z3 ?hg ?s1 ?s2 ?s3 ?hx ?hd ?ht); (case hg => exact say3); (case z1 => k_is); (case z2 => k_is); (case z3 => k_is); (case s1 => k_is); (case s2 => k_is); (case s3 => k_is); (case hx => k_is); (case hd => k_is); (case ht => k_is)
      case h_BadText => (try dsimp only); (refine' hdl3_of (b1 := false) (b2 := false) (b3 := true) (n1 := "ShowError") (n2 := "BadNumber") (n3 := "BadText") KX G ?z1 ?z2 ?z3 ?hg ?s1 ?s2 ?s3 ?hx ?hd ?ht); (case hg => exact say3); (case z1 => k_is); (case z2 => k_is); (case z3 => k_is); (case s1 => k_is); (case s2 => k_is); (case s3 => k_is); (case hx => k_is); (case hd => k_is); (case ht => k_is)
      case h_ShowError => (try dsimp only); (refine' hdl3_of (b1 := true) (b2 := true) (b3 := true) (n1 := "ShowError") (n2 := "BadNumber") (n3 := "BadText") KX G ?z1 ?z2 ?z3 ?hg ?s1 ?s2 ?s3 ?hx ?hd ?ht); (case hg => exact say3); (case z1 => k_is); (case z2 => k_is); (case z3 => k_is); (case s1 => k_is); (case s2 => k_is); (case s3 => k_is); (case hx => k_is); (case hd => k_is); (case ht => k_is)
      case xi_BadNumber => (try dsimp only); (refine' exi3_of (b1 := false) (b2 := true) (b3 := false) (n1 := "ShowError") (n2 := "BadNumber") (n3 := "BadText") KX G ?z1 ?z2 ?z3 ?hg ?E1 ?E2 ?E3 ?k1 ?k2 ?k3); (case hg => exact say3); (case z1 => k_is); (case z2 => k_is); (case z3 => k_is); (case E1 => exact ⟨by k_is, by k_is, by k_is, by k_is, by k_is, by k_is, by k_is, by k_is⟩); (case E2 => exact ⟨by k_is, by k_is, by k_is, by k_is, by k_is, by k_is, by k_is, by k_is⟩); (case E3 => exact ⟨by k_is, by k_is, by k_is, by k_is, by k_is, by k_is, by k_is, by k_is⟩); (case k1 => (refine' kit_own ?s ?d ?t ?r; (case s => k_is); (case d => k_is); (case t => k_is); (case r => decide))); (case k2 => (refine' kit_own ?s ?d ?t ?r; (case s => k_is); (case d => k_is); (case t => k_is); (case r => decide))); (case k3 => (refine' kit_own ?s ?d ?t ?r; (case s => k_is); (case d => k_is); (case t => k_is); (case r => decide))); skip
      case xi_BadText => (try dsimp only); (refine' exi3_of (b1 := false) (b2 := false) (b3 := true) (n1 := "ShowError") (n2 := "BadNumber") (n3 := "BadText") KX G ?z1 ?z2 ?z3 ?hg ?E1 ?E2 ?E3 ?k1 ?k2 ?k3); (case hg => exact say3); (case z1 => k_is); (case z2 => k_is); (case z3 => k_is); (case E1 => exact ⟨by k_is, by k_is, by k_is, by k_is, by k_is, by k_is, by k_is, by k_is⟩); (case E2 => exact ⟨by k_is, by k_is, by k_is, by k_is, by k_is, by k_is, by k_is, by k_is⟩); (case E3 => exact ⟨by k_is, by k_is, by k_is, by k_is, by k_is, by k_is, by k_is, by k_is⟩); (case k1 => (refine' kit_own ?s ?d ?t ?r; (case s => k_is); (case d => k_is); (case t => k_is); (case r => decide))); (case k2 => (refine' kit_own ?s ?d ?t ?r; (case s => k_is); (case d => k_is); (case t => k_is); (case r => decide))); (case k3 => (refine' kit_own ?s ?d ?t ?r; (case s => k_is); (case d => k_is); (case t => k_is); (case r => decide))); skip
      case xi_ValueError => (try dsimp only); (refine' exi3_of (b1 := true) (b2 := true) (b3 := true) (n1 := "ShowError") (n2 := "BadNumber") (n3 := "BadText") KX G ?z1 ?z2 ?z3 ?hg ?E1 ?E2 ?E3 ?k1 ?k2 ?k3); (case hg => exact say3); (case z1 => k_is); (case z2 => k_is); (case z3 => k_is); (case E1 => exact ⟨by k_is, by k_is, by k_is, by k_is, by k_is, by k_is, by k_is, by k_is⟩); (case E2 => exact ⟨by k_is, by k_is, by k_is, by k_is, by k_is, by k_is, by k_is, by k_is⟩); (case E3 => exact ⟨by k_is, by k_is, by k_is, by k_is, by k_is, by k_is, by k_is, by k_is⟩); (case k1 => (refine' kit_type ?m ?s; (case m => first | rfl | decide +kernel); (case s => k_is))); (case k2 => (refine' kit_type ?m ?s; (case m => first | rfl | decide +kernel); (case s => k_is))); (case k3 => (refine' kit_type ?m ?s; (case m => first | rfl | decide +kernel); (case s => k_is))); skip
      case i_Barred => (try dsimp only); (show ∀ c' ∈ (["Best", "Barred", "Endless"] : List PySem.Str), _); (refine' own3_of (b1 := false) (b2 := true) (b3 := false) KX G ?z1 ?z2 ?z3 ?I1 ?I2 ?I3 ?s1 ?s2 ?s3 ?hd ?ht ?r1 ?r2 ?r3 ?e1 ?e2 ?e3); (case z1 => k_is); (case z2 => k_is); (case z3 => k_is); (case I1 => exact ⟨⟨by k_is, by k_is, by k_is, by k_is⟩, by k_is, by k_is, by k_is, by k_is⟩); (case I2 => exact ⟨⟨by k_is, by k_is, by k_is, by k_is⟩, by k_is, by k_is, by k_is, by k_is⟩); (case I3 => exact ⟨⟨by k_is, by k_is, by k_is, by k_is⟩, by k_is, by k_is, by k_is, by k_is⟩); (case s1 => k_is); (case s2 => k_is); (case s3 => k_is); (case hd => k_is); (case ht => k_is); (case r1 => decide); (case r2 => decide); (case r3 => decide); (case e1 => decide); (case e2 => decide); (case e3 => decide)
      case i_Best => (try dsimp only); (show ∀ c' ∈ (["Best", "Barred", "Endless"] : List PySem.Str), _); (refine' own3_of (b1 := true) (b2 := false) (b3 := false) KX G ?z1 ?z2 ?z3 ?I1 ?I2 ?I3 ?s1 ?s2 ?s3 ?hd ?ht ?r1 ?r2 ?r3 ?e1 ?e2 ?e3); (case z1 => k_is); (case z2 => k_is); (case z3 => k_is); (case I1 => exact ⟨⟨by k_is, by k_is, by k_is, by k_is⟩, by k_is, by k_is, by k_is, by k_is⟩); (case I2 => exact ⟨⟨by k_is, by k_is, by k_is, by k_is⟩, by k_is, by k_is, by k_is, by k_is⟩); (case I3 => exact ⟨⟨by k_is, by k_is, by k_is, by k_is⟩, by k_is, by k_is, by k_is, by k_is⟩); (case s1 => k_is); (case s2 => k_is); (case s3 => k_is); (case hd => k_is); (case ht => k_is); (case r1 => decide); (case r2 => decide); (case r3 => decide); (case e1 => decide); (case e2 => decide); (case e3 => decide)
      case i_Endless => (try dsimp only); (show ∀ c' ∈ (["Best", "Barred", "Endless"] : List PySem.Str), _); (refine' own3_of (b1 := false) (b2 := false) (b3 := true) KX G ?z1 ?z2 ?z3 ?I1 ?I2 ?I3 ?s1 ?s2 ?s3 ?hd ?ht ?r1 ?r2 ?r3 ?e1 ?e2 ?e3); (case z1 => k_is); (case z2 => k_is); (case z3 => k_is); (case I1 => exact ⟨⟨by k_is, by k_is, by k_is, by k_is⟩, by k_is, by k_is, by k_is, by k_is⟩); (case I2 => exact ⟨⟨by k_is, by k_is, by k_is, by k_is⟩, by k_is, by k_is, by k_is, by k_is⟩); (case I3 => exact ⟨⟨by k_is, by k_is, by k_is, by k_is⟩, by k_is, by k_is, by k_is, by k_is⟩); (case s1 => k_is); (case s2 => k_is); (case s3 => k_is); (case hd => k_is); (case ht => k_is); (case r1 => decide); (case r2 => decide); (case r3 => decide); (case e1 => decide); (case e2 => decide); (case e3 => decide)
      case f_point => (refine' clsF2_of KX G ?z1 ?k1 ?n1 ?z2 ?k2 ?n2); (case z1 => k_is); (case k1 => exact ⟨by k_is, by k_is, by k_is, by k_is⟩); (case n1 => k_is); (case z2 => k_is); (case k2 => exact ⟨by k_is, by k_is, by k_is, by k_is⟩); (case n2 => k_is)
      case f_prices => (refine' clsF2_of KX G ?z1 ?k1 ?n1 ?z2 ?k2 ?n2); (case z1 => k_is); (case k1 => exact ⟨by k_is, by k_is, by k_is, by k_is⟩); (case n1 => k_is); (case z2 => k_is); (case k2 => exact ⟨by k_is, by k_is, by k_is, by k_is⟩); (case n2 => k_is)
      case f_ray => (refine' clsF1_of KX G ?z1 ?k1 ?n1); (case z1 => k_is); (case k1 => exact ⟨by k_is, by k_is, by k_is, by k_is⟩); (case n1 => k_is)
      case f_worth => (refine' clsF1_of KX G ?z1 ?k1 ?n1); (case z1 => k_is); (case k1 => exact ⟨by k_is, by k_is, by k_is, by k_is⟩); (case n1 => k_is)
      case xf_line => (refine' exf1_of KX G ?z1 ?k1 ?n1); (case z1 => k_is); (case k1 => exact ⟨by k_is, by k_is, by k_is, by k_is⟩); (case n1 => k_is)
