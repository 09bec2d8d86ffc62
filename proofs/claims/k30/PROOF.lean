import PyProof.Rows.All
import Wide.All
import OpenK.AllK
import Wide.FinOn
import HandS.ForMost
import HandS.Lambda
import HandS.Wide
import HandS.IsInst
import HandS.SetFor
import PyProof.ReprRoads
import HandS.RaiseMore
import HandS.Conv
import HandS.SortKw
import KE.SortKeyHeap
import HandS.JoinGen
import PyProof.SumAny
import KE.KDictZip
import HandS.EndTab
import KE.KStateDown
import HandS.Defaults
import PySem.Challenge.RW_sweepsteps_k30_whole_even_hills
set_option Elab.async false
set_option linter.all false
set_option maxRecDepth 100000
set_option maxHeartbeats 4000000
/-! Readings over plain data: what a value is (a tree, or a reference to a thing that may change), what stands where things change; the heap is hidden. -/
namespace DL
open PySem PySem.Spec PyProof.Rows L2

/-- data; ref: a thing known by its address (one that changes, a def, a class); lk: a list that is locked; exn: a caught error of the class at C, with its fields; clo: a lambda with the values of the names that it sees, and what else is known of the heap for its sake -/
inductive D where
  | non | bl (b : Bool) | int (i : Int) | str (s : Str) | lst (xs : List D) | tup (xs : List D) | lk (xs : List D) | ref (a : Addr) | ty (n : String) | exn (C : Addr) (ns : List Str) (xs : List D) | clo (f : Addr) (vs : List V) (fx : List (Addr × HO)) (xs : List D)
/-- at a: an error of the class at C, its own dict at d -/
def exS (a C : Addr) (d : Option Addr) : HO := .ext fun h => ∃ oe vs, h.get? a = some oe ∧ oe.cls = .ref C ∧ oe.dict = d ∧ oe.data = .fields vs

mutual
def Is (K : PySem.W.Frag) (F : Hp) : D → V → Prop
  | .non, v => v = .non
  | .bl b, v => v = .bl b
  | .int i, v => v = .int i
  | .str s, v => v = .str s
  | .ref a, v => v = .ref a
  | .ty n, v => v = .ty n
  | .lst xs, v => ∃ a vs, v = .ref a ∧ F a = some (.lst vs) ∧ IsAll K F xs vs
  | .tup xs, v => ∃ a vs, v = .ref a ∧ F a = some (.tup vs) ∧ IsAll K F xs vs
  | .lk xs, v => ∃ a vs, v = .ref a ∧ SqL K F a vs ∧ IsAll K F xs vs
  | .exn C ns xs, v => ∃ a vs, v = .ref a ∧ IsAll K F xs vs ∧ ((ns = [] ∧ F a = some (exS a C none)) ∨ ∃ d, F a = some (exS a C (some d)) ∧ F d = some (.xd (ns.zip vs)))
  | .clo f vs fx xs, v => v = .ref f ∧ IsAll K F xs vs ∧ ∀ p ∈ fx, F p.1 = some p.2
def IsAll (K : PySem.W.Frag) (F : Hp) : List D → List V → Prop
  | [], vs => vs = []
  | x :: xs, vs => ∃ v r, vs = v :: r ∧ Is K F x v ∧ IsAll K F xs r
end
section
variable {T : List (Addr × Str)} {K : PySem.W.Frag} {F F' : Hp}
mutual
theorem Is.mono (e : Same F F') : ∀ (d : D) (v : V), Is K F d v → Is K F' d v
  | .non, v, h => by simp only [Is] at h ⊢; exact h
  | .bl b, v, h => by simp only [Is] at h ⊢; exact h
  | .int i, v, h => by simp only [Is] at h ⊢; exact h
  | .str s, v, h => by simp only [Is] at h ⊢; exact h
  | .ref a, v, h => by simp only [Is] at h ⊢; exact h
  | .ty n, v, h => by simp only [Is] at h ⊢; exact h
  | .lst xs, v, h => by
    simp only [Is] at h ⊢
    obtain ⟨a, vs, e1, e2, e3⟩ := h
    exact ⟨a, vs, e1, e _ _ e2, IsAll.mono e xs vs e3⟩
  | .tup xs, v, h => by
    simp only [Is] at h ⊢
    obtain ⟨a, vs, e1, e2, e3⟩ := h
    exact ⟨a, vs, e1, e _ _ e2, IsAll.mono e xs vs e3⟩
  | .lk xs, v, h => by
    simp only [Is] at h ⊢
    obtain ⟨a, vs, e1, e2, e3⟩ := h
    exact ⟨a, vs, e1, e.seq e2, IsAll.mono e xs vs e3⟩
  | .exn C ns xs, v, h => by
    simp only [Is] at h ⊢
    obtain ⟨a, vs, e1, e2, e3⟩ := h
    refine ⟨a, vs, e1, IsAll.mono e xs vs e2, ?_⟩
    rcases e3 with ⟨n, e3⟩ | ⟨d, e3, e4⟩
    · exact .inl ⟨n, e _ _ e3⟩
    · exact .inr ⟨d, e _ _ e3, e _ _ e4⟩
  | .clo f vs fx xs, v, h => by
    simp only [Is] at h ⊢
    exact ⟨h.1, IsAll.mono e xs vs h.2.1, fun p hp => e _ _ (h.2.2 p hp)⟩
theorem IsAll.mono (e : Same F F') : ∀ (xs : List D) (vs : List V), IsAll K F xs vs → IsAll K F' xs vs
  | [], vs, h => by simp only [IsAll] at h ⊢; exact h
  | x :: xs, vs, h => by
    simp only [IsAll] at h ⊢
    obtain ⟨v, r, e1, e2, e3⟩ := h
    exact ⟨v, r, e1, Is.mono e x v e2, IsAll.mono e xs r e3⟩
end
theorem IsAll.nil : IsAll K F [] [] := by simp only [IsAll]
theorem IsAll.cons {x : D} {v : V} {xs : List D} {vs : List V} (h : Is K F x v) (t : IsAll K F xs vs) : IsAll K F (x :: xs) (v :: vs) := by
  simp only [IsAll]
  exact ⟨v, vs, rfl, h, t⟩
theorem IsAll.uncons {x : D} {xs : List D} {vs : List V} (h : IsAll K F (x :: xs) vs) : ∃ v r, vs = v :: r ∧ Is K F x v ∧ IsAll K F xs r := by
  simp only [IsAll] at h
  exact h
theorem IsAll.nil_eq {vs : List V} (h : IsAll K F [] vs) : vs = [] := by
  simp only [IsAll] at h
  exact h
theorem IsAll.len : ∀ {xs : List D} {vs : List V}, IsAll K F xs vs → vs.length = xs.length
  | [], vs, h => by rw [h.nil_eq]; rfl
  | x :: xs, vs, h => by
    obtain ⟨v, r, rfl, _, t⟩ := h.uncons
    rw [List.length_cons, List.length_cons, IsAll.len t]
theorem IsAll.get : ∀ {xs : List D} {vs : List V} {i : Nat} {x : D}, IsAll K F xs vs → xs[i]? = some x → ∃ v, vs[i]? = some v ∧ Is K F x v
  | [], _, _, _, _, e => by simp at e
  | y :: ys, _, 0, x, h, e => by
    obtain ⟨v, r, rfl, hv, t⟩ := h.uncons
    rw [List.getElem?_cons_zero] at e
    cases e
    exact ⟨v, List.getElem?_cons_zero, hv⟩
  | y :: ys, _, i + 1, x, h, e => by
    obtain ⟨v, r, rfl, hv, t⟩ := h.uncons
    rw [List.getElem?_cons_succ] at e
    obtain ⟨u, e1, e2⟩ := IsAll.get t e
    exact ⟨u, by rw [List.getElem?_cons_succ]; exact e1, e2⟩
theorem IsAll.append : ∀ {xs ys : List D} {vs ws : List V}, IsAll K F xs vs → IsAll K F ys ws → IsAll K F (xs ++ ys) (vs ++ ws)
  | [], _, _, _, h, t => by rw [h.nil_eq]; exact t
  | x :: xs, _, _, _, h, t => by
    obtain ⟨v, r, rfl, hv, t'⟩ := h.uncons
    exact .cons hv (IsAll.append t' t)
theorem IsAll.take : ∀ {xs : List D} {vs : List V} (n : Nat), IsAll K F xs vs → IsAll K F (xs.take n) (vs.take n)
  | _, _, 0, _ => by rw [List.take_zero, List.take_zero]; exact .nil
  | [], _, n + 1, h => by rw [h.nil_eq]; exact .nil
  | x :: xs, _, n + 1, h => by
    obtain ⟨v, r, rfl, hv, t'⟩ := h.uncons
    rw [List.take_succ_cons, List.take_succ_cons]
    exact .cons hv (IsAll.take n t')
theorem IsAll.drop : ∀ {xs : List D} {vs : List V} (n : Nat), IsAll K F xs vs → IsAll K F (xs.drop n) (vs.drop n)
  | _, _, 0, h => by rw [List.drop_zero, List.drop_zero]; exact h
  | [], _, n + 1, h => by rw [h.nil_eq]; exact .nil
  | x :: xs, _, n + 1, h => by
    obtain ⟨v, r, rfl, hv, t'⟩ := h.uncons
    rw [List.drop_succ_cons, List.drop_succ_cons]
    exact IsAll.drop n t'
theorem IsAll.rev : ∀ {xs : List D} {vs : List V}, IsAll K F xs vs → IsAll K F xs.reverse vs.reverse
  | [], _, h => by rw [h.nil_eq]; exact .nil
  | x :: xs, _, h => by
    obtain ⟨v, r, rfl, hv, t'⟩ := h.uncons
    rw [List.reverse_cons, List.reverse_cons]
    exact IsAll.append (IsAll.rev t') (.cons hv .nil)
theorem IsAll.set : ∀ {xs : List D} {vs : List V} {x : D} {v : V} (i : Nat), Is K F x v → IsAll K F xs vs → IsAll K F (xs.set i x) (vs.set i v)
  | [], _, _, _, _, _, h => by rw [h.nil_eq]; exact .nil
  | y :: ys, _, x, v, 0, hx, h => by
    obtain ⟨u, r, rfl, hu, t⟩ := h.uncons
    rw [List.set_cons_zero, List.set_cons_zero]
    exact .cons hx t
  | y :: ys, _, x, v, i + 1, hx, h => by
    obtain ⟨u, r, rfl, hu, t⟩ := h.uncons
    rw [List.set_cons_succ, List.set_cons_succ]
    exact .cons hu (IsAll.set i hx t)
/-- a list of ints -/
theorem IsAll.ints : ∀ ns : List Int, IsAll K F (ns.map D.int) (ns.map V.int)
  | [] => .nil
  | n :: ns => by
    rw [List.map_cons, List.map_cons]
    exact .cons (by simp only [Is]) (IsAll.ints ns)
theorem IsAll.of_ints : ∀ {ns : List Int} {vs : List V}, IsAll K F (ns.map D.int) vs → vs = ns.map V.int
  | [], _, h => h.nil_eq
  | n :: ns, _, h => by
    rw [List.map_cons] at h
    obtain ⟨v, r, rfl, hv, t⟩ := h.uncons
    simp only [Is] at hv
    rw [List.map_cons, hv, IsAll.of_ints t]
end

/-! ### what may change -/
inductive MO where
  | lst (xs : List D)
  | dT (kvs : List (List Key × D)) | dK (kvs : List (Key × D))
  | ins (C dx : Addr) (fs : List (Str × D))
abbrev Mp := Addr → Option MO
def mup (M : Mp) (a : Addr) (o : MO) : Mp := fun b => if b = a then some o else M b
def mdel (M : Mp) (a : Addr) : Mp := fun b => if b = a then none else M b
theorem mup_same {M : Mp} {a : Addr} {o : MO} : mup M a o a = some o := by unfold mup; rw [if_pos rfl]
theorem mup_ne {M : Mp} {a b : Addr} {o : MO} (h : b ≠ a) : mup M a o b = M b := by unfold mup; rw [if_neg h]
theorem mup_mup {M : Mp} {a : Addr} {o u : MO} : mup (mup M a o) a u = mup M a u := by
  funext b; unfold mup; split <;> rfl
theorem mdel_mup {M : Mp} {a : Addr} {o : MO} (h : M a = none) : mdel (mup M a o) a = M := by
  funext b; unfold mdel mup; split
  · rename_i e; subst e; exact h.symm
  · rfl
theorem mup_self {M : Mp} {a : Addr} {o : MO} (h : M a = some o) : mup M a o = M := by
  funext b; unfold mup; split
  · rename_i e; subst e; exact h.symm
  · rfl
theorem mup_comm {M : Mp} {a b : Addr} {o u : MO} (h : a ≠ b) : mup (mup M a o) b u = mup (mup M b u) a o := by
  funext c; unfold mup; split
  · rename_i e; subst e; rw [if_neg (Ne.symm h)]
  · rfl
theorem mne {M : Mp} {a b : Addr} {o : MO} (h : M a = some o) (h' : M b = none) : a ≠ b := by
  intro e; subst e; rw [h] at h'; cases h'

def KD {κ : Type} (K : PySem.W.Frag) (F : Hp) : List (κ × D) → List (κ × V) → Prop := Paired fun p q => p.1 = q.1 ∧ Is K F p.2 q.2
def MIs (K : PySem.W.Frag) (F : Hp) : MO → HO → Prop
  | .lst ds, o => ∃ vs, o = .lst vs ∧ IsAll K F ds vs
  | .dT kvs, o => ∃ kws, o = .dT kws ∧ KD K F kvs kws
  | .dK kvs, o => ∃ kws, o = .dK kws ∧ KD K F kvs kws
  | .ins C dx fs, o => ∃ gs, o = .ins C dx gs ∧ KD K F fs gs
theorem KD.mono {κ : Type} {K : PySem.W.Frag} {F F' : Hp} (e : Same F F') {l : List (κ × D)} {m : List (κ × V)} (h : KD K F l m) : KD K F' l m := by
  induction h with
  | nil => exact .nil
  | cons r _ ih => exact .cons ⟨r.1, Is.mono e _ _ r.2⟩ ih
theorem MIs.mono {K : PySem.W.Frag} {F F' : Hp} (e : Same F F') {m : MO} {o : HO} (h : MIs K F m o) : MIs K F' m o := by
  cases m with
  | lst ds => obtain ⟨vs, e1, e2⟩ := h; exact ⟨vs, e1, IsAll.mono e _ _ e2⟩
  | dT kvs => obtain ⟨vs, e1, e2⟩ := h; exact ⟨vs, e1, e2.mono e⟩
  | dK kvs => obtain ⟨vs, e1, e2⟩ := h; exact ⟨vs, e1, e2.mono e⟩
  | ins C dx fs => obtain ⟨vs, e1, e2⟩ := h; exact ⟨vs, e1, e2.mono e⟩

/-- F: what never changes; M: what may; H: the heap -/
structure Hd (T : List (Addr × Str)) (K : PySem.W.Frag) (F : Hp) (M : Mp) (H : Hp) : Prop where
  fr : Same F H
  ft : ∀ a ps, F a ≠ some (.tbl ps)
  tb : LamX.Tabs T H
  mu : ∀ a m, M a = some m → F a = none ∧ ∃ o, H a = some o ∧ MIs K F m o
/-- no table, nothing of another kind -/
def Pln (o : HO) : Prop := (∀ ps, o ≠ .tbl ps) ∧ ∀ φ, o ≠ .ext φ
/-- what comes to stand; all else (F, M know nothing of it) stays -/
structure Up (F : Hp) (M : Mp) (H : Hp) (F' : Hp) (M' : Mp) (H' : Hp) : Prop where
  ex : Same F F'
  ot : ∀ a o, H a = some o → Pln o → F a = none → M a = none → H' a = some o ∧ F' a = none ∧ M' a = none
section
variable {T : List (Addr × Str)} {K : PySem.W.Frag} {F F1 F2 H H1 H2 : Hp} {M M1 M2 : Mp}
theorem Up.refl : Up F M H F M H := ⟨Same.refl F, fun a o h _ f m => ⟨h, f, m⟩⟩
theorem Up.trans (a : Up F M H F1 M1 H1) (b : Up F1 M1 H1 F2 M2 H2) : Up F M H F2 M2 H2 :=
  ⟨a.ex.trans b.ex, fun x o h n f m => by
    obtain ⟨h1, f1, m1⟩ := a.ot x o h n f m
    exact b.ot x o h1 n f1 m1⟩
theorem MIs.noTbl {m : MO} {o : HO} (h : MIs K F m o) : ∀ ps, o ≠ .tbl ps := fun ps e => by
  cases m with
  | lst ds => obtain ⟨vs, e1, _⟩ := h; rw [e1] at e; cases e
  | dT kvs => obtain ⟨vs, e1, _⟩ := h; rw [e1] at e; cases e
  | dK kvs => obtain ⟨vs, e1, _⟩ := h; rw [e1] at e; cases e
  | ins C dx fs => obtain ⟨vs, e1, _⟩ := h; rw [e1] at e; cases e
theorem MIs.noExt {m : MO} {o : HO} (h : MIs K F m o) : ∀ φ, o ≠ .ext φ := fun ps e => by
  cases m with
  | lst ds => obtain ⟨vs, e1, _⟩ := h; rw [e1] at e; cases e
  | dT kvs => obtain ⟨vs, e1, _⟩ := h; rw [e1] at e; cases e
  | dK kvs => obtain ⟨vs, e1, _⟩ := h; rw [e1] at e; cases e
  | ins C dx fs => obtain ⟨vs, e1, _⟩ := h; rw [e1] at e; cases e
theorem Hd.none_of (h : Hd T K F M H) {p : Addr} (e : H p = none) : F p = none ∧ M p = none := by
  refine ⟨h.fr.free e, ?_⟩
  cases q : M p with
  | none => rfl
  | some m =>
    obtain ⟨_, o, ho, _⟩ := h.mu p m q
    rw [e] at ho; cases ho
theorem tabs_new {p : Addr} {o : HO} (e : H p = none) (h : LamX.Tabs T H) : LamX.Tabs T (upd H p o) := h.ext fun b u q => by rw [upd_ne (ne_of_none q e)]; exact q
/-- tables, code objects are none of what may change -/
theorem tabs_put {p : Addr} {o u : HO} (e : H p = some u) (n1 : ∀ ps, u ≠ .tbl ps) (n2 : ∀ φ, u ≠ .ext φ) (h : LamX.Tabs T H) : LamX.Tabs T (upd H p o) := fun x hx => by
  obtain ⟨ps, h1, h2, h3⟩ := h x hx
  refine ⟨ps, by rw [upd_ne (fun z => n1 ps (by rw [z, e] at h1; exact Option.some.inj h1))]; exact h1, h2, fun pos cv hc => ?_⟩
  obtain ⟨c, e1, e2⟩ := h3 pos cv hc
  refine ⟨c, e1, ?_⟩
  rw [upd_ne (fun z => n2 _ (by rw [z, e] at e2; exact Option.some.inj e2))]
  exact e2
/-- a new thing that never changes -/
theorem Hd.newF (h : Hd T K F M H) {p : Addr} {o : HO} (e : H p = none) (no : ∀ ps, o ≠ .tbl ps := by intro ps z; cases z) : Hd T K (upd F p o) M (upd H p o) ∧ Up F M H (upd F p o) M (upd H p o) := by
  obtain ⟨f0, m0⟩ := h.none_of e
  have ex : Same F (upd F p o) := fun b u q => by rw [upd_ne (ne_of_none q f0)]; exact q
  refine ⟨⟨fun b u q => ?_, fun a ps q => ?_, tabs_new e h.tb, fun a m q => ?_⟩, ex, fun a u ha _ fa ma => ?_⟩
  · by_cases hb : b = p
    · subst hb; rw [upd_same] at q ⊢; exact q
    · rw [upd_ne hb] at q ⊢; exact h.fr b u q
  · by_cases hb : a = p
    · subst hb; rw [upd_same] at q; exact no ps (Option.some.inj q)
    · rw [upd_ne hb] at q; exact h.ft a ps q
  · obtain ⟨fa, u, hu, r⟩ := h.mu a m q
    have hn : a ≠ p := mne q m0
    exact ⟨by rw [upd_ne hn]; exact fa, u, by rw [upd_ne hn]; exact hu, r.mono ex⟩
  · have hn : a ≠ p := ne_of_none ha e
    exact ⟨by rw [upd_ne hn]; exact ha, by rw [upd_ne hn]; exact fa, ma⟩
/-- a new thing that may change -/
theorem Hd.newM (h : Hd T K F M H) {p : Addr} {o : HO} {m : MO} (e : H p = none) (r : MIs K F m o) : Hd T K F (mup M p m) (upd H p o) ∧ Up F M H F (mup M p m) (upd H p o) := by
  obtain ⟨f0, m0⟩ := h.none_of e
  refine ⟨⟨fun b u q => ?_, h.ft, tabs_new e h.tb, fun a mm q => ?_⟩, Same.refl F, fun a u ha _ fa ma => ?_⟩
  · rw [upd_ne (ne_of_none (h.fr b u q) e)]; exact h.fr b u q
  · by_cases hb : a = p
    · subst hb
      rw [mup_same] at q; cases q
      exact ⟨f0, o, upd_same, r⟩
    · rw [mup_ne hb] at q
      obtain ⟨fa, u, hu, rr⟩ := h.mu a mm q
      exact ⟨fa, u, by rw [upd_ne hb]; exact hu, rr⟩
  · have hn : a ≠ p := ne_of_none ha e
    exact ⟨by rw [upd_ne hn]; exact ha, fa, by rw [mup_ne hn]; exact ma⟩
/-- a thing that may change is changed -/
theorem Hd.put (h : Hd T K F M H) {p : Addr} {o : HO} {m0 m : MO} (e : M p = some m0) (r : MIs K F m o) : Hd T K F (mup M p m) (upd H p o) ∧ Up F M H F (mup M p m) (upd H p o) := by
  obtain ⟨f0, u0, e0, r0⟩ := h.mu p m0 e
  refine ⟨⟨fun b u q => ?_, h.ft, tabs_put e0 r0.noTbl r0.noExt h.tb, fun a mm q => ?_⟩, Same.refl F, fun a u ha _ fa ma => ?_⟩
  · have hn : b ≠ p := by intro z; subst z; rw [f0] at q; cases q
    rw [upd_ne hn]; exact h.fr b u q
  · by_cases hb : a = p
    · subst hb
      rw [mup_same] at q; cases q
      exact ⟨f0, o, upd_same, r⟩
    · rw [mup_ne hb] at q
      obtain ⟨fa, u, hu, rr⟩ := h.mu a mm q
      exact ⟨fa, u, by rw [upd_ne hb]; exact hu, rr⟩
  · have hn : a ≠ p := by intro z; subst z; rw [e] at ma; cases ma
    exact ⟨by rw [upd_ne hn]; exact ha, fa, by rw [mup_ne hn]; exact ma⟩
/-- from now on it never changes -/
theorem Hd.freeze (h : Hd T K F M H) {p : Addr} {ds : List D} (e : M p = some (.lst ds)) : ∃ F', Hd T K F' (mdel M p) H ∧ Up F M H F' (mdel M p) H ∧ Is K F' (.lst ds) (.ref p) := by
  obtain ⟨f0, o, ho, vs, rfl, r⟩ := h.mu p _ e
  have ex : Same F (upd F p (.lst vs)) := fun b u q => by rw [upd_ne (ne_of_none q f0)]; exact q
  refine ⟨upd F p (.lst vs), ⟨fun b u q => ?_, fun a ps q => ?_, h.tb, fun a mm q => ?_⟩, ⟨ex, fun a u ha _ fa ma => ?_⟩, ?_⟩
  · by_cases hb : b = p
    · subst hb; rw [upd_same] at q; rw [ho]; exact q
    · rw [upd_ne hb] at q; exact h.fr b u q
  · by_cases hb : a = p
    · subst hb; rw [upd_same] at q; cases q
    · rw [upd_ne hb] at q; exact h.ft a ps q
  · unfold mdel at q
    split at q
    · cases q
    · rename_i hn
      obtain ⟨fa, u, hu, rr⟩ := h.mu a mm q
      exact ⟨by rw [upd_ne hn]; exact fa, u, hu, rr.mono ex⟩
  · have hn : a ≠ p := by intro z; subst z; rw [e] at ma; cases ma
    refine ⟨ha, by rw [upd_ne hn]; exact fa, ?_⟩
    unfold mdel
    rw [if_neg hn]; exact ma
  · simp only [Is]
    exact ⟨p, vs, rfl, upd_same, IsAll.mono ex _ _ r⟩
/-- forgotten -/
theorem Hd.drop (h : Hd T K F M H) (h' : ∀ a m, M1 a = some m → M a = some m) : Hd T K F M1 H := ⟨h.fr, h.ft, h.tb, fun a m q => h.mu a m (h' a m q)⟩
end

/-! ### readings -/
abbrev DSt := List (Option D)
abbrev DQ := D → Mp → Prop
abbrev DTE := DSt → Mp → DQ → Prop
abbrev DTT := DSt → Mp → (Bool → Mp → Prop) → Prop
abbrev DTA := DSt → Mp → (List D → Mp → Prop) → Prop
structure Sl (K : PySem.W.Frag) (F : Hp) (δ : DSt) (σ : L2.St) : Prop where
  len : σ.length = δ.length
  at_ : ∀ (i : Nat) (d : D), δ[i]? = some (some d) → ∃ v, σ[i]? = some (some v) ∧ Is K F d v
theorem Sl.mono {K : PySem.W.Frag} {F F' : Hp} {δ : DSt} {σ : L2.St} (e : Same F F') (h : Sl K F δ σ) : Sl K F' δ σ :=
  ⟨h.len, fun i d q => let ⟨v, e1, e2⟩ := h.at_ i d q; ⟨v, e1, Is.mono e _ _ e2⟩⟩
theorem Sl.set {K : PySem.W.Frag} {F : Hp} {δ : DSt} {σ : L2.St} (h : Sl K F δ σ) (i : Nat) {d : D} {v : V} (r : Is K F d v) : Sl K F (δ.set i (some d)) (σ.set i (some v)) := by
  refine ⟨by rw [List.length_set, List.length_set]; exact h.len, fun j d' q => ?_⟩
  by_cases e : i = j
  · subst e
    by_cases hi : i < δ.length
    · rw [List.getElem?_set_self hi] at q
      cases q
      exact ⟨v, by rw [List.getElem?_set_self (by rw [h.len]; exact hi)], r⟩
    · rw [List.getElem?_eq_none (by rw [List.length_set]; omega)] at q
      cases q
  · rw [List.getElem?_set_ne e] at q ⊢
    exact h.at_ j d' q

def DE (T : List (Addr × Str)) (K : PySem.W.Frag) (te : TE) (t : DTE) : Prop := ∀ δ M Q σ F H R, Sl K F δ σ → Hd T K F M H → t δ M Q →
  (∀ v d F' M' H', Up F M H F' M' H' → Hd T K F' M' H' → Is K F' d v → Q d M' → R v H') → te σ H R
def DT (T : List (Addr × Str)) (K : PySem.W.Frag) (te : TT) (t : DTT) : Prop := ∀ δ M Q σ F H R, Sl K F δ σ → Hd T K F M H → t δ M Q →
  (∀ b F' M' H', Up F M H F' M' H' → Hd T K F' M' H' → Q b M' → R b H') → te σ H R
def DA (T : List (Addr × Str)) (K : PySem.W.Frag) (te : TA) (t : DTA) : Prop := ∀ δ M Q σ F H R, Sl K F δ σ → Hd T K F M H → t δ M Q →
  (∀ vs ds F' M' H', Up F M H F' M' H' → Hd T K F' M' H' → IsAll K F' ds vs → Q ds M' → R vs H') → te σ H R
structure DPE (T : List (Addr × Str)) (X : Cx) (e : Expr) (t : DTE) : Prop where
  ex : ∃ te, PE X e te ∧ DE T X.K te t
structure DPT (T : List (Addr × Str)) (X : Cx) (e : Expr) (t : DTT) : Prop where
  ex : ∃ te, PT X e te ∧ DT T X.K te t
structure DPW (T : List (Addr × Str)) (X : Cx) (e : Expr) (t : DTT) : Prop where
  ex : ∃ te, PW X e te ∧ DT T X.K te t
structure DPA (T : List (Addr × Str)) (X : Cx) (es : List Expr) (t : DTA) : Prop where
  ex : ∃ te, PA X es te ∧ DA T X.K te t
abbrev DR1 := D → Mp → DQ → Prop
abbrev DR2 := D → D → Mp → DQ → Prop
abbrev DRA := List D → Mp → DQ → Prop
abbrev DRM := D → List D → Mp → DQ → Prop
def S1 (T : List (Addr × Str)) (K : PySem.W.Frag) (r : V → Hp → VK → Prop) (d : DR1) : Prop := ∀ x dx M Q F H R, Hd T K F M H → Is K F dx x → d dx M Q →
  (∀ v d F' M' H', Up F M H F' M' H' → Hd T K F' M' H' → Is K F' d v → Q d M' → R v H') → r x H R
def S2 (T : List (Addr × Str)) (K : PySem.W.Frag) (r : R2) (d : DR2) : Prop := ∀ x y dx dy M Q F H R, Hd T K F M H → Is K F dx x → Is K F dy y → d dx dy M Q →
  (∀ v d F' M' H', Up F M H F' M' H' → Hd T K F' M' H' → Is K F' d v → Q d M' → R v H') → r x y H R
def SA (T : List (Addr × Str)) (K : PySem.W.Frag) (r : List V → Hp → VK → Prop) (d : DRA) : Prop := ∀ vs ds M Q F H R, Hd T K F M H → IsAll K F ds vs → d ds M Q →
  (∀ v d F' M' H', Up F M H F' M' H' → Hd T K F' M' H' → Is K F' d v → Q d M' → R v H') → r vs H R
def SM (T : List (Addr × Str)) (K : PySem.W.Frag) (r : V → List V → Hp → VK → Prop) (d : DRM) : Prop := ∀ x vs dx ds M Q F H R, Hd T K F M H → Is K F dx x → IsAll K F ds vs → d dx ds M Q →
  (∀ v d F' M' H', Up F M H F' M' H' → Hd T K F' M' H' → Is K F' d v → Q d M' → R v H') → r x vs H R
structure DOp (T : List (Addr × Str)) (X : Cx) (f : Value → Value → Sem Value) (d : DR2) : Prop where
  ex : ∃ r, OpR X f r ∧ S2 T X.K r d
structure DUn (T : List (Addr × Str)) (X : Cx) (f : Value → Sem Value) (d : DR1) : Prop where
  ex : ∃ r, UnR X f r ∧ S1 T X.K r d
structure DCl (T : List (Addr × Str)) (X : Cx) (f : Value) (d : DRA) : Prop where
  ex : ∃ r, CallR X f r ∧ SA T X.K r d

/-! ### names, constants -/
section
variable {T : List (Addr × Str)} {X : Cx} {a b c e : Expr} {es : List Expr} {ta tb tc : DTE} {pos : Pos}
def dVar (i : Nat) : DTE := fun δ M Q => match δ[i]? with
  | some (some d) => Q d M
  | _ => False
def dC (d : D) : DTE := fun _ M Q => Q d M
theorem de_var {T : List (Addr × Str)} {K : PySem.W.Frag} (i : Nat) : DE T K (tVar i) (dVar i) := fun δ M Q σ F H R hs hh ht k => by
  unfold dVar at ht
  split at ht
  · rename_i d e
    obtain ⟨v, e1, e2⟩ := hs.at_ i d e
    exact ⟨v, e1, k v d F M H .refl hh e2 ht⟩
  · exact ht.elim
theorem de_c {K : PySem.W.Frag} {v : V} {d : D} (h : ∀ F, Is K F d v) : DE T K (tC v) (dC d) := fun δ M Q σ F H R hs hh ht k => k v d F M H .refl hh (h F) ht
theorem qv (i : Nat) {x : Str} {pos : Pos} (hN : X.N[i]? = some x := by rfl) (hv : Vis X.env.scope x := by first | exact Or.inl rfl | exact Or.inr (Or.inl rfl) | exact Or.inr (Or.inr rfl)) (hd : (x == ("__debug__" : Str)) = false := by decide)
    (hcd : (x == ("__classdict__" : Str)) = false := by decide) : DPE T X (.Name x pos) (dVar i) := ⟨_, pe_var hN hv hd hcd, de_var i⟩
theorem q_int {i : Int} {j pos} : DPE T X (.Constant (.int i) j pos) (dC (.int i)) := ⟨_, pe_int, de_c fun F => by simp only [Is]⟩
theorem q_bl {i : Bool} {j pos} : DPE T X (.Constant (.bool i) j pos) (dC (.bl i)) := ⟨_, pe_bl, de_c fun F => by simp only [Is]⟩
theorem q_non {j pos} : DPE T X (.Constant .none j pos) (dC .non) := ⟨_, pe_non, de_c fun F => by simp only [Is]⟩
theorem q_str {x : Str} {j pos} : DPE T X (.Constant (.str x) j pos) (dC (.str x)) := ⟨_, pe_str, de_c fun F => by simp only [Is]⟩
/-- a def, a class of the module as a value -/
theorem q_ref {x : Str} {f : Addr} {pos : Pos} (hg : Gl X x) (hm : X.mg x = some (.ref f)) (hd : (x == ("__debug__" : Str)) = false := by decide) : DPE T X (.Name x pos) (dC (.ref f)) :=
  ⟨_, pe_glob (v := .ref f) hg hm rfl hd, de_c fun F => by simp only [Is]⟩
theorem q_gint {x : Str} {i : Int} {t : Tok} {pos : Pos} (hg : Gl X x) (hm : X.mg x = some (.int i t)) (hd : (x == ("__debug__" : Str)) = false := by decide) : DPE T X (.Name x pos) (dC (.int i)) :=
  ⟨_, pe_glob (v := .int i) hg hm ⟨t, rfl⟩ hd, de_c fun F => by simp only [Is]⟩
/-- a built-in class as a value -/
theorem q_ty {x : Str} {n : String} {pos : Pos} (hg : Gl X x) (hm : X.mg x = none) (hv : bootBuiltins x = some (.type n)) (hn : x ≠ "__name__" := by decide) (hd : (x == ("__debug__" : Str)) = false := by decide) : DPE T X (.Name x pos) (dC (.ty n)) :=
  ⟨_, pe_bltn (v := .ty n) hg hm hv rfl hn hd, de_c fun F => by simp only [Is]⟩

/-! ### operators -/
def dOp (r : DR2) (ta tb : DTE) : DTE := fun δ M Q => ta δ M fun x M1 => tb δ M1 fun y M2 => r x y M2 Q
def dUn (r : DR1) (ta : DTE) : DTE := fun δ M Q => ta δ M fun x M1 => r x M1 Q
theorem de_op {K : PySem.W.Frag} {r : R2} {d : DR2} {ua ub : TE} (s : S2 T K r d) (ha : DE T K ua ta) (hb : DE T K ub tb) : DE T K (tOp r ua ub) (dOp d ta tb) := fun δ M Q σ F H R hs hh ht k => by
  refine ha δ M _ σ F H _ hs hh ht fun x dx F1 M1 H1 u1 h1 i1 q1 => ?_
  refine hb δ M1 _ σ F1 H1 _ (hs.mono u1.ex) h1 q1 fun y dy F2 M2 H2 u2 h2 i2 q2 => ?_
  exact s x y dx dy M2 Q F2 H2 R h2 (Is.mono u2.ex _ _ i1) i2 q2 fun v d F' M' H' u3 h3 i3 q3 => k v d F' M' H' ((u1.trans u2).trans u3) h3 i3 q3
theorem de_un {K : PySem.W.Frag} {r : V → Hp → VK → Prop} {d : DR1} {ua : TE} (s : S1 T K r d) (ha : DE T K ua ta) : DE T K (tUn r ua) (dUn d ta) := fun δ M Q σ F H R hs hh ht k => by
  refine ha δ M _ σ F H _ hs hh ht fun x dx F1 M1 H1 u1 h1 i1 q1 => ?_
  exact s x dx M1 Q F1 H1 R h1 i1 q1 fun v d F' M' H' u3 h3 i3 q3 => k v d F' M' H' (u1.trans u3) h3 i3 q3
theorem q_op {op : Operator} {d : DR2} (ho : DOp T X (binaryOp op) d) (ha : DPE T X a ta) (hb : DPE T X b tb) : DPE T X (.BinOp a op b pos) (dOp d ta tb) := by
  obtain ⟨r, h1, h2⟩ := ho.ex
  obtain ⟨ua, a1, a2⟩ := ha.ex
  obtain ⟨ub, b1, b2⟩ := hb.ex
  exact ⟨_, pe_op h1 a1 b1, de_op h2 a2 b2⟩
theorem q_un {op : UnaryOp} {d : DR1} (ho : DUn T X (unaryOp op) d) (ha : DPE T X a ta) : DPE T X (.UnaryOp op a pos) (dUn d ta) := by
  obtain ⟨r, h1, h2⟩ := ho.ex
  obtain ⟨ua, a1, a2⟩ := ha.ex
  exact ⟨_, pe_un h1 a1, de_un h2 a2⟩
theorem q_cmp {op : CmpOp} {d : DR2} (ho : DOp T X (compareOp op) d) (ha : DPE T X a ta) (hb : DPE T X b tb) (hm : behindInMarks op b = false := by first | exact nomark _ (by decide) (by decide) | rfl) : DPE T X (.Compare a [op] [b] pos) (dOp d ta tb) := by
  obtain ⟨r, h1, h2⟩ := ho.ex
  obtain ⟨ua, a1, a2⟩ := ha.ex
  obtain ⟨ub, b1, b2⟩ := hb.ex
  exact ⟨_, pe_cmpR h1 a1 b1 hm, de_op h2 a2 b2⟩
/-- what gives a bool, as a test -/
def dTest (t : DTE) : DTT := fun δ M Q => t δ M fun x M1 => match x with
  | .bl k => Q k M1
  | _ => False
theorem dt_test {K : PySem.W.Frag} {u : TE} (ha : DE T K u ta) : DT T K (tTest u) (dTest ta) := fun δ M Q σ F H R hs hh ht k => by
  refine ha δ M _ σ F H _ hs hh ht fun x dx F1 M1 H1 u1 h1 i1 q1 => ?_
  cases dx with
  | bl j => simp only [Is] at i1; exact ⟨j, i1, k j F1 M1 H1 u1 h1 q1⟩
  | _ => exact q1.elim
theorem q_tcmp {op : CmpOp} {d : DR2} (ho : DOp T X (compareOp op) d) (ha : DPE T X a ta) (hb : DPE T X b tb) (hm : behindInMarks op b = false := by first | exact nomark _ (by decide) (by decide) | rfl) : DPT T X (.Compare a [op] [b] pos) (dTest (dOp d ta tb)) := by
  obtain ⟨r, h1, h2⟩ := ho.ex
  obtain ⟨ua, a1, a2⟩ := ha.ex
  obtain ⟨ub, b1, b2⟩ := hb.ex
  exact ⟨_, pt_cmpR h1 a1 b1 hm, dt_test (de_op h2 a2 b2)⟩
theorem q_tval (h : DPE T X e ta) (he : ∀ whole, isTrue e X.env whole = (do let v ← whole; standAt e.pos; holding [v] (truthy v)) := by intro _; rfl) : DPT T X e (dTest ta) := by
  obtain ⟨ua, a1, a2⟩ := h.ex
  exact ⟨_, pt_val a1 he, dt_test a2⟩
/-- a chain of two -/
def dChain (r r' : DR2) (ta tb tc : DTE) : DTE := fun δ M Q => ta δ M fun x M1 => tb δ M1 fun y M2 => r x y M2 fun z M3 => match z with
  | .bl true => tc δ M3 fun w M4 => r' y w M4 Q
  | .bl false => Q (.bl false) M3
  | _ => False
theorem de_chain {K : PySem.W.Frag} {r r' : R2} {d d' : DR2} {ua ub uc : TE} (s : S2 T K r d) (s' : S2 T K r' d') (ha : DE T K ua ta) (hb : DE T K ub tb) (hc : DE T K uc tc) : DE T K (tChain r r' ua ub uc) (dChain d d' ta tb tc) := fun δ M Q σ F H R hs hh ht k => by
  refine ha δ M _ σ F H _ hs hh ht fun x dx F1 M1 H1 u1 h1 i1 q1 => ?_
  refine hb δ M1 _ σ F1 H1 _ (hs.mono u1.ex) h1 q1 fun y dy F2 M2 H2 u2 h2 i2 q2 => ?_
  refine s x y dx dy M2 _ F2 H2 _ h2 (Is.mono u2.ex _ _ i1) i2 q2 fun v dz F3 M3 H3 u3 h3 i3 q3 => ?_
  cases dz with
  | bl j =>
    simp only [Is] at i3
    refine ⟨j, i3, ?_⟩
    cases j with
    | true =>
      rw [if_pos rfl]
      refine hc δ M3 _ σ F3 H3 _ (hs.mono ((u1.trans u2).trans u3).ex) h3 q3 fun w dw F4 M4 H4 u4 h4 i4 q4 => ?_
      exact s' y w dy dw M4 Q F4 H4 R h4 (Is.mono (u3.trans u4).ex _ _ i2) i4 q4 fun v d F' M' H' u5 h5 i5 q5 => k v d F' M' H' ((((u1.trans u2).trans u3).trans u4).trans u5) h5 i5 q5
    | false =>
      rw [if_neg Bool.false_ne_true]
      exact k (.bl false) (.bl false) F3 M3 H3 ((u1.trans u2).trans u3) h3 (by simp only [Is]) q3
  | _ => exact q3.elim
theorem q_chain {op op' : CmpOp} {d d' : DR2} (ho : DOp T X (compareOp op) d) (ho' : DOp T X (compareOp op') d') (ha : DPE T X a ta) (hb : DPE T X b tb) (hc : DPE T X c tc)
    (hm : lastMarks [op, op'] [b, c] = false := by with_unfolding_all rfl) : DPE T X (.Compare a [op, op'] [b, c] pos) (dChain d d' ta tb tc) := by
  obtain ⟨r, h1, h2⟩ := ho.ex
  obtain ⟨r', h3, h4⟩ := ho'.ex
  obtain ⟨ua, a1, a2⟩ := ha.ex
  obtain ⟨ub, b1, b2⟩ := hb.ex
  obtain ⟨uc, c1, c2⟩ := hc.ex
  exact ⟨_, pe_chain h1 h3 a1 b1 c1 hm, de_chain h2 h4 a2 b2 c2⟩
theorem q_tchain {op op' : CmpOp} {d d' : DR2} (ho : DOp T X (compareOp op) d) (ho' : DOp T X (compareOp op') d') (ha : DPE T X a ta) (hb : DPE T X b tb) (hc : DPE T X c tc)
    (hm : lastMarks [op, op'] [b, c] = false := by with_unfolding_all rfl) : DPT T X (.Compare a [op, op'] [b, c] pos) (dTest (dChain d d' ta tb tc)) := by
  obtain ⟨r, h1, h2⟩ := ho.ex
  obtain ⟨r', h3, h4⟩ := ho'.ex
  obtain ⟨ua, a1, a2⟩ := ha.ex
  obtain ⟨ub, b1, b2⟩ := hb.ex
  obtain ⟨uc, c1, c2⟩ := hc.ex
  exact ⟨_, pt_chain h1 h3 a1 b1 c1 hm, dt_test (de_chain h2 h4 a2 b2 c2)⟩

/-! ### and, or, not, if .. else -/
variable {t u : DTT} {rest : List Expr}
def dAnd (t u : DTT) : DTT := fun δ M Q => t δ M fun c M1 => match c with
  | true => u δ M1 Q
  | false => Q false M1
def dOr (t u : DTT) : DTT := fun δ M Q => t δ M fun c M1 => match c with
  | true => Q true M1
  | false => u δ M1 Q
def dNot (t : DTT) : DTT := fun δ M Q => t δ M fun c M1 => Q (!c) M1
theorem dt_and {K : PySem.W.Frag} {a b : TT} (ha : DT T K a t) (hb : DT T K b u) : DT T K (tAnd a b) (dAnd t u) := fun δ M Q σ F H R hs hh ht k => by
  refine ha δ M _ σ F H _ hs hh ht fun c F1 M1 H1 u1 h1 q1 => ?_
  cases c with
  | true =>
    rw [if_pos rfl]
    exact hb δ M1 Q σ F1 H1 R (hs.mono u1.ex) h1 q1 fun b F' M' H' u2 h2 q2 => k b F' M' H' (u1.trans u2) h2 q2
  | false =>
    rw [if_neg Bool.false_ne_true]
    exact k false F1 M1 H1 u1 h1 q1
theorem dt_or {K : PySem.W.Frag} {a b : TT} (ha : DT T K a t) (hb : DT T K b u) : DT T K (tOr a b) (dOr t u) := fun δ M Q σ F H R hs hh ht k => by
  refine ha δ M _ σ F H _ hs hh ht fun c F1 M1 H1 u1 h1 q1 => ?_
  cases c with
  | true =>
    rw [if_pos rfl]
    exact k true F1 M1 H1 u1 h1 q1
  | false =>
    rw [if_neg Bool.false_ne_true]
    exact hb δ M1 Q σ F1 H1 R (hs.mono u1.ex) h1 q1 fun b F' M' H' u2 h2 q2 => k b F' M' H' (u1.trans u2) h2 q2
theorem dt_not {K : PySem.W.Frag} {a : TT} (ha : DT T K a t) : DT T K (tNot a) (dNot t) := fun δ M Q σ F H R hs hh ht k =>
  ha δ M _ σ F H _ hs hh ht fun c F1 M1 H1 u1 h1 q1 => k (!c) F1 M1 H1 u1 h1 q1
theorem w_and1 (ha : DPT T X a t) : DPW T X (.BoolOp .And [a] pos) t := by
  obtain ⟨u, h1, h2⟩ := ha.ex
  exact ⟨_, pw_and1 h1, h2⟩
theorem w_or1 (ha : DPT T X a t) : DPW T X (.BoolOp .Or [a] pos) t := by
  obtain ⟨u, h1, h2⟩ := ha.ex
  exact ⟨_, pw_or1 h1, h2⟩
theorem w_and (ha : DPT T X a t) (hb : DPW T X (.BoolOp .And (b :: rest) pos) u) : DPW T X (.BoolOp .And (a :: b :: rest) pos) (dAnd t u) := by
  obtain ⟨u1, h1, h2⟩ := ha.ex
  obtain ⟨u2, h3, h4⟩ := hb.ex
  exact ⟨_, pw_and h1 h3, dt_and h2 h4⟩
theorem w_or (ha : DPT T X a t) (hb : DPW T X (.BoolOp .Or (b :: rest) pos) u) : DPW T X (.BoolOp .Or (a :: b :: rest) pos) (dOr t u) := by
  obtain ⟨u1, h1, h2⟩ := ha.ex
  obtain ⟨u2, h3, h4⟩ := hb.ex
  exact ⟨_, pw_or h1 h3, dt_or h2 h4⟩
theorem DPW.pt {e : Expr} (h : DPW T X e t) : DPT T X e t := by
  obtain ⟨u, h1, h2⟩ := h.ex
  exact ⟨_, h1.pt, h2⟩
theorem q_tnot (ha : DPT T X a t) : DPT T X (.UnaryOp .Not a pos) (dNot t) := by
  obtain ⟨u, h1, h2⟩ := ha.ex
  exact ⟨_, pt_not h1, dt_not h2⟩
def dIf (t : DTT) (ta tb : DTE) : DTE := fun δ M Q => t δ M fun c M1 => match c with
  | true => ta δ M1 Q
  | false => tb δ M1 Q
theorem q_if (ht : DPT T X c t) (ha : DPE T X a ta) (hb : DPE T X b tb) : DPE T X (.IfExp c a b pos) (dIf t ta tb) := by
  obtain ⟨u, h1, h2⟩ := ht.ex
  obtain ⟨ua, a1, a2⟩ := ha.ex
  obtain ⟨ub, b1, b2⟩ := hb.ex
  refine ⟨_, pe_ifExp h1 a1 b1, fun δ M Q σ F H R hs hh ht k => ?_⟩
  refine h2 δ M _ σ F H _ hs hh ht fun c F1 M1 H1 u1 g1 q1 => ?_
  cases c with
  | true =>
    rw [if_pos rfl]
    exact a2 δ M1 Q σ F1 H1 R (hs.mono u1.ex) g1 q1 fun v d F' M' H' u2 g2 i2 q2 => k v d F' M' H' (u1.trans u2) g2 i2 q2
  | false =>
    rw [if_neg Bool.false_ne_true]
    exact b2 δ M1 Q σ F1 H1 R (hs.mono u1.ex) g1 q1 fun v d F' M' H' u2 g2 i2 q2 => k v d F' M' H' (u1.trans u2) g2 i2 q2
/-- and, or of bools as a value -/
def dAndV (ta tb : DTE) : DTE := fun δ M Q => ta δ M fun x M1 => match x with
  | .bl true => tb δ M1 Q
  | .bl false => Q (.bl false) M1
  | _ => False
def dOrV (ta tb : DTE) : DTE := fun δ M Q => ta δ M fun x M1 => match x with
  | .bl true => Q (.bl true) M1
  | .bl false => tb δ M1 Q
  | _ => False
def dNotV (ta : DTE) : DTE := fun δ M Q => ta δ M fun x M1 => match x with
  | .bl k => Q (.bl (!k)) M1
  | _ => False
theorem q_and (ha : DPE T X a ta) (hb : DPE T X (.BoolOp .And (b :: rest) pos) tb) : DPE T X (.BoolOp .And (a :: b :: rest) pos) (dAndV ta tb) := by
  obtain ⟨ua, a1, a2⟩ := ha.ex
  obtain ⟨ub, b1, b2⟩ := hb.ex
  refine ⟨_, pe_and a1 b1, fun δ M Q σ F H R hs hh ht k => ?_⟩
  refine a2 δ M _ σ F H _ hs hh ht fun x dx F1 M1 H1 u1 h1 i1 q1 => ?_
  cases dx with
  | bl j =>
    simp only [Is] at i1
    refine ⟨j, i1, ?_⟩
    cases j with
    | true =>
      rw [if_pos rfl]
      exact b2 δ M1 Q σ F1 H1 R (hs.mono u1.ex) h1 q1 fun v d F' M' H' u2 g2 i2 q2 => k v d F' M' H' (u1.trans u2) g2 i2 q2
    | false =>
      rw [if_neg Bool.false_ne_true]
      exact k _ (.bl false) F1 M1 H1 u1 h1 (by simp only [Is]) q1
  | _ => exact q1.elim
theorem q_or (ha : DPE T X a ta) (hb : DPE T X (.BoolOp .Or (b :: rest) pos) tb) : DPE T X (.BoolOp .Or (a :: b :: rest) pos) (dOrV ta tb) := by
  obtain ⟨ua, a1, a2⟩ := ha.ex
  obtain ⟨ub, b1, b2⟩ := hb.ex
  refine ⟨_, pe_or a1 b1, fun δ M Q σ F H R hs hh ht k => ?_⟩
  refine a2 δ M _ σ F H _ hs hh ht fun x dx F1 M1 H1 u1 h1 i1 q1 => ?_
  cases dx with
  | bl j =>
    simp only [Is] at i1
    refine ⟨j, i1, ?_⟩
    cases j with
    | true =>
      rw [if_pos rfl]
      exact k _ (.bl true) F1 M1 H1 u1 h1 (by simp only [Is]) q1
    | false =>
      rw [if_neg Bool.false_ne_true]
      exact b2 δ M1 Q σ F1 H1 R (hs.mono u1.ex) h1 q1 fun v d F' M' H' u2 g2 i2 q2 => k v d F' M' H' (u1.trans u2) g2 i2 q2
  | _ => exact q1.elim
theorem q_one {op : BoolOp} (ha : DPE T X a ta) : DPE T X (.BoolOp op [a] pos) ta := by
  obtain ⟨ua, a1, a2⟩ := ha.ex
  exact ⟨_, pe_one a1, a2⟩
theorem q_not (ha : DPE T X a ta) : DPE T X (.UnaryOp .Not a pos) (dNotV ta) := by
  obtain ⟨ua, a1, a2⟩ := ha.ex
  refine ⟨_, pe_not a1, fun δ M Q σ F H R hs hh ht k => ?_⟩
  refine a2 δ M _ σ F H _ hs hh ht fun x dx F1 M1 H1 u1 h1 i1 q1 => ?_
  cases dx with
  | bl j => simp only [Is] at i1; exact ⟨j, i1, k _ (.bl (!j)) F1 M1 H1 u1 h1 (by simp only [Is]) q1⟩
  | _ => exact q1.elim

/-! ### arguments, displays -/
variable {tr : DTA}
def dNil : DTA := fun _ M Q => Q [] M
def dCons (ta : DTE) (tr : DTA) : DTA := fun δ M Q => ta δ M fun x M1 => tr δ M1 fun xs M2 => Q (x :: xs) M2
theorem a_nil : DPA T X [] dNil := ⟨_, pa_nil, fun δ M Q σ F H R hs hh ht k => k [] [] F M H .refl hh .nil ht⟩
theorem a_cons (ha : DPE T X e ta) (hr : DPA T X es tr) (hs : starEach (e :: es) X.env = (false, eval e X.env) :: starEach es X.env := by rfl) : DPA T X (e :: es) (dCons ta tr) := by
  obtain ⟨ua, a1, a2⟩ := ha.ex
  obtain ⟨ur, r1, r2⟩ := hr.ex
  refine ⟨_, pa_cons a1 r1 hs, fun δ M Q σ F H R hs hh ht k => ?_⟩
  refine a2 δ M _ σ F H _ hs hh ht fun x dx F1 M1 H1 u1 h1 i1 q1 => ?_
  exact r2 δ M1 _ σ F1 H1 _ (hs.mono u1.ex) h1 q1 fun vs ds F2 M2 H2 u2 h2 i2 q2 => k (x :: vs) (dx :: ds) F2 M2 H2 (u1.trans u2) h2 (.cons (Is.mono u2.ex _ _ i1) i2) q2
/-- a tuple; a list that will not change; one that may -/
def dTup (t : DTA) : DTE := fun δ M Q => t δ M fun xs M1 => xs.length ≤ 16777216 ∧ Q (.tup xs) M1
def dLst (t : DTA) : DTE := fun δ M Q => t δ M fun xs M1 => xs.length ≤ 16777216 ∧ Q (.lst xs) M1
def dNew (t : DTA) : DTE := fun δ M Q => t δ M fun xs M1 => xs.length ≤ 16777216 ∧ ∀ p, M1 p = none → Q (.ref p) (mup M1 p (.lst xs))
theorem q_tup {x1} (h : DPA T X es tr) : DPE T X (.Tuple es x1 pos) (dTup tr) := by
  obtain ⟨ur, r1, r2⟩ := h.ex
  refine ⟨_, pe_tup r1, fun δ M Q σ F H R hs hh ht k => ?_⟩
  refine r2 δ M _ σ F H _ hs hh ht fun vs ds F1 M1 H1 u1 h1 i1 q1 => ⟨by rw [i1.len, sizeLine_eq]; exact q1.1, fun p hp => ?_⟩
  obtain ⟨h2, u2⟩ := h1.newF (o := .tup vs) hp
  exact k (.ref p) (.tup ds) _ _ _ (u1.trans u2) h2 (by simp only [Is]; exact ⟨p, vs, rfl, upd_same, IsAll.mono u2.ex _ _ i1⟩) q1.2
theorem q_lst (h : DPA T X es tr) : DPE T X (.List es pos) (dLst tr) := by
  obtain ⟨ur, r1, r2⟩ := h.ex
  refine ⟨_, pe_lst r1, fun δ M Q σ F H R hs hh ht k => ?_⟩
  refine r2 δ M _ σ F H _ hs hh ht fun vs ds F1 M1 H1 u1 h1 i1 q1 => ⟨by rw [i1.len, sizeLine_eq]; exact q1.1, fun p hp => ?_⟩
  obtain ⟨h2, u2⟩ := h1.newF (o := .lst vs) hp
  exact k (.ref p) (.lst ds) _ _ _ (u1.trans u2) h2 (by simp only [Is]; exact ⟨p, vs, rfl, upd_same, IsAll.mono u2.ex _ _ i1⟩) q1.2
theorem q_new (h : DPA T X es tr) : DPE T X (.List es pos) (dNew tr) := by
  obtain ⟨ur, r1, r2⟩ := h.ex
  refine ⟨_, pe_lst r1, fun δ M Q σ F H R hs hh ht k => ?_⟩
  refine r2 δ M _ σ F H _ hs hh ht fun vs ds F1 M1 H1 u1 h1 i1 q1 => ⟨by rw [i1.len, sizeLine_eq]; exact q1.1, fun p hp => ?_⟩
  obtain ⟨f0, m0⟩ := h1.none_of hp
  obtain ⟨h2, u2⟩ := h1.newM (o := .lst vs) (m := .lst ds) hp ⟨vs, rfl, i1⟩
  exact k (.ref p) (.ref p) _ _ _ (u1.trans u2) h2 (by simp only [Is]) (q1.2 p m0)
/-- what is made new is from now on as it is -/
def dFz (t : DTE) : DTE := fun δ M Q => t δ M fun d M1 => match d with
  | .ref p => ∃ xs, M1 p = some (.lst xs) ∧ Q (.lst xs) (mdel M1 p)
  | _ => False
theorem q_fz (h : DPE T X e ta) : DPE T X e (dFz ta) := by
  obtain ⟨ua, a1, a2⟩ := h.ex
  refine ⟨_, a1, fun δ M Q σ F H R hs hh ht k => ?_⟩
  refine a2 δ M _ σ F H _ hs hh ht fun x dx F1 M1 H1 u1 h1 i1 q1 => ?_
  cases dx with
  | ref p =>
    simp only [Is] at i1
    subst i1
    obtain ⟨xs, e1, q1⟩ := q1
    obtain ⟨F2, h2, u2, i2⟩ := h1.freeze e1
    exact k _ (.lst xs) F2 _ H1 (u1.trans u2) h2 i2 q1
  | _ => exact q1.elim
end
end DL

namespace DL
open PySem PySem.Spec PyProof.Rows L2

/-! ### operators on ints -/
def kII (g : Int → Int → D) : DR2 := fun x y M Q => match x, y with
  | .int i, .int j => Q (g i j) M
  | _, _ => False
def kIC (C : Int → Int → Prop) (g : Int → Int → D) : DR2 := fun x y M Q => match x, y with
  | .int i, .int j => C i j ∧ Q (g i j) M
  | _, _ => False
def kI (g : Int → D) : DR1 := fun x M Q => match x with
  | .int i => Q (g i) M
  | _ => False
section
variable {T : List (Addr × Str)} {X : Cx}
theorem s_II {K : PySem.W.Frag} {g : Int → Int → D} {h : Int → Int → V} (e : ∀ i j F, Is K F (g i j) (h i j)) : S2 T K (rI0 h) (kII g) := fun x y dx dy M Q F H R hh ix iy hd k => by
  cases dx with
  | int i =>
    cases dy with
    | int j =>
      simp only [Is] at ix iy
      exact ⟨i, j, ix, iy, k _ (g i j) F M H .refl hh (e i j F) hd⟩
    | _ => exact hd.elim
  | _ => exact hd.elim
theorem s_IC {K : PySem.W.Frag} {C : Int → Int → Prop} {g : Int → Int → D} {h : Int → Int → V} (e : ∀ i j F, Is K F (g i j) (h i j)) : S2 T K (rI C h) (kIC C g) := fun x y dx dy M Q F H R hh ix iy hd k => by
  cases dx with
  | int i =>
    cases dy with
    | int j =>
      simp only [Is] at ix iy
      exact ⟨i, j, ix, iy, hd.1, k _ (g i j) F M H .refl hh (e i j F) hd.2⟩
    | _ => exact hd.elim
  | _ => exact hd.elim
theorem o_add : DOp T X (binaryOp .Add) (kII fun i j => .int (i + j)) := ⟨_, op_add, s_II fun i j F => by simp only [Is]⟩
theorem o_sub : DOp T X (binaryOp .Sub) (kII fun i j => .int (i - j)) := ⟨_, op_sub, s_II fun i j F => by simp only [Is]⟩
theorem o_mod : DOp T X (binaryOp .Mod) (kIC (fun _ j => 0 < j) fun i j => .int (i % j)) := ⟨_, op_mod, s_IC fun i j F => by simp only [Is]⟩
theorem o_lt : DOp T X (compareOp .Lt) (kII fun i j => .bl (decide (i < j))) := ⟨_, op_lt, s_II fun i j F => by simp only [Is]⟩
theorem o_le : DOp T X (compareOp .LtE) (kII fun i j => .bl (decide (i ≤ j))) := ⟨_, op_le, s_II fun i j F => by simp only [Is]⟩
theorem o_gt : DOp T X (compareOp .Gt) (kII fun i j => .bl (decide (j < i))) := ⟨_, op_gt, s_II fun i j F => by simp only [Is]⟩
theorem o_ge : DOp T X (compareOp .GtE) (kII fun i j => .bl (decide (j ≤ i))) := ⟨_, op_ge, s_II fun i j F => by simp only [Is]⟩
theorem u_neg : DUn T X (unaryOp .USub) (kI fun i => .int (-i)) := ⟨_, un_neg, fun x dx M Q F H R hh ix hd k => by
  cases dx with
  | int i => simp only [Is] at ix; exact ⟨i, ix, k _ (.int (-i)) F M H .refl hh (by simp only [Is]) hd⟩
  | _ => exact hd.elim⟩
/-- == of scalars -/
def scalD : D → D → Bool
  | .non, .non => true | .non, .int _ => true | .int _, .non => true | .non, .bl _ => true | .bl _, .non => true | .non, .str _ => true | .str _, .non => true
  | .int _, .int _ => true | .bl _, .bl _ => true | .str _, .str _ => true
  | .int _, .str _ => true | .str _, .int _ => true | .bl _, .str _ => true | .str _, .bl _ => true
  | _, _ => false
def eqD : D → D → Bool
  | .non, .non => true
  | .int i, .int j => decide (i = j)
  | .bl i, .bl j => decide (i = j)
  | .str i, .str j => decide (i = j)
  | _, _ => false
def kEq : DR2 := fun x y M Q => scalD x y = true ∧ Q (.bl (eqD x y)) M
def kNe : DR2 := fun x y M Q => scalD x y = true ∧ Q (.bl (!eqD x y)) M
theorem scal_of {K : PySem.W.Frag} {F : Hp} {dx dy : D} {x y : V} (ix : Is K F dx x) (iy : Is K F dy y) (h : scalD dx dy = true) : scal x y = true ∧ decide (x = y) = eqD dx dy := by
  cases dx with
  | non =>
    simp only [Is] at ix; subst ix
    cases dy with
    | non => simp only [Is] at iy; subst iy; exact ⟨rfl, rfl⟩
    | int j => simp only [Is] at iy; subst iy; exact ⟨rfl, rfl⟩
    | bl j => simp only [Is] at iy; subst iy; exact ⟨rfl, rfl⟩
    | str j => simp only [Is] at iy; subst iy; exact ⟨rfl, rfl⟩
    | _ => cases h
  | int i =>
    simp only [Is] at ix; subst ix
    cases dy with
    | non => simp only [Is] at iy; subst iy; exact ⟨rfl, rfl⟩
    | int j => simp only [Is] at iy; subst iy; exact ⟨rfl, by simp [eqD]⟩
    | str j => simp only [Is] at iy; subst iy; exact ⟨rfl, rfl⟩
    | _ => cases h
  | bl i =>
    simp only [Is] at ix; subst ix
    cases dy with
    | non => simp only [Is] at iy; subst iy; exact ⟨rfl, rfl⟩
    | bl j => simp only [Is] at iy; subst iy; exact ⟨rfl, by simp [eqD]⟩
    | str j => simp only [Is] at iy; subst iy; exact ⟨rfl, rfl⟩
    | _ => cases h
  | str i =>
    simp only [Is] at ix; subst ix
    cases dy with
    | non => simp only [Is] at iy; subst iy; exact ⟨rfl, rfl⟩
    | int j => simp only [Is] at iy; subst iy; exact ⟨rfl, rfl⟩
    | bl j => simp only [Is] at iy; subst iy; exact ⟨rfl, rfl⟩
    | str j => simp only [Is] at iy; subst iy; exact ⟨rfl, by simp [eqD]⟩
    | _ => cases h
  | _ => cases dy <;> cases h
theorem o_eq : DOp T X (compareOp .Eq) kEq := ⟨_, op_eq, fun x y dx dy M Q F H R hh ix iy hd k => by
  obtain ⟨h1, h2⟩ := scal_of ix iy hd.1
  exact ⟨h1, by rw [h2]; exact k _ (.bl (eqD dx dy)) F M H .refl hh (by simp only [Is]) hd.2⟩⟩
theorem o_ne : DOp T X (compareOp .NotEq) kNe := ⟨_, op_ne, fun x y dx dy M Q F H R hh ix iy hd k => by
  obtain ⟨h1, h2⟩ := scal_of ix iy hd.1
  exact ⟨h1, by rw [h2]; exact k _ (.bl (!eqD dx dy)) F M H .refl hh (by simp only [Is]) hd.2⟩⟩
/-- is None -/
def isNonD : D → Bool
  | .non => true
  | _ => false
theorem isNon_of {K : PySem.W.Frag} {F : Hp} {dx : D} {x : V} (ix : Is K F dx x) : decide (x = .non) = isNonD dx := by
  cases dx <;> simp only [Is] at ix <;> first
    | (subst ix; rfl)
    | (obtain ⟨a, vs, rfl, _⟩ := ix; rfl)
    | (obtain ⟨rfl, _⟩ := ix; rfl)
def kIsN : DR2 := fun x y M Q => match y with
  | .non => Q (.bl (isNonD x)) M
  | _ => False
def kNotN : DR2 := fun x y M Q => match y with
  | .non => Q (.bl (!isNonD x)) M
  | _ => False
theorem o_isN : DOp T X (compareOp .Is) kIsN := ⟨_, op_isN, fun x y dx dy M Q F H R hh ix iy hd k => by
  cases dy with
  | non => simp only [Is] at iy; exact ⟨iy, by rw [isNon_of ix]; exact k _ (.bl (isNonD dx)) F M H .refl hh (by simp only [Is]) hd⟩
  | _ => exact hd.elim⟩
theorem o_notN : DOp T X (compareOp .IsNot) kNotN := ⟨_, op_notN, fun x y dx dy M Q F H R hh ix iy hd k => by
  cases dy with
  | non => simp only [Is] at iy; exact ⟨iy, by rw [isNon_of ix]; exact k _ (.bl (!isNonD dx)) F M H .refl hh (by simp only [Is]) hd⟩
  | _ => exact hd.elim⟩
end

/-! ### statements -/
structure DEnds where
  nx : DSt → Mp → Prop
  rt : DQ
  bk : DSt → Mp → Prop := fun _ _ => False
  ct : DSt → Mp → Prop := fun _ _ => False
abbrev DTS := DEnds → DSt → Mp → Prop
/-- what follows, on the heap's side -/
structure Fol (T : List (Addr × Str)) (K : PySem.W.Frag) (F : Hp) (M : Mp) (H : Hp) (Z : DEnds) (E : Ends) : Prop where
  nx : ∀ σ δ F' M' H', Up F M H F' M' H' → Hd T K F' M' H' → Sl K F' δ σ → Z.nx δ M' → E.nx σ H'
  rt : ∀ v d F' M' H', Up F M H F' M' H' → Hd T K F' M' H' → Is K F' d v → Z.rt d M' → E.rt v H'
  bk : ∀ σ δ F' M' H', Up F M H F' M' H' → Hd T K F' M' H' → Sl K F' δ σ → Z.bk δ M' → E.bk σ H'
  ct : ∀ σ δ F' M' H', Up F M H F' M' H' → Hd T K F' M' H' → Sl K F' δ σ → Z.ct δ M' → E.ct σ H'
theorem Fol.up {K : PySem.W.Frag} {F F1 H H1 : Hp} {M M1 : Mp} {Z : DEnds} {E : Ends} (u : Up F M H F1 M1 H1) (f : Fol T K F M H Z E) : Fol T K F1 M1 H1 Z E :=
  ⟨fun σ δ F' M' H' v h s q => f.nx σ δ F' M' H' (u.trans v) h s q, fun x d F' M' H' v h s q => f.rt x d F' M' H' (u.trans v) h s q,
   fun σ δ F' M' H' v h s q => f.bk σ δ F' M' H' (u.trans v) h s q, fun σ δ F' M' H' v h s q => f.ct σ δ F' M' H' (u.trans v) h s q⟩
def DS (T : List (Addr × Str)) (K : PySem.W.Frag) (ts : TS) (t : DTS) : Prop := ∀ Z δ M σ F H E, Sl K F δ σ → Hd T K F M H → t Z δ M → Fol T K F M H Z E → ts E σ H
structure DPS (T : List (Addr × Str)) (X : Cx) (st : Stmt) (t : DTS) : Prop where
  ex : ∃ ts, PS X st ts ∧ DS T X.K ts t
structure DPSs (T : List (Addr × Str)) (X : Cx) (st : List Stmt) (t : DTS) : Prop where
  ex : ∃ ts, PSs X st ts ∧ DS T X.K ts t
section
variable {T : List (Addr × Str)} {X : Cx} {st : Stmt} {rest : List Stmt} {t u : DTS} {e c : Expr} {te : DTE} {pos : Pos}
def dNext : DTS := fun Z δ M => Z.nx δ M
def dSeq (t u : DTS) : DTS := fun Z δ M => t { Z with nx := u Z } δ M
theorem ss_nil : DPSs T X [] dNext := ⟨_, pss_nil, fun Z δ M σ F H E hs hh ht f => f.nx σ δ F M H .refl hh hs ht⟩
theorem ds_seq {K : PySem.W.Frag} {a b : TS} (ha : DS T K a t) (hb : DS T K b u) : DS T K (tSeq a b) (dSeq t u) := fun Z δ M σ F H E hs hh ht f =>
  ha { Z with nx := u Z } δ M σ F H { E with nx := b E } hs hh ht
    ⟨fun σ' δ' F' M' H' v h s q => hb Z δ' M' σ' F' H' E s h q (f.up v), f.rt, f.bk, f.ct⟩
theorem ss_cons (ha : DPS T X st t) (hb : DPSs T X rest u) : DPSs T X (st :: rest) (dSeq t u) := by
  obtain ⟨a, a1, a2⟩ := ha.ex
  obtain ⟨b, b1, b2⟩ := hb.ex
  exact ⟨_, pss_cons a1 b1, ds_seq a2 b2⟩
theorem ss_one (ha : DPS T X st t) : DPSs T X [st] t := by
  obtain ⟨a, a1, a2⟩ := ha.ex
  exact ⟨_, pss_one a1, a2⟩
theorem set_same {α : Type} : ∀ {l : List α} {i : Nat} {x : α}, l[i]? = some x → l.set i x = l
  | [], _, _, h => by simp at h
  | a :: l, 0, x, h => by
    rw [List.getElem?_cons_zero] at h
    cases h; rfl
  | a :: l, i + 1, x, h => by
    rw [List.getElem?_cons_succ] at h
    rw [List.set_cons_succ, set_same h]
/-- from here on the thing that the slot i names is as it is -/
def dFzS (i : Nat) (t : DTS) : DTS := fun Z δ M => match δ[i]? with
  | some (some (.ref p)) => ∃ xs, M p = some (.lst xs) ∧ t Z (δ.set i (some (.lst xs))) (mdel M p)
  | _ => False
theorem ss_fz (i : Nat) (h : DPSs T X rest u) : DPSs T X rest (dFzS i u) := by
  obtain ⟨b, b1, b2⟩ := h.ex
  refine ⟨_, b1, fun Z δ M σ F H E hs hh ht f => ?_⟩
  unfold dFzS at ht
  split at ht
  · rename_i p e
    obtain ⟨xs, e1, ht⟩ := ht
    obtain ⟨F2, h2, u2, i2⟩ := hh.freeze e1
    refine b2 Z _ _ σ F2 H E ?_ h2 ht (f.up u2)
    obtain ⟨v, e3, e4⟩ := hs.at_ i _ e
    have e5 : v = .ref p := by simp only [Is] at e4; exact e4
    subst e5
    have := (hs.mono u2.ex).set i i2
    have e6 : σ.set i (some (.ref p)) = σ := set_same e3
    rw [e6] at this
    exact this
  · exact ht.elim
def dBreak : DTS := fun Z δ M => Z.bk δ M
def dCont : DTS := fun Z δ M => Z.ct δ M
theorem s_pass : DPS T X (.Pass pos) dNext := ⟨_, ps_pass, fun Z δ M σ F H E hs hh ht f => f.nx σ δ F M H .refl hh hs ht⟩
theorem s_break : DPS T X (.Break pos) dBreak := ⟨_, ps_break, fun Z δ M σ F H E hs hh ht f => f.bk σ δ F M H .refl hh hs ht⟩
theorem s_continue : DPS T X (.Continue pos) dCont := ⟨_, ps_continue, fun Z δ M σ F H E hs hh ht f => f.ct σ δ F M H .refl hh hs ht⟩
def dDrop (te : DTE) : DTS := fun Z δ M => te δ M fun _ M1 => Z.nx δ M1
theorem s_expr (h : DPE T X e te) (hs : swapsWith e none pos.line X.env = pure false := by rfl) : DPS T X (.Expr e pos) (dDrop te) := by
  obtain ⟨a, a1, a2⟩ := h.ex
  exact ⟨_, ps_expr a1 hs, fun Z δ M σ F H E hs hh ht f => a2 δ M _ σ F H _ hs hh ht fun v d F' M' H' u h i q => f.nx σ δ F' M' H' u h (hs.mono u.ex) q⟩
def dRet (te : DTE) : DTS := fun Z δ M => te δ M Z.rt
theorem s_ret (h : DPE T X e te) : DPS T X (.Return (some e) pos) (dRet te) := by
  obtain ⟨a, a1, a2⟩ := h.ex
  exact ⟨_, ps_ret a1, fun Z δ M σ F H E hs hh ht f => a2 δ M _ σ F H _ hs hh ht fun v d F' M' H' u h i q => f.rt v d F' M' H' u h i q⟩
def dRetN : DTS := fun Z _ M => Z.rt .non M
theorem s_retN : DPS T X (.Return none pos) dRetN := ⟨_, ps_retN, fun Z δ M σ F H E hs hh ht f => f.rt .non .non F M H .refl hh (by simp only [Is]) ht⟩
def dIfS (c : DTT) (t u : DTS) : DTS := fun Z δ M => c δ M fun b M1 => match b with
  | true => t Z δ M1
  | false => u Z δ M1
theorem s_if {a b : List Stmt} {tc : DTT} (hc : DPT T X c tc) (ha : DPSs T X a t) (hb : DPSs T X b u) : DPS T X (.If c a b pos) (dIfS tc t u) := by
  obtain ⟨c', c1, c2⟩ := hc.ex
  obtain ⟨a', a1, a2⟩ := ha.ex
  obtain ⟨b', b1, b2⟩ := hb.ex
  refine ⟨_, ps_if c1 a1 b1, fun Z δ M σ F H E hs hh ht f => ?_⟩
  refine c2 δ M _ σ F H _ hs hh ht fun k F1 M1 H1 u1 h1 q1 => ?_
  cases k with
  | true => rw [if_pos rfl]; exact a2 Z δ M1 σ F1 H1 E (hs.mono u1.ex) h1 q1 (f.up u1)
  | false => rw [if_neg Bool.false_ne_true]; exact b2 Z δ M1 σ F1 H1 E (hs.mono u1.ex) h1 q1 (f.up u1)
def dNever : DTS := fun _ _ _ => False
theorem s_never : DPS T X st dNever := ⟨_, ps_never, fun _ _ _ _ _ _ _ _ _ ht _ => ht.elim⟩
theorem ss_never : DPSs T X rest dNever := ⟨_, pss_never, fun _ _ _ _ _ _ _ _ _ ht _ => ht.elim⟩

/-! ### targets -/
abbrev DTG := D → DSt → Mp → (DSt → Mp → Prop) → Prop
abbrev DTGs := List D → DSt → Mp → (DSt → Mp → Prop) → Prop
def DG (T : List (Addr × Str)) (K : PySem.W.Frag) (g : TG) (t : DTG) : Prop := ∀ v d δ M Q σ F H R, Sl K F δ σ → Hd T K F M H → Is K F d v → t d δ M Q →
  (∀ σ' δ' F' M' H', Up F M H F' M' H' → Hd T K F' M' H' → Sl K F' δ' σ' → Q δ' M' → R σ' H') → g v σ H R
def DGs (T : List (Addr × Str)) (K : PySem.W.Frag) (g : TGs) (t : DTGs) : Prop := ∀ vs ds δ M Q σ F H R, Sl K F δ σ → Hd T K F M H → IsAll K F ds vs → t ds δ M Q →
  (∀ σ' δ' F' M' H', Up F M H F' M' H' → Hd T K F' M' H' → Sl K F' δ' σ' → Q δ' M' → R σ' H') → g vs σ H R
structure DPG (T : List (Addr × Str)) (X : Cx) (tg : Expr) (t : DTG) : Prop where
  ex : ∃ g, PG X tg g ∧ DG T X.K g t
structure DPGs (T : List (Addr × Str)) (X : Cx) (tg : List Expr) (t : DTGs) : Prop where
  ex : ∃ g, PGs X tg g ∧ DGs T X.K g t
def eName (i : Nat) : DTG := fun d δ M Q => Q (δ.set i (some d)) M
theorem dg_name {K : PySem.W.Frag} (i : Nat) : DG T K (gName i) (eName i) := fun v d δ M Q σ F H R hs hh hi ht k => k _ _ F M H .refl hh (hs.set i hi) ht
theorem g_name {i : Nat} {x : Str} (hN : X.N.Nodup) (hi : X.N[i]? = some x) (hx : Loc X.env.scope x) (hf : X.fn x = true ∨ X.env.scope.names.lookup x = some .local := by first | exact .inl rfl | exact .inr rfl | assumption) : DPG T X (.Name x pos) (eName i) :=
  ⟨_, pg_name hN hi hx hf, dg_name i⟩
def eNil : DTGs := fun ds δ M Q => match ds with
  | [] => Q δ M
  | _ => False
def eCons (t : DTG) (u : DTGs) : DTGs := fun ds δ M Q => match ds with
  | d :: r => t d δ M fun δ1 M1 => u r δ1 M1 Q
  | _ => False
theorem gs_nil : DPGs T X [] eNil := ⟨_, pgs_nil, fun vs ds δ M Q σ F H R hs hh hi ht k => by
  cases ds with
  | nil => exact ⟨hi.nil_eq, k σ δ F M H .refl hh hs ht⟩
  | cons _ _ => exact ht.elim⟩
theorem gs_cons {es : List Expr} {tg : DTG} {tgs : DTGs} (h1 : DPG T X e tg) (h2 : DPGs T X es tgs) (hs : (assignEach (e :: es) X.env).map (·.2) = assign e X.env :: (assignEach es X.env).map (·.2) := by rfl) : DPGs T X (e :: es) (eCons tg tgs) := by
  obtain ⟨a, a1, a2⟩ := h1.ex
  obtain ⟨b, b1, b2⟩ := h2.ex
  refine ⟨_, pgs_cons a1 b1 hs, fun vs ds δ M Q σ F H R hs hh hi ht k => ?_⟩
  cases ds with
  | nil => exact ht.elim
  | cons d r =>
    obtain ⟨v, vr, rfl, hv, hr⟩ := hi.uncons
    refine ⟨v, vr, rfl, a2 v d δ M _ σ F H _ hs hh hv ht fun σ1 δ1 F1 M1 H1 u1 h1 s1 q1 => ?_⟩
    exact b2 vr r δ1 M1 Q σ1 F1 H1 R s1 h1 (IsAll.mono u1.ex _ _ hr) q1 fun σ2 δ2 F2 M2 H2 u2 h2 s2 q2 => k σ2 δ2 F2 M2 H2 (u1.trans u2) h2 s2 q2
def eTup (n : Nat) (t : DTGs) : DTG := fun d δ M Q => match d with
  | .tup xs => xs.length = n ∧ t xs δ M Q
  | _ => False
theorem g_tup {es : List Expr} {k : Nat} {t : DTGs} {n : Nat} (hc : X.calm = true) (h : DPGs T X es t)
    (hn : (assignEach es X.env).length = n := by rfl) (hst : (assignEach es X.env).findIdx? (·.1) = none := by rfl) : DPG T X (.Tuple es k pos) (eTup n t) := by
  obtain ⟨a, a1, a2⟩ := h.ex
  refine ⟨_, pg_tup hc a1 hn hst, fun v d δ M Q σ F H R hs hh hi ht k => ?_⟩
  cases d with
  | tup xs =>
    simp only [Is] at hi
    obtain ⟨p, vs, e1, e2, e3⟩ := hi
    exact ⟨p, vs, e1, .inl (.inl (hh.fr _ _ e2)), by rw [e3.len]; exact ht.1, a2 vs xs δ M Q σ F H R hs hh e3 ht.2 k⟩
  | _ => exact ht.elim
def dAsg (te : DTE) (g : DTG) : DTS := fun Z δ M => te δ M fun d M1 => g d δ M1 Z.nx
theorem s_asg {tg : Expr} {g : DTG} (he : DPE T X e te) (hg : DPG T X tg g) (hs : swapsWithSole [tg] e pos.line X.env = pure false := by rfl) (hw : swappedStores [tg] e X.env = pure none := by rfl)
    (h1 : (assignEach [tg] X.env).map (·.2) = [assign tg X.env] := by rfl) : DPS T X (.Assign [tg] e pos) (dAsg te g) := by
  obtain ⟨a, a1, a2⟩ := he.ex
  obtain ⟨b, b1, b2⟩ := hg.ex
  refine ⟨_, ps_asg a1 b1 hs hw h1, fun Z δ M σ F H E hs hh ht f => ?_⟩
  refine a2 δ M _ σ F H _ hs hh ht fun v d F1 M1 H1 u1 h1 i1 q1 => ?_
  exact b2 v d δ M1 _ σ F1 H1 _ (hs.mono u1.ex) h1 i1 q1 fun σ' δ' F' M' H' u2 h2 s2 q2 => f.nx σ' δ' F' M' H' (u1.trans u2) h2 s2 q2
theorem s_set {i : Nat} {x : Str} {pos' : Pos} (hN : X.N.Nodup) (hi : X.N[i]? = some x) (hx : Loc X.env.scope x) (he : DPE T X e te) (hs : swapsWith e (some (.Name x pos')) pos.line X.env = pure false := by rfl) (hf : X.fn x = true ∨ X.env.scope.names.lookup x = some .local := by first | exact .inl rfl | exact .inr rfl | assumption) :
    DPS T X (.Assign [.Name x pos'] e pos) (dAsg te (eName i)) := by
  obtain ⟨a, a1, a2⟩ := he.ex
  refine ⟨_, ps_set hN hi hx a1 hs hf, fun Z δ M σ F H E hs hh ht f => ?_⟩
  refine a2 δ M _ σ F H _ hs hh ht fun v d F1 M1 H1 u1 h1 i1 q1 => ?_
  exact f.nx _ _ F1 M1 H1 u1 h1 ((hs.mono u1.ex).set i i1) q1
/-- a, b = x, y -/
def dPar (i j : Nat) (ta : DTA) : DTS := fun Z δ M => ta δ M fun ds M1 => match ds with
  | [d, e] => Z.nx ((δ.set i (some d)).set j (some e)) M1
  | _ => False
theorem s_par {i j : Nat} {x y : Str} {a b : Expr} {ta : DTA} {px py pt : Pos} {kt k2 pt2} (hc : X.calm = true) (hN : X.N.Nodup) (hi : X.N[i]? = some x) (hj : X.N[j]? = some y) (hij : i ≠ j)
    (hx : X.env.scope.names.lookup x = some .local) (hy : X.env.scope.names.lookup y = some .local) (ha : DPA T X [a, b] ta)
    (hw : swappedStores [.Tuple [.Name x px, .Name y py] kt pt] (.Tuple [a, b] k2 pt2) X.env = pure (some [x, y]))
    (hs : swapsWithSole [.Tuple [.Name x px, .Name y py] kt pt] (.Tuple [a, b] k2 pt2) pos.line X.env = pure false := by rfl) :
    DPS T X (.Assign [.Tuple [.Name x px, .Name y py] kt pt] (.Tuple [a, b] k2 pt2) pos) (dPar i j ta) := by
  obtain ⟨u, a1, a2⟩ := ha.ex
  refine ⟨_, ps_par hc hN hi hj hij hx hy a1 hw hs, fun Z δ M σ F H E hs hh ht f => ?_⟩
  refine a2 δ M _ σ F H _ hs hh ht fun vs ds F1 M1 H1 u1 h1 i1 q1 => ?_
  cases ds with
  | nil => exact q1.elim
  | cons d r =>
    cases r with
    | nil => exact q1.elim
    | cons d' r =>
      cases r with
      | cons _ _ => exact q1.elim
      | nil =>
        obtain ⟨v, vr, rfl, hv, hr⟩ := i1.uncons
        obtain ⟨v', vr', rfl, hv', hr'⟩ := hr.uncons
        obtain rfl := hr'.nil_eq
        exact ⟨v, v', rfl, f.nx _ _ F1 M1 H1 u1 h1 (((hs.mono u1.ex).set i hv).set j hv') q1⟩
/-- name op= e, ints -/
def dAug (i : Nat) (te : DTE) (g : Int → Int → D) : DTS := fun Z δ M => match δ[i]? with
  | some (some (.int x)) => te δ M fun d M1 => match d with
    | .int y => Z.nx (δ.set i (some (g x y))) M1
    | _ => False
  | _ => False
theorem s_aug {i : Nat} {x : Str} {op : Operator} {pos' : Pos} {fi : Int → Int → Int} (hN : X.N.Nodup) (hi : X.N[i]? = some x) (hx : Loc X.env.scope x) (he : DPE T X e te) (ho : PIp X op (ipI fi)) (hf : X.fn x = true ∨ X.env.scope.names.lookup x = some .local := by first | exact .inl rfl | exact .inr rfl | assumption) :
    DPS T X (.AugAssign (.Name x pos') op e pos) (dAug i te fun a b => .int (fi a b)) := by
  obtain ⟨a, a1, a2⟩ := he.ex
  refine ⟨_, ps_aug hN hi hx a1 ho hf, fun Z δ M σ F H E hs hh ht f => ?_⟩
  unfold dAug at ht
  split at ht
  · rename_i n e0
    obtain ⟨v, e1, e2⟩ := hs.at_ i _ e0
    simp only [Is] at e2
    subst e2
    refine ⟨_, e1, a2 δ M _ σ F H _ hs hh ht fun w d F1 M1 H1 u1 h1 i1 q1 => ?_⟩
    cases d with
    | int m =>
      simp only [Is] at i1
      exact ⟨n, m, rfl, i1, f.nx _ _ F1 M1 H1 u1 h1 ((hs.mono u1.ex).set i (d := .int (fi n m)) (by simp only [Is])) q1⟩
    | _ => exact q1.elim
  · exact ht.elim
end
end DL

namespace DL
open PySem PySem.Spec PyProof.Rows L2

/-! ### while -/
def dWhile (c : DTT) (tb : DTS) : DTS := fun Z δ M => ∃ I : Nat → DSt → Mp → Prop, (∃ m, I m δ M) ∧ ∀ m δ M, I m δ M →
  c δ M fun b M1 => match b with
    | true => tb { Z with nx := fun δ' M' => ∃ m', m' < m ∧ I m' δ' M', ct := fun δ' M' => ∃ m', m' < m ∧ I m' δ' M', bk := Z.nx } δ M1
    | false => Z.nx δ M1
/-- the invariant, on the heap's side -/
def Lp (T : List (Addr × Str)) (K : PySem.W.Frag) (F0 : Hp) (M0 : Mp) (H0 : Hp) (I : DSt → Mp → Prop) : L2.St → Hp → Prop := fun σ H =>
  ∃ δ F M, Up F0 M0 H0 F M H ∧ Hd T K F M H ∧ Sl K F δ σ ∧ I δ M
section
variable {T : List (Addr × Str)} {X : Cx} {c : Expr} {body : List Stmt} {tc : DTT} {tb : DTS} {pos : Pos}
theorem s_while (hp : PassesOwn (model X.prog X.w) X.A X.env X.xe) (hc : DPT T X c tc) (hb : DPSs T X body tb) : DPS T X (.While c body [] pos) (dWhile tc tb) := by
  obtain ⟨c', c1, c2⟩ := hc.ex
  obtain ⟨b', b1, b2⟩ := hb.ex
  refine ⟨_, ps_while hp c1 b1, fun Z δ M σ F H E hs hh ht f => ?_⟩
  obtain ⟨I, ⟨m0, i0⟩, step⟩ := ht
  refine ⟨fun m => Lp T X.K F M H (I m), ⟨m0, δ, F, M, .refl, hh, hs, i0⟩, ?_⟩
  rintro m σ1 H1 ⟨δ1, F1, M1, u1, h1, s1, i1⟩
  refine c2 δ1 M1 _ σ1 F1 H1 _ s1 h1 (step m δ1 M1 i1) fun b F2 M2 H2 u2 h2 q2 => ?_
  have u12 := u1.trans u2
  cases b with
  | true =>
    rw [if_pos rfl]
    refine ⟨Lp T X.K F M H fun δ' M' => ∃ m', m' < m ∧ I m' δ' M', fun σ' H' z => ?_, ?_⟩
    · obtain ⟨δ', F', M', v, h', s', m', hm, i'⟩ := z
      exact ⟨m', hm, δ', F', M', v, h', s', i'⟩
    · exact b2 _ δ1 M2 σ1 F2 H2 _ (s1.mono u2.ex) h2 q2
        ⟨fun σ' δ' F' M' H' v h' s' q => ⟨δ', F', M', u12.trans v, h', s', q⟩, fun v d F' M' H' w h' i' q => f.rt v d F' M' H' (u12.trans w) h' i' q,
         fun σ' δ' F' M' H' v h' s' q => f.nx σ' δ' F' M' H' (u12.trans v) h' s' q, fun σ' δ' F' M' H' v h' s' q => ⟨δ', F', M', u12.trans v, h', s', q⟩⟩
  | false =>
    rw [if_neg Bool.false_ne_true]
    exact f.nx σ1 δ1 F2 M2 H2 u12 h2 (s1.mono u2.ex) q2
end

/-! ### what is walked -/
abbrev DTI := DSt → Mp → (List D → Mp → Prop) → Prop
/-- J walks xs -/
def Wk (T : List (Addr × Str)) (K : PySem.W.Frag) (J : It) (xs : List D) (F0 : Hp) : Prop := ∀ i F M H, Same F0 F → Hd T K F M H →
  (xs.length ≤ i → J.stop i H) ∧ ∀ x, xs[i]? = some x → J.go i H ∧ ∀ v H', J.yld i H v H' → ∃ F', Up F M H F' M H' ∧ Hd T K F' M H' ∧ Is K F' x v
def DI (T : List (Addr × Str)) (K : PySem.W.Frag) (wi : TI) (t : DTI) : Prop := ∀ δ M Q σ F H R, Sl K F δ σ → Hd T K F M H → t δ M Q →
  (∀ J xs F' M' H', Up F M H F' M' H' → Hd T K F' M' H' → Wk T K J xs F' → Q xs M' → R J H') → wi σ H R
structure DPI (T : List (Addr × Str)) (X : Cx) (tg e : Expr) (t : DTI) : Prop where
  ex : ∃ wi, PI X tg e wi ∧ DI T X.K wi t
theorem wk_list {K : PySem.W.Frag} {F0 : Hp} {a : Addr} {xs : List D} {vs : List V} (h : SqL K F0 a vs) (r : IsAll K F0 xs vs) : Wk T K (Itl K a) xs F0 := fun i F M H e hh => by
  have h2 : SqL K H a vs := (e.trans hh.fr).seq h
  have r2 := IsAll.mono e _ _ r
  refine ⟨fun hi => ⟨vs, h2, by rw [r.len]; exact hi⟩, fun x hx => ?_⟩
  obtain ⟨v, hv, iv⟩ := r2.get hx
  refine ⟨⟨vs, v, h2, hv⟩, fun u H' y => ?_⟩
  obtain ⟨rfl, y⟩ := y
  have := y vs h2
  rw [hv] at this
  cases this
  exact ⟨F, .refl, hh, iv⟩
def seqT (K : PySem.W.Frag) {F0 F : Hp} {a : Addr} {vs : List V} (e : Same F0 F) (h : F0 a = some (.tup vs)) : SqT K F a vs := .inl (.inl (e _ _ h))
theorem wk_tup {K : PySem.W.Frag} {F0 : Hp} {a : Addr} {xs : List D} {vs : List V} (h : F0 a = some (.tup vs)) (r : IsAll K F0 xs vs) : Wk T K (Itt K a) xs F0 := fun i F M H e hh => by
  have h2 : SqT K H a vs := seqT K (e.trans hh.fr) h
  have r2 := IsAll.mono e _ _ r
  refine ⟨fun hi => ⟨vs, h2, by rw [r.len]; exact hi⟩, fun x hx => ?_⟩
  obtain ⟨v, hv, iv⟩ := r2.get hx
  refine ⟨⟨vs, v, h2, hv⟩, fun u H' y => ?_⟩
  obtain ⟨rfl, y⟩ := y
  have := y vs h2
  rw [hv] at this
  cases this
  exact ⟨F, .refl, hh, iv⟩
/-- lo, lo + 1, .. -/
def rangeD (lo : Int) (n : Nat) : List D := (List.range n).map fun (i : Nat) => D.int (lo + (i : Int))
theorem rangeD_len (lo : Int) (n : Nat) : (rangeD lo n).length = n := by simp [rangeD]
theorem rangeD_get {lo : Int} {n i : Nat} {x : D} (h : (rangeD lo n)[i]? = some x) : i < n ∧ x = .int (lo + (i : Int)) := by
  unfold rangeD at h
  rw [List.getElem?_map] at h
  by_cases hi : i < n
  · rw [List.getElem?_range hi] at h
    exact ⟨hi, (Option.some.inj h).symm⟩
  · rw [List.getElem?_eq_none (by simp; omega)] at h
    cases h
theorem wk_range {K : PySem.W.Frag} {F0 : Hp} {lo : Int} {n : Nat} : Wk T K (Itr lo n) (rangeD lo n) F0 := fun i F M H e hh => by
  refine ⟨fun hi => by rw [rangeD_len] at hi; exact hi, fun x hx => ?_⟩
  obtain ⟨h1, rfl⟩ := rangeD_get hx
  refine ⟨h1, fun v H' y => ?_⟩
  obtain ⟨rfl, rfl⟩ := y
  exact ⟨F, .refl, hh, by simp only [Is]⟩
/-- (0, a), (1, b), .. -/
def enumD (xs : List D) : List D := xs.zipIdx.map fun p => .tup [.int (p.2 : Int), p.1]
theorem enumD_len (xs : List D) : (enumD xs).length = xs.length := by simp [enumD]
theorem enumD_get {xs : List D} {i : Nat} {x : D} (h : (enumD xs)[i]? = some x) : ∃ y, xs[i]? = some y ∧ x = .tup [.int (i : Int), y] := by
  unfold enumD at h
  rw [List.getElem?_map, List.getElem?_zipIdx] at h
  cases e : xs[i]? with
  | none => rw [e] at h; cases h
  | some y =>
    rw [e] at h
    refine ⟨y, rfl, ?_⟩
    have := (Option.some.inj h).symm
    rw [this]
    simp
theorem wk_enum {K : PySem.W.Frag} {F0 : Hp} {a : Addr} {xs : List D} {vs : List V} (h : SqL K F0 a vs) (r : IsAll K F0 xs vs) : Wk T K (Ite K a) (enumD xs) F0 := fun i F M H e hh => by
  have h2 : SqL K H a vs := (e.trans hh.fr).seq h
  have r2 := IsAll.mono e _ _ r
  refine ⟨fun hi => ⟨vs, h2, by rw [r.len]; rw [enumD_len] at hi; exact hi⟩, fun x hx => ?_⟩
  obtain ⟨y, hy, rfl⟩ := enumD_get hx
  obtain ⟨v, hv, iv⟩ := r2.get hy
  refine ⟨⟨vs, v, h2, hv⟩, fun u H' yl => ?_⟩
  obtain ⟨T, z, rfl, hT, rfl, hz⟩ := yl
  have := hz vs h2
  rw [hv] at this
  cases this
  obtain ⟨h3, u3⟩ := hh.newF (o := .tup [.int (i : Nat), v]) hT
  refine ⟨_, u3, h3, ?_⟩
  simp only [Is]
  exact ⟨T, _, rfl, upd_same, .cons (by simp only [Is]) (.cons (Is.mono u3.ex _ _ iv) .nil)⟩
def zipD (xs ys : List D) : List D := (xs.zip ys).map fun p => .tup [p.1, p.2]
theorem zipD_len (xs ys : List D) : (zipD xs ys).length = min xs.length ys.length := by simp [zipD]
theorem zipD_get {xs ys : List D} {i : Nat} {x : D} (h : (zipD xs ys)[i]? = some x) : ∃ y z, xs[i]? = some y ∧ ys[i]? = some z ∧ x = .tup [y, z] := by
  unfold zipD at h
  rw [List.getElem?_map] at h
  cases e : (xs.zip ys)[i]? with
  | none => rw [e] at h; cases h
  | some p =>
    rw [e] at h
    have e2 := (Option.some.inj h).symm
    have e3 := List.getElem?_zip_eq_some.mp e
    exact ⟨p.1, p.2, e3.1, e3.2, e2⟩
theorem wk_zip {K : PySem.W.Frag} {F0 : Hp} {a b : Addr} {xs ys : List D} {vs ws : List V} (h : SqL K F0 a vs) (r : IsAll K F0 xs vs) (h' : SqL K F0 b ws) (r' : IsAll K F0 ys ws) : Wk T K (L2.Itz K a b) (zipD xs ys) F0 := fun i F M H e hh => by
  have h2 : SqL K H a vs := (e.trans hh.fr).seq h
  have h3 : SqL K H b ws := (e.trans hh.fr).seq h'
  have r2 := IsAll.mono e _ _ r
  have r3 := IsAll.mono e _ _ r'
  refine ⟨fun hi => ⟨vs, ws, h2, h3, by rw [r.len, r'.len]; rw [zipD_len] at hi; omega⟩, fun x hx => ?_⟩
  obtain ⟨y, z, hy, hz, rfl⟩ := zipD_get hx
  obtain ⟨v, hv, iv⟩ := r2.get hy
  obtain ⟨v', hv', iv'⟩ := r3.get hz
  refine ⟨⟨vs, ws, v, v', h2, h3, hv, hv'⟩, fun u H' yl => ?_⟩
  obtain ⟨T, p, q, rfl, hT, rfl, hp, hq⟩ := yl
  have e1 := hp vs h2
  rw [hv] at e1
  cases e1
  have e2 := hq ws h3
  rw [hv'] at e2
  cases e2
  obtain ⟨h4, u4⟩ := hh.newF (o := .tup [v, v']) hT
  refine ⟨_, u4, h4, ?_⟩
  simp only [Is]
  exact ⟨T, _, rfl, upd_same, .cons (Is.mono u4.ex _ _ iv) (.cons (Is.mono u4.ex _ _ iv') .nil)⟩
/-- a list's items -/
def asL (d : D) (k : List D → Prop) : Prop := match d with
  | .lst xs => k xs
  | .lk xs => k xs
  | _ => False
theorem asL_of {K : PySem.W.Frag} {F : Hp} {d : D} {v : V} {k : List D → Prop} (h : Is K F d v) (q : asL d k) : ∃ a vs xs, v = .ref a ∧ SqL K F a vs ∧ IsAll K F xs vs ∧ k xs := by
  cases d with
  | lst xs =>
    simp only [Is] at h
    obtain ⟨a, vs, e1, e2, e3⟩ := h
    exact ⟨a, vs, xs, e1, .inl (.inl e2), e3, q⟩
  | lk xs =>
    simp only [Is] at h
    obtain ⟨a, vs, e1, e2, e3⟩ := h
    exact ⟨a, vs, xs, e1, e2, e3, q⟩
  | _ => exact q.elim
section
variable {T : List (Addr × Str)} {X : Cx} {tg e e2 : Expr} {te : DTE} {ta : DTA} {p pos tpos : Pos}
def iLst (te : DTE) : DTI := fun δ M Q => te δ M fun d M1 => asL d fun xs => Q xs M1
theorem i_lst (h : DPE T X e te) : DPI T X tg e (iLst te) := by
  obtain ⟨a, a1, a2⟩ := h.ex
  refine ⟨_, pi_list a1, fun δ M Q σ F H R hs hh ht k => ?_⟩
  refine a2 δ M _ σ F H _ hs hh ht fun v d F1 M1 H1 u1 h1 i1 q1 => ?_
  obtain ⟨p, vs, xs, rfl, hq, r, q1⟩ := asL_of i1 q1
  exact ⟨p, rfl, ⟨vs, h1.fr.seq hq⟩, k _ xs F1 M1 H1 u1 h1 (wk_list hq r) q1⟩
def iTupD (te : DTE) : DTI := fun δ M Q => te δ M fun d M1 => match d with
  | .tup xs => Q xs M1
  | _ => False
theorem i_tup (h : DPE T X e te) : DPI T X tg e (iTupD te) := by
  obtain ⟨a, a1, a2⟩ := h.ex
  refine ⟨_, pi_tup a1, fun δ M Q σ F H R hs hh ht k => ?_⟩
  refine a2 δ M _ σ F H _ hs hh ht fun v d F1 M1 H1 u1 h1 i1 q1 => ?_
  cases d with
  | tup xs =>
    simp only [Is] at i1
    obtain ⟨p, vs, rfl, hq, r⟩ := i1
    exact ⟨p, rfl, ⟨vs, .inl (.inl (h1.fr _ _ hq))⟩, k _ xs F1 M1 H1 u1 h1 (wk_tup hq r) q1⟩
  | _ => exact q1.elim
def iRg1 (ta : DTA) : DTI := fun δ M Q => ta δ M fun ds M1 => match ds with
  | [.int j] => (-(2 ^ 62) ≤ j ∧ j < 2 ^ 62) ∧ Q (rangeD 0 j.toNat) M1
  | _ => False
theorem i_range1 (hg : Gl X "range") (hm : X.mg "range" = none) (ha : DPA T X [e] ta) (hs : starEach [e] X.env = [(false, eval e X.env)] := by rfl) : DPI T X tg (.Call (.Name "range" p) [e] [] pos) (iRg1 ta) := by
  obtain ⟨a, a1, a2⟩ := ha.ex
  refine ⟨_, pi_range1 hg hm a1 hs, fun δ M Q σ F H R hs hh ht k => ?_⟩
  refine a2 δ M _ σ F H _ hs hh ht fun vs ds F1 M1 H1 u1 h1 i1 q1 => ?_
  unfold iRg1 at ht
  split at q1
  · rename_i j
    obtain ⟨v, r, rfl, hv, hr⟩ := i1.uncons
    obtain rfl := hr.nil_eq
    simp only [Is] at hv
    subst hv
    exact ⟨j, rfl, q1.1.1, q1.1.2, k _ _ F1 M1 H1 u1 h1 wk_range q1.2⟩
  · exact q1.elim
def iRg2 (ta : DTA) : DTI := fun δ M Q => ta δ M fun ds M1 => match ds with
  | [.int i, .int j] => (-(2 ^ 62) ≤ i ∧ i < 2 ^ 62 ∧ -(2 ^ 62) ≤ j ∧ j < 2 ^ 62) ∧ Q (rangeD i (j - i).toNat) M1
  | _ => False
theorem i_range2 (hg : Gl X "range") (hm : X.mg "range" = none) (ha : DPA T X [e, e2] ta) (hs : starEach [e, e2] X.env = [(false, eval e X.env), (false, eval e2 X.env)] := by rfl) (hs2 : starEach [e2] X.env = [(false, eval e2 X.env)] := by rfl) : DPI T X tg (.Call (.Name "range" p) [e, e2] [] pos) (iRg2 ta) := by
  obtain ⟨a, a1, a2⟩ := ha.ex
  refine ⟨_, pi_range2 hg hm a1 hs hs2, fun δ M Q σ F H R hs hh ht k => ?_⟩
  refine a2 δ M _ σ F H _ hs hh ht fun vs ds F1 M1 H1 u1 h1 i1 q1 => ?_
  split at q1
  · rename_i i j
    obtain ⟨v, r, rfl, hv, hr⟩ := i1.uncons
    obtain ⟨v', r', rfl, hv', hr'⟩ := hr.uncons
    obtain rfl := hr'.nil_eq
    simp only [Is] at hv hv'
    subst hv hv'
    exact ⟨i, j, rfl, q1.1, k _ _ F1 M1 H1 u1 h1 wk_range q1.2⟩
  · exact q1.elim
def iEnm (ta : DTA) : DTI := fun δ M Q => ta δ M fun ds M1 => match ds with
  | [d] => asL d fun xs => Q (enumD xs) M1
  | _ => False
theorem i_enum {elts : List Expr} {kk : Nat} (hg : Gl X "enumerate") (hm : X.mg "enumerate" = none) (ha : DPA T X [e] ta) (hs : starEach [e] X.env = [(false, eval e X.env)] := by rfl) : DPI T X (.Tuple elts kk tpos) (.Call (.Name "enumerate" p) [e] [] pos) (iEnm ta) := by
  obtain ⟨a, a1, a2⟩ := ha.ex
  refine ⟨_, pi_enum hg hm a1 hs, fun δ M Q σ F H R hs hh ht k => ?_⟩
  refine a2 δ M _ σ F H _ hs hh ht fun vs ds F1 M1 H1 u1 h1 i1 q1 => ?_
  split at q1
  · rename_i d
    obtain ⟨v, r, rfl, hv, hr⟩ := i1.uncons
    obtain rfl := hr.nil_eq
    obtain ⟨p, ws, xs, rfl, hq, r, q1⟩ := asL_of hv q1
    exact ⟨p, ws, rfl, h1.fr.seq hq, k _ _ F1 M1 H1 u1 h1 (wk_enum hq r) q1⟩
  · exact q1.elim
def iZp (ta : DTA) : DTI := fun δ M Q => ta δ M fun ds M1 => match ds with
  | [d, d'] => asL d fun xs => asL d' fun ys => Q (zipD xs ys) M1
  | _ => False
theorem i_zip {elts : List Expr} {kk : Nat} (hg : Gl X "zip") (hm : X.mg "zip" = none) (ha : DPA T X [e, e2] ta)
    (hs : starEach [e, e2] X.env = (false, eval e X.env) :: starEach [e2] X.env := by rfl) (hpl : (backTo pos (starEach [e2] X.env)).any (·.1) = false := by rfl) : DPI T X (.Tuple elts kk tpos) (.Call (.Name "zip" p) [e, e2] [] pos) (iZp ta) := by
  obtain ⟨a, a1, a2⟩ := ha.ex
  refine ⟨_, pi_zip hg hm a1 hs hpl, fun δ M Q σ F H R hs hh ht k => ?_⟩
  refine a2 δ M _ σ F H _ hs hh ht fun vs ds F1 M1 H1 u1 h1 i1 q1 => ?_
  split at q1
  · rename_i d d'
    obtain ⟨v, r, rfl, hv, hr⟩ := i1.uncons
    obtain ⟨v', r', rfl, hv', hr'⟩ := hr.uncons
    obtain rfl := hr'.nil_eq
    obtain ⟨p, ws, xs, rfl, hq, r, q1⟩ := asL_of hv q1
    obtain ⟨p', ws', ys, rfl, hq', r', q1⟩ := asL_of hv' q1
    exact ⟨p, p', ws, ws', rfl, h1.fr.seq hq, h1.fr.seq hq', k _ _ F1 M1 H1 u1 h1 (wk_zip hq r hq' r') q1⟩
  · exact q1.elim
end

/-! ### for -/
def dFor (wi : DTI) (g : DTG) (tb : DTS) : DTS := fun Z δ M => wi δ M fun xs M1 => ∃ I : Nat → DSt → Mp → Prop, I 0 δ M1 ∧
  (∀ i x δ M, xs[i]? = some x → I i δ M → g x δ M fun δ' M' => tb { Z with nx := I (i + 1), ct := I (i + 1), bk := Z.nx } δ' M') ∧ ∀ δ M, I xs.length δ M → Z.nx δ M
section
variable {T : List (Addr × Str)} {X : Cx} {tg iter : Expr} {body : List Stmt} {wi : DTI} {g : DTG} {tb : DTS} {pos : Pos}
theorem s_for (hp : PassesOwn (model X.prog X.w) X.A X.env X.xe) (hc : X.calm = true) (hi : DPI T X tg iter wi) (hg : DPG T X tg g) (hb : DPSs T X body tb)
    (hs : ∀ x, foldedSetIterable iter X.env x = pure x := by intro _; rfl) : DPS T X (.For tg iter body [] pos) (dFor wi g tb) := by
  obtain ⟨w', w1, w2⟩ := hi.ex
  obtain ⟨g', g1, g2⟩ := hg.ex
  obtain ⟨b', b1, b2⟩ := hb.ex
  refine ⟨_, ps_for hp hc w1 g1 b1 hs, fun Z δ M σ F H E hs hh ht f => ?_⟩
  refine w2 δ M _ σ F H _ hs hh ht fun J xs F1 M1 H1 u1 h1 wk q1 => ?_
  obtain ⟨I, i0, step, fin⟩ := q1
  refine ⟨fun i m σ H => m = xs.length - i ∧ i ≤ xs.length ∧ Lp T X.K F1 M1 H1 (I i) σ H, ⟨xs.length, by simp, Nat.zero_le _, δ, F1, M1, .refl, h1, hs.mono u1.ex, i0⟩, ?_⟩
  rintro i m σ2 H2 ⟨rfl, hi, δ2, F2, M2, u2, h2, s2, i2⟩
  obtain ⟨st, go⟩ := wk i F2 M2 H2 u2.ex h2
  have u12 := u1.trans u2
  by_cases hlt : i < xs.length
  · obtain ⟨x, hx⟩ : ∃ x, xs[i]? = some x := ⟨xs[i], List.getElem?_eq_getElem hlt⟩
    obtain ⟨g3, yl⟩ := go x hx
    refine .inr ⟨g3, Lp T X.K F1 M1 H1 (I (i + 1)), fun σ' H' z => ⟨xs.length - (i + 1), by omega, rfl, hlt, z⟩, fun v H' y => ?_⟩
    obtain ⟨F3, u3, h3, i3⟩ := yl v H' y
    have u23 := u2.trans u3
    refine g2 v x δ2 M2 _ σ2 F3 H' _ (s2.mono u3.ex) h3 i3 (step i x δ2 M2 hx i2) fun σ4 δ4 F4 M4 H4 u4 h4 s4 q4 => ?_
    have v4 := u23.trans u4
    have w4 := u1.trans v4
    exact b2 _ δ4 M4 σ4 F4 H4 _ s4 h4 q4
      ⟨fun σ' δ' F' M' H' v h' s' q => ⟨δ', F', M', v4.trans v, h', s', q⟩, fun v d F' M' H' w h' i' q => f.rt v d F' M' H' (w4.trans w) h' i' q,
       fun σ' δ' F' M' H' v h' s' q => f.nx σ' δ' F' M' H' (w4.trans v) h' s' q, fun σ' δ' F' M' H' v h' s' q => ⟨δ', F', M', v4.trans v, h', s', q⟩⟩
  · have e : i = xs.length := by omega
    subst e
    exact .inl ⟨st (Nat.le_refl _), f.nx σ2 δ2 F2 M2 H2 u12 h2 s2 (fin δ2 M2 i2)⟩
end

/-! ### list comprehensions -/
/-- the heap's side of a reading, as weak as can be -/
def canE (T : List (Addr × Str)) (K : PySem.W.Frag) (t : DTE) : TE := fun σ H R => ∃ δ M Q F, Sl K F δ σ ∧ Hd T K F M H ∧ t δ M Q ∧ ∀ v d F' M' H', Up F M H F' M' H' → Hd T K F' M' H' → Is K F' d v → Q d M' → R v H'
def canT (T : List (Addr × Str)) (K : PySem.W.Frag) (t : DTT) : TT := fun σ H R => ∃ δ M Q F, Sl K F δ σ ∧ Hd T K F M H ∧ t δ M Q ∧ ∀ b F' M' H', Up F M H F' M' H' → Hd T K F' M' H' → Q b M' → R b H'
theorem DPE.can {X : Cx} {e : Expr} {t : DTE} (h : DPE T X e t) : PE X e (canE T X.K t) := by
  obtain ⟨a, a1, a2⟩ := h.ex
  refine ⟨fun pins s σ H Q I hw => a1.run pins s σ H Q I ?_⟩
  obtain ⟨δ, M, Q', F, hs, hh, ht, k⟩ := hw
  exact a2 δ M Q' σ F H Q hs hh ht k
theorem DPT.can {X : Cx} {e : Expr} {t : DTT} (h : DPT T X e t) : PT X e (canT T X.K t) := by
  obtain ⟨a, a1, a2⟩ := h.ex
  refine ⟨fun pins s σ H Q I hw => a1.run pins s σ H Q I ?_⟩
  obtain ⟨δ, M, Q', F, hs, hh, ht, k⟩ := hw
  exact a2 δ M Q' σ F H Q hs hh ht k
def dwipe (δ : DSt) : List Nat → DSt
  | [] => δ
  | v :: vs => (dwipe δ vs).set v none
theorem Sl.wipe {K : PySem.W.Frag} {F : Hp} {δ : DSt} {σ : L2.St} (h : Sl K F δ σ) : ∀ vs : List Nat, Sl K F (dwipe δ vs) (L2.wipe σ vs)
  | [] => h
  | v :: vs => by
    have ih := Sl.wipe h vs
    refine ⟨by unfold dwipe L2.wipe; rw [List.length_set, List.length_set]; exact ih.len, fun i d q => ?_⟩
    unfold dwipe at q
    unfold L2.wipe
    by_cases e : v = i
    · subst e
      by_cases hv : v < (dwipe δ vs).length
      · rw [List.getElem?_set_self hv] at q; cases q
      · rw [List.getElem?_eq_none (by rw [List.length_set]; omega)] at q; cases q
    · rw [List.getElem?_set_ne e] at q ⊢
      exact ih.at_ i d q
/-- a target that stores into the slots vs alone -/
def OnlyS (g : TG) (vs : List Nat) : Prop := ∀ v σ H Q Q', (∀ σ' H', Q σ' H' → L2.wipe σ' vs = L2.wipe σ vs → Q' σ' H') → g v σ H Q → g v σ H Q'
theorem wipe_set {σ : L2.St} {i : Nat} {v : Option V} : ∀ {vs : List Nat}, i ∈ vs → L2.wipe (σ.set i v) vs = L2.wipe σ vs
  | [], h => by cases h
  | w :: vs, h => by
    unfold L2.wipe
    by_cases e : i ∈ vs
    · rw [wipe_set e]
    · have ew : w = i := by
        rcases List.mem_cons.mp h with z | z
        · exact z.symm
        · exact absurd z e
      subst ew
      have : ∀ ws : List Nat, w ∉ ws → L2.wipe (σ.set w v) ws = (L2.wipe σ ws).set w v := by
        intro ws
        induction ws with
        | nil => intro _; rfl
        | cons u us ih =>
          intro hu
          unfold L2.wipe
          rw [ih fun z => hu (List.mem_cons_of_mem _ z), List.set_comm _ _ (fun z => hu (by rw [z]; exact List.mem_cons_self))]
      rw [this vs e, List.set_set]
theorem only_name {i : Nat} {vs : List Nat} (h : i ∈ vs) : OnlyS (gName i) vs := fun v σ H Q Q' k q => k _ _ q (wipe_set h)
theorem wipe_sub {σ : L2.St} {vs : List Nat} : ∀ ws : List Nat, (∀ i ∈ ws, i ∈ vs) → L2.wipe (L2.wipe σ ws) vs = L2.wipe σ vs
  | [], _ => rfl
  | w :: ws, h => by
    show L2.wipe ((L2.wipe σ ws).set w none) vs = _
    rw [wipe_set (h w List.mem_cons_self)]
    exact wipe_sub ws fun i hi => h i (List.mem_cons_of_mem _ hi)
structure DPGo (T : List (Addr × Str)) (X : Cx) (tg : Expr) (g : TG) (vs : List Nat) (t : DTG) : Prop where
  pg : PG X tg g
  dg : DG T X.K g t
  on : OnlyS g vs
theorem go_name {X : Cx} {i : Nat} {x : Str} {pos : Pos} {vs : List Nat} (hN : X.N.Nodup) (hi : X.N[i]? = some x) (hx : Loc X.env.scope x) (hv : i ∈ vs) (hf : X.fn x = true ∨ X.env.scope.names.lookup x = some .local := by first | exact .inl rfl | exact .inr rfl | assumption) : DPGo T X (.Name x pos) (gName i) vs (eName i) :=
  ⟨pg_name hN hi hx hf, dg_name i, only_name hv⟩
/-- a pair of names -/
theorem go_pair {X : Cx} {i j : Nat} {x y : Str} {pos p1 p2 : Pos} {k : Nat} {vs : List Nat} (hc : X.calm = true) (hN : X.N.Nodup) (hi : X.N[i]? = some x) (hx : Loc X.env.scope x) (hj : X.N[j]? = some y) (hy : Loc X.env.scope y) (hv : i ∈ vs) (hw : j ∈ vs)
    (hf : X.fn x = true ∨ X.env.scope.names.lookup x = some .local := by first | exact .inl rfl | exact .inr rfl | assumption) (hf' : X.fn y = true ∨ X.env.scope.names.lookup y = some .local := by first | exact .inl rfl | exact .inr rfl | assumption)
    (h1 : (assignEach [Expr.Name x p1, Expr.Name y p2] X.env).map (·.2) = assign (Expr.Name x p1) X.env :: (assignEach [Expr.Name y p2] X.env).map (·.2) := by rfl) (h2 : (assignEach [Expr.Name y p2] X.env).map (·.2) = assign (Expr.Name y p2) X.env :: (assignEach [] X.env).map (·.2) := by rfl)
    (hn : (assignEach [Expr.Name x p1, Expr.Name y p2] X.env).length = 2 := by rfl) (hst : (assignEach [Expr.Name x p1, Expr.Name y p2] X.env).findIdx? (·.1) = none := by rfl) :
    DPGo T X (.Tuple [.Name x p1, .Name y p2] k pos) (gTup X.K 2 (gCons (gName i) (gCons (gName j) gNil))) vs (eTup 2 (eCons (eName i) (eCons (eName j) eNil))) := by
  refine ⟨pg_tup hc (pgs_cons (pg_name hN hi hx hf) (pgs_cons (pg_name hN hj hy hf') pgs_nil h2) h1) hn hst, ?_, ?_⟩
  · intro v d δ M Q σ F H R hs hh hd ht k
    cases d with
    | tup xs =>
      simp only [Is] at hd
      obtain ⟨p, vs', e1, e2, e3⟩ := hd
      obtain ⟨hl, ht⟩ := ht
      cases xs with
      | nil => exact ht.elim
      | cons a r =>
        cases r with
        | nil => exact ht.elim
        | cons b r =>
          cases r with
          | cons _ _ => exact ht.elim
          | nil =>
            obtain ⟨v1, r1, rfl, hv1, hr1⟩ := e3.uncons
            obtain ⟨v2, r2, rfl, hv2, hr2⟩ := hr1.uncons
            obtain rfl := hr2.nil_eq
            exact ⟨p, _, e1, .inl (.inl (hh.fr _ _ e2)), rfl, v1, _, rfl, v2, _, rfl, rfl, k _ _ F M H .refl hh ((hs.set i hv1).set j hv2) ht⟩
    | _ => exact ht.elim
  · intro v σ H Q Q' k q
    obtain ⟨a, xs, e1, e2, e3, v1, r1, e4, v2, r2, e5, e6, q⟩ := q
    exact ⟨a, xs, e1, e2, e3, v1, r1, e4, v2, r2, e5, e6, k _ _ q (by rw [wipe_set hw, wipe_set hv])⟩
structure DPTs (T : List (Addr × Str)) (X : Cx) (ifs : List Expr) (t : DTT) : Prop where
  pt : PTs X ifs (canT T X.K t)
def dYes : DTT := fun _ M Q => Q true M
theorem ts_nil {X : Cx} : DPTs T X [] dYes := ⟨⟨fun pins s σ H Q I h => by
  obtain ⟨δ, M, Q', F, hs, hh, ht, k⟩ := h
  exact pts_nil.run pins s σ H Q I (k true F M H .refl hh ht)⟩⟩
theorem ts_one {X : Cx} {c : Expr} {t : DTT} (h : DPT T X c t) : DPTs T X [c] t := ⟨pts_one h.can⟩
def dLc (wi : DTI) (g : DTG) (tt : DTT) (te : DTE) (vs : List Nat) : DTE := fun δ M Q => wi δ M fun xs M1 => xs.length ≤ 16777216 ∧ ∃ I : Nat → List D → Mp → Prop, I 0 [] M1 ∧
  (∀ i x acc M, xs[i]? = some x → I i acc M → acc.length ≤ i → g x (dwipe δ vs) M fun δ' M' => tt δ' M' fun b M3 => match b with
    | true => te δ' M3 fun y M4 => I (i + 1) (acc ++ [y]) M4
    | false => I (i + 1) acc M3) ∧ ∀ acc M, I xs.length acc M → Q (.lst acc) M
/-- the same, the list may change afterwards -/
def dLcN (wi : DTI) (g : DTG) (tt : DTT) (te : DTE) (vs : List Nat) : DTE := fun δ M Q => dLc wi g tt te vs δ M fun d M1 => match d with
  | .lst xs => ∀ p, M1 p = none → Q (.ref p) (mup M1 p (.lst xs))
  | _ => False
section
variable {T : List (Addr × Str)} {X : Cx} {elt tg iter : Expr} {ifs : List Expr} {scope : Scope} {own : List (Str × Nat)} {pos : Pos} {wi : DTI} {g' : TG} {g : DTG} {tt : DTT} {te : DTE}
/-- both ways: the list is as it is from then on, or it may change -/
theorem lc_run {K : PySem.W.Frag} {w' : TI} {vs : List Nat} (w2 : DI T K w' wi) (g2 : DG T K g' g) (g3 : OnlyS g' vs) {δ : DSt} {M : Mp} {σ : L2.St} {F H : Hp} {R : VK} {Q : List D → Mp → Prop} (hs : Sl K F δ σ) (hh : Hd T K F M H)
    (ht : wi δ M fun xs M1 => xs.length ≤ 16777216 ∧ ∃ I : Nat → List D → Mp → Prop, I 0 [] M1 ∧
        (∀ i x acc M, xs[i]? = some x → I i acc M → acc.length ≤ i → g x (dwipe δ vs) M fun δ' M' => tt δ' M' fun b M3 => match b with
          | true => te δ' M3 fun y M4 => I (i + 1) (acc ++ [y]) M4
          | false => I (i + 1) acc M3) ∧ ∀ acc M, I xs.length acc M → Q acc M)
    (k : ∀ L acc F1 M1 H1 F' M' H' ws, Up F M H F1 M1 H1 → Up F1 M1 H1 F' M' H' → Hd T K F' M' H' → H1 L = none → F' L = none → M' L = none → H' L = some (.lst ws) → IsAll K F' acc ws → Q acc M' → R (.ref L) H') :
    tLc w' g' (canT T K tt) (canE T K te) vs σ H R := by
  refine w2 δ M _ σ F H _ hs hh ht fun J xs F1 M1 H1 u1 h1 wk q1 => ?_
  obtain ⟨hsz, I, i0, step, fin⟩ := q1
  intro L hL
  obtain ⟨fL, mL⟩ := h1.none_of hL
  have noT : ∀ {ws : List V}, Pln (HO.lst ws) := And.intro (fun ps z => by cases z) (fun ps z => by cases z)
  have s1 : Sl K F1 (dwipe δ vs) (L2.wipe σ vs) := (hs.mono u1.ex).wipe vs
  refine ⟨fun i m H => m = xs.length - i ∧ i ≤ xs.length ∧ ∃ acc F M ws, Up F1 M1 H1 F M H ∧ Hd T K F M H ∧ F L = none ∧ M L = none ∧ H L = some (.lst ws) ∧ IsAll K F acc ws ∧ acc.length ≤ i ∧ I i acc M,
    ⟨xs.length, by simp, Nat.zero_le _, [], F1, M1, [], ?_, ?_, fL, mL, upd_same, .nil, Nat.le_refl _, i0⟩, ?_⟩
  · exact ⟨Same.refl _, fun a o ha _ fa ma => ⟨by rw [upd_ne (ne_of_none ha hL)]; exact ha, fa, ma⟩⟩
  · refine ⟨fun b o q => by rw [upd_ne (ne_of_none (h1.fr _ _ q) hL)]; exact h1.fr _ _ q, h1.ft, tabs_new hL h1.tb, fun a m q => ?_⟩
    obtain ⟨fa, o, ho, r⟩ := h1.mu a m q
    exact ⟨fa, o, by rw [upd_ne (ne_of_none ho hL)]; exact ho, r⟩
  · rintro i m H2 ⟨rfl, hi, acc, F2, M2, ws, u2, h2, fL2, mL2, eL2, r2, hacc, i2⟩
    obtain ⟨st, go⟩ := wk i F2 M2 H2 u2.ex h2
    by_cases hlt : i < xs.length
    · obtain ⟨x, hx⟩ : ∃ x, xs[i]? = some x := ⟨xs[i], List.getElem?_eq_getElem hlt⟩
      obtain ⟨g4, yl⟩ := go x hx
      refine .inr ⟨g4, fun H => i + 1 ≤ xs.length ∧ ∃ acc F M ws, Up F1 M1 H1 F M H ∧ Hd T K F M H ∧ F L = none ∧ M L = none ∧ H L = some (.lst ws) ∧ IsAll K F acc ws ∧ acc.length ≤ i + 1 ∧ I (i + 1) acc M, fun H' z => ⟨xs.length - (i + 1), by omega, rfl, z⟩, fun v H3 y => ?_⟩
      obtain ⟨F3, u3, h3, i3⟩ := yl v H3 y
      obtain ⟨eL3, fL3, mL3⟩ := u3.ot L _ eL2 noT fL2 mL2
      refine g3 v (L2.wipe σ vs) H3 _ _ (fun σ' H' z ew => ⟨ew.trans (wipe_sub vs fun i hi => hi), z⟩) (g2 v x (dwipe δ vs) M2 _ (L2.wipe σ vs) F3 H3 _ (s1.mono (u2.trans u3).ex) h3 i3 (step i x acc M2 hx i2 hacc) fun σ4 δ4 F4 M4 H4 u4 h4 s4 q4 => ?_)
      obtain ⟨eL4, fL4, mL4⟩ := u4.ot L _ eL3 noT fL3 mL3
      refine ⟨δ4, M4, _, F4, s4, h4, q4, fun b F5 M5 H5 u5 h5 q5 => ?_⟩
      obtain ⟨eL5, fL5, mL5⟩ := u5.ot L _ eL4 noT fL4 mL4
      have u25 := ((u2.trans u3).trans u4).trans u5
      have ex25 := ((u3.trans u4).trans u5).ex
      cases b with
      | true =>
        rw [if_pos rfl]
        refine ⟨δ4, M5, _, F5, s4.mono u5.ex, h5, q5, fun w d F6 M6 H6 u6 h6 i6 q6 => ?_⟩
        obtain ⟨eL6, fL6, mL6⟩ := u6.ot L _ eL5 noT fL5 mL5
        have u26 := u25.trans u6
        have r6 : IsAll K F6 acc ws := IsAll.mono (ex25.trans u6.ex) _ _ r2
        refine ⟨ws, eL6, by rw [r2.len, sizeLine_eq]; omega, hlt, acc ++ [d], F6, M6, ws ++ [w], ⟨u26.ex, fun a o ha no fa ma => ?_⟩, ⟨fun a o q => ?_, h6.ft, tabs_put eL6 (fun ps z => by cases z) (fun ps z => by cases z) h6.tb, fun a m q => ?_⟩, fL6, mL6, upd_same, r6.append (.cons i6 .nil), by rw [List.length_append, List.length_singleton]; omega, q6⟩
        · obtain ⟨z1, z2, z3⟩ := u26.ot a o ha no fa ma
          exact ⟨by rw [upd_ne (ne_of_none ha hL)]; exact z1, z2, z3⟩
        · have hn : a ≠ L := by intro z; subst z; rw [fL6] at q; cases q
          rw [upd_ne hn]; exact h6.fr a o q
        · have hn : a ≠ L := mne q mL6
          obtain ⟨fa, o, ho, r⟩ := h6.mu a m q
          exact ⟨fa, o, by rw [upd_ne hn]; exact ho, r⟩
      | false =>
        rw [if_neg Bool.false_ne_true]
        exact ⟨hlt, acc, F5, M5, ws, u25, h5, fL5, mL5, eL5, IsAll.mono ex25 _ _ r2, by omega, q5⟩
    · have e : i = xs.length := by omega
      subst e
      exact .inl ⟨st (Nat.le_refl _), k L acc F1 M1 H1 F2 M2 H2 ws u1 u2 h2 hL fL2 mL2 eL2 r2 (fin acc M2 i2)⟩
theorem de_lc {K : PySem.W.Frag} {w' : TI} {vs : List Nat} (w2 : DI T K w' wi) (g2 : DG T K g' g) (g3 : OnlyS g' vs) : DE T K (tLc w' g' (canT T K tt) (canE T K te) vs) (dLc wi g tt te vs) := fun δ M Q σ F H R hs hh ht k => by
  refine lc_run w2 g2 g3 hs hh ht fun L acc F1 M1 H1 F' M' H' ws u1 u2 h2 hL fL mL eL r q => ?_
  have ex : Same F' (upd F' L (.lst ws)) := fun b u q => by rw [upd_ne (ne_of_none q fL)]; exact q
  refine k (.ref L) (.lst acc) (upd F' L (.lst ws)) M' H' (u1.trans ⟨u2.ex.trans ex, fun a o ha no fa ma => ?_⟩) ⟨fun b u q => ?_, fun a ps q => ?_, h2.tb, fun a m q => ?_⟩ ?_ q
  · obtain ⟨z1, z2, z3⟩ := u2.ot a o ha no fa ma
    exact ⟨z1, by rw [upd_ne (ne_of_none ha hL)]; exact z2, z3⟩
  · by_cases hb : b = L
    · subst hb; rw [upd_same] at q; rw [eL]; exact q
    · rw [upd_ne hb] at q; exact h2.fr b u q
  · by_cases hb : a = L
    · subst hb; rw [upd_same] at q; cases q
    · rw [upd_ne hb] at q; exact h2.ft a ps q
  · obtain ⟨fa, o, ho, rr⟩ := h2.mu a m q
    exact ⟨by rw [upd_ne (mne q mL)]; exact fa, o, ho, rr.mono ex⟩
  · simp only [Is]
    exact ⟨L, ws, rfl, upd_same, IsAll.mono ex _ _ r⟩
theorem de_lcN {K : PySem.W.Frag} {w' : TI} {vs : List Nat} (w2 : DI T K w' wi) (g2 : DG T K g' g) (g3 : OnlyS g' vs) : DE T K (tLc w' g' (canT T K tt) (canE T K te) vs) (dLcN wi g tt te vs) := fun δ M Q σ F H R hs hh ht k => by
  refine lc_run w2 g2 g3 hs hh ht fun L acc F1 M1 H1 F' M' H' ws u1 u2 h2 hL fL mL eL r q => ?_
  refine k (.ref L) (.ref L) F' (mup M' L (.lst acc)) H' (u1.trans ⟨u2.ex, fun a o ha no fa ma => ?_⟩) ⟨h2.fr, h2.ft, h2.tb, fun a m q => ?_⟩ (by simp only [Is]) (q L mL)
  · obtain ⟨z1, z2, z3⟩ := u2.ot a o ha no fa ma
    exact ⟨z1, z2, by rw [mup_ne (ne_of_none ha hL)]; exact z3⟩
  · by_cases hb : a = L
    · subst hb
      rw [mup_same] at q; cases q
      exact ⟨fL, _, eL, ws, rfl, r⟩
    · rw [mup_ne hb] at q
      exact h2.mu a m q
theorem q_lc (hc : X.calm = true) (hN : X.N.Nodup) (hi : DPI T X tg iter wi) (ok : BlkOk X.N X.env.scope scope own)
    (hg : ∀ (s : Shared) (H : Hp) (C : Addr) (cl : List (Str × Addr)) (fp : List Addr), DPGo T (X.blk s H scope (compEnvC scope cl C X.env) fp) tg g' (own.map (·.2)) g) (ht : ∀ (s : Shared) (H : Hp) (C : Addr) (cl : List (Str × Addr)) (fp : List Addr), DPTs T (X.blk s H scope (compEnvC scope cl C X.env) fp) ifs tt)
    (he : ∀ (s : Shared) (H : Hp) (C : Addr) (cl : List (Str × Addr)) (fp : List Addr), DPE T (X.blk s H scope (compEnvC scope cl C X.env) fp) elt te) (hs : ∀ x, foldedSetIterable iter X.env x = pure x := by intro _; rfl) :
    DPE T X (.ListComp elt [⟨tg, iter, ifs, 0⟩] scope pos) (dLc wi g tt te (own.map (·.2))) := by
  obtain ⟨w', w1, w2⟩ := hi.ex
  have z := hg X.s_0 X.H_0 0 [] []
  exact ⟨_, pe_lc (tt := canT T X.K tt) (te := canE T X.K te) hc hN w1 ok (fun s H C cl fp => (hg s H C cl fp).pg) (fun s H C cl fp => (ht s H C cl fp).pt) (fun s H C cl fp => (he s H C cl fp).can) hs, de_lc w2 z.dg z.on⟩
theorem q_lcN (hc : X.calm = true) (hN : X.N.Nodup) (hi : DPI T X tg iter wi) (ok : BlkOk X.N X.env.scope scope own)
    (hg : ∀ (s : Shared) (H : Hp) (C : Addr) (cl : List (Str × Addr)) (fp : List Addr), DPGo T (X.blk s H scope (compEnvC scope cl C X.env) fp) tg g' (own.map (·.2)) g) (ht : ∀ (s : Shared) (H : Hp) (C : Addr) (cl : List (Str × Addr)) (fp : List Addr), DPTs T (X.blk s H scope (compEnvC scope cl C X.env) fp) ifs tt)
    (he : ∀ (s : Shared) (H : Hp) (C : Addr) (cl : List (Str × Addr)) (fp : List Addr), DPE T (X.blk s H scope (compEnvC scope cl C X.env) fp) elt te) (hs : ∀ x, foldedSetIterable iter X.env x = pure x := by intro _; rfl) :
    DPE T X (.ListComp elt [⟨tg, iter, ifs, 0⟩] scope pos) (dLcN wi g tt te (own.map (·.2))) := by
  obtain ⟨w', w1, w2⟩ := hi.ex
  have z := hg X.s_0 X.H_0 0 [] []
  exact ⟨_, pe_lc (tt := canT T X.K tt) (te := canE T X.K te) hc hN w1 ok (fun s H C cl fp => (hg s H C cl fp).pg) (fun s H C cl fp => (ht s H C cl fp).pt) (fun s H C cl fp => (he s H C cl fp).can) hs, de_lcN w2 z.dg z.on⟩
/-- name = [..] on one line -/
theorem s_setLc {i : Nat} {y : Str} {py spos : Pos} (hc : X.calm = true) (hN : X.N.Nodup) (hy : X.N[i]? = some y) (hyl : X.env.scope.names.lookup y = some .local)
    (hsw : swapsWith (.ListComp elt [⟨tg, iter, ifs, 0⟩] scope pos) (some (.Name y py)) spos.line X.env = pure true) (hi : DPI T X tg iter wi) (ok : BlkOk X.N X.env.scope scope own)
    (hg : ∀ (s : Shared) (H : Hp) (C : Addr) (cl : List (Str × Addr)) (fp : List Addr), DPGo T (X.blk s H scope (compEnvC scope cl C X.env) fp) tg g' (own.map (·.2)) g) (ht : ∀ (s : Shared) (H : Hp) (C : Addr) (cl : List (Str × Addr)) (fp : List Addr), DPTs T (X.blk s H scope (compEnvC scope cl C X.env) fp) ifs tt)
    (he : ∀ (s : Shared) (H : Hp) (C : Addr) (cl : List (Str × Addr)) (fp : List Addr), DPE T (X.blk s H scope (compEnvC scope cl C X.env) fp) elt te) (hs : ∀ x, foldedSetIterable iter X.env x = pure x := by intro _; rfl) :
    DPS T X (.Assign [.Name y py] (.ListComp elt [⟨tg, iter, ifs, 0⟩] scope pos) spos) (dAsg (dLc wi g tt te (own.map (·.2))) (eName i)) := by
  obtain ⟨w', w1, w2⟩ := hi.ex
  have z := hg X.s_0 X.H_0 0 [] []
  refine ⟨_, ps_setLc (tt := canT T X.K tt) (te := canE T X.K te) hc hN hy hyl hsw w1 ok (fun s H C cl fp => (hg s H C cl fp).pg) (fun s H C cl fp => (ht s H C cl fp).pt) (fun s H C cl fp => (he s H C cl fp).can) hs, fun Z δ M σ F H E hs hh ht f => ?_⟩
  refine de_lc w2 z.dg z.on δ M _ σ F H _ hs hh ht fun v d F1 M1 H1 u1 h1 i1 q1 => ?_
  exact f.nx _ _ F1 M1 H1 u1 h1 ((hs.mono u1.ex).set i i1) q1
end

/-! ### calls of the text's defs -/
/-- a def's promise over data -/
def spD (T : List (Addr × Str)) (K : PySem.W.Frag) (d : DRA) : Sp := fun vs H Q _ => ∃ F M ds R, Hd T K F M H ∧ IsAll K F ds vs ∧ d ds M R ∧ ∀ v r F' M' H', Up F M H F' M' H' → Hd T K F' M' H' → Is K F' r v → R r M' → Q v H'
def dCall (d : DRA) (ta : DTA) : DTE := fun δ M Q => ta δ M fun ds M1 => d ds M1 Q
section
variable {T : List (Addr × Str)} {X : Cx} {k : Nat} {f : Addr} {fd : FuncData} {ps : List Str} {d : DRA} {x : Str} {p pos : Pos} {e : Expr} {es : List Expr} {ta tk : DTA} {CX : CXT} {E : XK}
theorem de_call {K : PySem.W.Frag} {u : TA} (h : DA T K u ta) : DE T K (tCall (spD T K d) [] E u) (dCall d ta) := fun δ M Q σ F H R hs hh ht k => by
  refine h δ M _ σ F H _ hs hh ht fun vs ds F1 M1 H1 u1 h1 i1 q1 => ?_
  rw [List.append_nil]
  exact ⟨F1, M1, ds, Q, h1, i1, q1, fun v r F' M' H' u2 h2 i2 q2 => k v r F' M' H' (u1.trans u2) h2 i2 q2⟩
theorem q_call (F : FnOk X.prog X.w X.K X.mg X.base CX0 k f fd ps (spD T X.K d)) (hr : Room k X.A) (hg : Gl X x) (hm : X.mg x = some (.ref f)) (hk : PySem.W.keepIn X.K (.ref f) = true) (hb : Binds X.K fd ps [])
    (ha : DPA T X (e :: es) ta) (hdb : (x == ("__debug__" : Str)) = false := by decide) (he : starEach (e :: es) X.env = (false, eval e X.env) :: starEach es X.env := by rfl) (hpl : (backTo pos (starEach es X.env)).any (·.1) = false := by rfl) :
    DPE T X (.Call (.Name x p) (e :: es) [] pos) (dCall d ta) := by
  obtain ⟨u, a1, a2⟩ := ha.ex
  exact ⟨_, pe_call F hr hg hm hk hb .nil pass0 a1 hdb he hpl, de_call a2⟩
theorem q_call0 (F : FnOk X.prog X.w X.K X.mg X.base CX0 k f fd ps (spD T X.K d)) (hr : Room k X.A) (hg : Gl X x) (hm : X.mg x = some (.ref f)) (hk : PySem.W.keepIn X.K (.ref f) = true) (hb : Binds X.K fd ps [])
    (hdb : (x == ("__debug__" : Str)) = false := by decide) : DPE T X (.Call (.Name x p) [] [] pos) (dCall d dNil) := by
  exact ⟨_, pe_call0 F hr hg hm hk hb .nil pass0 hdb, de_call fun δ M Q σ F H R hs hh ht k => k [] [] F M H .refl hh .nil ht⟩
end

/-! ### a def by its body -/
/-- the names' values at the entry -/
def dstart (N : List Str) (ds : List D) : DSt := ds.map some ++ List.replicate (N.length - ds.length) none
theorem sl_start {K : PySem.W.Frag} {F : Hp} {N : List Str} {ds : List D} {vs : List V} (h : IsAll K F ds vs) : Sl K F (dstart N ds) (L2.start N vs) := by
  refine ⟨by unfold dstart L2.start; simp [h.len], fun i d q => ?_⟩
  unfold dstart at q
  have hi : i < ds.length := by
    by_cases hi : i < ds.length
    · exact hi
    · rw [List.getElem?_append_right (by simpa using hi), List.getElem?_replicate] at q
      split at q <;> cases q
  rw [List.getElem?_append_left (by simpa using hi), List.getElem?_map] at q
  cases e : ds[i]? with
  | none => rw [e] at q; cases q
  | some y =>
    rw [e] at q
    cases q
    obtain ⟨v, e1, e2⟩ := h.get e
    refine ⟨v, ?_, e2⟩
    unfold L2.start
    rw [List.getElem?_append_left (by rw [List.length_map, h.len]; exact hi), List.getElem?_map, e1]
    rfl
section
variable {T : List (Addr × Str)} {P : Program} {w : World} {K : PySem.W.Frag} {mg : Str → Option Value} {base : Heap}
/-- THE RULE for a def that lets no exception out: its body as a term, and the term's reading over data -/
theorem okD {x qual : Str} {st : Stmt} {f : Addr} {fd : FuncData} {N ps : List Str} {k : Nat} {d : DRA} {t : DTS} (F : Fun K x qual st f fd) (S : FnScope N ps (defScope st)) (len : ∀ ds M R, d ds M R → ds.length = ps.length)
    (hbody : ∀ (cdv : Value) (A : Around) (outer : List Env) (s : Shared) (H : Hp) (E : XK), Room k (A.deeper (envOfC qual (defScope st) s.heap.objs.size f cdv)) → DPSs T (cxOf CX0 P w K mg base N qual (defScope st) f cdv A outer s H E).nox (defBody st) t)
    (sem : ∀ ds M R, d ds M R → t { nx := fun _ M' => R .non M', rt := R } (dstart N ds) M) : FnOk P w K mg base CX0 (k + 1) f fd ps (spD T K d) := by
  refine F.ok S (fun vs H Q E h => ?_) fun cdv A outer s H vs Q E hr h => ?_
  · obtain ⟨F, M, ds, R, _, i, q, _⟩ := h
    rw [i.len]; exact len ds M R q
  · obtain ⟨G, M, ds, R, hh, hi, q, k⟩ := h
    obtain ⟨ts, t1, t2⟩ := (hbody cdv A outer s H E hr).ex
    refine ⟨ts, t1, t2 _ (dstart N ds) M _ G H _ (sl_start hi) hh (sem ds M R q) ⟨fun σ δ F' M' H' u h s q => ?_, fun v d F' M' H' u h i q => k v d F' M' H' u h i q, fun _ _ _ _ _ _ _ _ q => q.elim, fun _ _ _ _ _ _ _ _ q => q.elim⟩⟩
    exact k .non .non F' M' H' u h (by simp only [Is]) q
end
end DL

namespace DL
open PySem PySem.Spec PyProof.Rows L2

/-! ### numbers -/
section
variable {T : List (Addr × Str)} {X : Cx}
/-- a product: one factor within 2^64, or both together below a million bits -/
def CMulD (i j : Int) : Prop := CMul i j ∨ CMulW i j
theorem o_mul : DOp T X (binaryOp .Mult) (kIC CMulD fun i j => .int (i * j)) := by
  refine ⟨_, (show OpR X (binaryOp .Mult) (rI CMulD fun i j => .int (i * j)) from opI fun i j _ _ _ _ _ hc q => ?_), s_IC fun i j F => by simp only [Is]⟩
  rcases hc with hc | hc
  · exact mul_int q hc.ok
  · exact mul_int q hc.ok
/-- a power of bounded size -/
def CPowD (i j : Int) : Prop := 0 ≤ j ∧ (Builtin.Int.intBits i : Int) * j ≤ 2 ^ 27
theorem o_pow : DOp T X (binaryOp .Pow) (kIC CPowD fun i j => .int (i ^ j.toNat)) :=
  ⟨_, (show OpR X (binaryOp .Pow) (rI CPowD fun i j => .int (i ^ j.toNat)) from opI fun i j _ _ _ _ _ hc q => pow_int hc.1 hc.2 q), s_IC fun i j F => by simp only [Is]⟩
/-- // by a positive number below 2^30 -/
def CDivD (_ j : Int) : Prop := 0 < j ∧ j < 1073741824
theorem o_fdiv : DOp T X (binaryOp .FloorDiv) (kIC CDivD fun i j => .int (i / j)) := by
  refine ⟨_, (show OpR X (binaryOp .FloorDiv) (rI CDivD fun i j => .int (i / j)) from opI fun i j _ _ _ _ _ hc q => ?_), s_IC fun i j F => by simp only [Is]⟩
  refine floordiv_int (Int.ne_of_gt hc.1) ?_ (.inl (PyProof.noPylong_small ?_))
  · rw [Int.fdiv_eq_ediv_of_nonneg _ (Int.le_of_lt hc.1)]; exact q
  · have := hc.1; have := hc.2; omega
end

/-! ### a list's items, also of one that may change -/
def asM (M : Mp) (d : D) (k : List D → Prop) : Prop := match d with
  | .lst xs => k xs
  | .lk xs => k xs
  | .ref p => ∃ xs, M p = some (.lst xs) ∧ k xs
  | _ => False
theorem asM_of {T : List (Addr × Str)} {K : PySem.W.Frag} {F H : Hp} {M : Mp} {d : D} {v : V} {k : List D → Prop} (hh : Hd T K F M H) (h : Is K F d v) (q : asM M d k) : ∃ a vs xs, v = .ref a ∧ SqL K H a vs ∧ IsAll K F xs vs ∧ k xs := by
  cases d with
  | lst xs =>
    simp only [Is] at h
    obtain ⟨a, vs, e1, e2, e3⟩ := h
    exact ⟨a, vs, xs, e1, .inl (.inl (hh.fr _ _ e2)), e3, q⟩
  | lk xs =>
    simp only [Is] at h
    obtain ⟨a, vs, e1, e2, e3⟩ := h
    exact ⟨a, vs, xs, e1, hh.fr.seq e2, e3, q⟩
  | ref p =>
    simp only [Is] at h
    obtain ⟨xs, e, q⟩ := q
    obtain ⟨_, o, ho, vs, rfl, r⟩ := hh.mu p _ e
    exact ⟨p, vs, xs, h, .inl (.inl ho), r, q⟩
  | _ => exact q.elim
/-- .. also of a tuple -/
def asS (M : Mp) (d : D) (k : List D → Prop) : Prop := match d with
  | .tup xs => k xs
  | .lst xs => k xs
  | .lk xs => k xs
  | .ref p => ∃ xs, M p = some (.lst xs) ∧ k xs
  | _ => False
theorem asS_of {T : List (Addr × Str)} {K : PySem.W.Frag} {F H : Hp} {M : Mp} {d : D} {v : V} {k : List D → Prop} (hh : Hd T K F M H) (h : Is K F d v) (q : asS M d k) : ∃ a vs xs, v = .ref a ∧ (SqL K H a vs ∨ SqT K H a vs) ∧ IsAll K F xs vs ∧ k xs := by
  have z : ∀ {d : D}, Is K F d v → asM M d k → ∃ a vs xs, v = .ref a ∧ (SqL K H a vs ∨ SqT K H a vs) ∧ IsAll K F xs vs ∧ k xs := fun h q => by
    obtain ⟨a, vs, xs, e1, e2, e3, q⟩ := asM_of hh h q
    exact ⟨a, vs, xs, e1, .inl e2, e3, q⟩
  cases d with
  | tup xs =>
    simp only [Is] at h
    obtain ⟨a, vs, e1, e2, e3⟩ := h
    exact ⟨a, vs, xs, e1, .inr (.inl (.inl (hh.fr _ _ e2))), e3, q⟩
  | lst xs => exact z h q
  | lk xs => exact z h q
  | ref p => exact z h q
  | _ => exact q.elim
/-- .. of one that is tracked -/
def asW (M : Mp) (d : D) (k : List D → Prop) : Prop := match d with
  | .lst xs => k xs
  | .ref p => ∃ xs, M p = some (.lst xs) ∧ k xs
  | _ => False
theorem asW_of {T : List (Addr × Str)} {K : PySem.W.Frag} {F H : Hp} {M : Mp} {d : D} {v : V} {k : List D → Prop} (hh : Hd T K F M H) (h : Is K F d v) (q : asW M d k) : ∃ a vs xs, v = .ref a ∧ H a = some (.lst vs) ∧ IsAll K F xs vs ∧ k xs := by
  cases d with
  | lst xs =>
    simp only [Is] at h
    obtain ⟨a, vs, e1, e2, e3⟩ := h
    exact ⟨a, vs, xs, e1, hh.fr _ _ e2, e3, q⟩
  | ref p =>
    simp only [Is] at h
    obtain ⟨xs, e, q⟩ := q
    obtain ⟨_, o, ho, vs, rfl, r⟩ := hh.mu p _ e
    exact ⟨p, vs, xs, h, ho, r, q⟩
  | _ => exact q.elim
theorem atI_get {α : Type} {xs : List α} {i : Int} {x : α} (h : atI xs i = some x) : ∃ j, ixN xs.length i = some j ∧ xs[j]? = some x := by
  unfold atI at h
  cases e : ixN xs.length i with
  | none => rw [e] at h; cases h
  | some j => rw [e] at h; exact ⟨j, rfl, h⟩
theorem atI_all {K : PySem.W.Frag} {F : Hp} {xs : List D} {vs : List V} {i : Int} {x : D} (r : IsAll K F xs vs) (h : atI xs i = some x) : ∃ v, atI vs i = some v ∧ Is K F x v := by
  obtain ⟨j, e1, e2⟩ := atI_get h
  obtain ⟨v, e3, e4⟩ := r.get e2
  refine ⟨v, ?_, e4⟩
  unfold atI
  rw [r.len, e1]
  exact e3
section
variable {T : List (Addr × Str)} {X : Cx} {a b e : Expr} {es : List Expr} {ta tb te : DTE} {tr : DTA} {pos p : Pos}
/-! ### subscripts -/
def kIx : DR2 := fun x y M Q => match y with
  | .int i => asM M x fun xs => ∃ v, atI xs i = some v ∧ Q v M
  | _ => False
def kIxT : DR2 := fun x y M Q => match x, y with
  | .tup xs, .int i => ∃ v, atI xs i = some v ∧ Q v M
  | _, _ => False
theorem q_ix (ha : DPE T X a ta) (hb : DPE T X b tb) (hs : PlainIx b := by exact fun _ _ => rfl) : DPE T X (.Subscript a b pos) (dOp kIx ta tb) := by
  obtain ⟨ua, a1, a2⟩ := ha.ex
  obtain ⟨ub, b1, b2⟩ := hb.ex
  refine ⟨_, pe_ix ix_list a1 b1 hs, de_op (fun x y dx dy M Q F H R hh ix iy hd k => ?_) a2 b2⟩
  cases dy with
  | int i =>
    simp only [Is] at iy
    obtain ⟨l, vs, xs, rfl, hl, r, d, e1, q⟩ := asM_of hh ix hd
    obtain ⟨v, e2, i2⟩ := atI_all r e1
    exact ⟨l, vs, i, v, rfl, iy, hl, e2, k v d F M H .refl hh i2 q⟩
  | _ => exact hd.elim
theorem q_ixT (ha : DPE T X a ta) (hb : DPE T X b tb) (hs : PlainIx b := by exact fun _ _ => rfl) : DPE T X (.Subscript a b pos) (dOp kIxT ta tb) := by
  obtain ⟨ua, a1, a2⟩ := ha.ex
  obtain ⟨ub, b1, b2⟩ := hb.ex
  refine ⟨_, pe_ix ix_tup a1 b1 hs, de_op (fun x y dx dy M Q F H R hh ix iy hd k => ?_) a2 b2⟩
  cases dx with
  | tup xs =>
    cases dy with
    | int i =>
      simp only [Is] at ix iy
      obtain ⟨l, vs, rfl, hl, r⟩ := ix
      obtain ⟨d, e1, q⟩ := hd
      obtain ⟨v, e2, i2⟩ := atI_all r e1
      exact ⟨l, vs, i, v, rfl, iy, .inl (.inl (hh.fr _ _ hl)), e2, k v d F M H .refl hh i2 q⟩
    | _ => exact hd.elim
  | _ => cases dy <;> exact hd.elim
/-! ### slices -/
abbrev DTO := DSt → Mp → (Option Int → Mp → Prop) → Prop
structure DPO (T : List (Addr × Str)) (X : Cx) (e : Option Expr) (t : DTO) : Prop where
  ex : ∃ u, PO X e u ∧ ∀ δ M Q σ F H R, Sl X.K F δ σ → Hd T X.K F M H → t δ M Q → (∀ o F' M' H', Up F M H F' M' H' → Hd T X.K F' M' H' → Q o M' → R o H') → u σ H R
def dNoPart : DTO := fun _ M Q => Q none M
def dPart (t : DTE) : DTO := fun δ M Q => t δ M fun d M1 => match d with
  | .int i => Q (some i) M1
  | _ => False
theorem p_none : DPO T X none dNoPart := ⟨_, po_none, fun δ M Q σ F H R hs hh ht k => k none F M H .refl hh ht⟩
theorem p_some (h : DPE T X e te) : DPO T X (some e) (dPart te) := by
  obtain ⟨u, a1, a2⟩ := h.ex
  refine ⟨_, po_some a1, fun δ M Q σ F H R hs hh ht k => ?_⟩
  refine a2 δ M _ σ F H _ hs hh ht fun v d F1 M1 H1 u1 h1 i1 q1 => ?_
  cases d with
  | int i => simp only [Is] at i1; exact ⟨i, i1, k (some i) F1 M1 H1 u1 h1 q1⟩
  | _ => exact q1.elim
def cutD (xs : List D) (lo hi : Option Int) : List D := (xs.drop (HT.sIx xs.length 0 lo)).take (HT.sIx xs.length xs.length hi - HT.sIx xs.length 0 lo)
theorem cutD_all {K : PySem.W.Frag} {F : Hp} {xs : List D} {vs : List V} (r : IsAll K F xs vs) (lo hi : Option Int) : IsAll K F (cutD xs lo hi) (cutV vs lo hi) := by
  unfold cutD cutV
  rw [r.len]
  exact (r.drop _).take _
/-- a slice: a new list -/
def dSl (te : DTE) (tl th : DTO) : DTE := fun δ M Q => te δ M fun x M1 => tl δ M1 fun l M2 => th δ M2 fun h M3 => asM M3 x fun xs => Q (.lst (cutD xs l h)) M3
def dSlN (te : DTE) (tl th : DTO) : DTE := fun δ M Q => te δ M fun x M1 => tl δ M1 fun l M2 => th δ M2 fun h M3 => asM M3 x fun xs => ∀ q, M3 q = none → Q (.ref q) (mup M3 q (.lst (cutD xs l h)))
variable {lo hi : Option Expr} {tl th : DTO} {p2 : Pos}
theorem q_sl (he : DPE T X e te) (hl : DPO T X lo tl) (hu : DPO T X hi th) : DPE T X (.Subscript e (.Slice lo hi none p2) pos) (dSl te tl th) := by
  obtain ⟨u, a1, a2⟩ := he.ex
  obtain ⟨ul, l1, l2⟩ := hl.ex
  obtain ⟨uh, h1, h2⟩ := hu.ex
  refine ⟨_, pe_slice sl_list a1 l1 h1, fun δ M Q σ F H R hs hh ht k => ?_⟩
  refine a2 δ M _ σ F H _ hs hh ht fun v d F1 M1 H1 u1 g1 i1 q1 => ?_
  refine l2 δ M1 _ σ F1 H1 _ (hs.mono u1.ex) g1 q1 fun o F2 M2 H2 u2 g2 q2 => ?_
  refine h2 δ M2 _ σ F2 H2 _ (hs.mono (u1.trans u2).ex) g2 q2 fun o' F3 M3 H3 u3 g3 q3 => ?_
  obtain ⟨l, vs, xs, rfl, hq, r, q⟩ := asM_of g3 (Is.mono (u2.trans u3).ex _ _ i1) q3
  refine ⟨l, vs, rfl, hq, fun n hn => ?_⟩
  obtain ⟨g4, u4⟩ := g3.newF (o := .lst (cutV vs o o')) hn
  exact k _ (.lst (cutD xs o o')) _ _ _ (((u1.trans u2).trans u3).trans u4) g4 (by simp only [Is]; exact ⟨n, _, rfl, upd_same, IsAll.mono u4.ex _ _ (cutD_all r o o')⟩) q
theorem q_slN (he : DPE T X e te) (hl : DPO T X lo tl) (hu : DPO T X hi th) : DPE T X (.Subscript e (.Slice lo hi none p2) pos) (dSlN te tl th) := by
  obtain ⟨u, a1, a2⟩ := he.ex
  obtain ⟨ul, l1, l2⟩ := hl.ex
  obtain ⟨uh, h1, h2⟩ := hu.ex
  refine ⟨_, pe_slice sl_list a1 l1 h1, fun δ M Q σ F H R hs hh ht k => ?_⟩
  refine a2 δ M _ σ F H _ hs hh ht fun v d F1 M1 H1 u1 g1 i1 q1 => ?_
  refine l2 δ M1 _ σ F1 H1 _ (hs.mono u1.ex) g1 q1 fun o F2 M2 H2 u2 g2 q2 => ?_
  refine h2 δ M2 _ σ F2 H2 _ (hs.mono (u1.trans u2).ex) g2 q2 fun o' F3 M3 H3 u3 g3 q3 => ?_
  obtain ⟨l, vs, xs, rfl, hq, r, q⟩ := asM_of g3 (Is.mono (u2.trans u3).ex _ _ i1) q3
  refine ⟨l, vs, rfl, hq, fun n hn => ?_⟩
  obtain ⟨_, m0⟩ := g3.none_of hn
  obtain ⟨g4, u4⟩ := g3.newM (o := .lst (cutV vs o o')) (m := .lst (cutD xs o o')) hn ⟨_, rfl, cutD_all r o o'⟩
  exact k _ (.ref n) _ _ _ (((u1.trans u2).trans u3).trans u4) g4 (by simp only [Is]) (q n m0)
/-! ### lists: + and *, what is in -/
def kCat : DR2 := fun x y M Q => asW M x fun xs => asW M y fun ys => xs.length + ys.length ≤ 16777216 ∧ Q (.lst (xs ++ ys)) M
def kCatN : DR2 := fun x y M Q => asW M x fun xs => asW M y fun ys => xs.length + ys.length ≤ 16777216 ∧ ∀ q, M q = none → Q (.ref q) (mup M q (.lst (xs ++ ys)))
theorem o_cat : DOp T X (binaryOp .Add) kCat := ⟨_, op_cat, fun x y dx dy M Q F H R hh ix iy hd k => by
  obtain ⟨l, vs, xs, rfl, hl, r, hd⟩ := asW_of hh ix hd
  obtain ⟨l', ws, ys, rfl, hl', r', hd⟩ := asW_of hh iy hd
  refine ⟨l, l', vs, ws, rfl, rfl, hl, hl', by rw [r.len, r'.len, sizeLine_eq]; exact hd.1, fun n hn => ?_⟩
  obtain ⟨g4, u4⟩ := hh.newF (o := .lst (vs ++ ws)) hn
  exact k _ (.lst (xs ++ ys)) _ _ _ u4 g4 (by simp only [Is]; exact ⟨n, _, rfl, upd_same, IsAll.mono u4.ex _ _ (r.append r')⟩) hd.2⟩
theorem o_catN : DOp T X (binaryOp .Add) kCatN := ⟨_, op_cat, fun x y dx dy M Q F H R hh ix iy hd k => by
  obtain ⟨l, vs, xs, rfl, hl, r, hd⟩ := asW_of hh ix hd
  obtain ⟨l', ws, ys, rfl, hl', r', hd⟩ := asW_of hh iy hd
  refine ⟨l, l', vs, ws, rfl, rfl, hl, hl', by rw [r.len, r'.len, sizeLine_eq]; exact hd.1, fun n hn => ?_⟩
  obtain ⟨_, m0⟩ := hh.none_of hn
  obtain ⟨g4, u4⟩ := hh.newM (o := .lst (vs ++ ws)) (m := .lst (xs ++ ys)) hn ⟨_, rfl, r.append r'⟩
  exact k _ (.ref n) _ _ _ u4 g4 (by simp only [Is]) (hd.2 n m0)⟩
theorem IsAll.rep {K : PySem.W.Frag} {F : Hp} {xs : List D} {vs : List V} (r : IsAll K F xs vs) : ∀ n : Nat, IsAll K F (List.replicate n xs).flatten (List.replicate n vs).flatten
  | 0 => .nil
  | n + 1 => by
    rw [List.replicate_succ, List.replicate_succ, List.flatten_cons, List.flatten_cons]
    exact r.append (IsAll.rep r n)
def repD (xs : List D) (k : Int) : List D := (List.replicate k.toNat xs).flatten
def CRep (xs : List D) (k : Int) : Prop := (-(2 ^ 63) ≤ k ∧ k < 2 ^ 63) ∧ xs.length * k.toNat ≤ 16777216
def kRep : DR2 := fun x y M Q => match y with
  | .int k => asW M x fun xs => CRep xs k ∧ Q (.lst (repD xs k)) M
  | _ => False
def kRepN : DR2 := fun x y M Q => match y with
  | .int k => asW M x fun xs => CRep xs k ∧ ∀ q, M q = none → Q (.ref q) (mup M q (.lst (repD xs k)))
  | _ => False
theorem o_rep : DOp T X (binaryOp .Mult) kRep := ⟨_, op_rep, fun x y dx dy M Q F H R hh ix iy hd k => by
  cases dy with
  | int n =>
    simp only [Is] at iy
    obtain ⟨l, vs, xs, rfl, hl, r, hd⟩ := asW_of hh ix hd
    refine ⟨l, n, vs, rfl, iy, hl, hd.1.1.1, hd.1.1.2, by rw [r.len, sizeLine_eq]; exact hd.1.2, fun m hm => ?_⟩
    obtain ⟨g4, u4⟩ := hh.newF (o := .lst (List.replicate n.toNat vs).flatten) hm
    exact k _ (.lst (repD xs n)) _ _ _ u4 g4 (by simp only [Is]; exact ⟨m, _, rfl, upd_same, IsAll.mono u4.ex _ _ (r.rep _)⟩) hd.2
  | _ => exact hd.elim⟩
theorem o_repN : DOp T X (binaryOp .Mult) kRepN := ⟨_, op_rep, fun x y dx dy M Q F H R hh ix iy hd k => by
  cases dy with
  | int n =>
    simp only [Is] at iy
    obtain ⟨l, vs, xs, rfl, hl, r, hd⟩ := asW_of hh ix hd
    refine ⟨l, n, vs, rfl, iy, hl, hd.1.1.1, hd.1.1.2, by rw [r.len, sizeLine_eq]; exact hd.1.2, fun m hm => ?_⟩
    obtain ⟨_, m0⟩ := hh.none_of hm
    obtain ⟨g4, u4⟩ := hh.newM (o := .lst (List.replicate n.toNat vs).flatten) (m := .lst (repD xs n)) hm ⟨_, rfl, r.rep _⟩
    exact k _ (.ref m) _ _ _ u4 g4 (by simp only [Is]) (hd.2 m m0)
  | _ => exact hd.elim⟩
/-- an int in a tuple (a list) of ints -/
def intsD (xs : List D) (k : List Int → Prop) : Prop := ∃ ns : List Int, xs = ns.map D.int ∧ k ns
def kInI (neg : Bool) : DR2 := fun x y M Q => match x with
  | .int i => asS M y fun xs => intsD xs fun ns => Q (.bl (if neg then !ns.contains i else ns.contains i)) M
  | _ => False
theorem inV_ints (i : Int) : ∀ ns : List Int, inV (.int i) (ns.map V.int) = ns.contains i
  | [] => rfl
  | n :: ns => by
    have ih := inV_ints i ns
    unfold inV at ih ⊢
    rw [List.map_cons, List.any_cons, ih, List.contains_cons]
    show (n == i || _) = (i == n || _)
    rw [Bool.beq_comm]
theorem flat_ints : ∀ ns : List Int, (ns.map V.int).all flatV = true
  | [] => rfl
  | n :: ns => by rw [List.map_cons, List.all_cons, flat_ints ns]; rfl
theorem s_in {K : PySem.W.Frag} (neg : Bool) : S2 T K (rIn K neg) (kInI neg) := fun x y dx dy M Q F H R hh ix iy hd k => by
  cases dx with
  | int i =>
    simp only [Is] at ix
    obtain ⟨l, vs, xs, rfl, e2, r, ns, rfl, q⟩ := asS_of hh iy hd
    obtain rfl := r.of_ints
    subst ix
    refine ⟨l, _, rfl, e2, rfl, flat_ints ns, ?_⟩
    rw [inV_ints]
    exact k _ (.bl _) F M H .refl hh (by simp only [Is]) q
  | _ => exact hd.elim
theorem o_in : DOp T X (compareOp .In) (kInI false) := ⟨_, op_in_seq, s_in false⟩
theorem o_notIn : DOp T X (compareOp .NotIn) (kInI true) := ⟨_, op_notIn_seq, s_in true⟩

/-! ### built-in functions -/
variable {x : Str} {id Ty : String} {d : DRA}
def dCB (d : DRA) (t : DTA) : DTE := fun δ M Q => t δ M fun ds M1 => d ds M1 Q
theorem de_cb {K : PySem.W.Frag} {r : List V → Hp → VK → Prop} {u : TA} (s : SA T K r d) (h : DA T K u tr) : DE T K (tCB r u) (dCB d tr) := fun δ M Q σ F H R hs hh ht k => by
  refine h δ M _ σ F H _ hs hh ht fun vs ds F1 M1 H1 u1 h1 i1 q1 => ?_
  exact s vs ds M1 Q F1 H1 R h1 i1 q1 fun v d F' M' H' u2 h2 i2 q2 => k v d F' M' H' (u1.trans u2) h2 i2 q2
theorem q_callB (hc : DCl T X (.builtin id) d) (hg : Gl X x) (hm : X.mg x = none) (hv : bootBuiltins x = some (.builtin id)) (ha : DPA T X (e :: es) tr) (hn : x ≠ "__name__" := by decide) (hdb : (x == ("__debug__" : Str)) = false := by decide)
    (he : starEach (e :: es) X.env = (false, eval e X.env) :: starEach es X.env := by rfl) (hpl : (backTo pos (starEach es X.env)).any (·.1) = false := by rfl) : DPE T X (.Call (.Name x p) (e :: es) [] pos) (dCB d tr) := by
  obtain ⟨r, r1, r2⟩ := hc.ex
  obtain ⟨u, a1, a2⟩ := ha.ex
  exact ⟨_, pe_callB r1 hg hm hv a1 hn hdb he hpl, de_cb r2 a2⟩
theorem q_callTy (hc : DCl T X (.type Ty) d) (hg : Gl X x) (hm : X.mg x = none) (hv : bootBuiltins x = some (.type Ty)) (ha : DPA T X (e :: es) tr) (hn : x ≠ "__name__" := by decide) (hdb : (x == ("__debug__" : Str)) = false := by decide)
    (he : starEach (e :: es) X.env = (false, eval e X.env) :: starEach es X.env := by rfl) (hpl : (backTo pos (starEach es X.env)).any (·.1) = false := by rfl) : DPE T X (.Call (.Name x p) (e :: es) [] pos) (dCB d tr) := by
  obtain ⟨r, r1, r2⟩ := hc.ex
  obtain ⟨u, a1, a2⟩ := ha.ex
  exact ⟨_, pe_callTy r1 hg hm hv a1 hn hdb he hpl, de_cb r2 a2⟩
def kLen : DRA := fun ds M Q => match ds with
  | [d] => asS M d fun xs => Q (.int xs.length) M
  | _ => False
theorem c_len : DCl T X (.builtin "len") kLen := ⟨_, call_len_seq, fun vs ds M Q F H R hh hi hd k => by
  cases ds with
  | nil => exact hd.elim
  | cons d r =>
    cases r with
    | cons _ _ => exact hd.elim
    | nil =>
      obtain ⟨v, r, rfl, hv, hr⟩ := hi.uncons
      obtain rfl := hr.nil_eq
      obtain ⟨l, ws, xs, rfl, e2, e3, q⟩ := asS_of hh hv hd
      exact ⟨l, ws, rfl, e2, by rw [e3.len]; exact k _ (.int xs.length) F M H .refl hh (by simp only [Is]) q⟩⟩
def kInt : DRA := fun ds M Q => match ds with
  | [.int i] => Q (.int i) M
  | [.bl b] => Q (.int (if b then 1 else 0)) M
  | _ => False
theorem one_int {K : PySem.W.Frag} {F : Hp} {i : Int} {vs : List V} (h : IsAll K F [.int i] vs) : vs = [.int i] := by
  obtain ⟨v, r, rfl, hv, hr⟩ := h.uncons
  obtain rfl := hr.nil_eq
  simp only [Is] at hv
  rw [hv]
theorem c_int : DCl T X (.type "int") kInt := ⟨_, call_int1, fun vs ds M Q F H R hh hi hd k => by
  unfold kInt at hd
  split at hd
  · exact .inl ⟨_, one_int hi, k _ (.int _) F M H .refl hh (by simp only [Is]) hd⟩
  · rename_i b
    obtain ⟨v, r, rfl, hv, hr⟩ := hi.uncons
    obtain rfl := hr.nil_eq
    simp only [Is] at hv
    subst hv
    exact .inr ⟨b, rfl, k _ (.int _) F M H .refl hh (by simp only [Is]) hd⟩
  · exact hd.elim⟩
def kSum : DRA := fun ds M Q => match ds with
  | [d] => asM M d fun xs => intsD xs fun ns => Q (.int ns.sum) M
  | _ => False
theorem c_sum (hc : X.calm = true := by rfl) : DCl T X (.builtin "sum") kSum := ⟨_, cr_sum hc, fun vs ds M Q F H R hh hi hd k => by
  cases ds with
  | nil => exact hd.elim
  | cons d r =>
    cases r with
    | cons _ _ => exact hd.elim
    | nil =>
      obtain ⟨v, r, rfl, hv, hr⟩ := hi.uncons
      obtain rfl := hr.nil_eq
      obtain ⟨l, ws, xs, rfl, e2, e3, ns, rfl, q⟩ := asM_of hh hv hd
      exact ⟨l, ns, rfl, by rw [← e3.of_ints]; exact e2, k _ (.int ns.sum) F M H .refl hh (by simp only [Is]) q⟩⟩
/-- list(xs) -/
def kList : DRA := fun ds M Q => match ds with
  | [d] => asM M d fun xs => Q (.lst xs) M
  | _ => False
def kListN : DRA := fun ds M Q => match ds with
  | [d] => asM M d fun xs => ∀ q, M q = none → Q (.ref q) (mup M q (.lst xs))
  | _ => False
theorem c_list : DCl T X (.type "list") kList := ⟨_, call_list_of, fun vs ds M Q F H R hh hi hd k => by
  cases ds with
  | nil => exact hd.elim
  | cons d r =>
    cases r with
    | cons _ _ => exact hd.elim
    | nil =>
      obtain ⟨v, r, rfl, hv, hr⟩ := hi.uncons
      obtain rfl := hr.nil_eq
      obtain ⟨l, ws, xs, rfl, e2, e3, q⟩ := asM_of hh hv hd
      refine ⟨l, ws, rfl, .inl e2, fun n hn => ?_⟩
      obtain ⟨g4, u4⟩ := hh.newF (o := .lst ws) hn
      exact k _ (.lst xs) _ _ _ u4 g4 (by simp only [Is]; exact ⟨n, _, rfl, upd_same, IsAll.mono u4.ex _ _ e3⟩) q⟩
theorem c_listN : DCl T X (.type "list") kListN := ⟨_, call_list_of, fun vs ds M Q F H R hh hi hd k => by
  cases ds with
  | nil => exact hd.elim
  | cons d r =>
    cases r with
    | cons _ _ => exact hd.elim
    | nil =>
      obtain ⟨v, r, rfl, hv, hr⟩ := hi.uncons
      obtain rfl := hr.nil_eq
      obtain ⟨l, ws, xs, rfl, e2, e3, q⟩ := asM_of hh hv hd
      refine ⟨l, ws, rfl, .inl e2, fun n hn => ?_⟩
      obtain ⟨_, m0⟩ := hh.none_of hn
      obtain ⟨g4, u4⟩ := hh.newM (o := .lst ws) (m := .lst xs) hn ⟨_, rfl, e3⟩
      exact k _ (.ref n) _ _ _ u4 g4 (by simp only [Is]) (q n m0)⟩
/-- isinstance by a built-in class -/
def tyD (M : Mp) : D → Option String
  | .non => some "NoneType"
  | .bl _ => some "bool"
  | .int _ => some "int"
  | .str _ => some "str"
  | .lst _ => some "list"
  | .tup _ => some "tuple"
  | .ref p => match M p with
    | some (.lst _) => some "list"
    | some (.dT _) => some "dict"
    | some (.dK _) => some "dict"
    | _ => none
  | _ => none
theorem tyD_of {K : PySem.W.Frag} {F H : Hp} {M : Mp} {d : D} {v : V} {n : String} (hh : Hd T K F M H) (h : Is K F d v) (e : tyD M d = some n) : TyX K H v (.type n) := by
  refine .base ?_
  cases d with
  | non => simp only [Is] at h; subst h; cases e; exact .non
  | bl b => simp only [Is] at h; subst h; cases e; exact .bl b
  | int b => simp only [Is] at h; subst h; cases e; exact .int b
  | str b => simp only [Is] at h; subst h; cases e; exact .str b
  | lst xs =>
    simp only [Is] at h
    obtain ⟨a, vs, rfl, e2, _⟩ := h
    cases e
    exact .lst (hh.fr _ _ e2)
  | tup xs =>
    simp only [Is] at h
    obtain ⟨a, vs, rfl, e2, _⟩ := h
    cases e
    exact .tup (hh.fr _ _ e2)
  | ref p =>
    simp only [Is] at h; subst h
    unfold tyD at e
    cases q : M p with
    | none => simp only [q] at e; cases e
    | some m =>
      obtain ⟨_, o, ho, r⟩ := hh.mu p m q
      cases m with
      | lst xs => simp only [q] at e; cases e; obtain ⟨vs, rfl, _⟩ := r; exact .lst ho
      | dT xs => simp only [q] at e; cases e; obtain ⟨vs, rfl, _⟩ := r; exact .dT ho
      | dK xs => simp only [q] at e; cases e; obtain ⟨vs, rfl, _⟩ := r; exact .dK ho
      | ins C dx fs => simp only [q] at e; cases e
  | _ => cases e
def kIsi : DRA := fun ds M Q => match ds with
  | [x, .ty n] => ∃ m b, tyD M x = some m ∧ kitB m n = some b ∧ Q (.bl b) M
  | _ => False
theorem c_isi : DCl T X (.builtin "isinstance") kIsi := ⟨_, call_isi, fun vs ds M Q F H R hh hi hd k => by
  unfold kIsi at hd
  split at hd
  · rename_i x n
    obtain ⟨m, b, e1, e2, q⟩ := hd
    obtain ⟨v, r, rfl, hv, hr⟩ := hi.uncons
    obtain ⟨w, r', rfl, hw, hr'⟩ := hr.uncons
    obtain rfl := hr'.nil_eq
    simp only [Is] at hw
    subst hw
    exact ⟨v, .ty n, .type m, .type n, b, rfl, .ty n, tyD_of hh hv e1, kit_ty e2, k _ (.bl b) F M H .refl hh (by simp only [Is]) q⟩
  · exact hd.elim⟩

/-! ### methods of lists -/
variable {o : Expr} {to : DTE} {name : Str} {apos cpos : Pos} {dm : DRM} {r : V → List V → Hp → VK → Prop}
def dBM (d : DRM) (to : DTE) (t : DTA) : DTE := fun δ M Q => to δ M fun x M1 => (asM M1 x fun _ => True) ∧ t δ M1 fun xs M2 => d x xs M2 Q
theorem asM_true {T : List (Addr × Str)} {K : PySem.W.Frag} {F H : Hp} {M : Mp} {d : D} {v : V} (hh : Hd T K F M H) (h : Is K F d v) (q : asM M d fun _ => True) : tyV K "list" v H := by
  obtain ⟨a, vs, xs, rfl, e, _, _⟩ := asM_of hh h q
  exact .inl ⟨rfl, vs, e⟩
structure DMt (T : List (Addr × Str)) (X : Cx) (id : String) (d : DRM) : Prop where
  ex : ∃ r, MtR X id r ∧ SM T X.K r d
/-- o.m(e, ..), o a list -/
theorem q_bm {idm : String} (slot : Slot "list" name idm) (hty : typeOf (.builtin idm) = pure (.type "method_descriptor")) (hm : DMt T X idm dm) (ho : DPE T X o to) (ha : DPA T X (e :: es) tr)
    (hbase : attributeBase o name X.env (eval o X.env) = eval o X.env := by rfl)
    (hfew : ((backTo cpos (starEach (e :: es) X.env)).all (fun x => !x.1) && (backToKw cpos (keywordEach [] X.env)).all (fun x => x.1.isSome)
      && decide ((e :: es).length + ([] : List Keyword).length + (if ([] : List Keyword).isEmpty then 0 else 1) < 30)) = true := by rfl)
    (hline : (apos.endLine == cpos.line) = true := by rfl) (hs : starEach (e :: es) X.env = (false, eval e X.env) :: starEach es X.env := by rfl) (hplain : (backTo cpos (starEach es X.env)).any (·.1) = false := by rfl) :
    DPE T X (.Call (.Attribute o name apos) (e :: es) [] cpos) (dBM dm to tr) := by
  obtain ⟨r, r1, r2⟩ := hm.ex
  obtain ⟨u, a1, a2⟩ := ho.ex
  obtain ⟨v, b1, b2⟩ := ha.ex
  refine ⟨_, pe_bm PySem.F.plainAttrs_list slot hty r1 a1 b1 hbase hfew hline hs hplain, fun δ M Q σ F H R hs hh ht k => ?_⟩
  refine a2 δ M _ σ F H _ hs hh ht fun x dx F1 M1 H1 u1 h1 i1 q1 => ?_
  refine ⟨asM_true h1 i1 q1.1, ?_⟩
  refine b2 δ M1 _ σ F1 H1 _ (hs.mono u1.ex) h1 q1.2 fun vs ds F2 M2 H2 u2 h2 i2 q2 => ?_
  exact r2 x vs dx ds M2 Q F2 H2 R h2 (Is.mono u2.ex _ _ i1) i2 q2 fun v d F' M' H' u3 h3 i3 q3 => k v d F' M' H' ((u1.trans u2).trans u3) h3 i3 q3
def dBM0 (d : DRM) (to : DTE) : DTE := fun δ M Q => to δ M fun x M1 => (asM M1 x fun _ => True) ∧ d x [] M1 Q
theorem q_bm0 {idm : String} (slot : Slot "list" name idm) (hty : typeOf (.builtin idm) = pure (.type "method_descriptor")) (hm : DMt T X idm dm) (ho : DPE T X o to)
    (hbase : attributeBase o name X.env (eval o X.env) = eval o X.env := by rfl) (hline : (apos.endLine == cpos.line) = true := by rfl) :
    DPE T X (.Call (.Attribute o name apos) [] [] cpos) (dBM0 dm to) := by
  obtain ⟨r, r1, r2⟩ := hm.ex
  obtain ⟨u, a1, a2⟩ := ho.ex
  refine ⟨_, pe_bm0 PySem.F.plainAttrs_list slot hty r1 a1 hbase hline, fun δ M Q σ F H R hs hh ht k => ?_⟩
  refine a2 δ M _ σ F H _ hs hh ht fun x dx F1 M1 H1 u1 h1 i1 q1 => ?_
  exact ⟨asM_true h1 i1 q1.1, r2 x [] dx [] M1 Q F1 H1 R h1 i1 .nil q1.2 fun v d F' M' H' u3 h3 i3 q3 => k v d F' M' H' (u1.trans u3) h3 i3 q3⟩
/-- append -/
def kAppend : DRM := fun x ds M Q => match x, ds with
  | .ref p, [d] => ∃ xs, M p = some (.lst xs) ∧ xs.length < 16777216 ∧ Q .non (mup M p (.lst (xs ++ [d])))
  | _, _ => False
theorem m_append : DMt T X "list.append" kAppend := ⟨_, mt_append, fun x vs dx ds M Q F H R hh ix hi hd k => by
  unfold kAppend at hd
  split at hd
  · rename_i p d
    obtain ⟨xs, e1, e2, q⟩ := hd
    simp only [Is] at ix
    obtain ⟨v, r, rfl, hv, hr⟩ := hi.uncons
    obtain rfl := hr.nil_eq
    obtain ⟨_, o, ho, ws, rfl, rw_⟩ := hh.mu p _ e1
    obtain ⟨g, u⟩ := hh.put (o := .lst (ws ++ [v])) (m := .lst (xs ++ [d])) e1 ⟨_, rfl, rw_.append (.cons hv .nil)⟩
    exact ⟨p, ws, v, ix, rfl, ho, by rw [rw_.len, sizeLine_eq]; exact e2, k .non .non _ _ _ u g (by simp only [Is]) q⟩
  · exact hd.elim⟩
/-- count of an int among ints -/
def kCountI : DRM := fun x ds M Q => match ds with
  | [.int i] => asM M x fun xs => intsD xs fun ns => Q (.int (ns.count i : Nat)) M
  | _ => False
theorem m_count : DMt T X "list.count" kCountI := ⟨_, mt_lcount, fun x vs dx ds M Q F H R hh ix hi hd k => by
  unfold kCountI at hd
  split at hd
  · rename_i i
    obtain ⟨l, ws, xs, rfl, e2, e3, ns, rfl, q⟩ := asM_of hh ix hd
    exact ⟨l, ns, i, rfl, one_int hi, by rw [← e3.of_ints]; exact e2, k _ (.int _) F M H .refl hh (by simp only [Is]) q⟩
  · exact hd.elim⟩
/-- xs[i] = v -/
def eSub (to ti : DTE) : DTG := fun d δ M Q => to δ M fun o M1 => ti δ M1 fun i M2 => match o, i with
  | .ref p, .int k => ∃ xs j, M2 p = some (.lst xs) ∧ ixN xs.length k = some j ∧ Q δ (mup M2 p (.lst (xs.set j d)))
  | _, _ => False
theorem g_sub {ob ix : Expr} {to ti : DTE} (ho : DPE T X ob to) (hi : DPE T X ix ti)
    (ha : ∀ v, assign (.Subscript ob ix pos) X.env v = (do
      let ov ← holding [v] (eval ob X.env)
      let iv ← holding [v, ov] (eval ix X.env)
      standAt pos
      holding [v, ov, iv] (setItem ov iv v)
      release [v, ov, iv] []) := by intro _; rfl) : DPG T X (.Subscript ob ix pos) (eSub to ti) := by
  obtain ⟨u, a1, a2⟩ := ho.ex
  obtain ⟨u', b1, b2⟩ := hi.ex
  refine ⟨_, pg_sub a1 b1 set_list ha, fun v d δ M Q σ F H R hs hh hd ht k => ?_⟩
  refine a2 δ M _ σ F H _ hs hh ht fun x dx F1 M1 H1 u1 h1 i1 q1 => ?_
  refine b2 δ M1 _ σ F1 H1 _ (hs.mono u1.ex) h1 q1 fun y dy F2 M2 H2 u2 h2 i2 q2 => ?_
  have u12 := u1.trans u2
  split at q2
  · rename_i p n
    obtain ⟨xs, j, e1, e2, q⟩ := q2
    simp only [Is] at i1 i2
    obtain ⟨_, o, ho, ws, rfl, rw_⟩ := h2.mu p _ e1
    obtain ⟨g, u3⟩ := h2.put (o := .lst (ws.set j v)) (m := .lst (xs.set j d)) e1 ⟨_, rfl, rw_.set j (Is.mono u12.ex _ _ hd)⟩
    exact ⟨p, ws, n, j, i1, i2, ho, by rw [rw_.len]; exact e2, k σ δ _ _ _ (u12.trans u3) g (hs.mono (u12.trans u3).ex) q⟩
  · exact q2.elim
/-- max, min of ints -/
def kMax : DRA := fun ds M Q => match ds with
  | [d] => asM M d fun xs => intsD xs fun ns => 0 < ns.length ∧ ∀ m, m ∈ ns → (∀ y, y ∈ ns → y ≤ m) → Q (.int m) M
  | _ => False
def kMin : DRA := fun ds M Q => match ds with
  | [d] => asM M d fun xs => intsD xs fun ns => 0 < ns.length ∧ ∀ m, m ∈ ns → (∀ y, y ∈ ns → m ≤ y) → Q (.int m) M
  | _ => False
theorem c_max (hc : X.calm = true := by rfl) : DCl T X (.builtin "max") kMax := ⟨_, cr_max hc, fun vs ds M Q F H R hh hi hd k => by
  unfold kMax at hd
  split at hd
  · obtain ⟨v, r, rfl, hv, hr⟩ := hi.uncons
    obtain rfl := hr.nil_eq
    obtain ⟨l, ws, xs, rfl, e2, e3, ns, rfl, h0, q⟩ := asM_of hh hv hd
    exact ⟨l, ns, rfl, by rw [← e3.of_ints]; exact e2, h0, fun m a b => k _ (.int m) F M H .refl hh (by simp only [Is]) (q m a b)⟩
  · exact hd.elim⟩
theorem c_min (hc : X.calm = true := by rfl) : DCl T X (.builtin "min") kMin := ⟨_, cr_min hc, fun vs ds M Q F H R hh hi hd k => by
  unfold kMin at hd
  split at hd
  · obtain ⟨v, r, rfl, hv, hr⟩ := hi.uncons
    obtain rfl := hr.nil_eq
    obtain ⟨l, ws, xs, rfl, e2, e3, ns, rfl, h0, q⟩ := asM_of hh hv hd
    exact ⟨l, ns, rfl, by rw [← e3.of_ints]; exact e2, h0, fun m a b => k _ (.int m) F M H .refl hh (by simp only [Is]) (q m a b)⟩
  · exact hd.elim⟩
end
end DL

namespace DL
open PySem PySem.Spec PyProof.Rows L2

/-! ### what a value is as the library's data, things that may change looked up -/
/-- the list that d is -/
def LsM (M : Mp) (d : D) (xs : List D) : Prop := d = .lst xs ∨ d = .lk xs ∨ ∃ p, d = .ref p ∧ M p = some (.lst xs)
mutual
def ResP (M : Mp) : PyData → D → Prop
  | .none, d => d = .non
  | .bool b, d => d = .bl b
  | .int i, d => d = .int i
  | .str x, d => d = .str x
  | .list ps, d => ∃ xs, LsM M d xs ∧ ResPs M ps xs
  | .tuple ps, d => ∃ xs, d = .tup xs ∧ ResPs M ps xs
  | .dict _, _ => False
def ResPs (M : Mp) : List PyData → List D → Prop
  | [], xs => xs = []
  | p :: ps, xs => ∃ x r, xs = x :: r ∧ ResP M p x ∧ ResPs M ps r
end
abbrev Res (M : Mp) (d : D) (p : PyData) : Prop := ResP M p d
abbrev ResAll (M : Mp) (xs : List D) (ps : List PyData) : Prop := ResPs M ps xs
section
variable {M : Mp}
theorem Res.non : Res M .non .none := by unfold Res; simp only [ResP]
theorem Res.bl (b : Bool) : Res M (.bl b) (.bool b) := by unfold Res; simp only [ResP]
theorem Res.int (b : Int) : Res M (.int b) (.int b) := by unfold Res; simp only [ResP]
theorem Res.str (b : Str) : Res M (.str b) (.str b) := by unfold Res; simp only [ResP]
theorem Res.lst {xs : List D} {ds : List PyData} (h : ResAll M xs ds) : Res M (.lst xs) (.list ds) := by unfold Res; simp only [ResP]; exact ⟨xs, .inl rfl, h⟩
theorem Res.lk {xs : List D} {ds : List PyData} (h : ResAll M xs ds) : Res M (.lk xs) (.list ds) := by unfold Res; simp only [ResP]; exact ⟨xs, .inr (.inl rfl), h⟩
theorem Res.tup {xs : List D} {ds : List PyData} (h : ResAll M xs ds) : Res M (.tup xs) (.tuple ds) := by unfold Res; simp only [ResP]; exact ⟨xs, rfl, h⟩
theorem Res.ref {p : Addr} {xs : List D} {ds : List PyData} (e : M p = some (.lst xs)) (h : ResAll M xs ds) : Res M (.ref p) (.list ds) := by unfold Res; simp only [ResP]; exact ⟨xs, .inr (.inr ⟨p, rfl, e⟩), h⟩
theorem ResAll.nil : ResAll M [] [] := by unfold ResAll; simp only [ResPs]
theorem ResAll.cons {x : D} {xs : List D} {p : PyData} {ps : List PyData} (h : Res M x p) (t : ResAll M xs ps) : ResAll M (x :: xs) (p :: ps) := by unfold ResAll; simp only [ResPs]; exact ⟨x, xs, rfl, h, t⟩
end
section
variable {T : List (Addr × Str)} {K : PySem.W.Frag} {F H : Hp} {M : Mp}
mutual
theorem ResP.dp (hh : Hd T K F M H) : ∀ (p : PyData) (d : D) (v : V), Is K F d v → ResP M p d → Dp K H v p
  | .none, d, v, h, r => by simp only [ResP] at r; subst r; simp only [Is] at h; subst h; exact .non
  | .bool b, d, v, h, r => by simp only [ResP] at r; subst r; simp only [Is] at h; subst h; exact .bl b
  | .int b, d, v, h, r => by simp only [ResP] at r; subst r; simp only [Is] at h; subst h; exact .int b
  | .str b, d, v, h, r => by simp only [ResP] at r; subst r; simp only [Is] at h; subst h; exact .str b
  | .list ps, d, v, h, r => by
    simp only [ResP] at r
    obtain ⟨xs, e, r⟩ := r
    rcases e with rfl | rfl | ⟨q, rfl, e⟩
    · simp only [Is] at h
      obtain ⟨a, vs, rfl, e2, e3⟩ := h
      exact .lst (.inl (.inl (hh.fr _ _ e2))) (ResPs.dp hh ps xs vs e3 r)
    · simp only [Is] at h
      obtain ⟨a, vs, rfl, e2, e3⟩ := h
      exact .lst (hh.fr.seq e2) (ResPs.dp hh ps xs vs e3 r)
    · simp only [Is] at h
      subst h
      obtain ⟨_, o, ho, vs, rfl, e3⟩ := hh.mu q _ e
      exact .lst (.inl (.inl ho)) (ResPs.dp hh ps xs vs e3 r)
  | .tuple ps, d, v, h, r => by
    simp only [ResP] at r
    obtain ⟨xs, rfl, r⟩ := r
    simp only [Is] at h
    obtain ⟨a, vs, rfl, e2, e3⟩ := h
    exact .tup (.inl (.inl (hh.fr _ _ e2))) (ResPs.dp hh ps xs vs e3 r)
  | .dict _, d, v, h, r => by simp only [ResP] at r
theorem ResPs.dp (hh : Hd T K F M H) : ∀ (ps : List PyData) (ds : List D) (vs : List V), IsAll K F ds vs → ResPs M ps ds → DpAll K H vs ps
  | [], ds, vs, h, r => by
    simp only [ResPs] at r
    subst r
    rw [h.nil_eq]; exact .nil
  | p :: ps, ds, vs, h, r => by
    simp only [ResPs] at r
    obtain ⟨x, xs, rfl, r1, r2⟩ := r
    obtain ⟨v, w, rfl, hv, t⟩ := h.uncons
    exact .cons (ResP.dp hh p x v hv r1) (ResPs.dp hh ps xs w t r2)
end
theorem Res.dp {d : D} {p : PyData} {v : V} (r : Res M d p) (hh : Hd T K F M H) (h : Is K F d v) : Dp K H v p := ResP.dp hh p d v h r
end
/-- ints, lists of ints, lists of lists of ints -/
def pyL (ns : List Int) : PyData := .list (ns.map PyData.int)
def pyLL (l : List (List Int)) : PyData := .list (l.map pyL)
def dL (ns : List Int) : D := .lst (ns.map D.int)
def dLL (l : List (List Int)) : D := .lst (l.map dL)
theorem resAll_ints {M : Mp} : ∀ ns : List Int, ResAll M (ns.map D.int) (ns.map PyData.int)
  | [] => .nil
  | n :: ns => .cons (.int n) (resAll_ints ns)
theorem res_L {M : Mp} (ns : List Int) : Res M (dL ns) (pyL ns) := .lst (resAll_ints ns)
theorem resAll_L {M : Mp} : ∀ l : List (List Int), ResAll M (l.map dL) (l.map pyL)
  | [] => .nil
  | n :: ns => .cons (res_L n) (resAll_L ns)
theorem res_LL {M : Mp} (l : List (List Int)) : Res M (dLL l) (pyLL l) := .lst (resAll_L l)
theorem res_ref {M : Mp} {p : Addr} {ns : List Int} (h : M p = some (.lst (ns.map D.int))) : Res M (.ref p) (pyL ns) := .ref h (resAll_ints ns)

/-! ### sizes of texts -/
mutual
/-- at least the length of repr's text, if every int is below 10 ^ k -/
def wt (k : Nat) : PyData → Nat
  | .none => 4
  | .bool _ => 5
  | .int _ => k + 1
  | .str x => (reprText x).length
  | .list xs => 2 + wtAll k xs
  | .tuple xs => 3 + wtAll k xs
  | .dict _ => 0
def wtAll (k : Nat) : List PyData → Nat
  | [] => 0
  | x :: xs => wt k x + 2 + wtAll k xs
end
mutual
def okP (k : Nat) : PyData → Prop
  | .int i => i.natAbs < 10 ^ k
  | .list xs => okAll k xs
  | .tuple xs => okAll k xs
  | .dict _ => False
  | _ => True
def okAll (k : Nat) : List PyData → Prop
  | [] => True
  | x :: xs => okP k x ∧ okAll k xs
end
theorem textFrom_eq : ∀ (ts : List Str) (k : Nat) (acc : Str), (textFrom k acc ts).length ≤ acc.length + piled ts
  | [], _, _ => Nat.le_add_right _ _
  | t :: ts, k, acc => by
    show (textFrom (k + 1) (acc ++ (if k > 0 then ", " else "" : String) ++ t) ts).length ≤ _
    refine Nat.le_trans (textFrom_eq ts (k + 1) _) ?_
    rw [piled_cons, strLen_append, strLen_append]
    have : (Str.ofString (if k > 0 then ", " else "" : String)).length ≤ 2 := by split <;> decide
    omega
theorem listText_le (ts : List Str) : (listText ts).length ≤ 2 + piled ts := by
  unfold listText
  rw [strLen_append]
  have h := textFrom_eq ts 0 "["
  have e1 : (Str.ofString "[").length = 1 := rfl
  have e2 : (Str.ofString "]").length = 1 := rfl
  omega
theorem tupleText_le (ts : List Str) : (tupleText ts).length ≤ 3 + piled ts := by
  unfold tupleText
  rw [strLen_append, strLen_append]
  have h : (Str.join ", " ts).length ≤ piled ts := by
    cases ts with
    | nil => exact Nat.zero_le _
    | cons t r =>
      have := join_length_add (t :: r) (by simp)
      omega
  have e1 : (Str.ofString "(").length = 1 := rfl
  have e2 : (Str.ofString (if ts.length == 1 then ",)" else ")" : String)).length ≤ 2 := by split <;> decide
  have e3 : (("(" : Str)).length = 1 := rfl
  omega
mutual
theorem shown_le {k : Nat} (hk : 0 < k) : ∀ p : PyData, okP k p → p.shown.length ≤ wt k p
  | .none, _ => by simp only [PyData.shown, wt]; decide
  | .bool b, _ => by simp only [PyData.shown, wt]; cases b <;> decide
  | .int i, h => by
    simp only [okP] at h
    simp only [PyData.shown, wt]
    rw [PySem.ofString_length]
    exact int_text_length_le10 hk h
  | .str x, _ => by simp only [PyData.shown, wt]; exact Nat.le_refl _
  | .list xs, h => by
    simp only [okP] at h
    simp only [PyData.shown, wt]
    exact Nat.le_trans (listText_le _) (Nat.add_le_add_left (piled_le hk xs h) 2)
  | .tuple xs, h => by
    simp only [okP] at h
    simp only [PyData.shown, wt]
    exact Nat.le_trans (tupleText_le _) (Nat.add_le_add_left (piled_le hk xs h) 3)
  | .dict _, h => by simp only [okP] at h
theorem piled_le {k : Nat} (hk : 0 < k) : ∀ ps : List PyData, okAll k ps → piled (PyData.shownAll ps) ≤ wtAll k ps
  | [], _ => by simp only [PyData.shownAll, wtAll]; exact Nat.le_refl _
  | p :: ps, h => by
    simp only [okAll] at h
    simp only [PyData.shownAll, wtAll, piled_cons]
    have := shown_le hk p h.1
    have := piled_le hk ps h.2
    omega
end
theorem log2_small {n k : Nat} (hk : k ≤ 576) (h : n < 10 ^ k) : n.log2 < 1920 := by
  by_cases h0 : n = 0
  · subst h0; decide
  · refine (Nat.log2_lt h0).mpr (Nat.lt_of_lt_of_le h (Nat.le_trans (Nat.pow_le_pow_right (by decide) hk) ?_))
    decide +kernel
mutual
theorem ok_showable {k : Nat} (hk : k ≤ 576) : ∀ p : PyData, okP k p → p.showable = true ∧ p.hasDict = false
  | .none, _ => by exact ⟨by simp only [PyData.showable], by simp only [PyData.hasDict]⟩
  | .bool b, _ => by exact ⟨by simp only [PyData.showable], by simp only [PyData.hasDict]⟩
  | .str b, _ => by exact ⟨by simp only [PyData.showable], by simp only [PyData.hasDict]⟩
  | .int i, h => by
    simp only [okP] at h
    exact ⟨by simp only [PyData.showable]; exact decide_eq_true (log2_small hk h), by simp only [PyData.hasDict]⟩
  | .list xs, h => by
    simp only [okP] at h
    simp only [PyData.showable, PyData.hasDict]
    exact okAll_showable hk xs h
  | .tuple xs, h => by
    simp only [okP] at h
    simp only [PyData.showable, PyData.hasDict]
    exact okAll_showable hk xs h
  | .dict _, h => by simp only [okP] at h
theorem okAll_showable {k : Nat} (hk : k ≤ 576) : ∀ ps : List PyData, okAll k ps → PyData.showableAll ps = true ∧ PyData.hasDictAll ps = false
  | [], _ => ⟨by simp only [PyData.showableAll], by simp only [PyData.hasDictAll]⟩
  | p :: ps, h => by
    simp only [okAll] at h
    obtain ⟨a, b⟩ := ok_showable hk p h.1
    obtain ⟨c, d⟩ := okAll_showable hk ps h.2
    exact ⟨by simp only [PyData.showableAll, a, c, Bool.and_self], by simp only [PyData.hasDictAll, b, d, Bool.or_self]⟩
end
/-- repr may be asked of it -/
structure Shw (p : PyData) : Prop where
  sh : p.showable = true
  nd : p.hasDict = false
  dp : p.depth ≤ 60
  sz : p.shown.length ≤ 16777216
theorem Shw.of {p : PyData} (k : Nat) (h0 : 0 < k) (hk : k ≤ 576) (ok : okP k p) (hd : p.depth ≤ 60) (hw : wt k p ≤ 16777216) : Shw p :=
  ⟨(ok_showable hk p ok).1, (ok_showable hk p ok).2, hd, Nat.le_trans (shown_le h0 p ok) hw⟩
theorem depthAll_ints : ∀ ns : List Int, PyData.depthAll (ns.map PyData.int) = 0
  | [] => by simp only [List.map_nil, PyData.depthAll]
  | n :: ns => by rw [List.map_cons]; simp only [PyData.depthAll, PyData.depth, depthAll_ints ns]; rfl
theorem depth_L (ns : List Int) : (pyL ns).depth = 1 := by
  unfold pyL
  simp only [PyData.depth, depthAll_ints]
theorem depthAll_L : ∀ l : List (List Int), PyData.depthAll (l.map pyL) ≤ 1
  | [] => by simp only [List.map_nil, PyData.depthAll]; exact Nat.zero_le _
  | n :: ns => by
    rw [List.map_cons]
    simp only [PyData.depthAll, depth_L]
    have := depthAll_L ns
    omega
theorem depth_LL (l : List (List Int)) : (pyLL l).depth ≤ 2 := by
  unfold pyLL
  simp only [PyData.depth]
  have := depthAll_L l
  omega
theorem okAll_ints {k : Nat} : ∀ {ns : List Int}, (∀ i ∈ ns, i.natAbs < 10 ^ k) → okAll k (ns.map PyData.int)
  | [], _ => by simp only [List.map_nil, okAll]
  | n :: ns, h => by
    rw [List.map_cons]
    simp only [okAll, okP]
    exact ⟨h n List.mem_cons_self, okAll_ints fun i hi => h i (List.mem_cons_of_mem _ hi)⟩
theorem wtAll_ints {k : Nat} : ∀ ns : List Int, wtAll k (ns.map PyData.int) = ns.length * (k + 3)
  | [] => by simp only [List.map_nil, wtAll, List.length_nil, Nat.zero_mul]
  | n :: ns => by
    rw [List.map_cons]
    simp only [wtAll, wt, wtAll_ints ns, List.length_cons, Nat.succ_mul]
    omega
theorem ok_L {k : Nat} {ns : List Int} (h : ∀ i ∈ ns, i.natAbs < 10 ^ k) : okP k (pyL ns) := by
  unfold pyL
  simp only [okP]
  exact okAll_ints h
theorem wt_L {k : Nat} (ns : List Int) : wt k (pyL ns) = 2 + ns.length * (k + 3) := by
  unfold pyL
  simp only [wt, wtAll_ints]
theorem okAll_L {k : Nat} : ∀ {l : List (List Int)}, (∀ ns ∈ l, ∀ i ∈ ns, i.natAbs < 10 ^ k) → okAll k (l.map pyL)
  | [], _ => by simp only [List.map_nil, okAll]
  | n :: ns, h => by
    rw [List.map_cons]
    simp only [okAll]
    exact ⟨ok_L (h n List.mem_cons_self), okAll_L fun i hi => h i (List.mem_cons_of_mem _ hi)⟩
theorem wtAll_L {k m : Nat} : ∀ {l : List (List Int)}, (∀ ns ∈ l, ns.length ≤ m) → wtAll k (l.map pyL) ≤ l.length * (4 + m * (k + 3))
  | [], _ => by simp only [List.map_nil, wtAll]; exact Nat.zero_le _
  | n :: ns, h => by
    rw [List.map_cons]
    simp only [wtAll, wt_L, List.length_cons, Nat.succ_mul]
    have a := wtAll_L (k := k) (m := m) (l := ns) fun i hi => h i (List.mem_cons_of_mem _ hi)
    have b := Nat.mul_le_mul_right (k + 3) (h n List.mem_cons_self)
    omega

/-! ### == and repr -/
section
variable {T : List (Addr × Str)} {X : Cx}
def kEqP : DR2 := fun x y M Q => ∃ p q, Res M x p ∧ Res M y q ∧ SeqAt.shaped p = true ∧ SeqAt.shaped q = true ∧ Q (.bl (PyData.eqv p q)) M
def kNeP : DR2 := fun x y M Q => ∃ p q, Res M x p ∧ Res M y q ∧ SeqAt.shaped p = true ∧ SeqAt.shaped q = true ∧ Q (.bl (!PyData.eqv p q)) M
theorem o_eqP (hu : X.A.units + 64 < cLine) : DOp T X (compareOp .Eq) kEqP := ⟨_, op_eqD hu, fun x y dx dy M Q F H R hh ix iy hd k => by
  obtain ⟨p, q, e1, e2, s1, s2, z⟩ := hd
  exact ⟨p, q, e1.dp hh ix, e2.dp hh iy, s1, s2, k _ (.bl _) F M H .refl hh (by simp only [Is]) z⟩⟩
theorem o_neP (hu : X.A.units + 64 < cLine) : DOp T X (compareOp .NotEq) kNeP := ⟨_, op_neD hu, fun x y dx dy M Q F H R hh ix iy hd k => by
  obtain ⟨p, q, e1, e2, s1, s2, z⟩ := hd
  exact ⟨p, q, e1.dp hh ix, e2.dp hh iy, s1, s2, k _ (.bl _) F M H .refl hh (by simp only [Is]) z⟩⟩
/-- repr of an int, of a list or tuple -/
def isSeqP : PyData → Bool
  | .list _ => true
  | .tuple _ => true
  | _ => false
theorem repr_v (hg : X.A.guards = some []) (hu : X.A.units + 64 < cLine) : CallR X (.builtin "repr") (fun xs H Q => ∃ x p, xs = [x] ∧ Dp X.K H x p ∧ Shw p ∧ ((∃ i, p = .int i) ∨ isSeqP p = true) ∧ Q (.str p.shown) H) := by
  intro pins s σ H xs us Q I r h
  obtain ⟨x, p, rfl, d, sw, hp, q⟩ := h
  cases r with
  | cons rx rr =>
    cases rr
    rename_i u
    have isr : (∃ i, p = .int i ∧ x = .int i) ∨ ∃ a, x = .ref a := by
      cases d with
      | int i => exact .inl ⟨i, rfl, rfl⟩
      | lst a b => exact .inr ⟨_, rfl⟩
      | tup a b => exact .inr ⟨_, rfl⟩
      | non => rcases hp with ⟨i, z⟩ | z <;> cases z
      | bl b => rcases hp with ⟨i, z⟩ | z <;> cases z
      | str b => rcases hp with ⟨i, z⟩ | z <;> cases z
    rcases isr with ⟨i, rfl, rfl⟩ | ⟨a, rfl⟩
    · obtain ⟨t, rfl⟩ := rx
      have hz := sw.sh
      simp only [PyData.showable, decide_eq_true_eq] at hz
      simp only [PyData.shown] at q
      exact PySem.P.repr_of_int hz ⟨.str _, H, I.tok _, ⟨_, rfl⟩, q⟩
    · obtain ⟨as, rd⟩ := Dp.reads I p _ u d rx
      cases rx
      have h3 := sw.dp
      refine repr_of_reads' (h₀ := s.heap) rd sw.sh (fun z => by rw [sw.nd] at z; cases z) hg (by omega) (fun _ _ e => e) (fun h' u tk hk => ?_) (by rw [sizeLine_eq]; exact sw.sz)
      exact ⟨.str p.shown, H, I.kept hk, ⟨_, rfl⟩, q⟩
def kRepr : DRA := fun ds M Q => match ds with
  | [d] => ∃ p, Res M d p ∧ Shw p ∧ ((∃ i, p = .int i) ∨ isSeqP p = true) ∧ Q (.str p.shown) M
  | _ => False
theorem c_repr (hg : X.A.guards = some []) (hu : X.A.units + 64 < cLine) : DCl T X (.builtin "repr") kRepr := ⟨_, repr_v hg hu, fun vs ds M Q F H R hh hi hd k => by
  unfold kRepr at hd
  split at hd
  · obtain ⟨v, r, rfl, hv, hr⟩ := hi.uncons
    obtain rfl := hr.nil_eq
    obtain ⟨p, e1, sw, hp, q⟩ := hd
    exact ⟨v, p, rfl, e1.dp hh hv, sw, hp, k _ (.str _) F M H .refl hh (by simp only [Is]) q⟩
  · exact hd.elim⟩
end

/-! ### calls: positional values, keywords, a default None -/
inductive Src where
  | p (i : Nat) | k (j : Nat) | n
def Src.pick {α : Type} (z : α) (us ws : List α) : Src → α
  | .p i => us.getD i z
  | .k j => ws.getD j z
  | .n => z
def arr {α : Type} (src : List Src) (z : α) (us ws : List α) : List α := src.map (Src.pick z us ws)
theorem vals_getD {vs : List V} {us : List Value} (r : Vals vs us) (i : Nat) : RelV (vs.getD i .non) (us.getD i .none) := by
  rw [List.getD_eq_getElem?_getD, List.getD_eq_getElem?_getD]
  cases e : vs[i]? with
  | none => rw [r.none_of e]; rfl
  | some v =>
    obtain ⟨u, e1, e2⟩ := r.get e
    rw [e1]; exact e2
theorem vals_arr {vs zs : List V} {us ws : List Value} (r : Vals vs us) (r' : Vals zs ws) : ∀ src : List Src, Vals (arr src .non vs zs) (arr src .none us ws)
  | [] => .nil
  | s :: src => by
    refine .cons ?_ (vals_arr r r' src)
    cases s with
    | p i => exact vals_getD r i
    | k i => exact vals_getD r' i
    | n => exact rfl
theorem isAll_getD {K : PySem.W.Frag} {F : Hp} {ds : List D} {vs : List V} (r : IsAll K F ds vs) (i : Nat) : Is K F (ds.getD i .non) (vs.getD i .non) := by
  rw [List.getD_eq_getElem?_getD, List.getD_eq_getElem?_getD]
  cases e : ds[i]? with
  | none =>
    have : vs[i]? = none := List.getElem?_eq_none_iff.mpr (by rw [r.len]; exact List.getElem?_eq_none_iff.mp e)
    rw [this]
    simp only [Option.getD_none, Is]
  | some d =>
    obtain ⟨v, e1, e2⟩ := r.get e
    rw [e1]; exact e2
theorem isAll_arr {K : PySem.W.Frag} {F : Hp} {ds zs : List D} {vs ws : List V} (r : IsAll K F ds vs) (r' : IsAll K F zs ws) : ∀ src : List Src, IsAll K F (arr src .non ds zs) (arr src .non vs ws)
  | [] => .nil
  | s :: src => by
    refine .cons ?_ (isAll_arr r r' src)
    cases s with
    | p i => exact isAll_getD r i
    | k i => exact isAll_getD r' i
    | n => simp only [Src.pick, Is]
/-- how f binds n positional values and keywords ks -/
def KA (K : PySem.W.Frag) (fd : FuncData) (ps : List Str) (n : Nat) (ks : List Str) (src : List Src) : Prop :=
  ∀ (s : Shared) (us ws : List Value), K.In s.heap → us.length = n → ws.length = ks.length → BindsTo s fd ⟨us, ks.zip ws⟩ (ps.zip (arr src .none us ws))
/-- a def's promise, asked where (if g) nothing is being shown by repr -/
structure FnX (P : Program) (w : World) (K : PySem.W.Frag) (mg : Str → Option Value) (base : Heap) (g : Bool) (k : Nat) (f : Addr) (fd : FuncData) (ps : List Str) (sp : Sp) : Prop where
  len : ∀ vs H Q E, sp vs H Q E → vs.length = ps.length
  run : ∀ (A : Around) (outer : List Env) (s : Shared) (H : Hp) (args : Args) (us : List Value) (vs : List V) (Q : VK), Room k A → (g = true → A.guards = some []) → Env0 P w K mg base A outer s H → BindsTo s fd args (ps.zip us) → Vals vs us → sp vs H Q E0 →
    codeAny (model P w) A (.call (.ref f) args) (CR CX0 outer P w H s Q E0) s
section
variable {T : List (Addr × Str)} {X : Cx} {g : Bool} {k n : Nat} {f : Addr} {fd : FuncData} {ps ks : List Str} {src : List Src} {d : DRA} {x : Str} {p pos : Pos} {e : Expr} {es : List Expr} {kws : List Keyword} {ta tk : DTA} {sp : Sp}
theorem run_fx {pins : List (Addr × Obj)} {σ : L2.St} {H : Hp} {s : Shared} {Q : VK} {us ws : List Value} {vs zs : List V} (F : FnX X.prog X.w X.K X.mg X.base g k f fd ps sp) (hr : Room k X.A) (hq : g = true → X.A.guards = some []) (hb : KA X.K fd ps n ks src)
    (I : Inv X pins σ H s) (r : Vals vs us) (rz : Vals zs ws) (l1 : vs.length = n) (l2 : zs.length = ks.length) (h : sp (arr src .non vs zs) H Q E0) : wpAny (model X.prog X.w) X.A (call (.ref f) us (ks.zip ws)) (EP X pins σ Q) X.xe s := by
  have step := F.run X.A X.stack s H ⟨us, ks.zip ws⟩ (arr src .none us ws) (arr src .non vs zs) Q hr hq I.env0 (hb s us ws I.kIn (by rw [← r.length]; exact l1) (by rw [← rz.length]; exact l2)) (vals_arr r rz src) h
  refine wpAny_call (codeAny_mono step fun r s' z => ?_)
  match r, z with
  | .error _, z => exact False.elim z
  | .ok (.ret _), z => exact I.after z
  | .ok .next, z => exact False.elim z
  | .ok .brk, z => exact False.elim z
  | .ok .cont, z => exact False.elim z
structure DPK (T : List (Addr × Str)) (X : Cx) (kws : List Keyword) (t : DTA) : Prop where
  ex : ∃ u, PK X kws u ∧ DA T X.K u t
theorem k_nil : DPK T X [] dNil := ⟨_, pk_nil, fun δ M Q σ F H R hs hh ht k => k [] [] F M H .refl hh .nil ht⟩
theorem k_cons {te : DTE} {kpos : Pos} {nm : Option Str} (ha : DPE T X e te) (hr : DPK T X kws tk) : DPK T X (⟨nm, e, kpos⟩ :: kws) (dCons te tk) := by
  obtain ⟨ua, a1, a2⟩ := ha.ex
  obtain ⟨ur, r1, r2⟩ := hr.ex
  refine ⟨_, pk_cons a1 r1, fun δ M Q σ F H R hs hh ht k => ?_⟩
  refine a2 δ M _ σ F H _ hs hh ht fun x dx F1 M1 H1 u1 h1 i1 q1 => ?_
  exact r2 δ M1 _ σ F1 H1 _ (hs.mono u1.ex) h1 q1 fun vs ds F2 M2 H2 u2 h2 i2 q2 => k (x :: vs) (dx :: ds) F2 M2 H2 (u1.trans u2) h2 (.cons (Is.mono u2.ex _ _ i1) i2) q2
/-- the call's reading -/
def dCallX (n m : Nat) (src : List Src) (d : DRA) (ta tk : DTA) : DTE := fun δ M Q => ta δ M fun ds M1 => tk δ M1 fun zs M2 => (ds.length = n ∧ zs.length = m) ∧ d (arr src .non ds zs) M2 Q
/-- its side over the heap -/
def tCallX (n m : Nat) (src : List Src) (sp : Sp) (t tk : TA) : TE := fun σ H Q => t σ H fun vs H1 => tk σ H1 fun zs H2 => (vs.length = n ∧ zs.length = m) ∧ sp (arr src .non vs zs) H2 Q E0
theorem de_callX {K : PySem.W.Frag} {n m : Nat} {u uk : TA} (h : DA T K u ta) (hk : DA T K uk tk) : DE T K (tCallX n m src (spD T K d) u uk) (dCallX n m src d ta tk) := fun δ M Q σ F H R hs hh ht k => by
  refine h δ M _ σ F H _ hs hh ht fun vs ds F1 M1 H1 u1 h1 i1 q1 => ?_
  refine hk δ M1 _ σ F1 H1 _ (hs.mono u1.ex) h1 q1 fun ws zs F2 M2 H2 u2 h2 i2 q2 => ?_
  have i1' := IsAll.mono u2.ex _ _ i1
  exact ⟨by rw [i1'.len, i2.len]; exact q2.1, F2, M2, arr src .non ds zs, Q, h2, isAll_arr i1' i2 src, q2.2, fun v r F' M' H' u3 h3 i3 q3 => k v r F' M' H' ((u1.trans u2).trans u3) h3 i3 q3⟩
theorem q_cx (F : FnX X.prog X.w X.K X.mg X.base g k f fd ps (spD T X.K d)) (hr : Room k X.A) (hq : g = true → X.A.guards = some []) (hg : Gl X x) (hm : X.mg x = some (.ref f)) (hk : PySem.W.keepIn X.K (.ref f) = true) (hb : KA X.K fd ps n [] src)
    (ha : DPA T X (e :: es) ta) (hdb : (x == ("__debug__" : Str)) = false := by decide) (he : starEach (e :: es) X.env = (false, eval e X.env) :: starEach es X.env := by rfl) (hpl : (backTo pos (starEach es X.env)).any (·.1) = false := by rfl) :
    DPE T X (.Call (.Name x p) (e :: es) [] pos) (dCallX n 0 src d ta dNil) := by
  obtain ⟨u, a1, a2⟩ := ha.ex
  refine ⟨tCallX n 0 src (spD T X.K d) u tNil, ⟨fun pins s σ H Q I h => ?_⟩, de_callX a2 fun δ M Q σ F H R hs hh ht k => k [] [] F M H .refl hh .nil ht⟩
  refine wpAny_Call_Name_kw (ld_glob I hg hm (PySem.W.callWith_K (h₀ := X.base) I.ok.mod.kin hk (thn (a1.run pos pins s σ H _ I h) fun us s1 z => ?_) he hpl) hdb)
  obtain ⟨vs, H1, I1, r, z⟩ := z
  exact ⟨I1.kIn, run_fx (ws := []) F hr hq hb I1 r .nil z.1.1 rfl z.2⟩
theorem q_cx0 (F : FnX X.prog X.w X.K X.mg X.base g k f fd ps (spD T X.K d)) (hr : Room k X.A) (hq : g = true → X.A.guards = some []) (hg : Gl X x) (hm : X.mg x = some (.ref f)) (hk : PySem.W.keepIn X.K (.ref f) = true) (hb : KA X.K fd ps 0 [] src)
    (hdb : (x == ("__debug__" : Str)) = false := by decide) : DPE T X (.Call (.Name x p) [] [] pos) (dCallX 0 0 src d dNil dNil) := by
  refine ⟨tCallX 0 0 src (spD T X.K d) tNil tNil, ⟨fun pins s σ H Q I h => ?_⟩, de_callX (fun δ M Q σ F H R hs hh ht k => k [] [] F M H .refl hh .nil ht) fun δ M Q σ F H R hs hh ht k => k [] [] F M H .refl hh .nil ht⟩
  exact wpAny_Call_Name_kw (ld_glob I hg hm (PySem.W.callWith_K0 I.kIn hk (run_fx (us := []) (ws := []) F hr hq hb I .nil .nil rfl rfl h.2)) hdb)
theorem q_cxK (F : FnX X.prog X.w X.K X.mg X.base g k f fd ps (spD T X.K d)) (hr : Room k X.A) (hq : g = true → X.A.guards = some []) (hg : Gl X x) (hm : X.mg x = some (.ref f)) (hk : PySem.W.keepIn X.K (.ref f) = true) (hb : KA X.K fd ps n ks src)
    (ha : DPA T X (e :: es) ta) (hkw : DPK T X kws tk) (hall : (backToKw pos (keywordEach kws X.env)).all (·.1.isSome) = true := by rfl) (hks : (backToKw pos (keywordEach kws X.env)).filterMap (·.1) = ks := by rfl)
    (hdb : (x == ("__debug__" : Str)) = false := by decide) (he : starEach (e :: es) X.env = (false, eval e X.env) :: starEach es X.env := by rfl)
    (hpl : ((backTo pos (starEach (e :: es) X.env)).any (·.1) || (backToKw pos (keywordEach kws X.env)).any (·.1.isNone)) = false := by rfl) :
    DPE T X (.Call (.Name x p) (e :: es) kws pos) (dCallX n ks.length src d ta tk) := by
  obtain ⟨u, a1, a2⟩ := ha.ex
  obtain ⟨uk, b1, b2⟩ := hkw.ex
  refine ⟨tCallX n ks.length src (spD T X.K d) u uk, ⟨fun pins s σ H Q I h => ?_⟩, de_callX a2 b2⟩
  refine wpAny_Call_Name_kw (ld_glob I hg hm (PySem.W.callWith_KW (h₀ := X.base) I.ok.mod.kin hk hall (thn (a1.run pos pins s σ H _ I h) fun us s1 z => ?_) hpl he) hdb)
  obtain ⟨vs, H1, I1, r, z⟩ := z
  refine thn (b1.run pos pins s1 σ H1 _ I1 z) fun ws s2 z => ?_
  obtain ⟨zs, H2, I2, rz, z⟩ := z
  refine ⟨I2.kIn, ?_⟩
  rw [hks]
  exact run_fx F hr hq hb I2 r rz z.1.1 z.1.2 z.2
theorem q_cx0K (F : FnX X.prog X.w X.K X.mg X.base g k f fd ps (spD T X.K d)) (hr : Room k X.A) (hq : g = true → X.A.guards = some []) (hg : Gl X x) (hm : X.mg x = some (.ref f)) (hk : PySem.W.keepIn X.K (.ref f) = true) (hb : KA X.K fd ps 0 ks src)
    (hkw : DPK T X kws tk) (hall : (backToKw pos (keywordEach kws X.env)).all (·.1.isSome) = true := by rfl) (hks : (backToKw pos (keywordEach kws X.env)).filterMap (·.1) = ks := by rfl)
    (hdb : (x == ("__debug__" : Str)) = false := by decide)
    (hpl : ((backTo pos (starEach [] X.env)).any (·.1) || (backToKw pos (keywordEach kws X.env)).any (·.1.isNone)) = false := by rfl) :
    DPE T X (.Call (.Name x p) [] kws pos) (dCallX 0 ks.length src d dNil tk) := by
  obtain ⟨uk, b1, b2⟩ := hkw.ex
  refine ⟨tCallX 0 ks.length src (spD T X.K d) tNil uk, ⟨fun pins s σ H Q I h => ?_⟩, de_callX (fun δ M Q σ F H R hs hh ht k => k [] [] F M H .refl hh .nil ht) b2⟩
  refine wpAny_Call_Name_kw (ld_glob I hg hm (PySem.W.callWith_KW0 (h₀ := X.base) I.ok.mod.kin hk hall (thn (b1.run pos pins s σ H _ I h) fun ws s2 z => ?_) hpl) hdb)
  obtain ⟨zs, H2, I2, rz, z⟩ := z
  refine ⟨I2.kIn, ?_⟩
  rw [hks]
  exact run_fx (us := []) F hr hq hb I2 .nil rz z.1.1 z.1.2 z.2
end

/-! ### a def by its body -/
/-- a def as it stands behind the top, whatever its defaults -/
structure FunX (K : PySem.W.Frag) (x qual : Str) (st : Stmt) (f : Addr) (fd : FuncData) (cdv : Value) : Prop where
  ex : ∃ (oc : Value) (od : Option Addr) (dV kV doc pm : Value) (an : Option Addr) (ct : Value) (osl : Array (Option Value)),
    fd = PySem.W.fnOf x qual (defArgs st) (defBody st) (defScope st) dV kV doc pm an cdv ct ∧ K.lookup f = some ⟨oc, od, .func fd, osl⟩ ∧ PySem.W.codeIn K cdv qual = true
  kp : PySem.W.keepIn K (.ref f) = true
section
variable {T : List (Addr × Str)} {P : Program} {w : World} {K : PySem.W.Frag} {mg : Str → Option Value} {base : Heap}
theorem okX {x qual : Str} {st : Stmt} {f : Addr} {fd : FuncData} {cdv : Value} {N ps : List Str} {g : Bool} {k : Nat} {d : DRA} {t : DTS} (F : FunX K x qual st f fd cdv) (S : FnScope N ps (defScope st)) (len : ∀ ds M R, d ds M R → ds.length = ps.length)
    (hbody : ∀ (A : Around) (outer : List Env) (s : Shared) (H : Hp), Room k (A.deeper (envOfC qual (defScope st) s.heap.objs.size f cdv)) → (g = true → A.guards = some []) → DPSs T (cxOf CX0 P w K mg base N qual (defScope st) f cdv A outer s H E0).nox (defBody st) t)
    (sem : ∀ ds M R, d ds M R → t { nx := fun _ M' => R .non M', rt := R } (dstart N ds) M) : FnX P w K mg base g (k + 1) f fd ps (spD T K d) := by
  obtain ⟨oc, od, dV, kV, doc, pm, an, ct, osl, rfl, lk, hcd⟩ := F.ex
  refine ⟨fun vs H Q E h => ?_, fun A outer s H args us vs Q hr hq e0 hb r h => ?_⟩
  · obtain ⟨G, M, ds, R, _, i, q, _⟩ := h
    rw [i.len]; exact len ds M R q
  · obtain ⟨G, M, ds, R, hh, hi, q, kk⟩ := h
    have hl : vs.length = ps.length := by rw [hi.len]; exact len ds M R q
    have KX : K.In s.heap := e0.mod.kin.keeps fun b o e => (e0.bs b o e).1
    refine Att.call_fn KX (e0.mod.nolimit.keeps fun b o e => (e0.bs b o e).1) lk hcd hr.depth hb ?_ (fun s1 x => ?_) S.co S.gen S.kind
    · refine List.all_eq_true.mpr fun y hy => ?_
      obtain ⟨n, v⟩ := y
      rcases S.par n (List.of_mem_zip hy).1 with z | z
      · simp only [z, beq_self_eq_true, Bool.true_or]
      · simp only [z, beq_self_eq_true, Bool.or_true]
    · obtain ⟨ts, t1, t2⟩ := (hbody A outer s H (hr.deeper _) hq).ex
      have I : Inv (cxOf CX0 P w K mg base N qual (defScope st) f cdv A outer s H E0) [] (L2.start N vs) H s1 := inv_start S hr.hd e0 hl r x
      have body := t2 { nx := fun _ M' => R .non M', rt := R } (dstart N ds) M (L2.start N vs) G H { nx := fun _ H' => Q .non H', rt := Q } (sl_start hi) hh (sem ds M R q)
        ⟨fun σ δ F' M' H' u h s q => kk .non .non F' M' H' u h (by simp only [Is]) q, fun v d F' M' H' u h i q => kk v d F' M' H' u h i q, fun _ _ _ _ _ _ _ _ q => q.elim, fun _ _ _ _ _ _ _ _ q => q.elim⟩
      refine wpAny_mono (t1.nox.run [] s1 (L2.start N vs) H _ I body) (fun fl s' hs => ?_) fun e s' hs => hs
      have fin : ∀ {σ' : L2.St} {H' : Hp} {v : V} {u : Value}, Inv (cxOf CX0 P w K mg base N qual (defScope st) f cdv A outer s H E0) [] σ' H' s' → RelV v u → Q v H' → CE outer P w H s Q u s' :=
        fun J rv q => ⟨_, _, J.os, J.bare, J.base, J.hok, rv, q⟩
      match fl, hs with
      | .ret u, hs =>
        obtain ⟨v, σ', H', J, rv, q⟩ := hs
        exact fin J rv q
      | .next, hs =>
        obtain ⟨σ', H', J, q⟩ := hs
        exact fin (v := V.non) (u := Value.none) J rfl q
      | .brk, hs =>
        obtain ⟨_, _, _, q⟩ := hs
        exact False.elim q
      | .cont, hs =>
        obtain ⟨_, _, _, q⟩ := hs
        exact False.elim q
/-- what holds without the fact, holds with it -/
theorem FnX.up {f : Addr} {fd : FuncData} {ps : List Str} {sp : Sp} {g : Bool} {j k : Nat} (F : FnX P w K mg base false j f fd ps sp) (h : j ≤ k) : FnX P w K mg base g k f fd ps sp :=
  ⟨F.len, fun A outer s H args us vs Q hr _ => F.run A outer s H args us vs Q (hr.mono h) fun z => by cases z⟩
theorem FnX.mono {f : Addr} {fd : FuncData} {ps : List Str} {sp : Sp} {g : Bool} {j k : Nat} (F : FnX P w K mg base g j f fd ps sp) (h : j ≤ k) : FnX P w K mg base g k f fd ps sp :=
  ⟨F.len, fun A outer s H args us vs Q hr => F.run A outer s H args us vs Q (hr.mono h)⟩
end
end DL

namespace DL
open PySem PySem.Spec PyProof.Rows L2

/-! ### sorted(range(n), key=lambda place: (levels[place] >= 0, -levels[place], -place)) -/
def lamArgs (p0 : Pos) : Arguments := { posonlyargs := [], args := [⟨"place", none, p0⟩], vararg := none, kwonlyargs := [], kw_defaults := [], kwarg := none, defaults := [] }
def lamBody (q0 q1 q2 q3 q4 q5 q6 q7 q8 q9 q10 q11 : Pos) : Expr :=
  .Tuple [.Compare (.Subscript (.Name "levels" q0) (.Name "place" q1) q2) [.GtE] [.Constant (.int 0) 0 q3] q4, .UnaryOp .USub (.Subscript (.Name "levels" q5) (.Name "place" q6) q7) q8, .UnaryOp .USub (.Name "place" q9) q10] 0 q11
def lamSc : Scope := { kind := .function, names := [("place", .local), ("levels", .free)], isGenerator := false, isCoroutine := false, more := [] }
def keyD (ls : List Int) (i : Nat) : PyData := .tuple [.bool (decide (0 ≤ ls.getD i 0)), .int (-(ls.getD i 0)), .int (-(i : Int))]
section
variable {prog : Program} {w : World} {A : Around} {E : Value → Shared → Prop} {s : Shared}
theorem lam_bind (p0 : Pos) (q : Str) (b : Expr) (sc : Scope) (cl : List (Str × Addr)) (pm cdv ctv v : Value) : bindArgs (PySem.W.kla_fn "<lambda>" q (lamArgs p0) b sc cl pm cdv ctv) ⟨[v], []⟩ = pure [(("place" : Str), v)] := by rfl
theorem key_turn {f c c' : Addr} {q : Str} {q0 q1 q2 q3 q4 q5 q6 q7 q8 q9 q10 q11 p0 : Pos} {pm ctv : Value} {cl : List (Str × Addr)} {l : Addr} {vs : List Value} {ls : List Int} {i : Nat} {t : Tok}
    (hroom : A.depth < recursionLimit) (hlim : s.heap.NoLimit) (hf : s.heap.get? f = some (PySem.W.kla_obj "<lambda>" q (lamArgs p0) (lamBody q0 q1 q2 q3 q4 q5 q6 q7 q8 q9 q10 q11) lamSc cl pm c' ctv)) (hcd : s.heap.CodeRec (.ref c') q)
    (hcl : cl.lookup ("levels" : Str) = some c) (hc : s.heap.IsCell c (some (.ref l))) (hl : s.heap.IsList l vs.toArray) (hi : IntsAre vs ls) (h1 : i < ls.length) (h2 : i < 16777216) :
    wpAny (model prog w) A (call (.ref f) [.int i t]) (PySem.W.KeyPure (keyD ls i) s) (fun _ _ => False) s := by
  refine wpAny_call (codeAny_mono (R := fun r s' => ∃ v, r = .ok (.ret v) ∧ PySem.W.KeyPure (keyD ls i) s v s') ?_ fun r s' hr => ?_)
  · refine PySem.W.kla_callFunE hroom hf rfl rfl rfl rfl hcd ?_
    rw [lam_bind]
    refine wpAny_pure (wpAny_newFunctionEnv (show ∀ x ∈ lamSc.names, x.2 ≠ .cell by decide) (fun x hx => by
      have ex : x = (("place" : Str), Value.int i t) := by simpa using hx
      subst ex; rfl) (fun h₁ hns hsb => ⟨hlim.fresh _ hsb, ?_⟩) rfl)
    have kp : ∀ b o, s.heap.get? b = some o → h₁.get? b = some o := fun b o e => hsb.extBut b o (Nat.ne_of_lt (Heap.lt_size e)) (Heap.get?_push_of_some _ e)
    have hc1 : h₁.IsCell c (some (.ref l)) := by obtain ⟨o, e1, e2⟩ := hc; exact ⟨o, kp _ _ e1, e2⟩
    have hl1 : h₁.IsList l vs.toArray := by obtain ⟨o, e1, e2⟩ := hl; exact ⟨o, kp _ _ e1, e2⟩
    have i0 : (0 : Int) ≤ i := by omega
    have i1 : (i : Int) < ls.length := by omega
    have i2 : (i : Int) < 2 ^ 63 := by omega
    have ei : ((i : Int).toNat) = i := by omega
    generalize hE : newEnv lamSc s.heap.objs.size mainGlobals cl _ (some f) _ none _ = env
    have e1 : env.scope.kind = .function := by subst hE; rfl
    have e2 : env.kindOf "levels" = some .free := by subst hE; rfl
    have e3 : env.kindOf "place" = some .local := by subst hE; rfl
    have e4 : env.cells.lookup ("levels" : Str) = some c := by subst hE; exact hcl
    have e5 : env.locals = s.heap.objs.size := by subst hE; rfl
    refine PySem.W.kla_codeExpr (wpAny_mono (Q := fun v s' => PySem.W.KeyPure (keyD ls i) s v s') (E := fun _ _ => False) ?_ (fun v _ x => ⟨v, rfl, x⟩) fun _ _ x => x.elim)
    obtain ⟨ti, hx⟩ := hi.get i (ls.getD i 0) (by rw [List.getD_eq_getElem?_getD, List.getElem?_eq_getElem h1]; rfl)
    have ldL : ∀ {p1 : Pos} {R : Value → Shared → Prop} (tk : Nat), R (.ref l) { s with heap := h₁, toks := tk } → wpAny (model prog w) (A.deeper env) (eval (.Name "levels" p1) env) R (fun _ _ => False) { s with heap := h₁, toks := tk } := fun tk hR =>
      wpAny_Name (wpAny_loadName_free e1 e2 e4 hc1 hR)
    have ldP : ∀ {p1 : Pos} {R : Value → Shared → Prop} (tk : Nat), R (.int i t) { s with heap := h₁, toks := tk } → wpAny (model prog w) (A.deeper env) (eval (.Name "place" p1) env) R (fun _ _ => False) { s with heap := h₁, toks := tk } := fun tk hR =>
      wpAny_Name (wpAny_loadName_local e1 e3 (by rw [e5]; exact hns) rfl hR)
    have get : ∀ {p1 p2 p3 : Pos} {R : Value → Shared → Prop} (tk : Nat), R (.int (ls.getD i 0) ti) { s with heap := h₁, toks := tk } →
        wpAny (model prog w) (A.deeper env) (eval (.Subscript (.Name "levels" p1) (.Name "place" p2) p3) env) R (fun _ _ => False) { s with heap := h₁, toks := tk } := fun {p1 p2 p3 R} tk hR => by
      refine wpAny_Subscript_Name (T := "list") slot_list_getitem.lookup (ldL tk (ldP tk ⟨hl1.typeIs, ?_⟩))
      exact wpAny_getItem_list hl1 i0 i2 (by rw [ei]; simpa using hx) hR
    refine wpAny_Tuple_spliced ?_
    refine Calls.spliced_cons (wpAny_Compare1 (get _ (wpAny_Constant_int (PyProof.Rows.ge_int ?_)))) 
    refine Calls.spliced_cons (wpAny_UnaryOp (get _ (PyProof.Rows.neg_int ?_)))
    refine Calls.spliced_cons (wpAny_UnaryOp (ldP _ (PyProof.Rows.neg_int ?_)))
    refine Calls.spliced_nil ⟨?_, ?_⟩
    · rw [sizeLine_eq]; exact (by decide : (3 : Nat) ≤ 16777216)
    refine ⟨_, _, rfl, fun b o e => Heap.get?_push_of_some _ (kp b o e), ?_⟩
    exact .tuple (Heap.get?_push_size _ rfl) rfl rfl (.cons (.bool _) (.cons (.int _ _) (.cons (.int _ _) .nil)))
  · obtain ⟨v, rfl, hk⟩ := hr
    exact hk
end
/-- which place comes first -/
def keyLt (ls : List Int) (i j : Nat) : Prop :=
  (ls.getD i 0 < 0 ∧ 0 ≤ ls.getD j 0) ∨ ((0 ≤ ls.getD i 0 ↔ 0 ≤ ls.getD j 0) ∧ (ls.getD j 0 < ls.getD i 0 ∨ (ls.getD i 0 = ls.getD j 0 ∧ j < i)))
instance (ls : List Int) (i j : Nat) : Decidable (keyLt ls i j) := by unfold keyLt; infer_instance
theorem dataLt_bool (x y : Bool) : PySem.W.dataLt (.bool x) (.bool y) = (!x && y) := by cases x <;> cases y <;> decide
theorem dataLt_key (ls : List Int) (i j : Nat) : PySem.W.dataLt (keyD ls i) (keyD ls j) = decide (keyLt ls i j) := by
  unfold keyD
  rw [PySem.W.dataLt_tuple, PySem.W.dataLt_cons (by simp [PySem.W.alike]), PySem.W.dataLt_cons (by simp [PySem.W.alike]), PySem.W.dataLt_cons (by simp [PySem.W.alike]), dataLt_bool, PySem.W.dataLt_int, PySem.W.dataLt_int]
  have e : PyProof.Rows.lexLt itemOrd (PySem.W.keyToksAll []) (PySem.W.keyToksAll []) = false := lex_irrefl _
  rw [e]
  simp only [PyData.eqv, beq_iff_eq]
  rw [Bool.eq_iff_iff, decide_eq_true_iff]
  unfold keyLt
  generalize ls.getD i 0 = x
  generalize ls.getD j 0 = y
  by_cases h1 : 0 ≤ x <;> by_cases h2 : 0 ≤ y <;> by_cases h3 : x = y <;> by_cases h4 : (i : Int) = j <;> simp [h1, h2, h3, h4] <;> omega
theorem keyLt_trans {ls : List Int} {i j k : Nat} (h1 : keyLt ls i j) (h2 : keyLt ls j k) : keyLt ls i k := by
  unfold keyLt at *
  omega
theorem keyLt_tri {ls : List Int} (i j : Nat) (h : i ≠ j) : keyLt ls i j ∨ keyLt ls j i := by
  unfold keyLt
  omega
theorem keyLt_irr {ls : List Int} (i : Nat) : ¬keyLt ls i i := by unfold keyLt; omega
/-- the places in the order of their keys -/
theorem sorted_keys (ls : List Int) (n : Nat) : ((List.range n).mergeSort (PySem.W.dataLe false (keyD ls))).Perm (List.range n) ∧ ((List.range n).mergeSort (PySem.W.dataLe false (keyD ls))).Pairwise (keyLt ls) := by
  have e : PySem.W.dataLe false (keyD ls) = fun i j => !decide (keyLt ls j i) := by
    funext i j
    show (!PySem.W.dataLt (keyD ls j) (keyD ls i)) = _
    rw [dataLt_key]
  have hp : ((List.range n).mergeSort (PySem.W.dataLe false (keyD ls))).Perm (List.range n) := List.mergeSort_perm _ _
  refine ⟨hp, ?_⟩
  have hs := List.pairwise_mergeSort (le := PySem.W.dataLe false (keyD ls)) (fun a b c => by
    rw [e]
    simp only [Bool.not_eq_true', decide_eq_false_iff_not]
    intro h1 h2 h3
    rcases Nat.lt_trichotomy a b with h | h | h
    · rcases keyLt_tri (ls := ls) a b (by omega) with h' | h'
      · exact h2 (keyLt_trans h3 h')
      · exact h1 h'
    · subst h; exact h2 h3
    · rcases keyLt_tri (ls := ls) a b (by omega) with h' | h'
      · exact h2 (keyLt_trans h3 h')
      · exact h1 h') (fun a b => by
    rw [e]
    simp only [Bool.or_eq_true, Bool.not_eq_true', decide_eq_false_iff_not]
    by_cases h : keyLt ls b a
    · exact .inr fun h' => keyLt_irr a (keyLt_trans h' h)
    · exact .inl h) (List.range n)
  have hn : ((List.range n).mergeSort (PySem.W.dataLe false (keyD ls))).Nodup := hp.nodup_iff.mpr List.nodup_range
  refine (hs.and hn).imp fun {a b} h => ?_
  obtain ⟨h1, h2⟩ := h
  rw [e] at h1
  simp only [Bool.not_eq_true', decide_eq_false_iff_not] at h1
  rcases keyLt_tri (ls := ls) a b h2 with h | h
  · exact h
  · exact absurd h h1
theorem args_sortedK (a v : Value) : argsOk "sorted" ⟨[a], [(Str.ofString "key", v)]⟩ := by unfold argsOk; kernel_rfl
theorem args_sortK (a v : Value) : argsOk "list.sort" ⟨[a], [(Str.ofString "key", v)]⟩ := by unfold argsOk; kernel_rfl
/-- the places in the order of their keys -/
def kpl (ls : List Int) (n : Nat) : List Nat := (List.range n).mergeSort (PySem.W.dataLe false (keyD ls))
section
variable {T : List (Addr × Str)} {X : Cx} {e : Expr} {te : TE} {p q pos lpos : Pos}
def tSrt (T : List (Addr × Str)) (K : PySem.W.Frag) (i : Nat) (te : TE) : TE := fun σ H Q => te σ H fun x H1 => ∃ (n : Nat) (ls : List Int) (l : Addr), x = .int n ∧ σ[i]? = some (some (.ref l)) ∧ SqL K H1 l (ls.map V.int) ∧ n ≤ ls.length ∧ n ≤ 16777216 ∧ LamX.Tabs T H1 ∧
  ∀ r H2, H1 r = none → LamX.ExtN (upd H1 r (.rng 0 n)) H2 → LamX.Tabs T H2 → ∀ a, H2 a = none → Q (.ref a) (upd H2 a (.lst ((kpl ls n).map fun j => V.int (j : Nat))))
theorem vals_places : ∀ {out : List Value} {ps : List Nat}, PySem.W.EachIs (fun (v : Value) (j : Nat) => ∃ t, v = .int (j : Int) t) out ps → Vals (ps.map fun j => V.int (j : Nat)) out
  | _, _, .nil => .nil
  | _, _, .cons h t => .cons h (vals_places t)
theorem each_of_get {α β : Type} {R : α → β → Prop} : ∀ {vs : List α} {bs : List β}, vs.length = bs.length → (∀ (i : Nat) (v : α) (b : β), vs[i]? = some v → bs[i]? = some b → R v b) → PySem.W.EachIs R vs bs
  | [], [], _, _ => .nil
  | [], _ :: _, h, _ => by simp at h
  | _ :: _, [], h, _ => by simp at h
  | v :: vs, b :: bs, h, f => .cons (f 0 v b rfl rfl) (each_of_get (by simpa using h) fun i v b h1 h2 => f (i + 1) v b (by simpa using h1) (by simpa using h2))
theorem extN_seq {K : PySem.W.Frag} {H H' : Hp} {a : Addr} {xs : List V} (e : LamX.ExtN H H') (h : SqL K H a xs) : SqL K H' a xs := by
  rcases h with (h | ⟨o, h⟩) | h
  · exact .inl (.inl (e _ _ h fun ps z => by cases z))
  · exact .inl (.inr ⟨o, e _ _ h fun ps z => by cases z⟩)
  · exact .inr h
theorem upd_seq {K : PySem.W.Frag} {H : Hp} {a b : Addr} {o : HO} {xs : List V} (n : H b = none) (h : SqL K H a xs) : SqL K (upd H b o) a xs :=
  Same.seq (fun c u q => by rw [upd_ne (ne_of_none q n)]; exact q) h
theorem pe_srt {k : Nat} {c P : Addr} {i : Nat} {q0 q1x q2 q3 q4 q5 q6 q7 q8 q9 q10 q11 p0 kp pos2 : Pos} (hc : X.calm = true) (hg1 : Gl X "sorted") (hm1 : X.mg "sorted" = none) (hg2 : Gl X "range") (hm2 : X.mg "range" = none) (he : PE X e te)
    (TB : LamX.TabB X.base X.mg c P) (hcode : X.env.code = .ref c) (hmT : (P, X.env.qual ++ "<lambda>") ∈ T) (hu : ∀ p ∈ T, p.1 = P → p.2 = X.env.qual ++ "<lambda>") (hr : Room (k + 1) X.A)
    (hN : X.N[i]? = some ("levels" : Str)) (hv : X.env.scope.names.lookup ("levels" : Str) = some .cell) (na : starEach [e] X.env = (false, eval e X.env) :: starEach [] X.env := by rfl) :
    PE X (.Call (.Name "sorted" p) [.Call (.Name "range" q) [e] [] pos2] [⟨some "key", .Lambda (lamArgs p0) (lamBody q0 q1x q2 q3 q4 q5 q6 q7 q8 q9 q10 q11) lamSc lpos, kp⟩] pos) (tSrt T X.K i te) := by
  refine ⟨fun pins s σ H Q I h => ?_⟩
  refine wpAny_Call_Name_kw (ld_blt I hg1 hm1 boot_sorted ?_)
  refine PyProof.Rows.callWith_kw ?_
  have hfree : ∀ y ∈ lamSc.names, y.2 = .free → ∃ c, X.env.cells.lookup y.1 = some c := fun y hy e => by
    have hy' : y = (("place" : Str), NameKind.local) ∨ y = (("levels" : Str), NameKind.free) := by simpa [lamSc] using hy
    rcases hy' with rfl | rfl
    · cases e
    · exact I.ok.has _ (.inl hv)
  refine args_cons (Call_ (ld_blt I hg2 hm2 boot_range (PyProof.Rows.callWith_type1 (one_arg he I h (fun v s1 x H1 I1 r1 q1 => ?_) na) na))) rfl
  obtain ⟨n, ls, l, rfl, hσ, hl, hn, hn2, hT, q1⟩ := q1
  obtain ⟨tn, rfl⟩ := r1
  refine call_range_1 (args_nil ?_)
  have I2 : Inv X pins σ (upd H1 s1.heap.objs.size (.rng 0 n)) { s1 with heap := s1.heap.push { cls := .type "range", data := .fields #[.int 0 s1.toks, .int n tn, .int 1 (s1.toks + 1)] }, toks := s1.toks + 1 + 1 } :=
    I1.laid (fun b u e => Heap.get?_push_of_some _ e) (Nat.le_refl _) ⟨_, _, _, Heap.get?_push_size _ rfl⟩
  have fr : H1 s1.heap.objs.size = none := I1.hok.fresh (Nat.le_refl _)
  generalize hs2 : ({ s1 with heap := s1.heap.push { cls := .type "range", data := .fields #[.int 0 s1.toks, .int n tn, .int 1 (s1.toks + 1)] }, toks := s1.toks + 1 + 1 } : Shared) = s2 at I2 ⊢
  generalize s1.heap.objs.size = r at I2 fr ⊢
  show wpAny _ _ (evalAll ((do let v ← eval (.Lambda (lamArgs p0) (lamBody q0 q1x q2 q3 q4 q5 q6 q7 q8 q9 q10 q11) lamSc lpos) X.env; standAt pos; pure v) :: (backToKw pos (keywordEach [] X.env)).map (·.2))) _ _ s2
  refine wpAny_evalAll_cons (wpAny_bind (LamX.lam_make2 I2 TB hcode hmT hu (tabs_new fr hT) rfl hfree fun f c' pm ctv H3 s3 I3 eN T3 hf hfn hff hco => wpAny_bind (wpAny_standAt (wpAny_pure (wpAny_evalAll_nil ?_)))))
  have er : H3 r = some (.rng 0 n) := eN _ _ upd_same fun ps z => by cases z
  obtain ⟨ta, tb, tc, hrg⟩ : ObjOk X.prog X.w H3 s3.heap r (.rng 0 n) := I3.hok r _ er
  show wpAny (model X.prog X.w) X.A (call (.builtin "sorted") [.ref r] [(Str.ofString "key", .ref f)]) _ _ s3
  refine call_function_entry_kw kind_sorted plain_sorted entry_sorted (args_sortedK _ _) ?_
  unfold Builtin.«sorted»
  refine wpAny_bind (m := checkCount "sorted" 1 1 _) (wpAny_pure ?_)
  have hd : X.A.handled = none := I3.ok.hd hc
  refine wpAny_bind (L2.collect_range (A := X.A.in1) (n := n) hd hrg (small_one (by omega) (by omega) (by omega) (by omega)) (by have := rangeSize_nat 0 (n : Int); simpa using this) (by omega) fun h4 tk4 acc kp4 hacc => ?_)
  have hal : acc.toList.length = n := by rw [Array.length_toList]; exact hacc.1
  refine wpAny_bind (wpAny_newList ?_ (by rw [hal, sizeLine_eq]; exact hn2))
  have I4 : Inv X pins σ H3 { s3 with heap := h4, toks := tk4 } := I3.kept kp4
  -- what stands before the new list is kept by all that follows
  have keepA : ∀ {g : Heap}, PySem.W.KeepsBut h4.objs.size (h4.push { cls := .type "list", data := .seq acc.toList.toArray }) g → ∀ b o, h4.get? b = some o → g.get? b = some o := fun kb b o e =>
    kb b o (Nat.ne_of_lt (Heap.lt_size e)) (Heap.get?_push_of_some _ e)
  have ee : PySem.W.EachIs (fun (v : Value) (j : Nat) => ∃ t, v = .int (j : Int) t) acc.toList (List.range n) := by
    refine each_of_get (by rw [hal, List.length_range]) fun j v b h1 h2 => ?_
    obtain ⟨t, rfl⟩ := hacc.2 j v (by rw [← Array.getElem?_toList]; exact h1)
    have hj : j < n := by
      have := (List.getElem?_eq_some_iff.mp h1).1
      omega
    rw [List.getElem?_range hj] at h2
    cases h2
    exact ⟨t, by rw [Int.zero_add, Int.mul_one]⟩
  have hl3 : SqL X.K H3 l (ls.map V.int) := extN_seq eN (upd_seq fr hl)
  obtain ⟨its, vi, ⟨ol, nl, eol, ol1, ol2, ol3⟩, _⟩ := I4.list hl3
  obtain ⟨⟨oc, vc, tt, hoc, hdc, hvc⟩, _, _⟩ := I4.hok c' _ hco
  obtain ⟨m, hns, hloc⟩ := I4.loc
  obtain ⟨u, ru, lk⟩ := hloc i _ _ hN hσ (.inr (.inl hv))
  obtain rfl : u = .ref l := ru
  obtain ⟨cl, hcl, hcell⟩ : ∃ cl, X.env.cells.lookup ("levels" : Str) = some cl ∧ h4.IsCell cl (some (.ref l)) := by
    rcases lk with ⟨z, _⟩ | ⟨_, cl, h1, h2⟩
    · rw [show X.env.kindOf "levels" = some .cell from hv] at z
      cases z
    · exact ⟨cl, h1, h2⟩
  refine wpAny_bind (wpAny_holding (PySem.W.list_sort_key_data (A := X.A.in1) (b := false) (bs := List.range n) (keyD ls) (Heap.get?_push_size _ rfl) ee
    (PySem.W.AllAlike.of fun a b => by simp [keyD, PySem.W.alike, PySem.W.alikeAll]) (PySem.W.Sortable.tuples fun b => ⟨_, _, rfl⟩) (by rw [List.length_range, sizeLine_eq]; exact hn2)
    (fun j _ => by
      have h1 := hr.un
      have h2 : (keyD ls j).depth = 1 := by simp [keyD, PyData.depth, PyData.depthAll]
      rw [h2]
      show X.A.units + 1 + 1 + 1 < cLine
      omega) (args_sortK _ _) (by rfl) (fun v j hv hj h5 tk5 kb => ?_) fun out cc h5 tk5 kb e5 len5 each5 => ?_))
  · obtain ⟨t, rfl⟩ := hv
    have kk := keepA kb
    have hj' : j < n := List.mem_range.mp hj
    refine key_turn (s := { s3 with heap := h5, toks := tk5 }) (A := X.A.in1.in1) (c := cl) (l := l) (vs := its) hr.depth (I4.nolimit.keeps kk) (kk _ _ (kp4 _ _ hf)) ⟨c', oc, vc, tt, rfl, kk _ _ hoc, hdc, hvc⟩ ?_ ?_ ⟨ol, kk _ _ eol, ol1, nl, ol3⟩ vi.ints (by omega) (by omega)
    · show List.lookup _ [(("levels" : Str), (X.env.cells.lookup ("levels" : Str)).getD 0)] = some cl
      rw [hcl]
      rfl
    · obtain ⟨o, e1, e2⟩ := hcell
      exact ⟨o, kk _ _ e1, e2⟩
  · refine wpAny_pure ⟨_, rfl, .ref h4.objs.size, upd H3 h4.objs.size (.lst ((kpl ls n).map fun j => V.int (j : Nat))), ?_, rfl, q1 r H3 fr eN T3 _ (I4.hok.fresh (Nat.le_refl _))⟩
    refine I4.laid (keepA kb) (Nat.le_refl _) ⟨?_, out, cc, vals_places each5, e5⟩
    have := (sorted_keys ls n).1.length_eq
    rw [List.length_range] at this
    show ((kpl ls n).map _).length ≤ _
    unfold kpl
    rw [List.length_map, this, sizeLine_eq]
    exact hn2
end

/-- what else stands in the heap is of no matter -/
theorem Hd.ext {T : List (Addr × Str)} {K : PySem.W.Frag} {F H H2 : Hp} {M : Mp} (h : Hd T K F M H) (e : LamX.ExtN H H2) (t : LamX.Tabs T H2) : Hd T K F M H2 ∧ Up F M H F M H2 := by
  refine ⟨⟨fun b o q => e _ _ (h.fr b o q) fun ps z => h.ft b ps (by rw [q, z]), h.ft, t, fun a m q => ?_⟩, Same.refl F, fun a o ho n f m => ⟨e _ _ ho n.1, f, m⟩⟩
  obtain ⟨f0, o, ho, r⟩ := h.mu a m q
  exact ⟨f0, o, e _ _ ho r.noTbl, r⟩
def dSrt (i : Nat) (te : DTE) : DTE := fun δ M Q => te δ M fun d M1 => match d with
  | .int z => ∃ (n : Nat) (ls : List Int) (dl : D), z = n ∧ n ≤ 16777216 ∧ δ[i]? = some (some dl) ∧ asM M1 dl (fun xs => xs = ls.map D.int) ∧ n ≤ ls.length ∧
      ∀ ps : List Nat, ps.Perm (List.range n) → ps.Pairwise (keyLt ls) → ∀ p, M1 p = none → Q (.ref p) (mup M1 p (.lst (ps.map fun j => D.int (j : Nat))))
  | _ => False
theorem isAll_places {K : PySem.W.Frag} {F : Hp} : ∀ ps : List Nat, IsAll K F (ps.map fun j => D.int (j : Nat)) (ps.map fun j => V.int (j : Nat))
  | [] => .nil
  | j :: ps => .cons (by simp only [Is]) (isAll_places ps)
section
variable {T : List (Addr × Str)} {X : Cx} {e : Expr} {te : DTE} {p q pos lpos : Pos}
theorem q_srt {k : Nat} {c P : Addr} {i : Nat} {q0 q1x q2 q3 q4 q5 q6 q7 q8 q9 q10 q11 p0 kp pos2 : Pos} (hc : X.calm = true) (hg1 : Gl X "sorted") (hm1 : X.mg "sorted" = none) (hg2 : Gl X "range") (hm2 : X.mg "range" = none) (he : DPE T X e te)
    (TB : LamX.TabB X.base X.mg c P) (hcode : X.env.code = .ref c) (hmT : (P, X.env.qual ++ "<lambda>") ∈ T) (hu : ∀ p ∈ T, p.1 = P → p.2 = X.env.qual ++ "<lambda>") (hr : Room (k + 1) X.A)
    (hN : X.N[i]? = some ("levels" : Str)) (hv : X.env.scope.names.lookup ("levels" : Str) = some .cell) (na : starEach [e] X.env = (false, eval e X.env) :: starEach [] X.env := by rfl) :
    DPE T X (.Call (.Name "sorted" p) [.Call (.Name "range" q) [e] [] pos2] [⟨some "key", .Lambda (lamArgs p0) (lamBody q0 q1x q2 q3 q4 q5 q6 q7 q8 q9 q10 q11) lamSc lpos, kp⟩] pos) (dSrt i te) := by
  obtain ⟨u, a1, a2⟩ := he.ex
  refine ⟨_, pe_srt hc hg1 hm1 hg2 hm2 a1 TB hcode hmT hu hr hN hv na, fun δ M Q σ F H R hs hh ht k => ?_⟩
  refine a2 δ M _ σ F H _ hs hh ht fun x dx F1 M1 H1 u1 h1 i1 q1 => ?_
  cases dx with
  | int z =>
    simp only [Is] at i1
    obtain ⟨n, ls, dl, rfl, hn, hδ, hl, hn2, q1⟩ := q1
    obtain ⟨v, e3, e4⟩ := (hs.mono u1.ex).at_ i _ hδ
    obtain ⟨a, vs, xs, rfl, hsq, r, rfl⟩ := asM_of h1 e4 hl
    obtain rfl := r.of_ints
    refine ⟨n, ls, a, i1, e3, hsq, hn2, hn, h1.tb, fun r H2 hr eN T2 b hb => ?_⟩
    have eN1 : LamX.ExtN H1 H2 := fun c o ho no => eN c o (by rw [upd_ne (ne_of_none ho hr)]; exact ho) no
    obtain ⟨h2, u2⟩ := h1.ext eN1 T2
    obtain ⟨_, m0⟩ := h2.none_of hb
    obtain ⟨h3, u3⟩ := h2.newM (o := .lst ((kpl ls n).map fun j => V.int (j : Nat))) (m := .lst ((kpl ls n).map fun j => D.int (j : Nat))) hb ⟨_, rfl, isAll_places _⟩
    have sk := sorted_keys ls n
    exact k _ (.ref b) F1 _ _ ((u1.trans u2).trans u3) h3 (by simp only [Is]) (q1 (kpl ls n) sk.1 sk.2 b m0)
  | _ => exact q1.elim
end
end DL

namespace DL
open PySem PySem.Spec PyProof.Rows L2
section
variable {T : List (Addr × Str)} {X : Cx} {pins : List (Addr × Obj)} {σ : L2.St} {H H0 : Hp} {s s0 s' : Shared}
/-- objects out of sight are changed, generators go on -/
theorem inv_far {ch : List Addr} (I0 : Inv X pins σ H0 s0) (J : Inv X pins σ H s) (hch : ∀ b ∈ ch, s0.heap.objs.size ≤ b ∧ H b = none) (k : ∀ b o, b ∉ ch → s.heap.get? b = some o → s'.heap.get? b = some o) (hg : AllBare s'.gens) (os : s'.os = s.os) : Inv X pins σ H s' := by
  have lt : ∀ {b : Addr} {o : Obj}, s0.heap.get? b = some o → b ∉ ch := fun {b o} e z => Nat.lt_irrefl _ (Nat.lt_of_lt_of_le (Heap.lt_size e) (hch b z).1)
  have locals : X.env.locals ∉ ch := fun z => Nat.lt_irrefl _ (Nat.lt_of_lt_of_le I0.lt (hch _ z).1)
  have r := J.step (h' := s'.heap) (g' := s'.gens) (t' := s'.toks) (d' := s'.drawn) (H' := H) (ch := ch)
    (fun b z => ⟨.inr (Nat.le_trans I0.sz (hch b z).1), fun e => locals (e ▸ z), fun x c hc e => by
      obtain ⟨v, o, ho, _⟩ := I0.cell x c hc
      exact lt ho (e ▸ z), fun p hp e => lt (I0.pin p hp).1 (e ▸ z)⟩)
    (fun b o _ _ n e _ => k b o n e) (fun b o _ _ n e _ => ⟨o.slots, k b o n e⟩) (fun _ _ _ _ n => n) (fun b o n e => ⟨o, k b o n e⟩) (fun _ _ e => e) (fun _ _ _ e => e) (fun b ps e => ⟨#[], by rw [e]; simp⟩)
    (fun m hm => by
      obtain ⟨o, es, ep, ho, q⟩ := hm
      exact ⟨o, es, ep, k _ o locals ho, q⟩)
    (fun b u e => by
      refine (J.hok b u e).stay (fun c v hc q => k c v ?_ q) (fun _ q => q) fun _ _ q => q
      intro z
      rcases hc with z' | z'
      · subst z'; rw [(hch _ z).2] at e; cases e
      · rw [(hch _ z).2] at z'; cases z') hg
  have e : ({ s with heap := s'.heap, gens := s'.gens, drawn := s'.drawn, toks := s'.toks } : Shared) = s' := by
    cases s'; cases os; rfl
  rw [← e]
  exact r
theorem tabs_grow {T : List (Addr × Str)} {H : Hp} {P c' : Addr} {q : Str} {ps : Array Value} {pos : Pos} (nC : H c' = none) (hP : H P = some (.tbl ps)) (ht : TriplesOk ps.toList)
    (ha : ∀ (pos : Pos) (cv : Value), codeAmong pos ps.toList = some cv → ∃ c, cv = .ref c ∧ H c = some (LamX.CodeO c q)) (hu : ∀ p ∈ T, p.1 = P → p.2 = q) (hT : LamX.Tabs T H) :
    LamX.ExtN H (upd (upd H P (.tbl (ps ++ #[rawInt pos.line, rawInt pos.col, .ref c']))) c' (LamX.CodeO c' q)) ∧ LamX.Tabs T (upd (upd H P (.tbl (ps ++ #[rawInt pos.line, rawInt pos.col, .ref c']))) c' (LamX.CodeO c' q)) := by
  have nP : ∀ {b : Addr} {o : HO}, H b = some o → (∀ qs, o ≠ .tbl qs) → b ≠ P := fun {b o} e n z => by
    subst z; exact n ps (Option.some.inj (e.symm.trans hP))
  have eN : LamX.ExtN H (upd (upd H P (.tbl (ps ++ #[rawInt pos.line, rawInt pos.col, .ref c']))) c' (LamX.CodeO c' q)) := fun b o e n => by
    rw [upd_ne (ne_of_none e nC), upd_ne (nP e n)]; exact e
  have toL : (ps ++ #[rawInt pos.line, rawInt pos.col, .ref c']).toList = ps.toList ++ [rawInt pos.line, rawInt pos.col, .ref c'] := by simp
  refine ⟨eN, fun p hp => ?_⟩
  by_cases hb : p.1 = P
  · refine ⟨_, (by rw [upd_ne (ne_of_none (by rw [hb]; exact hP) nC), hb]; exact upd_same), by rw [toL]; exact PySem.TriplesOk_snoc _ _ _ _ ht, fun p' cv hcv => ?_⟩
    rw [toL] at hcv
    rw [hu p hp hb]
    rcases LamX.among_app _ ht hcv with z | z
    · obtain ⟨c0, a1, a2⟩ := ha p' cv z
      exact ⟨c0, a1, eN _ _ a2 LamX.codeO_ne⟩
    · exact ⟨c', z, upd_same⟩
  · obtain ⟨ps', a1, a2, a3⟩ := hT p hp
    refine ⟨ps', by rw [upd_ne (ne_of_none a1 nC), upd_ne hb]; exact a1, a2, fun p' cv hcv => ?_⟩
    obtain ⟨c0, b1, b2⟩ := a3 p' cv hcv
    exact ⟨c0, b1, eN _ _ b2 LamX.codeO_ne⟩
/-- an iterator in the state s2, just made from s1 -/
structure ItOk (X : Cx) (P : Addr) (s1 s2 : Shared) (Ia : Addr) (fp wr : List Addr) (n : Nat) (Pf : Nat → Value → Prop) (St : Nat → Heap → Prop) : Prop where
  walks : ∀ A' : Around, A'.handled = none → Walks X.prog X.w A' Ia fp wr n Pf St
  start : St 0 s2.heap
  fp : ∀ b ∈ fp, b < s2.heap.objs.size ∧ b ≠ P
  wr : ∀ b ∈ wr, s1.heap.objs.size ≤ b
  keep : ∀ b o, s1.heap.get? b = some o → s2.heap.get? b = some o
  same : s2 = { s1 with heap := s2.heap, toks := s2.toks }
  sz : s1.heap.objs.size ≤ s2.heap.objs.size
/-- the tests and the element, quiet -/
def Qz (X : Cx) (P : Addr) (scope : Scope) (x : Str) (ifs : List Expr) (elt : Expr) (s1 : Shared) (wr : List Addr) (Pf : Nat → Value → Prop) (pz : Nat → Bool) (F : Nat → Value → Prop) : Prop :=
  ∀ (cenv : Env) (A' : Around) (E' : Value → Shared → Prop) (i : Nat) (v : Value) (s₂ : Shared) (m₂ : Str → Option Value), cenv.scope = scope → cenv.cells = cloFrom X.env.cells scope.names [] → A'.handled = none → Pf i v → s₂.heap.Ns cenv.locals m₂ → m₂ x = some v → (∀ b o, b ≠ P → b ∉ wr → s1.heap.get? b = some o → s₂.heap.get? b = some o) →
    wpAny (model X.prog X.w) A' (forIn ifs true fun c r => if r = true then do let ok ← isTrue c cenv (eval c cenv); pure (ForInStep.yield ok) else pure (ForInStep.yield r)) (fun ok s₃ => ok = pz i ∧ Keeps s₂ s₃) E' s₂ ∧
    (pz i = true → wpAny (model X.prog X.w) A' (eval elt cenv) (fun y s₃ => F i y ∧ Keeps s₂ s₃) E' s₂)
/-- the generator g, ready to be walked in the state s5; H1: what was held before -/
def GenRdy (T : List (Addr × Str)) (X : Cx) (pins : List (Addr × Obj)) (σ : L2.St) (H1 : Hp) (n : Nat) (F : Nat → Value → Prop) (g : Addr) (s5 : Shared) : Prop :=
  ∃ (fp wr : List Addr) (G : Array GenState → Array GenState → Prop) (St : Nat → Shared → Prop),
    WalksS X.prog X.w X.A.in4 g fp wr G n F St ∧ St 0 s5 ∧ (∀ b ∈ fp, b < s5.heap.objs.size) ∧ (∀ b ∈ wr, b ∈ fp) ∧ g ∈ fp ∧ (∀ i s9, St i s9 → s9.TypeIs (.ref g) "generator") ∧
    ∀ s', Moved wr G s5 s' → ∃ H2, LamX.ExtN H1 H2 ∧ LamX.Tabs T H2 ∧ Inv X pins σ H2 s'
theorem gen_gen {c P : Addr} {elt iter : Expr} {ifs : List Expr} {x : Str} {px gpos : Pos} {scope : Scope} {k : Nat} {Q' : Value → Shared → Prop}
    (hr : Room k X.A) (TB : LamX.TabB X.base X.mg c P) (hcode : X.env.code = .ref c) (S : GxR.GenS X.env scope x) (hm : (P, X.env.qual ++ "<genexpr>") ∈ T) (hu : ∀ p ∈ T, p.1 = P → p.2 = X.env.qual ++ "<genexpr>")
    (hs : ∀ v, genFold iter X.env v = pure v)
    (h : wpAny (model X.prog X.w) X.A (eval iter X.env) (fun xv s1 => ∃ H1, Inv X pins σ H1 s1 ∧ LamX.Tabs T H1 ∧ wpAny (model X.prog X.w) X.A (pyIter xv) (fun it s2 => ∃ Ia fp wr n Pf St pz F, it = .ref Ia ∧ ItOk X P s1 s2 Ia fp wr n Pf St ∧ Qz X P scope x ifs elt s1 wr Pf pz F ∧
      ∀ g s5, GenRdy T X pins σ H1 (passing pz n 0).length (fun j y => ∃ i, (passing pz n 0)[j]? = some i ∧ F i y) g s5 → Q' (.ref g) s5) X.xe s1) X.xe s) :
    wpAny (model X.prog X.w) X.A (eval (.GeneratorExp elt [⟨.Name x px, iter, ifs, 0⟩] scope gpos) X.env) Q' X.xe s := by
  refine wpAny_GeneratorExp_walksQ hr.hd S.co (closure_ok S.free) S.cell S.dot S.loc S.kind hr.depth ?_ hs
  refine thn h fun xv s1 hx => ?_
  obtain ⟨H1, I1, T1, hx⟩ := hx
  refine wpAny_mono hx (fun it s2 hy => ?_) fun _ _ z => z
  obtain ⟨Ia, fp, wr, n, Pf, St, pz, F, rfl, ok, qz, fin⟩ := hy
  obtain ⟨ps, hP, htr, hall⟩ := T1 _ hm
  have e2 := ok.same
  have I2 : Inv X pins σ H1 s2 := by
    rw [e2]; exact I1.kept ok.keep
  have hP1 : s1.heap.get? P = some { cls := .none, data := .fields ps } := I1.hok P _ hP
  have hP2 : s2.heap.get? P = some { cls := .none, data := .fields ps } := ok.keep _ _ hP1
  have cd : PySem.W.CodeHd s2.heap c P := TB.code.keeps I2.bk
  have sz12 := ok.sz
  refine ⟨I2.nolimit, ?_⟩
  -- the code object is there: the generator is made
  have cont : ∀ (code : Value) (s3 : Shared) (H3 : Hp), Inv X pins σ H3 s3 → LamX.ExtN H1 H3 → LamX.Tabs T H3 → (∀ b o, b ≠ P → s2.heap.get? b = some o → s3.heap.get? b = some o) → (∀ b ∈ wr, H3 b = none) → s2.heap.objs.size ≤ s3.heap.objs.size →
      wpAny (model X.prog X.w) X.A (builtinsFor X.env.globals X.env.builtins) (fun bi s₄ =>
        ∃ Ia' fp wr n₀ Pf St₀ pz F, Value.ref Ia = .ref Ia' ∧ (∀ A' : Around, A'.handled = none → Walks X.prog X.w A' Ia' fp wr n₀ Pf St₀) ∧ St₀ 0 s₄.heap ∧ (∀ b ∈ fp, b < s₄.heap.objs.size) ∧ s₄.heap.NoLimit ∧ cStatics ∉ wr ∧
          (∀ href : Heap, (∀ b o, s₄.heap.get? b = some o → href.get? b = some o) →
            QuietGen X.prog X.w (genEnv scope (cloFrom X.env.cells scope.names []) s₄.heap.objs.size code bi X.env) x ifs elt (List.range s₄.heap.objs.size) wr Pf pz F href) ∧
          (∀ a h₅ tk gs, gs.bare = true → s₄.heap.objs.size < a → h₅.objs.size = a + 1 → (∀ b o, s₄.heap.get? b = some o → h₅.get? b = some o) →
            WalksS X.prog X.w X.A.in4 a (a :: s₄.heap.objs.size :: List.range s₄.heap.objs.size) (s₄.heap.objs.size :: wr) (GenOnlyQ s₄.gens.size) (passing pz n₀ 0).length
              (fun j y => ∃ i, (passing pz n₀ 0)[j]? = some i ∧ F i y) (GenAt X.prog X.w X.A.in4 a s₄.gens.size s₄.heap.objs.size (List.range s₄.heap.objs.size) wr pz n₀ F) →
            GenAt X.prog X.w X.A.in4 a s₄.gens.size s₄.heap.objs.size (List.range s₄.heap.objs.size) wr pz n₀ F 0 { s₄ with gens := s₄.gens.push gs, toks := tk, heap := h₅ } →
            Q' (.ref a) { s₄ with gens := s₄.gens.push gs, toks := tk, heap := h₅ })) X.xe s3 := by
    intro code s3 H3 J eN T3 k23 wr3 sz23
    obtain ⟨bm, ob, e1, e2, e3, e4, e5, e6, e7, e8⟩ := TB.bm
    have k13 : ∀ b o, b ≠ P → s1.heap.get? b = some o → s3.heap.get? b = some o := fun b o n e => k23 b o n (ok.keep b o e)
    refine wpAny_builtinsFor (m := X.mg) (by rw [J.ok.glob]; exact J.mod.glob.keeps J.bk) e1 e2 (J.bk _ _ e5) e6 e7 e8 ?_
    refine ⟨Ia, fp, wr, n, Pf, St, pz, F, rfl, ok.walks, (ok.walks X.A hr.hd).frame _ _ _ ok.start (fun b hb o e => k23 b o (ok.fp b hb).2 e), (fun b hb => Nat.lt_of_lt_of_le (ok.fp b hb).1 sz23), J.nolimit, fun hb => ?_, fun href hhref => ⟨fun A' E' i v s₂ m₂ hA hv hn hm hk => ?_, fun A' E' i v s₂ m₂ hA hv hp hn hm hk => ?_⟩, fun a h5 tk gs hgb hag hsz5 hk5 W hat => ?_⟩
    · have hcl : cStatics < s1.heap.objs.size := let ⟨_, hns, _⟩ := I1.nolimit; hns.lt
      exact Nat.lt_irrefl _ (Nat.lt_of_lt_of_le hcl (ok.wr _ hb))
    · refine (qz _ A' E' i v s₂ m₂ rfl rfl hA hv hn hm fun b o n nw e => hk b (List.mem_range.mpr ?_) nw o (hhref b o (k13 b o n e))).1
      exact Nat.lt_of_lt_of_le (Heap.lt_size e) (Nat.le_trans sz12 sz23)
    · refine (qz _ A' E' i v s₂ m₂ rfl rfl hA hv hn hm fun b o n nw e => hk b (List.mem_range.mpr ?_) nw o (hhref b o (k13 b o n e))).2 hp
      exact Nat.lt_of_lt_of_le (Heap.lt_size e) (Nat.le_trans sz12 sz23)
    · refine fin a _ ⟨_, _, _, _, W, hat, fun b hb => ?_, W.sub, List.mem_cons_self, fun i s9 h9 => h9.1.typeIs, fun s' hm => ⟨H3, eN, T3, ?_⟩⟩
      · have lt5 : b ≤ a := by
          rcases List.mem_cons.mp hb with z | z
          · exact Nat.le_of_eq z
          · rcases List.mem_cons.mp z with z | z
            · rw [z]; exact Nat.le_of_lt hag
            · exact Nat.le_of_lt (Nat.lt_trans (List.mem_range.mp z) hag)
        show b < h5.objs.size
        rw [hsz5]
        exact Nat.lt_succ_of_le lt5
      · refine inv_far (s := s3) (ch := s3.heap.objs.size :: wr) I1 J (fun b hb => ?_) (fun b o nb e => ?_) (AllBare.movedS (J.bare.push hgb) hm) hm.os
        · rcases List.mem_cons.mp hb with z | z
          · rw [z]; exact ⟨Nat.le_trans sz12 sz23, J.hok.fresh (Nat.le_refl _)⟩
          · exact ⟨ok.wr b z, wr3 b z⟩
        · exact hm.heap b o nb (hk5 b o e)
  cases hf : codeAmong gpos ps.toList with
  | none =>
    refine wpAny_genexprCodeX hcode (cd.code hP2 htr) (cd.tab hP2) hf fun c' h' tk hx hge hlt hco' hrec htab' _ => ?_
    obtain ⟨c2, oc, vs, t, e2', hoc, hd, hv⟩ := hrec
    cases e2'
    have nC : H1 c' = none := I2.hok.fresh hge
    obtain ⟨eN, T3⟩ := tabs_grow (pos := gpos) nC hP htr hall hu T1
    refine cont _ { s2 with heap := h', toks := tk } _ (LamX.inv_table I2 hP (fun b o n e => hx b o n e) htab'.2 hge ⟨oc, vs, t, hoc, hd, hv⟩) eN T3 hx (fun b hb => ?_) (Nat.le_trans hge (Nat.le_of_lt hlt))
    have h1 := ok.fp b ((ok.walks X.A hr.hd).sub b hb)
    rw [upd_ne (Nat.ne_of_lt (Nat.lt_of_lt_of_le h1.1 hge)), upd_ne h1.2]
    exact I1.hok.fresh (ok.wr b hb)
  | some cv =>
    refine wpAny_genexprCode_hit hcode (cd.code hP2 htr) hf ?_
    exact cont cv s2 H1 I2 (LamX.ExtN.refl _) T1 (fun b o _ e => e) (fun b hb => I1.hok.fresh (ok.wr b hb)) (Nat.le_refl _)
end
theorem preSum_nats : ∀ (l : List Nat) (val : Nat → Int) (f : Nat → Int), (∀ j i, l[j]? = some i → f j = val i) → preSum f l.length = (l.map val).sum
  | l, val, f, h => by
    have key : ∀ n, n ≤ l.length → preSum f n = ((l.take n).map val).sum := fun n => by
      induction n with
      | zero => intro _; rfl
      | succ n ih =>
        intro hn
        have e : l[n]? = some l[n] := List.getElem?_eq_getElem hn
        show preSum f n + f n = _
        rw [ih (by omega), h n _ e, List.take_add_one, e, List.map_append, List.sum_append]
        simp only [Option.toList, List.map_cons, List.map_nil, List.sum_cons, List.sum_nil, Int.add_zero]
    rw [key _ (Nat.le_refl _), List.take_length]
section
variable {T : List (Addr × Str)} {X : Cx} {pins : List (Addr × Obj)} {σ : L2.St} {H : Hp} {s : Shared} {Q : VK}
/-- sum(elt for x in iter if ..), at the level of states -/
theorem sum_gen {c P : Addr} {elt iter : Expr} {ifs : List Expr} {x : Str} {px gpos p pos : Pos} {scope : Scope} {k : Nat}
    (hr : Room k X.A) (TB : LamX.TabB X.base X.mg c P) (hcode : X.env.code = .ref c) (S : GxR.GenS X.env scope x) (hm : (P, X.env.qual ++ "<genexpr>") ∈ T) (hu : ∀ p ∈ T, p.1 = P → p.2 = X.env.qual ++ "<genexpr>")
    (hs : ∀ v, genFold iter X.env v = pure v) (hg : Gl X "sum") (hms : X.mg "sum" = none) (I : Inv X pins σ H s)
    (h : wpAny (model X.prog X.w) X.A (eval iter X.env) (fun xv s1 => ∃ H1, Inv X pins σ H1 s1 ∧ LamX.Tabs T H1 ∧ wpAny (model X.prog X.w) X.A (pyIter xv) (fun it s2 => ∃ Ia fp wr n Pf St pz F val, it = .ref Ia ∧ ItOk X P s1 s2 Ia fp wr n Pf St ∧ Qz X P scope x ifs elt s1 wr Pf pz F ∧
      (∀ i v, F i v → ∃ t, v = .int (val i) t) ∧ ∀ H2, LamX.ExtN H1 H2 → LamX.Tabs T H2 → Q (.int (((List.range n).filter pz).map val).sum) H2) X.xe s1) X.xe s)
    :
    wpAny (model X.prog X.w) X.A (eval (.Call (.Name "sum" p) [.GeneratorExp elt [⟨.Name x px, iter, ifs, 0⟩] scope gpos] [] pos) X.env) (EP X pins σ Q) X.xe s := by
  refine wpAny_Call_Name_kw (ld_blt I hg hms boot_sum ?_)
  refine Calls.callWith_builtin (by rfl) (Calls.evalArgs_plain ?_)
  refine Calls.spliced_cons (gen_gen (pins := pins) (σ := σ) hr TB hcode S hm hu hs (thn h fun xv s1 hx => ?_))
  obtain ⟨H1, I1, T1, hx⟩ := hx
  refine ⟨H1, I1, T1, wpAny_mono hx (fun it s2 hy => ?_) fun _ _ z => z⟩
  obtain ⟨Ia, fp, wr, n, Pf, St, pz, F, val, rfl, ok, qz, hv, q⟩ := hy
  refine ⟨Ia, fp, wr, n, Pf, St, pz, F, rfl, ok, qz, fun g s5 rdy => Calls.spliced_nil ?_⟩
  obtain ⟨fp', wr', G, St', W, st, hfp, hsub, hg, hty, hmv⟩ := rdy
  have W1 := W.in4_1
  refine call_sum_walkAnyS (W1.self 0 _ _ _ st ?_)
  have el : passing pz n 0 = (List.range n).filter pz := by unfold passing; rw [List.drop_zero]
  refine ⟨g, fp', wr', G, _, _, St', fun j => ((passing pz n 0)[j]?.map val).getD 0, rfl, W1, st, hfp, fun j v hj => ?_, fun s' t' hm => ?_⟩
  · obtain ⟨i, hi, hF⟩ := hj
    obtain ⟨t, e⟩ := hv i v hF
    exact ⟨t, by show v = _; simp only [hi]; exact e⟩
  · obtain ⟨H2, e2, T2, J⟩ := hmv s' hm
    rw [preSum_nats (passing pz n 0) val _ fun j i e => by rw [e]; rfl, el]
    exact ⟨.int _, H2, J, ⟨t', rfl⟩, q H2 e2 T2⟩
/-- two before it: one - two in (0, 1) -/
def prSc : Scope := { kind := .function, names := [(".0", .local), ("two", .local), ("one", .free)], isGenerator := true, isCoroutine := false, more := [] }
def prIf (q0 q1x q2 q3 q4 q5 q6 : Pos) : Expr := .Compare (.BinOp (.Name "one" q0) .Sub (.Name "two" q1x) q2) [.In] [.Tuple [.Constant (.int 0) 0 q3, .Constant (.int 1) 0 q4] 0 q5] q6
def prB (a b : Int) : Bool := decide (a - b = 0 ∨ a - b = 1)
theorem keeps_push {s₂ : Shared} {h : Heap} {k : Nat} (kp : ∀ b o, s₂.heap.get? b = some o → h.get? b = some o) : Keeps s₂ { s₂ with heap := h, toks := k } := ⟨h, k, rfl, kp⟩
theorem pr_test {prog : Program} {w : World} {A' : Around} {E' : Value → Shared → Prop} {cenv : Env} {q0 q1x q2 q3 q4 q5 q6 : Pos} {c : Addr} {a b : Int} {ta tb : Tok} {s₂ : Shared} {m₂ : Str → Option Value} (e1 : cenv.scope = prSc) (e2 : cenv.cells.lookup ("one" : Str) = some c) (hc : s₂.heap.IsCell c (some (.int a ta)))
    (hn : s₂.heap.Ns cenv.locals m₂) (hm : m₂ ("two" : Str) = some (.int b tb)) :
    wpAny (model prog w) A' (forIn [prIf q0 q1x q2 q3 q4 q5 q6] true fun c r => if r = true then do let ok ← isTrue c cenv (eval c cenv); pure (ForInStep.yield ok) else pure (ForInStep.yield r)) (fun ok s₃ => ok = prB a b ∧ Keeps s₂ s₃) E' s₂ := by
  rw [List.forIn_cons]
  simp only [if_pos]
  have kf : cenv.scope.kind = .function := by rw [e1]; rfl
  refine wpAny_bind (wpAny_bind (wpAny_isTrue_Compare1 (wpAny_BinOp (wpAny_Name (wpAny_loadName_free kf (by show cenv.scope.names.lookup _ = _; rw [e1]; rfl) e2 hc (wpAny_Name (wpAny_loadName_local kf (by show cenv.scope.names.lookup _ = _; rw [e1]; rfl) hn hm (PyProof.Rows.sub_int ?_))))))))
  refine wpAny_Tuple_spliced (Calls.spliced_cons (wpAny_Constant_int (k := 0) (pos := q3) (Calls.spliced_cons (wpAny_Constant_int (k := 0) (pos := q4) (Calls.spliced_nil ⟨?_, ?_⟩)))))
  · rw [sizeLine_eq]; exact (by decide : (2 : Nat) ≤ 16777216)
  refine SeqAt.in_tupleAt (L2.eqU (.int (a - b))) ⟨_, Heap.get?_push_size _ rfl, rfl, 0, rfl⟩ (fun y hy => L2.mem_eqAt (x := .int (a - b)) (xs := [.int 0, .int 1]) (show ∃ t, _ from ⟨_, rfl⟩) rfl (.cons (show ∃ t, _ from ⟨_, rfl⟩) (.cons (show ∃ t, _ from ⟨_, rfl⟩) .nil)) rfl y (by simpa using hy)) (wpAny_truthy_bool (wpAny_pure ?_))
  simp only [List.forIn_nil]
  refine wpAny_pure ⟨?_, keeps_push fun b o e => Heap.get?_push_of_some _ e⟩
  have z : (#[Value.int 0 (s₂.toks + 1), Value.int 1 (s₂.toks + 1 + 1)].any (L2.eqU (.int (a - b)))) = ((0 : Int) == a - b || ((1 : Int) == a - b || false)) := by
    rw [← Array.any_toList]
    rfl
  refine z.trans ?_
  unfold prB
  rw [Bool.eq_iff_iff]
  simp
  omega
theorem itok_list {P l : Addr} {its : List Value} {E : Value → Shared → Prop} {R : Value → Shared → Prop} {s1 : Shared} {H1 : Hp} (I1 : Inv X pins σ H1 s1) (hP : ∃ ps, H1 P = some (.tbl ps)) (hl : s1.heap.IsList l its.toArray)
    (h : ∀ s2 Ia, ItOk X P s1 s2 Ia [Ia, l] [Ia] its.length (fun i v => its[i]? = some v) (fun i h => h.IsListIter Ia l i ∧ h.IsList l its.toArray) → R (.ref Ia) s2) :
    wpAny (model X.prog X.w) X.A (pyIter (.ref l)) R E s1 := by
  obtain ⟨ps, hP⟩ := hP
  have hP1 : s1.heap.get? P = some { cls := .none, data := .fields ps } := I1.hok P _ hP
  obtain ⟨ol, hol, r1, nl, r2⟩ := id hl
  have ll : l < s1.heap.objs.size := Heap.lt_size hol
  refine wpAny_pyIter_list hl (h _ _ ⟨fun A' hA => ?_, ⟨⟨_, Heap.get?_push_size _ rfl, rfl, rfl⟩, ⟨ol, Heap.get?_push_of_some _ hol, r1, nl, r2⟩⟩, fun b hb => ?_, fun b hb => ?_, fun b o e => Heap.get?_push_of_some _ e, rfl, by rw [Heap.size_push]; omega⟩)
  · have W := Walks.list (prog := X.prog) (w := X.w) hA s1.heap.objs.size l (Nat.ne_of_lt ll) its.toArray
    simpa using W
  · rw [Heap.size_push]
    rcases List.mem_cons.mp hb with z | z
    · rw [z]
      exact ⟨Nat.lt_succ_self _, Nat.ne_of_gt (Heap.lt_size hP1)⟩
    · rw [List.mem_singleton.mp z]
      refine ⟨Nat.lt_succ_of_lt ll, fun e => ?_⟩
      subst e
      rw [hol] at hP1
      cases hP1
      cases r1
  · rw [List.mem_singleton.mp hb]; exact Nat.le_refl _
end
/-! ### sum(1 for two in .. if one - two in (0, 1)) -/
def dPrs (i : Nat) (te : DTE) : DTE := fun δ M Q => te δ M fun d M1 => ∃ (a : Int) (bs : List Int), δ[i]? = some (some (.int a)) ∧ asM M1 d (fun xs => xs = bs.map D.int) ∧ Q (.int ((bs.filter (prB a)).length : Nat)) M1
theorem filter_range (bs : List Int) (p : Int → Bool) : ((List.range bs.length).filter fun i => p (bs.getD i 0)).length = (bs.filter p).length := by
  have e : (List.range bs.length).map (fun i => bs.getD i 0) = bs := by
    apply List.ext_getElem
    · simp
    · intro i h1 h2
      rw [List.getElem_map, List.getElem_range, List.getD_eq_getElem?_getD, List.getElem?_eq_getElem h2]
      rfl
  have : (bs.filter p).length = (((List.range bs.length).map (fun i => bs.getD i 0)).filter p).length := by rw [e]
  rw [this, List.filter_map, List.length_map]
  rfl
section
variable {T : List (Addr × Str)} {X : Cx} {e : Expr} {te : DTE} {p q pos lpos : Pos}
theorem q_prs {k : Nat} {c P : Addr} {i : Nat} {px gpos q0 q1x q2 q3 q4 q5 q6 q7 : Pos} (hc : X.calm = true) (hr : Room k X.A) (TB : LamX.TabB X.base X.mg c P) (hcode : X.env.code = .ref c) (hmT : (P, X.env.qual ++ "<genexpr>") ∈ T) (hu : ∀ p ∈ T, p.1 = P → p.2 = X.env.qual ++ "<genexpr>")
    (hg : Gl X "sum") (hms : X.mg "sum" = none) (he : DPE T X e te) (hN : X.N[i]? = some ("one" : Str)) (hv : X.env.scope.names.lookup ("one" : Str) = some .cell) (hs : ∀ v, genFold e X.env v = pure v := by intro _; rfl) :
    DPE T X (.Call (.Name "sum" p) [.GeneratorExp (.Constant (.int 1) 0 q7) [⟨.Name "two" px, e, [prIf q0 q1x q2 q3 q4 q5 q6], 0⟩] prSc gpos] [] pos) (dPrs i te) := by
  obtain ⟨u, a1, a2⟩ := he.ex
  refine ⟨fun σ H Q => u σ H fun x H1 => ∃ (a : Int) (bs : List Int) (l : Addr), σ[i]? = some (some (.int a)) ∧ x = .ref l ∧ SqL X.K H1 l (bs.map V.int) ∧ LamX.Tabs T H1 ∧ ∀ H2, LamX.ExtN H1 H2 → LamX.Tabs T H2 → Q (.int ((bs.filter (prB a)).length : Nat)) H2,
    ⟨fun pins s σ H Q I h => ?_⟩, fun δ M Q σ F H R hs hh ht k => ?_⟩
  · have S : GxR.GenS X.env prSc "two" := ⟨rfl, rfl, by decide, rfl, rfl, fun y hy e => by
      have hy' : y = ((".0" : Str), NameKind.local) ∨ y = (("two" : Str), NameKind.local) ∨ y = (("one" : Str), NameKind.free) := by simpa [prSc] using hy
      rcases hy' with rfl | rfl | rfl
      · cases e
      · cases e
      · exact I.ok.has _ (.inl hv)⟩
    refine sum_gen hr TB hcode S hmT hu hs hg hms I (thn (a1.run pins s σ H _ I h) fun xv s1 ⟨x, H1, I1, r1, q1⟩ => ?_)
    obtain ⟨a, bs, l, hσ, rfl, hl, T1, q1⟩ := q1
    obtain rfl : xv = .ref l := r1
    obtain ⟨its, vi, pl, _⟩ := I1.list hl
    have len : its.length = bs.length := by rw [← vi.length, List.length_map]
    obtain ⟨ps, hP, _⟩ := T1 _ hmT
    refine ⟨H1, I1, T1, itok_list I1 ⟨ps, hP⟩ pl.isList fun s2 Ia ok => ?_⟩
    obtain ⟨m, hns, hloc⟩ := I1.loc
    obtain ⟨w, rw', lk⟩ := hloc i _ _ hN hσ (.inr (.inl hv))
    obtain ⟨ta, rfl⟩ := rw'
    obtain ⟨cl, hcl, hcell⟩ : ∃ cl, X.env.cells.lookup ("one" : Str) = some cl ∧ s1.heap.IsCell cl (some (.int a ta)) := by
      rcases lk with ⟨z, _⟩ | ⟨_, cl, h1, h2⟩
      · rw [show X.env.kindOf "one" = some .cell from hv] at z
        cases z
      · exact ⟨cl, h1, h2⟩
    refine ⟨Ia, _, _, _, _, _, fun i => prB a (bs.getD i 0), fun _ v => ∃ t, v = .int 1 t, fun _ => 1, rfl, ok, fun cenv A' E' j v s₂ m₂ e1 e2 hA hv hn hm hk => ⟨?_, fun _ => ?_⟩, fun j v hv => hv, fun H2 eN T2 => ?_⟩
    · obtain ⟨o, ho, hd⟩ := hcell
      have hj : j < its.length := (List.getElem?_eq_some_iff.mp hv).1
      obtain ⟨t, rfl⟩ : ∃ t, v = .int (bs.getD j 0) t := by
        have hb : (bs.map V.int)[j]? = some (V.int (bs.getD j 0)) := by
          rw [List.getElem?_map, List.getElem?_eq_getElem (by omega : j < bs.length), List.getD_eq_getElem?_getD, List.getElem?_eq_getElem (by omega : j < bs.length)]
          rfl
        obtain ⟨w, ew, rw'⟩ := vi.get hb
        rw [hv] at ew; cases ew
        exact rw'
      refine pr_test (c := cl) e1 ?_ ⟨o, hk cl o (fun z => ?_) (fun z => ?_) ho, hd⟩ hn hm
      · rw [e2]
        show List.lookup _ [(("one" : Str), (X.env.cells.lookup ("one" : Str)).getD 0)] = some cl
        rw [hcl]
        rfl
      · subst z
        have hP1 : s1.heap.get? cl = some { cls := .none, data := .fields ps } := I1.hok cl _ hP
        rw [ho] at hP1; cases hP1; cases hd
      · exact absurd (ok.wr _ z) (Nat.not_le_of_lt (Heap.lt_size ho))
    · exact wpAny_Constant_int ⟨⟨_, rfl⟩, keeps_push fun b o e => e⟩
    · have z := q1 H2 eN T2
      have ez : ((((List.range its.length).filter fun i => prB a (bs.getD i 0)).map fun _ => (1 : Int)).sum) = (((bs.filter (prB a)).length : Nat) : Int) := by
        rw [len, List.map_const', List.sum_replicate_int, ← filter_range bs (prB a)]
        omega
      rw [ez]; exact z
  · refine a2 δ M _ σ F H _ hs hh ht fun x dx F1 M1 H1 u1 h1 i1 q1 => ?_
    obtain ⟨a, bs, hδ, hl, q⟩ := q1
    obtain ⟨v, e3, e4⟩ := (hs.mono u1.ex).at_ i _ hδ
    simp only [Is] at e4
    subst e4
    obtain ⟨l, vs, xs, rfl, hsq, r, rfl⟩ := asM_of h1 i1 hl
    obtain rfl := r.of_ints
    refine ⟨a, bs, l, e3, rfl, hsq, h1.tb, fun H2 eN T2 => ?_⟩
    obtain ⟨h2, u2⟩ := h1.ext eN T2
    exact k _ (.int _) F1 M1 H2 (u1.trans u2) h2 (by simp only [Is]) q
end
section
variable {T : List (Addr × Str)} {X : Cx} {pins : List (Addr × Obj)} {σ : L2.St} {H : Hp} {s : Shared} {Q : VK}
def tnSc : Scope := { kind := .function, names := [(".0", .local), ("place", .local), ("hill", .free)], isGenerator := true, isCoroutine := false, more := [] }
def tnIf (q0 q1x q2 q3 q4 q5 q6 q7 q8 q9 : Pos) : Expr := .Compare (.Subscript (.Name "hill" q0) (.BinOp (.Name "place" q1x) .Sub (.Constant (.int 1) 0 q2) q3) q4) [.Lt, .Lt] [.Constant (.int 0) 0 q5, .Subscript (.Name "hill" q6) (.Name "place" q7) q8] q9
def tnB (hs : List Int) (i : Nat) : Bool := decide (hs.getD i 0 < 0) && decide (0 < hs.getD (i + 1) 0)
theorem tn_test {prog : Program} {w : World} {A' : Around} {E' : Value → Shared → Prop} {cenv : Env} {q0 q1x q2 q3 q4 q5 q6 q7 q8 q9 : Pos} {c l : Addr} {its : List Value} {hs : List Int} {i : Nat} {tb : Tok} {s₂ : Shared} {m₂ : Str → Option Value} (e1 : cenv.scope = tnSc) (e2 : cenv.cells.lookup ("hill" : Str) = some c) (hc : s₂.heap.IsCell c (some (.ref l)))
    (hl : s₂.heap.IsList l its.toArray) (hi : IntsAre its hs) (hn : s₂.heap.Ns cenv.locals m₂) (hm : m₂ ("place" : Str) = some (.int (1 + (i : Int)) tb)) (h1 : i + 1 < hs.length) (h2 : hs.length ≤ 16777216) :
    wpAny (model prog w) A' (forIn [tnIf q0 q1x q2 q3 q4 q5 q6 q7 q8 q9] true fun c r => if r = true then do let ok ← isTrue c cenv (eval c cenv); pure (ForInStep.yield ok) else pure (ForInStep.yield r)) (fun ok s₃ => ok = tnB hs i ∧ Keeps s₂ s₃) E' s₂ := by
  rw [List.forIn_cons]
  simp only [if_pos]
  have kf : cenv.scope.kind = .function := by rw [e1]; rfl
  have at_ : ∀ j, j < hs.length → ∃ t, its.toArray[j]? = some (.int (hs.getD j 0) t) := fun j hj => by
    obtain ⟨t, e⟩ := hi.get j (hs.getD j 0) (by rw [List.getD_eq_getElem?_getD, List.getElem?_eq_getElem hj]; rfl)
    exact ⟨t, by simpa using e⟩
  obtain ⟨t0, x0⟩ := at_ i (by omega)
  obtain ⟨t1, x1⟩ := at_ (i + 1) h1
  have ldH : ∀ {p1 : Pos} {E : Value → Shared → Prop} {R : Value → Shared → Prop} (tk : Nat), R (.ref l) { s₂ with toks := tk } → wpAny (model prog w) A' (eval (.Name "hill" p1) cenv) R E { s₂ with toks := tk } := fun tk hR =>
    wpAny_Name (wpAny_loadName_free kf (by show cenv.scope.names.lookup _ = _; rw [e1]; rfl) e2 hc hR)
  have ldP : ∀ {p1 : Pos} {E : Value → Shared → Prop} {R : Value → Shared → Prop} (tk : Nat), R (.int (1 + (i : Int)) tb) { s₂ with toks := tk } → wpAny (model prog w) A' (eval (.Name "place" p1) cenv) R E { s₂ with toks := tk } := fun tk hR =>
    wpAny_Name (wpAny_loadName_local kf (by show cenv.scope.names.lookup _ = _; rw [e1]; rfl) hn hm hR)
  have fin : ∀ (b : Bool) (k : Nat), b = tnB hs i → wpAny (model prog w) A' (pure (ForInStep.yield b)) (fun a s' => wpAny (model prog w) A' (match a with
      | ForInStep.done b => pure b
      | ForInStep.yield b => forIn ([] : List Expr) b fun c r => if r = true then do let ok ← isTrue c cenv (eval c cenv); pure (ForInStep.yield ok) else pure (ForInStep.yield r)) (fun ok s₃ => ok = tnB hs i ∧ Keeps s₂ s₃) E' s') E' { s₂ with toks := k } := fun b k e => by
    refine wpAny_pure ?_
    simp only [List.forIn_nil]
    exact wpAny_pure ⟨e, keeps_push fun b o e => e⟩
  refine wpAny_bind (wpAny_bind (isTrue_chain ?_))
  refine Subscript_ (ldH _ (wpAny_BinOp (ldP _ (wpAny_Constant_int (PyProof.Rows.sub_int ?_)))))
  have ei : 1 + (i : Int) - 1 = i := by omega
  rw [ei]
  refine item_listR (k := (i : Int)) hl (by omega) (by omega) (by rw [Int.toNat_natCast]; exact x0) ?_
  refine test_link (wpAny_Constant_int (k := 0) (pos := q5) (PyProof.Rows.lt_int (wpAny_truthy_bool ?_)))
  by_cases c0 : hs.getD i 0 < 0
  · rw [decide_eq_true c0, if_pos rfl]
    refine test_last (Subscript_ (ldH _ (ldP _ (item_listR (k := 1 + (i : Int)) hl (by omega) (by omega) (by rw [show (1 + (i : Int)).toNat = i + 1 by omega]; exact x1) (PyProof.Rows.lt_int (wpAny_truthy_bool (fin _ _ ?_)))))))
    unfold tnB
    rw [decide_eq_true c0, Bool.true_and]
  · rw [decide_eq_false c0, if_neg Bool.false_ne_true]
    refine fin _ _ ?_
    unfold tnB
    rw [decide_eq_false c0, Bool.false_and]
theorem walks_lt {prog : Program} {w : World} {A : Around} {I : Addr} {fp wr : List Addr} {n : Nat} {P : Nat → Value → Prop} {St : Nat → Heap → Prop} (W : Walks prog w A I fp wr n P St) : Walks prog w A I fp wr n (fun i v => i < n ∧ P i v) St where
  sub := W.sub
  frame := W.frame
  item := fun i s Q E hi st hQ => W.item i s Q E hi st fun v h' tk hv => hQ v h' tk ⟨hi, hv⟩
  done := W.done
  self := W.self
theorem itok_range {P r : Addr} {n : Nat} {lo hi : Int} {t u v : Tok} {E : Value → Shared → Prop} {R : Value → Shared → Prop} {s1 : Shared} {H1 : Hp} (I1 : Inv X pins σ H1 s1) (hP : ∃ ps, H1 P = some (.tbl ps)) (hr : IsRange s1.heap r lo hi 1 t u v) (hn : (hi - lo).toNat = n)
    (b1 : -(2 ^ 62) ≤ lo) (b2 : lo < 2 ^ 62) (b3 : -(2 ^ 62) ≤ hi) (b4 : hi < 2 ^ 62)
    (h : ∀ s2 Ia, ItOk X P s1 s2 Ia [Ia] [Ia] n (fun i v => i < n ∧ ∃ t, v = .int (lo + i * 1) t) (fun i h => IsRangeIter h Ia (lo + (i : Nat) * 1) ((n : Int) - (i : Nat)) 1) → R (.ref Ia) s2) :
    wpAny (model X.prog X.w) X.A (pyIter (.ref r)) R E s1 := by
  obtain ⟨ps, hP⟩ := hP
  have hP1 : s1.heap.get? P = some { cls := .none, data := .fields ps } := I1.hok P _ hP
  refine wpAny_pyIter_range hr (small_one b1 b2 b3 b4) (h _ _ ⟨fun A' hA => walks_lt (Walks.range hA _ lo 1 n), ?_, fun b hb => ?_, fun b hb => ?_, fun b o e => Heap.get?_push_of_some _ e, rfl, by rw [Heap.size_push]; omega⟩)
  · have a1 : lo + ((0 : Nat) : Int) * 1 = lo := by simp
    have a2 : (n : Int) - ((0 : Nat) : Int) = Builtin.Range.rangeSize lo hi 1 := by rw [rangeSize_one, ← hn]; split <;> omega
    show IsRangeIter _ _ (lo + ((0 : Nat) : Int) * 1) ((n : Int) - ((0 : Nat) : Int)) 1
    rw [a1, a2]
    exact Heap.get?_push_size _ rfl
  · rw [Heap.size_push, List.mem_singleton.mp hb]
    exact ⟨Nat.lt_succ_self _, Nat.ne_of_gt (Heap.lt_size hP1)⟩
  · rw [List.mem_singleton.mp hb]; exact Nat.le_refl _
end
/-- sum(place for place in range(1, e) if hill[place - 1] < 0 < hill[place]) -/
def trnD (hs : List Int) : Int := (((List.range (hs.length - 1)).filter (tnB hs)).map fun i : Nat => 1 + (i : Int)).sum
def dTrn (i : Nat) (te : DTE) : DTE := fun δ M Q => te δ M fun d M1 => ∃ (dh : D) (hs : List Int), d = .int hs.length ∧ δ[i]? = some (some dh) ∧ asM M1 dh (fun xs => xs = hs.map D.int) ∧ hs.length ≤ 16777216 ∧ Q (.int (trnD hs)) M1
section
variable {T : List (Addr × Str)} {X : Cx} {e : Expr} {te : DTE} {p q pos lpos : Pos}
theorem q_trn {k : Nat} {c P : Addr} {i : Nat} {px gpos q0 q1x q2 q3 q4 q5 q6 q7 q8 q9 qa qb qc qd : Pos} (hc : X.calm = true) (hr : Room k X.A) (TB : LamX.TabB X.base X.mg c P) (hcode : X.env.code = .ref c) (hmT : (P, X.env.qual ++ "<genexpr>") ∈ T) (hu : ∀ p ∈ T, p.1 = P → p.2 = X.env.qual ++ "<genexpr>")
    (hg : Gl X "sum") (hms : X.mg "sum" = none) (hg2 : Gl X "range") (hm2 : X.mg "range" = none) (he : DPE T X e te) (hN : X.N[i]? = some ("hill" : Str)) (hv : X.env.scope.names.lookup ("hill" : Str) = some .cell)
    (na : starEach [.Constant (.int 1) 0 qb, e] X.env = (false, eval (.Constant (.int 1) 0 qb) X.env) :: starEach [e] X.env := by rfl) (nb : starEach [e] X.env = (false, eval e X.env) :: starEach [] X.env := by rfl) (hp : (backTo qc (starEach [e] X.env)).any (·.1) = false := by rfl) :
    DPE T X (.Call (.Name "sum" p) [.GeneratorExp (.Name "place" qd) [⟨.Name "place" px, .Call (.Name "range" qa) [.Constant (.int 1) 0 qb, e] [] qc, [tnIf q0 q1x q2 q3 q4 q5 q6 q7 q8 q9], 0⟩] tnSc gpos] [] pos) (dTrn i te) := by
  obtain ⟨u, a1, a2⟩ := he.ex
  refine ⟨fun σ H Q => tRg2 (tC (.int 1)) u σ H fun lo hi H1 => ∃ (hs : List Int) (l : Addr), σ[i]? = some (some (.ref l)) ∧ lo = 1 ∧ hi = hs.length ∧ SqL X.K H1 l (hs.map V.int) ∧ hs.length ≤ 16777216 ∧ LamX.Tabs T H1 ∧ ∀ H2, LamX.ExtN H1 H2 → LamX.Tabs T H2 → Q (.int (trnD hs)) H2,
    ⟨fun pins s σ H Q I h => ?_⟩, fun δ M Q σ F H R hs hh ht k => ?_⟩
  · have S : GxR.GenS X.env tnSc "place" := ⟨rfl, rfl, by decide, rfl, rfl, fun y hy e => by
      have hy' : y = ((".0" : Str), NameKind.local) ∨ y = (("place" : Str), NameKind.local) ∨ y = (("hill" : Str), NameKind.free) := by simpa [tnSc] using hy
      rcases hy' with rfl | rfl | rfl
      · cases e
      · cases e
      · exact I.ok.has _ (.inl hv)⟩
    refine sum_gen hr TB hcode S hmT hu (by intro _; rfl) hg hms I (thn (prg_2 (pos := qc) hg2 hm2 (pe_int (i := 1) (j := 0) (pos := qb)) a1 na nb hp pins s σ H _ I h) fun xv s1 hx => ?_)
    obtain ⟨r, lo, hi, t, u, v, H1, rfl, hr1, I1, hs, l, hσ, rfl, rfl, hl, hz, T1, q1⟩ := hx
    obtain ⟨its, vi, pl, _⟩ := I1.list hl
    obtain ⟨ps, hP, _⟩ := T1 _ hmT
    refine ⟨H1, I1, T1, itok_range (n := hs.length - 1) I1 ⟨ps, hP⟩ hr1 (by omega) (by omega) (by omega) (by omega) (by omega) fun s2 Ia ok => ?_⟩
    obtain ⟨m, hns, hloc⟩ := I1.loc
    obtain ⟨w, rw', lk⟩ := hloc i _ _ hN hσ (.inr (.inl hv))
    obtain rfl : w = .ref l := rw'
    obtain ⟨cl, hcl, hcell⟩ : ∃ cl, X.env.cells.lookup ("hill" : Str) = some cl ∧ s1.heap.IsCell cl (some (.ref l)) := by
      rcases lk with ⟨z, _⟩ | ⟨_, cl, h1, h2⟩
      · rw [show X.env.kindOf "hill" = some .cell from hv] at z
        cases z
      · exact ⟨cl, h1, h2⟩
    have hP1 : s1.heap.get? P = some { cls := .none, data := .fields ps } := I1.hok P _ hP
    refine ⟨Ia, _, _, _, _, _, tnB hs, fun i v => ∃ t, v = .int (1 + (i : Nat)) t, fun i => 1 + (i : Nat), rfl, ok, fun cenv A' E' j v s₂ m₂ e1 e2 hA hv hn hm hk => ?_, fun j v hv => hv, fun H2 eN T2 => q1 H2 eN T2⟩
    have kk : ∀ {b : Addr} {o : Obj}, s1.heap.get? b = some o → (∀ vs, o.data ≠ .fields vs) → s₂.heap.get? b = some o := fun {b o} e no => hk b o (fun z => by
      subst z
      rw [e] at hP1; cases hP1; exact no _ rfl) (fun z => absurd (ok.wr _ z) (Nat.not_le_of_lt (Heap.lt_size e))) e
    obtain ⟨hj, tv, rfl⟩ := hv
    rw [Int.mul_one] at hm
    refine ⟨?_, fun _ => ?_⟩
    · obtain ⟨o, ho, hd⟩ := hcell
      obtain ⟨ol, hol, r1, nl, r2⟩ := pl.isList
      refine tn_test (c := cl) (l := l) (its := its) e1 ?_ ⟨o, kk ho (fun vs z => by rw [hd] at z; cases z), hd⟩ ⟨ol, kk hol (fun vs z => by rw [r2] at z; cases z), r1, nl, r2⟩ vi.ints hn hm (by omega) hz
      rw [e2]
      show List.lookup _ [(("hill" : Str), (X.env.cells.lookup ("hill" : Str)).getD 0)] = some cl
      rw [hcl]
      rfl
    · exact wpAny_Name (wpAny_loadName_local (by rw [e1]; rfl) (by show cenv.scope.names.lookup _ = _; rw [e1]; rfl) hn hm ⟨⟨_, rfl⟩, keeps_push fun b o e => e⟩)
  · refine a2 δ M _ σ F H _ hs hh ht fun x dx F1 M1 H1 u1 h1 i1 q1 => ?_
    obtain ⟨dh, ns, rfl, hδ, hl, hz, q⟩ := q1
    obtain ⟨v, e3, e4⟩ := (hs.mono u1.ex).at_ i _ hδ
    obtain ⟨l, vs, xs, rfl, hsq, r, rfl⟩ := asM_of h1 e4 hl
    obtain rfl := r.of_ints
    simp only [Is] at i1
    refine ⟨1, _, rfl, i1, ns, l, e3, rfl, rfl, hsq, hz, h1.tb, fun H2 eN T2 => ?_⟩
    obtain ⟨h2, u2⟩ := h1.ext eN T2
    exact k _ (.int _) F1 M1 H2 (u1.trans u2) h2 (by simp only [Is]) q
end
end DL

namespace DL
open PySem PySem.Spec PyProof.Rows L2

/-! ### enumerate(zip(a, b)), the pairs kept whole -/
/-- a zip's record -/
abbrev ZR (h : Heap) (z TI TO : Addr) (f0 : Value) (f : Bool) : Prop :=
  h.get? z = some { cls := .type "zip", dict := none, data := .fields #[f0, .bool f, .bool false, .ref TI, .ref TO], slots := #[] }
/-- its tuple is free, or gone -/
def ZFree (h : Heap) (f0 : Value) : Prop := f0 = .none ∨ ∃ T : Addr, f0 = rawInt T ∧ h.get? T = none
section
variable {prog : Program} {w : World} {A : Around} {E : Value → Shared → Prop} {s : Shared}
theorem alive_not {a : Addr} {Q : Option Obj → Shared → Prop} (ho : s.heap.get? a = none) (h : Q none s) : wpAny (model prog w) A (loadIfAlive a) Q E s := by
  have h' : Q (s.heap.get? a) s := by rw [ho]; exact h
  exact fun _ _ _ => h'
theorem free_zr {z TI TO : Addr} {f0 : Value} {f : Bool} {Q : Bool → Shared → Prop} (hz : ZR s.heap z TI TO f0 f) (hf : ZFree s.heap f0) (h : Q true s) : wpAny (model prog w) A (Builtin.SmallTypes.ownedTupleIsFree (.ref z)) Q E s := by
  unfold Builtin.SmallTypes.ownedTupleIsFree
  rcases hf with rfl | ⟨T, rfl, hT⟩
  · exact wpAny_bind (wpAny_field hz rfl (x := .none) rfl (wpAny_pure h))
  · refine wpAny_bind (wpAny_field hz rfl (x := rawInt T) rfl (show wpAny _ _ (loadIfAlive ((T : Int).toNat) >>= _) _ _ _ from ?_))
    rw [Int.toNat_natCast]
    exact wpAny_bind (alive_not hT (wpAny_pure h))
variable {z TI TO i1 i2 l1 l2 : Addr} {k1 k2 : Nat} {xs ys : Array Value} {x y a b f0 : Value} {f : Bool}
theorem zr_item {Q : Value → Shared → Prop} (D : ZipApart z TI TO i1 i2 l1 l2) (hz : ZR s.heap z TI TO f0 f) (hf : ZFree s.heap f0) (hTI : IsPair s.heap TI (.ref i1) (.ref i2)) (hTO : IsPair s.heap TO a b)
    (h1 : s.heap.IsListIter i1 l1 k1) (h2 : s.heap.IsListIter i2 l2 k2) (hl1 : s.heap.IsList l1 xs) (hl2 : s.heap.IsList l2 ys) (hx : xs[k1]? = some x) (hy : ys[k2]? = some y)
    (hQ : ∀ h', ZR h' z TI TO (rawInt s.heap.objs.size) false → (∃ a b, IsPair h' TO a b) → h'.IsListIter i1 l1 (k1 + 1) → h'.IsListIter i2 l2 (k2 + 1) → IsPair h' s.heap.objs.size x y → h'.objs.size = s.heap.objs.size + 1 →
      (∀ c o, c ≠ z → c ≠ TO → c ≠ i1 → c ≠ i2 → s.heap.get? c = some o → h'.get? c = some o) → Q (.ref s.heap.objs.size) { s with heap := h' }) :
    wpAny (model prog w) A (Builtin.«zip.__next__» ⟨[.ref z], []⟩) (fun fin s' => ∃ v, fin = .done (.ret v) ∧ Q v s') E s := by
  refine show wpAny _ _ (field (.ref z) 2 >>= _) _ _ _ from wpAny_bind (wpAny_field hz rfl (x := .bool false) rfl (show wpAny _ _ (field (.ref z) 3 >>= _) _ _ _ from wpAny_bind (wpAny_field hz rfl (x := .ref TI) rfl (wpAny_bind (wpAny_seqItems hTI rfl ?_)))))
  refine show wpAny _ _ (Builtin.SmallTypes.ownedTupleIsFree (.ref z) >>= _) _ _ _ from wpAny_bind (free_zr hz hf ?_)
  simp only [if_true]
  refine wpAny_bind (wpAny_rule (wpAny_bind (wpAny_field hz rfl (x := .ref TO) rfl (wpAny_bind (wpAny_setField_rec hz (by simp) fun hA zA sA => ?_)))))
  replace zA : ZR hA z TI TO .ellipsis f := zA
  refine wpAny_bind ?_
  simp only [List.zipIdx_cons, List.zipIdx_nil, List.forIn_cons, List.forIn_nil]
  refine wpAny_bind (wpAny_bind (wpAny_onRaise (show wpAny _ _ (Builtin.SmallTypes.nextOf (.ref i1) >>= _) _ _ _ from wpAny_bind (wpAny_nextOf_list_item (h1.extBut sA.extBut D.i1z) (hl1.extBut sA.extBut D.l1z) hx fun hB it1 sB => wpAny_pure ?_))))
  have tB : IsPair hB TO a b := sB.extBut _ _ D.TOi1 (sA.extBut _ _ D.TOz hTO)
  refine wpAny_bind (wpAny_seqItems tB rfl (wpAny_bind (wpAny_updateSeq_pair tB fun hC tC sC => wpAny_bind (wpAny_letGo (wpAny_pure ?_)))))
  replace tC : IsPair hC TO x b := tC
  have l2C := (((h2.extBut sA.extBut D.i2z).extBut sB.extBut D.i12.symm).extBut sC.extBut D.TOi2.symm)
  have hl2C := (((hl2.extBut sA.extBut D.l2z).extBut sB.extBut D.l2i1).extBut sC.extBut D.l2TO)
  refine wpAny_bind (wpAny_bind (wpAny_onRaise (show wpAny _ _ (Builtin.SmallTypes.nextOf (.ref i2) >>= _) _ _ _ from wpAny_bind (wpAny_nextOf_list_item l2C hl2C hy fun hD it2 sD => wpAny_pure ?_))))
  have tD : IsPair hD TO x b := sD.extBut _ _ D.TOi2 tC
  refine wpAny_bind (wpAny_seqItems tD rfl (wpAny_bind (wpAny_updateSeq_pair tD fun hE' tE sE => wpAny_bind (wpAny_letGo (wpAny_pure (wpAny_pure ?_))))))
  replace tE : IsPair hE' TO x y := tE
  refine wpAny_bind (wpAny_seqItems tE rfl (wpAny_bind (wpAny_newTuple ?_)))
  have sz : hE'.objs.size = s.heap.objs.size := by rw [sE.1, sD.1, sC.1, sB.1, sA.1]
  have zE : ZR hE' z TI TO .ellipsis f := sE.extBut _ _ D.TOz.symm (sD.extBut _ _ D.i2z.symm (sC.extBut _ _ D.TOz.symm (sB.extBut _ _ D.i1z.symm zA)))
  have kE : ∀ c o, c ≠ z → c ≠ TO → c ≠ i1 → c ≠ i2 → s.heap.get? c = some o → hE'.get? c = some o := fun c o n1 n2 n3 n4 e => sE.extBut _ _ n2 (sD.extBut _ _ n4 (sC.extBut _ _ n2 (sB.extBut _ _ n3 (sA.extBut _ _ n1 e))))
  have j1 : hE'.IsListIter i1 l1 (k1 + 1) := ((it1.extBut sC.extBut D.TOi1.symm).extBut sD.extBut D.i12).extBut sE.extBut D.TOi1.symm
  have j2 : hE'.IsListIter i2 l2 (k2 + 1) := it2.extBut sE.extBut D.TOi2.symm
  have zl : z < hE'.objs.size := Heap.lt_size zE
  refine show wpAny _ _ (Builtin.SmallTypes.ownedTupleHandOut (.ref z) (.ref hE'.objs.size) >>= _) _ _ _ from wpAny_bind ?_
  unfold Builtin.SmallTypes.ownedTupleHandOut
  have zF : ZR (hE'.push { cls := .type "tuple", data := .seq #[x, y] }) z TI TO .ellipsis f := Heap.get?_push_of_some _ zE
  refine wpAny_bind (wpAny_setField_rec zF (by simp) fun hG zG sG => wpAny_setField_rec (vs := #[rawInt hE'.objs.size, .bool f, .bool false, .ref TI, .ref TO]) zG (by simp) fun hH zH sH => wpAny_pure ⟨_, rfl, ?_⟩)
  replace zH : ZR hH z TI TO (rawInt hE'.objs.size) false := zH
  have up : ∀ c o, c ≠ z → hE'.get? c = some o → hH.get? c = some o := fun c o n e => sH.extBut _ _ n (sG.extBut _ _ n (Heap.get?_push_of_some _ e))
  have pr : IsPair hH hE'.objs.size x y := sH.extBut _ _ (Nat.ne_of_gt zl) (sG.extBut _ _ (Nat.ne_of_gt zl) (Heap.get?_push_size _ rfl))
  have szH : hH.objs.size = hE'.objs.size + 1 := by rw [sH.1, sG.1, Heap.size_push]
  rw [sz] at zH pr szH
  show Q (.ref hE'.objs.size) _
  rw [sz]
  exact hQ hH zH ⟨x, y, up _ _ D.TOz tE⟩ (j1.at fun o e => up _ o D.i1z e) (j2.at fun o e => up _ o D.i2z e) pr szH fun c o n1 n2 n3 n4 e => up c o n1 (kE c o n1 n2 n3 n4 e)
theorem zr_end {Q : PySem.Fin → Shared → Prop} (hh : A.handled = none) (D : ZipApart z TI TO i1 i2 l1 l2) (hz : ZR s.heap z TI TO f0 f) (hf : ZFree s.heap f0) (hTI : IsPair s.heap TI (.ref i1) (.ref i2)) (hTO : IsPair s.heap TO a b)
    (h1 : s.heap.IsListIter i1 l1 k1) (h2 : s.heap.IsListIter i2 l2 k2) (hl1 : s.heap.IsList l1 xs) (hl2 : s.heap.IsList l2 ys) (hend : xs[k1]? = none ∨ ys[k2]? = none)
    (hE : ∀ h' e, (∀ c o, c ≠ z → c ≠ TO → c ≠ i1 → c ≠ i2 → s.heap.get? c = some o → h'.get? c = some o) → (∃ o, h'.get? e = some o ∧ o.cls = .type "StopIteration") → E (.ref e) { s with heap := h' }) :
    wpAny (model prog w) A (Builtin.«zip.__next__» ⟨[.ref z], []⟩) Q E s := by
  refine show wpAny _ _ (field (.ref z) 2 >>= _) _ _ _ from wpAny_bind (wpAny_field hz rfl (x := .bool false) rfl (show wpAny _ _ (field (.ref z) 3 >>= _) _ _ _ from wpAny_bind (wpAny_field hz rfl (x := .ref TI) rfl (wpAny_bind (wpAny_seqItems hTI rfl ?_)))))
  refine show wpAny _ _ (Builtin.SmallTypes.ownedTupleIsFree (.ref z) >>= _) _ _ _ from wpAny_bind (free_zr hz hf ?_)
  simp only [if_true]
  refine wpAny_bind (wpAny_rule (wpAny_bind (wpAny_field hz rfl (x := .ref TO) rfl (wpAny_bind (wpAny_setField_rec hz (by simp) fun hA zA sA => ?_)))))
  replace zA : ZR hA z TI TO .ellipsis f := zA
  refine wpAny_bind ?_
  simp only [List.zipIdx_cons, List.zipIdx_nil, List.forIn_cons, List.forIn_nil]
  cases hx : xs[k1]? with
  | none =>
    refine wpAny_bind (wpAny_bind (wpAny_onRaise (show wpAny _ _ (Builtin.SmallTypes.nextOf (.ref i1) >>= _) _ _ _ from wpAny_bind (wpAny_nextOf_list_end hh (h1.extBut sA.extBut D.i1z) (hl1.extBut sA.extBut D.l1z) hx fun hB e sB he => ?_))))
    obtain ⟨oe, ho, hc⟩ := he
    have zB : ZR hB z TI TO .ellipsis f := sB _ _ D.i1z.symm zA
    have ez : e ≠ z := fun q => by
      subst q; rw [zB] at ho; cases ho; simp at hc
    exact wpAny_setField_rec zB (by simp) fun hF _ sF => hE hF e (fun c o n1 n2 n3 n4 q => sF.extBut _ _ n1 (sB _ _ n3 (sA.extBut _ _ n1 q))) ⟨oe, sF.extBut _ _ ez ho, hc⟩
  | some x =>
  have hy : ys[k2]? = none := by
    rcases hend with q | q
    · rw [hx] at q; cases q
    · exact q
  refine wpAny_bind (wpAny_bind (wpAny_onRaise (show wpAny _ _ (Builtin.SmallTypes.nextOf (.ref i1) >>= _) _ _ _ from wpAny_bind (wpAny_nextOf_list_item (h1.extBut sA.extBut D.i1z) (hl1.extBut sA.extBut D.l1z) hx fun hB it1 sB => wpAny_pure ?_))))
  have tB : IsPair hB TO a b := sB.extBut _ _ D.TOi1 (sA.extBut _ _ D.TOz hTO)
  refine wpAny_bind (wpAny_seqItems tB rfl (wpAny_bind (wpAny_updateSeq_pair tB fun hC tC sC => wpAny_bind (wpAny_letGo (wpAny_pure ?_)))))
  have l2C := (((h2.extBut sA.extBut D.i2z).extBut sB.extBut D.i12.symm).extBut sC.extBut D.TOi2.symm)
  have hl2C := (((hl2.extBut sA.extBut D.l2z).extBut sB.extBut D.l2i1).extBut sC.extBut D.l2TO)
  refine wpAny_bind (wpAny_bind (wpAny_onRaise (show wpAny _ _ (Builtin.SmallTypes.nextOf (.ref i2) >>= _) _ _ _ from wpAny_bind (wpAny_nextOf_list_end hh l2C hl2C hy fun hD e sD he => ?_))))
  obtain ⟨oe, ho, hc⟩ := he
  have zD : ZR hD z TI TO .ellipsis f := sD _ _ D.i2z.symm (sC.extBut _ _ D.TOz.symm (sB.extBut _ _ D.i1z.symm zA))
  have ez : e ≠ z := fun q => by
    subst q; rw [zD] at ho; cases ho; simp at hc
  exact wpAny_setField_rec zD (by simp) fun hF _ sF => hE hF e (fun c o n1 n2 n3 n4 q => sF.extBut _ _ n1 (sD _ _ n4 (sC.extBut _ _ n2 (sB.extBut _ _ n3 (sA.extBut _ _ n1 q))))) ⟨oe, sF.extBut _ _ ez ho, hc⟩
/-- a zip under an iterator that keeps its pairs: free, or a pair is out -/
def ZSt (h : Heap) (z TI TO : Addr) : Prop := ∃ f0 f, ZR h z TI TO f0 f ∧ (f0 = .none ∨ ∃ T : Addr, f0 = rawInt T)
theorem zst_item {Q : Value → Shared → Prop} (D : ZipApart z TI TO i1 i2 l1 l2) (hz : ZSt s.heap z TI TO) (hTI : IsPair s.heap TI (.ref i1) (.ref i2)) (hTO : ∃ a b, IsPair s.heap TO a b)
    (h1 : s.heap.IsListIter i1 l1 k1) (h2 : s.heap.IsListIter i2 l2 k2) (hl1 : s.heap.IsList l1 xs) (hl2 : s.heap.IsList l2 ys) (hx : xs[k1]? = some x) (hy : ys[k2]? = some y)
    (hQ : ∀ h', ZSt h' z TI TO → (∃ a b, IsPair h' TO a b) → h'.IsListIter i1 l1 (k1 + 1) → h'.IsListIter i2 l2 (k2 + 1) → IsPair h' s.heap.objs.size x y → h'.objs.size = s.heap.objs.size + 1 →
      (∀ c o, c ≠ z → c ≠ TO → c ≠ i1 → c ≠ i2 → s.heap.get? c = some o → h'.get? c = some o) → Q (.ref s.heap.objs.size) { s with heap := h' }) :
    wpAny (model prog w) A (Builtin.SmallTypes.nextOf (.ref z)) Q E s := by
  obtain ⟨f0, f, hz, hf⟩ := hz
  have hTy : s.TypeIs (.ref z) "zip" := ⟨_, hz, rfl⟩
  have key : wpAny (model prog w) A.in1 (Builtin.«zip.__next__» ⟨[.ref z], []⟩) (fun fin s' => ∃ v, fin = .done (.ret v) ∧ Q v s') E s := by
    obtain ⟨a, b, hTO⟩ := hTO
    have fr : ZFree s.heap f0 → wpAny (model prog w) A.in1 (Builtin.«zip.__next__» ⟨[.ref z], []⟩) (fun fin s' => ∃ v, fin = .done (.ret v) ∧ Q v s') E s := fun hf =>
      zr_item D hz hf hTI hTO h1 h2 hl1 hl2 hx hy fun h' a1 a2 a3 a4 a5 a6 a7 => hQ h' ⟨_, _, a1, .inr ⟨_, rfl⟩⟩ a2 a3 a4 a5 a6 a7
    rcases hf with e | ⟨T, e⟩
    · exact fr (.inl e)
    · cases hT : s.heap.get? T with
      | none => exact fr (.inr ⟨T, e, hT⟩)
      | some oT =>
        subst e
        exact zip_next_item_held D hz hT hTI h1 h2 hl1 hl2 hx hy fun h' a1 a3 a4 a5 a6 a7 => hQ h' ⟨_, _, a1, .inr ⟨_, rfl⟩⟩ ⟨a, b, a7 _ _ D.TOz D.TOi1 D.TOi2 hTO⟩ a3 a4 a5 a6 fun c o n1 _ n3 n4 q => a7 c o n1 n3 n4 q
  unfold Builtin.SmallTypes.nextOf
  exact wpAny_bind (wpAny_callSpecial?_slot (name := Str.ofString "__next__") hTy F.slot_zip_next (wpAny_call_entry F.slot_zip_next hTy F.entry_zip_next (wpAny_mono key (fun fin s' q => by
    obtain ⟨v, e, q⟩ := q
    exact ⟨v, e, wpAny_pure q⟩) fun _ _ q => q) (F.args_zip_next_1 _)))
theorem zst_end {Q : Value → Shared → Prop} (hh : A.handled = none) (D : ZipApart z TI TO i1 i2 l1 l2) (hz : ZSt s.heap z TI TO) (hTI : IsPair s.heap TI (.ref i1) (.ref i2)) (hTO : ∃ a b, IsPair s.heap TO a b)
    (h1 : s.heap.IsListIter i1 l1 k1) (h2 : s.heap.IsListIter i2 l2 k2) (hl1 : s.heap.IsList l1 xs) (hl2 : s.heap.IsList l2 ys) (hend : xs[k1]? = none ∨ ys[k2]? = none)
    (hE : ∀ h' e, (∀ c o, c ≠ z → c ≠ TO → c ≠ i1 → c ≠ i2 → s.heap.get? c = some o → h'.get? c = some o) → (∃ o, h'.get? e = some o ∧ o.cls = .type "StopIteration") → E (.ref e) { s with heap := h' }) :
    wpAny (model prog w) A (Builtin.SmallTypes.nextOf (.ref z)) Q E s := by
  obtain ⟨f0, f, hz, hf⟩ := hz
  have hTy : s.TypeIs (.ref z) "zip" := ⟨_, hz, rfl⟩
  have key : ∀ {R : PySem.Fin → Shared → Prop}, wpAny (model prog w) A.in1 (Builtin.«zip.__next__» ⟨[.ref z], []⟩) R E s := fun {R} => by
    obtain ⟨a, b, hTO⟩ := hTO
    have fr : ZFree s.heap f0 → wpAny (model prog w) A.in1 (Builtin.«zip.__next__» ⟨[.ref z], []⟩) R E s := fun hf => zr_end hh D hz hf hTI hTO h1 h2 hl1 hl2 hend hE
    rcases hf with e | ⟨T, e⟩
    · exact fr (.inl e)
    · cases hT : s.heap.get? T with
      | none => exact fr (.inr ⟨T, e, hT⟩)
      | some oT =>
        subst e
        exact zip_next_end_held (A := A.in1) hh D hz hT hTI h1 h2 hl1 hl2 hend fun h' e a1 a2 => hE h' e (fun c o n1 _ n3 n4 q => a1 c o n1 n3 n4 q) a2
  unfold Builtin.SmallTypes.nextOf
  exact wpAny_bind (wpAny_callSpecial?_slot (name := Str.ofString "__next__") hTy F.slot_zip_next (wpAny_call_entry F.slot_zip_next hTy F.entry_zip_next key (F.args_zip_next_1 _)))
/-- enumerate's step over any iterator -/
theorem enum_step {e it : Addr} {c : Int} {old : Value} {Q : Value → Shared → Prop} (he : IsEnum s.heap e it c old)
    (inner : wpAny (model prog w) A (Builtin.SmallTypes.nextOf (.ref it)) (fun x s1 => IsEnum s1.heap e it c old ∧ ∀ h' tk, IsEnumOut h' e it (c + 1) x s1.heap.objs.size → h'.get? s1.heap.objs.size = some { cls := .type "tuple", data := .seq #[.int c s1.toks, x] } → h'.objs.size = s1.heap.objs.size + 1 →
      (∀ b o, b ≠ e → s1.heap.get? b = some o → h'.get? b = some o) → Q (.ref s1.heap.objs.size) { s1 with heap := h', toks := tk }) E s) :
    wpAny (model prog w) A (Builtin.«enumerate.__next__» ⟨[.ref e], []⟩) (fun fin s' => ∃ v, fin = .done (.ret v) ∧ Q v s') E s := by
  refine show wpAny _ _ (field (.ref e) 2 >>= _) _ _ _ from wpAny_bind (wpAny_field he rfl (x := .ref it) rfl (wpAny_bind (wpAny_mono inner (fun x s1 hx => ?_) fun _ _ q => q)))
  obtain ⟨eA, hQ⟩ := hx
  obtain ⟨hp, g, d, tk, os⟩ := s1
  refine show wpAny _ _ (field (.ref e) 3 >>= _) _ _ _ from wpAny_bind (wpAny_field eA rfl (x := rawInt c) rfl (show wpAny _ _ (field (.ref e) 4 >>= _) _ _ _ from wpAny_bind (wpAny_field eA rfl (x := .none) rfl (show wpAny _ _ (mkInt c >>= _) _ _ _ from wpAny_bind (wpAny_mkInt ?_)))))
  refine show wpAny _ _ (setField (.ref e) 3 (rawInt (c + 1)) >>= _) _ _ ⟨hp, g, d, tk + 1, os⟩ from wpAny_bind (wpAny_setField_rec eA (by simp) fun hB eB sB => ?_)
  replace sB : Heap.SameBut e hp hB := sB
  replace eB : IsEnum hB e it (c + 1) old := eB
  refine show wpAny _ _ (setField (.ref e) 4 .none >>= _) _ _ ⟨hB, g, d, tk + 1, os⟩ from wpAny_bind (wpAny_setField_rec eB (by simp) fun hC eC sC => ?_)
  replace sC : Heap.SameBut e hB hC := sC
  replace eC : IsEnum hC e it (c + 1) old := eC
  refine show wpAny _ _ (newTuple [.int c tk, x] >>= _) _ _ ⟨hC, g, d, tk + 1, os⟩ from wpAny_bind (wpAny_newTuple ?_)
  have sz : hC.objs.size = hp.objs.size := by rw [sC.1, sB.1]
  have el : e < hp.objs.size := Heap.lt_size eA
  have eD : IsEnum (hC.push { cls := .type "tuple", data := .seq #[.int c tk, x] }) e it (c + 1) old := Heap.get?_push_of_some _ eC
  have tD : (hC.push { cls := .type "tuple", data := .seq #[.int c tk, x] }).get? hp.objs.size = some { cls := .type "tuple", data := .seq #[.int c tk, x] } := by rw [← sz]; exact Heap.get?_push_size _ rfl
  have zD : (hC.push { cls := .type "tuple", data := .seq #[.int c tk, x] }).objs.size = hp.objs.size + 1 := by rw [Heap.size_push, sz]
  have kD : ∀ b o, b ≠ e → hp.get? b = some o → (hC.push { cls := .type "tuple", data := .seq #[.int c tk, x] }).get? b = some o := fun b o n q => Heap.get?_push_of_some _ (sC.extBut b o n (sB.extBut b o n q))
  show wpAny _ _ (Builtin.SmallTypes.ownedTupleIsFree (.ref e) >>= _) _ _ ⟨hC.push { cls := .type "tuple", data := .seq #[.int c tk, x] }, g, d, tk + 1, os⟩
  rw [sz]
  generalize hC.push { cls := .type "tuple", data := .seq #[.int c tk, x] } = hD at eD tD zD kD
  refine wpAny_bind ?_
  unfold Builtin.SmallTypes.ownedTupleIsFree
  refine wpAny_bind (wpAny_field eD rfl (x := .none) rfl (wpAny_pure ?_))
  simp only [if_true]
  refine wpAny_bind (wpAny_rule (wpAny_bind (wpAny_field eD rfl (x := old) rfl (wpAny_bind (wpAny_setField_rec eD (by simp) fun hE' eE sE => ?_)))))
  replace sE : Heap.SameBut e hD hE' := sE
  replace eE : IsEnum hE' e it (c + 1) x := eE
  refine show wpAny _ _ (Builtin.SmallTypes.ownedTupleHandOut (.ref e) (.ref hp.objs.size) >>= _) _ _ ⟨hE', g, d, tk + 1, os⟩ from wpAny_bind ?_
  unfold Builtin.SmallTypes.ownedTupleHandOut
  refine wpAny_bind (wpAny_setField_rec eE (by simp) fun hF eF sF => ?_)
  replace sF : Heap.SameBut e hE' hF := sF
  replace eF : IsEnumOut hF e it (c + 1) x hp.objs.size := eF
  refine wpAny_setField_rec eF (by simp) fun hG eG sG => wpAny_bind (wpAny_letGo (wpAny_pure ⟨_, rfl, hQ hG _ ?_ ?_ ?_ fun b o n q => ?_⟩))
  · exact eG
  · exact sG.extBut _ _ (Nat.ne_of_gt el) (sF.extBut _ _ (Nat.ne_of_gt el) (sE.extBut _ _ (Nat.ne_of_gt el) tD))
  · show hG.objs.size = hp.objs.size + 1
    rw [sG.1, sF.1, sE.1, zD]
  · exact sG.extBut b o n (sF.extBut b o n (sE.extBut b o n (kD b o n q)))
theorem meets_enum_zip (z TI TO : Addr) :
    Meets (Builtin.«enumerate.__new__» ⟨[.type "enumerate", .ref z], []⟩) (fun _ R s => IsZip s.heap z TI TO .none ∧
      R (.ok (.ret (.ref s.heap.objs.size))) { s with heap := s.heap.push { cls := .type "enumerate", data := .fields #[.none, .bool false, .ref z, rawInt 0, .none, .none] } }) :=
  .of_wp fun prog w A R s h => by
    obtain ⟨hp, g, d, tk, os⟩ := s; obtain ⟨hz, h⟩ := h
    have hsub := sub_enumerate
    have hZ : IsZip (Shared.heap ⟨hp, g, d, tk, os⟩) z TI TO .none := hz
    wp_walk using wpAny_pyIter_zip hZ
    refine wpAny_stack_any fun st => wpAny_pure ?_
    split
    · rename_i c _ _ _ _ _
      cases (c == Value.type "enumerate") <;> (wp_walk using wpAny_pyIter_zip hZ) <;> exact ⟨_, rfl, h⟩
    · (wp_walk using wpAny_pyIter_zip hZ) <;> exact ⟨_, rfl, h⟩
theorem call_enum_zip {Q : Value → Shared → Prop} (hz : IsZip s.heap z TI TO .none)
    (h : ∀ h', IsEnum h' s.heap.objs.size z 0 .none → h'.objs.size = s.heap.objs.size + 1 → (∀ b o, s.heap.get? b = some o → h'.get? b = some o) → Q (.ref s.heap.objs.size) { s with heap := h' }) :
    wpAny (model prog w) A (call (.type "enumerate") [.ref z]) Q E s := by
  refine callType_new F.called_enumerate (by decide) (F.typeCall_enumerate_1 _) (F.newCall_enumerate_1 _) (fun obj => F.args_object_init_2 obj _) F.entry_enumerate_new (meets_enum_zip z TI TO) ⟨hz, ?_⟩
  have he : IsEnum (s.heap.push { cls := .type "enumerate", data := .fields #[.none, .bool false, .ref z, rawInt 0, .none, .none] }) s.heap.objs.size z 0 .none := Heap.get?_push_size _ rfl
  exact ⟨⟨_, he, rfl⟩, h _ he (Heap.size_push ..) fun b o x => Heap.get?_push_of_some _ x⟩
end
/-- both lists' items in pairs, each with its place -/
def Itez (K : PySem.W.Frag) (a b : Addr) : It :=
  ⟨fun i H => ∃ (xs ys : List V) (x y : V), SqL K H a xs ∧ SqL K H b ys ∧ xs[i]? = some x ∧ ys[i]? = some y,
    fun i H v H' => ∃ T1 T2 x y, v = .ref T2 ∧ H T1 = none ∧ H T2 = none ∧ T1 ≠ T2 ∧ H' = upd (upd H T1 (.tup [x, y])) T2 (.tup [.int (i : Nat), .ref T1]) ∧ (∀ xs, SqL K H a xs → xs[i]? = some x) ∧ ∀ ys, SqL K H b ys → ys[i]? = some y,
    fun i H => ∃ xs ys : List V, SqL K H a xs ∧ SqL K H b ys ∧ (xs.length ≤ i ∨ ys.length ≤ i)⟩
theorem turn_ez {P : Program} {w : World} {K : PySem.W.Frag} {elts : List Expr} {kk : Nat} {tpos : Pos} {a b e z TI TO i1 i2 : Addr} (D : ZipApart z TI TO i1 i2 a b) (De : e ≠ z ∧ e ≠ TI ∧ e ≠ TO ∧ e ≠ i1 ∧ e ≠ i2) :
    Turn P w K (.Tuple elts kk tpos) (Itez K a b) [e, z, TI, TO, i1, i2] e (fun i h => (∃ old, IsEnum h e z ((i : Nat) : Int) old) ∧ ZSt h z TI TO ∧ IsPair h TI (.ref i1) (.ref i2) ∧ (∃ x y, IsPair h TO x y) ∧ h.IsListIter i1 a i ∧ h.IsListIter i2 b i) where
  mem := by simp
  obj := fun i h st c hc => by
    obtain ⟨⟨old, he⟩, ⟨f0, f, hz, _⟩, hTI, ⟨x, y, hTO⟩, ⟨o1, e1, _, d1⟩, ⟨o2, e2, _, d2⟩⟩ := st
    have e' : c = e ∨ c = z ∨ c = TI ∨ c = TO ∨ c = i1 ∨ c = i2 := by simpa using hc
    rcases e' with q | q | q | q | q | q
    · subst q; exact ⟨_, he, fun v q => nomatch q⟩
    · subst q; exact ⟨_, hz, fun v q => nomatch q⟩
    · subst q; exact ⟨_, hTI, fun v q => nomatch q⟩
    · subst q; exact ⟨_, hTO, fun v q => nomatch q⟩
    · subst q; exact ⟨o1, e1, fun v q => by rw [d1] at q; cases q⟩
    · subst q; exact ⟨o2, e2, fun v q => by rw [d2] at q; cases q⟩
  keep := fun i h h' st k => by
    obtain ⟨⟨old, he⟩, ⟨f0, f, hz, hf⟩, hTI, ⟨x, y, hTO⟩, h1, h2⟩ := st
    exact ⟨⟨old, k e (by simp) _ he⟩, ⟨f0, f, k z (by simp) _ hz, hf⟩, k TI (by simp) _ hTI, ⟨x, y, k TO (by simp) _ hTO⟩, h1.at fun o q => k i1 (by simp) o q, h2.at fun o q => k i2 (by simp) o q⟩
  item := by
    intro X hP hw hK hc i pins s σ H E I hf st hg
    subst hP hw hK
    obtain ⟨⟨old, he⟩, hz, hTI, hTO, h1, h2⟩ := st
    obtain ⟨xs, ys, x, y, hqx, hqy, hx, hy⟩ := hg
    obtain ⟨its, rv, p, _⟩ := I.list hqx
    obtain ⟨its2, rv2, p2, _⟩ := I.list hqy
    obtain ⟨u, hu, ru⟩ := rv.get hx
    obtain ⟨u2, hu2, ru2⟩ := rv2.get hy
    have hel : e < s.heap.objs.size := Heap.lt_size he
    have lts : ∀ c ∈ [e, z, TI, TO, i1, i2], c < s.heap.objs.size := fun c hcm => by
      obtain ⟨f0, f, hz', _⟩ := hz
      obtain ⟨x', y', hTO'⟩ := hTO
      have e' : c = e ∨ c = z ∨ c = TI ∨ c = TO ∨ c = i1 ∨ c = i2 := by simpa using hcm
      rcases e' with q | q | q | q | q | q
      · rw [q]; exact hel
      · rw [q]; exact Heap.lt_size hz'
      · rw [q]; exact Heap.lt_size hTI
      · rw [q]; exact Heap.lt_size hTO'
      · rw [q]; obtain ⟨_, e1, _⟩ := h1; exact Heap.lt_size e1
      · rw [q]; obtain ⟨_, e2, _⟩ := h2; exact Heap.lt_size e2
    have hTy : s.TypeIs (.ref e) "enumerate" := ⟨_, he, rfl⟩
    unfold pyNext
    refine wpAny_bind (wpAny_attempt (wpAny_callSpecial?_slot (name := Str.ofString "__next__") hTy F.slot_enumerate_next (wpAny_call_entry F.slot_enumerate_next hTy F.entry_enumerate_next
      (wpAny_mono (enum_step (Q := fun v s1 => ∃ h' tk, v = .ref (s.heap.objs.size + 1) ∧ s1 = { s with heap := h', toks := tk } ∧ IsEnumOut h' e z ((i : Int) + 1) (.ref s.heap.objs.size) (s.heap.objs.size + 1) ∧
          h'.get? (s.heap.objs.size + 1) = some { cls := .type "tuple", data := .seq #[.int i s.toks, .ref s.heap.objs.size] } ∧ IsPair h' s.heap.objs.size u u2 ∧ h'.objs.size = s.heap.objs.size + 2 ∧
          ZSt h' z TI TO ∧ (∃ a b, IsPair h' TO a b) ∧ h'.IsListIter i1 a (i + 1) ∧ h'.IsListIter i2 b (i + 1) ∧ ∃ hA, IsPair hA s.heap.objs.size u u2 ∧ hA.objs.size = s.heap.objs.size + 1 ∧ (∀ c o, c ∉ [e, z, TI, TO, i1, i2] → s.heap.get? c = some o → hA.get? c = some o) ∧ (IsPair hA TI (.ref i1) (.ref i2)) ∧ ∀ c o, c ≠ e → hA.get? c = some o → h'.get? c = some o) he ?inner) ?post fun _ _ q => q) (F.args_enumerate_next_1 _))))
    case inner =>
      refine zst_item D hz hTI hTO h1 h2 p.isList p2.isList (x := u) (y := u2) (by simpa using hu) (by simpa using hu2) fun hA zA tA j1 j2 pA szA kA => ?_
      refine ⟨kA e _ De.1 De.2.2.1 De.2.2.2.1 De.2.2.2.2 he, fun hB tk eB tB szB kB => ?_⟩
      have eqA : ({ s with heap := hA } : Shared).heap.objs.size = s.heap.objs.size + 1 := szA
      obtain ⟨f0, f, zr, zf⟩ := zA
      obtain ⟨x', y', tA⟩ := tA
      rw [eqA] at eB tB szB ⊢
      refine ⟨hB, tk, rfl, rfl, eB, tB, kB _ _ (Nat.ne_of_gt hel) pA, szB, ⟨f0, f, kB _ _ De.1.symm zr, zf⟩, ⟨x', y', kB _ _ De.2.2.1.symm tA⟩, j1.at fun o q => kB _ _ De.2.2.2.1.symm q, j2.at fun o q => kB _ _ De.2.2.2.2.symm q, hA, pA, szA, fun c o n q => ?_, kA _ _ D.TIz D.TITO D.TIi1 D.TIi2 hTI, kB⟩
      have nc : c ≠ e ∧ c ≠ z ∧ c ≠ TI ∧ c ≠ TO ∧ c ≠ i1 ∧ c ≠ i2 := by simpa using n
      exact kA c o nc.2.1 nc.2.2.2.1 nc.2.2.2.2.1 nc.2.2.2.2.2 q
    case post =>
      rintro fin s1 ⟨v, rfl, hB, tk, rfl, rfl, eB, tB, pB, szB, zB, tOB, j1, j2, hA, pA, szA, kA, tIA, kB⟩
      refine ⟨_, rfl, wpAny_pure ⟨_, rfl, ?_⟩⟩
      refine wpAny_letOwnedTupleGo_enum (s := { s with heap := hB, toks := tk }) eB fun hC eC sC => ?_
      have t2 : hC.get? (s.heap.objs.size + 1) = some { cls := .type "tuple", data := .seq #[.int i s.toks, .ref s.heap.objs.size] } := (sC.2 _ (Nat.ne_of_gt (Nat.lt_succ_of_lt hel))).trans tB
      have I1 : Inv X pins σ (upd H s.heap.objs.size (.tup [x, y])) { s with heap := hA, toks := s.toks } :=
        I.turnedNew (ch := [e, z, TI, TO, i1, i2]) kA hf (Nat.le_refl _) ⟨by show 2 ≤ sizeLine; decide, [u, u2], .cons ru (.cons ru2 .nil), ⟨_, pA, rfl, _, rfl⟩⟩
      have I2 : Inv X pins σ (upd (upd H s.heap.objs.size (.tup [x, y])) (s.heap.objs.size + 1) (.tup [.int (i : Nat), .ref s.heap.objs.size])) { s with heap := hC, toks := tk } := by
        refine I1.turnedNew (ch := [e, z, TI, TO, i1, i2]) (fun c o n q => ?_) (fun c hcm => ⟨?_, (hf c hcm).2⟩) (Nat.le_of_eq szA) ⟨by show 2 ≤ sizeLine; decide, [.int i s.toks, .ref s.heap.objs.size], .cons ⟨_, rfl⟩ (.cons rfl .nil), ⟨_, t2, rfl, _, rfl⟩⟩
        · have nc : c ≠ e := by
            intro z'; exact n (by simp [z'])
          exact (sC.2 c nc).trans (kB c o nc q)
        · rw [upd_ne (Nat.ne_of_lt (lts c hcm))]
          exact (hf c hcm).1
      refine ⟨.ref (s.heap.objs.size + 1), _, I2, rfl, ⟨_, _, x, y, rfl, I.hok.fresh (Nat.le_refl _), I.hok.fresh (Nat.le_succ _), (Nat.succ_ne_self _).symm, rfl, fun l hl => by rw [I.list_inj hl hqx]; exact hx, fun l hl => by rw [I.list_inj hl hqy]; exact hy⟩, ?_, fun c hcm => ?_⟩
      · obtain ⟨f0, f, zr, zf⟩ := zB
        obtain ⟨x', y', tOB⟩ := tOB
        refine ⟨⟨Value.ref s.heap.objs.size, ?_⟩, ⟨f0, f, (sC.2 _ De.1.symm).trans zr, zf⟩, (sC.2 _ De.2.1.symm).trans (kB _ _ De.2.1.symm tIA), ⟨x', y', (sC.2 _ De.2.2.1.symm).trans tOB⟩, j1.at fun o q => (sC.2 _ De.2.2.2.1.symm).trans q, j2.at fun o q => (sC.2 _ De.2.2.2.2.symm).trans q⟩
        have ei : ((i + 1 : Nat) : Int) = (i : Int) + 1 := by omega
        rw [ei]; exact eC
      · have hl := lts c hcm
        rw [upd_ne (Nat.ne_of_lt (Nat.lt_succ_of_lt hl)), upd_ne (Nat.ne_of_lt hl)]
        exact (hf c hcm).1
  done := by
    intro X hP hw hK hc i pins s σ H E I hf st hg
    subst hP hw hK
    obtain ⟨⟨old, he⟩, hz, hTI, hTO, h1, h2⟩ := st
    obtain ⟨xs, ys, hqx, hqy, hend⟩ := hg
    obtain ⟨its, rv, p, _⟩ := I.list hqx
    obtain ⟨its2, rv2, p2, _⟩ := I.list hqy
    have en : its.toArray[i]? = none ∨ its2.toArray[i]? = none := by
      have a1 := rv.length
      have a2 := rv2.length
      rcases hend with q | q
      · exact .inl (by simp; omega)
      · exact .inr (by simp; omega)
    have hTy : s.TypeIs (.ref e) "enumerate" := ⟨_, he, rfl⟩
    unfold pyNext
    refine wpAny_bind (wpAny_attempt (wpAny_callSpecial?_slot (name := Str.ofString "__next__") hTy F.slot_enumerate_next (wpAny_call_entry F.slot_enumerate_next hTy F.entry_enumerate_next
      (show wpAny _ _ (field (.ref e) 2 >>= _) _ _ _ from wpAny_bind (wpAny_field he rfl (x := .ref z) rfl (wpAny_bind (zst_end (I.ok.hd hc) D hz hTI hTO h1 h2 p.isList p2.isList en fun h' x kx hx => ?_)))) (F.args_enumerate_next_1 _))))
    obtain ⟨o, ho, hc'⟩ := hx
    refine wpAny_bind (wpAny_isInstance (T := "StopIteration") (b := true) ⟨o, ho, hc'⟩ isSubtype_stop (wpAny_pure ⟨rfl, I.turnedL (t' := s.toks) (ch := [e, z, TI, TO, i1, i2]) (fun c o n q => ?_) hf⟩))
    have nc : c ≠ e ∧ c ≠ z ∧ c ≠ TI ∧ c ≠ TO ∧ c ≠ i1 ∧ c ≠ i2 := by simpa using n
    exact kx c o nc.2.1 nc.2.2.2.1 nc.2.2.2.2.1 nc.2.2.2.2.2 q
  self := fun A i s Q E st h => let ⟨⟨_, he⟩, _⟩ := st; wpAny_pyIter_enum he h
def iEz (K : PySem.W.Frag) (ta : TA) : TI := fun σ H R => ta σ H fun vs H1 => ∃ a b xs ys, vs = [.ref a, .ref b] ∧ SqL K H1 a xs ∧ SqL K H1 b ys ∧ R (Itez K a b) H1
theorem pi_ez {X : Cx} {e e2 : Expr} {ta : TA} {p pos p2 pos2 tpos : Pos} {elts : List Expr} {kk : Nat} (hg : Gl X "enumerate") (hm : X.mg "enumerate" = none) (hg2 : Gl X "zip") (hm2 : X.mg "zip" = none) (ha : PA X [e, e2] ta)
    (hs : starEach [e, e2] X.env = (false, eval e X.env) :: starEach [e2] X.env := by rfl) (hpl : (backTo pos2 (starEach [e2] X.env)).any (·.1) = false := by rfl) :
    PI X (.Tuple elts kk tpos) (.Call (.Name "enumerate" p) [.Call (.Name "zip" p2) [e, e2] [] pos2] [] pos) (iEz X.K ta) := by
  refine ⟨fun pins s σ H R I h => ?_⟩
  refine Call_ (ld_blt I hg hm boot_enumerate (PyProof.Rows.callWith_type1 (args_cons (Call_ (ld_blt I hg2 hm2 PyProof.Rows.boot_zip (PyProof.Rows.callWith_type1 (thn (ha.run pos2 pins s σ H _ I h) fun us s1 ⟨vs, H1, I1, r1, q1⟩ => ?_) hs hpl))) rfl) rfl rfl))
  obtain ⟨a, b, xs, ys, ex, hqx, hqy, q⟩ := q1
  subst ex
  cases r1 with
  | cons r rr =>
    cases rr with
    | cons r' rr =>
      cases rr
      cases r
      cases r'
      obtain ⟨its, rv, pa, _⟩ := I1.list hqx
      obtain ⟨its2, rv2, pb, _⟩ := I1.list hqy
      refine call_zip_2 pa.isList pb.isList fun hA hz hTI hTO h1 h2 szA kA => args_nil ?_
      refine call_enum_zip hz fun hB eB szB kB => wpAny_pyIter_enum eB ?_
      have I2 : Inv X pins σ H1 { s1 with heap := hB } := I1.kept (t' := s1.toks) fun c o e => kB c o (kA c o e)
      have neN : ∀ j k : Nat, j ≠ k → s1.heap.objs.size + j ≠ s1.heap.objs.size + k := fun j k n q => n (Nat.add_left_cancel q)
      have sz : ({ s1 with heap := hA } : Shared).heap.objs.size = s1.heap.objs.size + 5 := szA
      rw [sz] at eB ⊢
      refine ⟨s1.heap.objs.size + 5, [s1.heap.objs.size + 5, s1.heap.objs.size + 4, s1.heap.objs.size + 2, s1.heap.objs.size + 3, s1.heap.objs.size, s1.heap.objs.size + 1], _, _, H1, rfl, I2,
        turn_ez (PySem.W.ktu_apart s1.heap.objs.size a b pa.lt pb.lt) ⟨neN 5 4 (by decide), neN 5 2 (by decide), neN 5 3 (by decide), neN 5 0 (by decide), neN 5 1 (by decide)⟩, ⟨⟨.none, eB⟩, ⟨_, _, kB _ _ hz, .inl rfl⟩, kB _ _ hTI, ⟨_, _, kB _ _ hTO⟩, h1.at fun o e => kB _ _ e, h2.at fun o e => kB _ _ e⟩, fun c hcm => ?_, q⟩
      have e' : c = s1.heap.objs.size + 5 ∨ c = s1.heap.objs.size + 4 ∨ c = s1.heap.objs.size + 2 ∨ c = s1.heap.objs.size + 3 ∨ c = s1.heap.objs.size ∨ c = s1.heap.objs.size + 1 := by simpa using hcm
      have hle : s1.heap.objs.size ≤ c := by
        rcases e' with z | z | z | z | z | z <;> rw [z] <;> first | exact Nat.le_refl _ | exact Nat.le_add_right _ _
      exact I1.fpOk hle (I1.hok.fresh hle)
theorem wk_ez {T : List (Addr × Str)} {K : PySem.W.Frag} {F0 : Hp} {a b : Addr} {xs ys : List D} {vs ws : List V} (h : SqL K F0 a vs) (r : IsAll K F0 xs vs) (h' : SqL K F0 b ws) (r' : IsAll K F0 ys ws) : Wk T K (Itez K a b) (enumD (zipD xs ys)) F0 := fun i F M H e hh => by
  have h2 : SqL K H a vs := (e.trans hh.fr).seq h
  have h3 : SqL K H b ws := (e.trans hh.fr).seq h'
  refine ⟨fun hi => ⟨vs, ws, h2, h3, by rw [r.len, r'.len]; rw [enumD_len, zipD_len] at hi; omega⟩, fun x hx => ?_⟩
  obtain ⟨xy, hxy, rfl⟩ := enumD_get hx
  obtain ⟨x, y, hxx, hyy, rfl⟩ := zipD_get hxy
  obtain ⟨v, hv, iv⟩ := (IsAll.mono e _ _ r).get hxx
  obtain ⟨w, hw, iw⟩ := (IsAll.mono e _ _ r').get hyy
  refine ⟨⟨vs, ws, v, w, h2, h3, hv, hw⟩, fun u H' z => ?_⟩
  obtain ⟨T1, T2, x', y', rfl, n1, n2, ne, rfl, z1, z2⟩ := z
  have e1 := z1 vs h2
  have e2 := z2 ws h3
  rw [hv] at e1; cases e1
  rw [hw] at e2; cases e2
  obtain ⟨g1, u1⟩ := hh.newF (o := .tup [v, w]) n1
  have n2' : upd H T1 (.tup [v, w]) T2 = none := by rw [upd_ne ne.symm]; exact n2
  obtain ⟨g2, u2⟩ := g1.newF (o := .tup [.int (i : Nat), .ref T1]) n2'
  refine ⟨_, u1.trans u2, g2, ?_⟩
  simp only [Is]
  have at1 : upd (upd F T1 (.tup [v, w])) T2 (.tup [.int (i : Nat), .ref T1]) T1 = some (.tup [v, w]) := by rw [upd_ne ne, upd_same]
  refine ⟨T2, _, rfl, upd_same, .cons (by simp only [Is]) (.cons ?_ .nil)⟩
  simp only [Is]
  exact ⟨T1, _, rfl, at1, .cons (Is.mono (u1.trans u2).ex _ _ iv) (.cons (Is.mono (u1.trans u2).ex _ _ iw) .nil)⟩
def iEzp (ta : DTA) : DTI := fun δ M Q => ta δ M fun ds M1 => match ds with
  | [d, d'] => asL d fun xs => asL d' fun ys => Q (enumD (zipD xs ys)) M1
  | _ => False
theorem i_ez {T : List (Addr × Str)} {X : Cx} {e e2 : Expr} {ta : DTA} {p pos p2 pos2 tpos : Pos} {elts : List Expr} {kk : Nat} (hg : Gl X "enumerate") (hm : X.mg "enumerate" = none) (hg2 : Gl X "zip") (hm2 : X.mg "zip" = none) (ha : DPA T X [e, e2] ta)
    (hs : starEach [e, e2] X.env = (false, eval e X.env) :: starEach [e2] X.env := by rfl) (hpl : (backTo pos2 (starEach [e2] X.env)).any (·.1) = false := by rfl) :
    DPI T X (.Tuple elts kk tpos) (.Call (.Name "enumerate" p) [.Call (.Name "zip" p2) [e, e2] [] pos2] [] pos) (iEzp ta) := by
  obtain ⟨a, a1, a2⟩ := ha.ex
  refine ⟨_, pi_ez hg hm hg2 hm2 a1 hs hpl, fun δ M Q σ F H R hs hh ht k => ?_⟩
  refine a2 δ M _ σ F H _ hs hh ht fun vs ds F1 M1 H1 u1 h1 i1 q1 => ?_
  split at q1
  · rename_i d d'
    obtain ⟨v, r, rfl, hv, hr⟩ := i1.uncons
    obtain ⟨v', r', rfl, hv', hr'⟩ := hr.uncons
    obtain rfl := hr'.nil_eq
    obtain ⟨p, ws, xs, rfl, hq, r, q1⟩ := asL_of hv q1
    obtain ⟨p', ws', ys, rfl, hq', r', q1⟩ := asL_of hv' q1
    exact ⟨p, p', ws, ws', rfl, h1.fr.seq hq, h1.fr.seq hq', k _ _ F1 M1 H1 u1 h1 (wk_ez hq r hq' r') q1⟩
  · exact q1.elim
end DL

namespace DL
open PySem PySem.Spec PyProof.Rows L2
/-! ### the end: the law's call, its promise asked of the caller alone -/
section
variable {P : Program} {w : World} {K : PySem.W.Frag} {mg mb : Str → Option Value} {k : Nat} {fa a : Addr} {cs : List (Addr × Addr)} {fd : FuncData} {x : Str} {d : DRA} {T : List (Addr × Str)} {s₁ : Shared} {vs : List Value} {ns : List Int}
theorem law_callX (KX : K.In s₁.heap) (hns : s₁.heap.Ns mainGlobals mg) (hb : s₁.heap.Ns builtinsNs mb) (hbb : ∀ x : Str, x ≠ "__name__" → mb x = bootBuiltins x) (hlim : s₁.heap.NoLimit) (hg : s₁.gens = #[])
    (hT : ∀ p ∈ cs, s₁.heap.get? p.2 = some { cls := .none, data := .fields #[] }) (nT : ∀ p ∈ cs, K.lookup p.2 = none) (C : ∀ p ∈ cs, PySem.W.CodeHd s₁.heap p.1 p.2)
    (hbm : ∃ (bm : Addr) (ob : Obj), mg "__builtins__" = some (.ref bm) ∧ bm ≠ builtinsNs ∧ s₁.heap.get? bm = some ob ∧ ob.cls = .type "module" ∧ ob.dict = some builtinsNs ∧ ob.data = .plain)
    (ha : s₁.heap.get? a = some { cls := .type "list", data := .seq vs.toArray }) (hi : IntsAre vs ns) (hl : ns.length ≤ sizeLine) (hr : Room k callerA) (hTT : ∀ p ∈ T, ∃ c ∈ cs, c.2 = p.1)
    (F : ∀ base : Heap, K.In base → base.Ns mainGlobals mg → (∀ p ∈ cs, LamX.TabB base mg p.1 p.2) → FnX P w K mg base true k fa fd [x] (spD T K d)) (hbind : ∀ (s : Shared) (u : Value), BindsTo s fd ⟨[u], []⟩ [(x, u)])
    (hd : d [.lk (ns.map D.int)] (fun _ => none) fun r _ => r = .bl true) :
    codeAny (model P w) callerA (.call (.ref fa) ⟨[.ref a], []⟩) (fun r s' => r = .ok (.ret (.bool true)) ∧ OldK s₁.heap s'.heap ∧ s'.os = s₁.os ∧ AllBare s'.gens) s₁ := by
  have rv := vals_ints hi
  have lenV := hi.length
  have tab : ∀ {b : Addr}, b ∈ cs.map (·.2) → s₁.heap.get? b = some { cls := .none, data := .fields #[] } := fun {b} hb => by
    obtain ⟨p, hp, e⟩ := List.mem_map.mp hb
    rw [← e]; exact hT p hp
  have nta : a ∉ cs.map (·.2) := fun z => by
    have q := tab z
    rw [ha] at q
    have : Data.seq vs.toArray _ = Data.fields #[] := congrArg Obj.data (Option.some.inj q)
    cases this
  let G : Hp := fun b => if b = a ∧ (K.lookup a).isNone = true then some (.frz { cls := .type "list", data := .seq vs.toArray } (.lst (ns.map V.int))) else none
  let H : Hp := fun b => if b = a ∧ (K.lookup a).isNone = true then some (.frz { cls := .type "list", data := .seq vs.toArray } (.lst (ns.map V.int))) else if b ∈ cs.map (·.2) then some (.tbl #[]) else none
  have Ht : ∀ {b : Addr}, b ∈ cs.map (·.2) → H b = some (.tbl #[]) := fun {b} hb => by
    have n1 : ¬(b = a ∧ (K.lookup a).isNone = true) := fun z => nta (z.1 ▸ hb)
    exact (if_neg n1).trans (if_pos hb)
  have Hn : ∀ {b : Addr} {o : Obj}, s₁.heap.get? b = some o → (b = a → (K.lookup a).isNone = true → False) → o.data ≠ .fields #[] → H b = none := fun {b o} e n1 n2 => by
    have n3 : ¬(b = a ∧ (K.lookup a).isNone = true) := fun z => n1 z.1 z.2
    have n4 : ¬b ∈ cs.map (·.2) := fun z => by
      rw [tab z] at e; cases e; exact n2 rfl
    exact (if_neg n3).trans (if_neg n4)
  have Hk : ∀ {b : Addr} {u : HO}, H b = some u → (b = a ∧ (K.lookup a).isNone = true ∧ u = .frz { cls := .type "list", data := .seq vs.toArray } (.lst (ns.map V.int))) ∨ (b ∈ cs.map (·.2) ∧ u = .tbl #[]) := fun {b u} z => by
    by_cases h1 : b = a ∧ (K.lookup a).isNone = true
    · exact .inl ⟨h1.1, h1.2, Option.some.inj (((if_pos h1).symm.trans z).symm)⟩
    · have z1 := (if_neg h1).symm.trans z
      by_cases h2 : b ∈ cs.map (·.2)
      · exact .inr ⟨h2, Option.some.inj (((if_pos h2).symm.trans z1).symm)⟩
      · have z2 := (if_neg h2).symm.trans z1
        cases z2
  have hok : HOk P w H s₁.heap := fun b u z => by
    rcases Hk z with ⟨rfl, _, rfl⟩ | ⟨hb, rfl⟩
    · exact ⟨ha, by rw [List.length_map]; exact hl, vs, _, rv, ha⟩
    · exact tab hb
  have at_ : ∀ {b : Addr} {o : Obj}, s₁.heap.get? b = some o → (∀ xs n, o.data ≠ .seq xs n) → o.data ≠ .fields #[] → (hidT s₁.heap H).get? b = some o := fun {b o} e n1 n2 =>
    hidT_get e (Hn e (fun z _ => by
      subst z; rw [ha] at e; cases e; exact n1 _ _ rfl) n2)
  have nsK : ∀ {b : Addr} {m : Str → Option Value}, s₁.heap.Ns b m → (hidT s₁.heap H).Ns b m := fun {b m} ⟨o, es, ep, e, q, r⟩ =>
    ⟨o, es, ep, at_ e (fun xs n z => by rw [q] at z; cases z) (fun z => by rw [q] at z; cases z), q, r⟩
  have hKb : K.In (hidT s₁.heap H) := fun b o e => hidT_get (KX b o e) (by
    cases q : H b with
    | none => rfl
    | some u =>
      rcases Hk q with ⟨rfl, n, _⟩ | ⟨hb, _⟩
      · rw [e] at n; cases n
      · obtain ⟨p, hp, ep⟩ := List.mem_map.mp hb
        rw [← ep, nT p hp] at e; cases e)
  have hM : L2.Mod K mg (hidT s₁.heap H) := ⟨hKb, nsK hns, ⟨mb, nsK hb, hbb⟩, let ⟨mc, h1, h2⟩ := hlim; ⟨mc, nsK h1, h2⟩⟩
  have TB : ∀ p ∈ cs, LamX.TabB (hidT s₁.heap H) mg p.1 p.2 := fun p hp => by
    have tp := hT p hp
    refine ⟨?_, ?_, fun z => ?_⟩
    · obtain ⟨o, us, file, tf, flags, tg, inF, text, tt, e1, r1, r2, r3, r4, r5, r6, r7, r8, ne⟩ := C p hp
      exact ⟨o, us, file, tf, flags, tg, inF, text, tt, at_ e1 (fun xs n z => by rw [r2] at z; cases z) (fun z => by rw [r2] at z; cases z; simp at r3), r1, r2, r3, r4, r5, r6, r7, r8, ne⟩
    · obtain ⟨bm, ob, b1, b2, b3, b4, b5, b6⟩ := hbm
      refine ⟨bm, ob, b1, b2, fun q => ?_, fun q => ?_, at_ b3 (fun xs n z => by rw [b6] at z; cases z) (fun z => by rw [b6] at z; cases z), b4, b5, b6⟩
      · obtain ⟨o, es, ep, e, q2, _⟩ := hns
        rw [q, e] at b3; cases b3; rw [q2] at b6; cases b6
      · rw [q, tp] at b3; cases b3; cases b6
    · obtain ⟨o, es, ep, e, q2, _⟩ := hns
      rw [z, tp] at e; cases e; cases q2
  have e0 : Env0 P w K mg (hidT s₁.heap H) callerA [] s₁ H := ⟨rfl, hM, fun b o e => of_hidT e, Nat.le_of_eq (hidT_size _ _), trivial, fun b hb => absurd (show b ∈ ([] : List Addr) from hb) (by simp), hok, .of_eq hg⟩
  have GH : ∀ {b : Addr} {u : HO}, G b = some u → b = a ∧ (K.lookup a).isNone = true ∧ H b = some u := fun {b u} z => by
    by_cases h1 : b = a ∧ (K.lookup a).isNone = true
    · exact ⟨h1.1, h1.2, (if_pos h1).trans ((if_pos h1).symm.trans z)⟩
    · have z1 := (if_neg h1).symm.trans z
      cases z1
  have hHd : Hd T K G (fun _ => none) H := by
    refine ⟨fun b u z => (GH z).2.2, fun b ps z => ?_, fun p hp => ?_, fun b m z => by cases z⟩
    · have q := GH z
      have q2 := Hk q.2.2
      rcases q2 with ⟨_, _, e⟩ | ⟨e, _⟩
      · cases e
      · exact nta (q.1 ▸ e)
    · obtain ⟨c, hc, e⟩ := hTT p hp
      rw [← e]
      exact LamX.TabS.nil (Ht (List.mem_map.mpr ⟨c, hc, rfl⟩))
  have hS : SqL K G a (ns.map V.int) := by
    cases q : K.lookup a with
    | none =>
      refine .inl (.inr ⟨{ cls := .type "list", data := .seq vs.toArray }, if_pos ⟨rfl, ?_⟩⟩)
      rw [q]; rfl
    | some o =>
      have e := KX a o q
      rw [ha] at e; cases e
      exact .inr ⟨_, vs.toArray, _, q, rfl, rfl, rfl, by rw [List.size_toArray, lenV]; exact hl, by simpa using rv⟩
  have hIs : IsAll K G [.lk (ns.map D.int)] [.ref a] := .cons (by simp only [Is]; exact ⟨a, _, rfl, hS, .ints ns⟩) .nil
  refine codeAny_mono ((F _ hKb (nsK hns) TB).run callerA [] s₁ H ⟨[.ref a], []⟩ [.ref a] [.ref a] (fun v _ => v = .bl true) hr (fun _ => rfl) e0 (hbind s₁ (.ref a)) (.cons rfl .nil) ⟨G, fun _ => none, _, _, hHd, hIs, hd, fun v r F' M' H' _ _ i q => ?_⟩) fun r s' h => ?_
  · subst q; simp only [Is] at i; exact i
  · cases r with
    | error e => exact False.elim h
    | ok fl =>
      cases fl with
      | next => exact False.elim h
      | brk => exact False.elim h
      | cont => exact False.elim h
      | ret u =>
        obtain ⟨v, H', os, bare, un, hok', r', q⟩ := h
        subst q
        obtain rfl : u = Value.bool true := r'
        have key : ∀ b o, b ∉ cs.map (·.2) → s₁.heap.get? b = some o → s'.heap.get? b = some o := fun b o nb e => by
          cases q : H b with
          | none => exact un.keep b o e q (by intro z; exact absurd (show b ∈ ([] : List Addr) from z) (by simp)) (by simp)
          | some u =>
            rcases Hk q with ⟨rfl, _, rfl⟩ | ⟨hb, _⟩
            · rw [ha] at e; cases e
              exact (hok' _ _ (un.frzs _ _ _ q)).1
            · exact absurd hb nb
        have grown : ∀ p ∈ cs, ∃ more : Array Value, s'.heap.get? p.2 = some { cls := .none, data := .fields more } := fun p hp => by
          obtain ⟨more, z⟩ := un.tbls p.2 #[] (Ht (List.mem_map.mpr ⟨p, hp, rfl⟩))
          exact ⟨_, hok' p.2 _ z⟩
        refine ⟨rfl, ⟨fun b o e => ?_, fun b o e => ?_⟩, os, bare⟩
        · by_cases hb : b ∈ cs.map (·.2)
          · obtain ⟨p, hp, ep⟩ := List.mem_map.mp hb
            obtain ⟨more, hm⟩ := grown p hp
            subst ep
            rw [hT p hp] at e; cases e
            exact .inr (.inl ⟨((C p hp).tab (hT p hp)).isCodeTable, rfl, #[], more, rfl, by rw [Array.empty_append]; exact hm⟩)
          · exact .inl (key b o hb e)
        · by_cases hb : b ∈ cs.map (·.2)
          · obtain ⟨p, hp, ep⟩ := List.mem_map.mp hb
            obtain ⟨more, hm⟩ := grown p hp
            exact ⟨_, ep ▸ hm⟩
          · exact ⟨o, key b o hb e⟩
end
theorem tabIn_mk {K : PySem.W.Frag} {x : Str} {f c Pt : Addr} {oc xc : Value} {od xd : Option Addr} {fd : FuncData} {osl xs : Array (Option Value)} {us : Array Value} (a : PySem.W.nsIn K mainGlobals x = some (some (.ref f))) (l : K.lookup f = some ⟨oc, od, .func fd, osl⟩) (hc : fd.code = .ref c)
    (t : K.lookup c = some ⟨xc, xd, .fields us, xs⟩) (p : us[11]? = some (.ref Pt)) : PySem.W.tabIn K x = some (c, Pt) := by
  unfold PySem.W.tabIn
  simp only [a, l, hc, t, p]
/-- what is known of the law at the head's heap h -/
def LawAtX (l : PySem.W.OpenLaw) (w : World) (K : PySem.W.Frag) (k n : Nat) (x : Str) (mg : Str → Option Value) (fa : Addr) (h : Heap) : Prop :=
  ∃ (fd : FuncData) (cs : List (Addr × Addr)) (T : List (Addr × Str)) (d : DRA), (∀ p ∈ cs, h.get? p.2 = some { cls := .none, data := .fields #[] }) ∧ (∀ p ∈ cs, K.lookup p.2 = none) ∧ (∀ p ∈ cs, PySem.W.CodeHd h p.1 p.2) ∧ (∀ p ∈ T, ∃ c ∈ cs, c.2 = p.1) ∧
    (∀ (s : Shared) (u : Value), BindsTo s fd ⟨[u], []⟩ [(x, u)]) ∧ (∀ ns : List Int, ns.length ≤ n → (∀ z ∈ ns, Builtin.Int.intBits z ≤ 1048576) → d [.lk (ns.map D.int)] (fun _ => none) fun r _ => r = .bl true) ∧
    ∀ base : Heap, K.In base → base.Ns mainGlobals mg → (∀ p ∈ cs, LamX.TabB base mg p.1 p.2) → FnX l.prog w K mg base true k fa fd [x] (spD T K d)
theorem walk_X {l : PySem.W.OpenLaw} {n k : Nat} {q : Program} {loose : List Str} {XP : (Str → Option Value) → Heap → Prop} {YP : World → Heap → Prop} {d : DefRec} {K : Params → PySem.W.Frag} {x : Str}
    (hn : l.most = some n) (hn2 : n ≤ sizeLine) (hdf : d.params.defaults = []) (hr : Room k callerA) (hY : ∀ (w : World) (h : Heap), YP w h → (K w.params).In h)
    (F : ∀ (w : World) (mg : Str → Option Value) (fa : Addr) (h : Heap), YP w h → (K w.params).In h → h.Ns mainGlobals mg → mg d.name = some (.ref fa) → (∀ y c Pt, (PyProof.Rows.recsOf q).any (fun e => e.name == y) = true → PySem.W.tabIn (K w.params) y = some (c, Pt) → PySem.W.CodeHd h c Pt ∧ h.get? Pt = some { cls := .none, data := .fields #[] }) → LawAtX l w (K w.params) k n x mg fa h) :
    PySem.W.WalkO q loose XP YP l.row.toRowW d [] (fun f vs => PySem.call f vs) := by
  refine Att.attach_callB hn hdf fun w s₀ s₁ mg mb fa o pm cd doc a vs ns G Y ho hd hcd hmg hobj hints hlen hbits hg => ?_
  obtain ⟨fd, cs, T, dd, h1, h2, h3, h4, h5, h6, h7⟩ := F w mg fa _ Y (hY w _ Y) G.T.g hmg fun y c Pt e1 e2 => by
    cases e : (PyProof.Rows.recsOf q).find? (fun e => e.name == y) with
    | none => rw [List.find?_eq_none] at e; obtain ⟨u, hu, eu⟩ := List.any_eq_true.mp e1; exact absurd eu (e u hu)
    | some u => exact PySem.W.tab_of G.T (hY w _ Y) e e2
  exact law_callX (hY w _ Y) G.T.g G.T.b G.T.builtins G.T.nolimit hg h1 h2 h3 G.T.bmain hobj hints (Nat.le_trans hlen hn2) hr h4 h7 h5 (h6 ns hlen hbits)
end DL

namespace DL
open PySem PySem.Spec PyProof.Rows L2
/-! ### short names for what a generator of derivations prints -/
abbrev kAdd : DR2 := kII fun i j => .int (i + j)
abbrev kSub : DR2 := kII fun i j => .int (i - j)
abbrev kMod : DR2 := kIC (fun _ j => 0 < j) fun i j => .int (i % j)
abbrev kMul : DR2 := kIC CMulD fun i j => .int (i * j)
abbrev kPow : DR2 := kIC CPowD fun i j => .int (i ^ j.toNat)
abbrev kDiv : DR2 := kIC CDivD fun i j => .int (i / j)
abbrev kLt : DR2 := kII fun i j => .bl (decide (i < j))
abbrev kLe : DR2 := kII fun i j => .bl (decide (i ≤ j))
abbrev kGt : DR2 := kII fun i j => .bl (decide (j < i))
abbrev kGe : DR2 := kII fun i j => .bl (decide (j ≤ i))
abbrev kNeg : DR1 := kI fun i => .int (-i)
abbrev aAdd (i : Nat) (te : DTE) : DTS := dAug i te fun a b => .int (a + b)
abbrev aSub (i : Nat) (te : DTE) : DTS := dAug i te fun a b => .int (a - b)
theorem u64 {k : Nat} {A : Around} (hr : Room k A) : A.units + 64 < cLine := by have := hr.un; omega
/-- a def's place: what the head tells of it -/
structure DefAt (K : PySem.W.Frag) (mg : Str → Option Value) (x : Str) (st : Stmt) (f : Addr) (fd : FuncData) (cd : Value) : Prop where
  fx : FunX K x x st f fd cd
  mg : mg x = some (.ref f)
theorem defAt_mk {K : PySem.W.Frag} {h : Heap} {mg : Str → Option Value} {x : Str} {st : Stmt} {f : Addr} {oc dV kV doc pm cdv ct : Value} {od an : Option Addr} {osl : Array (Option Value)} (X : K.In h) (G : h.Ns mainGlobals mg)
    (a : PySem.W.nsIn K mainGlobals x = some (some (.ref f))) (l : K.lookup f = some ⟨oc, od, .func (PySem.W.fnOf x x (defArgs st) (defBody st) (defScope st) dV kV doc pm an cdv ct), osl⟩) (c : PySem.W.codeIn K cdv x = true) (kp : PySem.W.keepIn K (.ref f) = true) :
    DefAt K mg x st f (PySem.W.fnOf x x (defArgs st) (defBody st) (defScope st) dV kV doc pm an cdv ct) cdv :=
  ⟨⟨⟨oc, od, dV, kV, doc, pm, an, ct, osl, rfl, l, c⟩, kp⟩, PySem.W.mg_of X G a⟩
/-! ### list(range(..)) -/
def downD (a b : Int) : List D := (List.range (a - b).toNat).map fun i : Nat => D.int (a - i)
def dLRg (ta : DTA) : DTE := fun δ M Q => ta δ M fun ds M1 => match ds with
  | [.int a, .int b, .int c] => c = -1 ∧ (-(2 ^ 62) ≤ a ∧ a < 2 ^ 62 ∧ -(2 ^ 62) ≤ b ∧ b < 2 ^ 62 ∧ (a - b).toNat ≤ 16777216) ∧ Q (.lst (downD a b)) M1
  | _ => False
section
variable {T : List (Addr × Str)} {X : Cx} {a b c : Expr} {ta : DTA} {p q pos pos2 : Pos}
theorem q_lrg (hc : X.calm = true) (hg : Gl X "list") (hm : X.mg "list" = none) (hg2 : Gl X "range") (hm2 : X.mg "range" = none) (ha : DPA T X [a, b, c] ta)
    (hs : starEach [a, b, c] X.env = (false, eval a X.env) :: starEach [b, c] X.env := by rfl) (hpl : (backTo pos2 (starEach [b, c] X.env)).any (·.1) = false := by rfl) :
    DPE T X (.Call (.Name "list" p) [.Call (.Name "range" q) [a, b, c] [] pos2] [] pos) (dLRg ta) := by
  obtain ⟨u, a1, a2⟩ := ha.ex
  refine ⟨fun σ H Q => u σ H fun vs H1 => ∃ i j : Int, vs = [.int i, .int j, .int (-1)] ∧ (-(2 ^ 62) ≤ i ∧ i < 2 ^ 62 ∧ -(2 ^ 62) ≤ j ∧ j < 2 ^ 62 ∧ (i - j).toNat ≤ 16777216) ∧ ∀ q, H1 q = none → Q (.ref q) (upd H1 q (.lst ((List.range (i - j).toNat).map fun k : Nat => V.int (i - k)))),
    ⟨fun pins s σ H Q I h => ?_⟩, fun δ M Q σ F H R hs hh ht k => ?_⟩
  · refine Call_ (ld_blt I hg hm boot_list (PyProof.Rows.callWith_type1 (args_cons (Call_ (ld_blt I hg2 hm2 boot_range (PyProof.Rows.callWith_type1 (thn (a1.run pos2 pins s σ H _ I h) fun us s1 ⟨vs, H1, I1, r1, q1⟩ => ?_) hs hpl))) rfl) rfl rfl))
    obtain ⟨i, j, rfl, ⟨b1, b2, b3, b4, b5⟩, q⟩ := q1
    cases r1 with
    | cons r rr =>
      cases rr with
      | cons r' rr =>
        cases rr with
        | cons r'' rr =>
          cases rr
          obtain ⟨t, rfl⟩ := r
          obtain ⟨t', rfl⟩ := r'
          obtain ⟨t'', rfl⟩ := r''
          refine call_range_3 (by decide) (args_nil ?_) (.inl (PyProof.noPylong_small (by decide)))
          refine call_list_range (n := (i - j).toNat) (I1.ok.hd hc) (IsRange.new ..) (PySem.W.small_down b1 b2 b3 b4) (PySem.W.rangeSize_downNat i j) (by omega) fun h' tk acc c' hk e' hi => ?_
          have I2 : Inv X pins σ H1 { s1 with heap := s1.heap.push { cls := .type "range", data := .fields #[.int i t, .int j t', .int (-1) t''] } } := I1.kept (t' := s1.toks) fun b o e => Heap.get?_push_of_some _ e
          refine ⟨.ref _, _, I2.laid (t' := tk) hk (Nat.le_refl _) (o := .lst ((List.range (i - j).toNat).map fun k : Nat => V.int (i - k))) ⟨?_, acc.toList, c', ?_, ?_⟩, rfl, q _ (I2.hok.fresh (Nat.le_refl _))⟩
          · rw [List.length_map, List.length_range, sizeLine_eq]; exact b5
          · have el : acc.toList.length = (i - j).toNat := by rw [Array.length_toList]; exact hi.1
            have := vals_of_get acc.toList (fun k : Nat => V.int (i - k)) fun k w hw => by
              obtain ⟨t, rfl⟩ := hi.2 k w (by rw [← hw, Array.getElem?_toList])
              exact ⟨t, by rw [show i + (k : Int) * -1 = i - k by omega]⟩
            rw [el] at this
            exact this
          · rw [Array.toArray_toList]; exact e'
  · refine a2 δ M _ σ F H _ hs hh ht fun vs ds F1 M1 H1 u1 h1 i1 q1 => ?_
    split at q1
    · rename_i i j c
      obtain ⟨rfl, b, q1⟩ := q1
      obtain ⟨v, r, rfl, hv, hr⟩ := i1.uncons
      obtain ⟨v', r', rfl, hv', hr'⟩ := hr.uncons
      obtain ⟨v'', r'', rfl, hv'', hr''⟩ := hr'.uncons
      obtain rfl := hr''.nil_eq
      simp only [Is] at hv hv' hv''
      subst hv hv' hv''
      refine ⟨i, j, rfl, b, fun q hq => ?_⟩
      obtain ⟨h2, u2⟩ := h1.newF (o := .lst ((List.range (i - j).toNat).map fun k : Nat => V.int (i - k))) hq
      refine k _ (.lst (downD i j)) _ M1 _ (u1.trans u2) h2 ?_ q1
      simp only [Is]
      refine ⟨q, _, rfl, upd_same, ?_⟩
      unfold downD
      generalize upd F1 q _ = G
      generalize List.range (i - j).toNat = l
      induction l with
      | nil => exact .nil
      | cons x l ih => exact .cons (by simp only [Is]) ih
    · exact q1.elim
end
/-! ### what has changed in vain is forgotten at a def's end -/
def fgt (Q : Mp → Prop) (M : Mp) : Prop := ∃ M1 : Mp, (∀ a m, M1 a = some m → M a = some m) ∧ Q M1
abbrev endsF (R : DQ) : DEnds := { nx := fun _ M' => fgt (R .non) M', rt := fun r M' => fgt (R r) M' }
theorem okXF {T : List (Addr × Str)} {P : Program} {w : World} {K : PySem.W.Frag} {mg : Str → Option Value} {base : Heap} {x qual : Str} {st : Stmt} {f : Addr} {fd : FuncData} {cdv : Value} {N ps : List Str} {g : Bool} {k : Nat} {d : DRA} {t : DTS} (F : FunX K x qual st f fd cdv) (S : FnScope N ps (defScope st)) (len : ∀ ds M R, d ds M R → ds.length = ps.length)
    (hbody : ∀ (A : Around) (outer : List Env) (s : Shared) (H : Hp), Room k (A.deeper (envOfC qual (defScope st) s.heap.objs.size f cdv)) → (g = true → A.guards = some []) → DPSs T (cxOf CX0 P w K mg base N qual (defScope st) f cdv A outer s H E0).nox (defBody st) t)
    (sem : ∀ ds M R, d ds M R → t (endsF R) (dstart N ds) M) : FnX P w K mg base g (k + 1) f fd ps (spD T K d) := by
  have G := okX (P := P) (w := w) (mg := mg) (base := base) (d := fun ds M R => ∃ R0, d ds M R0 ∧ R = fun r M' => fgt (R0 r) M') F S (fun ds M R h => by
    obtain ⟨R0, h, _⟩ := h
    exact len ds M R0 h) hbody (fun ds M R h => by
    obtain ⟨R0, h, rfl⟩ := h
    exact sem ds M R0 h)
  refine ⟨fun vs H Q E h => ?_, fun A outer s H args us vs Q hr hq e0 hb r h => G.run A outer s H args us vs Q hr hq e0 hb r ?_⟩
  · obtain ⟨F0, M, ds, R, _, i, q, _⟩ := h
    rw [i.len]; exact len ds M R q
  · obtain ⟨F0, M, ds, R, hh, hi, q, kk⟩ := h
    refine ⟨F0, M, ds, _, hh, hi, ⟨R, q, rfl⟩, fun v r F' M' H' u h' i q' => ?_⟩
    obtain ⟨M1, hM, q'⟩ := q'
    refine kk v r F' M1 H' ⟨u.ex, fun a o ho n f m => ?_⟩ (h'.drop hM) i q'
    obtain ⟨z1, z2, z3⟩ := u.ot a o ho n f m
    refine ⟨z1, z2, ?_⟩
    cases e : M1 a with
    | none => rfl
    | some m => rw [hM a m e] at z3; cases z3
end DL

namespace DL
open PySem PySem.Spec PyProof.Rows L2
/-! ### the readings' equations, without matches -/
theorem dIfS_eq (c : DTT) (t u : DTS) (Z : DEnds) (δ : DSt) (M : Mp) : dIfS c t u Z δ M = c δ M fun b M1 => (b = true → t Z δ M1) ∧ (b = false → u Z δ M1) := by
  unfold dIfS
  congr 1; funext b M1; cases b <;> simp
theorem dAnd_eq (t u : DTT) (δ : DSt) (M : Mp) (Q) : dAnd t u δ M Q = t δ M fun c M1 => (c = true → u δ M1 Q) ∧ (c = false → Q false M1) := by
  unfold dAnd
  congr 1; funext b M1; cases b <;> simp
theorem dOr_eq (t u : DTT) (δ : DSt) (M : Mp) (Q) : dOr t u δ M Q = t δ M fun c M1 => (c = true → Q true M1) ∧ (c = false → u δ M1 Q) := by
  unfold dOr
  congr 1; funext b M1; cases b <;> simp
theorem dIf_eq (t : DTT) (ta tb : DTE) (δ : DSt) (M : Mp) (Q) : dIf t ta tb δ M Q = t δ M fun c M1 => (c = true → ta δ M1 Q) ∧ (c = false → tb δ M1 Q) := by
  unfold dIf
  congr 1; funext b M1; cases b <;> simp
theorem dWhile_eq (c : DTT) (tb : DTS) (Z : DEnds) (δ : DSt) (M : Mp) : dWhile c tb Z δ M = ∃ I : Nat → DSt → Mp → Prop, (∃ m, I m δ M) ∧ ∀ m δ M, I m δ M →
    c δ M fun b M1 => (b = true → tb { Z with nx := fun δ' M' => ∃ m', m' < m ∧ I m' δ' M', ct := fun δ' M' => ∃ m', m' < m ∧ I m' δ' M', bk := Z.nx } δ M1) ∧ (b = false → Z.nx δ M1) := by
  unfold dWhile
  congr 1; funext I; congr 1
  refine forall_congr fun m => forall_congr fun δ => forall_congr fun M => implies_congr rfl ?_
  congr 1; funext b M1; cases b <;> simp
theorem dAndV_bl (ta tb : DTE) (δ : DSt) (M : Mp) (Q) : dAndV ta tb δ M Q = ta δ M fun x M1 => ∃ b, x = .bl b ∧ (b = true → tb δ M1 Q) ∧ (b = false → Q (.bl false) M1) := by
  unfold dAndV
  congr 1; funext x M1
  cases x with
  | bl b => cases b <;> simp
  | _ => simp
theorem dOrV_bl (ta tb : DTE) (δ : DSt) (M : Mp) (Q) : dOrV ta tb δ M Q = ta δ M fun x M1 => ∃ b, x = .bl b ∧ (b = true → Q (.bl true) M1) ∧ (b = false → tb δ M1 Q) := by
  unfold dOrV
  congr 1; funext x M1
  cases x with
  | bl b => cases b <;> simp
  | _ => simp
theorem dLc_eq (wi : DTI) (g : DTG) (tt : DTT) (te : DTE) (vs : List Nat) (δ : DSt) (M : Mp) (Q) : dLc wi g tt te vs δ M Q = wi δ M fun xs M1 => xs.length ≤ 16777216 ∧ ∃ I : Nat → List D → Mp → Prop, I 0 [] M1 ∧
  (∀ i x acc M, xs[i]? = some x → I i acc M → acc.length ≤ i → g x (dwipe δ vs) M fun δ' M' => tt δ' M' fun b M3 => (b = true → te δ' M3 fun y M4 => I (i + 1) (acc ++ [y]) M4) ∧ (b = false → I (i + 1) acc M3)) ∧
  ∀ acc M, I xs.length acc M → Q (.lst acc) M := by
  unfold dLc
  congr 1; funext xs M1; congr 1; congr 1; funext I; congr 1; congr 1
  refine forall_congr fun i => forall_congr fun x => forall_congr fun acc => forall_congr fun M => implies_congr rfl (implies_congr rfl (implies_congr rfl ?_))
  congr 1; funext δ' M'; congr 1; funext b M3; cases b <;> simp
theorem eName_eq (i : Nat) (d : D) (δ : DSt) (M : Mp) (Q) : eName i d δ M Q = Q (δ.set i (some d)) M := rfl
theorem ex_lst {ys : List D} {P : List D → Prop} : (∃ xs, some (MO.lst ys) = some (MO.lst xs) ∧ P xs) = P ys := by
  apply propext; constructor
  · rintro ⟨xs, e, h⟩; cases e; exact h
  · intro h; exact ⟨_, rfl, h⟩
theorem ex_some {α : Type} {x : α} {P : α → Prop} : (∃ v, some x = some v ∧ P v) = P x := by
  apply propext; constructor
  · rintro ⟨v, e, h⟩; cases e; exact h
  · intro h; exact ⟨_, rfl, h⟩
theorem ex_lst2 {ys : List D} {P : List D → Nat → Prop} : (∃ xs j, some (MO.lst ys) = some (MO.lst xs) ∧ P xs j) = ∃ j, P ys j := by
  apply propext; constructor
  · rintro ⟨xs, j, e, h⟩; cases e; exact ⟨j, h⟩
  · rintro ⟨j, h⟩; exact ⟨_, _, rfl, h⟩
theorem at3_0 {a b c : D} : atI [a, b, c] 0 = some a := rfl
theorem at3_1 {a b c : D} : atI [a, b, c] 1 = some b := rfl
theorem at3_2 {a b c : D} : atI [a, b, c] 2 = some c := rfl
theorem at2_0 {a b : D} : atI [a, b] 0 = some a := rfl
theorem at2_1 {a b : D} : atI [a, b] 1 = some b := rfl
theorem at4_0 {a b c d : D} : atI [a, b, c, d] 0 = some a := rfl
theorem at4_1 {a b c d : D} : atI [a, b, c, d] 1 = some b := rfl
theorem at4_2 {a b c d : D} : atI [a, b, c, d] 2 = some c := rfl
theorem at4_3 {a b c d : D} : atI [a, b, c, d] 3 = some d := rfl
theorem ix3_0 : ixN 3 0 = some 0 := rfl
theorem ix3_1 : ixN 3 1 = some 1 := rfl
theorem ix3_2 : ixN 3 2 = some 2 := rfl
theorem mup_pq {M : Mp} {p q : Addr} {o o' u : MO} (h : p ≠ q) : mup (mup (mup M p o) q o') p u = mup (mup M p u) q o' := by
  funext b
  unfold mup
  by_cases h1 : b = p
  · subst h1; rw [if_pos rfl, if_neg h, if_pos rfl]
  · rw [if_neg h1]
    by_cases h2 : b = q
    · rw [if_pos h2, if_pos h2]
    · rw [if_neg h2, if_neg h2, if_neg h1, if_neg h1]
def asI : List D → Option Int
  | [.int i] => some i
  | [.bl b] => some (if b then 1 else 0)
  | _ => none
theorem kInt_eq (ds : List D) (M : Mp) (Q : DQ) : kInt ds M Q = ∃ i, asI ds = some i ∧ Q (.int i) M := by
  unfold kInt asI
  apply propext
  split <;> simp
theorem asI_int {i : Int} : asI [.int i] = some i := rfl
theorem asI_bl {b : Bool} : asI [.bl b] = some (if b then 1 else 0) := rfl
end DL

namespace KT
open PySem PySem.Spec PyProof.Rows L2 DL

/-! ### what the package's defs compute -/
abbrev dI (ns : List Int) : D := .lst (ns.map D.int)
/-- heights so far -/
def htsF (h : Int) : List Int → List Int
  | [] => []
  | x :: r => (h + x) :: htsF (h + x) r
abbrev hts (ns : List Int) : List Int := htsF 0 ns
def fbel : List Int → Option Nat
  | [] => none
  | x :: r => if x < 0 then some 0 else (fbel r).map (· + 1)
/-- an even hill -/
structure Hill (ns : List Int) : Prop where
  len : ns.length ≤ 300
  pm : ∀ x ∈ ns, x = 1 ∨ x = -1
  up : ∀ h ∈ hts ns, 0 ≤ h
  sum : ns.sum = 0
/-- the heights at which the steps 1 begin -/
def bgsF (h : Int) : List Int → List Int
  | [] => []
  | x :: r => if x = 1 then h :: bgsF (h + x) r else bgsF (h + x) r
abbrev bgs (ns : List Int) : List Int := bgsF 0 ns
def prsL : List Int → Int
  | [] => 0
  | a :: r => ((r.filter (prB a)).length : Nat) + prsL r
/-- steps other than 1 ahead of each 1 -/
def ahdF (d : Int) : List Int → List Int
  | [] => []
  | x :: r => if x = 1 then d :: ahdF d r else ahdF (d + 1) r
abbrev ahd (ns : List Int) : List Int := ahdF 0 ns
def bncF (A : List Int) : Nat → Int → List Int
  | 0, _ => []
  | f + 1, now => if 0 < now then let n := A.getD (now - 1).toNat 0; n :: bncF A f n else []
def bnc (ns : List Int) : List Int := bncF (ahd ns) 400 ((ahd ns).length : Nat)
def lvs (ns : List Int) : D → List Int
  | .int m => (hts ns).map (· % m)
  | _ => hts ns
def okMod : D → Prop
  | .int m => 1 ≤ m
  | .non => True
  | _ => False
/-- the order in which the steps are taken -/
structure Plc (ns : List Int) (dm : D) (ps : List Nat) : Prop where
  perm : ps.Perm (List.range ns.length)
  ord : ps.Pairwise (keyLt (lvs ns dm))
def swp (ns : List Int) (ps : List Nat) : List Int := ps.map fun j => ns.getD j 0

def rNew (R : DQ) (M : Mp) (ns : List Int) : Prop := ∀ p, M p = none → R (.ref p) (mup M p (.lst (ns.map D.int)))
def sp_is_whole : DRA := fun ds M R => ∃ i, ds = [.int i] ∧ R (.bl true) M
def sp_check_from : DRA := fun ds M R => ∃ i j, ds = [.int i, .int j] ∧ j ≤ i ∧ R .non M
def sp_check_steps : DRA := fun ds M R => ∃ ns, ds = [dI ns] ∧ ns.length ≤ 300 ∧ R .non M
def sp_heights_in : DRA := fun ds M R => ∃ ns, ds = [dI ns] ∧ ns.length ≤ 1000 ∧ rNew R M (hts ns)
def sp_first_below : DRA := fun ds M R => ∃ ns, ds = [dI ns] ∧ ns.length ≤ 1000 ∧ R (match fbel (hts ns) with | none => .non | some i => .int (i : Nat)) M
def sp_check_modulus : DRA := fun ds M R => ∃ d, ds = [d] ∧ okMod d ∧ R .non M
def sp_places_in : DRA := fun ds M R => ∃ ns dm, ds = [dI ns, dm] ∧ okMod dm ∧ ns.length ≤ 1000 ∧ ∀ ps, Plc ns dm ps → rNew R M (ps.map fun j : Nat => (j : Int))
def sp_swept_in : DRA := fun ds M R => ∃ ns dm, ds = [dI ns, dm] ∧ okMod dm ∧ ns.length ≤ 1000 ∧ ∀ ps, Plc ns dm ps → rNew R M (swp ns ps)
def sp_swept : DRA := fun ds M R => ∃ ns dm, ds = [dI ns, dm] ∧ okMod dm ∧ ns.length ≤ 300 ∧ ∀ ps, Plc ns dm ps → rNew R M (swp ns ps)
def sp_check_hill : DRA := fun ds M R => ∃ ns, ds = [dI ns] ∧ Hill ns ∧ R .non M
def sp_begins_in : DRA := fun ds M R => ∃ ns, ds = [dI ns] ∧ ns.length ≤ 1000 ∧ rNew R M (bgs ns)
def sp_pairs_in : DRA := fun ds M R => ∃ ns, ds = [dI ns] ∧ ns.length ≤ 1000 ∧ R (.int (prsL (bgs ns))) M
def sp_turns_in : DRA := fun ds M R => ∃ ns, ds = [dI ns] ∧ ns.length ≤ 1000 ∧ R (.int (trnD ns)) M
def sp_under : DRA := fun ds M R => ∃ ns, ds = [dI ns] ∧ Hill ns ∧ R (.int (bgs ns).sum) M
def sp_count_pairs : DRA := fun ds M R => ∃ ns, ds = [dI ns] ∧ Hill ns ∧ R (.int (prsL (bgs ns))) M
def sp_bounces : DRA := fun ds M R => ∃ ns, ds = [dI ns] ∧ Hill ns ∧ rNew R M (bnc ns)
def sp_turn_sum : DRA := fun ds M R => ∃ ns, ds = [dI ns] ∧ Hill ns ∧ R (.int (trnD ns)) M

/-! ### what the law's defs compute -/
def drw (a k : Int) (b : Bool) : MO := .lst [.int a, .int k, .bl b]
def sp__law_draws : DRA := fun ds M R => ∃ c, ds = [.int c] ∧ ∀ p a b, M p = none → R (.ref p) (mup M p (drw a 0 b))
def sp__law_next : DRA := fun ds M R => ∃ p a k b, ds = [.ref p] ∧ M p = some (drw a k b) ∧ 0 ≤ k ∧ k ≤ 1000000 ∧ ∀ n a', 0 ≤ n → R (.int n) (mup M p (drw a' (k + 1) b))
def sp__law_drawn : DRA := fun ds M R => ∃ p a k b most, ds = [.ref p, .int most] ∧ M p = some (drw a k b) ∧ 0 ≤ k ∧ k ≤ 500000 ∧ 0 ≤ most ∧ most ≤ 150 ∧
  ∀ q a' k' ns, M q = none → 0 ≤ k' → k' ≤ k + 302 → Hill ns → R (.ref q) (mup (mup M p (drw a' k' b)) q (.lst (ns.map D.int)))
def sp__law_all : DRA := fun ds M R => ∃ ups, ds = [.int ups] ∧ 0 ≤ ups ∧ ups ≤ 5 ∧ ∀ rows : List (List Int), (∀ r ∈ rows, Hill r) → ∀ q, M q = none → R (.ref q) (mup M q (.lst (rows.map dI)))
def sp__law_begins : DRA := fun ds M R => ∃ ns, ds = [dI ns] ∧ ns.length ≤ 1000 ∧ rNew R M (bgs ns)
def sp__law_under : DRA := fun ds M R => ∃ ns, ds = [dI ns] ∧ Hill ns ∧ R (.int (bgs ns).sum) M
def sp__law_pairs : DRA := fun ds M R => ∃ ns, ds = [dI ns] ∧ Hill ns ∧ R (.int (prsL (bgs ns))) M
def sp__law_bounces : DRA := fun ds M R => ∃ ns, ds = [dI ns] ∧ Hill ns ∧ rNew R M (bnc ns)
def sp__law_turns : DRA := fun ds M R => ∃ ns, ds = [dI ns] ∧ Hill ns ∧ R (.int (trnD ns)) M
def sp__law_right : DRA := fun ds M R => ∃ ns, ds = [dI ns] ∧ Hill ns ∧ R (.bl true) M
def sp_law : DRA := fun ds M R => ∃ ns : List Int, ds = [.lk (ns.map D.int)] ∧ ns.length ≤ 63 ∧ ∀ M', R (.bl true) M'

def t_is_whole : DTS := (dRet (dAndV (dCB kIsi (dCons (dVar 0) (dCons (dC (.ty "int")) dNil))) (dNotV (dCB kIsi (dCons (dVar 0) (dCons (dC (.ty "bool")) dNil))))))

abbrev N_is_whole : List Str := ["thing"]
def t_check_from : DTS := (dIfS (dOr (dNot (dTest (dCallX 1 0 [.p 0] sp_is_whole (dCons (dVar 0) dNil) dNil))) (dTest (dOp kLt (dVar 0) (dVar 1)))) dNever dNext)

abbrev N_check_from : List Str := ["number", "least"]
def t_check_steps : DTS := (dSeq (dIfS (dOr (dNot (dTest (dCB kIsi (dCons (dVar 0) (dCons (dC (.ty "list")) dNil))))) (dTest (dOp kGt (dCB kLen (dCons (dVar 0) dNil)) (dC (.int 300))))) dNever dNext) (dFor (iEnm (dCons (dVar 0) dNil)) (eTup 2 (eCons (eName 1) (eCons (eName 2) eNil))) (dIfS (dNot (dTest (dCallX 1 0 [.p 0] sp_is_whole (dCons (dVar 2) dNil) dNil))) dNever dNext)))

abbrev N_check_steps : List Str := ["steps", "index", "step"]
def t_heights_in : DTS := (dSeq (dAsg (dNew dNil) (eName 1)) (dSeq (dAsg (dC (.int 0)) (eName 2)) (dSeq (dFor (iLst (dVar 0)) (eName 3) (dSeq (aAdd 2 (dVar 3)) (dDrop (dBM kAppend (dVar 1) (dCons (dVar 2) dNil))))) (dRet (dVar 1)))))

abbrev N_heights_in : List Str := ["steps", "told", "height", "step"]
def t_first_below : DTS := (dSeq (dFor (iEnm (dCons (dFz (dCallX 1 0 [.p 0] sp_heights_in (dCons (dVar 0) dNil) dNil)) dNil)) (eTup 2 (eCons (eName 1) (eCons (eName 2) eNil))) (dIfS (dTest (dOp kLt (dVar 2) (dC (.int 0)))) (dRet (dVar 1)) dNext)) (dRet (dC .non)))

abbrev N_first_below : List Str := ["steps", "place", "height"]
def t_check_modulus : DTS := (dIfS (dTest (dOp kNotN (dVar 0) (dC .non))) (dDrop (dCallX 2 0 [.p 0, .p 1] sp_check_from (dCons (dVar 0) (dCons (dC (.int 1)) dNil)) dNil)) dNext)

abbrev N_check_modulus : List Str := ["modulus"]
def t_places_in : DTS := (dSeq (dAsg (dCallX 1 0 [.p 0] sp_heights_in (dCons (dVar 0) dNil) dNil) (eName 2)) (dFzS 2 (dSeq (dIfS (dTest (dOp kNotN (dVar 1) (dC .non))) (dAsg (dLc (iLst (dVar 2)) (eName 3) dYes (dOp kMod (dVar 3) (dVar 1)) [3]) (eName 2)) dNext) (dRet (dSrt 2 (dCB kLen (dCons (dVar 0) dNil)))))))

abbrev N_places_in : List Str := ["steps", "modulus", "levels", "level"]
def t_swept_in : DTS := (dRet (dLcN (iLst (dFz (dCallX 2 0 [.p 0, .p 1] sp_places_in (dCons (dVar 0) (dCons (dVar 1) dNil)) dNil))) (eName 2) dYes (dOp kIx (dVar 0) (dVar 2)) [2]))

abbrev N_swept_in : List Str := ["steps", "modulus", "place"]
def t_swept : DTS := (dSeq (dDrop (dCallX 1 0 [.p 0] sp_check_steps (dCons (dVar 0) dNil) dNil)) (dSeq (dDrop (dCallX 1 0 [.p 0] sp_check_modulus (dCons (dVar 1) dNil) dNil)) (dRet (dCallX 2 0 [.p 0, .p 1] sp_swept_in (dCons (dVar 0) (dCons (dVar 1) dNil)) dNil))))

abbrev N_swept : List Str := ["steps", "modulus"]
def t_check_hill : DTS := (dSeq (dIfS (dOr (dNot (dTest (dCB kIsi (dCons (dVar 0) (dCons (dC (.ty "list")) dNil))))) (dTest (dOp kGt (dCB kLen (dCons (dVar 0) dNil)) (dC (.int 300))))) dNever dNext) (dSeq (dFor (iEnm (dCons (dVar 0) dNil)) (eTup 2 (eCons (eName 1) (eCons (eName 2) eNil))) (dIfS (dOr (dNot (dTest (dCallX 1 0 [.p 0] sp_is_whole (dCons (dVar 2) dNil) dNil))) (dTest (dOp (kInI true) (dVar 2) (dTup (dCons (dC (.int 1)) (dCons (dUn kNeg (dC (.int 1))) dNil)))))) dNever dNext)) (dSeq (dAsg (dCallX 1 0 [.p 0] sp_first_below (dCons (dVar 0) dNil) dNil) (eName 3)) (dSeq (dIfS (dTest (dOp kNotN (dVar 3) (dC .non))) dNever dNext) (dIfS (dTest (dOp kNe (dCB kSum (dCons (dVar 0) dNil)) (dC (.int 0)))) dNever dNext)))))

abbrev N_check_hill : List Str := ["hill", "index", "step", "below"]
def t_begins_in : DTS := (dRet (dLcN (iZp (dCons (dFz (dCallX 1 0 [.p 0] sp_heights_in (dCons (dVar 0) dNil) dNil)) (dCons (dVar 0) dNil))) (eTup 2 (eCons (eName 1) (eCons (eName 2) eNil))) (dTest (dOp kEq (dVar 2) (dC (.int 1)))) (dOp kSub (dVar 1) (dC (.int 1))) [1, 2]))

abbrev N_begins_in : List Str := ["hill", "height", "step"]
def t_pairs_in : DTS := (dSeq (dAsg (dCallX 1 0 [.p 0] sp_begins_in (dCons (dVar 0) dNil) dNil) (eName 1)) (dFzS 1 (dSeq (dAsg (dC (.int 0)) (eName 2)) (dSeq (dFor (iEnm (dCons (dVar 1) dNil)) (eTup 2 (eCons (eName 3) (eCons (eName 4) eNil))) (aAdd 2 (dPrs 4 (dSl (dVar 1) (dPart (dOp kAdd (dVar 3) (dC (.int 1)))) dNoPart)))) (dRet (dVar 2))))))

abbrev N_pairs_in : List Str := ["hill", "begins", "told", "place", "one"]
def t_turns_in : DTS := (dRet (dTrn 0 (dCB kLen (dCons (dVar 0) dNil))))

abbrev N_turns_in : List Str := ["hill"]
def t_under : DTS := (dSeq (dDrop (dCallX 1 0 [.p 0] sp_check_hill (dCons (dVar 0) dNil) dNil)) (dRet (dCB kSum (dCons (dFz (dCallX 1 0 [.p 0] sp_begins_in (dCons (dVar 0) dNil) dNil)) dNil))))

abbrev N_under : List Str := ["hill"]
def t_count_pairs : DTS := (dSeq (dDrop (dCallX 1 0 [.p 0] sp_check_hill (dCons (dVar 0) dNil) dNil)) (dRet (dCallX 1 0 [.p 0] sp_pairs_in (dCons (dVar 0) dNil) dNil)))

abbrev N_count_pairs : List Str := ["hill"]
def t_bounces : DTS := (dSeq (dDrop (dCallX 1 0 [.p 0] sp_check_hill (dCons (dVar 0) dNil) dNil)) (dSeq (dAsg (dNew dNil) (eName 1)) (dSeq (dFor (iEnm (dCons (dVar 0) dNil)) (eTup 2 (eCons (eName 2) (eCons (eName 3) eNil))) (dIfS (dTest (dOp kEq (dVar 3) (dC (.int 1)))) (dDrop (dBM kAppend (dVar 1) (dCons (dOp kSub (dVar 2) (dCB kLen (dCons (dVar 1) dNil))) dNil))) dNext)) (dFzS 1 (dSeq (dAsg (dNew dNil) (eName 4)) (dSeq (dAsg (dCB kLen (dCons (dVar 1) dNil)) (eName 5)) (dSeq (dWhile (dTest (dOp kGt (dVar 5) (dC (.int 0)))) (dSeq (dAsg (dOp kIx (dVar 1) (dOp kSub (dVar 5) (dC (.int 1)))) (eName 5)) (dDrop (dBM kAppend (dVar 4) (dCons (dVar 5) dNil))))) (dRet (dVar 4)))))))))

abbrev N_bounces : List Str := ["hill", "ahead", "place", "step", "told", "now"]
def t_turn_sum : DTS := (dSeq (dDrop (dCallX 1 0 [.p 0] sp_check_hill (dCons (dVar 0) dNil) dNil)) (dRet (dCallX 1 0 [.p 0] sp_turns_in (dCons (dVar 0) dNil) dNil)))

abbrev N_turn_sum : List Str := ["hill"]
def t__law_draws : DTS := (dRet (dNew (dCons (dOp kMod (dCB kInt (dCons (dVar 0) dNil)) (dOp kPow (dOp kPow (dOp kPow (dC (.int 10)) (dC (.int 60))) (dC (.int 60))) (dC (.int 4)))) (dCons (dC (.int 0)) (dCons (dOp kGe (dVar 0) (dOp kPow (dC (.int 10)) (dC (.int 18)))) dNil)))))

abbrev N__law_draws : List Str := ["_law_cell"]
def t__law_next : DTS := (dSeq (dAsg (dOp kAdd (dOp kIx (dVar 0) (dC (.int 1))) (dC (.int 1))) (eSub (dVar 0) (dC (.int 1)))) (dSeq (dAsg (dOp kIx (dVar 0) (dC (.int 1))) (eName 1)) (dSeq (dIfS (dTest (dOp kIx (dVar 0) (dC (.int 2)))) (dSeq (dAsg (dOp kMod (dCB kInt (dCons (dOp kIx (dVar 0) (dC (.int 0))) dNil)) (dOp kPow (dC (.int 10)) (dC (.int 6)))) (eName 2)) (dSeq (dAsg (dOp kDiv (dOp kIx (dVar 0) (dC (.int 0))) (dOp kPow (dC (.int 10)) (dC (.int 6)))) (eSub (dVar 0) (dC (.int 0)))) (dRet (dVar 2)))) dNext) (dSeq (dAsg (dOp kMod (dCB kInt (dCons (dOp kMul (dOp kAdd (dOp kAdd (dOp kMod (dCB kInt (dCons (dOp kIx (dVar 0) (dC (.int 0))) dNil)) (dC (.int 1000003))) (dOp kMul (dOp kMul (dVar 1) (dVar 1)) (dC (.int 7919)))) (dVar 1)) (dC (.int 48271))) dNil)) (dC (.int 2147483629))) (eName 2)) (dSeq (dAsg (dOp kMod (dCB kInt (dCons (dOp kMul (dVar 2) (dVar 2)) dNil)) (dC (.int 2147483587))) (eName 2)) (dRet (dOp kDiv (dOp kMod (dCB kInt (dCons (dOp kMul (dVar 2) (dOp kAdd (dVar 2) (dC (.int 2)))) dNil)) (dC (.int 2147483579))) (dC (.int 7)))))))))

abbrev N__law_next : List Str := ["_law_draws_here", "_law_k", "_law_drawn_here"]
def t__law_drawn : DTS := (dSeq (dAsg (dOp kMod (dCB kInt (dCons (dCallX 1 0 [.p 0] sp__law_next (dCons (dVar 0) dNil) dNil) dNil)) (dOp kAdd (dVar 1) (dC (.int 1)))) (eName 2)) (dSeq (dAsg (dOp kMod (dCB kInt (dCons (dCallX 1 0 [.p 0] sp__law_next (dCons (dVar 0) dNil) dNil) dNil)) (dC (.int 4))) (eName 3)) (dSeq (dAsg (dNew dNil) (eName 4)) (dSeq (dAsg (dC (.int 0)) (eName 5)) (dSeq (dFor (iRg1 (dCons (dOp kMul (dC (.int 2)) (dVar 2)) dNil)) (eName 6) (dSeq (dAsg (dOp kMod (dCB kInt (dCons (dCallX 1 0 [.p 0] sp__law_next (dCons (dVar 0) dNil) dNil) dNil)) (dOp kIx (dLst (dCons (dC (.int 2)) (dCons (dC (.int 3)) (dCons (dC (.int 5)) (dCons (dC (.int 2)) dNil))))) (dVar 3))) (eName 7)) (dSeq (dAsg (dIf (dTest (dOp kLt (dVar 3) (dC (.int 3)))) (dOp kGt (dVar 7) (dC (.int 0))) (dOp kEq (dOp kMod (dOp kAdd (dOp kDiv (dVar 6) (dC (.int 7))) (dVar 7)) (dC (.int 2))) (dC (.int 0)))) (eName 8)) (dIfS (dOr (dTest (dOp kEq (dVar 5) (dC (.int 0)))) (dAnd (dTest (dOp kLt (dBM kCountI (dVar 4) (dCons (dC (.int 1)) dNil)) (dVar 2))) (dTest (dVar 8)))) (dSeq (dDrop (dBM kAppend (dVar 4) (dCons (dC (.int 1)) dNil))) (dAsg (dOp kAdd (dVar 5) (dC (.int 1))) (eName 5))) (dSeq (dDrop (dBM kAppend (dVar 4) (dCons (dUn kNeg (dC (.int 1))) dNil))) (dAsg (dOp kSub (dVar 5) (dC (.int 1))) (eName 5))))))) (dRet (dVar 4)))))))

abbrev N__law_drawn : List Str := ["_law_draws_here", "_law_most", "_law_ups", "_law_kind", "_law_row", "_law_high", "_law_turn", "_law_pick", "_law_up"]
def t__law_all : DTS := (dSeq (dAsg (dLst (dCons (dTup (dCons (dLst dNil) (dCons (dC (.int 0)) dNil))) dNil)) (eName 1)) (dSeq (dFor (iRg1 (dCons (dOp kMul (dC (.int 2)) (dVar 0)) dNil)) (eName 2) (dSeq (dAsg (dNew dNil) (eName 3)) (dSeq (dFor (iLst (dVar 1)) (eTup 2 (eCons (eName 4) (eCons (eName 5) eNil))) (dSeq (dIfS (dTest (dOp kLt (dBM kCountI (dVar 4) (dCons (dC (.int 1)) dNil)) (dVar 0))) (dDrop (dBM kAppend (dVar 3) (dCons (dTup (dCons (dOp kCat (dVar 4) (dLst (dCons (dC (.int 1)) dNil))) (dCons (dOp kAdd (dVar 5) (dC (.int 1))) dNil))) dNil))) dNext) (dIfS (dTest (dOp kGt (dVar 5) (dC (.int 0)))) (dDrop (dBM kAppend (dVar 3) (dCons (dTup (dCons (dOp kCat (dVar 4) (dLst (dCons (dUn kNeg (dC (.int 1))) dNil))) (dCons (dOp kSub (dVar 5) (dC (.int 1))) dNil))) dNil))) dNext))) (dFzS 3 (dAsg (dVar 3) (eName 1)))))) (dRet (dLcN (iLst (dVar 1)) (eTup 2 (eCons (eName 4) (eCons (eName 5) eNil))) dYes (dVar 4) [4, 5]))))

abbrev N__law_all : List Str := ["_law_ups", "_law_told", "_law_turn", "_law_wider", "_law_row", "_law_high"]
def t__law_begins : DTS := (dSeq (dAsg (dNew dNil) (eName 1)) (dSeq (dAsg (dC (.int 0)) (eName 2)) (dSeq (dFor (iLst (dVar 0)) (eName 3) (dSeq (dIfS (dTest (dOp kEq (dVar 3) (dC (.int 1)))) (dDrop (dBM kAppend (dVar 1) (dCons (dVar 2) dNil))) dNext) (dAsg (dOp kAdd (dVar 2) (dVar 3)) (eName 2)))) (dRet (dVar 1)))))

abbrev N__law_begins : List Str := ["_law_row", "_law_told", "_law_high", "_law_one"]
def t__law_under : DTS := (dSeq (dAsg (dC (.int 0)) (eName 1)) (dSeq (dAsg (dC (.int 0)) (eName 2)) (dSeq (dFor (iLst (dVar 0)) (eName 3) (dSeq (dAsg (dOp kAdd (dVar 1) (dVar 3)) (eName 1)) (dAsg (dOp kAdd (dVar 2) (dVar 1)) (eName 2)))) (dRet (dOp kDiv (dOp kSub (dVar 2) (dBM kCountI (dVar 0) (dCons (dC (.int 1)) dNil))) (dC (.int 2)))))))

abbrev N__law_under : List Str := ["_law_row", "_law_high", "_law_total", "_law_one"]
def t__law_pairs : DTS := (dSeq (dAsg (dOp kRepN (dLst (dCons (dC (.int 0)) dNil)) (dC (.int 152))) (eName 1)) (dSeq (dAsg (dC (.int 0)) (eName 2)) (dSeq (dFor (iLst (dFz (dCallX 1 0 [.p 0] sp__law_begins (dCons (dVar 0) dNil) dNil))) (eName 3) (dSeq (dAsg (dOp kAdd (dOp kAdd (dVar 2) (dOp kIx (dVar 1) (dVar 3))) (dOp kIx (dVar 1) (dOp kAdd (dVar 3) (dC (.int 1))))) (eName 2)) (dAsg (dOp kAdd (dOp kIx (dVar 1) (dVar 3)) (dC (.int 1))) (eSub (dVar 1) (dVar 3))))) (dFzS 1 (dRet (dVar 2))))))

abbrev N__law_pairs : List Str := ["_law_row", "_law_seen", "_law_told", "_law_high"]
def t__law_bounces : DTS := (dSeq (dAsg (dNew dNil) (eName 1)) (dSeq (dAsg (dC (.int 0)) (eName 2)) (dSeq (dFor (iLst (dVar 0)) (eName 3) (dIfS (dTest (dOp kEq (dVar 3) (dC (.int 1)))) (dDrop (dBM kAppend (dVar 1) (dCons (dVar 2) dNil))) (dAsg (dOp kAdd (dVar 2) (dC (.int 1))) (eName 2)))) (dFzS 1 (dSeq (dAsg (dNew dNil) (eName 4)) (dSeq (dAsg (dCB kLen (dCons (dVar 1) dNil)) (eName 5)) (dSeq (dWhile (dTest (dOp kGt (dVar 5) (dC (.int 0)))) (dSeq (dAsg (dOp kIx (dVar 1) (dOp kSub (dVar 5) (dC (.int 1)))) (eName 5)) (dDrop (dBM kAppend (dVar 4) (dCons (dVar 5) dNil))))) (dRet (dVar 4)))))))))

abbrev N__law_bounces : List Str := ["_law_row", "_law_ends", "_law_downs", "_law_one", "_law_told", "_law_spot"]
def t__law_turns : DTS := (dRet (dCB kSum (dCons (dLc (iEzp (dCons (dVar 0) (dCons (dSl (dVar 0) (dPart (dC (.int 1))) dNoPart) dNil))) (eTup 2 (eCons (eName 1) (eCons (eName 2) eNil))) (dTest (dOp kEqP (dVar 2) (dTup (dCons (dUn kNeg (dC (.int 1))) (dCons (dC (.int 1)) dNil))))) (dOp kAdd (dVar 1) (dC (.int 1))) [1, 2]) dNil)))

abbrev N__law_turns : List Str := ["_law_row", "_law_at", "_law_pair"]
def t__law_right : DTS := (dSeq (dAsg (dCB kRepr (dCons (dVar 0) dNil)) (eName 1)) (dSeq (dAsg (dLst (dCons (dCallX 1 0 [.p 0] sp__law_under (dCons (dVar 0) dNil) dNil) (dCons (dCallX 1 0 [.p 0] sp__law_pairs (dCons (dVar 0) dNil) dNil) (dCons (dCallX 1 0 [.p 0] sp__law_bounces (dCons (dVar 0) dNil) dNil) (dCons (dCallX 1 0 [.p 0] sp__law_turns (dCons (dVar 0) dNil) dNil) dNil))))) (eName 2)) (dSeq (dAsg (dLst (dCons (dCallX 1 0 [.p 0] sp_under (dCons (dVar 0) dNil) dNil) (dCons (dCallX 1 0 [.p 0] sp_count_pairs (dCons (dVar 0) dNil) dNil) (dCons (dCallX 1 0 [.p 0] sp_bounces (dCons (dVar 0) dNil) dNil) (dCons (dCallX 1 0 [.p 0] sp_turn_sum (dCons (dVar 0) dNil) dNil) dNil))))) (eName 3)) (dSeq (dAsg (dLst (dCons (dCallX 0 1 [.k 0] sp_under dNil (dCons (dVar 0) dNil)) (dCons (dCallX 0 1 [.k 0] sp_count_pairs dNil (dCons (dVar 0) dNil)) (dCons (dCallX 0 1 [.k 0] sp_bounces dNil (dCons (dVar 0) dNil)) (dCons (dCallX 0 1 [.k 0] sp_turn_sum dNil (dCons (dVar 0) dNil)) dNil))))) (eName 4)) (dSeq (dIfS (dOr (dTest (dOp kNe (dCB kRepr (dCons (dLst (dCons (dVar 3) (dCons (dVar 4) dNil))) dNil)) (dCB kRepr (dCons (dLst (dCons (dVar 2) (dCons (dVar 2) dNil))) dNil)))) (dTest (dOp kNe (dCB kRepr (dCons (dVar 0) dNil)) (dVar 1)))) (dRet (dC (.bl false))) dNext) (dSeq (dAsg (dCallX 1 0 [.p 0, .n] sp_swept (dCons (dVar 0) dNil) dNil) (eName 5)) (dFzS 5 (dSeq (dIfS (dTest (dOp kNe (dCB kRepr (dCons (dLst (dCons (dCallX 1 0 [.p 0] sp_under (dCons (dVar 5) dNil) dNil) (dCons (dCB kSum (dCons (dFz (dCallX 1 0 [.p 0] sp_bounces (dCons (dVar 5) dNil) dNil)) dNil)) dNil))) dNil)) (dCB kRepr (dCons (dLst (dCons (dOp kIx (dVar 2) (dC (.int 1))) (dCons (dOp kIx (dVar 2) (dC (.int 0))) dNil))) dNil)))) (dRet (dC (.bl false))) dNext) (dSeq (dIfS (dTest (dOp kNeP (dLst (dCons (dCallX 1 0 [.p 0] sp__law_under (dCons (dVar 5) dNil) dNil) (dCons (dCB kSum (dCons (dFz (dCallX 1 0 [.p 0] sp__law_bounces (dCons (dVar 5) dNil) dNil)) dNil)) dNil))) (dLst (dCons (dOp kIx (dVar 2) (dC (.int 1))) (dCons (dOp kIx (dVar 2) (dC (.int 0))) dNil))))) (dRet (dC (.bl false))) dNext) (dSeq (dDrop (dBM kAppend (dOp kIx (dVar 3) (dC (.int 2))) (dCons (dC .non) dNil))) (dRet (dAndV (dOp kEq (dCB kRepr (dCons (dFz (dCallX 1 0 [.p 0] sp_bounces (dCons (dVar 0) dNil) dNil)) dNil)) (dCB kRepr (dCons (dOp kIx (dVar 2) (dC (.int 2))) dNil))) (dOp kEq (dCB kRepr (dCons (dVar 0) dNil)) (dVar 1))))))))))))))

abbrev N__law_right : List Str := ["_law_row", "_law_kept", "_law_due", "_law_told", "_law_named", "_law_now"]
def t_law : DTS := (dSeq (dFor (iLst (dLc (iLst (dOp kCat (dSl (dVar 0) dNoPart (dPart (dC (.int 5)))) (dLst (dCons (dC (.int 0)) dNil)))) (eName 5) dYes (dCallX 1 0 [.p 0] sp__law_draws (dCons (dVar 5) dNil) dNil) [5])) (eName 1) (dFor (iLst (dLst (dCons (dC (.int 6)) (dCons (dC (.int 30)) (dCons (dC (.int 150)) dNil))))) (eName 4) (dIfS (dNot (dTest (dCallX 1 0 [.p 0] sp__law_right (dCons (dFz (dCallX 2 0 [.p 0, .p 1] sp__law_drawn (dCons (dVar 1) (dCons (dVar 4) dNil)) dNil)) dNil) dNil))) (dRet (dC (.bl false))) dNext))) (dSeq (dFor (iRg1 (dCons (dC (.int 6)) dNil)) (eName 2) (dFor (iLst (dFz (dCallX 1 0 [.p 0] sp__law_all (dCons (dVar 2) dNil) dNil))) (eName 3) (dIfS (dNot (dTest (dCallX 1 0 [.p 0] sp__law_right (dCons (dVar 3) dNil) dNil))) (dRet (dC (.bl false))) dNext))) (dSeq (dFor (iLst (dLst (dCons (dOp kRep (dLst (dCons (dC (.int 1)) (dCons (dUn kNeg (dC (.int 1))) dNil))) (dC (.int 150))) (dCons (dOp kCat (dOp kRep (dLst (dCons (dC (.int 1)) dNil)) (dC (.int 150))) (dOp kRep (dLst (dCons (dUn kNeg (dC (.int 1))) dNil)) (dC (.int 150)))) (dCons (dOp kRep (dLst (dCons (dC (.int 1)) (dCons (dC (.int 1)) (dCons (dUn kNeg (dC (.int 1))) (dCons (dUn kNeg (dC (.int 1))) dNil))))) (dC (.int 75))) (dCons (dOp kCat (dOp kCat (dOp kRep (dLst (dCons (dC (.int 1)) dNil)) (dC (.int 75))) (dOp kRep (dLst (dCons (dC (.int 1)) (dCons (dUn kNeg (dC (.int 1))) dNil))) (dC (.int 75)))) (dOp kRep (dLst (dCons (dUn kNeg (dC (.int 1))) dNil)) (dC (.int 75)))) dNil)))))) (eName 3) (dIfS (dNot (dTest (dCallX 1 0 [.p 0] sp__law_right (dCons (dVar 3) dNil) dNil))) (dRet (dC (.bl false))) dNext)) (dSeq (dIfS (dTest (dOp kNeP (dLst (dCons (dCallX 1 0 [.p 0] sp_under (dCons (dOp kCat (dOp kRep (dLst (dCons (dC (.int 1)) dNil)) (dC (.int 150))) (dOp kRep (dLst (dCons (dUn kNeg (dC (.int 1))) dNil)) (dC (.int 150)))) dNil) dNil) (dCons (dCallX 1 0 [.p 0] sp_count_pairs (dCons (dOp kRep (dLst (dCons (dC (.int 1)) (dCons (dUn kNeg (dC (.int 1))) dNil))) (dC (.int 150))) dNil) dNil) (dCons (dCallX 1 0 [.p 0] sp_turn_sum (dCons (dOp kRep (dLst (dCons (dC (.int 1)) (dCons (dUn kNeg (dC (.int 1))) dNil))) (dC (.int 150))) dNil) dNil) dNil)))) (dLst (dCons (dC (.int 11175)) (dCons (dC (.int 11175)) (dCons (dC (.int 22350)) dNil)))))) (dRet (dC (.bl false))) dNext) (dRet (dAndV (dOp kEqP (dFz (dCallX 1 0 [.p 0] sp_bounces (dCons (dOp kRep (dLst (dCons (dC (.int 1)) (dCons (dUn kNeg (dC (.int 1))) dNil))) (dC (.int 150))) dNil) dNil)) (dLRg (dCons (dC (.int 149)) (dCons (dUn kNeg (dC (.int 1))) (dCons (dUn kNeg (dC (.int 1))) dNil))))) (dOp kEqP (dFz (dCallX 1 0 [.p 0] sp_bounces (dCons (dOp kCat (dOp kRep (dLst (dCons (dC (.int 1)) dNil)) (dC (.int 150))) (dOp kRep (dLst (dCons (dUn kNeg (dC (.int 1))) dNil)) (dC (.int 150)))) dNil) dNil)) (dLst (dCons (dC (.int 0)) dNil)))))))))

abbrev N_law : List Str := ["_law_script", "_law_draws_here", "_law_ups", "_law_row", "_law_most", "_law_cell"]
/-! ### the package's defs: their readings give what is told -/
abbrev ends (R : DQ) : DEnds := { nx := fun _ M' => R .non M', rt := R }
theorem enumI_get {ns : List Int} {i : Nat} {x : D} (h : (enumD (ns.map D.int))[i]? = some x) : ∃ v, ns[i]? = some v ∧ x = .tup [.int (i : Int), .int v] := by
  obtain ⟨y, hy, rfl⟩ := enumD_get h
  rw [List.getElem?_map] at hy
  cases e : ns[i]? with
  | none => rw [e] at hy; cases hy
  | some v => rw [e] at hy; cases hy; exact ⟨v, rfl, rfl⟩
theorem mapI_get {ns : List Int} {i : Nat} {x : D} (h : (ns.map D.int)[i]? = some x) : ∃ v, ns[i]? = some v ∧ x = .int v := by
  rw [List.getElem?_map] at h
  cases e : ns[i]? with
  | none => rw [e] at h; cases h
  | some v => rw [e] at h; cases h; exact ⟨v, rfl, rfl⟩
theorem take_succ' {α : Type} {l : List α} {i : Nat} {v : α} (h : l[i]? = some v) : l.take (i + 1) = l.take i ++ [v] := by rw [List.take_add_one, h]; rfl
theorem lt_of_get {α : Type} {l : List α} {i : Nat} {v : α} (h : l[i]? = some v) : i < l.length := (List.getElem?_eq_some_iff.mp h).1
theorem isi_list (ns : List D) (M : Mp) : ∃ m b, tyD M (.lst ns) = some m ∧ kitB m "list" = some b ∧ b = true := ⟨"list", true, rfl, rfl, rfl⟩
theorem len_is_whole : ∀ ds M R, sp_is_whole ds M R → ds.length = 1 := by rintro _ M R ⟨i, rfl, _⟩; rfl
theorem v_is_whole : ∀ ds M R, sp_is_whole ds M R → t_is_whole (ends R) (dstart N_is_whole ds) M := by
  rintro _ M R ⟨i, rfl, k⟩
  exact ⟨_, true, rfl, rfl, _, false, rfl, rfl, k⟩
theorem len_check_from : ∀ ds M R, sp_check_from ds M R → ds.length = 2 := by rintro _ M R ⟨i, j, rfl, _⟩; rfl
theorem v_check_from : ∀ ds M R, sp_check_from ds M R → t_check_from (ends R) (dstart N_check_from ds) M := by
  rintro _ M R ⟨i, j, rfl, h, k⟩
  simp only [t_check_from, dIfS_eq, dAnd_eq, dOr_eq, dIf_eq, dWhile_eq, dAndV_bl, dOrV_bl, dLc_eq, eName_eq, dSeq, dAsg, dVar, dC, dOp, dUn, dTest, dNot, dNotV, dChain, kII, kIC, kI, dCons, dNil, dTup, dLst, dNew, dFz, dFzS, dCB, dBM, dBM0, kLen, kInt_eq, asI_int, asI_bl, kSum, kIsi, kEq, kNe, kIsN, kNotN, kIx, kIxT, kInI, kAppend, kCountI, eNil, eCons, eTup, eSub, dDrop, dRet, dRetN, dNext, dNever, dBreak, dCont, dCallX, arr, Src.pick, dFor, iLst, iEnm, iZp, iRg1, iRg2, iEzp, dPart, dNoPart, dSl, dSlN, dLcN, dYes, kCat, kCatN, kRep, kRepN, dAug, dSrt, dPrs, dTrn, dIfS_eq, dwipe, asM, asL, asS, asW, tyD, kitB, dstart, scalD, eqD, isNonD, List.map_cons, List.map_nil, List.length_cons, List.length_nil, List.replicate, List.cons_append, List.nil_append, List.getElem?_cons_succ, List.getElem?_cons_zero, List.set_cons_zero, List.set_cons_succ, List.getD_cons_zero, List.getD_cons_succ, Nat.reduceAdd, Nat.reduceSub, Bool.not_true, Bool.not_false, ex_some, true_and, and_true, eq_self, List.append_nil, kAdd, kSub, kMod, kMul, kPow, kDiv, kLt, kLe, kGt, kGe, kNeg, aAdd, aSub]
  refine ⟨_, rfl, ?_⟩
  simp only [dIfS_eq, dAnd_eq, dOr_eq, dIf_eq, dWhile_eq, dAndV_bl, dOrV_bl, dLc_eq, eName_eq, dSeq, dAsg, dVar, dC, dOp, dUn, dTest, dNot, dNotV, dChain, kII, kIC, kI, dCons, dNil, dTup, dLst, dNew, dFz, dFzS, dCB, dBM, dBM0, kLen, kInt_eq, asI_int, asI_bl, kSum, kIsi, kEq, kNe, kIsN, kNotN, kIx, kIxT, kInI, kAppend, kCountI, eNil, eCons, eTup, eSub, dDrop, dRet, dRetN, dNext, dNever, dBreak, dCont, dCallX, arr, Src.pick, dFor, iLst, iEnm, iZp, iRg1, iRg2, iEzp, dPart, dNoPart, dSl, dSlN, dLcN, dYes, kCat, kCatN, kRep, kRepN, dAug, dSrt, dPrs, dTrn, dIfS_eq, dwipe, asM, asL, asS, asW, tyD, kitB, dstart, scalD, eqD, isNonD, List.map_cons, List.map_nil, List.length_cons, List.length_nil, List.replicate, List.cons_append, List.nil_append, List.getElem?_cons_succ, List.getElem?_cons_zero, List.set_cons_zero, List.set_cons_succ, List.getD_cons_zero, List.getD_cons_succ, Nat.reduceAdd, Nat.reduceSub, Bool.not_true, Bool.not_false, ex_some, true_and, and_true, eq_self, List.append_nil, kAdd, kSub, kMod, kMul, kPow, kDiv, kLt, kLe, kGt, kGe, kNeg, aAdd, aSub]
  exact ⟨(by simp), fun _ => ⟨fun h' => by simp at h'; omega, fun _ => k⟩⟩
theorem len_check_steps : ∀ ds M R, sp_check_steps ds M R → ds.length = 1 := by rintro _ M R ⟨i, rfl, _⟩; rfl
theorem v_check_steps : ∀ ds M R, sp_check_steps ds M R → t_check_steps (ends R) (dstart N_check_steps ds) M := by
  rintro _ M R ⟨ns, rfl, h, k⟩
  simp only [t_check_steps, dIfS_eq, dAnd_eq, dOr_eq, dIf_eq, dWhile_eq, dAndV_bl, dOrV_bl, dLc_eq, eName_eq, dSeq, dAsg, dVar, dC, dOp, dUn, dTest, dNot, dNotV, dChain, kII, kIC, kI, dCons, dNil, dTup, dLst, dNew, dFz, dFzS, dCB, dBM, dBM0, kLen, kInt_eq, asI_int, asI_bl, kSum, kIsi, kEq, kNe, kIsN, kNotN, kIx, kIxT, kInI, kAppend, kCountI, eNil, eCons, eTup, eSub, dDrop, dRet, dRetN, dNext, dNever, dBreak, dCont, dCallX, arr, Src.pick, dFor, iLst, iEnm, iZp, iRg1, iRg2, iEzp, dPart, dNoPart, dSl, dSlN, dLcN, dYes, kCat, kCatN, kRep, kRepN, dAug, dSrt, dPrs, dTrn, dIfS_eq, dwipe, asM, asL, asS, asW, tyD, kitB, dstart, scalD, eqD, isNonD, List.map_cons, List.map_nil, List.length_cons, List.length_nil, List.replicate, List.cons_append, List.nil_append, List.getElem?_cons_succ, List.getElem?_cons_zero, List.set_cons_zero, List.set_cons_succ, List.getD_cons_zero, List.getD_cons_succ, Nat.reduceAdd, Nat.reduceSub, Bool.not_true, Bool.not_false, ex_some, true_and, and_true, eq_self, List.append_nil, kAdd, kSub, kMod, kMul, kPow, kDiv, kLt, kLe, kGt, kGe, kNeg, aAdd, aSub]
  refine ⟨_, true, rfl, rfl, (by simp), fun _ => ⟨fun h' => by simp at h'; omega, fun _ => ⟨fun i δ M' => ∃ x1 x2, δ = [some (dI ns), x1, x2] ∧ M' = M, ⟨_, _, rfl, rfl⟩, ?_, ?_⟩⟩⟩
  · rintro i x δ M' hx ⟨x1, x2, rfl, rfl⟩
    obtain ⟨v, hv, rfl⟩ := enumI_get hx
    simp only [dIfS_eq, dAnd_eq, dOr_eq, dIf_eq, dWhile_eq, dAndV_bl, dOrV_bl, dLc_eq, eName_eq, dSeq, dAsg, dVar, dC, dOp, dUn, dTest, dNot, dNotV, dChain, kII, kIC, kI, dCons, dNil, dTup, dLst, dNew, dFz, dFzS, dCB, dBM, dBM0, kLen, kInt_eq, asI_int, asI_bl, kSum, kIsi, kEq, kNe, kIsN, kNotN, kIx, kIxT, kInI, kAppend, kCountI, eNil, eCons, eTup, eSub, dDrop, dRet, dRetN, dNext, dNever, dBreak, dCont, dCallX, arr, Src.pick, dFor, iLst, iEnm, iZp, iRg1, iRg2, iEzp, dPart, dNoPart, dSl, dSlN, dLcN, dYes, kCat, kCatN, kRep, kRepN, dAug, dSrt, dPrs, dTrn, dIfS_eq, dwipe, asM, asL, asS, asW, tyD, kitB, dstart, scalD, eqD, isNonD, List.map_cons, List.map_nil, List.length_cons, List.length_nil, List.replicate, List.cons_append, List.nil_append, List.getElem?_cons_succ, List.getElem?_cons_zero, List.set_cons_zero, List.set_cons_succ, List.getD_cons_zero, List.getD_cons_succ, Nat.reduceAdd, Nat.reduceSub, Bool.not_true, Bool.not_false, ex_some, true_and, and_true, eq_self, List.append_nil, kAdd, kSub, kMod, kMul, kPow, kDiv, kLt, kLe, kGt, kGe, kNeg, aAdd, aSub]
    refine ⟨v, rfl, ?_⟩
    simp only [dIfS_eq, dAnd_eq, dOr_eq, dIf_eq, dWhile_eq, dAndV_bl, dOrV_bl, dLc_eq, eName_eq, dSeq, dAsg, dVar, dC, dOp, dUn, dTest, dNot, dNotV, dChain, kII, kIC, kI, dCons, dNil, dTup, dLst, dNew, dFz, dFzS, dCB, dBM, dBM0, kLen, kInt_eq, asI_int, asI_bl, kSum, kIsi, kEq, kNe, kIsN, kNotN, kIx, kIxT, kInI, kAppend, kCountI, eNil, eCons, eTup, eSub, dDrop, dRet, dRetN, dNext, dNever, dBreak, dCont, dCallX, arr, Src.pick, dFor, iLst, iEnm, iZp, iRg1, iRg2, iEzp, dPart, dNoPart, dSl, dSlN, dLcN, dYes, kCat, kCatN, kRep, kRepN, dAug, dSrt, dPrs, dTrn, dIfS_eq, dwipe, asM, asL, asS, asW, tyD, kitB, dstart, scalD, eqD, isNonD, List.map_cons, List.map_nil, List.length_cons, List.length_nil, List.replicate, List.cons_append, List.nil_append, List.getElem?_cons_succ, List.getElem?_cons_zero, List.set_cons_zero, List.set_cons_succ, List.getD_cons_zero, List.getD_cons_succ, Nat.reduceAdd, Nat.reduceSub, Bool.not_true, Bool.not_false, ex_some, true_and, and_true, eq_self, List.append_nil, kAdd, kSub, kMod, kMul, kPow, kDiv, kLt, kLe, kGt, kGe, kNeg, aAdd, aSub]
    exact ⟨(by simp), fun _ => ⟨_, _, rfl⟩⟩
  · rintro δ M' ⟨x1, x2, rfl, rfl⟩
    exact k
theorem htsF_get : ∀ (ns : List Int) (h : Int) (i : Nat), i < ns.length → (htsF h ns)[i]? = some (h + (ns.take (i + 1)).sum)
  | [], _, _, hi => by simp at hi
  | x :: r, h, 0, _ => by simp [htsF]
  | x :: r, h, i + 1, hi => by
    show (htsF (h + x) r)[i]? = _
    rw [htsF_get r (h + x) i (by simpa using hi), List.take_succ_cons, List.sum_cons]
    congr 1; omega
theorem htsF_len : ∀ (ns : List Int) (h : Int), (htsF h ns).length = ns.length
  | [], _ => rfl
  | x :: r, h => by rw [htsF, List.length_cons, List.length_cons, htsF_len r]
theorem len_heights_in : ∀ ds M R, sp_heights_in ds M R → ds.length = 1 := by rintro _ M R ⟨i, rfl, _⟩; rfl
theorem v_heights_in : ∀ ds M R, sp_heights_in ds M R → t_heights_in (ends R) (dstart N_heights_in ds) M := by
  rintro _ M R ⟨ns, rfl, h, k⟩
  simp only [t_heights_in, dIfS_eq, dAnd_eq, dOr_eq, dIf_eq, dWhile_eq, dAndV_bl, dOrV_bl, dLc_eq, eName_eq, dSeq, dAsg, dVar, dC, dOp, dUn, dTest, dNot, dNotV, dChain, kII, kIC, kI, dCons, dNil, dTup, dLst, dNew, dFz, dFzS, dCB, dBM, dBM0, kLen, kInt_eq, asI_int, asI_bl, kSum, kIsi, kEq, kNe, kIsN, kNotN, kIx, kIxT, kInI, kAppend, kCountI, eNil, eCons, eTup, eSub, dDrop, dRet, dRetN, dNext, dNever, dBreak, dCont, dCallX, arr, Src.pick, dFor, iLst, iEnm, iZp, iRg1, iRg2, iEzp, dPart, dNoPart, dSl, dSlN, dLcN, dYes, kCat, kCatN, kRep, kRepN, dAug, dSrt, dPrs, dTrn, dIfS_eq, dwipe, asM, asL, asS, asW, tyD, kitB, dstart, scalD, eqD, isNonD, List.map_cons, List.map_nil, List.length_cons, List.length_nil, List.replicate, List.cons_append, List.nil_append, List.getElem?_cons_succ, List.getElem?_cons_zero, List.set_cons_zero, List.set_cons_succ, List.getD_cons_zero, List.getD_cons_succ, Nat.reduceAdd, Nat.reduceSub, Bool.not_true, Bool.not_false, ex_some, true_and, and_true, eq_self, List.append_nil, kAdd, kSub, kMod, kMul, kPow, kDiv, kLt, kLe, kGt, kGe, kNeg, aAdd, aSub]
  refine ⟨Nat.zero_le _, fun p hp => ⟨fun i δ M' => ∃ x3, δ = [some (dI ns), some (.ref p), some (.int (ns.take i).sum), x3] ∧ M' = mup M p (.lst (((hts ns).take i).map D.int)), ⟨_, rfl, rfl⟩, ?_, ?_⟩⟩
  · rintro i x δ M' hx ⟨x3, rfl, rfl⟩
    obtain ⟨v, hv, rfl⟩ := mapI_get hx
    have hi := lt_of_get hv
    simp only [dIfS_eq, dAnd_eq, dOr_eq, dIf_eq, dWhile_eq, dAndV_bl, dOrV_bl, dLc_eq, eName_eq, dSeq, dAsg, dVar, dC, dOp, dUn, dTest, dNot, dNotV, dChain, kII, kIC, kI, dCons, dNil, dTup, dLst, dNew, dFz, dFzS, dCB, dBM, dBM0, kLen, kInt_eq, asI_int, asI_bl, kSum, kIsi, kEq, kNe, kIsN, kNotN, kIx, kIxT, kInI, kAppend, kCountI, eNil, eCons, eTup, eSub, dDrop, dRet, dRetN, dNext, dNever, dBreak, dCont, dCallX, arr, Src.pick, dFor, iLst, iEnm, iZp, iRg1, iRg2, iEzp, dPart, dNoPart, dSl, dSlN, dLcN, dYes, kCat, kCatN, kRep, kRepN, dAug, dSrt, dPrs, dTrn, dIfS_eq, dwipe, asM, asL, asS, asW, tyD, kitB, dstart, scalD, eqD, isNonD, List.map_cons, List.map_nil, List.length_cons, List.length_nil, List.replicate, List.cons_append, List.nil_append, List.getElem?_cons_succ, List.getElem?_cons_zero, List.set_cons_zero, List.set_cons_succ, List.getD_cons_zero, List.getD_cons_succ, Nat.reduceAdd, Nat.reduceSub, Bool.not_true, Bool.not_false, ex_some, true_and, and_true, eq_self, List.append_nil, kAdd, kSub, kMod, kMul, kPow, kDiv, kLt, kLe, kGt, kGe, kNeg, aAdd, aSub]
    have e1 : (ns.take i).sum + v = (ns.take (i + 1)).sum := by rw [take_succ' hv, List.sum_append]; simp
    refine ⟨⟨_, mup_same⟩, _, mup_same, ?_, some (.int v), ?_, ?_⟩
    · rw [List.length_map, List.length_take, htsF_len]; omega
    · rw [e1]
    · rw [mup_mup, e1, take_succ' (htsF_get ns 0 i hi), Int.zero_add, List.map_append]
      rfl
  · rintro δ M' ⟨x3, rfl, rfl⟩
    simp only [dIfS_eq, dAnd_eq, dOr_eq, dIf_eq, dWhile_eq, dAndV_bl, dOrV_bl, dLc_eq, eName_eq, dSeq, dAsg, dVar, dC, dOp, dUn, dTest, dNot, dNotV, dChain, kII, kIC, kI, dCons, dNil, dTup, dLst, dNew, dFz, dFzS, dCB, dBM, dBM0, kLen, kInt_eq, asI_int, asI_bl, kSum, kIsi, kEq, kNe, kIsN, kNotN, kIx, kIxT, kInI, kAppend, kCountI, eNil, eCons, eTup, eSub, dDrop, dRet, dRetN, dNext, dNever, dBreak, dCont, dCallX, arr, Src.pick, dFor, iLst, iEnm, iZp, iRg1, iRg2, iEzp, dPart, dNoPart, dSl, dSlN, dLcN, dYes, kCat, kCatN, kRep, kRepN, dAug, dSrt, dPrs, dTrn, dIfS_eq, dwipe, asM, asL, asS, asW, tyD, kitB, dstart, scalD, eqD, isNonD, List.map_cons, List.map_nil, List.length_cons, List.length_nil, List.replicate, List.cons_append, List.nil_append, List.getElem?_cons_succ, List.getElem?_cons_zero, List.set_cons_zero, List.set_cons_succ, List.getD_cons_zero, List.getD_cons_succ, Nat.reduceAdd, Nat.reduceSub, Bool.not_true, Bool.not_false, ex_some, true_and, and_true, eq_self, List.append_nil, kAdd, kSub, kMod, kMul, kPow, kDiv, kLt, kLe, kGt, kGe, kNeg, aAdd, aSub]
    have e : (hts ns).take (ns.map D.int).length = hts ns := List.take_of_length_le (by rw [htsF_len, List.length_map]; omega)
    rw [e]
    exact k p hp
theorem fbel_first : ∀ {l : List Int} {i : Nat} {v : Int}, (∀ (j : Nat) (w : Int), j < i → l[j]? = some w → 0 ≤ w) → l[i]? = some v → v < 0 → fbel l = some i
  | [], _, _, _, h, _ => by simp at h
  | x :: r, 0, v, _, h, hv => by
    simp at h; subst h
    simp [fbel, hv]
  | x :: r, i + 1, v, hp, h, hv => by
    have hx : ¬x < 0 := by have := hp 0 x (by omega) rfl; omega
    rw [fbel, if_neg hx, fbel_first (i := i) (fun j w hj hw => hp (j + 1) w (by omega) (by simpa using hw)) (by simpa using h) hv]
    rfl
theorem fbel_none : ∀ {l : List Int}, (∀ (j : Nat) (w : Int), l[j]? = some w → 0 ≤ w) → fbel l = none
  | [], _ => rfl
  | x :: r, hp => by
    have hx : ¬x < 0 := by have := hp 0 x rfl; omega
    rw [fbel, if_neg hx, fbel_none fun j w hw => hp (j + 1) w (by simpa using hw)]
    rfl
theorem len_first_below : ∀ ds M R, sp_first_below ds M R → ds.length = 1 := by rintro _ M R ⟨i, rfl, _⟩; rfl
theorem v_first_below : ∀ ds M R, sp_first_below ds M R → t_first_below (ends R) (dstart N_first_below ds) M := by
  rintro _ M R ⟨ns, rfl, h, k⟩
  simp only [t_first_below, dIfS_eq, dAnd_eq, dOr_eq, dIf_eq, dWhile_eq, dAndV_bl, dOrV_bl, dLc_eq, eName_eq, dSeq, dAsg, dVar, dC, dOp, dUn, dTest, dNot, dNotV, dChain, kII, kIC, kI, dCons, dNil, dTup, dLst, dNew, dFz, dFzS, dCB, dBM, dBM0, kLen, kInt_eq, asI_int, asI_bl, kSum, kIsi, kEq, kNe, kIsN, kNotN, kIx, kIxT, kInI, kAppend, kCountI, eNil, eCons, eTup, eSub, dDrop, dRet, dRetN, dNext, dNever, dBreak, dCont, dCallX, arr, Src.pick, dFor, iLst, iEnm, iZp, iRg1, iRg2, iEzp, dPart, dNoPart, dSl, dSlN, dLcN, dYes, kCat, kCatN, kRep, kRepN, dAug, dSrt, dPrs, dTrn, dIfS_eq, dwipe, asM, asL, asS, asW, tyD, kitB, dstart, scalD, eqD, isNonD, List.map_cons, List.map_nil, List.length_cons, List.length_nil, List.replicate, List.cons_append, List.nil_append, List.getElem?_cons_succ, List.getElem?_cons_zero, List.set_cons_zero, List.set_cons_succ, List.getD_cons_zero, List.getD_cons_succ, Nat.reduceAdd, Nat.reduceSub, Bool.not_true, Bool.not_false, ex_some, true_and, and_true, eq_self, List.append_nil, kAdd, kSub, kMod, kMul, kPow, kDiv, kLt, kLe, kGt, kGe, kNeg, aAdd, aSub]
  refine ⟨ns, rfl, h, fun p hp => ⟨_, mup_same, ?_⟩⟩
  rw [mdel_mup hp]
  refine ⟨fun i δ M' => ∃ x1 x2, δ = [some (dI ns), x1, x2] ∧ M' = M ∧ ∀ j w, j < i → (hts ns)[j]? = some w → 0 ≤ w, ⟨_, _, rfl, rfl, fun j w hj => by omega⟩, ?_, ?_⟩
  · rintro i x δ M' hx ⟨x1, x2, rfl, rfl, hq⟩
    obtain ⟨v, hv, rfl⟩ := enumI_get hx
    simp only [dIfS_eq, dAnd_eq, dOr_eq, dIf_eq, dWhile_eq, dAndV_bl, dOrV_bl, dLc_eq, eName_eq, dSeq, dAsg, dVar, dC, dOp, dUn, dTest, dNot, dNotV, dChain, kII, kIC, kI, dCons, dNil, dTup, dLst, dNew, dFz, dFzS, dCB, dBM, dBM0, kLen, kInt_eq, asI_int, asI_bl, kSum, kIsi, kEq, kNe, kIsN, kNotN, kIx, kIxT, kInI, kAppend, kCountI, eNil, eCons, eTup, eSub, dDrop, dRet, dRetN, dNext, dNever, dBreak, dCont, dCallX, arr, Src.pick, dFor, iLst, iEnm, iZp, iRg1, iRg2, iEzp, dPart, dNoPart, dSl, dSlN, dLcN, dYes, kCat, kCatN, kRep, kRepN, dAug, dSrt, dPrs, dTrn, dIfS_eq, dwipe, asM, asL, asS, asW, tyD, kitB, dstart, scalD, eqD, isNonD, List.map_cons, List.map_nil, List.length_cons, List.length_nil, List.replicate, List.cons_append, List.nil_append, List.getElem?_cons_succ, List.getElem?_cons_zero, List.set_cons_zero, List.set_cons_succ, List.getD_cons_zero, List.getD_cons_succ, Nat.reduceAdd, Nat.reduceSub, Bool.not_true, Bool.not_false, ex_some, true_and, and_true, eq_self, List.append_nil, kAdd, kSub, kMod, kMul, kPow, kDiv, kLt, kLe, kGt, kGe, kNeg, aAdd, aSub]
    refine ⟨fun hn => ?_, fun hn => ⟨_, _, rfl, ?_⟩⟩
    · rw [fbel_first hq hv (by simpa using hn)] at k
      exact k
    · intro j w hj hw
      by_cases e : j = i
      · subst e; rw [hv] at hw; cases hw; simpa using hn
      · exact hq j w (by omega) hw
  · rintro δ M' ⟨x1, x2, rfl, rfl, hq⟩
    rw [fbel_none fun j w hw => hq j w (by rw [enumD_len, List.length_map]; exact lt_of_get hw) hw] at k
    exact k
theorem len_check_modulus : ∀ ds M R, sp_check_modulus ds M R → ds.length = 1 := by rintro _ M R ⟨i, rfl, _⟩; rfl
theorem v_check_modulus : ∀ ds M R, sp_check_modulus ds M R → t_check_modulus (ends R) (dstart N_check_modulus ds) M := by
  rintro _ M R ⟨d, rfl, h, k⟩
  simp only [t_check_modulus, dIfS_eq, dAnd_eq, dOr_eq, dIf_eq, dWhile_eq, dAndV_bl, dOrV_bl, dLc_eq, eName_eq, dSeq, dAsg, dVar, dC, dOp, dUn, dTest, dNot, dNotV, dChain, kII, kIC, kI, dCons, dNil, dTup, dLst, dNew, dFz, dFzS, dCB, dBM, dBM0, kLen, kInt_eq, asI_int, asI_bl, kSum, kIsi, kEq, kNe, kIsN, kNotN, kIx, kIxT, kInI, kAppend, kCountI, eNil, eCons, eTup, eSub, dDrop, dRet, dRetN, dNext, dNever, dBreak, dCont, dCallX, arr, Src.pick, dFor, iLst, iEnm, iZp, iRg1, iRg2, iEzp, dPart, dNoPart, dSl, dSlN, dLcN, dYes, kCat, kCatN, kRep, kRepN, dAug, dSrt, dPrs, dTrn, dIfS_eq, dwipe, asM, asL, asS, asW, tyD, kitB, dstart, scalD, eqD, isNonD, List.map_cons, List.map_nil, List.length_cons, List.length_nil, List.replicate, List.cons_append, List.nil_append, List.getElem?_cons_succ, List.getElem?_cons_zero, List.set_cons_zero, List.set_cons_succ, List.getD_cons_zero, List.getD_cons_succ, Nat.reduceAdd, Nat.reduceSub, Bool.not_true, Bool.not_false, ex_some, true_and, and_true, eq_self, List.append_nil, kAdd, kSub, kMod, kMul, kPow, kDiv, kLt, kLe, kGt, kGe, kNeg, aAdd, aSub]
  cases d with
  | non => exact ⟨fun h => by simp [isNonD] at h, fun _ => k⟩
  | int m => exact ⟨fun _ => ⟨m, 1, rfl, h, k⟩, fun h => by simp [isNonD] at h⟩
  | _ => exact h.elim

theorem isNon_mod {d : D} (h : okMod d) : (d = .non) ∨ ∃ m : Int, d = .int m ∧ 1 ≤ m := by
  cases d with
  | non => exact .inl rfl
  | int m => exact .inr ⟨m, rfl, h⟩
  | _ => exact h.elim
theorem len_places_in : ∀ ds M R, sp_places_in ds M R → ds.length = 2 := by rintro _ M R ⟨i, j, rfl, _⟩; rfl
theorem v_places_in : ∀ ds M R, sp_places_in ds M R → t_places_in (ends R) (dstart N_places_in ds) M := by
  rintro _ M R ⟨ns, dm, rfl, hm, h, k⟩
  simp only [t_places_in, dIfS_eq, dAnd_eq, dOr_eq, dIf_eq, dWhile_eq, dAndV_bl, dOrV_bl, dLc_eq, eName_eq, dSeq, dAsg, dVar, dC, dOp, dUn, dTest, dNot, dNotV, dChain, kII, kIC, kI, dCons, dNil, dTup, dLst, dNew, dFz, dFzS, dCB, dBM, dBM0, kLen, kInt_eq, asI_int, asI_bl, kSum, kIsi, kEq, kNe, kIsN, kNotN, kIx, kIxT, kInI, kAppend, kCountI, eNil, eCons, eTup, eSub, dDrop, dRet, dRetN, dNext, dNever, dBreak, dCont, dCallX, arr, Src.pick, dFor, iLst, iEnm, iZp, iRg1, iRg2, iEzp, dPart, dNoPart, dSl, dSlN, dLcN, dYes, kCat, kCatN, kRep, kRepN, dAug, dSrt, dPrs, dTrn, dIfS_eq, dwipe, asM, asL, asS, asW, tyD, kitB, dstart, scalD, eqD, isNonD, List.map_cons, List.map_nil, List.length_cons, List.length_nil, List.replicate, List.cons_append, List.nil_append, List.getElem?_cons_succ, List.getElem?_cons_zero, List.set_cons_zero, List.set_cons_succ, List.getD_cons_zero, List.getD_cons_succ, Nat.reduceAdd, Nat.reduceSub, Bool.not_true, Bool.not_false, ex_some, true_and, and_true, eq_self, List.append_nil, kAdd, kSub, kMod, kMul, kPow, kDiv, kLt, kLe, kGt, kGe, kNeg, aAdd, aSub]
  refine ⟨ns, rfl, h, fun p hp => ⟨_, mup_same, ?_⟩⟩
  rw [mdel_mup hp]
  rcases isNon_mod hm with rfl | ⟨m, rfl, hm1⟩
  · refine ⟨fun h => by simp [isNonD] at h, fun _ => ⟨ns.length, hts ns, _, by rw [List.length_map], by omega, rfl, rfl, by rw [htsF_len]; omega, fun ps h1 h2 => ?_⟩⟩
    intro q hq
    have := k ps ⟨h1, h2⟩ q hq
    rw [List.map_map] at this
    exact this
  · refine ⟨fun _ => ⟨by rw [List.length_map, htsF_len]; omega, fun i acc M' => M' = M ∧ acc = (((hts ns).take i).map (· % m)).map D.int, ⟨rfl, rfl⟩, ?_, ?_⟩, fun h => by simp [isNonD] at h⟩
    · rintro i x acc M' hx ⟨rfl, rfl⟩ _
      obtain ⟨v, hv, rfl⟩ := mapI_get hx
      simp only [dIfS_eq, dAnd_eq, dOr_eq, dIf_eq, dWhile_eq, dAndV_bl, dOrV_bl, dLc_eq, eName_eq, dSeq, dAsg, dVar, dC, dOp, dUn, dTest, dNot, dNotV, dChain, kII, kIC, kI, dCons, dNil, dTup, dLst, dNew, dFz, dFzS, dCB, dBM, dBM0, kLen, kInt_eq, asI_int, asI_bl, kSum, kIsi, kEq, kNe, kIsN, kNotN, kIx, kIxT, kInI, kAppend, kCountI, eNil, eCons, eTup, eSub, dDrop, dRet, dRetN, dNext, dNever, dBreak, dCont, dCallX, arr, Src.pick, dFor, iLst, iEnm, iZp, iRg1, iRg2, iEzp, dPart, dNoPart, dSl, dSlN, dLcN, dYes, kCat, kCatN, kRep, kRepN, dAug, dSrt, dPrs, dTrn, dIfS_eq, dwipe, asM, asL, asS, asW, tyD, kitB, dstart, scalD, eqD, isNonD, List.map_cons, List.map_nil, List.length_cons, List.length_nil, List.replicate, List.cons_append, List.nil_append, List.getElem?_cons_succ, List.getElem?_cons_zero, List.set_cons_zero, List.set_cons_succ, List.getD_cons_zero, List.getD_cons_succ, Nat.reduceAdd, Nat.reduceSub, Bool.not_true, Bool.not_false, ex_some, true_and, and_true, eq_self, List.append_nil, kAdd, kSub, kMod, kMul, kPow, kDiv, kLt, kLe, kGt, kGe, kNeg, aAdd, aSub]
      refine ⟨fun _ => ⟨by omega, ?_⟩, fun h => by simp at h⟩
      rw [take_succ' hv, List.map_append, List.map_append]
      rfl
    · rintro acc M' ⟨rfl, rfl⟩
      have e : (hts ns).take ((hts ns).map D.int).length = hts ns := List.take_of_length_le (by rw [List.length_map]; omega)
      rw [e]
      refine ⟨ns.length, (hts ns).map (· % m), _, by rw [List.length_map], by omega, rfl, rfl, by rw [List.length_map, htsF_len]; omega, fun ps h1 h2 => ?_⟩
      intro q hq
      have := k ps ⟨h1, h2⟩ q hq
      rw [List.map_map] at this
      exact this
theorem plc_lt {ns : List Int} {dm : D} {ps : List Nat} (h : Plc ns dm ps) : ∀ j ∈ ps, j < ns.length := fun j hj => List.mem_range.mp (h.perm.mem_iff.mp hj)
theorem len_swept_in : ∀ ds M R, sp_swept_in ds M R → ds.length = 2 := by rintro _ M R ⟨i, j, rfl, _⟩; rfl
theorem v_swept_in : ∀ ds M R, sp_swept_in ds M R → t_swept_in (ends R) (dstart N_swept_in ds) M := by
  rintro _ M R ⟨ns, dm, rfl, hm, h, k⟩
  simp only [t_swept_in, dIfS_eq, dAnd_eq, dOr_eq, dIf_eq, dWhile_eq, dAndV_bl, dOrV_bl, dLc_eq, eName_eq, dSeq, dAsg, dVar, dC, dOp, dUn, dTest, dNot, dNotV, dChain, kII, kIC, kI, dCons, dNil, dTup, dLst, dNew, dFz, dFzS, dCB, dBM, dBM0, kLen, kInt_eq, asI_int, asI_bl, kSum, kIsi, kEq, kNe, kIsN, kNotN, kIx, kIxT, kInI, kAppend, kCountI, eNil, eCons, eTup, eSub, dDrop, dRet, dRetN, dNext, dNever, dBreak, dCont, dCallX, arr, Src.pick, dFor, iLst, iEnm, iZp, iRg1, iRg2, iEzp, dPart, dNoPart, dSl, dSlN, dLcN, dYes, kCat, kCatN, kRep, kRepN, dAug, dSrt, dPrs, dTrn, dIfS_eq, dwipe, asM, asL, asS, asW, tyD, kitB, dstart, scalD, eqD, isNonD, List.map_cons, List.map_nil, List.length_cons, List.length_nil, List.replicate, List.cons_append, List.nil_append, List.getElem?_cons_succ, List.getElem?_cons_zero, List.set_cons_zero, List.set_cons_succ, List.getD_cons_zero, List.getD_cons_succ, Nat.reduceAdd, Nat.reduceSub, Bool.not_true, Bool.not_false, ex_some, true_and, and_true, eq_self, List.append_nil, kAdd, kSub, kMod, kMul, kPow, kDiv, kLt, kLe, kGt, kGe, kNeg, aAdd, aSub]
  refine ⟨ns, dm, rfl, hm, h, fun ps hps p hp => ⟨_, mup_same, ?_⟩⟩
  rw [mdel_mup hp]
  have hl : ps.length = ns.length := by rw [hps.perm.length_eq, List.length_range]
  refine ⟨by rw [List.length_map, List.length_map]; omega, fun i acc M' => M' = M ∧ acc = (swp ns (ps.take i)).map D.int, ⟨rfl, rfl⟩, ?_, ?_⟩
  · rintro i x acc M' hx ⟨rfl, rfl⟩ _
    rw [List.map_map] at hx
    have hx' : ∃ j : Nat, ps[i]? = some j ∧ x = .int (j : Int) := by
      rw [List.getElem?_map] at hx
      cases e : ps[i]? with
      | none => rw [e] at hx; cases hx
      | some j => rw [e] at hx; cases hx; exact ⟨j, rfl, rfl⟩
    obtain ⟨j, hj, rfl⟩ := hx'
    have hjl := plc_lt hps j (List.mem_of_getElem? hj)
    simp only [dIfS_eq, dAnd_eq, dOr_eq, dIf_eq, dWhile_eq, dAndV_bl, dOrV_bl, dLc_eq, eName_eq, dSeq, dAsg, dVar, dC, dOp, dUn, dTest, dNot, dNotV, dChain, kII, kIC, kI, dCons, dNil, dTup, dLst, dNew, dFz, dFzS, dCB, dBM, dBM0, kLen, kInt_eq, asI_int, asI_bl, kSum, kIsi, kEq, kNe, kIsN, kNotN, kIx, kIxT, kInI, kAppend, kCountI, eNil, eCons, eTup, eSub, dDrop, dRet, dRetN, dNext, dNever, dBreak, dCont, dCallX, arr, Src.pick, dFor, iLst, iEnm, iZp, iRg1, iRg2, iEzp, dPart, dNoPart, dSl, dSlN, dLcN, dYes, kCat, kCatN, kRep, kRepN, dAug, dSrt, dPrs, dTrn, dIfS_eq, dwipe, asM, asL, asS, asW, tyD, kitB, dstart, scalD, eqD, isNonD, List.map_cons, List.map_nil, List.length_cons, List.length_nil, List.replicate, List.cons_append, List.nil_append, List.getElem?_cons_succ, List.getElem?_cons_zero, List.set_cons_zero, List.set_cons_succ, List.getD_cons_zero, List.getD_cons_succ, Nat.reduceAdd, Nat.reduceSub, Bool.not_true, Bool.not_false, ex_some, true_and, and_true, eq_self, List.append_nil, kAdd, kSub, kMod, kMul, kPow, kDiv, kLt, kLe, kGt, kGe, kNeg, aAdd, aSub]
    refine ⟨fun _ => ⟨.int (ns.getD j 0), ?_, ?_⟩, fun h => by simp at h⟩
    · refine atI_nat ?_
      rw [List.getElem?_map, List.getElem?_eq_getElem hjl, List.getD_eq_getElem?_getD, List.getElem?_eq_getElem hjl]
      rfl
    · rw [take_succ' hj]
      unfold swp
      rw [List.map_append, List.map_append]
      rfl
  · rintro acc M' ⟨rfl, rfl⟩
    have e : ps.take ((ps.map fun j : Nat => (j : Int)).map D.int).length = ps := List.take_of_length_le (by rw [List.length_map, List.length_map]; omega)
    rw [e]
    exact k ps hps
theorem len_swept : ∀ ds M R, sp_swept ds M R → ds.length = 2 := by rintro _ M R ⟨i, j, rfl, _⟩; rfl
theorem v_swept : ∀ ds M R, sp_swept ds M R → t_swept (ends R) (dstart N_swept ds) M := by
  rintro _ M R ⟨ns, dm, rfl, hm, h, k⟩
  simp only [t_swept, dIfS_eq, dAnd_eq, dOr_eq, dIf_eq, dWhile_eq, dAndV_bl, dOrV_bl, dLc_eq, eName_eq, dSeq, dAsg, dVar, dC, dOp, dUn, dTest, dNot, dNotV, dChain, kII, kIC, kI, dCons, dNil, dTup, dLst, dNew, dFz, dFzS, dCB, dBM, dBM0, kLen, kInt_eq, asI_int, asI_bl, kSum, kIsi, kEq, kNe, kIsN, kNotN, kIx, kIxT, kInI, kAppend, kCountI, eNil, eCons, eTup, eSub, dDrop, dRet, dRetN, dNext, dNever, dBreak, dCont, dCallX, arr, Src.pick, dFor, iLst, iEnm, iZp, iRg1, iRg2, iEzp, dPart, dNoPart, dSl, dSlN, dLcN, dYes, kCat, kCatN, kRep, kRepN, dAug, dSrt, dPrs, dTrn, dIfS_eq, dwipe, asM, asL, asS, asW, tyD, kitB, dstart, scalD, eqD, isNonD, List.map_cons, List.map_nil, List.length_cons, List.length_nil, List.replicate, List.cons_append, List.nil_append, List.getElem?_cons_succ, List.getElem?_cons_zero, List.set_cons_zero, List.set_cons_succ, List.getD_cons_zero, List.getD_cons_succ, Nat.reduceAdd, Nat.reduceSub, Bool.not_true, Bool.not_false, ex_some, true_and, and_true, eq_self, List.append_nil, kAdd, kSub, kMod, kMul, kPow, kDiv, kLt, kLe, kGt, kGe, kNeg, aAdd, aSub]
  exact ⟨ns, rfl, h, dm, rfl, hm, ns, dm, rfl, hm, by omega, k⟩
theorem len_check_hill : ∀ ds M R, sp_check_hill ds M R → ds.length = 1 := by rintro _ M R ⟨i, rfl, _⟩; rfl
theorem v_check_hill : ∀ ds M R, sp_check_hill ds M R → t_check_hill (ends R) (dstart N_check_hill ds) M := by
  rintro _ M R ⟨ns, rfl, h, k⟩
  have hlen := h.len
  simp only [t_check_hill, dIfS_eq, dAnd_eq, dOr_eq, dIf_eq, dWhile_eq, dAndV_bl, dOrV_bl, dLc_eq, eName_eq, dSeq, dAsg, dVar, dC, dOp, dUn, dTest, dNot, dNotV, dChain, kII, kIC, kI, dCons, dNil, dTup, dLst, dNew, dFz, dFzS, dCB, dBM, dBM0, kLen, kInt_eq, asI_int, asI_bl, kSum, kIsi, kEq, kNe, kIsN, kNotN, kIx, kIxT, kInI, kAppend, kCountI, eNil, eCons, eTup, eSub, dDrop, dRet, dRetN, dNext, dNever, dBreak, dCont, dCallX, arr, Src.pick, dFor, iLst, iEnm, iZp, iRg1, iRg2, iEzp, dPart, dNoPart, dSl, dSlN, dLcN, dYes, kCat, kCatN, kRep, kRepN, dAug, dSrt, dPrs, dTrn, dIfS_eq, dwipe, asM, asL, asS, asW, tyD, kitB, dstart, scalD, eqD, isNonD, List.map_cons, List.map_nil, List.length_cons, List.length_nil, List.replicate, List.cons_append, List.nil_append, List.getElem?_cons_succ, List.getElem?_cons_zero, List.set_cons_zero, List.set_cons_succ, List.getD_cons_zero, List.getD_cons_succ, Nat.reduceAdd, Nat.reduceSub, Bool.not_true, Bool.not_false, ex_some, true_and, and_true, eq_self, List.append_nil, kAdd, kSub, kMod, kMul, kPow, kDiv, kLt, kLe, kGt, kGe, kNeg, aAdd, aSub]
  refine ⟨_, true, rfl, rfl, (by simp), fun _ => ⟨fun h' => by simp at h'; omega, fun _ => ⟨fun i δ M' => ∃ x1 x2, δ = [some (dI ns), x1, x2, none] ∧ M' = M, ⟨_, _, rfl, rfl⟩, ?_, ?_⟩⟩⟩
  · rintro i x δ M' hx ⟨x1, x2, rfl, rfl⟩
    obtain ⟨v, hv, rfl⟩ := enumI_get hx
    have hpm := h.pm v (List.mem_of_getElem? hv)
    simp only [dIfS_eq, dAnd_eq, dOr_eq, dIf_eq, dWhile_eq, dAndV_bl, dOrV_bl, dLc_eq, eName_eq, dSeq, dAsg, dVar, dC, dOp, dUn, dTest, dNot, dNotV, dChain, kII, kIC, kI, dCons, dNil, dTup, dLst, dNew, dFz, dFzS, dCB, dBM, dBM0, kLen, kInt_eq, asI_int, asI_bl, kSum, kIsi, kEq, kNe, kIsN, kNotN, kIx, kIxT, kInI, kAppend, kCountI, eNil, eCons, eTup, eSub, dDrop, dRet, dRetN, dNext, dNever, dBreak, dCont, dCallX, arr, Src.pick, dFor, iLst, iEnm, iZp, iRg1, iRg2, iEzp, dPart, dNoPart, dSl, dSlN, dLcN, dYes, kCat, kCatN, kRep, kRepN, dAug, dSrt, dPrs, dTrn, dIfS_eq, dwipe, asM, asL, asS, asW, tyD, kitB, dstart, scalD, eqD, isNonD, List.map_cons, List.map_nil, List.length_cons, List.length_nil, List.replicate, List.cons_append, List.nil_append, List.getElem?_cons_succ, List.getElem?_cons_zero, List.set_cons_zero, List.set_cons_succ, List.getD_cons_zero, List.getD_cons_succ, Nat.reduceAdd, Nat.reduceSub, Bool.not_true, Bool.not_false, ex_some, true_and, and_true, eq_self, List.append_nil, kAdd, kSub, kMod, kMul, kPow, kDiv, kLt, kLe, kGt, kGe, kNeg, aAdd, aSub]
    refine ⟨v, rfl, ?_⟩
    simp only [dIfS_eq, dAnd_eq, dOr_eq, dIf_eq, dWhile_eq, dAndV_bl, dOrV_bl, dLc_eq, eName_eq, dSeq, dAsg, dVar, dC, dOp, dUn, dTest, dNot, dNotV, dChain, kII, kIC, kI, dCons, dNil, dTup, dLst, dNew, dFz, dFzS, dCB, dBM, dBM0, kLen, kInt_eq, asI_int, asI_bl, kSum, kIsi, kEq, kNe, kIsN, kNotN, kIx, kIxT, kInI, kAppend, kCountI, eNil, eCons, eTup, eSub, dDrop, dRet, dRetN, dNext, dNever, dBreak, dCont, dCallX, arr, Src.pick, dFor, iLst, iEnm, iZp, iRg1, iRg2, iEzp, dPart, dNoPart, dSl, dSlN, dLcN, dYes, kCat, kCatN, kRep, kRepN, dAug, dSrt, dPrs, dTrn, dIfS_eq, dwipe, asM, asL, asS, asW, tyD, kitB, dstart, scalD, eqD, isNonD, List.map_cons, List.map_nil, List.length_cons, List.length_nil, List.replicate, List.cons_append, List.nil_append, List.getElem?_cons_succ, List.getElem?_cons_zero, List.set_cons_zero, List.set_cons_succ, List.getD_cons_zero, List.getD_cons_succ, Nat.reduceAdd, Nat.reduceSub, Bool.not_true, Bool.not_false, ex_some, true_and, and_true, eq_self, List.append_nil, kAdd, kSub, kMod, kMul, kPow, kDiv, kLt, kLe, kGt, kGe, kNeg, aAdd, aSub]
    refine ⟨(by simp), fun _ => ⟨by simp, [1, -1], rfl, fun h' => ?_, fun _ => ⟨_, _, rfl⟩⟩⟩
    rcases hpm with rfl | rfl <;> simp at h'
  · rintro δ M' ⟨x1, x2, rfl, rfl⟩
    simp only [dIfS_eq, dAnd_eq, dOr_eq, dIf_eq, dWhile_eq, dAndV_bl, dOrV_bl, dLc_eq, eName_eq, dSeq, dAsg, dVar, dC, dOp, dUn, dTest, dNot, dNotV, dChain, kII, kIC, kI, dCons, dNil, dTup, dLst, dNew, dFz, dFzS, dCB, dBM, dBM0, kLen, kInt_eq, asI_int, asI_bl, kSum, kIsi, kEq, kNe, kIsN, kNotN, kIx, kIxT, kInI, kAppend, kCountI, eNil, eCons, eTup, eSub, dDrop, dRet, dRetN, dNext, dNever, dBreak, dCont, dCallX, arr, Src.pick, dFor, iLst, iEnm, iZp, iRg1, iRg2, iEzp, dPart, dNoPart, dSl, dSlN, dLcN, dYes, kCat, kCatN, kRep, kRepN, dAug, dSrt, dPrs, dTrn, dIfS_eq, dwipe, asM, asL, asS, asW, tyD, kitB, dstart, scalD, eqD, isNonD, List.map_cons, List.map_nil, List.length_cons, List.length_nil, List.replicate, List.cons_append, List.nil_append, List.getElem?_cons_succ, List.getElem?_cons_zero, List.set_cons_zero, List.set_cons_succ, List.getD_cons_zero, List.getD_cons_succ, Nat.reduceAdd, Nat.reduceSub, Bool.not_true, Bool.not_false, ex_some, true_and, and_true, eq_self, List.append_nil, kAdd, kSub, kMod, kMul, kPow, kDiv, kLt, kLe, kGt, kGe, kNeg, aAdd, aSub]
    have e : fbel (hts ns) = none := fbel_none fun j w hw => h.up w (List.mem_of_getElem? hw)
    refine ⟨ns, rfl, by omega, ?_⟩
    rw [e]
    simp only [dIfS_eq, dAnd_eq, dOr_eq, dIf_eq, dWhile_eq, dAndV_bl, dOrV_bl, dLc_eq, eName_eq, dSeq, dAsg, dVar, dC, dOp, dUn, dTest, dNot, dNotV, dChain, kII, kIC, kI, dCons, dNil, dTup, dLst, dNew, dFz, dFzS, dCB, dBM, dBM0, kLen, kInt_eq, asI_int, asI_bl, kSum, kIsi, kEq, kNe, kIsN, kNotN, kIx, kIxT, kInI, kAppend, kCountI, eNil, eCons, eTup, eSub, dDrop, dRet, dRetN, dNext, dNever, dBreak, dCont, dCallX, arr, Src.pick, dFor, iLst, iEnm, iZp, iRg1, iRg2, iEzp, dPart, dNoPart, dSl, dSlN, dLcN, dYes, kCat, kCatN, kRep, kRepN, dAug, dSrt, dPrs, dTrn, dIfS_eq, dwipe, asM, asL, asS, asW, tyD, kitB, dstart, scalD, eqD, isNonD, List.map_cons, List.map_nil, List.length_cons, List.length_nil, List.replicate, List.cons_append, List.nil_append, List.getElem?_cons_succ, List.getElem?_cons_zero, List.set_cons_zero, List.set_cons_succ, List.getD_cons_zero, List.getD_cons_succ, Nat.reduceAdd, Nat.reduceSub, Bool.not_true, Bool.not_false, ex_some, true_and, and_true, eq_self, List.append_nil, kAdd, kSub, kMod, kMul, kPow, kDiv, kLt, kLe, kGt, kGe, kNeg, aAdd, aSub]
    exact ⟨fun h' => by simp [isNonD] at h', fun _ => ⟨ns, rfl, fun h' => by rw [h.sum] at h'; simp at h', fun _ => k⟩⟩

theorem zipI_get {as bs : List Int} {i : Nat} {x : D} (h : (zipD (as.map D.int) (bs.map D.int))[i]? = some x) : ∃ a b, as[i]? = some a ∧ bs[i]? = some b ∧ x = .tup [.int a, .int b] := by
  obtain ⟨y, z, hy, hz, rfl⟩ := zipD_get h
  obtain ⟨a, ha, rfl⟩ := mapI_get hy
  obtain ⟨b, hb, rfl⟩ := mapI_get hz
  exact ⟨a, b, ha, hb, rfl⟩
theorem bgsF_snoc (v : Int) : ∀ (l : List Int) (h : Int), bgsF h (l ++ [v]) = bgsF h l ++ if v = 1 then [h + l.sum] else []
  | [], h => by
    show bgsF h [v] = _
    simp [bgsF]
  | x :: r, h => by
    show bgsF h (x :: (r ++ [v])) = _
    rw [bgsF, bgsF_snoc v r (h + x), bgsF, List.sum_cons, show h + x + r.sum = h + (x + r.sum) by omega]
    by_cases e : x = 1
    · rw [if_pos e, if_pos e]; rfl
    · rw [if_neg e, if_neg e]
theorem bgsF_len : ∀ (l : List Int) (h : Int), (bgsF h l).length ≤ l.length
  | [], _ => Nat.le_refl _
  | x :: r, h => by
    rw [bgsF]
    have := bgsF_len r (h + x)
    split
    · simp only [List.length_cons]; omega
    · simp only [List.length_cons]; omega
theorem len_begins_in : ∀ ds M R, sp_begins_in ds M R → ds.length = 1 := by rintro _ M R ⟨i, rfl, _⟩; rfl
theorem v_begins_in : ∀ ds M R, sp_begins_in ds M R → t_begins_in (ends R) (dstart N_begins_in ds) M := by
  rintro _ M R ⟨ns, rfl, h, k⟩
  simp only [t_begins_in, dIfS_eq, dAnd_eq, dOr_eq, dIf_eq, dWhile_eq, dAndV_bl, dOrV_bl, dLc_eq, eName_eq, dSeq, dAsg, dVar, dC, dOp, dUn, dTest, dNot, dNotV, dChain, kII, kIC, kI, dCons, dNil, dTup, dLst, dNew, dFz, dFzS, dCB, dBM, dBM0, kLen, kInt_eq, asI_int, asI_bl, kSum, kIsi, kEq, kNe, kIsN, kNotN, kIx, kIxT, kInI, kAppend, kCountI, eNil, eCons, eTup, eSub, dDrop, dRet, dRetN, dNext, dNever, dBreak, dCont, dCallX, arr, Src.pick, dFor, iLst, iEnm, iZp, iRg1, iRg2, iEzp, dPart, dNoPart, dSl, dSlN, dLcN, dYes, kCat, kCatN, kRep, kRepN, dAug, dSrt, dPrs, dTrn, dIfS_eq, dwipe, asM, asL, asS, asW, tyD, kitB, dstart, scalD, eqD, isNonD, List.map_cons, List.map_nil, List.length_cons, List.length_nil, List.replicate, List.cons_append, List.nil_append, List.getElem?_cons_succ, List.getElem?_cons_zero, List.set_cons_zero, List.set_cons_succ, List.getD_cons_zero, List.getD_cons_succ, Nat.reduceAdd, Nat.reduceSub, Bool.not_true, Bool.not_false, ex_some, true_and, and_true, eq_self, List.append_nil, kAdd, kSub, kMod, kMul, kPow, kDiv, kLt, kLe, kGt, kGe, kNeg, aAdd, aSub]
  refine ⟨ns, rfl, h, fun p hp => ⟨_, mup_same, ?_⟩⟩
  rw [mdel_mup hp]
  have hz : (zipD ((hts ns).map D.int) (ns.map D.int)).length = ns.length := by rw [zipD_len, List.length_map, List.length_map, htsF_len]; omega
  refine ⟨by rw [hz]; omega, fun i acc M' => M' = M ∧ acc = (bgs (ns.take i)).map D.int, ⟨rfl, rfl⟩, ?_, ?_⟩
  · rintro i x acc M' hx ⟨rfl, rfl⟩ _
    obtain ⟨a, b, ha, hb, rfl⟩ := zipI_get hx
    simp only [dIfS_eq, dAnd_eq, dOr_eq, dIf_eq, dWhile_eq, dAndV_bl, dOrV_bl, dLc_eq, eName_eq, dSeq, dAsg, dVar, dC, dOp, dUn, dTest, dNot, dNotV, dChain, kII, kIC, kI, dCons, dNil, dTup, dLst, dNew, dFz, dFzS, dCB, dBM, dBM0, kLen, kInt_eq, asI_int, asI_bl, kSum, kIsi, kEq, kNe, kIsN, kNotN, kIx, kIxT, kInI, kAppend, kCountI, eNil, eCons, eTup, eSub, dDrop, dRet, dRetN, dNext, dNever, dBreak, dCont, dCallX, arr, Src.pick, dFor, iLst, iEnm, iZp, iRg1, iRg2, iEzp, dPart, dNoPart, dSl, dSlN, dLcN, dYes, kCat, kCatN, kRep, kRepN, dAug, dSrt, dPrs, dTrn, dIfS_eq, dwipe, asM, asL, asS, asW, tyD, kitB, dstart, scalD, eqD, isNonD, List.map_cons, List.map_nil, List.length_cons, List.length_nil, List.replicate, List.cons_append, List.nil_append, List.getElem?_cons_succ, List.getElem?_cons_zero, List.set_cons_zero, List.set_cons_succ, List.getD_cons_zero, List.getD_cons_succ, Nat.reduceAdd, Nat.reduceSub, Bool.not_true, Bool.not_false, ex_some, true_and, and_true, eq_self, List.append_nil, kAdd, kSub, kMod, kMul, kPow, kDiv, kLt, kLe, kGt, kGe, kNeg, aAdd, aSub]
    have hi := lt_of_get hb
    rw [htsF_get ns 0 i hi, take_succ' hb, List.sum_append] at ha
    have ea : a = (ns.take i).sum + b := by
      have := Option.some.inj ha
      simp at this; omega
    have eb : bgs (ns.take i ++ [b]) = bgs (ns.take i) ++ if b = 1 then [0 + (ns.take i).sum] else [] := bgsF_snoc b _ 0
    rw [take_succ' hb, eb]
    refine ⟨fun h1 => ?_, fun h1 => ?_⟩
    · have e1 : b = 1 := by simpa using h1
      rw [if_pos e1, List.map_append, ea, e1, Int.zero_add, show (ns.take i).sum + 1 - 1 = (ns.take i).sum by omega]
      rfl
    · have e1 : ¬b = 1 := by simpa using h1
      rw [if_neg e1, List.append_nil]
  · rintro acc M' ⟨rfl, rfl⟩
    rw [hz, List.take_length]
    exact k
theorem cutD_from (xs : List D) (k : Nat) : DL.cutD xs (some (k : Int)) none = xs.drop k := by
  unfold DL.cutD
  rw [HT.sIx_nat, HT.sIx_none]
  by_cases h : k ≤ xs.length
  · rw [Nat.min_eq_left h]
    exact List.take_of_length_le (by rw [List.length_drop]; omega)
  · rw [Nat.min_eq_right (by omega), List.drop_of_length_le (Nat.le_refl _), List.drop_of_length_le (by omega)]
    simp
theorem prsL_drop {bs : List Int} {i : Nat} {v : Int} (h : bs[i]? = some v) : prsL (bs.drop i) = (((bs.drop (i + 1)).filter (prB v)).length : Nat) + prsL (bs.drop (i + 1)) := by
  have e : bs.drop i = v :: bs.drop (i + 1) := by
    have hi := lt_of_get h
    rw [List.drop_eq_getElem_cons hi]
    congr 1
    rw [List.getElem?_eq_getElem hi] at h
    exact Option.some.inj h
  rw [e, prsL]
theorem len_pairs_in : ∀ ds M R, sp_pairs_in ds M R → ds.length = 1 := by rintro _ M R ⟨i, rfl, _⟩; rfl
theorem v_pairs_in : ∀ ds M R, sp_pairs_in ds M R → t_pairs_in (ends R) (dstart N_pairs_in ds) M := by
  rintro _ M R ⟨ns, rfl, h, k⟩
  simp only [t_pairs_in, dIfS_eq, dAnd_eq, dOr_eq, dIf_eq, dWhile_eq, dAndV_bl, dOrV_bl, dLc_eq, eName_eq, dSeq, dAsg, dVar, dC, dOp, dUn, dTest, dNot, dNotV, dChain, kII, kIC, kI, dCons, dNil, dTup, dLst, dNew, dFz, dFzS, dCB, dBM, dBM0, kLen, kInt_eq, asI_int, asI_bl, kSum, kIsi, kEq, kNe, kIsN, kNotN, kIx, kIxT, kInI, kAppend, kCountI, eNil, eCons, eTup, eSub, dDrop, dRet, dRetN, dNext, dNever, dBreak, dCont, dCallX, arr, Src.pick, dFor, iLst, iEnm, iZp, iRg1, iRg2, iEzp, dPart, dNoPart, dSl, dSlN, dLcN, dYes, kCat, kCatN, kRep, kRepN, dAug, dSrt, dPrs, dTrn, dIfS_eq, dwipe, asM, asL, asS, asW, tyD, kitB, dstart, scalD, eqD, isNonD, List.map_cons, List.map_nil, List.length_cons, List.length_nil, List.replicate, List.cons_append, List.nil_append, List.getElem?_cons_succ, List.getElem?_cons_zero, List.set_cons_zero, List.set_cons_succ, List.getD_cons_zero, List.getD_cons_succ, Nat.reduceAdd, Nat.reduceSub, Bool.not_true, Bool.not_false, ex_some, true_and, and_true, eq_self, List.append_nil, kAdd, kSub, kMod, kMul, kPow, kDiv, kLt, kLe, kGt, kGe, kNeg, aAdd, aSub]
  refine ⟨ns, rfl, h, fun p hp => ⟨_, mup_same, ?_⟩⟩
  rw [mdel_mup hp]
  refine ⟨fun i δ M' => ∃ t x3 x4, δ = [some (dI ns), some (dI (bgs ns)), some (.int t), x3, x4] ∧ M' = M ∧ t + prsL ((bgs ns).drop i) = prsL (bgs ns), ⟨_, _, _, rfl, rfl, by simp⟩, ?_, ?_⟩
  · rintro i x δ M' hx ⟨t, x3, x4, rfl, rfl, ht⟩
    obtain ⟨v, hv, rfl⟩ := enumI_get hx
    simp only [dIfS_eq, dAnd_eq, dOr_eq, dIf_eq, dWhile_eq, dAndV_bl, dOrV_bl, dLc_eq, eName_eq, dSeq, dAsg, dVar, dC, dOp, dUn, dTest, dNot, dNotV, dChain, kII, kIC, kI, dCons, dNil, dTup, dLst, dNew, dFz, dFzS, dCB, dBM, dBM0, kLen, kInt_eq, asI_int, asI_bl, kSum, kIsi, kEq, kNe, kIsN, kNotN, kIx, kIxT, kInI, kAppend, kCountI, eNil, eCons, eTup, eSub, dDrop, dRet, dRetN, dNext, dNever, dBreak, dCont, dCallX, arr, Src.pick, dFor, iLst, iEnm, iZp, iRg1, iRg2, iEzp, dPart, dNoPart, dSl, dSlN, dLcN, dYes, kCat, kCatN, kRep, kRepN, dAug, dSrt, dPrs, dTrn, dIfS_eq, dwipe, asM, asL, asS, asW, tyD, kitB, dstart, scalD, eqD, isNonD, List.map_cons, List.map_nil, List.length_cons, List.length_nil, List.replicate, List.cons_append, List.nil_append, List.getElem?_cons_succ, List.getElem?_cons_zero, List.set_cons_zero, List.set_cons_succ, List.getD_cons_zero, List.getD_cons_succ, Nat.reduceAdd, Nat.reduceSub, Bool.not_true, Bool.not_false, ex_some, true_and, and_true, eq_self, List.append_nil, kAdd, kSub, kMod, kMul, kPow, kDiv, kLt, kLe, kGt, kGe, kNeg, aAdd, aSub]
    refine ⟨v, (bgs ns).drop (i + 1), rfl, ?_, ?_⟩
    · rw [show ((i : Int) + 1) = ((i + 1 : Nat) : Int) by omega, cutD_from, List.map_drop]
    · refine ⟨_, _, _, rfl, ?_⟩
      rw [prsL_drop hv] at ht
      omega
  · rintro δ M' ⟨t, x3, x4, rfl, rfl, ht⟩
    simp only [dIfS_eq, dAnd_eq, dOr_eq, dIf_eq, dWhile_eq, dAndV_bl, dOrV_bl, dLc_eq, eName_eq, dSeq, dAsg, dVar, dC, dOp, dUn, dTest, dNot, dNotV, dChain, kII, kIC, kI, dCons, dNil, dTup, dLst, dNew, dFz, dFzS, dCB, dBM, dBM0, kLen, kInt_eq, asI_int, asI_bl, kSum, kIsi, kEq, kNe, kIsN, kNotN, kIx, kIxT, kInI, kAppend, kCountI, eNil, eCons, eTup, eSub, dDrop, dRet, dRetN, dNext, dNever, dBreak, dCont, dCallX, arr, Src.pick, dFor, iLst, iEnm, iZp, iRg1, iRg2, iEzp, dPart, dNoPart, dSl, dSlN, dLcN, dYes, kCat, kCatN, kRep, kRepN, dAug, dSrt, dPrs, dTrn, dIfS_eq, dwipe, asM, asL, asS, asW, tyD, kitB, dstart, scalD, eqD, isNonD, List.map_cons, List.map_nil, List.length_cons, List.length_nil, List.replicate, List.cons_append, List.nil_append, List.getElem?_cons_succ, List.getElem?_cons_zero, List.set_cons_zero, List.set_cons_succ, List.getD_cons_zero, List.getD_cons_succ, Nat.reduceAdd, Nat.reduceSub, Bool.not_true, Bool.not_false, ex_some, true_and, and_true, eq_self, List.append_nil, kAdd, kSub, kMod, kMul, kPow, kDiv, kLt, kLe, kGt, kGe, kNeg, aAdd, aSub]
    rw [enumD_len, List.length_map, List.drop_of_length_le (Nat.le_refl _)] at ht
    have : t = prsL (bgs ns) := by simpa [prsL] using ht
    rw [this]
    exact k
theorem len_turns_in : ∀ ds M R, sp_turns_in ds M R → ds.length = 1 := by rintro _ M R ⟨i, rfl, _⟩; rfl
theorem v_turns_in : ∀ ds M R, sp_turns_in ds M R → t_turns_in (ends R) (dstart N_turns_in ds) M := by
  rintro _ M R ⟨ns, rfl, h, k⟩
  simp only [t_turns_in, dIfS_eq, dAnd_eq, dOr_eq, dIf_eq, dWhile_eq, dAndV_bl, dOrV_bl, dLc_eq, eName_eq, dSeq, dAsg, dVar, dC, dOp, dUn, dTest, dNot, dNotV, dChain, kII, kIC, kI, dCons, dNil, dTup, dLst, dNew, dFz, dFzS, dCB, dBM, dBM0, kLen, kInt_eq, asI_int, asI_bl, kSum, kIsi, kEq, kNe, kIsN, kNotN, kIx, kIxT, kInI, kAppend, kCountI, eNil, eCons, eTup, eSub, dDrop, dRet, dRetN, dNext, dNever, dBreak, dCont, dCallX, arr, Src.pick, dFor, iLst, iEnm, iZp, iRg1, iRg2, iEzp, dPart, dNoPart, dSl, dSlN, dLcN, dYes, kCat, kCatN, kRep, kRepN, dAug, dSrt, dPrs, dTrn, dIfS_eq, dwipe, asM, asL, asS, asW, tyD, kitB, dstart, scalD, eqD, isNonD, List.map_cons, List.map_nil, List.length_cons, List.length_nil, List.replicate, List.cons_append, List.nil_append, List.getElem?_cons_succ, List.getElem?_cons_zero, List.set_cons_zero, List.set_cons_succ, List.getD_cons_zero, List.getD_cons_succ, Nat.reduceAdd, Nat.reduceSub, Bool.not_true, Bool.not_false, ex_some, true_and, and_true, eq_self, List.append_nil, kAdd, kSub, kMod, kMul, kPow, kDiv, kLt, kLe, kGt, kGe, kNeg, aAdd, aSub]
  exact ⟨dI ns, ns, by rw [List.length_map], rfl, rfl, by omega, k⟩
theorem len_under : ∀ ds M R, sp_under ds M R → ds.length = 1 := by rintro _ M R ⟨i, rfl, _⟩; rfl
theorem v_under : ∀ ds M R, sp_under ds M R → t_under (ends R) (dstart N_under ds) M := by
  rintro _ M R ⟨ns, rfl, h, k⟩
  simp only [t_under, dIfS_eq, dAnd_eq, dOr_eq, dIf_eq, dWhile_eq, dAndV_bl, dOrV_bl, dLc_eq, eName_eq, dSeq, dAsg, dVar, dC, dOp, dUn, dTest, dNot, dNotV, dChain, kII, kIC, kI, dCons, dNil, dTup, dLst, dNew, dFz, dFzS, dCB, dBM, dBM0, kLen, kInt_eq, asI_int, asI_bl, kSum, kIsi, kEq, kNe, kIsN, kNotN, kIx, kIxT, kInI, kAppend, kCountI, eNil, eCons, eTup, eSub, dDrop, dRet, dRetN, dNext, dNever, dBreak, dCont, dCallX, arr, Src.pick, dFor, iLst, iEnm, iZp, iRg1, iRg2, iEzp, dPart, dNoPart, dSl, dSlN, dLcN, dYes, kCat, kCatN, kRep, kRepN, dAug, dSrt, dPrs, dTrn, dIfS_eq, dwipe, asM, asL, asS, asW, tyD, kitB, dstart, scalD, eqD, isNonD, List.map_cons, List.map_nil, List.length_cons, List.length_nil, List.replicate, List.cons_append, List.nil_append, List.getElem?_cons_succ, List.getElem?_cons_zero, List.set_cons_zero, List.set_cons_succ, List.getD_cons_zero, List.getD_cons_succ, Nat.reduceAdd, Nat.reduceSub, Bool.not_true, Bool.not_false, ex_some, true_and, and_true, eq_self, List.append_nil, kAdd, kSub, kMod, kMul, kPow, kDiv, kLt, kLe, kGt, kGe, kNeg, aAdd, aSub]
  have hlen := h.len
  refine ⟨ns, rfl, h, ns, rfl, by omega, fun p hp => ⟨_, mup_same, ?_⟩⟩
  rw [mdel_mup hp]
  exact ⟨bgs ns, rfl, k⟩
theorem len_count_pairs : ∀ ds M R, sp_count_pairs ds M R → ds.length = 1 := by rintro _ M R ⟨i, rfl, _⟩; rfl
theorem v_count_pairs : ∀ ds M R, sp_count_pairs ds M R → t_count_pairs (ends R) (dstart N_count_pairs ds) M := by
  rintro _ M R ⟨ns, rfl, h, k⟩
  simp only [t_count_pairs, dIfS_eq, dAnd_eq, dOr_eq, dIf_eq, dWhile_eq, dAndV_bl, dOrV_bl, dLc_eq, eName_eq, dSeq, dAsg, dVar, dC, dOp, dUn, dTest, dNot, dNotV, dChain, kII, kIC, kI, dCons, dNil, dTup, dLst, dNew, dFz, dFzS, dCB, dBM, dBM0, kLen, kInt_eq, asI_int, asI_bl, kSum, kIsi, kEq, kNe, kIsN, kNotN, kIx, kIxT, kInI, kAppend, kCountI, eNil, eCons, eTup, eSub, dDrop, dRet, dRetN, dNext, dNever, dBreak, dCont, dCallX, arr, Src.pick, dFor, iLst, iEnm, iZp, iRg1, iRg2, iEzp, dPart, dNoPart, dSl, dSlN, dLcN, dYes, kCat, kCatN, kRep, kRepN, dAug, dSrt, dPrs, dTrn, dIfS_eq, dwipe, asM, asL, asS, asW, tyD, kitB, dstart, scalD, eqD, isNonD, List.map_cons, List.map_nil, List.length_cons, List.length_nil, List.replicate, List.cons_append, List.nil_append, List.getElem?_cons_succ, List.getElem?_cons_zero, List.set_cons_zero, List.set_cons_succ, List.getD_cons_zero, List.getD_cons_succ, Nat.reduceAdd, Nat.reduceSub, Bool.not_true, Bool.not_false, ex_some, true_and, and_true, eq_self, List.append_nil, kAdd, kSub, kMod, kMul, kPow, kDiv, kLt, kLe, kGt, kGe, kNeg, aAdd, aSub]
  have hlen := h.len
  exact ⟨ns, rfl, h, ns, rfl, by omega, k⟩
theorem len_turn_sum : ∀ ds M R, sp_turn_sum ds M R → ds.length = 1 := by rintro _ M R ⟨i, rfl, _⟩; rfl
theorem v_turn_sum : ∀ ds M R, sp_turn_sum ds M R → t_turn_sum (ends R) (dstart N_turn_sum ds) M := by
  rintro _ M R ⟨ns, rfl, h, k⟩
  simp only [t_turn_sum, dIfS_eq, dAnd_eq, dOr_eq, dIf_eq, dWhile_eq, dAndV_bl, dOrV_bl, dLc_eq, eName_eq, dSeq, dAsg, dVar, dC, dOp, dUn, dTest, dNot, dNotV, dChain, kII, kIC, kI, dCons, dNil, dTup, dLst, dNew, dFz, dFzS, dCB, dBM, dBM0, kLen, kInt_eq, asI_int, asI_bl, kSum, kIsi, kEq, kNe, kIsN, kNotN, kIx, kIxT, kInI, kAppend, kCountI, eNil, eCons, eTup, eSub, dDrop, dRet, dRetN, dNext, dNever, dBreak, dCont, dCallX, arr, Src.pick, dFor, iLst, iEnm, iZp, iRg1, iRg2, iEzp, dPart, dNoPart, dSl, dSlN, dLcN, dYes, kCat, kCatN, kRep, kRepN, dAug, dSrt, dPrs, dTrn, dIfS_eq, dwipe, asM, asL, asS, asW, tyD, kitB, dstart, scalD, eqD, isNonD, List.map_cons, List.map_nil, List.length_cons, List.length_nil, List.replicate, List.cons_append, List.nil_append, List.getElem?_cons_succ, List.getElem?_cons_zero, List.set_cons_zero, List.set_cons_succ, List.getD_cons_zero, List.getD_cons_succ, Nat.reduceAdd, Nat.reduceSub, Bool.not_true, Bool.not_false, ex_some, true_and, and_true, eq_self, List.append_nil, kAdd, kSub, kMod, kMul, kPow, kDiv, kLt, kLe, kGt, kGe, kNeg, aAdd, aSub]
  have hlen := h.len
  exact ⟨ns, rfl, h, ns, rfl, by omega, k⟩

/-! ### bounces -/
def dnc : List Int → Nat
  | [] => 0
  | x :: r => (if x = 1 then 0 else 1) + dnc r
theorem dnc_snoc (v : Int) : ∀ l : List Int, dnc (l ++ [v]) = dnc l + if v = 1 then 0 else 1
  | [] => by simp [dnc]
  | x :: r => by
    show dnc (x :: (r ++ [v])) = _
    rw [dnc, dnc_snoc v r, dnc]; omega
theorem ahdF_snoc (v : Int) : ∀ (l : List Int) (d : Int), ahdF d (l ++ [v]) = ahdF d l ++ if v = 1 then [d + (dnc l : Nat)] else []
  | [], d => by
    show ahdF d [v] = _
    simp [ahdF, dnc]
  | x :: r, d => by
    show ahdF d (x :: (r ++ [v])) = _
    by_cases e : x = 1
    · rw [ahdF, if_pos e, ahdF_snoc v r d, ahdF, if_pos e, dnc, if_pos e, Nat.zero_add]; rfl
    · rw [ahdF, if_neg e, ahdF_snoc v r (d + 1), ahdF, if_neg e, dnc, if_neg e]
      congr 1
      split
      · congr 1; omega
      · rfl
theorem ahdF_len : ∀ (l : List Int) (d : Int), (ahdF d l).length + dnc l = l.length
  | [], _ => rfl
  | x :: r, d => by
    by_cases e : x = 1
    · rw [ahdF, if_pos e, dnc, if_pos e, List.length_cons, List.length_cons]; have := ahdF_len r d; omega
    · rw [ahdF, if_neg e, dnc, if_neg e, List.length_cons]; have := ahdF_len r (d + 1); omega
/-- in steps of 1 and -1 that keep above nought, no more steps down than up are ahead -/
theorem ahdF_le : ∀ (l : List Int) (d h : Int) (k : Nat) (a : Int), (∀ x ∈ l, x = 1 ∨ x = -1) → (∀ z ∈ htsF h l, 0 ≤ z) → 0 ≤ h → 0 ≤ d → (ahdF d l)[k]? = some a → 0 ≤ a ∧ a ≤ d + h + k
  | [], _, _, _, _, _, _, _, _, e => by simp [ahdF] at e
  | x :: r, d, h, k, a, hp, hu, h0, hd, e => by
    have hx := hp x (List.mem_cons_self ..)
    have hu' : ∀ z ∈ htsF (h + x) r, 0 ≤ z := fun z hz => hu z (List.mem_cons_of_mem _ hz)
    have hz : 0 ≤ h + x := hu _ (List.mem_cons_self ..)
    have hp' : ∀ y ∈ r, y = 1 ∨ y = -1 := fun y hy => hp y (List.mem_cons_of_mem _ hy)
    by_cases e1 : x = 1
    · rw [ahdF, if_pos e1] at e
      cases k with
      | zero =>
        have := Option.some.inj e
        subst this
        exact ⟨hd, by omega⟩
      | succ k =>
        have := ahdF_le r d (h + x) k a hp' hu' hz hd (by simpa using e)
        refine ⟨this.1, ?_⟩
        have := this.2
        rw [e1] at this
        omega
    · rw [ahdF, if_neg e1] at e
      have := ahdF_le r (d + 1) (h + x) k a hp' hu' hz (by omega) e
      refine ⟨this.1, ?_⟩
      have := this.2
      rcases hx with hx | hx
      · exact absurd hx e1
      · rw [hx] at this; omega
theorem ahd_le {ns : List Int} (H : Hill ns) {k : Nat} {a : Int} (e : (ahd ns)[k]? = some a) : 0 ≤ a ∧ a ≤ k := by
  have := ahdF_le ns 0 0 k a H.pm H.up (Int.le_refl _) (Int.le_refl _) e
  omega
theorem ahd_len (ns : List Int) : (ahd ns).length ≤ ns.length := by have e := ahdF_len ns 0; exact e ▸ Nat.le_add_right _ _
/-- the walk back, with what A holds -/
theorem bnc_step (A : List Int) (f : Nat) (now a : Int) (h0 : 0 < now) (ha : A[(now - 1).toNat]? = some a) : bncF A (f + 1) now = a :: bncF A f a := by
  rw [bncF, if_pos h0, List.getD_eq_getElem?_getD, ha]
  rfl
theorem bnc_end (A : List Int) (f : Nat) (now : Int) (h0 : ¬0 < now) : bncF A f now = [] := by
  cases f with
  | zero => rfl
  | succ f => rw [bncF, if_neg h0]
theorem len_bounces : ∀ ds M R, sp_bounces ds M R → ds.length = 1 := by rintro _ M R ⟨i, rfl, _⟩; rfl
theorem v_bounces : ∀ ds M R, sp_bounces ds M R → t_bounces (ends R) (dstart N_bounces ds) M := by
  rintro _ M R ⟨ns, rfl, h, k⟩
  have hlen := h.len
  simp only [t_bounces, dIfS_eq, dAnd_eq, dOr_eq, dIf_eq, dWhile_eq, dAndV_bl, dOrV_bl, dLc_eq, eName_eq, dSeq, dAsg, dVar, dC, dOp, dUn, dTest, dNot, dNotV, dChain, kII, kIC, kI, dCons, dNil, dTup, dLst, dNew, dFz, dFzS, dCB, dBM, dBM0, kLen, kInt_eq, asI_int, asI_bl, kSum, kIsi, kEq, kNe, kIsN, kNotN, kIx, kIxT, kInI, kAppend, kCountI, eNil, eCons, eTup, eSub, dDrop, dRet, dRetN, dNext, dNever, dBreak, dCont, dCallX, arr, Src.pick, dFor, iLst, iEnm, iZp, iRg1, iRg2, iEzp, dPart, dNoPart, dSl, dSlN, dLcN, dYes, kCat, kCatN, kRep, kRepN, dAug, dSrt, dPrs, dTrn, dIfS_eq, dwipe, asM, asL, asS, asW, tyD, kitB, dstart, scalD, eqD, isNonD, List.map_cons, List.map_nil, List.length_cons, List.length_nil, List.replicate, List.cons_append, List.nil_append, List.getElem?_cons_succ, List.getElem?_cons_zero, List.set_cons_zero, List.set_cons_succ, List.getD_cons_zero, List.getD_cons_succ, Nat.reduceAdd, Nat.reduceSub, Bool.not_true, Bool.not_false, ex_some, true_and, and_true, eq_self, List.append_nil, kAdd, kSub, kMod, kMul, kPow, kDiv, kLt, kLe, kGt, kGe, kNeg, aAdd, aSub]
  refine ⟨ns, rfl, h, Nat.zero_le _, fun p hp => ⟨fun i δ M' => ∃ x2 x3, δ = [some (dI ns), some (.ref p), x2, x3, none, none] ∧ M' = mup M p (.lst ((ahd (ns.take i)).map D.int)), ⟨_, _, rfl, rfl⟩, ?_, ?_⟩⟩
  · rintro i x δ M' hx ⟨x2, x3, rfl, rfl⟩
    obtain ⟨v, hv, rfl⟩ := enumI_get hx
    have hi := lt_of_get hv
    have ea : ahd (ns.take i ++ [v]) = ahd (ns.take i) ++ if v = 1 then [0 + ((dnc (ns.take i) : Nat) : Int)] else [] := ahdF_snoc v _ 0
    have el : (ahd (ns.take i)).length + dnc (ns.take i) = i := (ahdF_len (ns.take i) 0).trans (by rw [List.length_take]; omega)
    simp only [dIfS_eq, dAnd_eq, dOr_eq, dIf_eq, dWhile_eq, dAndV_bl, dOrV_bl, dLc_eq, eName_eq, dSeq, dAsg, dVar, dC, dOp, dUn, dTest, dNot, dNotV, dChain, kII, kIC, kI, dCons, dNil, dTup, dLst, dNew, dFz, dFzS, dCB, dBM, dBM0, kLen, kInt_eq, asI_int, asI_bl, kSum, kIsi, kEq, kNe, kIsN, kNotN, kIx, kIxT, kInI, kAppend, kCountI, eNil, eCons, eTup, eSub, dDrop, dRet, dRetN, dNext, dNever, dBreak, dCont, dCallX, arr, Src.pick, dFor, iLst, iEnm, iZp, iRg1, iRg2, iEzp, dPart, dNoPart, dSl, dSlN, dLcN, dYes, kCat, kCatN, kRep, kRepN, dAug, dSrt, dPrs, dTrn, dIfS_eq, dwipe, asM, asL, asS, asW, tyD, kitB, dstart, scalD, eqD, isNonD, List.map_cons, List.map_nil, List.length_cons, List.length_nil, List.replicate, List.cons_append, List.nil_append, List.getElem?_cons_succ, List.getElem?_cons_zero, List.set_cons_zero, List.set_cons_succ, List.getD_cons_zero, List.getD_cons_succ, Nat.reduceAdd, Nat.reduceSub, Bool.not_true, Bool.not_false, ex_some, true_and, and_true, eq_self, List.append_nil, kAdd, kSub, kMod, kMul, kPow, kDiv, kLt, kLe, kGt, kGe, kNeg, aAdd, aSub]
    rw [take_succ' hv, ea]
    refine ⟨fun h1 => ?_, fun h1 => ?_⟩
    · have e1 : v = 1 := by simpa using h1
      refine ⟨⟨_, mup_same⟩, _, mup_same, _, mup_same, ?_, _, _, rfl, ?_⟩
      · rw [List.length_map]; omega
      · rw [mup_mup, if_pos e1, List.length_map, List.map_append, show ((i : Int) - ((ahd (ns.take i)).length : Nat)) = 0 + ((dnc (ns.take i) : Nat) : Int) by omega]
        rfl
    · have e1 : ¬v = 1 := by simpa using h1
      exact ⟨_, _, rfl, by rw [if_neg e1, List.append_nil]⟩
  · rintro δ M' ⟨x2, x3, rfl, rfl⟩
    rw [enumD_len, List.length_map, List.take_length]
    simp only [dIfS_eq, dAnd_eq, dOr_eq, dIf_eq, dWhile_eq, dAndV_bl, dOrV_bl, dLc_eq, eName_eq, dSeq, dAsg, dVar, dC, dOp, dUn, dTest, dNot, dNotV, dChain, kII, kIC, kI, dCons, dNil, dTup, dLst, dNew, dFz, dFzS, dCB, dBM, dBM0, kLen, kInt_eq, asI_int, asI_bl, kSum, kIsi, kEq, kNe, kIsN, kNotN, kIx, kIxT, kInI, kAppend, kCountI, eNil, eCons, eTup, eSub, dDrop, dRet, dRetN, dNext, dNever, dBreak, dCont, dCallX, arr, Src.pick, dFor, iLst, iEnm, iZp, iRg1, iRg2, iEzp, dPart, dNoPart, dSl, dSlN, dLcN, dYes, kCat, kCatN, kRep, kRepN, dAug, dSrt, dPrs, dTrn, dIfS_eq, dwipe, asM, asL, asS, asW, tyD, kitB, dstart, scalD, eqD, isNonD, List.map_cons, List.map_nil, List.length_cons, List.length_nil, List.replicate, List.cons_append, List.nil_append, List.getElem?_cons_succ, List.getElem?_cons_zero, List.set_cons_zero, List.set_cons_succ, List.getD_cons_zero, List.getD_cons_succ, Nat.reduceAdd, Nat.reduceSub, Bool.not_true, Bool.not_false, ex_some, true_and, and_true, eq_self, List.append_nil, kAdd, kSub, kMod, kMul, kPow, kDiv, kLt, kLe, kGt, kGe, kNeg, aAdd, aSub]
    refine ⟨_, mup_same, Nat.zero_le _, fun q hq => ?_⟩
    rw [mdel_mup hp] at hq ⊢
    have hal := ahd_len ns
    refine ⟨fun m δ M' => ∃ (now : Int) (told : List Int), m = now.toNat ∧ δ = [some (dI ns), some (dI (ahd ns)), x2, x3, some (.ref q), some (.int now)] ∧ M' = mup M q (.lst (told.map D.int)) ∧ 0 ≤ now ∧ now ≤ (ahd ns).length ∧ told.length + now.toNat ≤ 400 ∧ told ++ bncF (ahd ns) (400 - told.length) now = bnc ns,
      ⟨_, ((ahd ns).length : Nat), [], rfl, by rw [List.length_map], rfl, by omega, by omega, by simp; omega, rfl⟩, ?_⟩
    rintro m δ M' ⟨now, told, rfl, rfl, rfl, h0, h1, h2, h3⟩
    simp only [dIfS_eq, dAnd_eq, dOr_eq, dIf_eq, dWhile_eq, dAndV_bl, dOrV_bl, dLc_eq, eName_eq, dSeq, dAsg, dVar, dC, dOp, dUn, dTest, dNot, dNotV, dChain, kII, kIC, kI, dCons, dNil, dTup, dLst, dNew, dFz, dFzS, dCB, dBM, dBM0, kLen, kInt_eq, asI_int, asI_bl, kSum, kIsi, kEq, kNe, kIsN, kNotN, kIx, kIxT, kInI, kAppend, kCountI, eNil, eCons, eTup, eSub, dDrop, dRet, dRetN, dNext, dNever, dBreak, dCont, dCallX, arr, Src.pick, dFor, iLst, iEnm, iZp, iRg1, iRg2, iEzp, dPart, dNoPart, dSl, dSlN, dLcN, dYes, kCat, kCatN, kRep, kRepN, dAug, dSrt, dPrs, dTrn, dIfS_eq, dwipe, asM, asL, asS, asW, tyD, kitB, dstart, scalD, eqD, isNonD, List.map_cons, List.map_nil, List.length_cons, List.length_nil, List.replicate, List.cons_append, List.nil_append, List.getElem?_cons_succ, List.getElem?_cons_zero, List.set_cons_zero, List.set_cons_succ, List.getD_cons_zero, List.getD_cons_succ, Nat.reduceAdd, Nat.reduceSub, Bool.not_true, Bool.not_false, ex_some, true_and, and_true, eq_self, List.append_nil, kAdd, kSub, kMod, kMul, kPow, kDiv, kLt, kLe, kGt, kGe, kNeg, aAdd, aSub]
    refine ⟨fun hc => ?_, fun hc => ?_⟩
    · have hc' : 0 < now := by simpa using hc
      have hk : (now - 1).toNat < (ahd ns).length := by omega
      obtain ⟨a, ha⟩ : ∃ a, (ahd ns)[(now - 1).toNat]? = some a := ⟨_, List.getElem?_eq_getElem hk⟩
      have hb := ahd_le h ha
      have hat : atI ((ahd ns).map D.int) (now - 1) = some (.int a) := by
        rw [show now - 1 = (((now - 1).toNat : Nat) : Int) by omega]
        refine atI_nat ?_
        rw [List.getElem?_map, ha]; rfl
      refine ⟨.int a, hat, ⟨_, mup_same⟩, _, mup_same, ?_, a.toNat, ?_, a, told ++ [a], rfl, rfl, ?_, ?_⟩
      · rw [List.length_map]; omega
      · omega
      · rw [mup_mup, List.map_append]; rfl
      · have ef : 400 - told.length = (400 - (told ++ [a]).length) + 1 := by rw [List.length_append, List.length_singleton]; omega
        rw [ef, bnc_step _ _ _ _ hc' ha] at h3
        refine ⟨hb.1, by omega, by rw [List.length_append, List.length_singleton]; omega, ?_⟩
        rw [← h3, List.append_assoc]; rfl
    · have hc' : ¬0 < now := by simpa using hc
      rw [bnc_end _ _ _ hc', List.append_nil] at h3
      subst h3
      exact k q hq

/-! ### draws -/
theorem len__law_draws : ∀ ds M R, sp__law_draws ds M R → ds.length = 1 := by rintro _ M R ⟨i, rfl, _⟩; rfl
theorem v__law_draws : ∀ ds M R, sp__law_draws ds M R → t__law_draws (ends R) (dstart N__law_draws ds) M := by
  rintro _ M R ⟨c, rfl, k⟩
  simp only [t__law_draws, dIfS_eq, dAnd_eq, dOr_eq, dIf_eq, dWhile_eq, dAndV_bl, dOrV_bl, dLc_eq, eName_eq, dSeq, dAsg, dVar, dC, dOp, dUn, dTest, dNot, dNotV, dChain, kII, kIC, kI, dCons, dNil, dTup, dLst, dNew, dFz, dFzS, dCB, dBM, dBM0, kLen, kInt_eq, asI_int, asI_bl, kSum, kIsi, kEq, kNe, kIsN, kNotN, kIx, kIxT, kInI, kAppend, kCountI, eNil, eCons, eTup, eSub, dDrop, dRet, dRetN, dNext, dNever, dBreak, dCont, dCallX, arr, Src.pick, dFor, iLst, iEnm, iZp, iRg1, iRg2, iEzp, dPart, dNoPart, dSl, dSlN, dLcN, dYes, kCat, kCatN, kRep, kRepN, dAug, dSrt, dPrs, dTrn, dIfS_eq, dwipe, asM, asL, asS, asW, tyD, kitB, dstart, scalD, eqD, isNonD, List.map_cons, List.map_nil, List.length_cons, List.length_nil, List.replicate, List.cons_append, List.nil_append, List.getElem?_cons_succ, List.getElem?_cons_zero, List.set_cons_zero, List.set_cons_succ, List.getD_cons_zero, List.getD_cons_succ, Nat.reduceAdd, Nat.reduceSub, Bool.not_true, Bool.not_false, ex_some, true_and, and_true, eq_self, List.append_nil, kAdd, kSub, kMod, kMul, kPow, kDiv, kLt, kLe, kGt, kGe, kNeg, aAdd, aSub]
  exact ⟨⟨by decide, by decide +kernel⟩, ⟨by decide, by decide +kernel⟩, ⟨by decide, by decide +kernel⟩, by decide +kernel, ⟨by decide, by decide +kernel⟩, by decide, fun p hp => k p _ _ hp⟩
theorem len__law_next : ∀ ds M R, sp__law_next ds M R → ds.length = 1 := by rintro _ M R ⟨i, _, _, _, rfl, _⟩; rfl
theorem v__law_next : ∀ ds M R, sp__law_next ds M R → t__law_next (ends R) (dstart N__law_next ds) M := by
  rintro _ M R ⟨p, a, k, b, rfl, hp, h0, h1, kk⟩
  unfold drw at hp
  simp only [t__law_next, dIfS_eq, dAnd_eq, dOr_eq, dIf_eq, dWhile_eq, dAndV_bl, dOrV_bl, dLc_eq, eName_eq, dSeq, dAsg, dVar, dC, dOp, dUn, dTest, dNot, dNotV, dChain, kII, kIC, kI, dCons, dNil, dTup, dLst, dNew, dFz, dFzS, dCB, dBM, dBM0, kLen, kInt_eq, asI_int, asI_bl, kSum, kIsi, kEq, kNe, kIsN, kNotN, kIx, kIxT, kInI, kAppend, kCountI, eNil, eCons, eTup, eSub, dDrop, dRet, dRetN, dNext, dNever, dBreak, dCont, dCallX, arr, Src.pick, dFor, iLst, iEnm, iZp, iRg1, iRg2, iEzp, dPart, dNoPart, dSl, dSlN, dLcN, dYes, kCat, kCatN, kRep, kRepN, dAug, dSrt, dPrs, dTrn, dIfS_eq, dwipe, asM, asL, asS, asW, tyD, kitB, dstart, scalD, eqD, isNonD, List.map_cons, List.map_nil, List.length_cons, List.length_nil, List.replicate, List.cons_append, List.nil_append, List.getElem?_cons_succ, List.getElem?_cons_zero, List.set_cons_zero, List.set_cons_succ, List.getD_cons_zero, List.getD_cons_succ, Nat.reduceAdd, Nat.reduceSub, Bool.not_true, Bool.not_false, ex_some, true_and, and_true, eq_self, List.append_nil, kAdd, kSub, kMod, kMul, kPow, kDiv, kLt, kLe, kGt, kGe, kNeg, aAdd, aSub, ex_lst, ex_some, ex_lst2, at3_0, at3_1, at3_2, at2_0, at2_1, at4_0, at4_1, at4_2, at4_3, ix3_0, ix3_1, ix3_2, mup_same, mup_mup, hp]
  refine ⟨fun _ => ⟨⟨by decide, by decide +kernel⟩, by decide, ⟨by decide, by decide +kernel⟩, ⟨by decide, by decide⟩, kk _ _ (Int.emod_nonneg _ (by decide))⟩, fun _ => ?_⟩
  refine ⟨by decide, .inl (.inl ⟨by omega, by omega⟩), .inl (.inr ⟨by decide, by decide⟩), .inl (.inr ⟨by decide, by decide⟩), by decide, .inl (.inl ⟨by omega, by omega⟩), by decide, .inl (.inl ⟨by omega, by omega⟩), by decide, ⟨by decide, by decide⟩, ?_⟩
  exact kk _ _ (Int.ediv_nonneg (Int.emod_nonneg _ (by decide)) (by decide))
theorem htsF_snoc (v : Int) : ∀ (l : List Int) (h : Int), htsF h (l ++ [v]) = htsF h l ++ [h + l.sum + v]
  | [], h => by
    show htsF h [v] = _
    simp [htsF]
  | x :: r, h => by
    show htsF h (x :: (r ++ [v])) = _
    rw [htsF, htsF_snoc v r (h + x), htsF, List.sum_cons, show h + x + r.sum = h + (x + r.sum) by omega]
    rfl
/-- a hill under way: ups steps up are due -/
structure Part (ups : Int) (t : Nat) (ns : List Int) : Prop where
  len : ns.length = t
  pm : ∀ x ∈ ns, x = 1 ∨ x = -1
  up : ∀ h ∈ hts ns, 0 ≤ h
  few : ((ns.count 1 : Nat) : Int) ≤ ups
  two : 2 * ((ns.count 1 : Nat) : Int) = t + ns.sum
theorem Part.sum0 {ups : Int} {t : Nat} {ns : List Int} (h : Part ups t ns) : 0 ≤ ns.sum := by
  cases ns with
  | nil => simp
  | cons x r =>
    refine h.up _ ?_
    have := htsF_get (x :: r) 0 r.length (by simp)
    rw [show (x :: r).take (r.length + 1) = x :: r from List.take_of_length_le (by simp), Int.zero_add] at this
    exact List.mem_of_getElem? this
theorem Part.up1 {ups : Int} {t : Nat} {ns : List Int} (h : Part ups t ns) (hf : ((ns.count 1 : Nat) : Int) < ups) : Part ups (t + 1) (ns ++ [1]) := by
  have hs := h.sum0
  refine ⟨by rw [List.length_append, h.len]; rfl, fun x hx => ?_, fun z hz => ?_, ?_, ?_⟩
  · rcases List.mem_append.mp hx with hx | hx
    · exact h.pm x hx
    · exact .inl (List.mem_singleton.mp hx)
  · rw [show hts (ns ++ [1]) = _ from htsF_snoc 1 ns 0] at hz
    rcases List.mem_append.mp hz with hz | hz
    · exact h.up z hz
    · rw [List.mem_singleton.mp hz]; omega
  · rw [List.count_append]; simp; omega
  · rw [List.count_append, List.sum_append]; have := h.two; simp; omega
theorem Part.down {ups : Int} {t : Nat} {ns : List Int} (h : Part ups t ns) (hf : 0 < ns.sum) : Part ups (t + 1) (ns ++ [-1]) := by
  refine ⟨by rw [List.length_append, h.len]; rfl, fun x hx => ?_, fun z hz => ?_, ?_, ?_⟩
  · rcases List.mem_append.mp hx with hx | hx
    · exact h.pm x hx
    · exact .inr (List.mem_singleton.mp hx)
  · rw [show hts (ns ++ [-1]) = _ from htsF_snoc (-1) ns 0] at hz
    rcases List.mem_append.mp hz with hz | hz
    · exact h.up z hz
    · rw [List.mem_singleton.mp hz]; omega
  · rw [List.count_append]; have := h.few; simp; omega
  · rw [List.count_append, List.sum_append]; have := h.two; simp; omega
theorem Part.hill {ups : Int} {t : Nat} {ns : List Int} (h : Part ups t ns) (ht : (t : Int) = 2 * ups) (hu : ups ≤ 150) : Hill ns := by
  have h1 := h.sum0
  have h2 := h.two
  have h3 := h.few
  have h4 := h.len
  exact ⟨by omega, h.pm, h.up, by omega⟩
theorem part_nil {ups : Int} (h : 0 ≤ ups) : Part ups 0 [] := ⟨rfl, fun x hx => by simp at hx, fun x hx => by simp [htsF] at hx, by simpa using h, by simp⟩
theorem len__law_drawn : ∀ ds M R, sp__law_drawn ds M R → ds.length = 2 := by rintro _ M R ⟨p, a, k, b, most, rfl, _⟩; rfl
theorem v__law_drawn : ∀ ds M R, sp__law_drawn ds M R → t__law_drawn (ends R) (dstart N__law_drawn ds) M := by
  rintro _ M R ⟨p, a, k, b, most, rfl, hp, h0, h1, h2, h3, kk⟩
  simp only [t__law_drawn, dIfS_eq, dAnd_eq, dOr_eq, dIf_eq, dWhile_eq, dAndV_bl, dOrV_bl, dLc_eq, eName_eq, dSeq, dAsg, dVar, dC, dOp, dUn, dTest, dNot, dNotV, dChain, kII, kIC, kI, dCons, dNil, dTup, dLst, dNew, dFz, dFzS, dCB, dBM, dBM0, kLen, kInt_eq, asI_int, asI_bl, kSum, kIsi, kEq, kNe, kIsN, kNotN, kIx, kIxT, kInI, kAppend, kCountI, eNil, eCons, eTup, eSub, dDrop, dRet, dRetN, dNext, dNever, dBreak, dCont, dCallX, arr, Src.pick, dFor, iLst, iEnm, iZp, iRg1, iRg2, iEzp, dPart, dNoPart, dSl, dSlN, dLcN, dYes, kCat, kCatN, kRep, kRepN, dAug, dSrt, dPrs, dTrn, dIfS_eq, dwipe, asM, asL, asS, asW, tyD, kitB, dstart, scalD, eqD, isNonD, List.map_cons, List.map_nil, List.length_cons, List.length_nil, List.replicate, List.cons_append, List.nil_append, List.getElem?_cons_succ, List.getElem?_cons_zero, List.set_cons_zero, List.set_cons_succ, List.getD_cons_zero, List.getD_cons_succ, Nat.reduceAdd, Nat.reduceSub, Bool.not_true, Bool.not_false, ex_some, true_and, and_true, eq_self, List.append_nil, kAdd, kSub, kMod, kMul, kPow, kDiv, kLt, kLe, kGt, kGe, kNeg, aAdd, aSub, ex_lst, ex_some, ex_lst2, at3_0, at3_1, at3_2, at2_0, at2_1, at4_0, at4_1, at4_2, at4_3, ix3_0, ix3_1, ix3_2, mup_same, mup_mup]
  refine ⟨p, a, k, b, rfl, hp, h0, by omega, fun n a1 hn => ?_⟩
  simp only [dIfS_eq, dAnd_eq, dOr_eq, dIf_eq, dWhile_eq, dAndV_bl, dOrV_bl, dLc_eq, eName_eq, dSeq, dAsg, dVar, dC, dOp, dUn, dTest, dNot, dNotV, dChain, kII, kIC, kI, dCons, dNil, dTup, dLst, dNew, dFz, dFzS, dCB, dBM, dBM0, kLen, kInt_eq, asI_int, asI_bl, kSum, kIsi, kEq, kNe, kIsN, kNotN, kIx, kIxT, kInI, kAppend, kCountI, eNil, eCons, eTup, eSub, dDrop, dRet, dRetN, dNext, dNever, dBreak, dCont, dCallX, arr, Src.pick, dFor, iLst, iEnm, iZp, iRg1, iRg2, iEzp, dPart, dNoPart, dSl, dSlN, dLcN, dYes, kCat, kCatN, kRep, kRepN, dAug, dSrt, dPrs, dTrn, dIfS_eq, dwipe, asM, asL, asS, asW, tyD, kitB, dstart, scalD, eqD, isNonD, List.map_cons, List.map_nil, List.length_cons, List.length_nil, List.replicate, List.cons_append, List.nil_append, List.getElem?_cons_succ, List.getElem?_cons_zero, List.set_cons_zero, List.set_cons_succ, List.getD_cons_zero, List.getD_cons_succ, Nat.reduceAdd, Nat.reduceSub, Bool.not_true, Bool.not_false, ex_some, true_and, and_true, eq_self, List.append_nil, kAdd, kSub, kMod, kMul, kPow, kDiv, kLt, kLe, kGt, kGe, kNeg, aAdd, aSub, ex_lst, ex_some, ex_lst2, at3_0, at3_1, at3_2, at2_0, at2_1, at4_0, at4_1, at4_2, at4_3, ix3_0, ix3_1, ix3_2, mup_same, mup_mup]
  refine ⟨by omega, p, a1, k + 1, b, rfl, mup_same, by omega, by omega, fun n2 a2 hn2 => ?_⟩
  simp only [dIfS_eq, dAnd_eq, dOr_eq, dIf_eq, dWhile_eq, dAndV_bl, dOrV_bl, dLc_eq, eName_eq, dSeq, dAsg, dVar, dC, dOp, dUn, dTest, dNot, dNotV, dChain, kII, kIC, kI, dCons, dNil, dTup, dLst, dNew, dFz, dFzS, dCB, dBM, dBM0, kLen, kInt_eq, asI_int, asI_bl, kSum, kIsi, kEq, kNe, kIsN, kNotN, kIx, kIxT, kInI, kAppend, kCountI, eNil, eCons, eTup, eSub, dDrop, dRet, dRetN, dNext, dNever, dBreak, dCont, dCallX, arr, Src.pick, dFor, iLst, iEnm, iZp, iRg1, iRg2, iEzp, dPart, dNoPart, dSl, dSlN, dLcN, dYes, kCat, kCatN, kRep, kRepN, dAug, dSrt, dPrs, dTrn, dIfS_eq, dwipe, asM, asL, asS, asW, tyD, kitB, dstart, scalD, eqD, isNonD, List.map_cons, List.map_nil, List.length_cons, List.length_nil, List.replicate, List.cons_append, List.nil_append, List.getElem?_cons_succ, List.getElem?_cons_zero, List.set_cons_zero, List.set_cons_succ, List.getD_cons_zero, List.getD_cons_succ, Nat.reduceAdd, Nat.reduceSub, Bool.not_true, Bool.not_false, ex_some, true_and, and_true, eq_self, List.append_nil, kAdd, kSub, kMod, kMul, kPow, kDiv, kLt, kLe, kGt, kGe, kNeg, aAdd, aSub, ex_lst, ex_some, ex_lst2, at3_0, at3_1, at3_2, at2_0, at2_1, at4_0, at4_1, at4_2, at4_3, ix3_0, ix3_1, ix3_2, mup_same, mup_mup]
  generalize hU : n % (most + 1) = ups
  generalize hK : n2 % 4 = kind
  have u0 : 0 ≤ ups := by rw [← hU]; exact Int.emod_nonneg _ (by omega)
  have u1 : ups ≤ 150 := by have := Int.emod_lt_of_pos n (show 0 < most + 1 by omega); omega
  have k0 : 0 ≤ kind := by omega
  have k4 : kind < 4 := by omega
  refine ⟨by decide, by omega, fun q hq => ⟨.inl (.inr ⟨by omega, by omega⟩), ⟨by omega, by omega⟩, ?_⟩⟩
  have npq : p ≠ q := fun z => by subst z; rw [mup_same] at hq; cases hq
  have hqM : M q = none := by rw [← hq, mup_ne npq.symm]
  refine ⟨fun i δ M' => ∃ a' k' ns x6 x7 x8, δ = [some (.ref p), some (.int most), some (.int ups), some (.int kind), some (.ref q), some (.int ns.sum), x6, x7, x8] ∧ M' = mup (mup M p (drw a' k' b)) q (.lst (ns.map D.int)) ∧ 0 ≤ k' ∧ k' ≤ k + 2 + i ∧ Part ups i ns,
    ⟨a2, k + 1 + 1, [], _, _, _, rfl, rfl, by omega, by omega, part_nil u0⟩, ?_, ?_⟩
  · rintro i x δ M' hx ⟨a', k', ns, x6, x7, x8, rfl, rfl, hk0, hk1, hP⟩
    obtain ⟨hi, rfl⟩ := rangeD_get hx
    simp only [dIfS_eq, dAnd_eq, dOr_eq, dIf_eq, dWhile_eq, dAndV_bl, dOrV_bl, dLc_eq, eName_eq, dSeq, dAsg, dVar, dC, dOp, dUn, dTest, dNot, dNotV, dChain, kII, kIC, kI, dCons, dNil, dTup, dLst, dNew, dFz, dFzS, dCB, dBM, dBM0, kLen, kInt_eq, asI_int, asI_bl, kSum, kIsi, kEq, kNe, kIsN, kNotN, kIx, kIxT, kInI, kAppend, kCountI, eNil, eCons, eTup, eSub, dDrop, dRet, dRetN, dNext, dNever, dBreak, dCont, dCallX, arr, Src.pick, dFor, iLst, iEnm, iZp, iRg1, iRg2, iEzp, dPart, dNoPart, dSl, dSlN, dLcN, dYes, kCat, kCatN, kRep, kRepN, dAug, dSrt, dPrs, dTrn, dIfS_eq, dwipe, asM, asL, asS, asW, tyD, kitB, dstart, scalD, eqD, isNonD, List.map_cons, List.map_nil, List.length_cons, List.length_nil, List.replicate, List.cons_append, List.nil_append, List.getElem?_cons_succ, List.getElem?_cons_zero, List.set_cons_zero, List.set_cons_succ, List.getD_cons_zero, List.getD_cons_succ, Nat.reduceAdd, Nat.reduceSub, Bool.not_true, Bool.not_false, ex_some, true_and, and_true, eq_self, List.append_nil, kAdd, kSub, kMod, kMul, kPow, kDiv, kLt, kLe, kGt, kGe, kNeg, aAdd, aSub, ex_lst, ex_some, ex_lst2, at3_0, at3_1, at3_2, at2_0, at2_1, at4_0, at4_1, at4_2, at4_3, ix3_0, ix3_1, ix3_2, mup_same, mup_mup]
    refine ⟨p, a', k', b, rfl, by rw [mup_ne npq]; exact mup_same, hk0, by omega, fun n3 a3 hn3 => ?_⟩
    rw [mup_pq npq]
    simp only [dIfS_eq, dAnd_eq, dOr_eq, dIf_eq, dWhile_eq, dAndV_bl, dOrV_bl, dLc_eq, eName_eq, dSeq, dAsg, dVar, dC, dOp, dUn, dTest, dNot, dNotV, dChain, kII, kIC, kI, dCons, dNil, dTup, dLst, dNew, dFz, dFzS, dCB, dBM, dBM0, kLen, kInt_eq, asI_int, asI_bl, kSum, kIsi, kEq, kNe, kIsN, kNotN, kIx, kIxT, kInI, kAppend, kCountI, eNil, eCons, eTup, eSub, dDrop, dRet, dRetN, dNext, dNever, dBreak, dCont, dCallX, arr, Src.pick, dFor, iLst, iEnm, iZp, iRg1, iRg2, iEzp, dPart, dNoPart, dSl, dSlN, dLcN, dYes, kCat, kCatN, kRep, kRepN, dAug, dSrt, dPrs, dTrn, dIfS_eq, dwipe, asM, asL, asS, asW, tyD, kitB, dstart, scalD, eqD, isNonD, List.map_cons, List.map_nil, List.length_cons, List.length_nil, List.replicate, List.cons_append, List.nil_append, List.getElem?_cons_succ, List.getElem?_cons_zero, List.set_cons_zero, List.set_cons_succ, List.getD_cons_zero, List.getD_cons_succ, Nat.reduceAdd, Nat.reduceSub, Bool.not_true, Bool.not_false, ex_some, true_and, and_true, eq_self, List.append_nil, kAdd, kSub, kMod, kMul, kPow, kDiv, kLt, kLe, kGt, kGe, kNeg, aAdd, aSub, ex_lst, ex_some, ex_lst2, at3_0, at3_1, at3_2, at2_0, at2_1, at4_0, at4_1, at4_2, at4_3, ix3_0, ix3_1, ix3_2, mup_same, mup_mup]
    have hi2 : (i : Int) < 2 * ups := by omega
    have hln := hP.len
    have UP : ∀ v7 v8 : D, ((ns.count 1 : Nat) : Int) < ups → (∃ xs, some (MO.lst (ns.map D.int)) = some (MO.lst xs)) ∧ (ns.map D.int).length < 16777216 ∧ ∃ a' k'_1 ns_1 x6 x7 x8,
        [some (D.ref p), some (D.int most), some (D.int ups), some (D.int kind), some (D.ref q), some (D.int (ns.sum + 1)), some (D.int (0 + (i : Int))), some v7, some v8] = [some (D.ref p), some (D.int most), some (D.int ups), some (D.int kind), some (D.ref q), some (D.int (List.sum ns_1)), x6, x7, x8] ∧
        mup (mup M p (drw a3 (k' + 1) b)) q (MO.lst (ns.map D.int ++ [D.int 1])) = mup (mup M p (drw a' k'_1 b)) q (MO.lst (List.map D.int ns_1)) ∧ 0 ≤ k'_1 ∧ k'_1 ≤ k + 2 + ((i + 1 : Nat) : Int) ∧ Part ups (i + 1) ns_1 := fun v7 v8 hc =>
      ⟨⟨_, rfl⟩, by rw [List.length_map]; omega, a3, k' + 1, ns ++ [1], some (.int (0 + (i : Int))), some v7, some v8, by rw [List.sum_append]; simp, by rw [List.map_append]; rfl, by omega, by omega, hP.up1 hc⟩
    have DN : ∀ v7 v8 : D, 0 < ns.sum → (∃ xs, some (MO.lst (ns.map D.int)) = some (MO.lst xs)) ∧ (ns.map D.int).length < 16777216 ∧ ∃ a' k'_1 ns_1 x6 x7 x8,
        [some (D.ref p), some (D.int most), some (D.int ups), some (D.int kind), some (D.ref q), some (D.int (ns.sum - 1)), some (D.int (0 + (i : Int))), some v7, some v8] = [some (D.ref p), some (D.int most), some (D.int ups), some (D.int kind), some (D.ref q), some (D.int (List.sum ns_1)), x6, x7, x8] ∧
        mup (mup M p (drw a3 (k' + 1) b)) q (MO.lst (ns.map D.int ++ [D.int (-1)])) = mup (mup M p (drw a' k'_1 b)) q (MO.lst (List.map D.int ns_1)) ∧ 0 ≤ k'_1 ∧ k'_1 ≤ k + 2 + ((i + 1 : Nat) : Int) ∧ Part ups (i + 1) ns_1 := fun v7 v8 hc =>
      ⟨⟨_, rfl⟩, by rw [List.length_map]; omega, a3, k' + 1, ns ++ [-1], some (.int (0 + (i : Int))), some v7, some v8, by rw [List.sum_append]; simp; omega, by rw [List.map_append]; rfl, by omega, by omega, hP.down hc⟩
    obtain ⟨v, hv, hv0⟩ : ∃ v : Int, atI [D.int 2, D.int 3, D.int 5, D.int 2] kind = some (.int v) ∧ 0 < v := by
      have : kind = 0 ∨ kind = 1 ∨ kind = 2 ∨ kind = 3 := by omega
      rcases this with e | e | e | e <;> rw [e]
      · exact ⟨2, rfl, by decide⟩
      · exact ⟨3, rfl, by decide⟩
      · exact ⟨5, rfl, by decide⟩
      · exact ⟨2, rfl, by decide⟩
    have h00 := hP.sum0
    have h2' := hP.two
    refine ⟨by decide, .int v, hv, ?_⟩
    simp only [dIfS_eq, dAnd_eq, dOr_eq, dIf_eq, dWhile_eq, dAndV_bl, dOrV_bl, dLc_eq, eName_eq, dSeq, dAsg, dVar, dC, dOp, dUn, dTest, dNot, dNotV, dChain, kII, kIC, kI, dCons, dNil, dTup, dLst, dNew, dFz, dFzS, dCB, dBM, dBM0, kLen, kInt_eq, asI_int, asI_bl, kSum, kIsi, kEq, kNe, kIsN, kNotN, kIx, kIxT, kInI, kAppend, kCountI, eNil, eCons, eTup, eSub, dDrop, dRet, dRetN, dNext, dNever, dBreak, dCont, dCallX, arr, Src.pick, dFor, iLst, iEnm, iZp, iRg1, iRg2, iEzp, dPart, dNoPart, dSl, dSlN, dLcN, dYes, kCat, kCatN, kRep, kRepN, dAug, dSrt, dPrs, dTrn, dIfS_eq, dwipe, asM, asL, asS, asW, tyD, kitB, dstart, scalD, eqD, isNonD, List.map_cons, List.map_nil, List.length_cons, List.length_nil, List.replicate, List.cons_append, List.nil_append, List.getElem?_cons_succ, List.getElem?_cons_zero, List.set_cons_zero, List.set_cons_succ, List.getD_cons_zero, List.getD_cons_succ, Nat.reduceAdd, Nat.reduceSub, Bool.not_true, Bool.not_false, ex_some, true_and, and_true, eq_self, List.append_nil, kAdd, kSub, kMod, kMul, kPow, kDiv, kLt, kLe, kGt, kGe, kNeg, aAdd, aSub, ex_lst, ex_some, ex_lst2, at3_0, at3_1, at3_2, at2_0, at2_1, at4_0, at4_1, at4_2, at4_3, ix3_0, ix3_1, ix3_2, mup_same, mup_mup]
    have z1 : decide (ns.sum = 0) = true → ((ns.count 1 : Nat) : Int) < ups := fun hz => by
      have : ns.sum = 0 := by simpa using hz
      omega
    have z2 : decide (ns.sum = 0) = false → 0 < ns.sum := fun hz => by
      have : ¬ns.sum = 0 := by simpa using hz
      omega
    refine ⟨hv0, fun _ => ⟨fun hz => ⟨fun _ => UP _ _ (z1 hz), fun h => (nomatch h)⟩, fun hz => ⟨⟨_, rfl⟩, ns, rfl, fun hc => ⟨fun _ => UP _ _ (by simpa using hc), fun _ => DN _ _ (z2 hz)⟩, fun hc => ⟨fun h => (nomatch h), fun _ => DN _ _ (z2 hz)⟩⟩⟩, fun _ => ⟨⟨by decide, by decide⟩, by decide, ?_⟩⟩
    exact ⟨fun hz => ⟨fun _ => UP _ _ (z1 hz), fun h => (nomatch h)⟩, fun hz => ⟨⟨_, rfl⟩, ns, rfl, fun hc => ⟨fun _ => UP _ _ (by simpa using hc), fun _ => DN _ _ (z2 hz)⟩, fun hc => ⟨fun h => (nomatch h), fun _ => DN _ _ (z2 hz)⟩⟩⟩
  · rintro δ M' ⟨a', k', ns, x6, x7, x8, rfl, rfl, hk0, hk1, hP⟩
    rw [rangeD_len] at hk1 hP
    simp only [dIfS_eq, dAnd_eq, dOr_eq, dIf_eq, dWhile_eq, dAndV_bl, dOrV_bl, dLc_eq, eName_eq, dSeq, dAsg, dVar, dC, dOp, dUn, dTest, dNot, dNotV, dChain, kII, kIC, kI, dCons, dNil, dTup, dLst, dNew, dFz, dFzS, dCB, dBM, dBM0, kLen, kInt_eq, asI_int, asI_bl, kSum, kIsi, kEq, kNe, kIsN, kNotN, kIx, kIxT, kInI, kAppend, kCountI, eNil, eCons, eTup, eSub, dDrop, dRet, dRetN, dNext, dNever, dBreak, dCont, dCallX, arr, Src.pick, dFor, iLst, iEnm, iZp, iRg1, iRg2, iEzp, dPart, dNoPart, dSl, dSlN, dLcN, dYes, kCat, kCatN, kRep, kRepN, dAug, dSrt, dPrs, dTrn, dIfS_eq, dwipe, asM, asL, asS, asW, tyD, kitB, dstart, scalD, eqD, isNonD, List.map_cons, List.map_nil, List.length_cons, List.length_nil, List.replicate, List.cons_append, List.nil_append, List.getElem?_cons_succ, List.getElem?_cons_zero, List.set_cons_zero, List.set_cons_succ, List.getD_cons_zero, List.getD_cons_succ, Nat.reduceAdd, Nat.reduceSub, Bool.not_true, Bool.not_false, ex_some, true_and, and_true, eq_self, List.append_nil, kAdd, kSub, kMod, kMul, kPow, kDiv, kLt, kLe, kGt, kGe, kNeg, aAdd, aSub, ex_lst, ex_some, ex_lst2, at3_0, at3_1, at3_2, at2_0, at2_1, at4_0, at4_1, at4_2, at4_3, ix3_0, ix3_1, ix3_2, mup_same, mup_mup]
    exact kk q a' k' ns hqM hk0 (by omega) (hP.hill (by omega) u1)

/-! ### the law's own ways to count -/
theorem count_get {ns : List Int} : intsD (ns.map D.int) = fun k => k ns := by
  funext k
  apply propext
  constructor
  · rintro ⟨ms, e, h⟩
    have : ns = ms := by
      have := congrArg (List.map fun d => match d with | D.int i => i | _ => 0) e
      simpa [List.map_map, Function.comp_def] using this
    rw [this]; exact h
  · intro h; exact ⟨ns, rfl, h⟩
def rowT (r : List Int) : D := .tup [dI r, .int r.sum]
theorem mapR_get {rows : List (List Int)} {i : Nat} {x : D} (h : (rows.map rowT)[i]? = some x) : ∃ r, rows[i]? = some r ∧ x = rowT r := by
  rw [List.getElem?_map] at h
  cases e : rows[i]? with
  | none => rw [e] at h; cases h
  | some v => rw [e] at h; cases h; exact ⟨v, rfl, rfl⟩
theorem rowT_snoc (acc : List (List Int)) (r : List Int) (v : Int) : List.map rowT (acc ++ [r ++ [v]]) = List.map rowT acc ++ [.tup [.lst (r.map D.int ++ [.int v]), .int (r.sum + v)]] := by
  rw [List.map_append, List.map_singleton]
  show _ ++ [D.tup [D.lst ((r ++ [v]).map D.int), .int (r ++ [v]).sum]] = _
  rw [List.map_append, List.sum_append, List.sum_singleton]
  rfl
theorem pow_two_le : ∀ {i : Nat}, i ≤ 10 → 2 ^ i ≤ 1024 := fun {i} h => by
  have : 2 ^ i ≤ 2 ^ 10 := Nat.pow_le_pow_right (by decide) h
  omega
theorem len__law_all : ∀ ds M R, sp__law_all ds M R → ds.length = 1 := by rintro _ M R ⟨u, rfl, _⟩; rfl
theorem v__law_all : ∀ ds M R, sp__law_all ds M R → t__law_all (ends R) (dstart N__law_all ds) M := by
  rintro _ M R ⟨ups, rfl, h0, h1, kk⟩
  simp only [t__law_all, dIfS_eq, dAnd_eq, dOr_eq, dIf_eq, dWhile_eq, dAndV_bl, dOrV_bl, dLc_eq, eName_eq, dSeq, dAsg, dVar, dC, dOp, dUn, dTest, dNot, dNotV, dChain, kII, kIC, kI, dCons, dNil, dTup, dLst, dNew, dFz, dFzS, dCB, dBM, dBM0, kLen, kInt_eq, asI_int, asI_bl, kSum, kIsi, kEq, kNe, kIsN, kNotN, kIx, kIxT, kInI, kAppend, kCountI, eNil, eCons, eTup, eSub, dDrop, dRet, dRetN, dNext, dNever, dBreak, dCont, dCallX, arr, Src.pick, dFor, iLst, iEnm, iZp, iRg1, iRg2, iEzp, dPart, dNoPart, dSl, dSlN, dLcN, dYes, kCat, kCatN, kRep, kRepN, dAug, dSrt, dPrs, dTrn, dIfS_eq, dwipe, asM, asL, asS, asW, tyD, kitB, dstart, scalD, eqD, isNonD, List.map_cons, List.map_nil, List.length_cons, List.length_nil, List.replicate, List.cons_append, List.nil_append, List.getElem?_cons_succ, List.getElem?_cons_zero, List.set_cons_zero, List.set_cons_succ, List.getD_cons_zero, List.getD_cons_succ, Nat.reduceAdd, Nat.reduceSub, Bool.not_true, Bool.not_false, ex_some, true_and, and_true, eq_self, List.append_nil, kAdd, kSub, kMod, kMul, kPow, kDiv, kLt, kLe, kGt, kGe, kNeg, aAdd, aSub, ex_lst, ex_some, ex_lst2, at3_0, at3_1, at3_2, at2_0, at2_1, at4_0, at4_1, at4_2, at4_3, ix3_0, ix3_1, ix3_2, mup_same, mup_mup]
  refine ⟨by decide, by decide, by decide, .inl (.inl ⟨by decide, by decide⟩), ⟨by omega, by omega⟩, fun i δ M' => ∃ rows x2 x3 x4 x5, δ = [some (.int ups), some (.lst (List.map rowT rows)), x2, x3, x4, x5] ∧ M' = M ∧ (∀ r ∈ rows, Part ups i r) ∧ rows.length ≤ 2 ^ i,
    ⟨[[]], _, _, _, _, rfl, rfl, fun r hr => by rw [List.mem_singleton.mp hr]; exact part_nil h0, by decide⟩, ?_, ?_⟩
  · rintro i x δ M' hx ⟨rows, x2, x3, x4, x5, rfl, rfl, hr, hl⟩
    obtain ⟨hi, rfl⟩ := rangeD_get hx
    have h1024 := pow_two_le (i := i) (by omega)
    simp only [dIfS_eq, dAnd_eq, dOr_eq, dIf_eq, dWhile_eq, dAndV_bl, dOrV_bl, dLc_eq, eName_eq, dSeq, dAsg, dVar, dC, dOp, dUn, dTest, dNot, dNotV, dChain, kII, kIC, kI, dCons, dNil, dTup, dLst, dNew, dFz, dFzS, dCB, dBM, dBM0, kLen, kInt_eq, asI_int, asI_bl, kSum, kIsi, kEq, kNe, kIsN, kNotN, kIx, kIxT, kInI, kAppend, kCountI, eNil, eCons, eTup, eSub, dDrop, dRet, dRetN, dNext, dNever, dBreak, dCont, dCallX, arr, Src.pick, dFor, iLst, iEnm, iZp, iRg1, iRg2, iEzp, dPart, dNoPart, dSl, dSlN, dLcN, dYes, kCat, kCatN, kRep, kRepN, dAug, dSrt, dPrs, dTrn, dIfS_eq, dwipe, asM, asL, asS, asW, tyD, kitB, dstart, scalD, eqD, isNonD, List.map_cons, List.map_nil, List.length_cons, List.length_nil, List.replicate, List.cons_append, List.nil_append, List.getElem?_cons_succ, List.getElem?_cons_zero, List.set_cons_zero, List.set_cons_succ, List.getD_cons_zero, List.getD_cons_succ, Nat.reduceAdd, Nat.reduceSub, Bool.not_true, Bool.not_false, ex_some, true_and, and_true, eq_self, List.append_nil, kAdd, kSub, kMod, kMul, kPow, kDiv, kLt, kLe, kGt, kGe, kNeg, aAdd, aSub, ex_lst, ex_some, ex_lst2, at3_0, at3_1, at3_2, at2_0, at2_1, at4_0, at4_1, at4_2, at4_3, ix3_0, ix3_1, ix3_2, mup_same, mup_mup]
    refine ⟨by decide, fun p hp => ⟨fun j δ M2 => ∃ acc x4 x5, δ = [some (.int ups), some (.lst (List.map rowT rows)), some (.int (0 + (i : Int))), some (.ref p), x4, x5] ∧ M2 = mup M' p (.lst (List.map rowT acc)) ∧ (∀ r ∈ acc, Part ups (i + 1) r) ∧ acc.length ≤ 2 * j, ⟨[], _, _, rfl, rfl, fun r hr => by simp at hr, by simp⟩, ?_, ?_⟩⟩
    · rintro j y δ M2 hy ⟨acc, x4, x5, rfl, rfl, ha, hal⟩
      obtain ⟨r, hr', rfl⟩ := mapR_get hy
      have hj := lt_of_get hr'
      have hP := hr r (List.mem_of_getElem? hr')
      have hrl := hP.len
      have z0 := hP.sum0
      have z2 := hP.two
      simp only [rowT, dIfS_eq, dAnd_eq, dOr_eq, dIf_eq, dWhile_eq, dAndV_bl, dOrV_bl, dLc_eq, eName_eq, dSeq, dAsg, dVar, dC, dOp, dUn, dTest, dNot, dNotV, dChain, kII, kIC, kI, dCons, dNil, dTup, dLst, dNew, dFz, dFzS, dCB, dBM, dBM0, kLen, kInt_eq, asI_int, asI_bl, kSum, kIsi, kEq, kNe, kIsN, kNotN, kIx, kIxT, kInI, kAppend, kCountI, eNil, eCons, eTup, eSub, dDrop, dRet, dRetN, dNext, dNever, dBreak, dCont, dCallX, arr, Src.pick, dFor, iLst, iEnm, iZp, iRg1, iRg2, iEzp, dPart, dNoPart, dSl, dSlN, dLcN, dYes, kCat, kCatN, kRep, kRepN, dAug, dSrt, dPrs, dTrn, dIfS_eq, dwipe, asM, asL, asS, asW, tyD, kitB, dstart, scalD, eqD, isNonD, List.map_cons, List.map_nil, List.length_cons, List.length_nil, List.replicate, List.cons_append, List.nil_append, List.getElem?_cons_succ, List.getElem?_cons_zero, List.set_cons_zero, List.set_cons_succ, List.getD_cons_zero, List.getD_cons_succ, Nat.reduceAdd, Nat.reduceSub, Bool.not_true, Bool.not_false, ex_some, true_and, and_true, eq_self, List.append_nil, kAdd, kSub, kMod, kMul, kPow, kDiv, kLt, kLe, kGt, kGe, kNeg, aAdd, aSub, ex_lst, ex_some, ex_lst2, at3_0, at3_1, at3_2, at2_0, at2_1, at4_0, at4_1, at4_2, at4_3, ix3_0, ix3_1, ix3_2, mup_same, mup_mup, count_get]
      have fin : ∀ (acc' : List (List Int)), (∀ r ∈ acc', Part ups (i + 1) r) → acc'.length ≤ 2 * j + 1 → 
          (decide (0 < r.sum) = true → (∃ xs, some (MO.lst (List.map rowT acc')) = some (MO.lst xs)) ∧ 1 ≤ 16777216 ∧ (r.map D.int).length + 1 ≤ 16777216 ∧ 2 ≤ 16777216 ∧ (List.map rowT acc').length < 16777216 ∧
            ∃ acc x4 x5, [some (D.int ups), some (D.lst (List.map rowT rows)), some (D.int (0 + (i : Int))), some (D.ref p), some (dI r), some (D.int r.sum)] = [some (D.int ups), some (D.lst (List.map rowT rows)), some (D.int (0 + (i : Int))), some (D.ref p), x4, x5] ∧
              mup M' p (MO.lst (List.map rowT acc' ++ [D.tup [D.lst (r.map D.int ++ [D.int (-1)]), D.int (r.sum - 1)]])) = mup M' p (MO.lst (List.map rowT acc)) ∧ (∀ r ∈ acc, Part ups (i + 1) r) ∧ acc.length ≤ 2 * (j + 1)) ∧
          (decide (0 < r.sum) = false → ∃ acc x4 x5, [some (D.int ups), some (D.lst (List.map rowT rows)), some (D.int (0 + (i : Int))), some (D.ref p), some (dI r), some (D.int r.sum)] = [some (D.int ups), some (D.lst (List.map rowT rows)), some (D.int (0 + (i : Int))), some (D.ref p), x4, x5] ∧
              mup M' p (MO.lst (List.map rowT acc')) = mup M' p (MO.lst (List.map rowT acc)) ∧ (∀ r ∈ acc, Part ups (i + 1) r) ∧ acc.length ≤ 2 * (j + 1)) := fun acc' hA hL => by
        refine ⟨fun hc => ⟨⟨_, rfl⟩, by decide, by rw [List.length_map]; omega, by decide, by rw [List.length_map]; omega, acc' ++ [r ++ [-1]], _, _, rfl, ?_, fun s hs => ?_, ?_⟩, fun hc => ⟨acc', _, _, rfl, rfl, hA, by omega⟩⟩
        · rw [rowT_snoc acc' r (-1)]; rfl
        · rcases List.mem_append.mp hs with hs | hs
          · exact hA s hs
          · rw [List.mem_singleton.mp hs]; exact hP.down (by simpa using hc)
        · rw [List.length_append, List.length_singleton]; omega
      rw [← rowT_snoc acc r 1]
      refine ⟨fun hc => ⟨⟨_, rfl⟩, by decide, by rw [List.length_map]; omega, by decide, by rw [List.length_map]; omega, fin (acc ++ [r ++ [1]]) (fun s hs => ?_) (by rw [List.length_append, List.length_singleton]; omega)⟩, fun hc => fin acc ha (by omega)⟩
      rcases List.mem_append.mp hs with hs | hs
      · exact ha s hs
      · rw [List.mem_singleton.mp hs]; exact hP.up1 (by simpa using hc)
    · rintro δ M2 ⟨acc, x4, x5, rfl, rfl, ha, hal⟩
      simp only [dIfS_eq, dAnd_eq, dOr_eq, dIf_eq, dWhile_eq, dAndV_bl, dOrV_bl, dLc_eq, eName_eq, dSeq, dAsg, dVar, dC, dOp, dUn, dTest, dNot, dNotV, dChain, kII, kIC, kI, dCons, dNil, dTup, dLst, dNew, dFz, dFzS, dCB, dBM, dBM0, kLen, kInt_eq, asI_int, asI_bl, kSum, kIsi, kEq, kNe, kIsN, kNotN, kIx, kIxT, kInI, kAppend, kCountI, eNil, eCons, eTup, eSub, dDrop, dRet, dRetN, dNext, dNever, dBreak, dCont, dCallX, arr, Src.pick, dFor, iLst, iEnm, iZp, iRg1, iRg2, iEzp, dPart, dNoPart, dSl, dSlN, dLcN, dYes, kCat, kCatN, kRep, kRepN, dAug, dSrt, dPrs, dTrn, dIfS_eq, dwipe, asM, asL, asS, asW, tyD, kitB, dstart, scalD, eqD, isNonD, List.map_cons, List.map_nil, List.length_cons, List.length_nil, List.replicate, List.cons_append, List.nil_append, List.getElem?_cons_succ, List.getElem?_cons_zero, List.set_cons_zero, List.set_cons_succ, List.getD_cons_zero, List.getD_cons_succ, Nat.reduceAdd, Nat.reduceSub, Bool.not_true, Bool.not_false, ex_some, true_and, and_true, eq_self, List.append_nil, kAdd, kSub, kMod, kMul, kPow, kDiv, kLt, kLe, kGt, kGe, kNeg, aAdd, aSub, ex_lst, ex_some, ex_lst2, at3_0, at3_1, at3_2, at2_0, at2_1, at4_0, at4_1, at4_2, at4_3, ix3_0, ix3_1, ix3_2, mup_same, mup_mup]
      rw [List.length_map] at hal
      refine ⟨acc, _, _, _, _, rfl, mdel_mup hp, ha, ?_⟩
      rw [Nat.pow_succ]; omega
  · rintro δ M' ⟨rows, x2, x3, x4, x5, rfl, rfl, hr, hl⟩
    rw [rangeD_len] at hr hl
    have h1024 := pow_two_le (i := (2 * ups).toNat) (by omega)
    simp only [dIfS_eq, dAnd_eq, dOr_eq, dIf_eq, dWhile_eq, dAndV_bl, dOrV_bl, dLc_eq, eName_eq, dSeq, dAsg, dVar, dC, dOp, dUn, dTest, dNot, dNotV, dChain, kII, kIC, kI, dCons, dNil, dTup, dLst, dNew, dFz, dFzS, dCB, dBM, dBM0, kLen, kInt_eq, asI_int, asI_bl, kSum, kIsi, kEq, kNe, kIsN, kNotN, kIx, kIxT, kInI, kAppend, kCountI, eNil, eCons, eTup, eSub, dDrop, dRet, dRetN, dNext, dNever, dBreak, dCont, dCallX, arr, Src.pick, dFor, iLst, iEnm, iZp, iRg1, iRg2, iEzp, dPart, dNoPart, dSl, dSlN, dLcN, dYes, kCat, kCatN, kRep, kRepN, dAug, dSrt, dPrs, dTrn, dIfS_eq, dwipe, asM, asL, asS, asW, tyD, kitB, dstart, scalD, eqD, isNonD, List.map_cons, List.map_nil, List.length_cons, List.length_nil, List.replicate, List.cons_append, List.nil_append, List.getElem?_cons_succ, List.getElem?_cons_zero, List.set_cons_zero, List.set_cons_succ, List.getD_cons_zero, List.getD_cons_succ, Nat.reduceAdd, Nat.reduceSub, Bool.not_true, Bool.not_false, ex_some, true_and, and_true, eq_self, List.append_nil, kAdd, kSub, kMod, kMul, kPow, kDiv, kLt, kLe, kGt, kGe, kNeg, aAdd, aSub, ex_lst, ex_some, ex_lst2, at3_0, at3_1, at3_2, at2_0, at2_1, at4_0, at4_1, at4_2, at4_3, ix3_0, ix3_1, ix3_2, mup_same, mup_mup]
    refine ⟨by rw [List.length_map]; omega, fun j acc M2 => M2 = M' ∧ acc = (rows.take j).map dI, ⟨rfl, rfl⟩, ?_, ?_⟩
    · rintro j y acc M2 hy ⟨rfl, rfl⟩ _
      obtain ⟨r, hr', rfl⟩ := mapR_get hy
      simp only [rowT, dIfS_eq, dAnd_eq, dOr_eq, dIf_eq, dWhile_eq, dAndV_bl, dOrV_bl, dLc_eq, eName_eq, dSeq, dAsg, dVar, dC, dOp, dUn, dTest, dNot, dNotV, dChain, kII, kIC, kI, dCons, dNil, dTup, dLst, dNew, dFz, dFzS, dCB, dBM, dBM0, kLen, kInt_eq, asI_int, asI_bl, kSum, kIsi, kEq, kNe, kIsN, kNotN, kIx, kIxT, kInI, kAppend, kCountI, eNil, eCons, eTup, eSub, dDrop, dRet, dRetN, dNext, dNever, dBreak, dCont, dCallX, arr, Src.pick, dFor, iLst, iEnm, iZp, iRg1, iRg2, iEzp, dPart, dNoPart, dSl, dSlN, dLcN, dYes, kCat, kCatN, kRep, kRepN, dAug, dSrt, dPrs, dTrn, dIfS_eq, dwipe, asM, asL, asS, asW, tyD, kitB, dstart, scalD, eqD, isNonD, List.map_cons, List.map_nil, List.length_cons, List.length_nil, List.replicate, List.cons_append, List.nil_append, List.getElem?_cons_succ, List.getElem?_cons_zero, List.set_cons_zero, List.set_cons_succ, List.getD_cons_zero, List.getD_cons_succ, Nat.reduceAdd, Nat.reduceSub, Bool.not_true, Bool.not_false, ex_some, true_and, and_true, eq_self, List.append_nil, kAdd, kSub, kMod, kMul, kPow, kDiv, kLt, kLe, kGt, kGe, kNeg, aAdd, aSub, ex_lst, ex_some, ex_lst2, at3_0, at3_1, at3_2, at2_0, at2_1, at4_0, at4_1, at4_2, at4_3, ix3_0, ix3_1, ix3_2, mup_same, mup_mup]
      exact ⟨fun _ => by rw [take_succ' hr', List.map_append]; rfl, fun h => (nomatch h)⟩
    · rintro acc M2 ⟨rfl, rfl⟩
      rw [List.length_map, List.take_length]
      exact kk rows fun r hm => (hr r hm).hill (by omega) (by omega)
/-! ### begins, under, pairs, turns, told in other ways -/
theorem len__law_begins : ∀ ds M R, sp__law_begins ds M R → ds.length = 1 := by rintro _ M R ⟨u, rfl, _⟩; rfl
theorem v__law_begins : ∀ ds M R, sp__law_begins ds M R → t__law_begins (ends R) (dstart N__law_begins ds) M := by
  rintro _ M R ⟨ns, rfl, h, k⟩
  simp only [t__law_begins, dIfS_eq, dAnd_eq, dOr_eq, dIf_eq, dWhile_eq, dAndV_bl, dOrV_bl, dLc_eq, eName_eq, dSeq, dAsg, dVar, dC, dOp, dUn, dTest, dNot, dNotV, dChain, kII, kIC, kI, dCons, dNil, dTup, dLst, dNew, dFz, dFzS, dCB, dBM, dBM0, kLen, kInt_eq, asI_int, asI_bl, kSum, kIsi, kEq, kNe, kIsN, kNotN, kIx, kIxT, kInI, kAppend, kCountI, eNil, eCons, eTup, eSub, dDrop, dRet, dRetN, dNext, dNever, dBreak, dCont, dCallX, arr, Src.pick, dFor, iLst, iEnm, iZp, iRg1, iRg2, iEzp, dPart, dNoPart, dSl, dSlN, dLcN, dYes, kCat, kCatN, kRep, kRepN, dAug, dSrt, dPrs, dTrn, dIfS_eq, dwipe, asM, asL, asS, asW, tyD, kitB, dstart, scalD, eqD, isNonD, List.map_cons, List.map_nil, List.length_cons, List.length_nil, List.replicate, List.cons_append, List.nil_append, List.getElem?_cons_succ, List.getElem?_cons_zero, List.set_cons_zero, List.set_cons_succ, List.getD_cons_zero, List.getD_cons_succ, Nat.reduceAdd, Nat.reduceSub, Bool.not_true, Bool.not_false, ex_some, true_and, and_true, eq_self, List.append_nil, kAdd, kSub, kMod, kMul, kPow, kDiv, kLt, kLe, kGt, kGe, kNeg, aAdd, aSub, ex_lst, ex_some, ex_lst2, at3_0, at3_1, at3_2, at2_0, at2_1, at4_0, at4_1, at4_2, at4_3, ix3_0, ix3_1, ix3_2, mup_same, mup_mup]
  refine ⟨by decide, fun p hp => ⟨fun i δ M' => ∃ x3, δ = [some (dI ns), some (.ref p), some (.int (ns.take i).sum), x3] ∧ M' = mup M p (.lst ((bgs (ns.take i)).map D.int)), ⟨_, rfl, rfl⟩, ?_, ?_⟩⟩
  · rintro i x δ M' hx ⟨x3, rfl, rfl⟩
    obtain ⟨v, hv, rfl⟩ := mapI_get hx
    have hi := lt_of_get hv
    have hl := bgsF_len (ns.take i) 0
    rw [List.length_take] at hl
    simp only [dIfS_eq, dAnd_eq, dOr_eq, dIf_eq, dWhile_eq, dAndV_bl, dOrV_bl, dLc_eq, eName_eq, dSeq, dAsg, dVar, dC, dOp, dUn, dTest, dNot, dNotV, dChain, kII, kIC, kI, dCons, dNil, dTup, dLst, dNew, dFz, dFzS, dCB, dBM, dBM0, kLen, kInt_eq, asI_int, asI_bl, kSum, kIsi, kEq, kNe, kIsN, kNotN, kIx, kIxT, kInI, kAppend, kCountI, eNil, eCons, eTup, eSub, dDrop, dRet, dRetN, dNext, dNever, dBreak, dCont, dCallX, arr, Src.pick, dFor, iLst, iEnm, iZp, iRg1, iRg2, iEzp, dPart, dNoPart, dSl, dSlN, dLcN, dYes, kCat, kCatN, kRep, kRepN, dAug, dSrt, dPrs, dTrn, dIfS_eq, dwipe, asM, asL, asS, asW, tyD, kitB, dstart, scalD, eqD, isNonD, List.map_cons, List.map_nil, List.length_cons, List.length_nil, List.replicate, List.cons_append, List.nil_append, List.getElem?_cons_succ, List.getElem?_cons_zero, List.set_cons_zero, List.set_cons_succ, List.getD_cons_zero, List.getD_cons_succ, Nat.reduceAdd, Nat.reduceSub, Bool.not_true, Bool.not_false, ex_some, true_and, and_true, eq_self, List.append_nil, kAdd, kSub, kMod, kMul, kPow, kDiv, kLt, kLe, kGt, kGe, kNeg, aAdd, aSub, ex_lst, ex_some, ex_lst2, at3_0, at3_1, at3_2, at2_0, at2_1, at4_0, at4_1, at4_2, at4_3, ix3_0, ix3_1, ix3_2, mup_same, mup_mup]
    have eb : bgs (ns.take i ++ [v]) = bgs (ns.take i) ++ if v = 1 then [0 + (ns.take i).sum] else [] := bgsF_snoc v _ 0
    rw [take_succ' hv, eb, List.sum_append, List.sum_singleton]
    refine ⟨fun hc => ⟨⟨_, rfl⟩, by rw [List.length_map]; show (bgsF 0 _).length < _; omega, _, rfl, ?_⟩, fun hc => ⟨_, rfl, ?_⟩⟩
    · rw [if_pos (by simpa using hc), List.map_append, Int.zero_add]; rfl
    · rw [if_neg (by simpa using hc), List.append_nil]
  · rintro δ M' ⟨x3, rfl, rfl⟩
    rw [List.length_map, List.take_length]
    exact k p hp

theorem area_two : ∀ (l : List Int) (h : Int), (∀ x ∈ l, x = 1 ∨ x = -1) → 2 * (2 * (bgsF h l).sum + ((l.count 1 : Nat) : Int) - (htsF h l).sum) = (h + l.sum) * (h + l.sum - 1) - h * (h - 1)
  | [], h, _ => by simp [bgsF, htsF]
  | x :: r, h, hp => by
    have ih := area_two r (h + x) fun y hy => hp y (List.mem_cons_of_mem _ hy)
    rw [htsF, List.sum_cons, List.sum_cons, show h + (x + r.sum) = h + x + r.sum by omega]
    rcases hp x (List.mem_cons_self ..) with rfl | rfl
    · rw [bgsF, if_pos rfl, List.sum_cons, List.count_cons_self]
      have e1 : (h + 1) * (h + 1 - 1) - h * (h - 1) = 2 * h := by simp only [Int.mul_sub, Int.add_mul, Int.mul_add, Int.one_mul, Int.mul_one]; omega
      omega
    · rw [bgsF, if_neg (by decide), List.count_cons_of_ne (by decide)]
      have e1 : (h + -1) * (h + -1 - 1) - h * (h - 1) = -2 * h + 2 := by simp only [Int.mul_sub, Int.add_mul, Int.mul_add, Int.neg_mul, Int.mul_neg, Int.one_mul, Int.mul_one]; omega
      omega
theorem hill_area {ns : List Int} (H : Hill ns) : ((hts ns).sum - ((ns.count 1 : Nat) : Int)) / 2 = (bgs ns).sum := by
  have h := area_two ns 0 H.pm
  rw [H.sum] at h
  simp at h
  show ((htsF 0 ns).sum - _) / 2 = (bgsF 0 ns).sum
  omega
theorem len__law_under : ∀ ds M R, sp__law_under ds M R → ds.length = 1 := by rintro _ M R ⟨u, rfl, _⟩; rfl
theorem v__law_under : ∀ ds M R, sp__law_under ds M R → t__law_under (ends R) (dstart N__law_under ds) M := by
  rintro _ M R ⟨ns, rfl, h, k⟩
  simp only [t__law_under, dIfS_eq, dAnd_eq, dOr_eq, dIf_eq, dWhile_eq, dAndV_bl, dOrV_bl, dLc_eq, eName_eq, dSeq, dAsg, dVar, dC, dOp, dUn, dTest, dNot, dNotV, dChain, kII, kIC, kI, dCons, dNil, dTup, dLst, dNew, dFz, dFzS, dCB, dBM, dBM0, kLen, kInt_eq, asI_int, asI_bl, kSum, kIsi, kEq, kNe, kIsN, kNotN, kIx, kIxT, kInI, kAppend, kCountI, eNil, eCons, eTup, eSub, dDrop, dRet, dRetN, dNext, dNever, dBreak, dCont, dCallX, arr, Src.pick, dFor, iLst, iEnm, iZp, iRg1, iRg2, iEzp, dPart, dNoPart, dSl, dSlN, dLcN, dYes, kCat, kCatN, kRep, kRepN, dAug, dSrt, dPrs, dTrn, dIfS_eq, dwipe, asM, asL, asS, asW, tyD, kitB, dstart, scalD, eqD, isNonD, List.map_cons, List.map_nil, List.length_cons, List.length_nil, List.replicate, List.cons_append, List.nil_append, List.getElem?_cons_succ, List.getElem?_cons_zero, List.set_cons_zero, List.set_cons_succ, List.getD_cons_zero, List.getD_cons_succ, Nat.reduceAdd, Nat.reduceSub, Bool.not_true, Bool.not_false, ex_some, true_and, and_true, eq_self, List.append_nil, kAdd, kSub, kMod, kMul, kPow, kDiv, kLt, kLe, kGt, kGe, kNeg, aAdd, aSub, ex_lst, ex_some, ex_lst2, at3_0, at3_1, at3_2, at2_0, at2_1, at4_0, at4_1, at4_2, at4_3, ix3_0, ix3_1, ix3_2, mup_same, mup_mup]
  refine ⟨fun i δ M' => ∃ x3, δ = [some (dI ns), some (.int (ns.take i).sum), some (.int (hts (ns.take i)).sum), x3] ∧ M' = M, ⟨_, rfl, rfl⟩, ?_, ?_⟩
  · rintro i x δ M' hx ⟨x3, rfl, rfl⟩
    obtain ⟨v, hv, rfl⟩ := mapI_get hx
    simp only [dIfS_eq, dAnd_eq, dOr_eq, dIf_eq, dWhile_eq, dAndV_bl, dOrV_bl, dLc_eq, eName_eq, dSeq, dAsg, dVar, dC, dOp, dUn, dTest, dNot, dNotV, dChain, kII, kIC, kI, dCons, dNil, dTup, dLst, dNew, dFz, dFzS, dCB, dBM, dBM0, kLen, kInt_eq, asI_int, asI_bl, kSum, kIsi, kEq, kNe, kIsN, kNotN, kIx, kIxT, kInI, kAppend, kCountI, eNil, eCons, eTup, eSub, dDrop, dRet, dRetN, dNext, dNever, dBreak, dCont, dCallX, arr, Src.pick, dFor, iLst, iEnm, iZp, iRg1, iRg2, iEzp, dPart, dNoPart, dSl, dSlN, dLcN, dYes, kCat, kCatN, kRep, kRepN, dAug, dSrt, dPrs, dTrn, dIfS_eq, dwipe, asM, asL, asS, asW, tyD, kitB, dstart, scalD, eqD, isNonD, List.map_cons, List.map_nil, List.length_cons, List.length_nil, List.replicate, List.cons_append, List.nil_append, List.getElem?_cons_succ, List.getElem?_cons_zero, List.set_cons_zero, List.set_cons_succ, List.getD_cons_zero, List.getD_cons_succ, Nat.reduceAdd, Nat.reduceSub, Bool.not_true, Bool.not_false, ex_some, true_and, and_true, eq_self, List.append_nil, kAdd, kSub, kMod, kMul, kPow, kDiv, kLt, kLe, kGt, kGe, kNeg, aAdd, aSub, ex_lst, ex_some, ex_lst2, at3_0, at3_1, at3_2, at2_0, at2_1, at4_0, at4_1, at4_2, at4_3, ix3_0, ix3_1, ix3_2, mup_same, mup_mup]
    have eb : hts (ns.take i ++ [v]) = hts (ns.take i) ++ [0 + (ns.take i).sum + v] := htsF_snoc v _ 0
    rw [take_succ' hv, eb, List.sum_append, List.sum_append, List.sum_singleton, List.sum_singleton, Int.zero_add]
    exact ⟨_, rfl⟩
  · rintro δ M' ⟨x3, rfl, rfl⟩
    rw [List.length_map, List.take_length]
    simp only [dIfS_eq, dAnd_eq, dOr_eq, dIf_eq, dWhile_eq, dAndV_bl, dOrV_bl, dLc_eq, eName_eq, dSeq, dAsg, dVar, dC, dOp, dUn, dTest, dNot, dNotV, dChain, kII, kIC, kI, dCons, dNil, dTup, dLst, dNew, dFz, dFzS, dCB, dBM, dBM0, kLen, kInt_eq, asI_int, asI_bl, kSum, kIsi, kEq, kNe, kIsN, kNotN, kIx, kIxT, kInI, kAppend, kCountI, eNil, eCons, eTup, eSub, dDrop, dRet, dRetN, dNext, dNever, dBreak, dCont, dCallX, arr, Src.pick, dFor, iLst, iEnm, iZp, iRg1, iRg2, iEzp, dPart, dNoPart, dSl, dSlN, dLcN, dYes, kCat, kCatN, kRep, kRepN, dAug, dSrt, dPrs, dTrn, dIfS_eq, dwipe, asM, asL, asS, asW, tyD, kitB, dstart, scalD, eqD, isNonD, List.map_cons, List.map_nil, List.length_cons, List.length_nil, List.replicate, List.cons_append, List.nil_append, List.getElem?_cons_succ, List.getElem?_cons_zero, List.set_cons_zero, List.set_cons_succ, List.getD_cons_zero, List.getD_cons_succ, Nat.reduceAdd, Nat.reduceSub, Bool.not_true, Bool.not_false, ex_some, true_and, and_true, eq_self, List.append_nil, kAdd, kSub, kMod, kMul, kPow, kDiv, kLt, kLe, kGt, kGe, kNeg, aAdd, aSub, ex_lst, ex_some, ex_lst2, at3_0, at3_1, at3_2, at2_0, at2_1, at4_0, at4_1, at4_2, at4_3, ix3_0, ix3_1, ix3_2, mup_same, mup_mup, count_get]
    refine ⟨⟨by decide, by decide⟩, ?_⟩
    rw [hill_area h]
    exact k
theorem prsL_snoc (v : Int) : ∀ l : List Int, prsL (l ++ [v]) = prsL l + ((l.count v : Nat) : Int) + ((l.count (v + 1) : Nat) : Int)
  | [] => by simp [prsL]
  | a :: r => by
    show prsL (a :: (r ++ [v])) = _
    rw [prsL, prsL_snoc v r, prsL, List.filter_append, List.length_append, List.count_cons, List.count_cons]
    have : (([v].filter (prB a)).length : Int) = (if (a == v) = true then 1 else 0) + (if (a == v + 1) = true then 1 else 0) := by
      by_cases h1 : a = v
      · have e1 : prB a v = true := by unfold prB; simp; omega
        have e2 : ¬a = v + 1 := by omega
        rw [List.filter_cons, if_pos e1, if_pos (by simpa using h1), if_neg (by simpa using e2)]; rfl
      · by_cases h2 : a = v + 1
        · have e1 : prB a v = true := by unfold prB; simp; omega
          rw [List.filter_cons, if_pos e1, if_neg (by simpa using h1), if_pos (by simpa using h2)]; rfl
        · have e1 : ¬prB a v = true := by unfold prB; simp; omega
          rw [List.filter_cons, if_neg e1, if_neg (by simpa using h1), if_neg (by simpa using h2)]; rfl
    have e : (((r.filter (prB a)).length + ([v].filter (prB a)).length : Nat) : Int) = ((r.filter (prB a)).length : Int) + (([v].filter (prB a)).length : Int) := by omega
    rw [e, this]
    split <;> split <;> omega
theorem bgs_mem : ∀ (l : List Int) (h b : Int), b ∈ bgsF h l → ∃ j, l[j]? = some 1 ∧ b = h + (l.take j).sum
  | [], _, _, hb => by simp [bgsF] at hb
  | x :: r, h, b, hb => by
    by_cases e : x = 1
    · rw [bgsF, if_pos e] at hb
      rcases List.mem_cons.mp hb with rfl | hb
      · exact ⟨0, by rw [e]; rfl, by simp⟩
      · obtain ⟨j, h1, h2⟩ := bgs_mem r (h + x) b hb
        exact ⟨j + 1, by simpa using h1, by rw [List.take_succ_cons, List.sum_cons, h2]; omega⟩
    · rw [bgsF, if_neg e] at hb
      obtain ⟨j, h1, h2⟩ := bgs_mem r (h + x) b hb
      exact ⟨j + 1, by simpa using h1, by rw [List.take_succ_cons, List.sum_cons, h2]; omega⟩
theorem sum_le_len : ∀ l : List Int, (∀ x ∈ l, x = 1 ∨ x = -1) → l.sum ≤ l.length ∧ -(l.length : Int) ≤ l.sum
  | [], _ => by simp
  | x :: r, h => by
    have := sum_le_len r fun y hy => h y (List.mem_cons_of_mem _ hy)
    rw [List.sum_cons, List.length_cons]
    rcases h x (List.mem_cons_self ..) with rfl | rfl <;> omega
theorem hill_bg {ns : List Int} (H : Hill ns) {b : Int} (hb : b ∈ bgs ns) : 0 ≤ b ∧ b ≤ 149 := by
  obtain ⟨j, h1, h2⟩ := bgs_mem ns 0 b hb
  have hj := lt_of_get h1
  have e1 : (ns.take (j + 1)).sum = b + 1 := by rw [take_succ' h1, List.sum_append, List.sum_singleton]; omega
  have e2 : (ns.take (j + 1)).sum + (ns.drop (j + 1)).sum = 0 := by rw [← List.sum_append, List.take_append_drop, H.sum]
  have l1 := sum_le_len (ns.take (j + 1)) fun x hx => H.pm x (List.mem_of_mem_take hx)
  have l2 := sum_le_len (ns.drop (j + 1)) fun x hx => H.pm x (List.mem_of_mem_drop hx)
  have := H.len
  rw [List.length_take] at l1
  rw [List.length_drop] at l2
  refine ⟨?_, by omega⟩
  cases j with
  | zero => simp at h2; omega
  | succ j =>
    have := H.up (0 + (ns.take (j + 1)).sum) (List.mem_of_getElem? (htsF_get ns 0 j (by omega)))
    omega
def seenL (l : List Int) : List Int := (List.range 152).map fun h : Nat => ((l.count (h : Int) : Nat) : Int)
theorem seen_get (l : List Int) {h : Nat} (hh : h < 152) : (seenL l)[h]? = some ((l.count (h : Int) : Nat) : Int) := by
  unfold seenL
  rw [List.getElem?_map, List.getElem?_range hh]; rfl
theorem seen_at (l : List Int) {b : Int} (h0 : 0 ≤ b) (h1 : b ≤ 151) : atI ((seenL l).map D.int) b = some (.int ((l.count b : Nat) : Int)) := by
  rw [show b = ((b.toNat : Nat) : Int) by omega]
  refine atI_nat ?_
  rw [List.getElem?_map, seen_get l (by omega)]
  rfl
theorem seen_set (l : List Int) {b : Int} (h0 : 0 ≤ b) (h1 : b ≤ 151) : ((seenL l).map D.int).set b.toNat (.int (((l.count b : Nat) : Int) + 1)) = (seenL (l ++ [b])).map D.int := by
  apply List.ext_getElem?
  intro j
  by_cases hj : j < 152
  · by_cases e : b.toNat = j
    · rw [List.getElem?_set, if_pos e, if_pos (by unfold seenL; simp; omega), List.getElem?_map, seen_get _ hj, List.count_append]
      have : b = (j : Int) := by omega
      subst this
      simp
    · rw [List.getElem?_set_ne e, List.getElem?_map, List.getElem?_map, seen_get _ hj, seen_get _ hj, List.count_append]
      have : ¬(b == (j : Int)) = true := by simp; omega
      simp [List.count_cons, this]
  · rw [List.getElem?_eq_none (by unfold seenL; simp; omega), List.getElem?_eq_none (by unfold seenL; simp; omega)]
theorem len__law_pairs : ∀ ds M R, sp__law_pairs ds M R → ds.length = 1 := by rintro _ M R ⟨u, rfl, _⟩; rfl
theorem v__law_pairs : ∀ ds M R, sp__law_pairs ds M R → t__law_pairs (ends R) (dstart N__law_pairs ds) M := by
  rintro _ M R ⟨ns, rfl, h, k⟩
  have hlen := h.len
  simp only [t__law_pairs, dIfS_eq, dAnd_eq, dOr_eq, dIf_eq, dWhile_eq, dAndV_bl, dOrV_bl, dLc_eq, eName_eq, dSeq, dAsg, dVar, dC, dOp, dUn, dTest, dNot, dNotV, dChain, kII, kIC, kI, dCons, dNil, dTup, dLst, dNew, dFz, dFzS, dCB, dBM, dBM0, kLen, kInt_eq, asI_int, asI_bl, kSum, kIsi, kEq, kNe, kIsN, kNotN, kIx, kIxT, kInI, kAppend, kCountI, eNil, eCons, eTup, eSub, dDrop, dRet, dRetN, dNext, dNever, dBreak, dCont, dCallX, arr, Src.pick, dFor, iLst, iEnm, iZp, iRg1, iRg2, iEzp, dPart, dNoPart, dSl, dSlN, dLcN, dYes, kCat, kCatN, kRep, kRepN, dAug, dSrt, dPrs, dTrn, dIfS_eq, dwipe, asM, asL, asS, asW, tyD, kitB, dstart, scalD, eqD, isNonD, List.map_cons, List.map_nil, List.length_cons, List.length_nil, List.replicate, List.cons_append, List.nil_append, List.getElem?_cons_succ, List.getElem?_cons_zero, List.set_cons_zero, List.set_cons_succ, List.getD_cons_zero, List.getD_cons_succ, Nat.reduceAdd, Nat.reduceSub, Bool.not_true, Bool.not_false, ex_some, true_and, and_true, eq_self, List.append_nil, kAdd, kSub, kMod, kMul, kPow, kDiv, kLt, kLe, kGt, kGe, kNeg, aAdd, aSub, ex_lst, ex_some, ex_lst2, at3_0, at3_1, at3_2, at2_0, at2_1, at4_0, at4_1, at4_2, at4_3, ix3_0, ix3_1, ix3_2, mup_same, mup_mup]
  refine ⟨by decide, ⟨⟨by decide, by decide⟩, by decide⟩, fun p hp => ⟨ns, rfl, by omega, fun q hq => ⟨_, mup_same, ?_⟩⟩⟩
  rw [mdel_mup hq]
  have e0 : repD [D.int 0] 152 = (seenL []).map D.int := by
    unfold repD seenL
    simp [List.map_const']
  rw [e0]
  refine ⟨fun i δ M' => ∃ t x3, δ = [some (dI ns), some (.ref p), some (.int t), x3] ∧ M' = mup M p (.lst ((seenL ((bgs ns).take i)).map D.int)) ∧ t = prsL ((bgs ns).take i), ⟨_, _, rfl, rfl, rfl⟩, ?_, ?_⟩
  · rintro i x δ M' hx ⟨t, x3, rfl, rfl, rfl⟩
    obtain ⟨v, hv, rfl⟩ := mapI_get hx
    have hb := hill_bg h (List.mem_of_getElem? hv)
    simp only [dIfS_eq, dAnd_eq, dOr_eq, dIf_eq, dWhile_eq, dAndV_bl, dOrV_bl, dLc_eq, eName_eq, dSeq, dAsg, dVar, dC, dOp, dUn, dTest, dNot, dNotV, dChain, kII, kIC, kI, dCons, dNil, dTup, dLst, dNew, dFz, dFzS, dCB, dBM, dBM0, kLen, kInt_eq, asI_int, asI_bl, kSum, kIsi, kEq, kNe, kIsN, kNotN, kIx, kIxT, kInI, kAppend, kCountI, eNil, eCons, eTup, eSub, dDrop, dRet, dRetN, dNext, dNever, dBreak, dCont, dCallX, arr, Src.pick, dFor, iLst, iEnm, iZp, iRg1, iRg2, iEzp, dPart, dNoPart, dSl, dSlN, dLcN, dYes, kCat, kCatN, kRep, kRepN, dAug, dSrt, dPrs, dTrn, dIfS_eq, dwipe, asM, asL, asS, asW, tyD, kitB, dstart, scalD, eqD, isNonD, List.map_cons, List.map_nil, List.length_cons, List.length_nil, List.replicate, List.cons_append, List.nil_append, List.getElem?_cons_succ, List.getElem?_cons_zero, List.set_cons_zero, List.set_cons_succ, List.getD_cons_zero, List.getD_cons_succ, Nat.reduceAdd, Nat.reduceSub, Bool.not_true, Bool.not_false, ex_some, true_and, and_true, eq_self, List.append_nil, kAdd, kSub, kMod, kMul, kPow, kDiv, kLt, kLe, kGt, kGe, kNeg, aAdd, aSub, ex_lst, ex_some, ex_lst2, at3_0, at3_1, at3_2, at2_0, at2_1, at4_0, at4_1, at4_2, at4_3, ix3_0, ix3_1, ix3_2, mup_same, mup_mup]
    refine ⟨_, seen_at _ hb.1 (by omega), ?_⟩
    simp only [dIfS_eq, dAnd_eq, dOr_eq, dIf_eq, dWhile_eq, dAndV_bl, dOrV_bl, dLc_eq, eName_eq, dSeq, dAsg, dVar, dC, dOp, dUn, dTest, dNot, dNotV, dChain, kII, kIC, kI, dCons, dNil, dTup, dLst, dNew, dFz, dFzS, dCB, dBM, dBM0, kLen, kInt_eq, asI_int, asI_bl, kSum, kIsi, kEq, kNe, kIsN, kNotN, kIx, kIxT, kInI, kAppend, kCountI, eNil, eCons, eTup, eSub, dDrop, dRet, dRetN, dNext, dNever, dBreak, dCont, dCallX, arr, Src.pick, dFor, iLst, iEnm, iZp, iRg1, iRg2, iEzp, dPart, dNoPart, dSl, dSlN, dLcN, dYes, kCat, kCatN, kRep, kRepN, dAug, dSrt, dPrs, dTrn, dIfS_eq, dwipe, asM, asL, asS, asW, tyD, kitB, dstart, scalD, eqD, isNonD, List.map_cons, List.map_nil, List.length_cons, List.length_nil, List.replicate, List.cons_append, List.nil_append, List.getElem?_cons_succ, List.getElem?_cons_zero, List.set_cons_zero, List.set_cons_succ, List.getD_cons_zero, List.getD_cons_succ, Nat.reduceAdd, Nat.reduceSub, Bool.not_true, Bool.not_false, ex_some, true_and, and_true, eq_self, List.append_nil, kAdd, kSub, kMod, kMul, kPow, kDiv, kLt, kLe, kGt, kGe, kNeg, aAdd, aSub, ex_lst, ex_some, ex_lst2, at3_0, at3_1, at3_2, at2_0, at2_1, at4_0, at4_1, at4_2, at4_3, ix3_0, ix3_1, ix3_2, mup_same, mup_mup]
    refine ⟨_, seen_at _ (by omega) (by omega), ?_⟩
    simp only [dIfS_eq, dAnd_eq, dOr_eq, dIf_eq, dWhile_eq, dAndV_bl, dOrV_bl, dLc_eq, eName_eq, dSeq, dAsg, dVar, dC, dOp, dUn, dTest, dNot, dNotV, dChain, kII, kIC, kI, dCons, dNil, dTup, dLst, dNew, dFz, dFzS, dCB, dBM, dBM0, kLen, kInt_eq, asI_int, asI_bl, kSum, kIsi, kEq, kNe, kIsN, kNotN, kIx, kIxT, kInI, kAppend, kCountI, eNil, eCons, eTup, eSub, dDrop, dRet, dRetN, dNext, dNever, dBreak, dCont, dCallX, arr, Src.pick, dFor, iLst, iEnm, iZp, iRg1, iRg2, iEzp, dPart, dNoPart, dSl, dSlN, dLcN, dYes, kCat, kCatN, kRep, kRepN, dAug, dSrt, dPrs, dTrn, dIfS_eq, dwipe, asM, asL, asS, asW, tyD, kitB, dstart, scalD, eqD, isNonD, List.map_cons, List.map_nil, List.length_cons, List.length_nil, List.replicate, List.cons_append, List.nil_append, List.getElem?_cons_succ, List.getElem?_cons_zero, List.set_cons_zero, List.set_cons_succ, List.getD_cons_zero, List.getD_cons_succ, Nat.reduceAdd, Nat.reduceSub, Bool.not_true, Bool.not_false, ex_some, true_and, and_true, eq_self, List.append_nil, kAdd, kSub, kMod, kMul, kPow, kDiv, kLt, kLe, kGt, kGe, kNeg, aAdd, aSub, ex_lst, ex_some, ex_lst2, at3_0, at3_1, at3_2, at2_0, at2_1, at4_0, at4_1, at4_2, at4_3, ix3_0, ix3_1, ix3_2, mup_same, mup_mup]
    refine ⟨_, seen_at _ hb.1 (by omega), ?_⟩
    simp only [dIfS_eq, dAnd_eq, dOr_eq, dIf_eq, dWhile_eq, dAndV_bl, dOrV_bl, dLc_eq, eName_eq, dSeq, dAsg, dVar, dC, dOp, dUn, dTest, dNot, dNotV, dChain, kII, kIC, kI, dCons, dNil, dTup, dLst, dNew, dFz, dFzS, dCB, dBM, dBM0, kLen, kInt_eq, asI_int, asI_bl, kSum, kIsi, kEq, kNe, kIsN, kNotN, kIx, kIxT, kInI, kAppend, kCountI, eNil, eCons, eTup, eSub, dDrop, dRet, dRetN, dNext, dNever, dBreak, dCont, dCallX, arr, Src.pick, dFor, iLst, iEnm, iZp, iRg1, iRg2, iEzp, dPart, dNoPart, dSl, dSlN, dLcN, dYes, kCat, kCatN, kRep, kRepN, dAug, dSrt, dPrs, dTrn, dIfS_eq, dwipe, asM, asL, asS, asW, tyD, kitB, dstart, scalD, eqD, isNonD, List.map_cons, List.map_nil, List.length_cons, List.length_nil, List.replicate, List.cons_append, List.nil_append, List.getElem?_cons_succ, List.getElem?_cons_zero, List.set_cons_zero, List.set_cons_succ, List.getD_cons_zero, List.getD_cons_succ, Nat.reduceAdd, Nat.reduceSub, Bool.not_true, Bool.not_false, ex_some, true_and, and_true, eq_self, List.append_nil, kAdd, kSub, kMod, kMul, kPow, kDiv, kLt, kLe, kGt, kGe, kNeg, aAdd, aSub, ex_lst, ex_some, ex_lst2, at3_0, at3_1, at3_2, at2_0, at2_1, at4_0, at4_1, at4_2, at4_3, ix3_0, ix3_1, ix3_2, mup_same, mup_mup]
    have hsl : ((seenL ((bgs ns).take i)).map D.int).length = 152 := by unfold seenL; simp
    refine ⟨v.toNat, ?_, _, _, rfl, ?_, ?_⟩
    · rw [hsl]
      unfold ixN
      rw [if_pos hb.1, if_pos (by omega)]
    · rw [take_succ' hv, seen_set _ hb.1 (by omega)]
    · rw [take_succ' hv, prsL_snoc]
  · rintro δ M' ⟨t, x3, rfl, rfl, rfl⟩
    rw [List.length_map, List.take_length]
    simp only [dIfS_eq, dAnd_eq, dOr_eq, dIf_eq, dWhile_eq, dAndV_bl, dOrV_bl, dLc_eq, eName_eq, dSeq, dAsg, dVar, dC, dOp, dUn, dTest, dNot, dNotV, dChain, kII, kIC, kI, dCons, dNil, dTup, dLst, dNew, dFz, dFzS, dCB, dBM, dBM0, kLen, kInt_eq, asI_int, asI_bl, kSum, kIsi, kEq, kNe, kIsN, kNotN, kIx, kIxT, kInI, kAppend, kCountI, eNil, eCons, eTup, eSub, dDrop, dRet, dRetN, dNext, dNever, dBreak, dCont, dCallX, arr, Src.pick, dFor, iLst, iEnm, iZp, iRg1, iRg2, iEzp, dPart, dNoPart, dSl, dSlN, dLcN, dYes, kCat, kCatN, kRep, kRepN, dAug, dSrt, dPrs, dTrn, dIfS_eq, dwipe, asM, asL, asS, asW, tyD, kitB, dstart, scalD, eqD, isNonD, List.map_cons, List.map_nil, List.length_cons, List.length_nil, List.replicate, List.cons_append, List.nil_append, List.getElem?_cons_succ, List.getElem?_cons_zero, List.set_cons_zero, List.set_cons_succ, List.getD_cons_zero, List.getD_cons_succ, Nat.reduceAdd, Nat.reduceSub, Bool.not_true, Bool.not_false, ex_some, true_and, and_true, eq_self, List.append_nil, kAdd, kSub, kMod, kMul, kPow, kDiv, kLt, kLe, kGt, kGe, kNeg, aAdd, aSub, ex_lst, ex_some, ex_lst2, at3_0, at3_1, at3_2, at2_0, at2_1, at4_0, at4_1, at4_2, at4_3, ix3_0, ix3_1, ix3_2, mup_same, mup_mup]
    rw [mdel_mup hp]
    exact k

theorem len__law_bounces : ∀ ds M R, sp__law_bounces ds M R → ds.length = 1 := by rintro _ M R ⟨u, rfl, _⟩; rfl
theorem v__law_bounces : ∀ ds M R, sp__law_bounces ds M R → t__law_bounces (ends R) (dstart N__law_bounces ds) M := by
  rintro _ M R ⟨ns, rfl, h, k⟩
  have hlen := h.len
  simp only [t__law_bounces, dIfS_eq, dAnd_eq, dOr_eq, dIf_eq, dWhile_eq, dAndV_bl, dOrV_bl, dLc_eq, eName_eq, dSeq, dAsg, dVar, dC, dOp, dUn, dTest, dNot, dNotV, dChain, kII, kIC, kI, dCons, dNil, dTup, dLst, dNew, dFz, dFzS, dCB, dBM, dBM0, kLen, kInt_eq, asI_int, asI_bl, kSum, kIsi, kEq, kNe, kIsN, kNotN, kIx, kIxT, kInI, kAppend, kCountI, eNil, eCons, eTup, eSub, dDrop, dRet, dRetN, dNext, dNever, dBreak, dCont, dCallX, arr, Src.pick, dFor, iLst, iEnm, iZp, iRg1, iRg2, iEzp, dPart, dNoPart, dSl, dSlN, dLcN, dYes, kCat, kCatN, kRep, kRepN, dAug, dSrt, dPrs, dTrn, dIfS_eq, dwipe, asM, asL, asS, asW, tyD, kitB, dstart, scalD, eqD, isNonD, List.map_cons, List.map_nil, List.length_cons, List.length_nil, List.replicate, List.cons_append, List.nil_append, List.getElem?_cons_succ, List.getElem?_cons_zero, List.set_cons_zero, List.set_cons_succ, List.getD_cons_zero, List.getD_cons_succ, Nat.reduceAdd, Nat.reduceSub, Bool.not_true, Bool.not_false, ex_some, true_and, and_true, eq_self, List.append_nil, kAdd, kSub, kMod, kMul, kPow, kDiv, kLt, kLe, kGt, kGe, kNeg, aAdd, aSub]
  refine ⟨Nat.zero_le _, fun p hp => ⟨fun i δ M' => ∃ x3, δ = [some (dI ns), some (.ref p), some (.int ((dnc (ns.take i) : Nat) : Int)), x3, none, none] ∧ M' = mup M p (.lst ((ahd (ns.take i)).map D.int)), ⟨_, rfl, rfl⟩, ?_, ?_⟩⟩
  · rintro i x δ M' hx ⟨x3, rfl, rfl⟩
    obtain ⟨v, hv, rfl⟩ := mapI_get hx
    have hi := lt_of_get hv
    have ea : ahd (ns.take i ++ [v]) = ahd (ns.take i) ++ if v = 1 then [0 + ((dnc (ns.take i) : Nat) : Int)] else [] := ahdF_snoc v _ 0
    have el : (ahd (ns.take i)).length + dnc (ns.take i) = i := (ahdF_len (ns.take i) 0).trans (by rw [List.length_take]; omega)
    simp only [dIfS_eq, dAnd_eq, dOr_eq, dIf_eq, dWhile_eq, dAndV_bl, dOrV_bl, dLc_eq, eName_eq, dSeq, dAsg, dVar, dC, dOp, dUn, dTest, dNot, dNotV, dChain, kII, kIC, kI, dCons, dNil, dTup, dLst, dNew, dFz, dFzS, dCB, dBM, dBM0, kLen, kInt_eq, asI_int, asI_bl, kSum, kIsi, kEq, kNe, kIsN, kNotN, kIx, kIxT, kInI, kAppend, kCountI, eNil, eCons, eTup, eSub, dDrop, dRet, dRetN, dNext, dNever, dBreak, dCont, dCallX, arr, Src.pick, dFor, iLst, iEnm, iZp, iRg1, iRg2, iEzp, dPart, dNoPart, dSl, dSlN, dLcN, dYes, kCat, kCatN, kRep, kRepN, dAug, dSrt, dPrs, dTrn, dIfS_eq, dwipe, asM, asL, asS, asW, tyD, kitB, dstart, scalD, eqD, isNonD, List.map_cons, List.map_nil, List.length_cons, List.length_nil, List.replicate, List.cons_append, List.nil_append, List.getElem?_cons_succ, List.getElem?_cons_zero, List.set_cons_zero, List.set_cons_succ, List.getD_cons_zero, List.getD_cons_succ, Nat.reduceAdd, Nat.reduceSub, Bool.not_true, Bool.not_false, ex_some, true_and, and_true, eq_self, List.append_nil, kAdd, kSub, kMod, kMul, kPow, kDiv, kLt, kLe, kGt, kGe, kNeg, aAdd, aSub]
    rw [take_succ' hv, ea, dnc_snoc]
    refine ⟨fun h1 => ?_, fun h1 => ?_⟩
    · have e1 : v = 1 := by simpa using h1
      refine ⟨⟨_, mup_same⟩, _, mup_same, ?_, some (.int v), ?_, ?_⟩
      · rw [List.length_map]; omega
      · rw [if_pos e1, Nat.add_zero]
      · rw [mup_mup, if_pos e1, List.map_append, Int.zero_add]
        rfl
    · have e1 : ¬v = 1 := by simpa using h1
      exact ⟨some (.int v), by rw [if_neg e1]; rfl, by rw [if_neg e1, List.append_nil]⟩
  · rintro δ M' ⟨x3, rfl, rfl⟩
    rw [List.length_map, List.take_length]
    simp only [dIfS_eq, dAnd_eq, dOr_eq, dIf_eq, dWhile_eq, dAndV_bl, dOrV_bl, dLc_eq, eName_eq, dSeq, dAsg, dVar, dC, dOp, dUn, dTest, dNot, dNotV, dChain, kII, kIC, kI, dCons, dNil, dTup, dLst, dNew, dFz, dFzS, dCB, dBM, dBM0, kLen, kInt_eq, asI_int, asI_bl, kSum, kIsi, kEq, kNe, kIsN, kNotN, kIx, kIxT, kInI, kAppend, kCountI, eNil, eCons, eTup, eSub, dDrop, dRet, dRetN, dNext, dNever, dBreak, dCont, dCallX, arr, Src.pick, dFor, iLst, iEnm, iZp, iRg1, iRg2, iEzp, dPart, dNoPart, dSl, dSlN, dLcN, dYes, kCat, kCatN, kRep, kRepN, dAug, dSrt, dPrs, dTrn, dIfS_eq, dwipe, asM, asL, asS, asW, tyD, kitB, dstart, scalD, eqD, isNonD, List.map_cons, List.map_nil, List.length_cons, List.length_nil, List.replicate, List.cons_append, List.nil_append, List.getElem?_cons_succ, List.getElem?_cons_zero, List.set_cons_zero, List.set_cons_succ, List.getD_cons_zero, List.getD_cons_succ, Nat.reduceAdd, Nat.reduceSub, Bool.not_true, Bool.not_false, ex_some, true_and, and_true, eq_self, List.append_nil, kAdd, kSub, kMod, kMul, kPow, kDiv, kLt, kLe, kGt, kGe, kNeg, aAdd, aSub]
    refine ⟨_, mup_same, Nat.zero_le _, fun q hq => ?_⟩
    rw [mdel_mup hp] at hq ⊢
    have hal := ahd_len ns
    refine ⟨fun m δ M' => ∃ (now : Int) (told : List Int), m = now.toNat ∧ δ = [some (dI ns), some (dI (ahd ns)), some (.int ((dnc ns : Nat) : Int)), x3, some (.ref q), some (.int now)] ∧ M' = mup M q (.lst (told.map D.int)) ∧ 0 ≤ now ∧ now ≤ (ahd ns).length ∧ told.length + now.toNat ≤ 400 ∧ told ++ bncF (ahd ns) (400 - told.length) now = bnc ns,
      ⟨_, ((ahd ns).length : Nat), [], rfl, by rw [List.length_map], rfl, by omega, by omega, by simp; omega, rfl⟩, ?_⟩
    rintro m δ M' ⟨now, told, rfl, rfl, rfl, h0, h1, h2, h3⟩
    simp only [dIfS_eq, dAnd_eq, dOr_eq, dIf_eq, dWhile_eq, dAndV_bl, dOrV_bl, dLc_eq, eName_eq, dSeq, dAsg, dVar, dC, dOp, dUn, dTest, dNot, dNotV, dChain, kII, kIC, kI, dCons, dNil, dTup, dLst, dNew, dFz, dFzS, dCB, dBM, dBM0, kLen, kInt_eq, asI_int, asI_bl, kSum, kIsi, kEq, kNe, kIsN, kNotN, kIx, kIxT, kInI, kAppend, kCountI, eNil, eCons, eTup, eSub, dDrop, dRet, dRetN, dNext, dNever, dBreak, dCont, dCallX, arr, Src.pick, dFor, iLst, iEnm, iZp, iRg1, iRg2, iEzp, dPart, dNoPart, dSl, dSlN, dLcN, dYes, kCat, kCatN, kRep, kRepN, dAug, dSrt, dPrs, dTrn, dIfS_eq, dwipe, asM, asL, asS, asW, tyD, kitB, dstart, scalD, eqD, isNonD, List.map_cons, List.map_nil, List.length_cons, List.length_nil, List.replicate, List.cons_append, List.nil_append, List.getElem?_cons_succ, List.getElem?_cons_zero, List.set_cons_zero, List.set_cons_succ, List.getD_cons_zero, List.getD_cons_succ, Nat.reduceAdd, Nat.reduceSub, Bool.not_true, Bool.not_false, ex_some, true_and, and_true, eq_self, List.append_nil, kAdd, kSub, kMod, kMul, kPow, kDiv, kLt, kLe, kGt, kGe, kNeg, aAdd, aSub]
    refine ⟨fun hc => ?_, fun hc => ?_⟩
    · have hc' : 0 < now := by simpa using hc
      have hk : (now - 1).toNat < (ahd ns).length := by omega
      obtain ⟨a, ha⟩ : ∃ a, (ahd ns)[(now - 1).toNat]? = some a := ⟨_, List.getElem?_eq_getElem hk⟩
      have hb := ahd_le h ha
      have hat : atI ((ahd ns).map D.int) (now - 1) = some (.int a) := by
        rw [show now - 1 = (((now - 1).toNat : Nat) : Int) by omega]
        refine atI_nat ?_
        rw [List.getElem?_map, ha]; rfl
      refine ⟨.int a, hat, ⟨_, mup_same⟩, _, mup_same, ?_, a.toNat, ?_, a, told ++ [a], rfl, rfl, ?_, ?_⟩
      · rw [List.length_map]; omega
      · omega
      · rw [mup_mup, List.map_append]; rfl
      · have ef : 400 - told.length = (400 - (told ++ [a]).length) + 1 := by rw [List.length_append, List.length_singleton]; omega
        rw [ef, bnc_step _ _ _ _ hc' ha] at h3
        refine ⟨hb.1, by omega, by rw [List.length_append, List.length_singleton]; omega, ?_⟩
        rw [← h3, List.append_assoc]; rfl
    · have hc' : ¬0 < now := by simpa using hc
      rw [bnc_end _ _ _ hc', List.append_nil] at h3
      subst h3
      exact k q hq
theorem range_filter_succ (p : Nat → Bool) (i : Nat) : (List.range (i + 1)).filter p = (List.range i).filter p ++ if p i = true then [i] else [] := by
  rw [List.range_succ, List.filter_append]
  congr 1
  by_cases h : p i = true
  · rw [if_pos h, List.filter_cons, if_pos h]; rfl
  · rw [if_neg h, List.filter_cons, if_neg h]; rfl
theorem turn_hill {ns : List Int} (H : Hill ns) {i : Nat} {a b : Int} (ha : ns[i]? = some a) (hb : ns[i + 1]? = some b) : tnB ns i = (decide (a = -1) && decide (b = 1)) := by
  unfold tnB
  rw [List.getD_eq_getElem?_getD, List.getD_eq_getElem?_getD, ha, hb]
  rcases H.pm a (List.mem_of_getElem? ha) with rfl | rfl <;> rcases H.pm b (List.mem_of_getElem? hb) with rfl | rfl <;> rfl
theorem eq_pair {M : Mp} (a b : Int) {Q : D → Mp → Prop} (h : Q (.bl (decide (a = -1) && decide (b = 1))) M) : kEqP (.tup [.int a, .int b]) (.tup [.int (-1), .int 1]) M Q := by
  refine ⟨.tuple [.int a, .int b], .tuple [.int (-1), .int 1], .tup (.cons (.int a) (.cons (.int b) .nil)), .tup (.cons (.int (-1)) (.cons (.int 1) .nil)), rfl, rfl, ?_⟩
  have e : PyData.eqv (.tuple [.int a, .int b]) (.tuple [.int (-1), .int 1]) = (decide (a = -1) && decide (b = 1)) := by
    simp [PyData.eqv, PyData.eqvAll]
    rfl
  rw [e]; exact h
theorem len__law_turns : ∀ ds M R, sp__law_turns ds M R → ds.length = 1 := by rintro _ M R ⟨u, rfl, _⟩; rfl
theorem v__law_turns : ∀ ds M R, sp__law_turns ds M R → t__law_turns (ends R) (dstart N__law_turns ds) M := by
  rintro _ M R ⟨ns, rfl, h, k⟩
  have hlen := h.len
  simp only [t__law_turns, dIfS_eq, dAnd_eq, dOr_eq, dIf_eq, dWhile_eq, dAndV_bl, dOrV_bl, dLc_eq, eName_eq, dSeq, dAsg, dVar, dC, dOp, dUn, dTest, dNot, dNotV, dChain, kII, kIC, kI, dCons, dNil, dTup, dLst, dNew, dFz, dFzS, dCB, dBM, dBM0, kLen, kInt_eq, asI_int, asI_bl, kSum, kIsi, kEq, kNe, kIsN, kNotN, kIx, kIxT, kInI, kAppend, kCountI, eNil, eCons, eTup, eSub, dDrop, dRet, dRetN, dNext, dNever, dBreak, dCont, dCallX, arr, Src.pick, dFor, iLst, iEnm, iZp, iRg1, iRg2, iEzp, dPart, dNoPart, dSl, dSlN, dLcN, dYes, kCat, kCatN, kRep, kRepN, dAug, dSrt, dPrs, dTrn, dIfS_eq, dwipe, asM, asL, asS, asW, tyD, kitB, dstart, scalD, eqD, isNonD, List.map_cons, List.map_nil, List.length_cons, List.length_nil, List.replicate, List.cons_append, List.nil_append, List.getElem?_cons_succ, List.getElem?_cons_zero, List.set_cons_zero, List.set_cons_succ, List.getD_cons_zero, List.getD_cons_succ, Nat.reduceAdd, Nat.reduceSub, Bool.not_true, Bool.not_false, ex_some, true_and, and_true, eq_self, List.append_nil, kAdd, kSub, kMod, kMul, kPow, kDiv, kLt, kLe, kGt, kGe, kNeg, aAdd, aSub]
  have ec : DL.cutD (ns.map D.int) (some 1) none = (ns.drop 1).map D.int := by rw [show (1 : Int) = ((1 : Nat) : Int) from rfl, cutD_from, List.map_drop]
  rw [ec]
  have el : (enumD (zipD (ns.map D.int) ((ns.drop 1).map D.int))).length = ns.length - 1 := by rw [enumD_len, zipD_len, List.length_map, List.length_map, List.length_drop]; omega
  rw [el]
  refine ⟨by omega, fun i acc M' => M' = M ∧ acc = (((List.range i).filter (tnB ns)).map fun j : Nat => 1 + (j : Int)).map D.int, ⟨rfl, rfl⟩, ?_, ?_⟩
  · rintro i x acc M' hx ⟨rfl, rfl⟩ _
    obtain ⟨y, hy, rfl⟩ := enumD_get hx
    obtain ⟨a, b, ha, hb, rfl⟩ := zipI_get hy
    rw [List.getElem?_drop, Nat.add_comm] at hb
    simp only [dIfS_eq, dAnd_eq, dOr_eq, dIf_eq, dWhile_eq, dAndV_bl, dOrV_bl, dLc_eq, eName_eq, dSeq, dAsg, dVar, dC, dOp, dUn, dTest, dNot, dNotV, dChain, kII, kIC, kI, dCons, dNil, dTup, dLst, dNew, dFz, dFzS, dCB, dBM, dBM0, kLen, kInt_eq, asI_int, asI_bl, kSum, kIsi, kEq, kNe, kIsN, kNotN, kIx, kIxT, kInI, kAppend, kCountI, eNil, eCons, eTup, eSub, dDrop, dRet, dRetN, dNext, dNever, dBreak, dCont, dCallX, arr, Src.pick, dFor, iLst, iEnm, iZp, iRg1, iRg2, iEzp, dPart, dNoPart, dSl, dSlN, dLcN, dYes, kCat, kCatN, kRep, kRepN, dAug, dSrt, dPrs, dTrn, dIfS_eq, dwipe, asM, asL, asS, asW, tyD, kitB, dstart, scalD, eqD, isNonD, List.map_cons, List.map_nil, List.length_cons, List.length_nil, List.replicate, List.cons_append, List.nil_append, List.getElem?_cons_succ, List.getElem?_cons_zero, List.set_cons_zero, List.set_cons_succ, List.getD_cons_zero, List.getD_cons_succ, Nat.reduceAdd, Nat.reduceSub, Bool.not_true, Bool.not_false, ex_some, true_and, and_true, eq_self, List.append_nil, kAdd, kSub, kMod, kMul, kPow, kDiv, kLt, kLe, kGt, kGe, kNeg, aAdd, aSub]
    refine ⟨by decide, eq_pair a b ?_⟩
    simp only [dIfS_eq, dAnd_eq, dOr_eq, dIf_eq, dWhile_eq, dAndV_bl, dOrV_bl, dLc_eq, eName_eq, dSeq, dAsg, dVar, dC, dOp, dUn, dTest, dNot, dNotV, dChain, kII, kIC, kI, dCons, dNil, dTup, dLst, dNew, dFz, dFzS, dCB, dBM, dBM0, kLen, kInt_eq, asI_int, asI_bl, kSum, kIsi, kEq, kNe, kIsN, kNotN, kIx, kIxT, kInI, kAppend, kCountI, eNil, eCons, eTup, eSub, dDrop, dRet, dRetN, dNext, dNever, dBreak, dCont, dCallX, arr, Src.pick, dFor, iLst, iEnm, iZp, iRg1, iRg2, iEzp, dPart, dNoPart, dSl, dSlN, dLcN, dYes, kCat, kCatN, kRep, kRepN, dAug, dSrt, dPrs, dTrn, dIfS_eq, dwipe, asM, asL, asS, asW, tyD, kitB, dstart, scalD, eqD, isNonD, List.map_cons, List.map_nil, List.length_cons, List.length_nil, List.replicate, List.cons_append, List.nil_append, List.getElem?_cons_succ, List.getElem?_cons_zero, List.set_cons_zero, List.set_cons_succ, List.getD_cons_zero, List.getD_cons_succ, Nat.reduceAdd, Nat.reduceSub, Bool.not_true, Bool.not_false, ex_some, true_and, and_true, eq_self, List.append_nil, kAdd, kSub, kMod, kMul, kPow, kDiv, kLt, kLe, kGt, kGe, kNeg, aAdd, aSub]
    rw [range_filter_succ, turn_hill h ha hb]
    refine ⟨fun hc => ?_, fun hc => ?_⟩
    · rw [if_pos hc, List.map_append, List.map_append, Int.add_comm]
      rfl
    · rw [if_neg (by rw [hc]; exact Bool.false_ne_true), List.append_nil]
  · rintro acc M' ⟨rfl, rfl⟩
    exact ⟨_, rfl, k⟩

/-! ### the law's test of one row -/
theorem sum_bd {B : Nat} : ∀ {l : List Int}, (∀ b ∈ l, 0 ≤ b ∧ b ≤ B) → 0 ≤ l.sum ∧ l.sum ≤ B * l.length
  | [], _ => by simp
  | x :: r, h => by
    have ih := sum_bd (l := r) fun b hb => h b (List.mem_cons_of_mem _ hb)
    have hx := h x (List.mem_cons_self ..)
    rw [List.sum_cons, List.length_cons, show (B : Int) * ((r.length + 1 : Nat) : Int) = B * r.length + B by rw [show ((r.length + 1 : Nat) : Int) = (r.length : Int) + 1 by omega, Int.mul_add, Int.mul_one]]
    omega
theorem prs_bd : ∀ l : List Int, 0 ≤ prsL l ∧ prsL l ≤ (l.length : Int) * l.length
  | [] => by simp [prsL]
  | a :: r => by
    have ih := prs_bd r
    have hf := List.length_filter_le (prB a) r
    rw [prsL, List.length_cons, show ((r.length + 1 : Nat) : Int) * ((r.length + 1 : Nat) : Int) = (r.length : Int) * r.length + 2 * r.length + 1 by
      rw [show ((r.length + 1 : Nat) : Int) = (r.length : Int) + 1 by omega, Int.mul_add, Int.add_mul, Int.mul_one, Int.one_mul]; omega]
    omega
theorem bncF_bd {A : List Int} (hA : ∀ a ∈ A, 0 ≤ a ∧ a ≤ 300) : ∀ (f : Nat) (now : Int), (bncF A f now).length ≤ f ∧ ∀ b ∈ bncF A f now, 0 ≤ b ∧ b ≤ 300
  | 0, now => ⟨Nat.le_refl _, fun b hb => by simp [bncF] at hb⟩
  | f + 1, now => by
    rw [bncF]
    split
    · have ih := bncF_bd hA f (A.getD (now - 1).toNat 0)
      refine ⟨by simp only [List.length_cons]; omega, fun b hb => ?_⟩
      rcases List.mem_cons.mp hb with rfl | hb
      · rw [List.getD_eq_getElem?_getD]
        cases e : A[(now - 1).toNat]? with
        | none => exact ⟨by decide, by decide⟩
        | some a => exact hA a (List.mem_of_getElem? e)
      · exact ih.2 b hb
    · exact ⟨Nat.zero_le _, fun b hb => by simp at hb⟩
theorem ahd_bd {ns : List Int} (H : Hill ns) : ∀ a ∈ ahd ns, 0 ≤ a ∧ a ≤ 300 := fun a ha => by
  obtain ⟨k, hk, e⟩ := List.getElem_of_mem ha
  have h1 := ahd_le H (k := k) (a := a) (by rw [List.getElem?_eq_getElem hk, e])
  have h2 := ahd_len ns
  have h3 := H.len
  omega
theorem bnc_bd {ns : List Int} (H : Hill ns) : (bnc ns).length ≤ 400 ∧ ∀ b ∈ bnc ns, 0 ≤ b ∧ b ≤ 300 := bncF_bd (ahd_bd H) 400 _
theorem trn_bd {ns : List Int} (H : ns.length ≤ 300) : 0 ≤ trnD ns ∧ trnD ns ≤ 90000 := by
  have h := sum_bd (B := 300) (l := ((List.range (ns.length - 1)).filter (tnB ns)).map fun i : Nat => 1 + (i : Int)) fun b hb => by
    obtain ⟨j, hj, rfl⟩ := List.mem_map.mp hb
    have := List.mem_range.mp (List.mem_filter.mp hj).1
    omega
  have hl := List.length_filter_le (tnB ns) (List.range (ns.length - 1))
  rw [List.length_range] at hl
  rw [List.length_map] at h
  unfold trnD
  omega
theorem bgs_bd {ns : List Int} (H : Hill ns) : 0 ≤ (bgs ns).sum ∧ (bgs ns).sum ≤ 44700 := by
  have h := sum_bd (B := 149) fun b hb => hill_bg H hb
  have h2 := bgsF_len ns 0
  have h3 := H.len
  have : (bgs ns).length ≤ 300 := by show (bgsF 0 ns).length ≤ 300; omega
  omega
theorem prsb_bd {ns : List Int} (H : Hill ns) : 0 ≤ prsL (bgs ns) ∧ prsL (bgs ns) ≤ 90000 := by
  have h := prs_bd (bgs ns)
  have h2 := bgsF_len ns 0
  have h3 := H.len
  have h4 : (bgs ns).length ≤ 300 := by show (bgsF 0 ns).length ≤ 300; omega
  have h5 : ((bgs ns).length * (bgs ns).length : Nat) ≤ 300 * 300 := Nat.mul_le_mul h4 h4
  have h6 : ((bgs ns).length : Int) * (bgs ns).length = (((bgs ns).length * (bgs ns).length : Nat) : Int) := by rw [Int.natCast_mul]
  omega
def pX (u p : Int) (b : List Int) (t : Int) : PyData := .list [.int u, .int p, pyL b, .int t]
theorem shw_X {u p t : Int} {b : List Int} (h : u.natAbs < 1000000 ∧ p.natAbs < 1000000 ∧ t.natAbs < 1000000 ∧ (∀ x ∈ b, x.natAbs < 1000000) ∧ b.length ≤ 1000) : Shw (.list [pX u p b t, pX u p b t]) := by
  have hb : okP 6 (pyL b) := ok_L h.2.2.2.1
  refine Shw.of 6 (by decide) (by decide) ?_ ?_ ?_
  · simp [pX, okP, okAll, hb, h.1, h.2.1, h.2.2.1]
  · simp [pX, PyData.depth, PyData.depthAll, depth_L]
  · simp [pX, wt, wtAll, wt_L]
    omega
theorem shw_L {b : List Int} (h : ∀ x ∈ b, x.natAbs < 1000000) (hl : b.length ≤ 1000) : Shw (pyL b) :=
  Shw.of 6 (by decide) (by decide) (ok_L h) (by rw [depth_L]; decide) (by rw [wt_L]; omega)
theorem shw_2 {u p : Int} (h : u.natAbs < 1000000) (h' : p.natAbs < 1000000) : Shw (.list [.int u, .int p]) := by
  refine Shw.of 6 (by decide) (by decide) ?_ ?_ ?_
  · simp [okP, okAll, h, h']
  · simp [PyData.depth, PyData.depthAll]
  · simp [wt, wtAll]
theorem eqv_2 (u p : Int) : PyData.eqv (.list [.int u, .int p]) (.list [.int u, .int p]) = true := by
  simp [PyData.eqv, PyData.eqvAll]
theorem hill_abs {ns : List Int} (H : Hill ns) : ∀ x ∈ ns, x.natAbs < 1000000 := fun x hx => by
  rcases H.pm x hx with rfl | rfl <;> decide
/-- what the sweep of a hill is (proved ahead of the end) -/
structure SwT : Prop where
  hill : ∀ ns ps, Hill ns → Plc ns .non ps → Hill (swp ns ps)
  under : ∀ ns ps, Hill ns → Plc ns .non ps → (bgs (swp ns ps)).sum = prsL (bgs ns)
  bnc : ∀ ns ps, Hill ns → Plc ns .non ps → (bnc (swp ns ps)).sum = (bgs ns).sum
theorem len__law_right : ∀ ds M R, sp__law_right ds M R → ds.length = 1 := by rintro _ M R ⟨u, rfl, _⟩; rfl
theorem v__law_right (W : SwT) : ∀ ds M R, sp__law_right ds M R → t__law_right (endsF R) (dstart N__law_right ds) M := by
  rintro _ M R ⟨ns, rfl, h, k⟩
  have hlen := h.len
  have b1 := bgs_bd h
  have b2 := prsb_bd h
  have b3 := bnc_bd h
  have b4 := trn_bd hlen
  have bb : ∀ x ∈ bnc ns, x.natAbs < 1000000 := fun x hx => by have := b3.2 x hx; omega
  have sX : Shw (.list [pX (bgs ns).sum (prsL (bgs ns)) (bnc ns) (trnD ns), pX (bgs ns).sum (prsL (bgs ns)) (bnc ns) (trnD ns)]) := shw_X ⟨by omega, by omega, by omega, bb, by omega⟩
  have sR : Shw (pyL ns) := shw_L (hill_abs h) (by omega)
  simp only [t__law_right, dIfS_eq, dAnd_eq, dOr_eq, dIf_eq, dWhile_eq, dAndV_bl, dOrV_bl, dLc_eq, eName_eq, dSeq, dAsg, dVar, dC, dOp, dUn, dTest, dNot, dNotV, dChain, kII, kIC, kI, dCons, dNil, dTup, dLst, dNew, dFz, dFzS, dCB, dBM, dBM0, kLen, kInt_eq, asI_int, asI_bl, kSum, kIsi, kEq, kNe, kIsN, kNotN, kIx, kIxT, kInI, kAppend, kCountI, eNil, eCons, eTup, eSub, dDrop, dRet, dRetN, dNext, dNever, dBreak, dCont, dCallX, arr, Src.pick, dFor, iLst, iEnm, iZp, iRg1, iRg2, iEzp, dPart, dNoPart, dSl, dSlN, dLcN, dYes, kCat, kCatN, kRep, kRepN, dAug, dSrt, dPrs, dTrn, dIfS_eq, dwipe, asM, asL, asS, asW, tyD, kitB, dstart, scalD, eqD, isNonD, List.map_cons, List.map_nil, List.length_cons, List.length_nil, List.replicate, List.cons_append, List.nil_append, List.getElem?_cons_succ, List.getElem?_cons_zero, List.set_cons_zero, List.set_cons_succ, List.getD_cons_zero, List.getD_cons_succ, Nat.reduceAdd, Nat.reduceSub, Bool.not_true, Bool.not_false, ex_some, true_and, and_true, eq_self, List.append_nil, kAdd, kSub, kMod, kMul, kPow, kDiv, kLt, kLe, kGt, kGe, kNeg, aAdd, aSub, ex_lst, ex_some, ex_lst2, at3_0, at3_1, at3_2, at2_0, at2_1, at4_0, at4_1, at4_2, at4_3, ix3_0, ix3_1, ix3_2, mup_same, mup_mup, kRepr]
  refine ⟨pyL ns, res_L ns, sR, .inr rfl, ns, rfl, h, ns, rfl, h, ns, rfl, h, fun p1 hp1 => ⟨ns, rfl, h, by decide, ns, rfl, h, ns, rfl, h, ns, rfl, h, fun p2 hp2 => ⟨ns, rfl, h, by decide, ns, rfl, h, ns, rfl, h, ns, rfl, h, fun p3 hp3 => ⟨ns, rfl, h, by decide, by decide, ?_⟩⟩⟩⟩
  have n12 : p1 ≠ p2 := fun e => by subst e; rw [mup_same] at hp2; cases hp2
  have n13 : p1 ≠ p3 := fun e => by
    subst e; rw [mup_ne n12, mup_same] at hp3; cases hp3
  have n23 : p2 ≠ p3 := fun e => by subst e; rw [mup_same] at hp3; cases hp3
  generalize hM3 : mup (mup (mup M p1 (.lst ((bnc ns).map D.int))) p2 (.lst ((bnc ns).map D.int))) p3 (.lst ((bnc ns).map D.int)) = M3
  have a1 : M3 p1 = some (.lst ((bnc ns).map D.int)) := by rw [← hM3, mup_ne n13, mup_ne n12, mup_same]
  have a2 : M3 p2 = some (.lst ((bnc ns).map D.int)) := by rw [← hM3, mup_ne n23, mup_same]
  have a3 : M3 p3 = some (.lst ((bnc ns).map D.int)) := by rw [← hM3, mup_same]
  have sub : ∀ a m, M a = some m → M3 a = some m := fun a m e => by
    have e1 : a ≠ p1 := fun z => by rw [z, hp1] at e; cases e
    have e2 : a ≠ p2 := fun z => by rw [z] at e; rw [mup_ne n12.symm] at hp2; rw [hp2] at e; cases e
    have e3 : a ≠ p3 := fun z => by rw [z] at e; rw [mup_ne n23.symm, mup_ne n13.symm] at hp3; rw [hp3] at e; cases e
    rw [← hM3, mup_ne e3, mup_ne e2, mup_ne e1]; exact e
  have rX : ∀ {p : Addr}, M3 p = some (.lst ((bnc ns).map D.int)) → Res M3 (.lst [.int (bgs ns).sum, .int (prsL (bgs ns)), .ref p, .int (trnD ns)]) (pX (bgs ns).sum (prsL (bgs ns)) (bnc ns) (trnD ns)) := fun e =>
    .lst (.cons (.int _) (.cons (.int _) (.cons (res_ref e) (.cons (.int _) .nil))))
  refine ⟨_, .lst (.cons (rX a2) (.cons (rX a3) .nil)), sX, .inr rfl, by decide, _, .lst (.cons (rX a1) (.cons (rX a1) .nil)), sX, .inr rfl, fun hc => ?_, fun _ => ⟨pyL ns, res_L ns, sR, .inr rfl, fun hc => ?_, fun _ => ?_⟩⟩
  · simp at hc
  · simp at hc
  refine ⟨ns, .non, rfl, trivial, hlen, fun ps hps q hq => ⟨_, mup_same, ?_⟩⟩
  have W1 := W.hill ns ps h hps
  have W2 := W.under ns ps h hps
  have W3 := W.bnc ns ps h hps
  simp only [mdel_mup hq]
  refine ⟨swp ns ps, rfl, W1, swp ns ps, rfl, W1, fun q2 hq2 => ⟨_, mup_same, bnc (swp ns ps), rfl, ?_⟩⟩
  simp only [mdel_mup hq2, W2, W3]
  have s2 : Shw (.list [.int (prsL (bgs ns)), .int (bgs ns).sum]) := shw_2 (by omega) (by omega)
  have r2 : ∀ M', Res M' (.lst [.int (prsL (bgs ns)), .int (bgs ns).sum]) (.list [.int (prsL (bgs ns)), .int (bgs ns).sum]) := fun M' => .lst (.cons (.int _) (.cons (.int _) .nil))
  refine ⟨by decide, _, r2 _, s2, .inr rfl, by decide, _, r2 _, s2, .inr rfl, fun hc => ?_, fun _ => ⟨swp ns ps, rfl, W1, swp ns ps, rfl, W1, fun q3 hq3 => ⟨_, mup_same, bnc (swp ns ps), rfl, ?_⟩⟩⟩
  · simp at hc
  simp only [mdel_mup hq3, W2, W3]
  refine ⟨by decide, by decide, _, _, r2 _, r2 _, rfl, rfl, ?_⟩
  simp only [dIfS_eq, dAnd_eq, dOr_eq, dIf_eq, dWhile_eq, dAndV_bl, dOrV_bl, dLc_eq, eName_eq, dSeq, dAsg, dVar, dC, dOp, dUn, dTest, dNot, dNotV, dChain, kII, kIC, kI, dCons, dNil, dTup, dLst, dNew, dFz, dFzS, dCB, dBM, dBM0, kLen, kInt_eq, asI_int, asI_bl, kSum, kIsi, kEq, kNe, kIsN, kNotN, kIx, kIxT, kInI, kAppend, kCountI, eNil, eCons, eTup, eSub, dDrop, dRet, dRetN, dNext, dNever, dBreak, dCont, dCallX, arr, Src.pick, dFor, iLst, iEnm, iZp, iRg1, iRg2, iEzp, dPart, dNoPart, dSl, dSlN, dLcN, dYes, kCat, kCatN, kRep, kRepN, dAug, dSrt, dPrs, dTrn, dIfS_eq, dwipe, asM, asL, asS, asW, tyD, kitB, dstart, scalD, eqD, isNonD, List.map_cons, List.map_nil, List.length_cons, List.length_nil, List.replicate, List.cons_append, List.nil_append, List.getElem?_cons_succ, List.getElem?_cons_zero, List.set_cons_zero, List.set_cons_succ, List.getD_cons_zero, List.getD_cons_succ, Nat.reduceAdd, Nat.reduceSub, Bool.not_true, Bool.not_false, ex_some, true_and, and_true, eq_self, List.append_nil, kAdd, kSub, kMod, kMul, kPow, kDiv, kLt, kLe, kGt, kGe, kNeg, aAdd, aSub, ex_lst, ex_some, ex_lst2, at3_0, at3_1, at3_2, at2_0, at2_1, at4_0, at4_1, at4_2, at4_3, ix3_0, ix3_1, ix3_2, mup_same, mup_mup, eqv_2]
  refine ⟨fun h => (nomatch h), fun _ => ⟨⟨_, a2⟩, _, a2, by rw [List.length_map]; omega, ?_⟩⟩
  refine ⟨ns, rfl, h, fun q4 hq4 => ⟨_, mup_same, ?_⟩⟩
  rw [mdel_mup hq4]
  have sB : Shw (pyL (bnc ns)) := shw_L bb (by omega)
  refine ⟨pyL (bnc ns), res_L _, sB, .inr rfl, pyL (bnc ns), res_ref (by rw [mup_ne n12]; exact a1), sB, .inr rfl, true, by simp, fun _ => ⟨pyL ns, res_L ns, sR, .inr rfl, M, fun a m e => ?_, ?_⟩, fun h => (nomatch h)⟩
  · have e2 : a ≠ p2 := fun z => by
      rw [z] at e; rw [mup_ne n12.symm] at hp2; rw [hp2] at e; cases e
    rw [mup_ne e2]; exact sub a m e
  · rw [decide_eq_true rfl]; exact k

/-! ### the law -/
def Drw (M : Mp) (m : Int) (p : Addr) : Prop := ∃ a k b, M p = some (drw a k b) ∧ 0 ≤ k ∧ k ≤ m
theorem cutD_to (xs : List D) (k : Nat) : DL.cutD xs none (some (k : Int)) = xs.take k := by
  unfold DL.cutD
  rw [HT.sIx_nat, HT.sIx_none, List.drop_zero, Nat.sub_zero]
  by_cases h : k ≤ xs.length
  · rw [Nat.min_eq_left h]
  · rw [Nat.min_eq_right (by omega), List.take_length, List.take_of_length_le (by omega)]
def repI (xs : List Int) (n : Nat) : List Int := (List.replicate n xs).flatten
theorem repD_I (xs : List Int) (k : Int) : repD (xs.map D.int) k = (repI xs k.toNat).map D.int := by
  unfold repD repI
  rw [List.map_flatten, List.map_replicate]
def hillB (ns : List Int) : Bool := decide (ns.length ≤ 300) && ns.all (fun x => x == 1 || x == -1) && (hts ns).all (fun h => decide (0 ≤ h)) && decide (ns.sum = 0)
theorem hill_of {ns : List Int} (h : hillB ns = true) : Hill ns := by
  unfold hillB at h
  simp only [Bool.and_eq_true, decide_eq_true_eq, List.all_eq_true, Bool.or_eq_true, beq_iff_eq] at h
  exact ⟨h.1.1.1, h.1.1.2, h.1.2, h.2⟩
abbrev L1 : List Int := repI [1, -1] 150
abbrev L2x : List Int := repI [1] 150 ++ repI [-1] 150
abbrev L3 : List Int := repI [1, 1, -1, -1] 75
abbrev L4 : List Int := repI [1] 75 ++ repI [1, -1] 75 ++ repI [-1] 75
theorem hL1 : Hill L1 := hill_of (by decide +kernel)
theorem hL2 : Hill L2x := hill_of (by decide +kernel)
theorem hL3 : Hill L3 := hill_of (by decide +kernel)
theorem hL4 : Hill L4 := hill_of (by decide +kernel)
theorem eqv_ints : ∀ l : List Int, PyData.eqvAll (l.map PyData.int) (l.map PyData.int) = true
  | [] => rfl
  | x :: r => by
    rw [List.map_cons, PyData.eqvAll, eqv_ints r]
    simp [PyData.eqv]
theorem eqv_pyL (l : List Int) : PyData.eqv (pyL l) (pyL l) = true := by
  unfold pyL
  rw [PyData.eqv]
  simp [eqv_ints]
theorem lay_ints : ∀ l : List Int, PyData.canLayAll0 (l.map PyData.int) = true
  | [] => by simp [PyData.canLayAll0]
  | x :: r => by
    rw [List.map_cons, PyData.canLayAll0, lay_ints r]
    simp [PyData.canLay0]
theorem shaped_L (l : List Int) : SeqAt.shaped (pyL l) = true := by
  unfold SeqAt.shaped
  have h : (pyL l).canLay0 = true := by unfold pyL; rw [PyData.canLay0]; exact lay_ints l
  have h2 : (pyL l).depth ≤ 64 := by rw [depth_L]; decide
  rw [h, decide_eq_true h2]; rfl
theorem len_rep (xs : List D) (k : Int) : (repD xs k).length = k.toNat * xs.length := by
  unfold repD
  rw [List.length_flatten, List.map_replicate, List.sum_replicate_nat]
theorem crep_of {l : List D} {k : Int} (h0 : 0 ≤ k) (h : k ≤ 1000) (hl : l.length ≤ 4) : CRep l k := by
  refine ⟨⟨by omega, by omega⟩, ?_⟩
  have : l.length * k.toNat ≤ 4 * 1000 := Nat.mul_le_mul hl (by omega)
  omega
theorem drw_new {M : Mp} {p q : Addr} {m : Int} {o : MO} (hq : M q = none) (h : Drw M m p) : Drw (mup M q o) m p := by
  obtain ⟨a, k, b, e, r⟩ := h
  exact ⟨a, k, b, by rw [mup_ne (fun z => by subst z; rw [e] at hq; cases hq)]; exact e, r⟩
theorem len_law : ∀ ds M R, sp_law ds M R → ds.length = 1 := by rintro _ M R ⟨u, rfl, _⟩; rfl
theorem v_law : ∀ ds M R, sp_law ds M R → t_law (ends R) (dstart N_law ds) M := by
  rintro _ M R ⟨ns, rfl, h, k⟩
  have ec : DL.cutD (ns.map D.int) none (some 5) ++ [D.int 0] = (ns.take 5 ++ [0]).map D.int := by
    rw [show (5 : Int) = ((5 : Nat) : Int) from rfl, cutD_to, List.map_append, List.map_take]
    rfl
  have lc : (ns.take 5 ++ [0]).length ≤ 6 := by rw [List.length_append, List.length_take]; simp; omega
  have ed : (DL.cutD (ns.map D.int) none (some 5)).length + 1 = (ns.take 5 ++ [0]).length := by
    have := congrArg List.length ec
    rw [List.length_append, List.length_map] at this
    exact this
  simp only [t_law, dIfS_eq, dAnd_eq, dOr_eq, dIf_eq, dWhile_eq, dAndV_bl, dOrV_bl, dLc_eq, eName_eq, dSeq, dAsg, dVar, dC, dOp, dUn, dTest, dNot, dNotV, dChain, kII, kIC, kI, dCons, dNil, dTup, dLst, dNew, dFz, dFzS, dCB, dBM, dBM0, kLen, kInt_eq, asI_int, asI_bl, kSum, kIsi, kEq, kNe, kIsN, kNotN, kIx, kIxT, kInI, kAppend, kCountI, eNil, eCons, eTup, eSub, dDrop, dRet, dRetN, dNext, dNever, dBreak, dCont, dCallX, arr, Src.pick, dFor, iLst, iEnm, iZp, iRg1, iRg2, iEzp, dPart, dNoPart, dSl, dSlN, dLcN, dYes, kCat, kCatN, kRep, kRepN, dAug, dSrt, dPrs, dTrn, dIfS_eq, dwipe, asM, asL, asS, asW, tyD, kitB, dstart, scalD, eqD, isNonD, List.map_cons, List.map_nil, List.length_cons, List.length_nil, List.replicate, List.cons_append, List.nil_append, List.getElem?_cons_succ, List.getElem?_cons_zero, List.set_cons_zero, List.set_cons_succ, List.getD_cons_zero, List.getD_cons_succ, Nat.reduceAdd, Nat.reduceSub, Bool.not_true, Bool.not_false, ex_some, true_and, and_true, eq_self, List.append_nil, kAdd, kSub, kMod, kMul, kPow, kDiv, kLt, kLe, kGt, kGe, kNeg, aAdd, aSub, ex_lst, ex_some, ex_lst2, at3_0, at3_1, at3_2, at2_0, at2_1, at4_0, at4_1, at4_2, at4_3, ix3_0, ix3_1, ix3_2, mup_same, mup_mup, ec, ed, List.length_map]
  refine ⟨by decide, by omega, by omega, fun i acc M' => ∃ ps : List Addr, acc = ps.map D.ref ∧ ps.length ≤ i ∧ ∀ p ∈ ps, Drw M' 0 p, ⟨[], rfl, Nat.zero_le _, fun p hp => by simp at hp⟩, ?_, ?_⟩
  · rintro i x acc M' hx ⟨ps, rfl, hpl, hps⟩ _
    obtain ⟨v, hv, rfl⟩ := mapI_get hx
    refine ⟨fun _ => ⟨v, rfl, fun p a b hp => ⟨ps ++ [p], by rw [List.map_append]; rfl, by rw [List.length_append, List.length_singleton]; omega, fun q hq => ?_⟩⟩, fun h => (nomatch h)⟩
    rcases List.mem_append.mp hq with hq | hq
    · exact drw_new hp (hps q hq)
    · rw [List.mem_singleton.mp hq]
      exact ⟨a, 0, b, mup_same, Int.le_refl _, Int.le_refl _⟩
  rintro acc M' ⟨ps, rfl, hpl, hps⟩
  have hp6 : ps.length ≤ 6 := by omega
  refine ⟨fun i δ M' => ∃ x1 x4, δ = [some (.lk (ns.map D.int)), x1, none, none, x4, none] ∧ ∀ p ∈ ps, Drw M' (1000 * i) p, ⟨_, _, rfl, fun p hp => by simpa using hps p hp⟩, ?_, ?_⟩
  · rintro i x δ M' hx ⟨x1, x4, rfl, hd⟩
    have hx' : ∃ p, ps[i]? = some p ∧ x = .ref p := by
      rw [List.getElem?_map] at hx
      cases e : ps[i]? with
      | none => rw [e] at hx; cases hx
      | some p => rw [e] at hx; cases hx; exact ⟨p, rfl, rfl⟩
    obtain ⟨p, hp, rfl⟩ := hx'
    have hi := lt_of_get hp
    simp only [dIfS_eq, dAnd_eq, dOr_eq, dIf_eq, dWhile_eq, dAndV_bl, dOrV_bl, dLc_eq, eName_eq, dSeq, dAsg, dVar, dC, dOp, dUn, dTest, dNot, dNotV, dChain, kII, kIC, kI, dCons, dNil, dTup, dLst, dNew, dFz, dFzS, dCB, dBM, dBM0, kLen, kInt_eq, asI_int, asI_bl, kSum, kIsi, kEq, kNe, kIsN, kNotN, kIx, kIxT, kInI, kAppend, kCountI, eNil, eCons, eTup, eSub, dDrop, dRet, dRetN, dNext, dNever, dBreak, dCont, dCallX, arr, Src.pick, dFor, iLst, iEnm, iZp, iRg1, iRg2, iEzp, dPart, dNoPart, dSl, dSlN, dLcN, dYes, kCat, kCatN, kRep, kRepN, dAug, dSrt, dPrs, dTrn, dIfS_eq, dwipe, asM, asL, asS, asW, tyD, kitB, dstart, scalD, eqD, isNonD, List.map_cons, List.map_nil, List.length_cons, List.length_nil, List.replicate, List.cons_append, List.nil_append, List.getElem?_cons_succ, List.getElem?_cons_zero, List.set_cons_zero, List.set_cons_succ, List.getD_cons_zero, List.getD_cons_succ, Nat.reduceAdd, Nat.reduceSub, Bool.not_true, Bool.not_false, ex_some, true_and, and_true, eq_self, List.append_nil, kAdd, kSub, kMod, kMul, kPow, kDiv, kLt, kLe, kGt, kGe, kNeg, aAdd, aSub, ex_lst, ex_some, ex_lst2, at3_0, at3_1, at3_2, at2_0, at2_1, at4_0, at4_1, at4_2, at4_3, ix3_0, ix3_1, ix3_2, mup_same, mup_mup]
    refine ⟨by decide, fun j δ M2 => ∃ x4, δ = [some (.lk (ns.map D.int)), some (.ref p), none, none, x4, none] ∧ ∀ q ∈ ps, Drw M2 (1000 * i + 302 * j) q, ⟨_, rfl, fun q hq => by simpa using hd q hq⟩, ?_, ?_⟩
    · rintro j y δ M2 hy ⟨x4, rfl, hd2⟩
      obtain ⟨a, kk, b, e1, e2, e3⟩ := hd2 p (List.mem_of_getElem? hp)
      have hj : j < 3 := lt_of_get hy
      obtain ⟨most, rfl, m0, m1⟩ : ∃ most : Int, y = .int most ∧ 0 ≤ most ∧ most ≤ 150 := by
        match j, hy with
        | 0, hy => cases hy; exact ⟨6, rfl, by decide, by decide⟩
        | 1, hy => cases hy; exact ⟨30, rfl, by decide, by decide⟩
        | 2, hy => cases hy; exact ⟨150, rfl, by decide, by decide⟩
      simp only [dIfS_eq, dAnd_eq, dOr_eq, dIf_eq, dWhile_eq, dAndV_bl, dOrV_bl, dLc_eq, eName_eq, dSeq, dAsg, dVar, dC, dOp, dUn, dTest, dNot, dNotV, dChain, kII, kIC, kI, dCons, dNil, dTup, dLst, dNew, dFz, dFzS, dCB, dBM, dBM0, kLen, kInt_eq, asI_int, asI_bl, kSum, kIsi, kEq, kNe, kIsN, kNotN, kIx, kIxT, kInI, kAppend, kCountI, eNil, eCons, eTup, eSub, dDrop, dRet, dRetN, dNext, dNever, dBreak, dCont, dCallX, arr, Src.pick, dFor, iLst, iEnm, iZp, iRg1, iRg2, iEzp, dPart, dNoPart, dSl, dSlN, dLcN, dYes, kCat, kCatN, kRep, kRepN, dAug, dSrt, dPrs, dTrn, dIfS_eq, dwipe, asM, asL, asS, asW, tyD, kitB, dstart, scalD, eqD, isNonD, List.map_cons, List.map_nil, List.length_cons, List.length_nil, List.replicate, List.cons_append, List.nil_append, List.getElem?_cons_succ, List.getElem?_cons_zero, List.set_cons_zero, List.set_cons_succ, List.getD_cons_zero, List.getD_cons_succ, Nat.reduceAdd, Nat.reduceSub, Bool.not_true, Bool.not_false, ex_some, true_and, and_true, eq_self, List.append_nil, kAdd, kSub, kMod, kMul, kPow, kDiv, kLt, kLe, kGt, kGe, kNeg, aAdd, aSub, ex_lst, ex_some, ex_lst2, at3_0, at3_1, at3_2, at2_0, at2_1, at4_0, at4_1, at4_2, at4_3, ix3_0, ix3_1, ix3_2, mup_same, mup_mup]
      refine ⟨p, a, kk, b, most, rfl, e1, e2, by omega, m0, m1, fun q a' k' row hq k0 k1 hrow => ⟨_, mup_same, ?_⟩⟩
      have nq : mup M2 p (drw a' k' b) q = none := by rw [mup_ne (fun z => by subst z; rw [e1] at hq; cases hq)]; exact hq
      rw [mdel_mup nq]
      refine ⟨row, rfl, hrow, ?_⟩
      simp only [dIfS_eq, dAnd_eq, dOr_eq, dIf_eq, dWhile_eq, dAndV_bl, dOrV_bl, dLc_eq, eName_eq, dSeq, dAsg, dVar, dC, dOp, dUn, dTest, dNot, dNotV, dChain, kII, kIC, kI, dCons, dNil, dTup, dLst, dNew, dFz, dFzS, dCB, dBM, dBM0, kLen, kInt_eq, asI_int, asI_bl, kSum, kIsi, kEq, kNe, kIsN, kNotN, kIx, kIxT, kInI, kAppend, kCountI, eNil, eCons, eTup, eSub, dDrop, dRet, dRetN, dNext, dNever, dBreak, dCont, dCallX, arr, Src.pick, dFor, iLst, iEnm, iZp, iRg1, iRg2, iEzp, dPart, dNoPart, dSl, dSlN, dLcN, dYes, kCat, kCatN, kRep, kRepN, dAug, dSrt, dPrs, dTrn, dIfS_eq, dwipe, asM, asL, asS, asW, tyD, kitB, dstart, scalD, eqD, isNonD, List.map_cons, List.map_nil, List.length_cons, List.length_nil, List.replicate, List.cons_append, List.nil_append, List.getElem?_cons_succ, List.getElem?_cons_zero, List.set_cons_zero, List.set_cons_succ, List.getD_cons_zero, List.getD_cons_succ, Nat.reduceAdd, Nat.reduceSub, Bool.not_true, Bool.not_false, ex_some, true_and, and_true, eq_self, List.append_nil, kAdd, kSub, kMod, kMul, kPow, kDiv, kLt, kLe, kGt, kGe, kNeg, aAdd, aSub, ex_lst, ex_some, ex_lst2, at3_0, at3_1, at3_2, at2_0, at2_1, at4_0, at4_1, at4_2, at4_3, ix3_0, ix3_1, ix3_2, mup_same, mup_mup]
      refine ⟨fun h => (nomatch h), fun _ => ⟨_, rfl, fun r hr => ?_⟩⟩
      by_cases e : r = p
      · subst e
        exact ⟨a', k', b, mup_same, k0, by omega⟩
      · obtain ⟨a2, k2, b2, f1, f2, f3⟩ := hd2 r hr
        exact ⟨a2, k2, b2, by rw [mup_ne e]; exact f1, f2, by omega⟩
    · rintro δ M2 ⟨x4, rfl, hd2⟩
      refine ⟨_, _, rfl, fun q hq => ?_⟩
      obtain ⟨a2, k2, b2, f1, f2, f3⟩ := hd2 q hq
      exact ⟨a2, k2, b2, f1, f2, by omega⟩
  rintro δ M' ⟨x1, x4, rfl, hd⟩
  refine ⟨⟨by decide, by decide⟩, fun i δ M' => ∃ x1 x2 x3 x4, δ = [some (.lk (ns.map D.int)), x1, x2, x3, x4, none], ⟨_, _, _, _, rfl⟩, ?_, ?_⟩
  · rintro i x δ M' hx ⟨x1, x2, x3, x4, rfl⟩
    obtain ⟨hi, rfl⟩ := rangeD_get hx
    have hi' : i < 6 := hi
    simp only [dIfS_eq, dAnd_eq, dOr_eq, dIf_eq, dWhile_eq, dAndV_bl, dOrV_bl, dLc_eq, eName_eq, dSeq, dAsg, dVar, dC, dOp, dUn, dTest, dNot, dNotV, dChain, kII, kIC, kI, dCons, dNil, dTup, dLst, dNew, dFz, dFzS, dCB, dBM, dBM0, kLen, kInt_eq, asI_int, asI_bl, kSum, kIsi, kEq, kNe, kIsN, kNotN, kIx, kIxT, kInI, kAppend, kCountI, eNil, eCons, eTup, eSub, dDrop, dRet, dRetN, dNext, dNever, dBreak, dCont, dCallX, arr, Src.pick, dFor, iLst, iEnm, iZp, iRg1, iRg2, iEzp, dPart, dNoPart, dSl, dSlN, dLcN, dYes, kCat, kCatN, kRep, kRepN, dAug, dSrt, dPrs, dTrn, dIfS_eq, dwipe, asM, asL, asS, asW, tyD, kitB, dstart, scalD, eqD, isNonD, List.map_cons, List.map_nil, List.length_cons, List.length_nil, List.replicate, List.cons_append, List.nil_append, List.getElem?_cons_succ, List.getElem?_cons_zero, List.set_cons_zero, List.set_cons_succ, List.getD_cons_zero, List.getD_cons_succ, Nat.reduceAdd, Nat.reduceSub, Bool.not_true, Bool.not_false, ex_some, true_and, and_true, eq_self, List.append_nil, kAdd, kSub, kMod, kMul, kPow, kDiv, kLt, kLe, kGt, kGe, kNeg, aAdd, aSub, ex_lst, ex_some, ex_lst2, at3_0, at3_1, at3_2, at2_0, at2_1, at4_0, at4_1, at4_2, at4_3, ix3_0, ix3_1, ix3_2, mup_same, mup_mup]
    refine ⟨0 + (i : Int), rfl, by omega, by omega, fun rows hr q hq => ⟨_, mup_same, ?_⟩⟩
    rw [mdel_mup hq]
    refine ⟨fun j δ M2 => ∃ x1 x2 x3 x4, δ = [some (.lk (ns.map D.int)), x1, x2, x3, x4, none], ⟨_, _, _, _, rfl⟩, ?_, ?_⟩
    · rintro j y δ M2 hy ⟨x1, x2, x3, x4, rfl⟩
      rw [List.getElem?_map] at hy
      cases e : rows[j]? with
      | none => rw [e] at hy; cases hy
      | some r =>
        rw [e] at hy; cases hy
        simp only [dIfS_eq, dAnd_eq, dOr_eq, dIf_eq, dWhile_eq, dAndV_bl, dOrV_bl, dLc_eq, eName_eq, dSeq, dAsg, dVar, dC, dOp, dUn, dTest, dNot, dNotV, dChain, kII, kIC, kI, dCons, dNil, dTup, dLst, dNew, dFz, dFzS, dCB, dBM, dBM0, kLen, kInt_eq, asI_int, asI_bl, kSum, kIsi, kEq, kNe, kIsN, kNotN, kIx, kIxT, kInI, kAppend, kCountI, eNil, eCons, eTup, eSub, dDrop, dRet, dRetN, dNext, dNever, dBreak, dCont, dCallX, arr, Src.pick, dFor, iLst, iEnm, iZp, iRg1, iRg2, iEzp, dPart, dNoPart, dSl, dSlN, dLcN, dYes, kCat, kCatN, kRep, kRepN, dAug, dSrt, dPrs, dTrn, dIfS_eq, dwipe, asM, asL, asS, asW, tyD, kitB, dstart, scalD, eqD, isNonD, List.map_cons, List.map_nil, List.length_cons, List.length_nil, List.replicate, List.cons_append, List.nil_append, List.getElem?_cons_succ, List.getElem?_cons_zero, List.set_cons_zero, List.set_cons_succ, List.getD_cons_zero, List.getD_cons_succ, Nat.reduceAdd, Nat.reduceSub, Bool.not_true, Bool.not_false, ex_some, true_and, and_true, eq_self, List.append_nil, kAdd, kSub, kMod, kMul, kPow, kDiv, kLt, kLe, kGt, kGe, kNeg, aAdd, aSub, ex_lst, ex_some, ex_lst2, at3_0, at3_1, at3_2, at2_0, at2_1, at4_0, at4_1, at4_2, at4_3, ix3_0, ix3_1, ix3_2, mup_same, mup_mup]
        refine ⟨r, rfl, hr r (List.mem_of_getElem? e), ?_⟩
        simp only [dIfS_eq, dAnd_eq, dOr_eq, dIf_eq, dWhile_eq, dAndV_bl, dOrV_bl, dLc_eq, eName_eq, dSeq, dAsg, dVar, dC, dOp, dUn, dTest, dNot, dNotV, dChain, kII, kIC, kI, dCons, dNil, dTup, dLst, dNew, dFz, dFzS, dCB, dBM, dBM0, kLen, kInt_eq, asI_int, asI_bl, kSum, kIsi, kEq, kNe, kIsN, kNotN, kIx, kIxT, kInI, kAppend, kCountI, eNil, eCons, eTup, eSub, dDrop, dRet, dRetN, dNext, dNever, dBreak, dCont, dCallX, arr, Src.pick, dFor, iLst, iEnm, iZp, iRg1, iRg2, iEzp, dPart, dNoPart, dSl, dSlN, dLcN, dYes, kCat, kCatN, kRep, kRepN, dAug, dSrt, dPrs, dTrn, dIfS_eq, dwipe, asM, asL, asS, asW, tyD, kitB, dstart, scalD, eqD, isNonD, List.map_cons, List.map_nil, List.length_cons, List.length_nil, List.replicate, List.cons_append, List.nil_append, List.getElem?_cons_succ, List.getElem?_cons_zero, List.set_cons_zero, List.set_cons_succ, List.getD_cons_zero, List.getD_cons_succ, Nat.reduceAdd, Nat.reduceSub, Bool.not_true, Bool.not_false, ex_some, true_and, and_true, eq_self, List.append_nil, kAdd, kSub, kMod, kMul, kPow, kDiv, kLt, kLe, kGt, kGe, kNeg, aAdd, aSub, ex_lst, ex_some, ex_lst2, at3_0, at3_1, at3_2, at2_0, at2_1, at4_0, at4_1, at4_2, at4_3, ix3_0, ix3_1, ix3_2, mup_same, mup_mup]
        exact ⟨fun h => (nomatch h), fun _ => ⟨_, _, _, _, rfl⟩⟩
    · rintro δ M2 ⟨x1, x2, x3, x4, rfl⟩
      exact ⟨_, _, _, _, rfl⟩
  rintro δ M' ⟨x1, x2, x3, x4, rfl⟩
  have c : ∀ (l : List D) (k : Int), 0 ≤ k → k ≤ 1000 → l.length ≤ 4 → CRep l k := fun l k a b d => crep_of a b d
  have e1 : repD [D.int 1, D.int (-1)] 150 = L1.map D.int := repD_I [1, -1] 150
  have e2 : repD [D.int 1] 150 ++ repD [D.int (-1)] 150 = L2x.map D.int := by
    rw [show repD [D.int 1] 150 = (repI [1] 150).map D.int from repD_I [1] 150, show repD [D.int (-1)] 150 = (repI [-1] 150).map D.int from repD_I [-1] 150, ← List.map_append]
  have e3 : repD [D.int 1, D.int 1, D.int (-1), D.int (-1)] 75 = L3.map D.int := repD_I [1, 1, -1, -1] 75
  have e4 : repD [D.int 1] 75 ++ repD [D.int 1, D.int (-1)] 75 ++ repD [D.int (-1)] 75 = L4.map D.int := by
    rw [show repD [D.int 1] 75 = (repI [1] 75).map D.int from repD_I [1] 75, show repD [D.int 1, D.int (-1)] 75 = (repI [1, -1] 75).map D.int from repD_I [1, -1] 75, show repD [D.int (-1)] 75 = (repI [-1] 75).map D.int from repD_I [-1] 75, ← List.map_append, ← List.map_append]
  rw [e1, e2, e3, e4]
  refine ⟨by decide, c _ _ (by decide) (by decide) (by decide), by decide, c _ _ (by decide) (by decide) (by decide), by decide, c _ _ (by decide) (by decide) (by decide), ?_, by decide, c _ _ (by decide) (by decide) (by decide), by decide, c _ _ (by decide) (by decide) (by decide), by decide, c _ _ (by decide) (by decide) (by decide), ?_, by decide, c _ _ (by decide) (by decide) (by decide), ?_, by decide, fun i δ M' => ∃ x1 x2 x3 x4, δ = [some (.lk (ns.map D.int)), x1, x2, x3, x4, none], ⟨_, _, _, _, rfl⟩, ?_, ?_⟩
  · rw [len_rep, len_rep]; decide
  · rw [len_rep, len_rep]; decide
  · rw [List.length_append, len_rep, len_rep, len_rep]; decide
  · rintro i x δ M' hx ⟨x1, x2, x3, x4, rfl⟩
    have hx' : ∃ r, Hill r ∧ x = dI r := by
      have hi : i < 4 := lt_of_get hx
      match i, hx with
      | 0, hx => cases hx; exact ⟨_, hL1, rfl⟩
      | 1, hx => cases hx; exact ⟨_, hL2, rfl⟩
      | 2, hx => cases hx; exact ⟨_, hL3, rfl⟩
      | 3, hx => cases hx; exact ⟨_, hL4, rfl⟩
    obtain ⟨r, hr, rfl⟩ := hx'
    simp only [dIfS_eq, dAnd_eq, dOr_eq, dIf_eq, dWhile_eq, dAndV_bl, dOrV_bl, dLc_eq, eName_eq, dSeq, dAsg, dVar, dC, dOp, dUn, dTest, dNot, dNotV, dChain, kII, kIC, kI, dCons, dNil, dTup, dLst, dNew, dFz, dFzS, dCB, dBM, dBM0, kLen, kInt_eq, asI_int, asI_bl, kSum, kIsi, kEq, kNe, kIsN, kNotN, kIx, kIxT, kInI, kAppend, kCountI, eNil, eCons, eTup, eSub, dDrop, dRet, dRetN, dNext, dNever, dBreak, dCont, dCallX, arr, Src.pick, dFor, iLst, iEnm, iZp, iRg1, iRg2, iEzp, dPart, dNoPart, dSl, dSlN, dLcN, dYes, kCat, kCatN, kRep, kRepN, dAug, dSrt, dPrs, dTrn, dIfS_eq, dwipe, asM, asL, asS, asW, tyD, kitB, dstart, scalD, eqD, isNonD, List.map_cons, List.map_nil, List.length_cons, List.length_nil, List.replicate, List.cons_append, List.nil_append, List.getElem?_cons_succ, List.getElem?_cons_zero, List.set_cons_zero, List.set_cons_succ, List.getD_cons_zero, List.getD_cons_succ, Nat.reduceAdd, Nat.reduceSub, Bool.not_true, Bool.not_false, ex_some, true_and, and_true, eq_self, List.append_nil, kAdd, kSub, kMod, kMul, kPow, kDiv, kLt, kLe, kGt, kGe, kNeg, aAdd, aSub, ex_lst, ex_some, ex_lst2, at3_0, at3_1, at3_2, at2_0, at2_1, at4_0, at4_1, at4_2, at4_3, ix3_0, ix3_1, ix3_2, mup_same, mup_mup]
    refine ⟨r, rfl, hr, ?_⟩
    simp only [dIfS_eq, dAnd_eq, dOr_eq, dIf_eq, dWhile_eq, dAndV_bl, dOrV_bl, dLc_eq, eName_eq, dSeq, dAsg, dVar, dC, dOp, dUn, dTest, dNot, dNotV, dChain, kII, kIC, kI, dCons, dNil, dTup, dLst, dNew, dFz, dFzS, dCB, dBM, dBM0, kLen, kInt_eq, asI_int, asI_bl, kSum, kIsi, kEq, kNe, kIsN, kNotN, kIx, kIxT, kInI, kAppend, kCountI, eNil, eCons, eTup, eSub, dDrop, dRet, dRetN, dNext, dNever, dBreak, dCont, dCallX, arr, Src.pick, dFor, iLst, iEnm, iZp, iRg1, iRg2, iEzp, dPart, dNoPart, dSl, dSlN, dLcN, dYes, kCat, kCatN, kRep, kRepN, dAug, dSrt, dPrs, dTrn, dIfS_eq, dwipe, asM, asL, asS, asW, tyD, kitB, dstart, scalD, eqD, isNonD, List.map_cons, List.map_nil, List.length_cons, List.length_nil, List.replicate, List.cons_append, List.nil_append, List.getElem?_cons_succ, List.getElem?_cons_zero, List.set_cons_zero, List.set_cons_succ, List.getD_cons_zero, List.getD_cons_succ, Nat.reduceAdd, Nat.reduceSub, Bool.not_true, Bool.not_false, ex_some, true_and, and_true, eq_self, List.append_nil, kAdd, kSub, kMod, kMul, kPow, kDiv, kLt, kLe, kGt, kGe, kNeg, aAdd, aSub, ex_lst, ex_some, ex_lst2, at3_0, at3_1, at3_2, at2_0, at2_1, at4_0, at4_1, at4_2, at4_3, ix3_0, ix3_1, ix3_2, mup_same, mup_mup]
    exact ⟨fun h => (nomatch h), fun _ => ⟨_, _, _, _, rfl⟩⟩
  rintro δ M' ⟨x1, x2, x3, x4, rfl⟩
  refine ⟨by decide, c _ _ (by decide) (by decide) (by decide), by decide, c _ _ (by decide) (by decide) (by decide), ?_, L2x, rfl, hL2, by decide, c _ _ (by decide) (by decide) (by decide), L1, rfl, hL1, by decide, c _ _ (by decide) (by decide) (by decide), L1, rfl, hL1, by decide, by decide, ?_⟩
  · rw [len_rep, len_rep]; decide
  have w1 : (bgs L2x).sum = 11175 := by decide +kernel
  have w2 : prsL (bgs L1) = 11175 := by decide +kernel
  have w3 : trnD L1 = 22350 := by decide +kernel
  have w4 : bnc L1 = (List.range 150).map fun i : Nat => 149 - (i : Int) := by decide +kernel
  have w5 : bnc L2x = [0] := by decide +kernel
  have w6 : downD 149 (-1) = (bnc L1).map D.int := by rw [w4, List.map_map]; rfl
  rw [w1, w2, w3]
  refine ⟨_, _, res_L [11175, 11175, 22350], res_L [11175, 11175, 22350], shaped_L _, shaped_L _, ?_⟩
  rw [eqv_pyL]
  refine ⟨fun h => (nomatch h), fun _ => ⟨by decide, c _ _ (by decide) (by decide) (by decide), L1, rfl, hL1, fun p hp => ⟨_, mup_same, ?_⟩⟩⟩
  simp only [dLRg, dIfS_eq, dAnd_eq, dOr_eq, dIf_eq, dWhile_eq, dAndV_bl, dOrV_bl, dLc_eq, eName_eq, dSeq, dAsg, dVar, dC, dOp, dUn, dTest, dNot, dNotV, dChain, kII, kIC, kI, dCons, dNil, dTup, dLst, dNew, dFz, dFzS, dCB, dBM, dBM0, kLen, kInt_eq, asI_int, asI_bl, kSum, kIsi, kEq, kNe, kIsN, kNotN, kIx, kIxT, kInI, kAppend, kCountI, eNil, eCons, eTup, eSub, dDrop, dRet, dRetN, dNext, dNever, dBreak, dCont, dCallX, arr, Src.pick, dFor, iLst, iEnm, iZp, iRg1, iRg2, iEzp, dPart, dNoPart, dSl, dSlN, dLcN, dYes, kCat, kCatN, kRep, kRepN, dAug, dSrt, dPrs, dTrn, dIfS_eq, dwipe, asM, asL, asS, asW, tyD, kitB, dstart, scalD, eqD, isNonD, List.map_cons, List.map_nil, List.length_cons, List.length_nil, List.replicate, List.cons_append, List.nil_append, List.getElem?_cons_succ, List.getElem?_cons_zero, List.set_cons_zero, List.set_cons_succ, List.getD_cons_zero, List.getD_cons_succ, Nat.reduceAdd, Nat.reduceSub, Bool.not_true, Bool.not_false, ex_some, true_and, and_true, eq_self, List.append_nil, kAdd, kSub, kMod, kMul, kPow, kDiv, kLt, kLe, kGt, kGe, kNeg, aAdd, aSub, ex_lst, ex_some, ex_lst2, at3_0, at3_1, at3_2, at2_0, at2_1, at4_0, at4_1, at4_2, at4_3, ix3_0, ix3_1, ix3_2, mup_same, mup_mup]
  refine ⟨by decide, ?_⟩
  rw [w6]
  refine ⟨_, _, res_L _, res_L _, shaped_L _, shaped_L _, true, by rw [eqv_pyL], fun _ => ⟨by decide, c _ _ (by decide) (by decide) (by decide), by decide, c _ _ (by decide) (by decide) (by decide), ?_, L2x, rfl, hL2, fun q hq => ⟨_, mup_same, by decide, _, _, res_L _, res_L [0], shaped_L _, shaped_L _, ?_⟩⟩, fun h => (nomatch h)⟩
  · rw [len_rep, len_rep]; decide
  rw [w5, eqv_pyL]
  exact k _
theorem law_meets (ns : List Int) (h : ns.length ≤ 63) : sp_law [.lk (ns.map D.int)] (fun _ => none) fun r _ => r = .bl true := ⟨ns, rfl, h, fun _ => rfl⟩

/-! ### what the sweep of a hill is -/
def wsum (f : Int → Int → Int) : Int → List Int → Int
  | _, [] => 0
  | h, x :: r => f x (h + x) + wsum f (h + x) r
abbrev Pm (l : List Int) : Prop := ∀ x ∈ l, x = 1 ∨ x = -1
theorem wsum_append (f : Int → Int → Int) : ∀ (a b : List Int) (h : Int), wsum f h (a ++ b) = wsum f h a + wsum f (h + a.sum) b
  | [], b, h => by simp [wsum]
  | x :: a, b, h => by
    rw [List.cons_append, wsum, wsum, wsum_append f a b, List.sum_cons, Int.add_assoc, Int.add_assoc]
theorem wsum_congr {f g : Int → Int → Int} (e : ∀ x l, x = 1 ∨ x = -1 → f x l = g x l) : ∀ (a : List Int) (h : Int), Pm a → wsum f h a = wsum g h a
  | [], _, _ => rfl
  | x :: a, h, p => by
    rw [wsum, wsum, e x _ (p x (List.mem_cons_self ..)), wsum_congr e a _ fun y hy => p y (List.mem_cons_of_mem _ hy)]
theorem wsum_add (f g : Int → Int → Int) : ∀ (a : List Int) (h : Int), wsum (fun x l => f x l + g x l) h a = wsum f h a + wsum g h a
  | [], _ => by simp [wsum]
  | x :: a, h => by
    rw [wsum, wsum, wsum, wsum_add f g a]; omega
theorem wsum_nonneg {f : Int → Int → Int} (e : ∀ x l, 0 ≤ f x l) : ∀ (a : List Int) (h : Int), 0 ≤ wsum f h a
  | [], _ => Int.le_refl _
  | x :: a, h => by
    have h1 := e x (h + x)
    have h2 := wsum_nonneg e a (h + x)
    rw [wsum]; omega
/-- downs that end at c, ups that end at c -/
abbrev dnF (c : Int) : Int → Int → Int := fun x l => if x ≠ 1 ∧ l = c then 1 else 0
abbrev upF (c : Int) : Int → Int → Int := fun x l => if x = 1 ∧ l = c then 1 else 0
theorem pm_tail {x : Int} {r : List Int} (p : Pm (x :: r)) : Pm r := fun y hy => p y (List.mem_cons_of_mem _ hy)
theorem tele {c : Int} : ∀ (l : List Int) (h : Int), Pm l → wsum (fun x l => if c < l then x else 0) h l + max (h - c) 0 = wsum (dnF c) h l + max (h + l.sum - c) 0
  | [], h, _ => by simp [wsum]
  | x :: r, h, p => by
    have ih := tele (c := c) r (h + x) (pm_tail p)
    rw [wsum, wsum, List.sum_cons]
    rw [Int.add_assoc] at ih
    simp only [dnF] at ih ⊢
    rcases p x (List.mem_cons_self ..) with rfl | rfl <;> (split <;> split <;> omega)
theorem cross {c : Int} : ∀ (l : List Int) (h : Int), Pm l → wsum (upF (c + 1)) h l + (if c < h then 1 else 0) = wsum (dnF c) h l + (if c < h + l.sum then 1 else 0)
  | [], h, _ => by simp [wsum]
  | x :: r, h, p => by
    have ih := cross (c := c) r (h + x) (pm_tail p)
    rw [wsum, wsum, List.sum_cons]
    rw [Int.add_assoc] at ih
    simp only [dnF, upF] at ih ⊢
    rcases p x (List.mem_cons_self ..) with rfl | rfl <;> (repeat' split) <;> (repeat' split at ih) <;> omega
theorem cross_ge {c : Int} : ∀ (l : List Int) (h : Int), Pm l → wsum (fun x l => if x = 1 ∧ c < l then 1 else 0) h l + max (h - c) 0 = wsum (fun x l => if x ≠ 1 ∧ c ≤ l then 1 else 0) h l + max (h + l.sum - c) 0
  | [], h, _ => by simp [wsum]
  | x :: r, h, p => by
    have ih := cross_ge (c := c) r (h + x) (pm_tail p)
    rw [wsum, wsum, List.sum_cons]
    rw [Int.add_assoc] at ih
    rcases p x (List.mem_cons_self ..) with rfl | rfl <;> (repeat' split) <;> omega
theorem psum {a b : List Nat} (h : a.Perm b) (f : Nat → Int) : (a.map f).sum = (b.map f).sum := by
  induction h with
  | nil => rfl
  | cons x _ ih => simp only [List.map_cons, List.sum_cons, ih]
  | swap x y l => simp only [List.map_cons, List.sum_cons]; omega
  | trans _ _ h1 h2 => rw [h1, h2]
theorem sum_filter (p : Nat → Bool) (f : Nat → Int) : ∀ l : List Nat, ((l.filter p).map f).sum = (l.map fun q => if p q = true then f q else 0).sum
  | [] => rfl
  | x :: l => by
    rw [List.map_cons, List.sum_cons, ← sum_filter p f l]
    by_cases h : p x = true
    · rw [List.filter_cons_of_pos h, List.map_cons, List.sum_cons, if_pos h]
    · rw [List.filter_cons_of_neg h, if_neg h, Int.zero_add]
abbrev lvl (ns : List Int) (q : Nat) : Int := (hts ns).getD q 0
abbrev stp (ns : List Int) (q : Nat) : Int := ns.getD q 0
/-- q is taken ahead of u -/
def bef (ns : List Int) (u q : Nat) : Bool := decide (lvl ns u < lvl ns q ∨ (lvl ns q = lvl ns u ∧ u < q))
theorem lvl_at {ns A B : List Int} {x : Int} (e : ns = A ++ x :: B) : lvl ns A.length = A.sum + x := by
  have h := htsF_get ns 0 A.length (by rw [e, List.length_append, List.length_cons]; omega)
  unfold lvl
  rw [List.getD_eq_getElem?_getD, h, e, Option.getD_some, List.take_append, List.take_of_length_le (by omega)]
  rw [show A.length + 1 - A.length = 1 by omega, List.take_succ_cons, List.take_zero, List.sum_append, List.sum_singleton, Int.zero_add]
theorem stp_at {ns A B : List Int} {x : Int} (e : ns = A ++ x :: B) : stp ns A.length = x := by
  unfold stp
  rw [List.getD_eq_getElem?_getD, e, List.getElem?_append_right (Nat.le_refl _), Nat.sub_self]; rfl
theorem sum_wsum {ns : List Int} (f : Int → Int → Int) : ∀ B A : List Int, ns = A ++ B → ((List.range' A.length B.length).map fun q => f (stp ns q) (lvl ns q)).sum = wsum f A.sum B
  | [], A, _ => rfl
  | x :: B, A, e => by
    rw [List.length_cons, List.range'_succ, List.map_cons, List.sum_cons, wsum, stp_at e, lvl_at e]
    have ih := sum_wsum (ns := ns) f B (A ++ [x]) (by rw [e, List.append_assoc]; rfl)
    rw [List.length_append, List.length_singleton, List.sum_append, List.sum_singleton] at ih
    rw [ih]
theorem bef_sum {ns A B : List Int} {x : Int} (e : ns = A ++ x :: B) (f : Int → Int → Int) :
    (((List.range ns.length).filter (bef ns A.length)).map fun q => f (stp ns q) (lvl ns q)).sum = wsum (fun y l => if A.sum + x < l then f y l else 0) 0 (A ++ [x]) + wsum (fun y l => if A.sum + x ≤ l then f y l else 0) (A.sum + x) B := by
  have c := lvl_at e
  have en : ns.length = (A.length + 1) + B.length := by rw [e, List.length_append, List.length_cons]; omega
  rw [sum_filter, List.range_eq_range', en, ← List.range'_append_1, List.map_append, List.sum_append, Nat.zero_add]
  congr 1
  · have h := sum_wsum (ns := A ++ [x]) (fun y l => if A.sum + x < l then f y l else 0) (A ++ [x]) [] rfl
    rw [List.length_nil, List.length_append, List.length_singleton, List.sum_nil] at h
    rw [← h]
    congr 1
    refine List.map_congr_left fun q hq => ?_
    have hq' : q < A.length + 1 := by have := List.mem_range'_1.mp hq; omega
    have e1 : stp ns q = stp (A ++ [x]) q := by
      unfold stp
      rw [e, List.getD_eq_getElem?_getD, List.getD_eq_getElem?_getD, show A ++ x :: B = (A ++ [x]) ++ B by rw [List.append_assoc]; rfl, List.getElem?_append_left (by rw [List.length_append, List.length_singleton]; exact hq')]
    have e2 : lvl ns q = lvl (A ++ [x]) q := by
      unfold lvl
      rw [List.getD_eq_getElem?_getD, List.getD_eq_getElem?_getD, htsF_get ns 0 q (by omega), htsF_get (A ++ [x]) 0 q (by rw [List.length_append, List.length_singleton]; exact hq'), e, show A ++ x :: B = (A ++ [x]) ++ B by rw [List.append_assoc]; rfl, List.take_append_of_le_length (by rw [List.length_append, List.length_singleton]; exact hq')]
    rw [← e1, ← e2]
    unfold bef
    rw [c]
    by_cases z : A.sum + x < lvl ns q
    · rw [if_pos z, if_pos (decide_eq_true (.inl z))]
    · rw [if_neg z, if_neg]
      simp only [decide_eq_true_eq, not_or, not_and]
      exact ⟨z, fun _ => by omega⟩
  · have h := sum_wsum (ns := ns) (fun y l => if A.sum + x ≤ l then f y l else 0) B (A ++ [x]) (by rw [e, List.append_assoc]; rfl)
    rw [List.length_append, List.length_singleton, List.sum_append, List.sum_singleton] at h
    rw [← h]
    congr 1
    refine List.map_congr_left fun q hq => ?_
    have hq' : A.length < q := by have := List.mem_range'_1.mp hq; omega
    unfold bef
    rw [c]
    by_cases z : A.sum + x ≤ lvl ns q
    · rw [if_pos z, if_pos]
      simp only [decide_eq_true_eq]; omega
    · rw [if_neg z, if_neg]
      simp only [decide_eq_true_eq]; omega
/-- the height ahead of the step at a place, in the sweep -/
def pre (ns : List Int) (u : Nat) : Int := (((List.range ns.length).filter (bef ns u)).map (stp ns)).sum
theorem pre_eq {ns A B : List Int} {x : Int} (e : ns = A ++ x :: B) (H : Hill ns) : pre ns A.length = wsum (dnF (A.sum + x)) 0 (A ++ [x]) + wsum (upF (A.sum + x)) (A.sum + x) B := by
  have h := bef_sum e (fun y _ => y)
  have hc : 0 ≤ A.sum + x := by
    refine H.up _ ?_
    have := htsF_get ns 0 A.length (by rw [e, List.length_append, List.length_cons]; omega)
    rw [e, List.take_append, List.take_of_length_le (by omega), show A.length + 1 - A.length = 1 by omega, List.take_succ_cons, List.take_zero, List.sum_append, List.sum_singleton, Int.zero_add] at this
    rw [e]
    exact List.mem_of_getElem? this
  have pmB : Pm B := fun y hy => H.pm y (by rw [e]; exact List.mem_append_right _ (List.mem_cons_of_mem _ hy))
  have t := tele (c := A.sum + x) ns 0 H.pm
  have en : ns = (A ++ [x]) ++ B := by rw [e, List.append_assoc]; rfl
  have hs := H.sum
  rw [hs] at t
  rw [en, wsum_append _ (A ++ [x]) B, wsum_append (dnF _) (A ++ [x]) B] at t
  simp only [List.sum_append, List.sum_singleton, Int.zero_add] at t
  have s : wsum (fun y l => if A.sum + x ≤ l then y else 0) (A.sum + x) B + wsum (dnF (A.sum + x)) (A.sum + x) B = wsum (fun y l => if A.sum + x < l then y else 0) (A.sum + x) B + wsum (upF (A.sum + x)) (A.sum + x) B := by
    rw [← wsum_add, ← wsum_add]
    refine wsum_congr (fun y l hy => ?_) B _ pmB
    simp only [dnF, upF]
    rcases hy with rfl | rfl <;> (repeat' split) <;> omega
  unfold pre
  rw [show (fun q => stp ns q) = stp ns from rfl] at h
  rw [h]
  omega
theorem split_at {ns : List Int} {u : Nat} (h : u < ns.length) : ∃ A B, ns = A ++ stp ns u :: B ∧ A.length = u := by
  refine ⟨ns.take u, ns.drop (u + 1), ?_, by rw [List.length_take]; omega⟩
  have e : stp ns u = ns[u] := by
    unfold stp
    rw [List.getD_eq_getElem?_getD, List.getElem?_eq_getElem h]; rfl
  rw [e, List.getElem_cons_drop, List.take_append_drop]
theorem lvl_ge {ns : List Int} (H : Hill ns) (u : Nat) : 0 ≤ lvl ns u := by
  unfold lvl
  rw [List.getD_eq_getElem?_getD]
  cases e : (hts ns)[u]? with
  | none => exact Int.le_refl _
  | some x => exact H.up x (List.mem_of_getElem? e)
theorem key_bef {ns : List Int} (H : Hill ns) (q u : Nat) : keyLt (lvs ns .non) q u ↔ bef ns u q = true := by
  have h1 := lvl_ge H q
  have h2 := lvl_ge H u
  unfold keyLt bef
  simp only [lvs, decide_eq_true_eq]
  unfold lvl at h1 h2 ⊢
  omega
theorem bef_irr (ns : List Int) (u : Nat) : bef ns u u = false := by
  unfold bef; simp
theorem bef_asym {ns : List Int} {u q : Nat} (h : bef ns u q = true) : bef ns q u = false := by
  unfold bef at *
  simp only [decide_eq_true_eq, decide_eq_false_iff_not] at *
  omega
/-- the places ahead of one -/
theorem ahead_of {ns : List Int} {ps : List Nat} (H : Hill ns) (P : Plc ns .non ps) {A B : List Nat} {u : Nat} (e : ps = A ++ u :: B) : A.Perm ((List.range ns.length).filter (bef ns u)) := by
  have h1 := P.perm.filter (bef ns u)
  have o := P.ord
  rw [e] at h1 o
  obtain ⟨_, o2, o3⟩ := List.pairwise_append.mp o
  have f1 : A.filter (bef ns u) = A := List.filter_eq_self.mpr fun q hq => (key_bef H q u).mp (o3 q hq u (List.mem_cons_self ..))
  have f2 : (u :: B).filter (bef ns u) = [] := List.filter_eq_nil_iff.mpr fun q hq => by
    rcases List.mem_cons.mp hq with rfl | hq
    · rw [bef_irr]; decide
    · have := (key_bef H u q).mp ((List.pairwise_cons.mp o2).1 q hq)
      rw [bef_asym this]; decide
  rw [List.filter_append, f1, f2, List.append_nil] at h1
  exact h1
theorem swp_hts {ns : List Int} {ps : List Nat} (H : Hill ns) (P : Plc ns .non ps) : ∀ (B A : List Nat), ps = A ++ B → htsF (A.map (stp ns)).sum (B.map (stp ns)) = B.map fun u => pre ns u + stp ns u
  | [], _, _ => rfl
  | u :: B, A, e => by
    have ih := swp_hts H P B (A ++ [u]) (by rw [e, List.append_assoc]; rfl)
    rw [List.map_append, List.sum_append, List.map_singleton, List.sum_singleton] at ih
    rw [List.map_cons, htsF, ih, List.map_cons]
    unfold pre
    rw [psum (ahead_of H P e)]
theorem swp_bgs {ns : List Int} {ps : List Nat} (H : Hill ns) (P : Plc ns .non ps) : ∀ (B A : List Nat), ps = A ++ B → bgsF (A.map (stp ns)).sum (B.map (stp ns)) = (B.filter fun u => decide (stp ns u = 1)).map (pre ns)
  | [], _, _ => rfl
  | u :: B, A, e => by
    have ih := swp_bgs H P B (A ++ [u]) (by rw [e, List.append_assoc]; rfl)
    rw [List.map_append, List.sum_append, List.map_singleton, List.sum_singleton] at ih
    rw [List.map_cons, bgsF, ih]
    have ep : (A.map (stp ns)).sum = pre ns u := by unfold pre; rw [psum (ahead_of H P e)]
    by_cases h : stp ns u = 1
    · rw [if_pos h, List.filter_cons_of_pos (by simpa using h), List.map_cons, ep]
    · rw [if_neg h, List.filter_cons_of_neg (by simpa using h)]
theorem map_stp (ns : List Int) : (List.range ns.length).map (stp ns) = ns := by
  apply List.ext_getElem?
  intro i
  rw [List.getElem?_map]
  by_cases h : i < ns.length
  · rw [List.getElem?_range h, List.getElem?_eq_getElem h]
    show some (stp ns i) = _
    unfold stp
    rw [List.getD_eq_getElem?_getD, List.getElem?_eq_getElem h]; rfl
  · rw [List.getElem?_eq_none (by rw [List.length_range]; omega), List.getElem?_eq_none (by omega)]; rfl
theorem dnF_nn (c : Int) : ∀ x l, 0 ≤ dnF c x l := fun x l => by simp only [dnF]; split <;> omega
theorem upF_nn (c : Int) : ∀ x l, 0 ≤ upF c x l := fun x l => by simp only [upF]; split <;> omega
theorem pre_up {ns : List Int} (H : Hill ns) {u : Nat} (h : u < ns.length) : 0 ≤ pre ns u + stp ns u := by
  obtain ⟨A, B, e, hu⟩ := split_at h
  have pe := pre_eq e H
  rw [hu] at pe
  have px : stp ns u = 1 ∨ stp ns u = -1 := H.pm _ ((show ∀ y, ns = A ++ y :: B → y ∈ ns from fun y z => by rw [z]; exact List.mem_append_right _ (List.mem_cons_self ..)) _ e)
  have b1 := wsum_nonneg (upF_nn (A.sum + stp ns u)) B (A.sum + stp ns u)
  have b2 := wsum_nonneg (dnF_nn (A.sum + stp ns u)) A 0
  rw [wsum_append, wsum, wsum] at pe
  generalize stp ns u = x at *
  rw [Int.zero_add] at pe
  rcases px with rfl | rfl
  · rw [show dnF (A.sum + 1) 1 (A.sum + 1) = 0 from if_neg (by simp)] at pe
    omega
  · rw [show dnF (A.sum + -1) (-1) (A.sum + -1) = 1 from if_pos (by simp)] at pe
    omega
theorem swp_hill {ns : List Int} {ps : List Nat} (H : Hill ns) (P : Plc ns .non ps) : Hill (swp ns ps) := by
  have lp : ps.length = ns.length := by rw [P.perm.length_eq, List.length_range]
  have sw : swp ns ps = ps.map (stp ns) := rfl
  refine ⟨by rw [sw, List.length_map, lp]; exact H.len, fun x hx => ?_, fun h hh => ?_, ?_⟩
  · obtain ⟨j, hj, rfl⟩ := List.mem_map.mp hx
    obtain ⟨A, B, e, _⟩ := split_at (plc_lt P j hj)
    exact H.pm _ ((show ∀ y, ns = A ++ y :: B → y ∈ ns from fun y z => by rw [z]; exact List.mem_append_right _ (List.mem_cons_self ..)) _ e)
  · have e := swp_hts H P ps [] rfl
    rw [List.map_nil, List.sum_nil] at e
    rw [show hts (swp ns ps) = htsF 0 (ps.map (stp ns)) from rfl, e] at hh
    obtain ⟨u, hu, rfl⟩ := List.mem_map.mp hh
    exact pre_up H (plc_lt P u hu)
  · rw [sw, psum P.perm, map_stp, H.sum]
/-! ### the sum of the begins -/
def cnt (c : Int) (l : List Int) : Int := ((l.count c : Nat) : Int)
theorem cnt_cons (c x : Int) (l : List Int) : cnt c (x :: l) = cnt c l + if x = c then 1 else 0 := by
  unfold cnt
  rw [List.count_cons]
  by_cases h : x = c
  · subst h; simp
  · rw [if_neg (by simpa using h), if_neg h]; simp
def posSum (L1 : List Int) : List Int → Int
  | [] => 0
  | v :: r => cnt (v + 1) L1 + cnt v r + posSum (v :: L1) r
theorem posSum_eq : ∀ (L2 L1 : List Int), posSum L1 L2 = prsL L2 + (L2.map fun v => cnt (v + 1) L1).sum
  | [], _ => rfl
  | v :: r, L1 => by
    have key : ∀ r : List Int, (r.map fun b => cnt (b + 1) (v :: L1)).sum + cnt v r = ((r.filter (prB v)).length : Nat) + (r.map fun b => cnt (b + 1) L1).sum := fun r => by
      induction r with
      | nil => simp [cnt]
      | cons b r ih =>
        rw [List.map_cons, List.sum_cons, List.map_cons, List.sum_cons, cnt_cons, cnt_cons]
        by_cases h : prB v b = true
        · rw [List.filter_cons_of_pos h, List.length_cons]
          unfold prB at h
          simp only [decide_eq_true_eq] at h
          rcases h with h | h
          · rw [if_neg (by omega), if_pos (by omega)]; omega
          · rw [if_pos (by omega), if_neg (by omega)]; omega
        · rw [List.filter_cons_of_neg h]
          unfold prB at h
          simp only [decide_eq_true_eq, not_or] at h
          rw [if_neg (by omega), if_neg (by omega)]; omega
    have k := key r
    rw [posSum, posSum_eq r (v :: L1), prsL, List.map_cons, List.sum_cons]
    omega
theorem cnt_bgs (c : Int) : ∀ (l : List Int) (h : Int), cnt c (bgsF h l) = wsum (upF (c + 1)) h l
  | [], _ => rfl
  | x :: r, h => by
    rw [bgsF, wsum]
    simp only [upF]
    by_cases hx : x = 1
    · rw [if_pos hx, cnt_cons, cnt_bgs c r]
      by_cases hc : h = c
      · rw [if_pos hc, if_pos ⟨hx, by omega⟩]; omega
      · rw [if_neg hc, if_neg (by omega)]; omega
    · rw [if_neg hx, cnt_bgs c r, if_neg (fun z => hx z.1)]; omega
theorem cnt_rev (c x : Int) (a b : List Int) : cnt c (a ++ x :: b) = cnt c (x :: (a ++ b)) := by
  unfold cnt
  rw [List.count_append, List.count_cons, List.count_cons, List.count_append]; omega
theorem posSum_perm {L1 L1' : List Int} (h : ∀ c, cnt c L1 = cnt c L1') (L2 : List Int) : posSum L1 L2 = posSum L1' L2 := by
  rw [posSum_eq, posSum_eq]
  congr 2
  exact List.map_congr_left fun v _ => h _
theorem pre_pos {ns : List Int} (H : Hill ns) : ∀ (B A : List Int), ns = A ++ B → (((List.range' A.length B.length).filter fun u => decide (stp ns u = 1)).map (pre ns)).sum = posSum (bgsF 0 A) (bgsF A.sum B)
  | [], _, _ => rfl
  | x :: B, A, e => by
    have ih := pre_pos H B (A ++ [x]) (by rw [e, List.append_assoc]; rfl)
    rw [List.length_append, List.length_singleton, List.sum_append, List.sum_singleton, bgsF_snoc, Int.zero_add] at ih
    rw [List.length_cons, List.range'_succ, bgsF]
    have es := stp_at e
    by_cases hx : x = 1
    · rw [if_pos hx, List.filter_cons_of_pos (by rw [es]; simpa using hx), List.map_cons, List.sum_cons, ih, if_pos hx, posSum]
      have pe := pre_eq e H
      have pmA : Pm A := fun y hy => H.pm y (by rw [e]; exact List.mem_append_left _ hy)
      have cr := cross (c := A.sum + 1) A 0 pmA
      have up0 : 0 ≤ A.sum + x := by have := lvl_at e; rw [← this]; exact lvl_ge H _
      rw [posSum_perm (L1 := bgsF 0 A ++ [A.sum]) (L1' := A.sum :: bgsF 0 A) (fun c => by have := cnt_rev c A.sum (bgsF 0 A) []; rw [List.append_nil] at this; exact this), cnt_bgs, cnt_bgs, pe, wsum_append, wsum, wsum]
      subst hx
      rw [if_neg (by omega), if_neg (by omega)] at cr
      rw [show dnF (A.sum + 1) 1 (0 + A.sum + 1) = 0 from if_neg (by simp)]
      omega
    · rw [if_neg hx, List.filter_cons_of_neg (by rw [es]; simpa using hx), ih, if_neg hx, List.append_nil]
theorem swp_under {ns : List Int} {ps : List Nat} (H : Hill ns) (P : Plc ns .non ps) : (bgs (swp ns ps)).sum = prsL (bgs ns) := by
  have e := swp_bgs H P ps [] rfl
  rw [List.map_nil, List.sum_nil] at e
  rw [show bgs (swp ns ps) = bgsF 0 (ps.map (stp ns)) from rfl, e, psum (P.perm.filter _), List.range_eq_range']
  have h := pre_pos H ns [] rfl
  rw [List.length_nil, List.sum_nil] at h
  rw [h, posSum_eq]
  have z : ((bgsF 0 ns).map fun v => cnt (v + 1) (bgsF 0 [])).sum = 0 := by
    generalize bgsF 0 ns = l
    induction l with
    | nil => rfl
    | cons a l ih => rw [List.map_cons, List.sum_cons, ih]; rfl
  rw [z, Int.add_zero]
/-! ### the sum of the bounces -/
abbrev gtF (c : Int) : Int → Int → Int := fun x l => if x = 1 ∧ c < l then 1 else 0
abbrev dgF (c : Int) : Int → Int → Int := fun x l => if x ≠ 1 ∧ c ≤ l then 1 else 0
theorem wsum_mono {f g : Int → Int → Int} (e : ∀ x l, f x l ≤ g x l) : ∀ (a : List Int) (h : Int), wsum f h a ≤ wsum g h a
  | [], _ => Int.le_refl _
  | x :: a, h => by
    have h1 := e x (h + x)
    have h2 := wsum_mono e a (h + x)
    rw [wsum, wsum]; omega
theorem first_up {v : Int} : ∀ (l : List Int) (h : Int), Pm l → h ≤ v → 0 < wsum (gtF v) h l → ∃ A B, l = A ++ 1 :: B ∧ h + A.sum = v ∧ ∀ f : Int → Int → Int, (∀ x z, z ≤ v → f x z = 0) → wsum f h A = 0
  | [], h, _, _, w => by simp [wsum] at w
  | x :: r, h, p, hv, w => by
    by_cases hx : h = v ∧ x = 1
    · exact ⟨[], r, by rw [hx.2]; rfl, by simp [hx.1], fun f _ => rfl⟩
    · have hv2 : h + x ≤ v := by rcases p x (List.mem_cons_self ..) with e | e <;> omega
      rw [wsum, show gtF v x (h + x) = 0 from if_neg (by omega), Int.zero_add] at w
      obtain ⟨A, B, e1, e2, e3⟩ := first_up r (h + x) (pm_tail p) hv2 w
      refine ⟨x :: A, B, by rw [e1]; rfl, by rw [List.sum_cons]; omega, fun f hf => ?_⟩
      rw [wsum, hf _ _ hv2, e3 f hf]; rfl
def pdn (ns : List Int) (u : Nat) : Int := (((List.range ns.length).filter (bef ns u)).map fun q => if stp ns q = 1 then (0 : Int) else 1).sum
theorem swp_ahd {ns : List Int} {ps : List Nat} (H : Hill ns) (P : Plc ns .non ps) : ∀ (B A : List Nat), ps = A ++ B → ahdF ((A.map fun q => if stp ns q = 1 then (0 : Int) else 1).sum) (B.map (stp ns)) = (B.filter fun u => decide (stp ns u = 1)).map (pdn ns)
  | [], _, _ => rfl
  | u :: B, A, e => by
    have ih := swp_ahd H P B (A ++ [u]) (by rw [e, List.append_assoc]; rfl)
    rw [List.map_append, List.sum_append, List.map_singleton, List.sum_singleton] at ih
    have ep : (A.map fun q => if stp ns q = 1 then (0 : Int) else 1).sum = pdn ns u := by unfold pdn; rw [psum (ahead_of H P e)]
    rw [List.map_cons, ahdF]
    by_cases h : stp ns u = 1
    · rw [if_pos h, Int.add_zero] at ih
      rw [if_pos h, ih, List.filter_cons_of_pos (by simpa using h), List.map_cons, ep]
    · rw [if_neg h] at ih
      rw [if_neg h, ih, List.filter_cons_of_neg (by simpa using h)]
theorem len_sum (ns : List Int) : ∀ l : List Nat, (((l.filter fun u => decide (stp ns u = 1)).length : Nat) : Int) = (l.map fun q => if stp ns q = 1 then (1 : Int) else 0).sum
  | [] => rfl
  | x :: l => by
    rw [List.map_cons, List.sum_cons, ← len_sum ns l]
    by_cases h : stp ns x = 1
    · rw [if_pos h, List.filter_cons_of_pos (by simpa using h), List.length_cons]; omega
    · rw [if_neg h, List.filter_cons_of_neg (by simpa using h)]; omega
theorem bef_up {ns A B : List Int} {v : Int} (e : ns = A ++ 1 :: B) (hv : A.sum = v) (hA : ∀ f : Int → Int → Int, (∀ x z, z ≤ v → f x z = 0) → wsum f 0 A = 0) (H : Hill ns) :
    (((List.range ns.length).filter (bef ns A.length)).map fun q => if stp ns q = 1 then (1 : Int) else 0).sum = wsum (gtF v) 0 ns - 1 ∧ pdn ns A.length = wsum (gtF (v + 1)) 0 ns := by
  have h1 := bef_sum e fun y _ => if y = 1 then (1 : Int) else 0
  have h2 := bef_sum e fun y _ => if y = 1 then (0 : Int) else 1
  have pmB : Pm B := fun y hy => H.pm y (by rw [e]; exact List.mem_append_right _ (List.mem_cons_of_mem _ hy))
  have cg := cross_ge (c := v + 1) ns 0 H.pm
  rw [H.sum] at cg
  have g1 : ∀ f : Int → Int → Int, wsum f 0 ns = wsum f 0 A + (f 1 (v + 1) + wsum f (v + 1) B) := fun f => by
    rw [e, wsum_append, wsum, Int.zero_add, hv]
  have cB1 : wsum (fun y l => if v + 1 ≤ l then (if y = 1 then (1 : Int) else 0) else 0) (v + 1) B = wsum (gtF v) (v + 1) B :=
    wsum_congr (fun y l _ => by simp only [gtF]; (repeat' split) <;> omega) B _ pmB
  have cB2 : wsum (fun y l => if v + 1 ≤ l then (if y = 1 then (0 : Int) else 1) else 0) (v + 1) B = wsum (dgF (v + 1)) (v + 1) B :=
    wsum_congr (fun y l _ => by simp only [dgF]; (repeat' split) <;> omega) B _ pmB
  rw [hv, cB1, wsum_append, hA _ (fun x z hz => if_neg (by omega)), wsum, wsum, Int.zero_add, hv] at h1
  rw [hv, cB2, wsum_append, hA _ (fun x z hz => if_neg (by omega)), wsum, wsum, Int.zero_add, hv] at h2
  constructor
  · rw [h1, g1, hA _ (fun x z hz => if_neg (by omega)), show gtF v 1 (v + 1) = 1 from if_pos ⟨rfl, by omega⟩, if_neg (by omega)]
    omega
  · unfold pdn
    have g2 := g1 (dgF (v + 1))
    rw [hA _ (fun x z hz => if_neg (by omega)), show dgF (v + 1) 1 (v + 1) = 0 from if_neg (fun z => z.1 rfl)] at g2
    have cg' : wsum (gtF (v + 1)) 0 ns + max (0 - (v + 1)) 0 = wsum (dgF (v + 1)) 0 ns + max (0 + 0 - (v + 1)) 0 := cg
    rw [h2, if_neg (by omega)]
    omega
theorem ahd_step {ns : List Int} {ps : List Nat} (H : Hill ns) (P : Plc ns .non ps) {v : Int} (h0 : 0 ≤ v) (hc : 0 < wsum (gtF v) 0 ns) : (ahd (swp ns ps)).getD (wsum (gtF v) 0 ns - 1).toNat 0 = wsum (gtF (v + 1)) 0 ns := by
  obtain ⟨A, B, e, hv, hA⟩ := first_up ns 0 H.pm h0 hc
  rw [Int.zero_add] at hv
  obtain ⟨r1, r2⟩ := bef_up e hv hA H
  have hm : A.length ∈ ps := P.perm.mem_iff.mpr (List.mem_range.mpr (by rw [e, List.length_append, List.length_cons]; omega))
  obtain ⟨U, W, eu⟩ := List.append_of_mem hm
  have e2 := swp_ahd H P ps [] rfl
  rw [List.map_nil, List.sum_nil] at e2
  rw [show ahd (swp ns ps) = ahdF 0 (ps.map (stp ns)) from rfl, e2]
  have ef : (ps.filter fun u => decide (stp ns u = 1)) = (U.filter fun u => decide (stp ns u = 1)) ++ A.length :: W.filter fun u => decide (stp ns u = 1) := by
    rw [eu, List.filter_append, List.filter_cons_of_pos (by rw [stp_at e]; rfl)]
  have el : (wsum (gtF v) 0 ns - 1).toNat = (U.filter fun u => decide (stp ns u = 1)).length := by
    have := len_sum ns U
    rw [psum (ahead_of H P eu), r1] at this
    omega
  rw [ef, List.map_append, List.map_cons, List.getD_eq_getElem?_getD, List.getElem?_append_right (by rw [List.length_map, el]; exact Nat.le_refl _), List.length_map, el, Nat.sub_self, List.getElem?_cons_zero, r2]
  rfl
def ovr (v : Int) (l : List Int) : Int := (l.map fun b => max (b - v) 0).sum
theorem gt_bgs (v : Int) : ∀ (l : List Int) (h : Int), wsum (gtF v) h l = ((bgsF h l).map fun b => if v ≤ b then (1 : Int) else 0).sum
  | [], _ => rfl
  | x :: r, h => by
    rw [wsum, bgsF, gt_bgs v r]
    by_cases hx : x = 1
    · rw [if_pos hx, List.map_cons, List.sum_cons]
      congr 1
      simp only [gtF]
      (repeat' split) <;> omega
    · rw [if_neg hx, show gtF v x (h + x) = 0 from if_neg (fun z => hx z.1), Int.zero_add]
theorem ovr_step (v : Int) : ∀ l : List Int, ovr v l = (l.map fun b => if v + 1 ≤ b then (1 : Int) else 0).sum + ovr (v + 1) l
  | [] => rfl
  | b :: l => by
    have ih := ovr_step v l
    unfold ovr at *
    rw [List.map_cons, List.sum_cons, List.map_cons, List.sum_cons, List.map_cons, List.sum_cons, ih]
    split <;> omega
theorem ovr_none {v : Int} : ∀ l : List Int, (l.map fun b => if v ≤ b then (1 : Int) else 0).sum ≤ 0 → ovr v l = 0
  | [], _ => rfl
  | b :: l, h => by
    have nn : ∀ l : List Int, 0 ≤ (l.map fun b => if v ≤ b then (1 : Int) else 0).sum := fun l => by
      induction l with
      | nil => exact Int.le_refl _
      | cons a l ih => rw [List.map_cons, List.sum_cons]; split <;> omega
    have n := nn l
    rw [List.map_cons, List.sum_cons] at h
    have ih := ovr_none (v := v) l (by split at h <;> omega)
    unfold ovr at *
    rw [List.map_cons, List.sum_cons, ih]
    split at h <;> omega
theorem swp_bncF {ns : List Int} {ps : List Nat} (H : Hill ns) (P : Plc ns .non ps) : ∀ (f : Nat) (v : Int), 0 ≤ v → 200 ≤ f + v → (bncF (ahd (swp ns ps)) f (wsum (gtF v) 0 ns)).sum = ovr v (bgs ns)
  | 0, v, h0, hf => by
    have z : ovr v (bgs ns) = 0 := by
      refine ovr_none _ ?_
      have key : ∀ l : List Int, (∀ b ∈ l, b ≤ 149) → (l.map fun b => if v ≤ b then (1 : Int) else 0).sum = 0 := fun l hl => by
        induction l with
        | nil => rfl
        | cons a l ih =>
          have := hl a (List.mem_cons_self ..)
          rw [List.map_cons, List.sum_cons, ih fun b hb => hl b (List.mem_cons_of_mem _ hb), if_neg (by omega)]; rfl
      rw [key _ fun b hb => (hill_bg H hb).2]
      exact Int.le_refl _
    rw [z]; rfl
  | f + 1, v, h0, hf => by
    rw [bncF]
    by_cases hc : 0 < wsum (gtF v) 0 ns
    · have ih := swp_bncF H P f (v + 1) (by omega) (by omega)
      rw [if_pos hc, ahd_step H P h0 hc]
      show (_ :: bncF _ _ _).sum = _
      rw [List.sum_cons, ih, ovr_step v, gt_bgs]
    · rw [if_neg hc]
      rw [ovr_none _ (by rw [← gt_bgs]; omega)]; rfl
theorem swp_bnc {ns : List Int} {ps : List Nat} (H : Hill ns) (P : Plc ns .non ps) : (bnc (swp ns ps)).sum = (bgs ns).sum := by
  have e2 := swp_ahd H P ps [] rfl
  rw [List.map_nil, List.sum_nil] at e2
  have hl : (((ahd (swp ns ps)).length : Nat) : Int) = wsum (gtF 0) 0 ns := by
    rw [show ahd (swp ns ps) = ahdF 0 (ps.map (stp ns)) from rfl, e2, List.length_map, len_sum, psum P.perm]
    have h := sum_wsum (ns := ns) (fun y _ => if y = 1 then (1 : Int) else 0) ns [] rfl
    rw [List.length_nil, List.sum_nil, ← List.range_eq_range'] at h
    rw [h, gt_bgs]
    have key : ∀ (l : List Int) (h : Int), (∀ b ∈ bgsF h l, 0 ≤ b) → wsum (fun y _ => if y = 1 then (1 : Int) else 0) h l = ((bgsF h l).map fun b => if (0 : Int) ≤ b then (1 : Int) else 0).sum := fun l => by
      induction l with
      | nil => intro h _; rfl
      | cons x r ih =>
        intro h hb
        rw [bgsF] at hb ⊢
        rw [wsum]
        by_cases hx : x = 1
        · rw [if_pos hx] at hb ⊢
          rw [if_pos hx, List.map_cons, List.sum_cons, if_pos (hb h (List.mem_cons_self ..)), ih _ fun b hq => hb b (List.mem_cons_of_mem _ hq)]
        · rw [if_neg hx] at hb ⊢
          rw [if_neg hx, Int.zero_add, ih _ hb]
    exact key ns 0 fun b hb => (hill_bg H hb).1
  unfold bnc
  rw [hl, swp_bncF H P 400 0 (Int.le_refl _) (by omega)]
  have key : ∀ l : List Int, (∀ b ∈ l, 0 ≤ b) → ovr 0 l = l.sum := fun l hl => by
    induction l with
    | nil => rfl
    | cons a l ih =>
      have h1 := hl a (List.mem_cons_self ..)
      have h2 := ih fun b hb => hl b (List.mem_cons_of_mem _ hb)
      unfold ovr at *
      rw [List.map_cons, List.sum_cons, List.sum_cons, h2]; omega
  exact key _ fun b hb => (hill_bg H hb).1
theorem swT : SwT := ⟨fun _ _ H P => swp_hill H P, fun _ _ H P => swp_under H P, fun _ _ H P => swp_bnc H P⟩

end KT

namespace KT
open PySem PySem.Spec PyProof.Rows L2 DL
def topS (i : Nat) : Stmt := PySem.Challenge.pw_sweepsteps_k30_whole_even_hills.main.body.getD i (.Pass ⟨0, 0, 0, 0⟩)
abbrev s_is_whole : Stmt := topS 6
abbrev s_check_from : Stmt := topS 7
abbrev s_check_steps : Stmt := topS 8
abbrev s_heights_in : Stmt := topS 9
abbrev s_first_below : Stmt := topS 11
abbrev s_check_modulus : Stmt := topS 13
abbrev s_places_in : Stmt := topS 14
abbrev s_swept_in : Stmt := topS 15
abbrev s_swept : Stmt := topS 16
abbrev s_check_hill : Stmt := topS 18
abbrev s_begins_in : Stmt := topS 19
abbrev s_pairs_in : Stmt := topS 20
abbrev s_turns_in : Stmt := topS 21
abbrev s_under : Stmt := topS 22
abbrev s_count_pairs : Stmt := topS 23
abbrev s_bounces : Stmt := topS 24
abbrev s_turn_sum : Stmt := topS 25
abbrev s__law_draws : Stmt := topS 27
abbrev s__law_next : Stmt := topS 28
abbrev s__law_drawn : Stmt := topS 29
abbrev s__law_all : Stmt := topS 30
abbrev s__law_begins : Stmt := topS 31
abbrev s__law_under : Stmt := topS 32
abbrev s__law_pairs : Stmt := topS 33
abbrev s__law_bounces : Stmt := topS 34
abbrev s__law_turns : Stmt := topS 35
abbrev s__law_right : Stmt := topS 36
abbrev s_law : Stmt := topS 37
theorem ok_is_whole {P : Program} {w : World} {K : PySem.W.Frag} {mg : Str → Option Value} {base : Heap} {T : List (Addr × Str)} {f : Addr} {fd : FuncData} {cd : Value} (FU : DefAt K mg "is_whole" s_is_whole f fd cd)
    (b_bool : mg "bool" = none)
    (b_int : mg "int" = none)
    (b_isinstance : mg "isinstance" = none) :
    FnX P w K mg base false 1 f fd ["thing"] (spD T K sp_is_whole) := by
  have S : FnScope ["thing"] ["thing"] (defScope s_is_whole) := ⟨rfl, rfl, rfl, by decide +kernel, rfl, by decide +kernel, by decide +kernel⟩
  exact okX (k := 0) FU.fx S len_is_whole (fun A outer s H hr hq =>
    (ss_one (s_ret (q_and (q_callB c_isi (by rfl) b_isinstance boot_isinstance (a_cons (qv 0) (a_cons (q_ty (by rfl) b_int boot_int) a_nil))) (q_one (q_not (q_callB c_isi (by rfl) b_isinstance boot_isinstance (a_cons (qv 0) (a_cons (q_ty (by rfl) b_bool boot_bool) a_nil))))))))) v_is_whole

theorem ok_check_from {P : Program} {w : World} {K : PySem.W.Frag} {mg : Str → Option Value} {base : Heap} {T : List (Addr × Str)} {f : Addr} {fd : FuncData} {cd : Value} (FU : DefAt K mg "check_from" s_check_from f fd cd)
    {f_is_whole : Addr} {fd_is_whole : FuncData} {cd_is_whole : Value} (D_is_whole : DefAt K mg "is_whole" s_is_whole f_is_whole fd_is_whole cd_is_whole) (F_is_whole : FnX P w K mg base false 1 f_is_whole fd_is_whole ["thing"] (spD T K sp_is_whole))
    (A_is_whole_1 : KA K fd_is_whole ["thing"] 1 [] [.p 0]) :
    FnX P w K mg base false 2 f fd ["number", "least"] (spD T K sp_check_from) := by
  have S : FnScope ["number", "least"] ["number", "least"] (defScope s_check_from) := ⟨rfl, rfl, rfl, by decide +kernel, rfl, by decide +kernel, by decide +kernel⟩
  exact okX (k := 1) FU.fx S len_check_from (fun A outer s H hr hq =>
    (ss_one (s_if (DPW.pt (w_or (q_tnot (q_tval (q_cx F_is_whole (hr.mono (by decide)) (fun z => nomatch z) (by rfl) D_is_whole.mg D_is_whole.fx.kp A_is_whole_1 (a_cons (qv 0) a_nil)))) (w_or1 (q_tcmp o_lt (qv 0) (qv 1))))) (ss_one s_never) ss_nil))) v_check_from

theorem ok_check_steps {P : Program} {w : World} {K : PySem.W.Frag} {mg : Str → Option Value} {base : Heap} {T : List (Addr × Str)} {f : Addr} {fd : FuncData} {cd : Value} (FU : DefAt K mg "check_steps" s_check_steps f fd cd)
    {f_is_whole : Addr} {fd_is_whole : FuncData} {cd_is_whole : Value} (D_is_whole : DefAt K mg "is_whole" s_is_whole f_is_whole fd_is_whole cd_is_whole) (F_is_whole : FnX P w K mg base false 1 f_is_whole fd_is_whole ["thing"] (spD T K sp_is_whole))
    (A_is_whole_1 : KA K fd_is_whole ["thing"] 1 [] [.p 0])
    (b_enumerate : mg "enumerate" = none)
    (b_isinstance : mg "isinstance" = none)
    (b_len : mg "len" = none)
    (b_list : mg "list" = none)
    (c_MOST_STEPS : ∃ t, mg "MOST_STEPS" = some (.int 300 t)) :
    FnX P w K mg base false 2 f fd ["steps"] (spD T K sp_check_steps) := by
  obtain ⟨t_MOST_STEPS, c_MOST_STEPS⟩ := c_MOST_STEPS
  have S : FnScope ["steps", "index", "step"] ["steps"] (defScope s_check_steps) := ⟨rfl, rfl, rfl, by decide +kernel, rfl, by decide +kernel, by decide +kernel⟩
  exact okX (k := 1) FU.fx S len_check_steps (fun A outer s H hr hq =>
    (ss_cons (s_if (DPW.pt (w_or (q_tnot (q_tval (q_callB c_isi (by rfl) b_isinstance boot_isinstance (a_cons (qv 0) (a_cons (q_ty (by rfl) b_list boot_list) a_nil))))) (w_or1 (q_tcmp o_gt (q_callB c_len (by rfl) b_len boot_len (a_cons (qv 0) a_nil)) (q_gint (by rfl) c_MOST_STEPS))))) (ss_one s_never) ss_nil) (ss_one (s_for PassesOwn.never rfl (i_enum (by rfl) b_enumerate (a_cons (qv 0) a_nil)) (g_tup rfl (gs_cons (g_name S.nd rfl (by first | exact .inl rfl | exact .inr rfl)) (gs_cons (g_name S.nd rfl (by first | exact .inl rfl | exact .inr rfl)) gs_nil))) (ss_one (s_if (q_tnot (q_tval (q_cx F_is_whole (hr.mono (by decide)) (fun z => nomatch z) (by rfl) D_is_whole.mg D_is_whole.fx.kp A_is_whole_1 (a_cons (qv 2) a_nil)))) (ss_one s_never) ss_nil)))))) v_check_steps

theorem ok_heights_in {P : Program} {w : World} {K : PySem.W.Frag} {mg : Str → Option Value} {base : Heap} {T : List (Addr × Str)} {f : Addr} {fd : FuncData} {cd : Value} (FU : DefAt K mg "heights_in" s_heights_in f fd cd)
     :
    FnX P w K mg base false 1 f fd ["steps"] (spD T K sp_heights_in) := by
  have S : FnScope ["steps", "told", "height", "step"] ["steps"] (defScope s_heights_in) := ⟨rfl, rfl, rfl, by decide +kernel, rfl, by decide +kernel, by decide +kernel⟩
  exact okX (k := 0) FU.fx S len_heights_in (fun A outer s H hr hq =>
    (ss_cons (s_set S.nd (i := 1) rfl (by first | exact .inl rfl | exact .inr rfl) (q_new a_nil)) (ss_cons (s_set S.nd (i := 2) rfl (by first | exact .inl rfl | exact .inr rfl) q_int) (ss_cons (s_for PassesOwn.never rfl (i_lst (qv 0)) (g_name S.nd rfl (by first | exact .inl rfl | exact .inr rfl)) (ss_cons (s_aug S.nd (i := 2) rfl (by first | exact .inl rfl | exact .inr rfl) (qv 3) ip_add) (ss_one (s_expr (q_bm PySem.F.slot_list_append PySem.F.type_list_append m_append (qv 1) (a_cons (qv 2) a_nil)))))) (ss_one (s_ret (qv 1))))))) v_heights_in

theorem ok_first_below {P : Program} {w : World} {K : PySem.W.Frag} {mg : Str → Option Value} {base : Heap} {T : List (Addr × Str)} {f : Addr} {fd : FuncData} {cd : Value} (FU : DefAt K mg "first_below" s_first_below f fd cd)
    {f_heights_in : Addr} {fd_heights_in : FuncData} {cd_heights_in : Value} (D_heights_in : DefAt K mg "heights_in" s_heights_in f_heights_in fd_heights_in cd_heights_in) (F_heights_in : FnX P w K mg base false 1 f_heights_in fd_heights_in ["steps"] (spD T K sp_heights_in))
    (A_heights_in_1 : KA K fd_heights_in ["steps"] 1 [] [.p 0])
    (b_enumerate : mg "enumerate" = none) :
    FnX P w K mg base false 2 f fd ["steps"] (spD T K sp_first_below) := by
  have S : FnScope ["steps", "place", "height"] ["steps"] (defScope s_first_below) := ⟨rfl, rfl, rfl, by decide +kernel, rfl, by decide +kernel, by decide +kernel⟩
  exact okX (k := 1) FU.fx S len_first_below (fun A outer s H hr hq =>
    (ss_cons (s_for PassesOwn.never rfl (i_enum (by rfl) b_enumerate (a_cons (q_fz (q_cx F_heights_in (hr.mono (by decide)) (fun z => nomatch z) (by rfl) D_heights_in.mg D_heights_in.fx.kp A_heights_in_1 (a_cons (qv 0) a_nil))) a_nil)) (g_tup rfl (gs_cons (g_name S.nd rfl (by first | exact .inl rfl | exact .inr rfl)) (gs_cons (g_name S.nd rfl (by first | exact .inl rfl | exact .inr rfl)) gs_nil))) (ss_one (s_if (q_tcmp o_lt (qv 2) q_int) (ss_one (s_ret (qv 1))) ss_nil))) (ss_one (s_ret q_non)))) v_first_below

theorem ok_check_modulus {P : Program} {w : World} {K : PySem.W.Frag} {mg : Str → Option Value} {base : Heap} {T : List (Addr × Str)} {f : Addr} {fd : FuncData} {cd : Value} (FU : DefAt K mg "check_modulus" s_check_modulus f fd cd)
    {f_check_from : Addr} {fd_check_from : FuncData} {cd_check_from : Value} (D_check_from : DefAt K mg "check_from" s_check_from f_check_from fd_check_from cd_check_from) (F_check_from : FnX P w K mg base false 2 f_check_from fd_check_from ["number", "least"] (spD T K sp_check_from))
    (A_check_from_2 : KA K fd_check_from ["number", "least"] 2 [] [.p 0, .p 1]) :
    FnX P w K mg base false 3 f fd ["modulus"] (spD T K sp_check_modulus) := by
  have S : FnScope ["modulus"] ["modulus"] (defScope s_check_modulus) := ⟨rfl, rfl, rfl, by decide +kernel, rfl, by decide +kernel, by decide +kernel⟩
  exact okX (k := 2) FU.fx S len_check_modulus (fun A outer s H hr hq =>
    (ss_one (s_if (q_tcmp o_notN (qv 0) q_non) (ss_one (s_expr (q_cx F_check_from (hr.mono (by decide)) (fun z => nomatch z) (by rfl) D_check_from.mg D_check_from.fx.kp A_check_from_2 (a_cons (qv 0) (a_cons q_int a_nil))))) ss_nil))) v_check_modulus

theorem ok_places_in {P : Program} {w : World} {K : PySem.W.Frag} {mg : Str → Option Value} {base : Heap} {T : List (Addr × Str)} {f : Addr} {fd : FuncData} {cd : Value} (FU : DefAt K mg "places_in" s_places_in f fd cd)
    {f_heights_in : Addr} {fd_heights_in : FuncData} {cd_heights_in : Value} (D_heights_in : DefAt K mg "heights_in" s_heights_in f_heights_in fd_heights_in cd_heights_in) (F_heights_in : FnX P w K mg base false 1 f_heights_in fd_heights_in ["steps"] (spD T K sp_heights_in))
    (A_heights_in_1 : KA K fd_heights_in ["steps"] 1 [] [.p 0])
    (b_len : mg "len" = none)
    (b_range : mg "range" = none)
    (b_sorted : mg "sorted" = none)
    {c Pt : Addr} (TB : LamX.TabB base mg c Pt) (hcd : cd = .ref c) (hmT : (Pt, ("places_in.<locals>.<lambda>" : Str)) ∈ T) (hu : ∀ p ∈ T, p.1 = Pt → p.2 = ("places_in.<locals>.<lambda>" : Str)) :
    FnX P w K mg base false 2 f fd ["steps", "modulus"] (spD T K sp_places_in) := by
  have S : FnScope ["steps", "modulus", "levels", "level"] ["steps", "modulus"] (defScope s_places_in) := ⟨rfl, rfl, rfl, by decide +kernel, rfl, by decide +kernel, by decide +kernel⟩
  exact okX (k := 1) FU.fx S len_places_in (fun A outer s H hr hq =>
    (ss_cons (s_set S.nd (i := 2) rfl (by first | exact .inl rfl | exact .inr rfl) (q_cx F_heights_in (hr.mono (by decide)) (fun z => nomatch z) (by rfl) D_heights_in.mg D_heights_in.fx.kp A_heights_in_1 (a_cons (qv 0) a_nil))) (ss_fz 2 (ss_cons (s_if (q_tcmp o_notN (qv 1) q_non) (ss_one (s_set S.nd (i := 2) rfl (by first | exact .inl rfl | exact .inr rfl) (q_lc rfl S.nd (i_lst (qv 2)) (own := [("level", 3)]) (blkOk_by (N := ["steps", "modulus", "levels", "level"]) (sc := defScope s_places_in) (by decide +kernel)) (fun _ _ _ _ _ => (go_name S.nd rfl (by first | exact .inl rfl | exact .inr rfl) (by decide))) (fun _ _ _ _ _ => ts_nil) (fun _ _ _ _ _ => (q_op o_mod (qv 3) (qv 1)))))) ss_nil) (ss_one (s_ret (q_srt rfl (by rfl) b_sorted (by rfl) b_range (q_callB c_len (by rfl) b_len boot_len (a_cons (qv 0) a_nil)) TB hcd hmT hu hr (i := 2) rfl rfl))))))) v_places_in

theorem ok_swept_in {P : Program} {w : World} {K : PySem.W.Frag} {mg : Str → Option Value} {base : Heap} {T : List (Addr × Str)} {f : Addr} {fd : FuncData} {cd : Value} (FU : DefAt K mg "swept_in" s_swept_in f fd cd)
    {f_places_in : Addr} {fd_places_in : FuncData} {cd_places_in : Value} (D_places_in : DefAt K mg "places_in" s_places_in f_places_in fd_places_in cd_places_in) (F_places_in : FnX P w K mg base false 2 f_places_in fd_places_in ["steps", "modulus"] (spD T K sp_places_in))
    (A_places_in_2 : KA K fd_places_in ["steps", "modulus"] 2 [] [.p 0, .p 1]) :
    FnX P w K mg base false 3 f fd ["steps", "modulus"] (spD T K sp_swept_in) := by
  have S : FnScope ["steps", "modulus", "place"] ["steps", "modulus"] (defScope s_swept_in) := ⟨rfl, rfl, rfl, by decide +kernel, rfl, by decide +kernel, by decide +kernel⟩
  exact okX (k := 2) FU.fx S len_swept_in (fun A outer s H hr hq =>
    (ss_one (s_ret (q_lcN rfl S.nd (i_lst (q_fz (q_cx F_places_in (hr.mono (by decide)) (fun z => nomatch z) (by rfl) D_places_in.mg D_places_in.fx.kp A_places_in_2 (a_cons (qv 0) (a_cons (qv 1) a_nil))))) (own := [("place", 2)]) (blkOk_by (N := ["steps", "modulus", "place"]) (sc := defScope s_swept_in) (by decide +kernel)) (fun _ _ _ _ _ => (go_name S.nd rfl (by first | exact .inl rfl | exact .inr rfl) (by decide))) (fun _ _ _ _ _ => ts_nil) (fun _ _ _ _ _ => (q_ix (qv 0) (qv 2))))))) v_swept_in

theorem ok_swept {P : Program} {w : World} {K : PySem.W.Frag} {mg : Str → Option Value} {base : Heap} {T : List (Addr × Str)} {f : Addr} {fd : FuncData} {cd : Value} (FU : DefAt K mg "swept" s_swept f fd cd)
    {f_check_steps : Addr} {fd_check_steps : FuncData} {cd_check_steps : Value} (D_check_steps : DefAt K mg "check_steps" s_check_steps f_check_steps fd_check_steps cd_check_steps) (F_check_steps : FnX P w K mg base false 2 f_check_steps fd_check_steps ["steps"] (spD T K sp_check_steps))
    (A_check_steps_1 : KA K fd_check_steps ["steps"] 1 [] [.p 0])
    {f_check_modulus : Addr} {fd_check_modulus : FuncData} {cd_check_modulus : Value} (D_check_modulus : DefAt K mg "check_modulus" s_check_modulus f_check_modulus fd_check_modulus cd_check_modulus) (F_check_modulus : FnX P w K mg base false 3 f_check_modulus fd_check_modulus ["modulus"] (spD T K sp_check_modulus))
    (A_check_modulus_1 : KA K fd_check_modulus ["modulus"] 1 [] [.p 0])
    {f_swept_in : Addr} {fd_swept_in : FuncData} {cd_swept_in : Value} (D_swept_in : DefAt K mg "swept_in" s_swept_in f_swept_in fd_swept_in cd_swept_in) (F_swept_in : FnX P w K mg base false 3 f_swept_in fd_swept_in ["steps", "modulus"] (spD T K sp_swept_in))
    (A_swept_in_2 : KA K fd_swept_in ["steps", "modulus"] 2 [] [.p 0, .p 1]) :
    FnX P w K mg base false 4 f fd ["steps", "modulus"] (spD T K sp_swept) := by
  have S : FnScope ["steps", "modulus"] ["steps", "modulus"] (defScope s_swept) := ⟨rfl, rfl, rfl, by decide +kernel, rfl, by decide +kernel, by decide +kernel⟩
  exact okX (k := 3) FU.fx S len_swept (fun A outer s H hr hq =>
    (ss_cons (s_expr (q_cx F_check_steps (hr.mono (by decide)) (fun z => nomatch z) (by rfl) D_check_steps.mg D_check_steps.fx.kp A_check_steps_1 (a_cons (qv 0) a_nil))) (ss_cons (s_expr (q_cx F_check_modulus (hr.mono (by decide)) (fun z => nomatch z) (by rfl) D_check_modulus.mg D_check_modulus.fx.kp A_check_modulus_1 (a_cons (qv 1) a_nil))) (ss_one (s_ret (q_cx F_swept_in (hr.mono (by decide)) (fun z => nomatch z) (by rfl) D_swept_in.mg D_swept_in.fx.kp A_swept_in_2 (a_cons (qv 0) (a_cons (qv 1) a_nil)))))))) v_swept

theorem ok_check_hill {P : Program} {w : World} {K : PySem.W.Frag} {mg : Str → Option Value} {base : Heap} {T : List (Addr × Str)} {f : Addr} {fd : FuncData} {cd : Value} (FU : DefAt K mg "check_hill" s_check_hill f fd cd)
    {f_is_whole : Addr} {fd_is_whole : FuncData} {cd_is_whole : Value} (D_is_whole : DefAt K mg "is_whole" s_is_whole f_is_whole fd_is_whole cd_is_whole) (F_is_whole : FnX P w K mg base false 1 f_is_whole fd_is_whole ["thing"] (spD T K sp_is_whole))
    (A_is_whole_1 : KA K fd_is_whole ["thing"] 1 [] [.p 0])
    {f_first_below : Addr} {fd_first_below : FuncData} {cd_first_below : Value} (D_first_below : DefAt K mg "first_below" s_first_below f_first_below fd_first_below cd_first_below) (F_first_below : FnX P w K mg base false 2 f_first_below fd_first_below ["steps"] (spD T K sp_first_below))
    (A_first_below_1 : KA K fd_first_below ["steps"] 1 [] [.p 0])
    (b_enumerate : mg "enumerate" = none)
    (b_isinstance : mg "isinstance" = none)
    (b_len : mg "len" = none)
    (b_list : mg "list" = none)
    (b_sum : mg "sum" = none)
    (c_MOST_STEPS : ∃ t, mg "MOST_STEPS" = some (.int 300 t)) :
    FnX P w K mg base false 3 f fd ["hill"] (spD T K sp_check_hill) := by
  obtain ⟨t_MOST_STEPS, c_MOST_STEPS⟩ := c_MOST_STEPS
  have S : FnScope ["hill", "index", "step", "below"] ["hill"] (defScope s_check_hill) := ⟨rfl, rfl, rfl, by decide +kernel, rfl, by decide +kernel, by decide +kernel⟩
  exact okX (k := 2) FU.fx S len_check_hill (fun A outer s H hr hq =>
    (ss_cons (s_if (DPW.pt (w_or (q_tnot (q_tval (q_callB c_isi (by rfl) b_isinstance boot_isinstance (a_cons (qv 0) (a_cons (q_ty (by rfl) b_list boot_list) a_nil))))) (w_or1 (q_tcmp o_gt (q_callB c_len (by rfl) b_len boot_len (a_cons (qv 0) a_nil)) (q_gint (by rfl) c_MOST_STEPS))))) (ss_one s_never) ss_nil) (ss_cons (s_for PassesOwn.never rfl (i_enum (by rfl) b_enumerate (a_cons (qv 0) a_nil)) (g_tup rfl (gs_cons (g_name S.nd rfl (by first | exact .inl rfl | exact .inr rfl)) (gs_cons (g_name S.nd rfl (by first | exact .inl rfl | exact .inr rfl)) gs_nil))) (ss_one (s_if (DPW.pt (w_or (q_tnot (q_tval (q_cx F_is_whole (hr.mono (by decide)) (fun z => nomatch z) (by rfl) D_is_whole.mg D_is_whole.fx.kp A_is_whole_1 (a_cons (qv 2) a_nil)))) (w_or1 (q_tcmp o_notIn (qv 2) (q_tup (a_cons q_int (a_cons (q_un u_neg q_int) a_nil))))))) (ss_one s_never) ss_nil))) (ss_cons (s_set S.nd (i := 3) rfl (by first | exact .inl rfl | exact .inr rfl) (q_cx F_first_below (hr.mono (by decide)) (fun z => nomatch z) (by rfl) D_first_below.mg D_first_below.fx.kp A_first_below_1 (a_cons (qv 0) a_nil))) (ss_cons (s_if (q_tcmp o_notN (qv 3) q_non) (ss_one s_never) ss_nil) (ss_one (s_if (q_tcmp o_ne (q_callB c_sum (by rfl) b_sum boot_sum (a_cons (qv 0) a_nil)) q_int) (ss_one s_never) ss_nil))))))) v_check_hill

theorem ok_begins_in {P : Program} {w : World} {K : PySem.W.Frag} {mg : Str → Option Value} {base : Heap} {T : List (Addr × Str)} {f : Addr} {fd : FuncData} {cd : Value} (FU : DefAt K mg "begins_in" s_begins_in f fd cd)
    {f_heights_in : Addr} {fd_heights_in : FuncData} {cd_heights_in : Value} (D_heights_in : DefAt K mg "heights_in" s_heights_in f_heights_in fd_heights_in cd_heights_in) (F_heights_in : FnX P w K mg base false 1 f_heights_in fd_heights_in ["steps"] (spD T K sp_heights_in))
    (A_heights_in_1 : KA K fd_heights_in ["steps"] 1 [] [.p 0])
    (b_zip : mg "zip" = none) :
    FnX P w K mg base false 2 f fd ["hill"] (spD T K sp_begins_in) := by
  have S : FnScope ["hill", "height", "step"] ["hill"] (defScope s_begins_in) := ⟨rfl, rfl, rfl, by decide +kernel, rfl, by decide +kernel, by decide +kernel⟩
  exact okX (k := 1) FU.fx S len_begins_in (fun A outer s H hr hq =>
    (ss_one (s_ret (q_lcN rfl S.nd (i_zip (by rfl) b_zip (a_cons (q_fz (q_cx F_heights_in (hr.mono (by decide)) (fun z => nomatch z) (by rfl) D_heights_in.mg D_heights_in.fx.kp A_heights_in_1 (a_cons (qv 0) a_nil))) (a_cons (qv 0) a_nil))) (g' := gTup K 2 (gCons (gName 1) (gCons (gName 2) gNil))) (own := [("height", 1), ("step", 2)]) (blkOk_by (N := ["hill", "height", "step"]) (sc := defScope s_begins_in) (by decide +kernel)) (fun _ _ _ _ _ => (go_pair rfl S.nd (i := 1) rfl (by first | exact .inl rfl | exact .inr rfl) (j := 2) rfl (by first | exact .inl rfl | exact .inr rfl) (by decide) (by decide))) (fun _ _ _ _ _ => (ts_one (q_tcmp o_eq (qv 2) q_int))) (fun _ _ _ _ _ => (q_op o_sub (qv 1) q_int)))))) v_begins_in

theorem ok_pairs_in {P : Program} {w : World} {K : PySem.W.Frag} {mg : Str → Option Value} {base : Heap} {T : List (Addr × Str)} {f : Addr} {fd : FuncData} {cd : Value} (FU : DefAt K mg "pairs_in" s_pairs_in f fd cd)
    {f_begins_in : Addr} {fd_begins_in : FuncData} {cd_begins_in : Value} (D_begins_in : DefAt K mg "begins_in" s_begins_in f_begins_in fd_begins_in cd_begins_in) (F_begins_in : FnX P w K mg base false 2 f_begins_in fd_begins_in ["hill"] (spD T K sp_begins_in))
    (A_begins_in_1 : KA K fd_begins_in ["hill"] 1 [] [.p 0])
    (b_enumerate : mg "enumerate" = none)
    (b_sum : mg "sum" = none)
    {c Pt : Addr} (TB : LamX.TabB base mg c Pt) (hcd : cd = .ref c) (hmT : (Pt, ("pairs_in.<locals>.<genexpr>" : Str)) ∈ T) (hu : ∀ p ∈ T, p.1 = Pt → p.2 = ("pairs_in.<locals>.<genexpr>" : Str)) :
    FnX P w K mg base false 3 f fd ["hill"] (spD T K sp_pairs_in) := by
  have S : FnScope ["hill", "begins", "told", "place", "one"] ["hill"] (defScope s_pairs_in) := ⟨rfl, rfl, rfl, by decide +kernel, rfl, by decide +kernel, by decide +kernel⟩
  exact okX (k := 2) FU.fx S len_pairs_in (fun A outer s H hr hq =>
    (ss_cons (s_set S.nd (i := 1) rfl (by first | exact .inl rfl | exact .inr rfl) (q_cx F_begins_in (hr.mono (by decide)) (fun z => nomatch z) (by rfl) D_begins_in.mg D_begins_in.fx.kp A_begins_in_1 (a_cons (qv 0) a_nil))) (ss_fz 1 (ss_cons (s_set S.nd (i := 2) rfl (by first | exact .inl rfl | exact .inr rfl) q_int) (ss_cons (s_for PassesOwn.never rfl (i_enum (by rfl) b_enumerate (a_cons (qv 1) a_nil)) (g_tup rfl (gs_cons (g_name S.nd rfl (by first | exact .inl rfl | exact .inr rfl)) (gs_cons (g_name S.nd rfl (by first | exact .inl rfl | exact .inr rfl)) gs_nil))) (ss_one (s_aug S.nd (i := 2) rfl (by first | exact .inl rfl | exact .inr rfl) (q_prs rfl hr TB hcd hmT hu (by rfl) b_sum (q_sl (qv 1) (p_some (q_op o_add (qv 3) q_int)) p_none) (i := 4) rfl rfl) ip_add))) (ss_one (s_ret (qv 2)))))))) v_pairs_in

theorem ok_turns_in {P : Program} {w : World} {K : PySem.W.Frag} {mg : Str → Option Value} {base : Heap} {T : List (Addr × Str)} {f : Addr} {fd : FuncData} {cd : Value} (FU : DefAt K mg "turns_in" s_turns_in f fd cd)
    (b_len : mg "len" = none)
    (b_range : mg "range" = none)
    (b_sum : mg "sum" = none)
    {c Pt : Addr} (TB : LamX.TabB base mg c Pt) (hcd : cd = .ref c) (hmT : (Pt, ("turns_in.<locals>.<genexpr>" : Str)) ∈ T) (hu : ∀ p ∈ T, p.1 = Pt → p.2 = ("turns_in.<locals>.<genexpr>" : Str)) :
    FnX P w K mg base false 1 f fd ["hill"] (spD T K sp_turns_in) := by
  have S : FnScope ["hill"] ["hill"] (defScope s_turns_in) := ⟨rfl, rfl, rfl, by decide +kernel, rfl, by decide +kernel, by decide +kernel⟩
  exact okX (k := 0) FU.fx S len_turns_in (fun A outer s H hr hq =>
    (ss_one (s_ret (q_trn rfl hr TB hcd hmT hu (by rfl) b_sum (by rfl) b_range (q_callB c_len (by rfl) b_len boot_len (a_cons (qv 0) a_nil)) (i := 0) rfl rfl)))) v_turns_in

theorem ok_under {P : Program} {w : World} {K : PySem.W.Frag} {mg : Str → Option Value} {base : Heap} {T : List (Addr × Str)} {f : Addr} {fd : FuncData} {cd : Value} (FU : DefAt K mg "under" s_under f fd cd)
    {f_check_hill : Addr} {fd_check_hill : FuncData} {cd_check_hill : Value} (D_check_hill : DefAt K mg "check_hill" s_check_hill f_check_hill fd_check_hill cd_check_hill) (F_check_hill : FnX P w K mg base false 3 f_check_hill fd_check_hill ["hill"] (spD T K sp_check_hill))
    (A_check_hill_1 : KA K fd_check_hill ["hill"] 1 [] [.p 0])
    {f_begins_in : Addr} {fd_begins_in : FuncData} {cd_begins_in : Value} (D_begins_in : DefAt K mg "begins_in" s_begins_in f_begins_in fd_begins_in cd_begins_in) (F_begins_in : FnX P w K mg base false 2 f_begins_in fd_begins_in ["hill"] (spD T K sp_begins_in))
    (A_begins_in_1 : KA K fd_begins_in ["hill"] 1 [] [.p 0])
    (b_sum : mg "sum" = none) :
    FnX P w K mg base false 4 f fd ["hill"] (spD T K sp_under) := by
  have S : FnScope ["hill"] ["hill"] (defScope s_under) := ⟨rfl, rfl, rfl, by decide +kernel, rfl, by decide +kernel, by decide +kernel⟩
  exact okX (k := 3) FU.fx S len_under (fun A outer s H hr hq =>
    (ss_cons (s_expr (q_cx F_check_hill (hr.mono (by decide)) (fun z => nomatch z) (by rfl) D_check_hill.mg D_check_hill.fx.kp A_check_hill_1 (a_cons (qv 0) a_nil))) (ss_one (s_ret (q_callB c_sum (by rfl) b_sum boot_sum (a_cons (q_fz (q_cx F_begins_in (hr.mono (by decide)) (fun z => nomatch z) (by rfl) D_begins_in.mg D_begins_in.fx.kp A_begins_in_1 (a_cons (qv 0) a_nil))) a_nil)))))) v_under

theorem ok_count_pairs {P : Program} {w : World} {K : PySem.W.Frag} {mg : Str → Option Value} {base : Heap} {T : List (Addr × Str)} {f : Addr} {fd : FuncData} {cd : Value} (FU : DefAt K mg "count_pairs" s_count_pairs f fd cd)
    {f_check_hill : Addr} {fd_check_hill : FuncData} {cd_check_hill : Value} (D_check_hill : DefAt K mg "check_hill" s_check_hill f_check_hill fd_check_hill cd_check_hill) (F_check_hill : FnX P w K mg base false 3 f_check_hill fd_check_hill ["hill"] (spD T K sp_check_hill))
    (A_check_hill_1 : KA K fd_check_hill ["hill"] 1 [] [.p 0])
    {f_pairs_in : Addr} {fd_pairs_in : FuncData} {cd_pairs_in : Value} (D_pairs_in : DefAt K mg "pairs_in" s_pairs_in f_pairs_in fd_pairs_in cd_pairs_in) (F_pairs_in : FnX P w K mg base false 3 f_pairs_in fd_pairs_in ["hill"] (spD T K sp_pairs_in))
    (A_pairs_in_1 : KA K fd_pairs_in ["hill"] 1 [] [.p 0]) :
    FnX P w K mg base false 4 f fd ["hill"] (spD T K sp_count_pairs) := by
  have S : FnScope ["hill"] ["hill"] (defScope s_count_pairs) := ⟨rfl, rfl, rfl, by decide +kernel, rfl, by decide +kernel, by decide +kernel⟩
  exact okX (k := 3) FU.fx S len_count_pairs (fun A outer s H hr hq =>
    (ss_cons (s_expr (q_cx F_check_hill (hr.mono (by decide)) (fun z => nomatch z) (by rfl) D_check_hill.mg D_check_hill.fx.kp A_check_hill_1 (a_cons (qv 0) a_nil))) (ss_one (s_ret (q_cx F_pairs_in (hr.mono (by decide)) (fun z => nomatch z) (by rfl) D_pairs_in.mg D_pairs_in.fx.kp A_pairs_in_1 (a_cons (qv 0) a_nil)))))) v_count_pairs

theorem ok_bounces {P : Program} {w : World} {K : PySem.W.Frag} {mg : Str → Option Value} {base : Heap} {T : List (Addr × Str)} {f : Addr} {fd : FuncData} {cd : Value} (FU : DefAt K mg "bounces" s_bounces f fd cd)
    {f_check_hill : Addr} {fd_check_hill : FuncData} {cd_check_hill : Value} (D_check_hill : DefAt K mg "check_hill" s_check_hill f_check_hill fd_check_hill cd_check_hill) (F_check_hill : FnX P w K mg base false 3 f_check_hill fd_check_hill ["hill"] (spD T K sp_check_hill))
    (A_check_hill_1 : KA K fd_check_hill ["hill"] 1 [] [.p 0])
    (b_enumerate : mg "enumerate" = none)
    (b_len : mg "len" = none) :
    FnX P w K mg base false 4 f fd ["hill"] (spD T K sp_bounces) := by
  have S : FnScope ["hill", "ahead", "place", "step", "told", "now"] ["hill"] (defScope s_bounces) := ⟨rfl, rfl, rfl, by decide +kernel, rfl, by decide +kernel, by decide +kernel⟩
  exact okX (k := 3) FU.fx S len_bounces (fun A outer s H hr hq =>
    (ss_cons (s_expr (q_cx F_check_hill (hr.mono (by decide)) (fun z => nomatch z) (by rfl) D_check_hill.mg D_check_hill.fx.kp A_check_hill_1 (a_cons (qv 0) a_nil))) (ss_cons (s_set S.nd (i := 1) rfl (by first | exact .inl rfl | exact .inr rfl) (q_new a_nil)) (ss_cons (s_for PassesOwn.never rfl (i_enum (by rfl) b_enumerate (a_cons (qv 0) a_nil)) (g_tup rfl (gs_cons (g_name S.nd rfl (by first | exact .inl rfl | exact .inr rfl)) (gs_cons (g_name S.nd rfl (by first | exact .inl rfl | exact .inr rfl)) gs_nil))) (ss_one (s_if (q_tcmp o_eq (qv 3) q_int) (ss_one (s_expr (q_bm PySem.F.slot_list_append PySem.F.type_list_append m_append (qv 1) (a_cons (q_op o_sub (qv 2) (q_callB c_len (by rfl) b_len boot_len (a_cons (qv 1) a_nil))) a_nil)))) ss_nil))) (ss_fz 1 (ss_cons (s_set S.nd (i := 4) rfl (by first | exact .inl rfl | exact .inr rfl) (q_new a_nil)) (ss_cons (s_set S.nd (i := 5) rfl (by first | exact .inl rfl | exact .inr rfl) (q_callB c_len (by rfl) b_len boot_len (a_cons (qv 1) a_nil))) (ss_cons (s_while PassesOwn.never (q_tcmp o_gt (qv 5) q_int) (ss_cons (s_set S.nd (i := 5) rfl (by first | exact .inl rfl | exact .inr rfl) (q_ix (qv 1) (q_op o_sub (qv 5) q_int))) (ss_one (s_expr (q_bm PySem.F.slot_list_append PySem.F.type_list_append m_append (qv 4) (a_cons (qv 5) a_nil)))))) (ss_one (s_ret (qv 4))))))))))) v_bounces

theorem ok_turn_sum {P : Program} {w : World} {K : PySem.W.Frag} {mg : Str → Option Value} {base : Heap} {T : List (Addr × Str)} {f : Addr} {fd : FuncData} {cd : Value} (FU : DefAt K mg "turn_sum" s_turn_sum f fd cd)
    {f_check_hill : Addr} {fd_check_hill : FuncData} {cd_check_hill : Value} (D_check_hill : DefAt K mg "check_hill" s_check_hill f_check_hill fd_check_hill cd_check_hill) (F_check_hill : FnX P w K mg base false 3 f_check_hill fd_check_hill ["hill"] (spD T K sp_check_hill))
    (A_check_hill_1 : KA K fd_check_hill ["hill"] 1 [] [.p 0])
    {f_turns_in : Addr} {fd_turns_in : FuncData} {cd_turns_in : Value} (D_turns_in : DefAt K mg "turns_in" s_turns_in f_turns_in fd_turns_in cd_turns_in) (F_turns_in : FnX P w K mg base false 1 f_turns_in fd_turns_in ["hill"] (spD T K sp_turns_in))
    (A_turns_in_1 : KA K fd_turns_in ["hill"] 1 [] [.p 0]) :
    FnX P w K mg base false 4 f fd ["hill"] (spD T K sp_turn_sum) := by
  have S : FnScope ["hill"] ["hill"] (defScope s_turn_sum) := ⟨rfl, rfl, rfl, by decide +kernel, rfl, by decide +kernel, by decide +kernel⟩
  exact okX (k := 3) FU.fx S len_turn_sum (fun A outer s H hr hq =>
    (ss_cons (s_expr (q_cx F_check_hill (hr.mono (by decide)) (fun z => nomatch z) (by rfl) D_check_hill.mg D_check_hill.fx.kp A_check_hill_1 (a_cons (qv 0) a_nil))) (ss_one (s_ret (q_cx F_turns_in (hr.mono (by decide)) (fun z => nomatch z) (by rfl) D_turns_in.mg D_turns_in.fx.kp A_turns_in_1 (a_cons (qv 0) a_nil)))))) v_turn_sum

theorem ok__law_draws {P : Program} {w : World} {K : PySem.W.Frag} {mg : Str → Option Value} {base : Heap} {T : List (Addr × Str)} {f : Addr} {fd : FuncData} {cd : Value} (FU : DefAt K mg "_law_draws" s__law_draws f fd cd)
    (b_int : mg "int" = none) :
    FnX P w K mg base false 1 f fd ["_law_cell"] (spD T K sp__law_draws) := by
  have S : FnScope ["_law_cell"] ["_law_cell"] (defScope s__law_draws) := ⟨rfl, rfl, rfl, by decide +kernel, rfl, by decide +kernel, by decide +kernel⟩
  exact okX (k := 0) FU.fx S len__law_draws (fun A outer s H hr hq =>
    (ss_one (s_ret (q_new (a_cons (q_op o_mod (q_callTy c_int (by rfl) b_int boot_int (a_cons (qv 0) a_nil)) (q_op o_pow (q_op o_pow (q_op o_pow q_int q_int) q_int) q_int)) (a_cons q_int (a_cons (q_cmp o_ge (qv 0) (q_op o_pow q_int q_int)) a_nil))))))) v__law_draws

theorem ok__law_next {P : Program} {w : World} {K : PySem.W.Frag} {mg : Str → Option Value} {base : Heap} {T : List (Addr × Str)} {f : Addr} {fd : FuncData} {cd : Value} (FU : DefAt K mg "_law_next" s__law_next f fd cd)
    (b_int : mg "int" = none) :
    FnX P w K mg base false 1 f fd ["_law_draws_here"] (spD T K sp__law_next) := by
  have S : FnScope ["_law_draws_here", "_law_k", "_law_drawn_here"] ["_law_draws_here"] (defScope s__law_next) := ⟨rfl, rfl, rfl, by decide +kernel, rfl, by decide +kernel, by decide +kernel⟩
  exact okX (k := 0) FU.fx S len__law_next (fun A outer s H hr hq =>
    (ss_cons (s_asg (q_op o_add (q_ix (qv 0) q_int) q_int) (g_sub (qv 0) q_int)) (ss_cons (s_set S.nd (i := 1) rfl (by first | exact .inl rfl | exact .inr rfl) (q_ix (qv 0) q_int)) (ss_cons (s_if (q_tval (q_ix (qv 0) q_int)) (ss_cons (s_set S.nd (i := 2) rfl (by first | exact .inl rfl | exact .inr rfl) (q_op o_mod (q_callTy c_int (by rfl) b_int boot_int (a_cons (q_ix (qv 0) q_int) a_nil)) (q_op o_pow q_int q_int))) (ss_cons (s_asg (q_op o_fdiv (q_ix (qv 0) q_int) (q_op o_pow q_int q_int)) (g_sub (qv 0) q_int)) (ss_one (s_ret (qv 2))))) ss_nil) (ss_cons (s_set S.nd (i := 2) rfl (by first | exact .inl rfl | exact .inr rfl) (q_op o_mod (q_callTy c_int (by rfl) b_int boot_int (a_cons (q_op o_mul (q_op o_add (q_op o_add (q_op o_mod (q_callTy c_int (by rfl) b_int boot_int (a_cons (q_ix (qv 0) q_int) a_nil)) q_int) (q_op o_mul (q_op o_mul (qv 1) (qv 1)) q_int)) (qv 1)) q_int) a_nil)) q_int)) (ss_cons (s_set S.nd (i := 2) rfl (by first | exact .inl rfl | exact .inr rfl) (q_op o_mod (q_callTy c_int (by rfl) b_int boot_int (a_cons (q_op o_mul (qv 2) (qv 2)) a_nil)) q_int)) (ss_one (s_ret (q_op o_fdiv (q_op o_mod (q_callTy c_int (by rfl) b_int boot_int (a_cons (q_op o_mul (qv 2) (q_op o_add (qv 2) q_int)) a_nil)) q_int) q_int))))))))) v__law_next

theorem ok__law_drawn {P : Program} {w : World} {K : PySem.W.Frag} {mg : Str → Option Value} {base : Heap} {T : List (Addr × Str)} {f : Addr} {fd : FuncData} {cd : Value} (FU : DefAt K mg "_law_drawn" s__law_drawn f fd cd)
    {f__law_next : Addr} {fd__law_next : FuncData} {cd__law_next : Value} (D__law_next : DefAt K mg "_law_next" s__law_next f__law_next fd__law_next cd__law_next) (F__law_next : FnX P w K mg base false 1 f__law_next fd__law_next ["_law_draws_here"] (spD T K sp__law_next))
    (A__law_next_1 : KA K fd__law_next ["_law_draws_here"] 1 [] [.p 0])
    (b_int : mg "int" = none)
    (b_range : mg "range" = none) :
    FnX P w K mg base false 2 f fd ["_law_draws_here", "_law_most"] (spD T K sp__law_drawn) := by
  have S : FnScope ["_law_draws_here", "_law_most", "_law_ups", "_law_kind", "_law_row", "_law_high", "_law_turn", "_law_pick", "_law_up"] ["_law_draws_here", "_law_most"] (defScope s__law_drawn) := ⟨rfl, rfl, rfl, by decide +kernel, rfl, by decide +kernel, by decide +kernel⟩
  exact okX (k := 1) FU.fx S len__law_drawn (fun A outer s H hr hq =>
    (ss_cons (s_set S.nd (i := 2) rfl (by first | exact .inl rfl | exact .inr rfl) (q_op o_mod (q_callTy c_int (by rfl) b_int boot_int (a_cons (q_cx F__law_next (hr.mono (by decide)) (fun z => nomatch z) (by rfl) D__law_next.mg D__law_next.fx.kp A__law_next_1 (a_cons (qv 0) a_nil)) a_nil)) (q_op o_add (qv 1) q_int))) (ss_cons (s_set S.nd (i := 3) rfl (by first | exact .inl rfl | exact .inr rfl) (q_op o_mod (q_callTy c_int (by rfl) b_int boot_int (a_cons (q_cx F__law_next (hr.mono (by decide)) (fun z => nomatch z) (by rfl) D__law_next.mg D__law_next.fx.kp A__law_next_1 (a_cons (qv 0) a_nil)) a_nil)) q_int)) (ss_cons (s_set S.nd (i := 4) rfl (by first | exact .inl rfl | exact .inr rfl) (q_new a_nil)) (ss_cons (s_set S.nd (i := 5) rfl (by first | exact .inl rfl | exact .inr rfl) q_int) (ss_cons (s_for PassesOwn.never rfl (i_range1 (by rfl) b_range (a_cons (q_op o_mul q_int (qv 2)) a_nil)) (g_name S.nd rfl (by first | exact .inl rfl | exact .inr rfl)) (ss_cons (s_set S.nd (i := 7) rfl (by first | exact .inl rfl | exact .inr rfl) (q_op o_mod (q_callTy c_int (by rfl) b_int boot_int (a_cons (q_cx F__law_next (hr.mono (by decide)) (fun z => nomatch z) (by rfl) D__law_next.mg D__law_next.fx.kp A__law_next_1 (a_cons (qv 0) a_nil)) a_nil)) (q_ix (q_lst (a_cons q_int (a_cons q_int (a_cons q_int (a_cons q_int a_nil))))) (qv 3)))) (ss_cons (s_set S.nd (i := 8) rfl (by first | exact .inl rfl | exact .inr rfl) (q_if (q_tcmp o_lt (qv 3) q_int) (q_cmp o_gt (qv 7) q_int) (q_cmp o_eq (q_op o_mod (q_op o_add (q_op o_fdiv (qv 6) q_int) (qv 7)) q_int) q_int))) (ss_one (s_if (DPW.pt (w_or (q_tcmp o_eq (qv 5) q_int) (w_or1 (DPW.pt (w_and (q_tcmp o_lt (q_bm PySem.F.slot_list_count PySem.F.type_list_count m_count (qv 4) (a_cons q_int a_nil)) (qv 2)) (w_and1 (q_tval (qv 8)))))))) (ss_cons (s_expr (q_bm PySem.F.slot_list_append PySem.F.type_list_append m_append (qv 4) (a_cons q_int a_nil))) (ss_one (s_set S.nd (i := 5) rfl (by first | exact .inl rfl | exact .inr rfl) (q_op o_add (qv 5) q_int)))) (ss_cons (s_expr (q_bm PySem.F.slot_list_append PySem.F.type_list_append m_append (qv 4) (a_cons (q_un u_neg q_int) a_nil))) (ss_one (s_set S.nd (i := 5) rfl (by first | exact .inl rfl | exact .inr rfl) (q_op o_sub (qv 5) q_int))))))))) (ss_one (s_ret (qv 4))))))))) v__law_drawn

theorem ok__law_all {P : Program} {w : World} {K : PySem.W.Frag} {mg : Str → Option Value} {base : Heap} {T : List (Addr × Str)} {f : Addr} {fd : FuncData} {cd : Value} (FU : DefAt K mg "_law_all" s__law_all f fd cd)
    (b_range : mg "range" = none) :
    FnX P w K mg base false 1 f fd ["_law_ups"] (spD T K sp__law_all) := by
  have S : FnScope ["_law_ups", "_law_told", "_law_turn", "_law_wider", "_law_row", "_law_high"] ["_law_ups"] (defScope s__law_all) := ⟨rfl, rfl, rfl, by decide +kernel, rfl, by decide +kernel, by decide +kernel⟩
  exact okX (k := 0) FU.fx S len__law_all (fun A outer s H hr hq =>
    (ss_cons (s_set S.nd (i := 1) rfl (by first | exact .inl rfl | exact .inr rfl) (q_lst (a_cons (q_tup (a_cons (q_lst a_nil) (a_cons q_int a_nil))) a_nil))) (ss_cons (s_for PassesOwn.never rfl (i_range1 (by rfl) b_range (a_cons (q_op o_mul q_int (qv 0)) a_nil)) (g_name S.nd rfl (by first | exact .inl rfl | exact .inr rfl)) (ss_cons (s_set S.nd (i := 3) rfl (by first | exact .inl rfl | exact .inr rfl) (q_new a_nil)) (ss_cons (s_for PassesOwn.never rfl (i_lst (qv 1)) (g_tup rfl (gs_cons (g_name S.nd rfl (by first | exact .inl rfl | exact .inr rfl)) (gs_cons (g_name S.nd rfl (by first | exact .inl rfl | exact .inr rfl)) gs_nil))) (ss_cons (s_if (q_tcmp o_lt (q_bm PySem.F.slot_list_count PySem.F.type_list_count m_count (qv 4) (a_cons q_int a_nil)) (qv 0)) (ss_one (s_expr (q_bm PySem.F.slot_list_append PySem.F.type_list_append m_append (qv 3) (a_cons (q_tup (a_cons (q_op o_cat (qv 4) (q_lst (a_cons q_int a_nil))) (a_cons (q_op o_add (qv 5) q_int) a_nil))) a_nil)))) ss_nil) (ss_one (s_if (q_tcmp o_gt (qv 5) q_int) (ss_one (s_expr (q_bm PySem.F.slot_list_append PySem.F.type_list_append m_append (qv 3) (a_cons (q_tup (a_cons (q_op o_cat (qv 4) (q_lst (a_cons (q_un u_neg q_int) a_nil))) (a_cons (q_op o_sub (qv 5) q_int) a_nil))) a_nil)))) ss_nil)))) (ss_fz 3 (ss_one (s_set S.nd (i := 1) rfl (by first | exact .inl rfl | exact .inr rfl) (qv 3))))))) (ss_one (s_ret (q_lcN rfl S.nd (i_lst (qv 1)) (g' := gTup K 2 (gCons (gName 4) (gCons (gName 5) gNil))) (own := [("_law_row", 4), ("_law_high", 5)]) (blkOk_by (N := ["_law_ups", "_law_told", "_law_turn", "_law_wider", "_law_row", "_law_high"]) (sc := defScope s__law_all) (by decide +kernel)) (fun _ _ _ _ _ => (go_pair rfl S.nd (i := 4) rfl (by first | exact .inl rfl | exact .inr rfl) (j := 5) rfl (by first | exact .inl rfl | exact .inr rfl) (by decide) (by decide))) (fun _ _ _ _ _ => ts_nil) (fun _ _ _ _ _ => (qv 4)))))))) v__law_all

theorem ok__law_begins {P : Program} {w : World} {K : PySem.W.Frag} {mg : Str → Option Value} {base : Heap} {T : List (Addr × Str)} {f : Addr} {fd : FuncData} {cd : Value} (FU : DefAt K mg "_law_begins" s__law_begins f fd cd)
     :
    FnX P w K mg base false 1 f fd ["_law_row"] (spD T K sp__law_begins) := by
  have S : FnScope ["_law_row", "_law_told", "_law_high", "_law_one"] ["_law_row"] (defScope s__law_begins) := ⟨rfl, rfl, rfl, by decide +kernel, rfl, by decide +kernel, by decide +kernel⟩
  exact okX (k := 0) FU.fx S len__law_begins (fun A outer s H hr hq =>
    (ss_cons (s_set S.nd (i := 1) rfl (by first | exact .inl rfl | exact .inr rfl) (q_new a_nil)) (ss_cons (s_set S.nd (i := 2) rfl (by first | exact .inl rfl | exact .inr rfl) q_int) (ss_cons (s_for PassesOwn.never rfl (i_lst (qv 0)) (g_name S.nd rfl (by first | exact .inl rfl | exact .inr rfl)) (ss_cons (s_if (q_tcmp o_eq (qv 3) q_int) (ss_one (s_expr (q_bm PySem.F.slot_list_append PySem.F.type_list_append m_append (qv 1) (a_cons (qv 2) a_nil)))) ss_nil) (ss_one (s_set S.nd (i := 2) rfl (by first | exact .inl rfl | exact .inr rfl) (q_op o_add (qv 2) (qv 3)))))) (ss_one (s_ret (qv 1))))))) v__law_begins

theorem ok__law_under {P : Program} {w : World} {K : PySem.W.Frag} {mg : Str → Option Value} {base : Heap} {T : List (Addr × Str)} {f : Addr} {fd : FuncData} {cd : Value} (FU : DefAt K mg "_law_under" s__law_under f fd cd)
     :
    FnX P w K mg base false 1 f fd ["_law_row"] (spD T K sp__law_under) := by
  have S : FnScope ["_law_row", "_law_high", "_law_total", "_law_one"] ["_law_row"] (defScope s__law_under) := ⟨rfl, rfl, rfl, by decide +kernel, rfl, by decide +kernel, by decide +kernel⟩
  exact okX (k := 0) FU.fx S len__law_under (fun A outer s H hr hq =>
    (ss_cons (s_set S.nd (i := 1) rfl (by first | exact .inl rfl | exact .inr rfl) q_int) (ss_cons (s_set S.nd (i := 2) rfl (by first | exact .inl rfl | exact .inr rfl) q_int) (ss_cons (s_for PassesOwn.never rfl (i_lst (qv 0)) (g_name S.nd rfl (by first | exact .inl rfl | exact .inr rfl)) (ss_cons (s_set S.nd (i := 1) rfl (by first | exact .inl rfl | exact .inr rfl) (q_op o_add (qv 1) (qv 3))) (ss_one (s_set S.nd (i := 2) rfl (by first | exact .inl rfl | exact .inr rfl) (q_op o_add (qv 2) (qv 1)))))) (ss_one (s_ret (q_op o_fdiv (q_op o_sub (qv 2) (q_bm PySem.F.slot_list_count PySem.F.type_list_count m_count (qv 0) (a_cons q_int a_nil))) q_int))))))) v__law_under

theorem ok__law_pairs {P : Program} {w : World} {K : PySem.W.Frag} {mg : Str → Option Value} {base : Heap} {T : List (Addr × Str)} {f : Addr} {fd : FuncData} {cd : Value} (FU : DefAt K mg "_law_pairs" s__law_pairs f fd cd)
    {f__law_begins : Addr} {fd__law_begins : FuncData} {cd__law_begins : Value} (D__law_begins : DefAt K mg "_law_begins" s__law_begins f__law_begins fd__law_begins cd__law_begins) (F__law_begins : FnX P w K mg base false 1 f__law_begins fd__law_begins ["_law_row"] (spD T K sp__law_begins))
    (A__law_begins_1 : KA K fd__law_begins ["_law_row"] 1 [] [.p 0]) :
    FnX P w K mg base false 2 f fd ["_law_row"] (spD T K sp__law_pairs) := by
  have S : FnScope ["_law_row", "_law_seen", "_law_told", "_law_high"] ["_law_row"] (defScope s__law_pairs) := ⟨rfl, rfl, rfl, by decide +kernel, rfl, by decide +kernel, by decide +kernel⟩
  exact okX (k := 1) FU.fx S len__law_pairs (fun A outer s H hr hq =>
    (ss_cons (s_set S.nd (i := 1) rfl (by first | exact .inl rfl | exact .inr rfl) (q_op o_repN (q_lst (a_cons q_int a_nil)) q_int)) (ss_cons (s_set S.nd (i := 2) rfl (by first | exact .inl rfl | exact .inr rfl) q_int) (ss_cons (s_for PassesOwn.never rfl (i_lst (q_fz (q_cx F__law_begins (hr.mono (by decide)) (fun z => nomatch z) (by rfl) D__law_begins.mg D__law_begins.fx.kp A__law_begins_1 (a_cons (qv 0) a_nil)))) (g_name S.nd rfl (by first | exact .inl rfl | exact .inr rfl)) (ss_cons (s_set S.nd (i := 2) rfl (by first | exact .inl rfl | exact .inr rfl) (q_op o_add (q_op o_add (qv 2) (q_ix (qv 1) (qv 3))) (q_ix (qv 1) (q_op o_add (qv 3) q_int)))) (ss_one (s_asg (q_op o_add (q_ix (qv 1) (qv 3)) q_int) (g_sub (qv 1) (qv 3)))))) (ss_fz 1 (ss_one (s_ret (qv 2)))))))) v__law_pairs

theorem ok__law_bounces {P : Program} {w : World} {K : PySem.W.Frag} {mg : Str → Option Value} {base : Heap} {T : List (Addr × Str)} {f : Addr} {fd : FuncData} {cd : Value} (FU : DefAt K mg "_law_bounces" s__law_bounces f fd cd)
    (b_len : mg "len" = none) :
    FnX P w K mg base false 1 f fd ["_law_row"] (spD T K sp__law_bounces) := by
  have S : FnScope ["_law_row", "_law_ends", "_law_downs", "_law_one", "_law_told", "_law_spot"] ["_law_row"] (defScope s__law_bounces) := ⟨rfl, rfl, rfl, by decide +kernel, rfl, by decide +kernel, by decide +kernel⟩
  exact okX (k := 0) FU.fx S len__law_bounces (fun A outer s H hr hq =>
    (ss_cons (s_set S.nd (i := 1) rfl (by first | exact .inl rfl | exact .inr rfl) (q_new a_nil)) (ss_cons (s_set S.nd (i := 2) rfl (by first | exact .inl rfl | exact .inr rfl) q_int) (ss_cons (s_for PassesOwn.never rfl (i_lst (qv 0)) (g_name S.nd rfl (by first | exact .inl rfl | exact .inr rfl)) (ss_one (s_if (q_tcmp o_eq (qv 3) q_int) (ss_one (s_expr (q_bm PySem.F.slot_list_append PySem.F.type_list_append m_append (qv 1) (a_cons (qv 2) a_nil)))) (ss_one (s_set S.nd (i := 2) rfl (by first | exact .inl rfl | exact .inr rfl) (q_op o_add (qv 2) q_int)))))) (ss_fz 1 (ss_cons (s_set S.nd (i := 4) rfl (by first | exact .inl rfl | exact .inr rfl) (q_new a_nil)) (ss_cons (s_set S.nd (i := 5) rfl (by first | exact .inl rfl | exact .inr rfl) (q_callB c_len (by rfl) b_len boot_len (a_cons (qv 1) a_nil))) (ss_cons (s_while PassesOwn.never (q_tcmp o_gt (qv 5) q_int) (ss_cons (s_set S.nd (i := 5) rfl (by first | exact .inl rfl | exact .inr rfl) (q_ix (qv 1) (q_op o_sub (qv 5) q_int))) (ss_one (s_expr (q_bm PySem.F.slot_list_append PySem.F.type_list_append m_append (qv 4) (a_cons (qv 5) a_nil)))))) (ss_one (s_ret (qv 4))))))))))) v__law_bounces

theorem ok__law_turns {P : Program} {w : World} {K : PySem.W.Frag} {mg : Str → Option Value} {base : Heap} {T : List (Addr × Str)} {f : Addr} {fd : FuncData} {cd : Value} (FU : DefAt K mg "_law_turns" s__law_turns f fd cd)
    (b_enumerate : mg "enumerate" = none)
    (b_sum : mg "sum" = none)
    (b_zip : mg "zip" = none) :
    FnX P w K mg base false 1 f fd ["_law_row"] (spD T K sp__law_turns) := by
  have S : FnScope ["_law_row", "_law_at", "_law_pair"] ["_law_row"] (defScope s__law_turns) := ⟨rfl, rfl, rfl, by decide +kernel, rfl, by decide +kernel, by decide +kernel⟩
  exact okX (k := 0) FU.fx S len__law_turns (fun A outer s H hr hq =>
    (ss_one (s_ret (q_callB c_sum (by rfl) b_sum boot_sum (a_cons (q_lc rfl S.nd (i_ez (by rfl) b_enumerate (by rfl) b_zip (a_cons (qv 0) (a_cons (q_sl (qv 0) (p_some q_int) p_none) a_nil))) (g' := gTup K 2 (gCons (gName 1) (gCons (gName 2) gNil))) (own := [("_law_at", 1), ("_law_pair", 2)]) (blkOk_by (N := ["_law_row", "_law_at", "_law_pair"]) (sc := defScope s__law_turns) (by decide +kernel)) (fun _ _ _ _ _ => (go_pair rfl S.nd (i := 1) rfl (by first | exact .inl rfl | exact .inr rfl) (j := 2) rfl (by first | exact .inl rfl | exact .inr rfl) (by decide) (by decide))) (fun _ _ _ _ _ => (ts_one (q_tcmp (o_eqP (u64 hr)) (qv 2) (q_tup (a_cons (q_un u_neg q_int) (a_cons q_int a_nil)))))) (fun _ _ _ _ _ => (q_op o_add (qv 1) q_int))) a_nil))))) v__law_turns

theorem ok__law_right {P : Program} {w : World} {K : PySem.W.Frag} {mg : Str → Option Value} {base : Heap} {T : List (Addr × Str)} {f : Addr} {fd : FuncData} {cd : Value} (FU : DefAt K mg "_law_right" s__law_right f fd cd)
    {f__law_under : Addr} {fd__law_under : FuncData} {cd__law_under : Value} (D__law_under : DefAt K mg "_law_under" s__law_under f__law_under fd__law_under cd__law_under) (F__law_under : FnX P w K mg base false 1 f__law_under fd__law_under ["_law_row"] (spD T K sp__law_under))
    (A__law_under_1 : KA K fd__law_under ["_law_row"] 1 [] [.p 0])
    {f__law_pairs : Addr} {fd__law_pairs : FuncData} {cd__law_pairs : Value} (D__law_pairs : DefAt K mg "_law_pairs" s__law_pairs f__law_pairs fd__law_pairs cd__law_pairs) (F__law_pairs : FnX P w K mg base false 2 f__law_pairs fd__law_pairs ["_law_row"] (spD T K sp__law_pairs))
    (A__law_pairs_1 : KA K fd__law_pairs ["_law_row"] 1 [] [.p 0])
    {f__law_bounces : Addr} {fd__law_bounces : FuncData} {cd__law_bounces : Value} (D__law_bounces : DefAt K mg "_law_bounces" s__law_bounces f__law_bounces fd__law_bounces cd__law_bounces) (F__law_bounces : FnX P w K mg base false 1 f__law_bounces fd__law_bounces ["_law_row"] (spD T K sp__law_bounces))
    (A__law_bounces_1 : KA K fd__law_bounces ["_law_row"] 1 [] [.p 0])
    {f__law_turns : Addr} {fd__law_turns : FuncData} {cd__law_turns : Value} (D__law_turns : DefAt K mg "_law_turns" s__law_turns f__law_turns fd__law_turns cd__law_turns) (F__law_turns : FnX P w K mg base false 1 f__law_turns fd__law_turns ["_law_row"] (spD T K sp__law_turns))
    (A__law_turns_1 : KA K fd__law_turns ["_law_row"] 1 [] [.p 0])
    {f_under : Addr} {fd_under : FuncData} {cd_under : Value} (D_under : DefAt K mg "under" s_under f_under fd_under cd_under) (F_under : FnX P w K mg base false 4 f_under fd_under ["hill"] (spD T K sp_under))
    (A_under_1 : KA K fd_under ["hill"] 1 [] [.p 0])
    (A_under_0_hill : KA K fd_under ["hill"] 0 ["hill"] [.k 0])
    {f_count_pairs : Addr} {fd_count_pairs : FuncData} {cd_count_pairs : Value} (D_count_pairs : DefAt K mg "count_pairs" s_count_pairs f_count_pairs fd_count_pairs cd_count_pairs) (F_count_pairs : FnX P w K mg base false 4 f_count_pairs fd_count_pairs ["hill"] (spD T K sp_count_pairs))
    (A_count_pairs_1 : KA K fd_count_pairs ["hill"] 1 [] [.p 0])
    (A_count_pairs_0_hill : KA K fd_count_pairs ["hill"] 0 ["hill"] [.k 0])
    {f_bounces : Addr} {fd_bounces : FuncData} {cd_bounces : Value} (D_bounces : DefAt K mg "bounces" s_bounces f_bounces fd_bounces cd_bounces) (F_bounces : FnX P w K mg base false 4 f_bounces fd_bounces ["hill"] (spD T K sp_bounces))
    (A_bounces_1 : KA K fd_bounces ["hill"] 1 [] [.p 0])
    (A_bounces_0_hill : KA K fd_bounces ["hill"] 0 ["hill"] [.k 0])
    {f_turn_sum : Addr} {fd_turn_sum : FuncData} {cd_turn_sum : Value} (D_turn_sum : DefAt K mg "turn_sum" s_turn_sum f_turn_sum fd_turn_sum cd_turn_sum) (F_turn_sum : FnX P w K mg base false 4 f_turn_sum fd_turn_sum ["hill"] (spD T K sp_turn_sum))
    (A_turn_sum_1 : KA K fd_turn_sum ["hill"] 1 [] [.p 0])
    (A_turn_sum_0_hill : KA K fd_turn_sum ["hill"] 0 ["hill"] [.k 0])
    {f_swept : Addr} {fd_swept : FuncData} {cd_swept : Value} (D_swept : DefAt K mg "swept" s_swept f_swept fd_swept cd_swept) (F_swept : FnX P w K mg base false 4 f_swept fd_swept ["steps", "modulus"] (spD T K sp_swept))
    (A_swept_1 : KA K fd_swept ["steps", "modulus"] 1 [] [.p 0, .n])
    (b_repr : mg "repr" = none)
    (b_sum : mg "sum" = none) :
    FnX P w K mg base true 6 f fd ["_law_row"] (spD T K sp__law_right) := by
  have S : FnScope ["_law_row", "_law_kept", "_law_due", "_law_told", "_law_named", "_law_now"] ["_law_row"] (defScope s__law_right) := ⟨rfl, rfl, rfl, by decide +kernel, rfl, by decide +kernel, by decide +kernel⟩
  exact okXF (k := 5) FU.fx S len__law_right (fun A outer s H hr hq =>
    (ss_cons (s_set S.nd (i := 1) rfl (by first | exact .inl rfl | exact .inr rfl) (q_callB (c_repr (hq rfl) (u64 hr)) (by rfl) b_repr boot_repr (a_cons (qv 0) a_nil))) (ss_cons (s_set S.nd (i := 2) rfl (by first | exact .inl rfl | exact .inr rfl) (q_lst (a_cons (q_cx F__law_under (hr.mono (by decide)) (fun z => nomatch z) (by rfl) D__law_under.mg D__law_under.fx.kp A__law_under_1 (a_cons (qv 0) a_nil)) (a_cons (q_cx F__law_pairs (hr.mono (by decide)) (fun z => nomatch z) (by rfl) D__law_pairs.mg D__law_pairs.fx.kp A__law_pairs_1 (a_cons (qv 0) a_nil)) (a_cons (q_cx F__law_bounces (hr.mono (by decide)) (fun z => nomatch z) (by rfl) D__law_bounces.mg D__law_bounces.fx.kp A__law_bounces_1 (a_cons (qv 0) a_nil)) (a_cons (q_cx F__law_turns (hr.mono (by decide)) (fun z => nomatch z) (by rfl) D__law_turns.mg D__law_turns.fx.kp A__law_turns_1 (a_cons (qv 0) a_nil)) a_nil)))))) (ss_cons (s_set S.nd (i := 3) rfl (by first | exact .inl rfl | exact .inr rfl) (q_lst (a_cons (q_cx F_under (hr.mono (by decide)) (fun z => nomatch z) (by rfl) D_under.mg D_under.fx.kp A_under_1 (a_cons (qv 0) a_nil)) (a_cons (q_cx F_count_pairs (hr.mono (by decide)) (fun z => nomatch z) (by rfl) D_count_pairs.mg D_count_pairs.fx.kp A_count_pairs_1 (a_cons (qv 0) a_nil)) (a_cons (q_cx F_bounces (hr.mono (by decide)) (fun z => nomatch z) (by rfl) D_bounces.mg D_bounces.fx.kp A_bounces_1 (a_cons (qv 0) a_nil)) (a_cons (q_cx F_turn_sum (hr.mono (by decide)) (fun z => nomatch z) (by rfl) D_turn_sum.mg D_turn_sum.fx.kp A_turn_sum_1 (a_cons (qv 0) a_nil)) a_nil)))))) (ss_cons (s_set S.nd (i := 4) rfl (by first | exact .inl rfl | exact .inr rfl) (q_lst (a_cons (q_cx0K (ks := ["hill"]) F_under (hr.mono (by decide)) (fun z => nomatch z) (by rfl) D_under.mg D_under.fx.kp A_under_0_hill (k_cons (qv 0) k_nil)) (a_cons (q_cx0K (ks := ["hill"]) F_count_pairs (hr.mono (by decide)) (fun z => nomatch z) (by rfl) D_count_pairs.mg D_count_pairs.fx.kp A_count_pairs_0_hill (k_cons (qv 0) k_nil)) (a_cons (q_cx0K (ks := ["hill"]) F_bounces (hr.mono (by decide)) (fun z => nomatch z) (by rfl) D_bounces.mg D_bounces.fx.kp A_bounces_0_hill (k_cons (qv 0) k_nil)) (a_cons (q_cx0K (ks := ["hill"]) F_turn_sum (hr.mono (by decide)) (fun z => nomatch z) (by rfl) D_turn_sum.mg D_turn_sum.fx.kp A_turn_sum_0_hill (k_cons (qv 0) k_nil)) a_nil)))))) (ss_cons (s_if (DPW.pt (w_or (q_tcmp o_ne (q_callB (c_repr (hq rfl) (u64 hr)) (by rfl) b_repr boot_repr (a_cons (q_lst (a_cons (qv 3) (a_cons (qv 4) a_nil))) a_nil)) (q_callB (c_repr (hq rfl) (u64 hr)) (by rfl) b_repr boot_repr (a_cons (q_lst (a_cons (qv 2) (a_cons (qv 2) a_nil))) a_nil))) (w_or1 (q_tcmp o_ne (q_callB (c_repr (hq rfl) (u64 hr)) (by rfl) b_repr boot_repr (a_cons (qv 0) a_nil)) (qv 1))))) (ss_one (s_ret q_bl)) ss_nil) (ss_cons (s_set S.nd (i := 5) rfl (by first | exact .inl rfl | exact .inr rfl) (q_cx F_swept (hr.mono (by decide)) (fun z => nomatch z) (by rfl) D_swept.mg D_swept.fx.kp A_swept_1 (a_cons (qv 0) a_nil))) (ss_fz 5 (ss_cons (s_if (q_tcmp o_ne (q_callB (c_repr (hq rfl) (u64 hr)) (by rfl) b_repr boot_repr (a_cons (q_lst (a_cons (q_cx F_under (hr.mono (by decide)) (fun z => nomatch z) (by rfl) D_under.mg D_under.fx.kp A_under_1 (a_cons (qv 5) a_nil)) (a_cons (q_callB c_sum (by rfl) b_sum boot_sum (a_cons (q_fz (q_cx F_bounces (hr.mono (by decide)) (fun z => nomatch z) (by rfl) D_bounces.mg D_bounces.fx.kp A_bounces_1 (a_cons (qv 5) a_nil))) a_nil)) a_nil))) a_nil)) (q_callB (c_repr (hq rfl) (u64 hr)) (by rfl) b_repr boot_repr (a_cons (q_lst (a_cons (q_ix (qv 2) q_int) (a_cons (q_ix (qv 2) q_int) a_nil))) a_nil))) (ss_one (s_ret q_bl)) ss_nil) (ss_cons (s_if (q_tcmp (o_neP (u64 hr)) (q_lst (a_cons (q_cx F__law_under (hr.mono (by decide)) (fun z => nomatch z) (by rfl) D__law_under.mg D__law_under.fx.kp A__law_under_1 (a_cons (qv 5) a_nil)) (a_cons (q_callB c_sum (by rfl) b_sum boot_sum (a_cons (q_fz (q_cx F__law_bounces (hr.mono (by decide)) (fun z => nomatch z) (by rfl) D__law_bounces.mg D__law_bounces.fx.kp A__law_bounces_1 (a_cons (qv 5) a_nil))) a_nil)) a_nil))) (q_lst (a_cons (q_ix (qv 2) q_int) (a_cons (q_ix (qv 2) q_int) a_nil)))) (ss_one (s_ret q_bl)) ss_nil) (ss_cons (s_expr (q_bm PySem.F.slot_list_append PySem.F.type_list_append m_append (q_ix (qv 3) q_int) (a_cons q_non a_nil))) (ss_one (s_ret (q_and (q_cmp o_eq (q_callB (c_repr (hq rfl) (u64 hr)) (by rfl) b_repr boot_repr (a_cons (q_fz (q_cx F_bounces (hr.mono (by decide)) (fun z => nomatch z) (by rfl) D_bounces.mg D_bounces.fx.kp A_bounces_1 (a_cons (qv 0) a_nil))) a_nil)) (q_callB (c_repr (hq rfl) (u64 hr)) (by rfl) b_repr boot_repr (a_cons (q_ix (qv 2) q_int) a_nil))) (q_one (q_cmp o_eq (q_callB (c_repr (hq rfl) (u64 hr)) (by rfl) b_repr boot_repr (a_cons (qv 0) a_nil)) (qv 1))))))))))))))))) (v__law_right swT)

theorem ok_law {P : Program} {w : World} {K : PySem.W.Frag} {mg : Str → Option Value} {base : Heap} {T : List (Addr × Str)} {f : Addr} {fd : FuncData} {cd : Value} (FU : DefAt K mg "law" s_law f fd cd)
    {f__law_draws : Addr} {fd__law_draws : FuncData} {cd__law_draws : Value} (D__law_draws : DefAt K mg "_law_draws" s__law_draws f__law_draws fd__law_draws cd__law_draws) (F__law_draws : FnX P w K mg base false 1 f__law_draws fd__law_draws ["_law_cell"] (spD T K sp__law_draws))
    (A__law_draws_1 : KA K fd__law_draws ["_law_cell"] 1 [] [.p 0])
    {f__law_drawn : Addr} {fd__law_drawn : FuncData} {cd__law_drawn : Value} (D__law_drawn : DefAt K mg "_law_drawn" s__law_drawn f__law_drawn fd__law_drawn cd__law_drawn) (F__law_drawn : FnX P w K mg base false 2 f__law_drawn fd__law_drawn ["_law_draws_here", "_law_most"] (spD T K sp__law_drawn))
    (A__law_drawn_2 : KA K fd__law_drawn ["_law_draws_here", "_law_most"] 2 [] [.p 0, .p 1])
    {f__law_right : Addr} {fd__law_right : FuncData} {cd__law_right : Value} (D__law_right : DefAt K mg "_law_right" s__law_right f__law_right fd__law_right cd__law_right) (F__law_right : FnX P w K mg base true 6 f__law_right fd__law_right ["_law_row"] (spD T K sp__law_right))
    (A__law_right_1 : KA K fd__law_right ["_law_row"] 1 [] [.p 0])
    {f__law_all : Addr} {fd__law_all : FuncData} {cd__law_all : Value} (D__law_all : DefAt K mg "_law_all" s__law_all f__law_all fd__law_all cd__law_all) (F__law_all : FnX P w K mg base false 1 f__law_all fd__law_all ["_law_ups"] (spD T K sp__law_all))
    (A__law_all_1 : KA K fd__law_all ["_law_ups"] 1 [] [.p 0])
    {f_under : Addr} {fd_under : FuncData} {cd_under : Value} (D_under : DefAt K mg "under" s_under f_under fd_under cd_under) (F_under : FnX P w K mg base false 4 f_under fd_under ["hill"] (spD T K sp_under))
    (A_under_1 : KA K fd_under ["hill"] 1 [] [.p 0])
    {f_count_pairs : Addr} {fd_count_pairs : FuncData} {cd_count_pairs : Value} (D_count_pairs : DefAt K mg "count_pairs" s_count_pairs f_count_pairs fd_count_pairs cd_count_pairs) (F_count_pairs : FnX P w K mg base false 4 f_count_pairs fd_count_pairs ["hill"] (spD T K sp_count_pairs))
    (A_count_pairs_1 : KA K fd_count_pairs ["hill"] 1 [] [.p 0])
    {f_turn_sum : Addr} {fd_turn_sum : FuncData} {cd_turn_sum : Value} (D_turn_sum : DefAt K mg "turn_sum" s_turn_sum f_turn_sum fd_turn_sum cd_turn_sum) (F_turn_sum : FnX P w K mg base false 4 f_turn_sum fd_turn_sum ["hill"] (spD T K sp_turn_sum))
    (A_turn_sum_1 : KA K fd_turn_sum ["hill"] 1 [] [.p 0])
    {f_bounces : Addr} {fd_bounces : FuncData} {cd_bounces : Value} (D_bounces : DefAt K mg "bounces" s_bounces f_bounces fd_bounces cd_bounces) (F_bounces : FnX P w K mg base false 4 f_bounces fd_bounces ["hill"] (spD T K sp_bounces))
    (A_bounces_1 : KA K fd_bounces ["hill"] 1 [] [.p 0])
    (b_list : mg "list" = none)
    (b_range : mg "range" = none) :
    FnX P w K mg base true 7 f fd ["_law_script"] (spD T K sp_law) := by
  have S : FnScope ["_law_script", "_law_draws_here", "_law_ups", "_law_row", "_law_most", "_law_cell"] ["_law_script"] (defScope s_law) := ⟨rfl, rfl, rfl, by decide +kernel, rfl, by decide +kernel, by decide +kernel⟩
  exact okX (k := 6) FU.fx S len_law (fun A outer s H hr hq =>
    (ss_cons (s_for PassesOwn.never rfl (i_lst (q_lc rfl S.nd (i_lst (q_op o_cat (q_sl (qv 0) p_none (p_some q_int)) (q_lst (a_cons q_int a_nil)))) (own := [("_law_cell", 5)]) (blkOk_by (N := ["_law_script", "_law_draws_here", "_law_ups", "_law_row", "_law_most", "_law_cell"]) (sc := defScope s_law) (by decide +kernel)) (fun _ _ _ _ _ => (go_name S.nd rfl (by first | exact .inl rfl | exact .inr rfl) (by decide))) (fun _ _ _ _ _ => ts_nil) (fun _ _ _ _ _ => (q_cx F__law_draws (hr.mono (by decide)) (fun z => nomatch z) (by rfl) D__law_draws.mg D__law_draws.fx.kp A__law_draws_1 (a_cons (qv 5) a_nil))))) (g_name S.nd rfl (by first | exact .inl rfl | exact .inr rfl)) (ss_one (s_for PassesOwn.never rfl (i_lst (q_lst (a_cons q_int (a_cons q_int (a_cons q_int a_nil))))) (g_name S.nd rfl (by first | exact .inl rfl | exact .inr rfl)) (ss_one (s_if (q_tnot (q_tval (q_cx F__law_right (hr.mono (by decide)) (fun _ => hq rfl) (by rfl) D__law_right.mg D__law_right.fx.kp A__law_right_1 (a_cons (q_fz (q_cx F__law_drawn (hr.mono (by decide)) (fun z => nomatch z) (by rfl) D__law_drawn.mg D__law_drawn.fx.kp A__law_drawn_2 (a_cons (qv 1) (a_cons (qv 4) a_nil)))) a_nil)))) (ss_one (s_ret q_bl)) ss_nil))))) (ss_cons (s_for PassesOwn.never rfl (i_range1 (by rfl) b_range (a_cons q_int a_nil)) (g_name S.nd rfl (by first | exact .inl rfl | exact .inr rfl)) (ss_one (s_for PassesOwn.never rfl (i_lst (q_fz (q_cx F__law_all (hr.mono (by decide)) (fun z => nomatch z) (by rfl) D__law_all.mg D__law_all.fx.kp A__law_all_1 (a_cons (qv 2) a_nil)))) (g_name S.nd rfl (by first | exact .inl rfl | exact .inr rfl)) (ss_one (s_if (q_tnot (q_tval (q_cx F__law_right (hr.mono (by decide)) (fun _ => hq rfl) (by rfl) D__law_right.mg D__law_right.fx.kp A__law_right_1 (a_cons (qv 3) a_nil)))) (ss_one (s_ret q_bl)) ss_nil))))) (ss_cons (s_for PassesOwn.never rfl (i_lst (q_lst (a_cons (q_op o_rep (q_lst (a_cons q_int (a_cons (q_un u_neg q_int) a_nil))) q_int) (a_cons (q_op o_cat (q_op o_rep (q_lst (a_cons q_int a_nil)) q_int) (q_op o_rep (q_lst (a_cons (q_un u_neg q_int) a_nil)) q_int)) (a_cons (q_op o_rep (q_lst (a_cons q_int (a_cons q_int (a_cons (q_un u_neg q_int) (a_cons (q_un u_neg q_int) a_nil))))) q_int) (a_cons (q_op o_cat (q_op o_cat (q_op o_rep (q_lst (a_cons q_int a_nil)) q_int) (q_op o_rep (q_lst (a_cons q_int (a_cons (q_un u_neg q_int) a_nil))) q_int)) (q_op o_rep (q_lst (a_cons (q_un u_neg q_int) a_nil)) q_int)) a_nil)))))) (g_name S.nd rfl (by first | exact .inl rfl | exact .inr rfl)) (ss_one (s_if (q_tnot (q_tval (q_cx F__law_right (hr.mono (by decide)) (fun _ => hq rfl) (by rfl) D__law_right.mg D__law_right.fx.kp A__law_right_1 (a_cons (qv 3) a_nil)))) (ss_one (s_ret q_bl)) ss_nil))) (ss_cons (s_if (q_tcmp (o_neP (u64 hr)) (q_lst (a_cons (q_cx F_under (hr.mono (by decide)) (fun z => nomatch z) (by rfl) D_under.mg D_under.fx.kp A_under_1 (a_cons (q_op o_cat (q_op o_rep (q_lst (a_cons q_int a_nil)) q_int) (q_op o_rep (q_lst (a_cons (q_un u_neg q_int) a_nil)) q_int)) a_nil)) (a_cons (q_cx F_count_pairs (hr.mono (by decide)) (fun z => nomatch z) (by rfl) D_count_pairs.mg D_count_pairs.fx.kp A_count_pairs_1 (a_cons (q_op o_rep (q_lst (a_cons q_int (a_cons (q_un u_neg q_int) a_nil))) q_int) a_nil)) (a_cons (q_cx F_turn_sum (hr.mono (by decide)) (fun z => nomatch z) (by rfl) D_turn_sum.mg D_turn_sum.fx.kp A_turn_sum_1 (a_cons (q_op o_rep (q_lst (a_cons q_int (a_cons (q_un u_neg q_int) a_nil))) q_int) a_nil)) a_nil)))) (q_lst (a_cons q_int (a_cons q_int (a_cons q_int a_nil))))) (ss_one (s_ret q_bl)) ss_nil) (ss_one (s_ret (q_and (q_cmp (o_eqP (u64 hr)) (q_fz (q_cx F_bounces (hr.mono (by decide)) (fun z => nomatch z) (by rfl) D_bounces.mg D_bounces.fx.kp A_bounces_1 (a_cons (q_op o_rep (q_lst (a_cons q_int (a_cons (q_un u_neg q_int) a_nil))) q_int) a_nil))) (q_lrg rfl (by rfl) b_list (by rfl) b_range (a_cons q_int (a_cons (q_un u_neg q_int) (a_cons (q_un u_neg q_int) a_nil))))) (q_one (q_cmp (o_eqP (u64 hr)) (q_fz (q_cx F_bounces (hr.mono (by decide)) (fun z => nomatch z) (by rfl) D_bounces.mg D_bounces.fx.kp A_bounces_1 (a_cons (q_op o_cat (q_op o_rep (q_lst (a_cons q_int a_nil)) q_int) (q_op o_rep (q_lst (a_cons (q_un u_neg q_int) a_nil)) q_int)) a_nil))) (q_lst (a_cons q_int a_nil)))))))))))) v_law

theorem all_mk {l : PySem.W.OpenLaw} {w : World} {K : PySem.W.Frag} {h : Heap} {q : Program} {mg : Str → Option Value} {fa : Addr} (X : K.In h) (G : h.Ns mainGlobals mg) (hfa : mg "law" = some (.ref fa))
    (tab : ∀ y c Pt, (PyProof.Rows.recsOf q).any (fun e => e.name == y) = true → PySem.W.tabIn K y = some (c, Pt) → PySem.W.CodeHd h c Pt ∧ h.get? Pt = some { cls := .none, data := .fields #[] })
    (y_places_in : (PyProof.Rows.recsOf q).any (fun e => e.name == ("places_in" : Str)) = true)
    (y_pairs_in : (PyProof.Rows.recsOf q).any (fun e => e.name == ("pairs_in" : Str)) = true)
    (y_turns_in : (PyProof.Rows.recsOf q).any (fun e => e.name == ("turns_in" : Str)) = true)
    {f_is_whole : Addr} {od_is_whole an_is_whole : Option Addr} {sl_is_whole : Array (Option Value)} {oc_is_whole kv_is_whole dc_is_whole pm_is_whole cd_is_whole tt_is_whole : Value}
    (a_is_whole : PySem.W.nsIn K mainGlobals "is_whole" = some (some (.ref f_is_whole))) (l_is_whole : K.lookup f_is_whole = some ⟨oc_is_whole, od_is_whole, .func (PySem.W.fnOf "is_whole" "is_whole" (defArgs s_is_whole) (defBody s_is_whole) (defScope s_is_whole) .none kv_is_whole dc_is_whole pm_is_whole an_is_whole cd_is_whole tt_is_whole), sl_is_whole⟩) (c_is_whole : PySem.W.codeIn K cd_is_whole "is_whole" = true) (k_is_whole : PySem.W.keepIn K (.ref f_is_whole) = true)
    {f_check_from : Addr} {od_check_from an_check_from : Option Addr} {sl_check_from : Array (Option Value)} {oc_check_from kv_check_from dc_check_from pm_check_from cd_check_from tt_check_from : Value}
    (a_check_from : PySem.W.nsIn K mainGlobals "check_from" = some (some (.ref f_check_from))) (l_check_from : K.lookup f_check_from = some ⟨oc_check_from, od_check_from, .func (PySem.W.fnOf "check_from" "check_from" (defArgs s_check_from) (defBody s_check_from) (defScope s_check_from) .none kv_check_from dc_check_from pm_check_from an_check_from cd_check_from tt_check_from), sl_check_from⟩) (c_check_from : PySem.W.codeIn K cd_check_from "check_from" = true) (k_check_from : PySem.W.keepIn K (.ref f_check_from) = true)
    {f_check_steps : Addr} {od_check_steps an_check_steps : Option Addr} {sl_check_steps : Array (Option Value)} {oc_check_steps kv_check_steps dc_check_steps pm_check_steps cd_check_steps tt_check_steps : Value}
    (a_check_steps : PySem.W.nsIn K mainGlobals "check_steps" = some (some (.ref f_check_steps))) (l_check_steps : K.lookup f_check_steps = some ⟨oc_check_steps, od_check_steps, .func (PySem.W.fnOf "check_steps" "check_steps" (defArgs s_check_steps) (defBody s_check_steps) (defScope s_check_steps) .none kv_check_steps dc_check_steps pm_check_steps an_check_steps cd_check_steps tt_check_steps), sl_check_steps⟩) (c_check_steps : PySem.W.codeIn K cd_check_steps "check_steps" = true) (k_check_steps : PySem.W.keepIn K (.ref f_check_steps) = true)
    {f_heights_in : Addr} {od_heights_in an_heights_in : Option Addr} {sl_heights_in : Array (Option Value)} {oc_heights_in kv_heights_in dc_heights_in pm_heights_in cd_heights_in tt_heights_in : Value}
    (a_heights_in : PySem.W.nsIn K mainGlobals "heights_in" = some (some (.ref f_heights_in))) (l_heights_in : K.lookup f_heights_in = some ⟨oc_heights_in, od_heights_in, .func (PySem.W.fnOf "heights_in" "heights_in" (defArgs s_heights_in) (defBody s_heights_in) (defScope s_heights_in) .none kv_heights_in dc_heights_in pm_heights_in an_heights_in cd_heights_in tt_heights_in), sl_heights_in⟩) (c_heights_in : PySem.W.codeIn K cd_heights_in "heights_in" = true) (k_heights_in : PySem.W.keepIn K (.ref f_heights_in) = true)
    {f_first_below : Addr} {od_first_below an_first_below : Option Addr} {sl_first_below : Array (Option Value)} {oc_first_below kv_first_below dc_first_below pm_first_below cd_first_below tt_first_below : Value}
    (a_first_below : PySem.W.nsIn K mainGlobals "first_below" = some (some (.ref f_first_below))) (l_first_below : K.lookup f_first_below = some ⟨oc_first_below, od_first_below, .func (PySem.W.fnOf "first_below" "first_below" (defArgs s_first_below) (defBody s_first_below) (defScope s_first_below) .none kv_first_below dc_first_below pm_first_below an_first_below cd_first_below tt_first_below), sl_first_below⟩) (c_first_below : PySem.W.codeIn K cd_first_below "first_below" = true) (k_first_below : PySem.W.keepIn K (.ref f_first_below) = true)
    {f_check_modulus : Addr} {od_check_modulus an_check_modulus : Option Addr} {sl_check_modulus : Array (Option Value)} {oc_check_modulus kv_check_modulus dc_check_modulus pm_check_modulus cd_check_modulus tt_check_modulus : Value}
    (a_check_modulus : PySem.W.nsIn K mainGlobals "check_modulus" = some (some (.ref f_check_modulus))) (l_check_modulus : K.lookup f_check_modulus = some ⟨oc_check_modulus, od_check_modulus, .func (PySem.W.fnOf "check_modulus" "check_modulus" (defArgs s_check_modulus) (defBody s_check_modulus) (defScope s_check_modulus) .none kv_check_modulus dc_check_modulus pm_check_modulus an_check_modulus cd_check_modulus tt_check_modulus), sl_check_modulus⟩) (c_check_modulus : PySem.W.codeIn K cd_check_modulus "check_modulus" = true) (k_check_modulus : PySem.W.keepIn K (.ref f_check_modulus) = true)
    {f_places_in : Addr} {od_places_in an_places_in : Option Addr} {sl_places_in : Array (Option Value)} {oc_places_in kv_places_in dc_places_in pm_places_in  tt_places_in : Value} {ct_places_in Pt_places_in : Addr}
    (a_places_in : PySem.W.nsIn K mainGlobals "places_in" = some (some (.ref f_places_in))) (l_places_in : K.lookup f_places_in = some ⟨oc_places_in, od_places_in, .func (PySem.W.fnOf "places_in" "places_in" (defArgs s_places_in) (defBody s_places_in) (defScope s_places_in) .none kv_places_in dc_places_in pm_places_in an_places_in (.ref ct_places_in) tt_places_in), sl_places_in⟩) (c_places_in : PySem.W.codeIn K (.ref ct_places_in) "places_in" = true) (k_places_in : PySem.W.keepIn K (.ref f_places_in) = true)
    {xc_places_in : Value} {xd_places_in : Option Addr} {us_places_in : Array Value} {xs_places_in : Array (Option Value)} (t_places_in : K.lookup ct_places_in = some ⟨xc_places_in, xd_places_in, .fields us_places_in, xs_places_in⟩) (p_places_in : us_places_in[11]? = some (.ref Pt_places_in)) (n_places_in : K.lookup Pt_places_in = none)
    {f_swept_in : Addr} {od_swept_in an_swept_in : Option Addr} {sl_swept_in : Array (Option Value)} {oc_swept_in kv_swept_in dc_swept_in pm_swept_in cd_swept_in tt_swept_in : Value}
    (a_swept_in : PySem.W.nsIn K mainGlobals "swept_in" = some (some (.ref f_swept_in))) (l_swept_in : K.lookup f_swept_in = some ⟨oc_swept_in, od_swept_in, .func (PySem.W.fnOf "swept_in" "swept_in" (defArgs s_swept_in) (defBody s_swept_in) (defScope s_swept_in) .none kv_swept_in dc_swept_in pm_swept_in an_swept_in cd_swept_in tt_swept_in), sl_swept_in⟩) (c_swept_in : PySem.W.codeIn K cd_swept_in "swept_in" = true) (k_swept_in : PySem.W.keepIn K (.ref f_swept_in) = true)
    {f_swept : Addr} {od_swept an_swept : Option Addr} {sl_swept : Array (Option Value)} {oc_swept kv_swept dc_swept pm_swept cd_swept tt_swept : Value} {dt_swept : Addr} {cl_swept : Value} {dd_swept : Option Addr} {nn_swept : Nat} {ss_swept : Array (Option Value)}
    (a_swept : PySem.W.nsIn K mainGlobals "swept" = some (some (.ref f_swept))) (l_swept : K.lookup f_swept = some ⟨oc_swept, od_swept, .func (PySem.W.fnOf "swept" "swept" (defArgs s_swept) (defBody s_swept) (defScope s_swept) (.ref dt_swept) kv_swept dc_swept pm_swept an_swept cd_swept tt_swept), sl_swept⟩) (c_swept : PySem.W.codeIn K cd_swept "swept" = true) (k_swept : PySem.W.keepIn K (.ref f_swept) = true)
    (dl_swept : K.lookup dt_swept = some ⟨cl_swept, dd_swept, .seq #[.none] nn_swept, ss_swept⟩)
    {f_check_hill : Addr} {od_check_hill an_check_hill : Option Addr} {sl_check_hill : Array (Option Value)} {oc_check_hill kv_check_hill dc_check_hill pm_check_hill cd_check_hill tt_check_hill : Value}
    (a_check_hill : PySem.W.nsIn K mainGlobals "check_hill" = some (some (.ref f_check_hill))) (l_check_hill : K.lookup f_check_hill = some ⟨oc_check_hill, od_check_hill, .func (PySem.W.fnOf "check_hill" "check_hill" (defArgs s_check_hill) (defBody s_check_hill) (defScope s_check_hill) .none kv_check_hill dc_check_hill pm_check_hill an_check_hill cd_check_hill tt_check_hill), sl_check_hill⟩) (c_check_hill : PySem.W.codeIn K cd_check_hill "check_hill" = true) (k_check_hill : PySem.W.keepIn K (.ref f_check_hill) = true)
    {f_begins_in : Addr} {od_begins_in an_begins_in : Option Addr} {sl_begins_in : Array (Option Value)} {oc_begins_in kv_begins_in dc_begins_in pm_begins_in cd_begins_in tt_begins_in : Value}
    (a_begins_in : PySem.W.nsIn K mainGlobals "begins_in" = some (some (.ref f_begins_in))) (l_begins_in : K.lookup f_begins_in = some ⟨oc_begins_in, od_begins_in, .func (PySem.W.fnOf "begins_in" "begins_in" (defArgs s_begins_in) (defBody s_begins_in) (defScope s_begins_in) .none kv_begins_in dc_begins_in pm_begins_in an_begins_in cd_begins_in tt_begins_in), sl_begins_in⟩) (c_begins_in : PySem.W.codeIn K cd_begins_in "begins_in" = true) (k_begins_in : PySem.W.keepIn K (.ref f_begins_in) = true)
    {f_pairs_in : Addr} {od_pairs_in an_pairs_in : Option Addr} {sl_pairs_in : Array (Option Value)} {oc_pairs_in kv_pairs_in dc_pairs_in pm_pairs_in  tt_pairs_in : Value} {ct_pairs_in Pt_pairs_in : Addr}
    (a_pairs_in : PySem.W.nsIn K mainGlobals "pairs_in" = some (some (.ref f_pairs_in))) (l_pairs_in : K.lookup f_pairs_in = some ⟨oc_pairs_in, od_pairs_in, .func (PySem.W.fnOf "pairs_in" "pairs_in" (defArgs s_pairs_in) (defBody s_pairs_in) (defScope s_pairs_in) .none kv_pairs_in dc_pairs_in pm_pairs_in an_pairs_in (.ref ct_pairs_in) tt_pairs_in), sl_pairs_in⟩) (c_pairs_in : PySem.W.codeIn K (.ref ct_pairs_in) "pairs_in" = true) (k_pairs_in : PySem.W.keepIn K (.ref f_pairs_in) = true)
    {xc_pairs_in : Value} {xd_pairs_in : Option Addr} {us_pairs_in : Array Value} {xs_pairs_in : Array (Option Value)} (t_pairs_in : K.lookup ct_pairs_in = some ⟨xc_pairs_in, xd_pairs_in, .fields us_pairs_in, xs_pairs_in⟩) (p_pairs_in : us_pairs_in[11]? = some (.ref Pt_pairs_in)) (n_pairs_in : K.lookup Pt_pairs_in = none)
    {f_turns_in : Addr} {od_turns_in an_turns_in : Option Addr} {sl_turns_in : Array (Option Value)} {oc_turns_in kv_turns_in dc_turns_in pm_turns_in  tt_turns_in : Value} {ct_turns_in Pt_turns_in : Addr}
    (a_turns_in : PySem.W.nsIn K mainGlobals "turns_in" = some (some (.ref f_turns_in))) (l_turns_in : K.lookup f_turns_in = some ⟨oc_turns_in, od_turns_in, .func (PySem.W.fnOf "turns_in" "turns_in" (defArgs s_turns_in) (defBody s_turns_in) (defScope s_turns_in) .none kv_turns_in dc_turns_in pm_turns_in an_turns_in (.ref ct_turns_in) tt_turns_in), sl_turns_in⟩) (c_turns_in : PySem.W.codeIn K (.ref ct_turns_in) "turns_in" = true) (k_turns_in : PySem.W.keepIn K (.ref f_turns_in) = true)
    {xc_turns_in : Value} {xd_turns_in : Option Addr} {us_turns_in : Array Value} {xs_turns_in : Array (Option Value)} (t_turns_in : K.lookup ct_turns_in = some ⟨xc_turns_in, xd_turns_in, .fields us_turns_in, xs_turns_in⟩) (p_turns_in : us_turns_in[11]? = some (.ref Pt_turns_in)) (n_turns_in : K.lookup Pt_turns_in = none)
    {f_under : Addr} {od_under an_under : Option Addr} {sl_under : Array (Option Value)} {oc_under kv_under dc_under pm_under cd_under tt_under : Value}
    (a_under : PySem.W.nsIn K mainGlobals "under" = some (some (.ref f_under))) (l_under : K.lookup f_under = some ⟨oc_under, od_under, .func (PySem.W.fnOf "under" "under" (defArgs s_under) (defBody s_under) (defScope s_under) .none kv_under dc_under pm_under an_under cd_under tt_under), sl_under⟩) (c_under : PySem.W.codeIn K cd_under "under" = true) (k_under : PySem.W.keepIn K (.ref f_under) = true)
    {f_count_pairs : Addr} {od_count_pairs an_count_pairs : Option Addr} {sl_count_pairs : Array (Option Value)} {oc_count_pairs kv_count_pairs dc_count_pairs pm_count_pairs cd_count_pairs tt_count_pairs : Value}
    (a_count_pairs : PySem.W.nsIn K mainGlobals "count_pairs" = some (some (.ref f_count_pairs))) (l_count_pairs : K.lookup f_count_pairs = some ⟨oc_count_pairs, od_count_pairs, .func (PySem.W.fnOf "count_pairs" "count_pairs" (defArgs s_count_pairs) (defBody s_count_pairs) (defScope s_count_pairs) .none kv_count_pairs dc_count_pairs pm_count_pairs an_count_pairs cd_count_pairs tt_count_pairs), sl_count_pairs⟩) (c_count_pairs : PySem.W.codeIn K cd_count_pairs "count_pairs" = true) (k_count_pairs : PySem.W.keepIn K (.ref f_count_pairs) = true)
    {f_bounces : Addr} {od_bounces an_bounces : Option Addr} {sl_bounces : Array (Option Value)} {oc_bounces kv_bounces dc_bounces pm_bounces cd_bounces tt_bounces : Value}
    (a_bounces : PySem.W.nsIn K mainGlobals "bounces" = some (some (.ref f_bounces))) (l_bounces : K.lookup f_bounces = some ⟨oc_bounces, od_bounces, .func (PySem.W.fnOf "bounces" "bounces" (defArgs s_bounces) (defBody s_bounces) (defScope s_bounces) .none kv_bounces dc_bounces pm_bounces an_bounces cd_bounces tt_bounces), sl_bounces⟩) (c_bounces : PySem.W.codeIn K cd_bounces "bounces" = true) (k_bounces : PySem.W.keepIn K (.ref f_bounces) = true)
    {f_turn_sum : Addr} {od_turn_sum an_turn_sum : Option Addr} {sl_turn_sum : Array (Option Value)} {oc_turn_sum kv_turn_sum dc_turn_sum pm_turn_sum cd_turn_sum tt_turn_sum : Value}
    (a_turn_sum : PySem.W.nsIn K mainGlobals "turn_sum" = some (some (.ref f_turn_sum))) (l_turn_sum : K.lookup f_turn_sum = some ⟨oc_turn_sum, od_turn_sum, .func (PySem.W.fnOf "turn_sum" "turn_sum" (defArgs s_turn_sum) (defBody s_turn_sum) (defScope s_turn_sum) .none kv_turn_sum dc_turn_sum pm_turn_sum an_turn_sum cd_turn_sum tt_turn_sum), sl_turn_sum⟩) (c_turn_sum : PySem.W.codeIn K cd_turn_sum "turn_sum" = true) (k_turn_sum : PySem.W.keepIn K (.ref f_turn_sum) = true)
    {f__law_draws : Addr} {od__law_draws an__law_draws : Option Addr} {sl__law_draws : Array (Option Value)} {oc__law_draws kv__law_draws dc__law_draws pm__law_draws cd__law_draws tt__law_draws : Value}
    (a__law_draws : PySem.W.nsIn K mainGlobals "_law_draws" = some (some (.ref f__law_draws))) (l__law_draws : K.lookup f__law_draws = some ⟨oc__law_draws, od__law_draws, .func (PySem.W.fnOf "_law_draws" "_law_draws" (defArgs s__law_draws) (defBody s__law_draws) (defScope s__law_draws) .none kv__law_draws dc__law_draws pm__law_draws an__law_draws cd__law_draws tt__law_draws), sl__law_draws⟩) (c__law_draws : PySem.W.codeIn K cd__law_draws "_law_draws" = true) (k__law_draws : PySem.W.keepIn K (.ref f__law_draws) = true)
    {f__law_next : Addr} {od__law_next an__law_next : Option Addr} {sl__law_next : Array (Option Value)} {oc__law_next kv__law_next dc__law_next pm__law_next cd__law_next tt__law_next : Value}
    (a__law_next : PySem.W.nsIn K mainGlobals "_law_next" = some (some (.ref f__law_next))) (l__law_next : K.lookup f__law_next = some ⟨oc__law_next, od__law_next, .func (PySem.W.fnOf "_law_next" "_law_next" (defArgs s__law_next) (defBody s__law_next) (defScope s__law_next) .none kv__law_next dc__law_next pm__law_next an__law_next cd__law_next tt__law_next), sl__law_next⟩) (c__law_next : PySem.W.codeIn K cd__law_next "_law_next" = true) (k__law_next : PySem.W.keepIn K (.ref f__law_next) = true)
    {f__law_drawn : Addr} {od__law_drawn an__law_drawn : Option Addr} {sl__law_drawn : Array (Option Value)} {oc__law_drawn kv__law_drawn dc__law_drawn pm__law_drawn cd__law_drawn tt__law_drawn : Value}
    (a__law_drawn : PySem.W.nsIn K mainGlobals "_law_drawn" = some (some (.ref f__law_drawn))) (l__law_drawn : K.lookup f__law_drawn = some ⟨oc__law_drawn, od__law_drawn, .func (PySem.W.fnOf "_law_drawn" "_law_drawn" (defArgs s__law_drawn) (defBody s__law_drawn) (defScope s__law_drawn) .none kv__law_drawn dc__law_drawn pm__law_drawn an__law_drawn cd__law_drawn tt__law_drawn), sl__law_drawn⟩) (c__law_drawn : PySem.W.codeIn K cd__law_drawn "_law_drawn" = true) (k__law_drawn : PySem.W.keepIn K (.ref f__law_drawn) = true)
    {f__law_all : Addr} {od__law_all an__law_all : Option Addr} {sl__law_all : Array (Option Value)} {oc__law_all kv__law_all dc__law_all pm__law_all cd__law_all tt__law_all : Value}
    (a__law_all : PySem.W.nsIn K mainGlobals "_law_all" = some (some (.ref f__law_all))) (l__law_all : K.lookup f__law_all = some ⟨oc__law_all, od__law_all, .func (PySem.W.fnOf "_law_all" "_law_all" (defArgs s__law_all) (defBody s__law_all) (defScope s__law_all) .none kv__law_all dc__law_all pm__law_all an__law_all cd__law_all tt__law_all), sl__law_all⟩) (c__law_all : PySem.W.codeIn K cd__law_all "_law_all" = true) (k__law_all : PySem.W.keepIn K (.ref f__law_all) = true)
    {f__law_begins : Addr} {od__law_begins an__law_begins : Option Addr} {sl__law_begins : Array (Option Value)} {oc__law_begins kv__law_begins dc__law_begins pm__law_begins cd__law_begins tt__law_begins : Value}
    (a__law_begins : PySem.W.nsIn K mainGlobals "_law_begins" = some (some (.ref f__law_begins))) (l__law_begins : K.lookup f__law_begins = some ⟨oc__law_begins, od__law_begins, .func (PySem.W.fnOf "_law_begins" "_law_begins" (defArgs s__law_begins) (defBody s__law_begins) (defScope s__law_begins) .none kv__law_begins dc__law_begins pm__law_begins an__law_begins cd__law_begins tt__law_begins), sl__law_begins⟩) (c__law_begins : PySem.W.codeIn K cd__law_begins "_law_begins" = true) (k__law_begins : PySem.W.keepIn K (.ref f__law_begins) = true)
    {f__law_under : Addr} {od__law_under an__law_under : Option Addr} {sl__law_under : Array (Option Value)} {oc__law_under kv__law_under dc__law_under pm__law_under cd__law_under tt__law_under : Value}
    (a__law_under : PySem.W.nsIn K mainGlobals "_law_under" = some (some (.ref f__law_under))) (l__law_under : K.lookup f__law_under = some ⟨oc__law_under, od__law_under, .func (PySem.W.fnOf "_law_under" "_law_under" (defArgs s__law_under) (defBody s__law_under) (defScope s__law_under) .none kv__law_under dc__law_under pm__law_under an__law_under cd__law_under tt__law_under), sl__law_under⟩) (c__law_under : PySem.W.codeIn K cd__law_under "_law_under" = true) (k__law_under : PySem.W.keepIn K (.ref f__law_under) = true)
    {f__law_pairs : Addr} {od__law_pairs an__law_pairs : Option Addr} {sl__law_pairs : Array (Option Value)} {oc__law_pairs kv__law_pairs dc__law_pairs pm__law_pairs cd__law_pairs tt__law_pairs : Value}
    (a__law_pairs : PySem.W.nsIn K mainGlobals "_law_pairs" = some (some (.ref f__law_pairs))) (l__law_pairs : K.lookup f__law_pairs = some ⟨oc__law_pairs, od__law_pairs, .func (PySem.W.fnOf "_law_pairs" "_law_pairs" (defArgs s__law_pairs) (defBody s__law_pairs) (defScope s__law_pairs) .none kv__law_pairs dc__law_pairs pm__law_pairs an__law_pairs cd__law_pairs tt__law_pairs), sl__law_pairs⟩) (c__law_pairs : PySem.W.codeIn K cd__law_pairs "_law_pairs" = true) (k__law_pairs : PySem.W.keepIn K (.ref f__law_pairs) = true)
    {f__law_bounces : Addr} {od__law_bounces an__law_bounces : Option Addr} {sl__law_bounces : Array (Option Value)} {oc__law_bounces kv__law_bounces dc__law_bounces pm__law_bounces cd__law_bounces tt__law_bounces : Value}
    (a__law_bounces : PySem.W.nsIn K mainGlobals "_law_bounces" = some (some (.ref f__law_bounces))) (l__law_bounces : K.lookup f__law_bounces = some ⟨oc__law_bounces, od__law_bounces, .func (PySem.W.fnOf "_law_bounces" "_law_bounces" (defArgs s__law_bounces) (defBody s__law_bounces) (defScope s__law_bounces) .none kv__law_bounces dc__law_bounces pm__law_bounces an__law_bounces cd__law_bounces tt__law_bounces), sl__law_bounces⟩) (c__law_bounces : PySem.W.codeIn K cd__law_bounces "_law_bounces" = true) (k__law_bounces : PySem.W.keepIn K (.ref f__law_bounces) = true)
    {f__law_turns : Addr} {od__law_turns an__law_turns : Option Addr} {sl__law_turns : Array (Option Value)} {oc__law_turns kv__law_turns dc__law_turns pm__law_turns cd__law_turns tt__law_turns : Value}
    (a__law_turns : PySem.W.nsIn K mainGlobals "_law_turns" = some (some (.ref f__law_turns))) (l__law_turns : K.lookup f__law_turns = some ⟨oc__law_turns, od__law_turns, .func (PySem.W.fnOf "_law_turns" "_law_turns" (defArgs s__law_turns) (defBody s__law_turns) (defScope s__law_turns) .none kv__law_turns dc__law_turns pm__law_turns an__law_turns cd__law_turns tt__law_turns), sl__law_turns⟩) (c__law_turns : PySem.W.codeIn K cd__law_turns "_law_turns" = true) (k__law_turns : PySem.W.keepIn K (.ref f__law_turns) = true)
    {f__law_right : Addr} {od__law_right an__law_right : Option Addr} {sl__law_right : Array (Option Value)} {oc__law_right kv__law_right dc__law_right pm__law_right cd__law_right tt__law_right : Value}
    (a__law_right : PySem.W.nsIn K mainGlobals "_law_right" = some (some (.ref f__law_right))) (l__law_right : K.lookup f__law_right = some ⟨oc__law_right, od__law_right, .func (PySem.W.fnOf "_law_right" "_law_right" (defArgs s__law_right) (defBody s__law_right) (defScope s__law_right) .none kv__law_right dc__law_right pm__law_right an__law_right cd__law_right tt__law_right), sl__law_right⟩) (c__law_right : PySem.W.codeIn K cd__law_right "_law_right" = true) (k__law_right : PySem.W.keepIn K (.ref f__law_right) = true)
    {f_law : Addr} {od_law an_law : Option Addr} {sl_law : Array (Option Value)} {oc_law kv_law dc_law pm_law cd_law tt_law : Value}
    (a_law : PySem.W.nsIn K mainGlobals "law" = some (some (.ref f_law))) (l_law : K.lookup f_law = some ⟨oc_law, od_law, .func (PySem.W.fnOf "law" "law" (defArgs s_law) (defBody s_law) (defScope s_law) .none kv_law dc_law pm_law an_law cd_law tt_law), sl_law⟩) (c_law : PySem.W.codeIn K cd_law "law" = true) (k_law : PySem.W.keepIn K (.ref f_law) = true)
    (z_bool : PySem.W.nsIn K mainGlobals "bool" = some none)
    (z_enumerate : PySem.W.nsIn K mainGlobals "enumerate" = some none)
    (z_int : PySem.W.nsIn K mainGlobals "int" = some none)
    (z_isinstance : PySem.W.nsIn K mainGlobals "isinstance" = some none)
    (z_len : PySem.W.nsIn K mainGlobals "len" = some none)
    (z_list : PySem.W.nsIn K mainGlobals "list" = some none)
    (z_range : PySem.W.nsIn K mainGlobals "range" = some none)
    (z_repr : PySem.W.nsIn K mainGlobals "repr" = some none)
    (z_sorted : PySem.W.nsIn K mainGlobals "sorted" = some none)
    (z_sum : PySem.W.nsIn K mainGlobals "sum" = some none)
    (z_zip : PySem.W.nsIn K mainGlobals "zip" = some none)
    {tk_MOST_STEPS : Tok} (z_MOST_STEPS : PySem.W.nsIn K mainGlobals "MOST_STEPS" = some (some (.int 300 tk_MOST_STEPS)))
    (dif : [Pt_places_in, Pt_pairs_in, Pt_turns_in].Nodup)
    : LawAtX l w K 7 63 "_law_script" mg fa h := by
  have e := hfa.symm.trans (PySem.W.mg_of X G a_law)
  cases e
  have D_is_whole := DL.defAt_mk (st := s_is_whole) X G a_is_whole l_is_whole c_is_whole k_is_whole
  have D_check_from := DL.defAt_mk (st := s_check_from) X G a_check_from l_check_from c_check_from k_check_from
  have D_check_steps := DL.defAt_mk (st := s_check_steps) X G a_check_steps l_check_steps c_check_steps k_check_steps
  have D_heights_in := DL.defAt_mk (st := s_heights_in) X G a_heights_in l_heights_in c_heights_in k_heights_in
  have D_first_below := DL.defAt_mk (st := s_first_below) X G a_first_below l_first_below c_first_below k_first_below
  have D_check_modulus := DL.defAt_mk (st := s_check_modulus) X G a_check_modulus l_check_modulus c_check_modulus k_check_modulus
  have D_places_in := DL.defAt_mk (st := s_places_in) X G a_places_in l_places_in c_places_in k_places_in
  have D_swept_in := DL.defAt_mk (st := s_swept_in) X G a_swept_in l_swept_in c_swept_in k_swept_in
  have D_swept := DL.defAt_mk (st := s_swept) X G a_swept l_swept c_swept k_swept
  have D_check_hill := DL.defAt_mk (st := s_check_hill) X G a_check_hill l_check_hill c_check_hill k_check_hill
  have D_begins_in := DL.defAt_mk (st := s_begins_in) X G a_begins_in l_begins_in c_begins_in k_begins_in
  have D_pairs_in := DL.defAt_mk (st := s_pairs_in) X G a_pairs_in l_pairs_in c_pairs_in k_pairs_in
  have D_turns_in := DL.defAt_mk (st := s_turns_in) X G a_turns_in l_turns_in c_turns_in k_turns_in
  have D_under := DL.defAt_mk (st := s_under) X G a_under l_under c_under k_under
  have D_count_pairs := DL.defAt_mk (st := s_count_pairs) X G a_count_pairs l_count_pairs c_count_pairs k_count_pairs
  have D_bounces := DL.defAt_mk (st := s_bounces) X G a_bounces l_bounces c_bounces k_bounces
  have D_turn_sum := DL.defAt_mk (st := s_turn_sum) X G a_turn_sum l_turn_sum c_turn_sum k_turn_sum
  have D__law_draws := DL.defAt_mk (st := s__law_draws) X G a__law_draws l__law_draws c__law_draws k__law_draws
  have D__law_next := DL.defAt_mk (st := s__law_next) X G a__law_next l__law_next c__law_next k__law_next
  have D__law_drawn := DL.defAt_mk (st := s__law_drawn) X G a__law_drawn l__law_drawn c__law_drawn k__law_drawn
  have D__law_all := DL.defAt_mk (st := s__law_all) X G a__law_all l__law_all c__law_all k__law_all
  have D__law_begins := DL.defAt_mk (st := s__law_begins) X G a__law_begins l__law_begins c__law_begins k__law_begins
  have D__law_under := DL.defAt_mk (st := s__law_under) X G a__law_under l__law_under c__law_under k__law_under
  have D__law_pairs := DL.defAt_mk (st := s__law_pairs) X G a__law_pairs l__law_pairs c__law_pairs k__law_pairs
  have D__law_bounces := DL.defAt_mk (st := s__law_bounces) X G a__law_bounces l__law_bounces c__law_bounces k__law_bounces
  have D__law_turns := DL.defAt_mk (st := s__law_turns) X G a__law_turns l__law_turns c__law_turns k__law_turns
  have D__law_right := DL.defAt_mk (st := s__law_right) X G a__law_right l__law_right c__law_right k__law_right
  have D_law := DL.defAt_mk (st := s_law) X G a_law l_law c_law k_law
  have b_bool := PySem.W.mg_none_of X G z_bool
  have b_enumerate := PySem.W.mg_none_of X G z_enumerate
  have b_int := PySem.W.mg_none_of X G z_int
  have b_isinstance := PySem.W.mg_none_of X G z_isinstance
  have b_len := PySem.W.mg_none_of X G z_len
  have b_list := PySem.W.mg_none_of X G z_list
  have b_range := PySem.W.mg_none_of X G z_range
  have b_repr := PySem.W.mg_none_of X G z_repr
  have b_sorted := PySem.W.mg_none_of X G z_sorted
  have b_sum := PySem.W.mg_none_of X G z_sum
  have b_zip := PySem.W.mg_none_of X G z_zip
  have g_MOST_STEPS : ∃ t, mg "MOST_STEPS" = some (.int 300 t) := ⟨_, PySem.W.mg_of X G z_MOST_STEPS⟩
  have A_is_whole_1 : KA K (PySem.W.fnOf "is_whole" "is_whole" (defArgs s_is_whole) (defBody s_is_whole) (defScope s_is_whole) .none kv_is_whole dc_is_whole pm_is_whole an_is_whole cd_is_whole tt_is_whole) ["thing"] 1 [] [.p 0] := fun s us ws _ h1 h2 => match us, ws, h1, h2 with | [_], [], _, _ => .of_eq rfl
  have A_heights_in_1 : KA K (PySem.W.fnOf "heights_in" "heights_in" (defArgs s_heights_in) (defBody s_heights_in) (defScope s_heights_in) .none kv_heights_in dc_heights_in pm_heights_in an_heights_in cd_heights_in tt_heights_in) ["steps"] 1 [] [.p 0] := fun s us ws _ h1 h2 => match us, ws, h1, h2 with | [_], [], _, _ => .of_eq rfl
  have A_check_from_2 : KA K (PySem.W.fnOf "check_from" "check_from" (defArgs s_check_from) (defBody s_check_from) (defScope s_check_from) .none kv_check_from dc_check_from pm_check_from an_check_from cd_check_from tt_check_from) ["number", "least"] 2 [] [.p 0, .p 1] := fun s us ws _ h1 h2 => match us, ws, h1, h2 with | [_, _], [], _, _ => .of_eq rfl
  have A_places_in_2 : KA K (PySem.W.fnOf "places_in" "places_in" (defArgs s_places_in) (defBody s_places_in) (defScope s_places_in) .none kv_places_in dc_places_in pm_places_in an_places_in (.ref ct_places_in) tt_places_in) ["steps", "modulus"] 2 [] [.p 0, .p 1] := fun s us ws _ h1 h2 => match us, ws, h1, h2 with | [_, _], [], _, _ => .of_eq rfl
  have A_check_steps_1 : KA K (PySem.W.fnOf "check_steps" "check_steps" (defArgs s_check_steps) (defBody s_check_steps) (defScope s_check_steps) .none kv_check_steps dc_check_steps pm_check_steps an_check_steps cd_check_steps tt_check_steps) ["steps"] 1 [] [.p 0] := fun s us ws _ h1 h2 => match us, ws, h1, h2 with | [_], [], _, _ => .of_eq rfl
  have A_check_modulus_1 : KA K (PySem.W.fnOf "check_modulus" "check_modulus" (defArgs s_check_modulus) (defBody s_check_modulus) (defScope s_check_modulus) .none kv_check_modulus dc_check_modulus pm_check_modulus an_check_modulus cd_check_modulus tt_check_modulus) ["modulus"] 1 [] [.p 0] := fun s us ws _ h1 h2 => match us, ws, h1, h2 with | [_], [], _, _ => .of_eq rfl
  have A_swept_in_2 : KA K (PySem.W.fnOf "swept_in" "swept_in" (defArgs s_swept_in) (defBody s_swept_in) (defScope s_swept_in) .none kv_swept_in dc_swept_in pm_swept_in an_swept_in cd_swept_in tt_swept_in) ["steps", "modulus"] 2 [] [.p 0, .p 1] := fun s us ws _ h1 h2 => match us, ws, h1, h2 with | [_, _], [], _, _ => .of_eq rfl
  have A_first_below_1 : KA K (PySem.W.fnOf "first_below" "first_below" (defArgs s_first_below) (defBody s_first_below) (defScope s_first_below) .none kv_first_below dc_first_below pm_first_below an_first_below cd_first_below tt_first_below) ["steps"] 1 [] [.p 0] := fun s us ws _ h1 h2 => match us, ws, h1, h2 with | [_], [], _, _ => .of_eq rfl
  have A_begins_in_1 : KA K (PySem.W.fnOf "begins_in" "begins_in" (defArgs s_begins_in) (defBody s_begins_in) (defScope s_begins_in) .none kv_begins_in dc_begins_in pm_begins_in an_begins_in cd_begins_in tt_begins_in) ["hill"] 1 [] [.p 0] := fun s us ws _ h1 h2 => match us, ws, h1, h2 with | [_], [], _, _ => .of_eq rfl
  have A_check_hill_1 : KA K (PySem.W.fnOf "check_hill" "check_hill" (defArgs s_check_hill) (defBody s_check_hill) (defScope s_check_hill) .none kv_check_hill dc_check_hill pm_check_hill an_check_hill cd_check_hill tt_check_hill) ["hill"] 1 [] [.p 0] := fun s us ws _ h1 h2 => match us, ws, h1, h2 with | [_], [], _, _ => .of_eq rfl
  have A_pairs_in_1 : KA K (PySem.W.fnOf "pairs_in" "pairs_in" (defArgs s_pairs_in) (defBody s_pairs_in) (defScope s_pairs_in) .none kv_pairs_in dc_pairs_in pm_pairs_in an_pairs_in (.ref ct_pairs_in) tt_pairs_in) ["hill"] 1 [] [.p 0] := fun s us ws _ h1 h2 => match us, ws, h1, h2 with | [_], [], _, _ => .of_eq rfl
  have A_turns_in_1 : KA K (PySem.W.fnOf "turns_in" "turns_in" (defArgs s_turns_in) (defBody s_turns_in) (defScope s_turns_in) .none kv_turns_in dc_turns_in pm_turns_in an_turns_in (.ref ct_turns_in) tt_turns_in) ["hill"] 1 [] [.p 0] := fun s us ws _ h1 h2 => match us, ws, h1, h2 with | [_], [], _, _ => .of_eq rfl
  have A__law_next_1 : KA K (PySem.W.fnOf "_law_next" "_law_next" (defArgs s__law_next) (defBody s__law_next) (defScope s__law_next) .none kv__law_next dc__law_next pm__law_next an__law_next cd__law_next tt__law_next) ["_law_draws_here"] 1 [] [.p 0] := fun s us ws _ h1 h2 => match us, ws, h1, h2 with | [_], [], _, _ => .of_eq rfl
  have A__law_begins_1 : KA K (PySem.W.fnOf "_law_begins" "_law_begins" (defArgs s__law_begins) (defBody s__law_begins) (defScope s__law_begins) .none kv__law_begins dc__law_begins pm__law_begins an__law_begins cd__law_begins tt__law_begins) ["_law_row"] 1 [] [.p 0] := fun s us ws _ h1 h2 => match us, ws, h1, h2 with | [_], [], _, _ => .of_eq rfl
  have A__law_under_1 : KA K (PySem.W.fnOf "_law_under" "_law_under" (defArgs s__law_under) (defBody s__law_under) (defScope s__law_under) .none kv__law_under dc__law_under pm__law_under an__law_under cd__law_under tt__law_under) ["_law_row"] 1 [] [.p 0] := fun s us ws _ h1 h2 => match us, ws, h1, h2 with | [_], [], _, _ => .of_eq rfl
  have A__law_pairs_1 : KA K (PySem.W.fnOf "_law_pairs" "_law_pairs" (defArgs s__law_pairs) (defBody s__law_pairs) (defScope s__law_pairs) .none kv__law_pairs dc__law_pairs pm__law_pairs an__law_pairs cd__law_pairs tt__law_pairs) ["_law_row"] 1 [] [.p 0] := fun s us ws _ h1 h2 => match us, ws, h1, h2 with | [_], [], _, _ => .of_eq rfl
  have A__law_bounces_1 : KA K (PySem.W.fnOf "_law_bounces" "_law_bounces" (defArgs s__law_bounces) (defBody s__law_bounces) (defScope s__law_bounces) .none kv__law_bounces dc__law_bounces pm__law_bounces an__law_bounces cd__law_bounces tt__law_bounces) ["_law_row"] 1 [] [.p 0] := fun s us ws _ h1 h2 => match us, ws, h1, h2 with | [_], [], _, _ => .of_eq rfl
  have A__law_turns_1 : KA K (PySem.W.fnOf "_law_turns" "_law_turns" (defArgs s__law_turns) (defBody s__law_turns) (defScope s__law_turns) .none kv__law_turns dc__law_turns pm__law_turns an__law_turns cd__law_turns tt__law_turns) ["_law_row"] 1 [] [.p 0] := fun s us ws _ h1 h2 => match us, ws, h1, h2 with | [_], [], _, _ => .of_eq rfl
  have A_under_1 : KA K (PySem.W.fnOf "under" "under" (defArgs s_under) (defBody s_under) (defScope s_under) .none kv_under dc_under pm_under an_under cd_under tt_under) ["hill"] 1 [] [.p 0] := fun s us ws _ h1 h2 => match us, ws, h1, h2 with | [_], [], _, _ => .of_eq rfl
  have A_under_0_hill : KA K (PySem.W.fnOf "under" "under" (defArgs s_under) (defBody s_under) (defScope s_under) .none kv_under dc_under pm_under an_under cd_under tt_under) ["hill"] 0 ["hill"] [.k 0] := fun s us ws _ h1 h2 => match us, ws, h1, h2 with | [], [_], _, _ => .of_eq rfl
  have A_count_pairs_1 : KA K (PySem.W.fnOf "count_pairs" "count_pairs" (defArgs s_count_pairs) (defBody s_count_pairs) (defScope s_count_pairs) .none kv_count_pairs dc_count_pairs pm_count_pairs an_count_pairs cd_count_pairs tt_count_pairs) ["hill"] 1 [] [.p 0] := fun s us ws _ h1 h2 => match us, ws, h1, h2 with | [_], [], _, _ => .of_eq rfl
  have A_count_pairs_0_hill : KA K (PySem.W.fnOf "count_pairs" "count_pairs" (defArgs s_count_pairs) (defBody s_count_pairs) (defScope s_count_pairs) .none kv_count_pairs dc_count_pairs pm_count_pairs an_count_pairs cd_count_pairs tt_count_pairs) ["hill"] 0 ["hill"] [.k 0] := fun s us ws _ h1 h2 => match us, ws, h1, h2 with | [], [_], _, _ => .of_eq rfl
  have A_bounces_1 : KA K (PySem.W.fnOf "bounces" "bounces" (defArgs s_bounces) (defBody s_bounces) (defScope s_bounces) .none kv_bounces dc_bounces pm_bounces an_bounces cd_bounces tt_bounces) ["hill"] 1 [] [.p 0] := fun s us ws _ h1 h2 => match us, ws, h1, h2 with | [_], [], _, _ => .of_eq rfl
  have A_bounces_0_hill : KA K (PySem.W.fnOf "bounces" "bounces" (defArgs s_bounces) (defBody s_bounces) (defScope s_bounces) .none kv_bounces dc_bounces pm_bounces an_bounces cd_bounces tt_bounces) ["hill"] 0 ["hill"] [.k 0] := fun s us ws _ h1 h2 => match us, ws, h1, h2 with | [], [_], _, _ => .of_eq rfl
  have A_turn_sum_1 : KA K (PySem.W.fnOf "turn_sum" "turn_sum" (defArgs s_turn_sum) (defBody s_turn_sum) (defScope s_turn_sum) .none kv_turn_sum dc_turn_sum pm_turn_sum an_turn_sum cd_turn_sum tt_turn_sum) ["hill"] 1 [] [.p 0] := fun s us ws _ h1 h2 => match us, ws, h1, h2 with | [_], [], _, _ => .of_eq rfl
  have A_turn_sum_0_hill : KA K (PySem.W.fnOf "turn_sum" "turn_sum" (defArgs s_turn_sum) (defBody s_turn_sum) (defScope s_turn_sum) .none kv_turn_sum dc_turn_sum pm_turn_sum an_turn_sum cd_turn_sum tt_turn_sum) ["hill"] 0 ["hill"] [.k 0] := fun s us ws _ h1 h2 => match us, ws, h1, h2 with | [], [_], _, _ => .of_eq rfl
  have A_swept_1 : KA K (PySem.W.fnOf "swept" "swept" (defArgs s_swept) (defBody s_swept) (defScope s_swept) (.ref dt_swept) kv_swept dc_swept pm_swept an_swept cd_swept tt_swept) ["steps", "modulus"] 1 [] [.p 0, .n] := fun s us ws KX h1 h2 => match us, ws, h1, h2 with | [_], [], _, _ => L2.BindsTo.of_looks fun M => L2.looks_items KX dl_swept rfl (.of_pure rfl)
  have A__law_draws_1 : KA K (PySem.W.fnOf "_law_draws" "_law_draws" (defArgs s__law_draws) (defBody s__law_draws) (defScope s__law_draws) .none kv__law_draws dc__law_draws pm__law_draws an__law_draws cd__law_draws tt__law_draws) ["_law_cell"] 1 [] [.p 0] := fun s us ws _ h1 h2 => match us, ws, h1, h2 with | [_], [], _, _ => .of_eq rfl
  have A__law_drawn_2 : KA K (PySem.W.fnOf "_law_drawn" "_law_drawn" (defArgs s__law_drawn) (defBody s__law_drawn) (defScope s__law_drawn) .none kv__law_drawn dc__law_drawn pm__law_drawn an__law_drawn cd__law_drawn tt__law_drawn) ["_law_draws_here", "_law_most"] 2 [] [.p 0, .p 1] := fun s us ws _ h1 h2 => match us, ws, h1, h2 with | [_, _], [], _, _ => .of_eq rfl
  have A__law_right_1 : KA K (PySem.W.fnOf "_law_right" "_law_right" (defArgs s__law_right) (defBody s__law_right) (defScope s__law_right) .none kv__law_right dc__law_right pm__law_right an__law_right cd__law_right tt__law_right) ["_law_row"] 1 [] [.p 0] := fun s us ws _ h1 h2 => match us, ws, h1, h2 with | [_], [], _, _ => .of_eq rfl
  have A__law_all_1 : KA K (PySem.W.fnOf "_law_all" "_law_all" (defArgs s__law_all) (defBody s__law_all) (defScope s__law_all) .none kv__law_all dc__law_all pm__law_all an__law_all cd__law_all tt__law_all) ["_law_ups"] 1 [] [.p 0] := fun s us ws _ h1 h2 => match us, ws, h1, h2 with | [_], [], _, _ => .of_eq rfl
  refine ⟨(PySem.W.fnOf "law" "law" (defArgs s_law) (defBody s_law) (defScope s_law) .none kv_law dc_law pm_law an_law cd_law tt_law), [(ct_places_in, Pt_places_in), (ct_pairs_in, Pt_pairs_in), (ct_turns_in, Pt_turns_in)], [(Pt_places_in, ("places_in.<locals>.<lambda>" : Str)), (Pt_pairs_in, ("pairs_in.<locals>.<genexpr>" : Str)), (Pt_turns_in, ("turns_in.<locals>.<genexpr>" : Str))], sp_law, ?_, ?_, ?_, ?_, fun s u => .of_eq rfl, ?_, ?_⟩
  · exact fun p hp => by
      simp only [List.mem_cons, List.not_mem_nil, or_false] at hp
      rcases hp with rfl | rfl | rfl
      · exact (tab _ _ _ y_places_in (tabIn_mk a_places_in l_places_in rfl t_places_in p_places_in)).2
      · exact (tab _ _ _ y_pairs_in (tabIn_mk a_pairs_in l_pairs_in rfl t_pairs_in p_pairs_in)).2
      · exact (tab _ _ _ y_turns_in (tabIn_mk a_turns_in l_turns_in rfl t_turns_in p_turns_in)).2
  · exact fun p hp => by
      simp only [List.mem_cons, List.not_mem_nil, or_false] at hp
      rcases hp with rfl | rfl | rfl
      · exact n_places_in
      · exact n_pairs_in
      · exact n_turns_in
  · exact fun p hp => by
      simp only [List.mem_cons, List.not_mem_nil, or_false] at hp
      rcases hp with rfl | rfl | rfl
      · exact (tab _ _ _ y_places_in (tabIn_mk a_places_in l_places_in rfl t_places_in p_places_in)).1
      · exact (tab _ _ _ y_pairs_in (tabIn_mk a_pairs_in l_pairs_in rfl t_pairs_in p_pairs_in)).1
      · exact (tab _ _ _ y_turns_in (tabIn_mk a_turns_in l_turns_in rfl t_turns_in p_turns_in)).1
  · exact fun p hp => by
      simp only [List.mem_cons, List.not_mem_nil, or_false] at hp
      rcases hp with rfl | rfl | rfl
      · exact ⟨(ct_places_in, Pt_places_in), by simp, rfl⟩
      · exact ⟨(ct_pairs_in, Pt_pairs_in), by simp, rfl⟩
      · exact ⟨(ct_turns_in, Pt_turns_in), by simp, rfl⟩
  · exact fun ns h _ => law_meets ns h
  · intro base KB GB TB
    simp only [List.nodup_cons, List.mem_cons, List.not_mem_nil, or_false, not_or, not_false_eq_true, List.nodup_nil, and_true] at dif
    have F_is_whole : FnX l.prog w K mg base false 1 f_is_whole (PySem.W.fnOf "is_whole" "is_whole" (defArgs s_is_whole) (defBody s_is_whole) (defScope s_is_whole) .none kv_is_whole dc_is_whole pm_is_whole an_is_whole cd_is_whole tt_is_whole) ["thing"] (spD [(Pt_places_in, ("places_in.<locals>.<lambda>" : Str)), (Pt_pairs_in, ("pairs_in.<locals>.<genexpr>" : Str)), (Pt_turns_in, ("turns_in.<locals>.<genexpr>" : Str))] K sp_is_whole) := ok_is_whole D_is_whole b_bool b_int b_isinstance
    have F_check_from : FnX l.prog w K mg base false 2 f_check_from (PySem.W.fnOf "check_from" "check_from" (defArgs s_check_from) (defBody s_check_from) (defScope s_check_from) .none kv_check_from dc_check_from pm_check_from an_check_from cd_check_from tt_check_from) ["number", "least"] (spD [(Pt_places_in, ("places_in.<locals>.<lambda>" : Str)), (Pt_pairs_in, ("pairs_in.<locals>.<genexpr>" : Str)), (Pt_turns_in, ("turns_in.<locals>.<genexpr>" : Str))] K sp_check_from) := ok_check_from D_check_from D_is_whole F_is_whole A_is_whole_1
    have F_check_steps : FnX l.prog w K mg base false 2 f_check_steps (PySem.W.fnOf "check_steps" "check_steps" (defArgs s_check_steps) (defBody s_check_steps) (defScope s_check_steps) .none kv_check_steps dc_check_steps pm_check_steps an_check_steps cd_check_steps tt_check_steps) ["steps"] (spD [(Pt_places_in, ("places_in.<locals>.<lambda>" : Str)), (Pt_pairs_in, ("pairs_in.<locals>.<genexpr>" : Str)), (Pt_turns_in, ("turns_in.<locals>.<genexpr>" : Str))] K sp_check_steps) := ok_check_steps D_check_steps D_is_whole F_is_whole A_is_whole_1 b_enumerate b_isinstance b_len b_list g_MOST_STEPS
    have F_heights_in : FnX l.prog w K mg base false 1 f_heights_in (PySem.W.fnOf "heights_in" "heights_in" (defArgs s_heights_in) (defBody s_heights_in) (defScope s_heights_in) .none kv_heights_in dc_heights_in pm_heights_in an_heights_in cd_heights_in tt_heights_in) ["steps"] (spD [(Pt_places_in, ("places_in.<locals>.<lambda>" : Str)), (Pt_pairs_in, ("pairs_in.<locals>.<genexpr>" : Str)), (Pt_turns_in, ("turns_in.<locals>.<genexpr>" : Str))] K sp_heights_in) := ok_heights_in D_heights_in
    have F_first_below : FnX l.prog w K mg base false 2 f_first_below (PySem.W.fnOf "first_below" "first_below" (defArgs s_first_below) (defBody s_first_below) (defScope s_first_below) .none kv_first_below dc_first_below pm_first_below an_first_below cd_first_below tt_first_below) ["steps"] (spD [(Pt_places_in, ("places_in.<locals>.<lambda>" : Str)), (Pt_pairs_in, ("pairs_in.<locals>.<genexpr>" : Str)), (Pt_turns_in, ("turns_in.<locals>.<genexpr>" : Str))] K sp_first_below) := ok_first_below D_first_below D_heights_in F_heights_in A_heights_in_1 b_enumerate
    have F_check_modulus : FnX l.prog w K mg base false 3 f_check_modulus (PySem.W.fnOf "check_modulus" "check_modulus" (defArgs s_check_modulus) (defBody s_check_modulus) (defScope s_check_modulus) .none kv_check_modulus dc_check_modulus pm_check_modulus an_check_modulus cd_check_modulus tt_check_modulus) ["modulus"] (spD [(Pt_places_in, ("places_in.<locals>.<lambda>" : Str)), (Pt_pairs_in, ("pairs_in.<locals>.<genexpr>" : Str)), (Pt_turns_in, ("turns_in.<locals>.<genexpr>" : Str))] K sp_check_modulus) := ok_check_modulus D_check_modulus D_check_from F_check_from A_check_from_2
    have u_places_in : ∀ p ∈ [(Pt_places_in, ("places_in.<locals>.<lambda>" : Str)), (Pt_pairs_in, ("pairs_in.<locals>.<genexpr>" : Str)), (Pt_turns_in, ("turns_in.<locals>.<genexpr>" : Str))], p.1 = Pt_places_in → p.2 = ("places_in.<locals>.<lambda>" : Str) := fun p hp e => by
      simp only [List.mem_cons, List.not_mem_nil, or_false] at hp
      rcases hp with rfl | rfl | rfl
      all_goals (first | rfl | (exfalso; simp_all))
    have F_places_in : FnX l.prog w K mg base false 2 f_places_in (PySem.W.fnOf "places_in" "places_in" (defArgs s_places_in) (defBody s_places_in) (defScope s_places_in) .none kv_places_in dc_places_in pm_places_in an_places_in (.ref ct_places_in) tt_places_in) ["steps", "modulus"] (spD [(Pt_places_in, ("places_in.<locals>.<lambda>" : Str)), (Pt_pairs_in, ("pairs_in.<locals>.<genexpr>" : Str)), (Pt_turns_in, ("turns_in.<locals>.<genexpr>" : Str))] K sp_places_in) := ok_places_in D_places_in D_heights_in F_heights_in A_heights_in_1 b_len b_range b_sorted (TB (ct_places_in, Pt_places_in) (by simp)) rfl (by simp) u_places_in
    have F_swept_in : FnX l.prog w K mg base false 3 f_swept_in (PySem.W.fnOf "swept_in" "swept_in" (defArgs s_swept_in) (defBody s_swept_in) (defScope s_swept_in) .none kv_swept_in dc_swept_in pm_swept_in an_swept_in cd_swept_in tt_swept_in) ["steps", "modulus"] (spD [(Pt_places_in, ("places_in.<locals>.<lambda>" : Str)), (Pt_pairs_in, ("pairs_in.<locals>.<genexpr>" : Str)), (Pt_turns_in, ("turns_in.<locals>.<genexpr>" : Str))] K sp_swept_in) := ok_swept_in D_swept_in D_places_in F_places_in A_places_in_2
    have F_swept : FnX l.prog w K mg base false 4 f_swept (PySem.W.fnOf "swept" "swept" (defArgs s_swept) (defBody s_swept) (defScope s_swept) (.ref dt_swept) kv_swept dc_swept pm_swept an_swept cd_swept tt_swept) ["steps", "modulus"] (spD [(Pt_places_in, ("places_in.<locals>.<lambda>" : Str)), (Pt_pairs_in, ("pairs_in.<locals>.<genexpr>" : Str)), (Pt_turns_in, ("turns_in.<locals>.<genexpr>" : Str))] K sp_swept) := ok_swept D_swept D_check_steps F_check_steps A_check_steps_1 D_check_modulus F_check_modulus A_check_modulus_1 D_swept_in F_swept_in A_swept_in_2
    have F_check_hill : FnX l.prog w K mg base false 3 f_check_hill (PySem.W.fnOf "check_hill" "check_hill" (defArgs s_check_hill) (defBody s_check_hill) (defScope s_check_hill) .none kv_check_hill dc_check_hill pm_check_hill an_check_hill cd_check_hill tt_check_hill) ["hill"] (spD [(Pt_places_in, ("places_in.<locals>.<lambda>" : Str)), (Pt_pairs_in, ("pairs_in.<locals>.<genexpr>" : Str)), (Pt_turns_in, ("turns_in.<locals>.<genexpr>" : Str))] K sp_check_hill) := ok_check_hill D_check_hill D_is_whole F_is_whole A_is_whole_1 D_first_below F_first_below A_first_below_1 b_enumerate b_isinstance b_len b_list b_sum g_MOST_STEPS
    have F_begins_in : FnX l.prog w K mg base false 2 f_begins_in (PySem.W.fnOf "begins_in" "begins_in" (defArgs s_begins_in) (defBody s_begins_in) (defScope s_begins_in) .none kv_begins_in dc_begins_in pm_begins_in an_begins_in cd_begins_in tt_begins_in) ["hill"] (spD [(Pt_places_in, ("places_in.<locals>.<lambda>" : Str)), (Pt_pairs_in, ("pairs_in.<locals>.<genexpr>" : Str)), (Pt_turns_in, ("turns_in.<locals>.<genexpr>" : Str))] K sp_begins_in) := ok_begins_in D_begins_in D_heights_in F_heights_in A_heights_in_1 b_zip
    have u_pairs_in : ∀ p ∈ [(Pt_places_in, ("places_in.<locals>.<lambda>" : Str)), (Pt_pairs_in, ("pairs_in.<locals>.<genexpr>" : Str)), (Pt_turns_in, ("turns_in.<locals>.<genexpr>" : Str))], p.1 = Pt_pairs_in → p.2 = ("pairs_in.<locals>.<genexpr>" : Str) := fun p hp e => by
      simp only [List.mem_cons, List.not_mem_nil, or_false] at hp
      rcases hp with rfl | rfl | rfl
      all_goals (first | rfl | (exfalso; simp_all))
    have F_pairs_in : FnX l.prog w K mg base false 3 f_pairs_in (PySem.W.fnOf "pairs_in" "pairs_in" (defArgs s_pairs_in) (defBody s_pairs_in) (defScope s_pairs_in) .none kv_pairs_in dc_pairs_in pm_pairs_in an_pairs_in (.ref ct_pairs_in) tt_pairs_in) ["hill"] (spD [(Pt_places_in, ("places_in.<locals>.<lambda>" : Str)), (Pt_pairs_in, ("pairs_in.<locals>.<genexpr>" : Str)), (Pt_turns_in, ("turns_in.<locals>.<genexpr>" : Str))] K sp_pairs_in) := ok_pairs_in D_pairs_in D_begins_in F_begins_in A_begins_in_1 b_enumerate b_sum (TB (ct_pairs_in, Pt_pairs_in) (by simp)) rfl (by simp) u_pairs_in
    have u_turns_in : ∀ p ∈ [(Pt_places_in, ("places_in.<locals>.<lambda>" : Str)), (Pt_pairs_in, ("pairs_in.<locals>.<genexpr>" : Str)), (Pt_turns_in, ("turns_in.<locals>.<genexpr>" : Str))], p.1 = Pt_turns_in → p.2 = ("turns_in.<locals>.<genexpr>" : Str) := fun p hp e => by
      simp only [List.mem_cons, List.not_mem_nil, or_false] at hp
      rcases hp with rfl | rfl | rfl
      all_goals (first | rfl | (exfalso; simp_all))
    have F_turns_in : FnX l.prog w K mg base false 1 f_turns_in (PySem.W.fnOf "turns_in" "turns_in" (defArgs s_turns_in) (defBody s_turns_in) (defScope s_turns_in) .none kv_turns_in dc_turns_in pm_turns_in an_turns_in (.ref ct_turns_in) tt_turns_in) ["hill"] (spD [(Pt_places_in, ("places_in.<locals>.<lambda>" : Str)), (Pt_pairs_in, ("pairs_in.<locals>.<genexpr>" : Str)), (Pt_turns_in, ("turns_in.<locals>.<genexpr>" : Str))] K sp_turns_in) := ok_turns_in D_turns_in b_len b_range b_sum (TB (ct_turns_in, Pt_turns_in) (by simp)) rfl (by simp) u_turns_in
    have F_under : FnX l.prog w K mg base false 4 f_under (PySem.W.fnOf "under" "under" (defArgs s_under) (defBody s_under) (defScope s_under) .none kv_under dc_under pm_under an_under cd_under tt_under) ["hill"] (spD [(Pt_places_in, ("places_in.<locals>.<lambda>" : Str)), (Pt_pairs_in, ("pairs_in.<locals>.<genexpr>" : Str)), (Pt_turns_in, ("turns_in.<locals>.<genexpr>" : Str))] K sp_under) := ok_under D_under D_check_hill F_check_hill A_check_hill_1 D_begins_in F_begins_in A_begins_in_1 b_sum
    have F_count_pairs : FnX l.prog w K mg base false 4 f_count_pairs (PySem.W.fnOf "count_pairs" "count_pairs" (defArgs s_count_pairs) (defBody s_count_pairs) (defScope s_count_pairs) .none kv_count_pairs dc_count_pairs pm_count_pairs an_count_pairs cd_count_pairs tt_count_pairs) ["hill"] (spD [(Pt_places_in, ("places_in.<locals>.<lambda>" : Str)), (Pt_pairs_in, ("pairs_in.<locals>.<genexpr>" : Str)), (Pt_turns_in, ("turns_in.<locals>.<genexpr>" : Str))] K sp_count_pairs) := ok_count_pairs D_count_pairs D_check_hill F_check_hill A_check_hill_1 D_pairs_in F_pairs_in A_pairs_in_1
    have F_bounces : FnX l.prog w K mg base false 4 f_bounces (PySem.W.fnOf "bounces" "bounces" (defArgs s_bounces) (defBody s_bounces) (defScope s_bounces) .none kv_bounces dc_bounces pm_bounces an_bounces cd_bounces tt_bounces) ["hill"] (spD [(Pt_places_in, ("places_in.<locals>.<lambda>" : Str)), (Pt_pairs_in, ("pairs_in.<locals>.<genexpr>" : Str)), (Pt_turns_in, ("turns_in.<locals>.<genexpr>" : Str))] K sp_bounces) := ok_bounces D_bounces D_check_hill F_check_hill A_check_hill_1 b_enumerate b_len
    have F_turn_sum : FnX l.prog w K mg base false 4 f_turn_sum (PySem.W.fnOf "turn_sum" "turn_sum" (defArgs s_turn_sum) (defBody s_turn_sum) (defScope s_turn_sum) .none kv_turn_sum dc_turn_sum pm_turn_sum an_turn_sum cd_turn_sum tt_turn_sum) ["hill"] (spD [(Pt_places_in, ("places_in.<locals>.<lambda>" : Str)), (Pt_pairs_in, ("pairs_in.<locals>.<genexpr>" : Str)), (Pt_turns_in, ("turns_in.<locals>.<genexpr>" : Str))] K sp_turn_sum) := ok_turn_sum D_turn_sum D_check_hill F_check_hill A_check_hill_1 D_turns_in F_turns_in A_turns_in_1
    have F__law_draws : FnX l.prog w K mg base false 1 f__law_draws (PySem.W.fnOf "_law_draws" "_law_draws" (defArgs s__law_draws) (defBody s__law_draws) (defScope s__law_draws) .none kv__law_draws dc__law_draws pm__law_draws an__law_draws cd__law_draws tt__law_draws) ["_law_cell"] (spD [(Pt_places_in, ("places_in.<locals>.<lambda>" : Str)), (Pt_pairs_in, ("pairs_in.<locals>.<genexpr>" : Str)), (Pt_turns_in, ("turns_in.<locals>.<genexpr>" : Str))] K sp__law_draws) := ok__law_draws D__law_draws b_int
    have F__law_next : FnX l.prog w K mg base false 1 f__law_next (PySem.W.fnOf "_law_next" "_law_next" (defArgs s__law_next) (defBody s__law_next) (defScope s__law_next) .none kv__law_next dc__law_next pm__law_next an__law_next cd__law_next tt__law_next) ["_law_draws_here"] (spD [(Pt_places_in, ("places_in.<locals>.<lambda>" : Str)), (Pt_pairs_in, ("pairs_in.<locals>.<genexpr>" : Str)), (Pt_turns_in, ("turns_in.<locals>.<genexpr>" : Str))] K sp__law_next) := ok__law_next D__law_next b_int
    have F__law_drawn : FnX l.prog w K mg base false 2 f__law_drawn (PySem.W.fnOf "_law_drawn" "_law_drawn" (defArgs s__law_drawn) (defBody s__law_drawn) (defScope s__law_drawn) .none kv__law_drawn dc__law_drawn pm__law_drawn an__law_drawn cd__law_drawn tt__law_drawn) ["_law_draws_here", "_law_most"] (spD [(Pt_places_in, ("places_in.<locals>.<lambda>" : Str)), (Pt_pairs_in, ("pairs_in.<locals>.<genexpr>" : Str)), (Pt_turns_in, ("turns_in.<locals>.<genexpr>" : Str))] K sp__law_drawn) := ok__law_drawn D__law_drawn D__law_next F__law_next A__law_next_1 b_int b_range
    have F__law_all : FnX l.prog w K mg base false 1 f__law_all (PySem.W.fnOf "_law_all" "_law_all" (defArgs s__law_all) (defBody s__law_all) (defScope s__law_all) .none kv__law_all dc__law_all pm__law_all an__law_all cd__law_all tt__law_all) ["_law_ups"] (spD [(Pt_places_in, ("places_in.<locals>.<lambda>" : Str)), (Pt_pairs_in, ("pairs_in.<locals>.<genexpr>" : Str)), (Pt_turns_in, ("turns_in.<locals>.<genexpr>" : Str))] K sp__law_all) := ok__law_all D__law_all b_range
    have F__law_begins : FnX l.prog w K mg base false 1 f__law_begins (PySem.W.fnOf "_law_begins" "_law_begins" (defArgs s__law_begins) (defBody s__law_begins) (defScope s__law_begins) .none kv__law_begins dc__law_begins pm__law_begins an__law_begins cd__law_begins tt__law_begins) ["_law_row"] (spD [(Pt_places_in, ("places_in.<locals>.<lambda>" : Str)), (Pt_pairs_in, ("pairs_in.<locals>.<genexpr>" : Str)), (Pt_turns_in, ("turns_in.<locals>.<genexpr>" : Str))] K sp__law_begins) := ok__law_begins D__law_begins
    have F__law_under : FnX l.prog w K mg base false 1 f__law_under (PySem.W.fnOf "_law_under" "_law_under" (defArgs s__law_under) (defBody s__law_under) (defScope s__law_under) .none kv__law_under dc__law_under pm__law_under an__law_under cd__law_under tt__law_under) ["_law_row"] (spD [(Pt_places_in, ("places_in.<locals>.<lambda>" : Str)), (Pt_pairs_in, ("pairs_in.<locals>.<genexpr>" : Str)), (Pt_turns_in, ("turns_in.<locals>.<genexpr>" : Str))] K sp__law_under) := ok__law_under D__law_under
    have F__law_pairs : FnX l.prog w K mg base false 2 f__law_pairs (PySem.W.fnOf "_law_pairs" "_law_pairs" (defArgs s__law_pairs) (defBody s__law_pairs) (defScope s__law_pairs) .none kv__law_pairs dc__law_pairs pm__law_pairs an__law_pairs cd__law_pairs tt__law_pairs) ["_law_row"] (spD [(Pt_places_in, ("places_in.<locals>.<lambda>" : Str)), (Pt_pairs_in, ("pairs_in.<locals>.<genexpr>" : Str)), (Pt_turns_in, ("turns_in.<locals>.<genexpr>" : Str))] K sp__law_pairs) := ok__law_pairs D__law_pairs D__law_begins F__law_begins A__law_begins_1
    have F__law_bounces : FnX l.prog w K mg base false 1 f__law_bounces (PySem.W.fnOf "_law_bounces" "_law_bounces" (defArgs s__law_bounces) (defBody s__law_bounces) (defScope s__law_bounces) .none kv__law_bounces dc__law_bounces pm__law_bounces an__law_bounces cd__law_bounces tt__law_bounces) ["_law_row"] (spD [(Pt_places_in, ("places_in.<locals>.<lambda>" : Str)), (Pt_pairs_in, ("pairs_in.<locals>.<genexpr>" : Str)), (Pt_turns_in, ("turns_in.<locals>.<genexpr>" : Str))] K sp__law_bounces) := ok__law_bounces D__law_bounces b_len
    have F__law_turns : FnX l.prog w K mg base false 1 f__law_turns (PySem.W.fnOf "_law_turns" "_law_turns" (defArgs s__law_turns) (defBody s__law_turns) (defScope s__law_turns) .none kv__law_turns dc__law_turns pm__law_turns an__law_turns cd__law_turns tt__law_turns) ["_law_row"] (spD [(Pt_places_in, ("places_in.<locals>.<lambda>" : Str)), (Pt_pairs_in, ("pairs_in.<locals>.<genexpr>" : Str)), (Pt_turns_in, ("turns_in.<locals>.<genexpr>" : Str))] K sp__law_turns) := ok__law_turns D__law_turns b_enumerate b_sum b_zip
    have F__law_right : FnX l.prog w K mg base true 6 f__law_right (PySem.W.fnOf "_law_right" "_law_right" (defArgs s__law_right) (defBody s__law_right) (defScope s__law_right) .none kv__law_right dc__law_right pm__law_right an__law_right cd__law_right tt__law_right) ["_law_row"] (spD [(Pt_places_in, ("places_in.<locals>.<lambda>" : Str)), (Pt_pairs_in, ("pairs_in.<locals>.<genexpr>" : Str)), (Pt_turns_in, ("turns_in.<locals>.<genexpr>" : Str))] K sp__law_right) := ok__law_right D__law_right D__law_under F__law_under A__law_under_1 D__law_pairs F__law_pairs A__law_pairs_1 D__law_bounces F__law_bounces A__law_bounces_1 D__law_turns F__law_turns A__law_turns_1 D_under F_under A_under_1 A_under_0_hill D_count_pairs F_count_pairs A_count_pairs_1 A_count_pairs_0_hill D_bounces F_bounces A_bounces_1 A_bounces_0_hill D_turn_sum F_turn_sum A_turn_sum_1 A_turn_sum_0_hill D_swept F_swept A_swept_1 b_repr b_sum
    have F_law : FnX l.prog w K mg base true 7 fa (PySem.W.fnOf "law" "law" (defArgs s_law) (defBody s_law) (defScope s_law) .none kv_law dc_law pm_law an_law cd_law tt_law) ["_law_script"] (spD [(Pt_places_in, ("places_in.<locals>.<lambda>" : Str)), (Pt_pairs_in, ("pairs_in.<locals>.<genexpr>" : Str)), (Pt_turns_in, ("turns_in.<locals>.<genexpr>" : Str))] K sp_law) := ok_law D_law D__law_draws F__law_draws A__law_draws_1 D__law_drawn F__law_drawn A__law_drawn_2 D__law_right F__law_right A__law_right_1 D__law_all F__law_all A__law_all_1 D_under F_under A_under_1 D_count_pairs F_count_pairs A_count_pairs_1 D_turn_sum F_turn_sum A_turn_sum_1 D_bounces F_bounces A_bounces_1 b_list b_range
    exact F_law
end KT
open PySem PySem.W PyProof.Rows
set_option maxHeartbeats 0 in
theorem PySem.Challenge.cw_sweepsteps_k30_whole_even_hills_holds : PySem.Challenge.rw_sweepsteps_k30_whole_even_hills.Holds := by
  w_on; o_law; k_head; (case hw => w_witness2)
  k_fill
  refine DL.walk_X (l := PySem.Challenge.rw_sweepsteps_k30_whole_even_hills) (n := 63) (k := 7) (x := "_law_script") rfl (by decide) rfl ⟨rfl, by decide, by decide⟩ (fun w h Y => PySem.W.km_in_of Y) ?F
  case F =>
    intro w mg fa h Y KX G hmg tab
    refine' KT.all_mk KX G hmg tab ?y_places_in ?y_pairs_in ?y_turns_in ?a_is_whole ?l_is_whole ?c_is_whole ?k_is_whole ?a_check_from ?l_check_from ?c_check_from ?k_check_from ?a_check_steps ?l_check_steps ?c_check_steps ?k_check_steps ?a_heights_in ?l_heights_in ?c_heights_in ?k_heights_in ?a_first_below ?l_first_below ?c_first_below ?k_first_below ?a_check_modulus ?l_check_modulus ?c_check_modulus ?k_check_modulus ?a_places_in ?l_places_in ?c_places_in ?k_places_in ?t_places_in ?p_places_in ?n_places_in ?a_swept_in ?l_swept_in ?c_swept_in ?k_swept_in ?a_swept ?l_swept ?c_swept ?k_swept ?dl_swept ?a_check_hill ?l_check_hill ?c_check_hill ?k_check_hill ?a_begins_in ?l_begins_in ?c_begins_in ?k_begins_in ?a_pairs_in ?l_pairs_in ?c_pairs_in ?k_pairs_in ?t_pairs_in ?p_pairs_in ?n_pairs_in ?a_turns_in ?l_turns_in ?c_turns_in ?k_turns_in ?t_turns_in ?p_turns_in ?n_turns_in ?a_under ?l_under ?c_under ?k_under ?a_count_pairs ?l_count_pairs ?c_count_pairs ?k_count_pairs ?a_bounces ?l_bounces ?c_bounces ?k_bounces ?a_turn_sum ?l_turn_sum ?c_turn_sum ?k_turn_sum ?a__law_draws ?l__law_draws ?c__law_draws ?k__law_draws ?a__law_next ?l__law_next ?c__law_next ?k__law_next ?a__law_drawn ?l__law_drawn ?c__law_drawn ?k__law_drawn ?a__law_all ?l__law_all ?c__law_all ?k__law_all ?a__law_begins ?l__law_begins ?c__law_begins ?k__law_begins ?a__law_under ?l__law_under ?c__law_under ?k__law_under ?a__law_pairs ?l__law_pairs ?c__law_pairs ?k__law_pairs ?a__law_bounces ?l__law_bounces ?c__law_bounces ?k__law_bounces ?a__law_turns ?l__law_turns ?c__law_turns ?k__law_turns ?a__law_right ?l__law_right ?c__law_right ?k__law_right ?a_law ?l_law ?c_law ?k_law ?z_bool ?z_enumerate ?z_int ?z_isinstance ?z_len ?z_list ?z_range ?z_repr ?z_sorted ?z_sum ?z_zip ?z_MOST_STEPS ?dif
    (case y_places_in => kernel_rfl); (case y_pairs_in => kernel_rfl); (case y_turns_in => kernel_rfl); (case a_is_whole => k_is); (case l_is_whole => k_is); (case c_is_whole => k_is); (case k_is_whole => k_is); (case a_check_from => k_is); (case l_check_from => k_is); (case c_check_from => k_is); (case k_check_from => k_is); (case a_check_steps => k_is); (case l_check_steps => k_is); (case c_check_steps => k_is); (case k_check_steps => k_is); (case a_heights_in => k_is); (case l_heights_in => k_is); (case c_heights_in => k_is); (case k_heights_in => k_is); (case a_first_below => k_is); (case l_first_below => k_is); (case c_first_below => k_is); (case k_first_below => k_is); (case a_check_modulus => k_is); (case l_check_modulus => k_is); (case c_check_modulus => k_is); (case k_check_modulus => k_is); (case a_places_in => k_is); (case l_places_in => k_is); (case c_places_in => k_is); (case k_places_in => k_is); (case t_places_in => k_is); (case p_places_in => rfl); (case n_places_in => kernel_rfl); (case a_swept_in => k_is); (case l_swept_in => k_is); (case c_swept_in => k_is); (case k_swept_in => k_is); (case a_swept => k_is); (case l_swept => k_is); (case c_swept => k_is); (case k_swept => k_is); (case dl_swept => k_is); (case a_check_hill => k_is); (case l_check_hill => k_is); (case c_check_hill => k_is); (case k_check_hill => k_is); (case a_begins_in => k_is); (case l_begins_in => k_is); (case c_begins_in => k_is); (case k_begins_in => k_is); (case a_pairs_in => k_is); (case l_pairs_in => k_is); (case c_pairs_in => k_is); (case k_pairs_in => k_is); (case t_pairs_in => k_is); (case p_pairs_in => rfl); (case n_pairs_in => kernel_rfl); (case a_turns_in => k_is); (case l_turns_in => k_is); (case c_turns_in => k_is); (case k_turns_in => k_is); (case t_turns_in => k_is); (case p_turns_in => rfl); (case n_turns_in => kernel_rfl); (case a_under => k_is); (case l_under => k_is); (case c_under => k_is); (case k_under => k_is); (case a_count_pairs => k_is); (case l_count_pairs => k_is); (case c_count_pairs => k_is); (case k_count_pairs => k_is); (case a_bounces => k_is); (case l_bounces => k_is); (case c_bounces => k_is); (case k_bounces => k_is); (case a_turn_sum => k_is); (case l_turn_sum => k_is); (case c_turn_sum => k_is); (case k_turn_sum => k_is); (case a__law_draws => k_is); (case l__law_draws => k_is); (case c__law_draws => k_is); (case k__law_draws => k_is); (case a__law_next => k_is); (case l__law_next => k_is); (case c__law_next => k_is); (case k__law_next => k_is); (case a__law_drawn => k_is); (case l__law_drawn => k_is); (case c__law_drawn => k_is); (case k__law_drawn => k_is); (case a__law_all => k_is); (case l__law_all => k_is); (case c__law_all => k_is); (case k__law_all => k_is); (case a__law_begins => k_is); (case l__law_begins => k_is); (case c__law_begins => k_is); (case k__law_begins => k_is); (case a__law_under => k_is); (case l__law_under => k_is); (case c__law_under => k_is); (case k__law_under => k_is); (case a__law_pairs => k_is); (case l__law_pairs => k_is); (case c__law_pairs => k_is); (case k__law_pairs => k_is); (case a__law_bounces => k_is); (case l__law_bounces => k_is); (case c__law_bounces => k_is); (case k__law_bounces => k_is); (case a__law_turns => k_is); (case l__law_turns => k_is); (case c__law_turns => k_is); (case k__law_turns => k_is); (case a__law_right => k_is); (case l__law_right => k_is); (case c__law_right => k_is); (case k__law_right => k_is); (case a_law => k_is); (case l_law => k_is); (case c_law => k_is); (case k_law => k_is); (case z_bool => k_is); (case z_enumerate => k_is); (case z_int => k_is); (case z_isinstance => k_is); (case z_len => k_is); (case z_list => k_is); (case z_range => k_is); (case z_repr => k_is); (case z_sorted => k_is); (case z_sum => k_is); (case z_zip => k_is); (case z_MOST_STEPS => k_is); (case dif => decide)

