import PyProof.Rows.All
import Wide.All
import OpenK.AllK
import Wide.FinOn
import HandS.ForMost
import HandS.Zip
import HandS.Star
import HandS.Wide
import HandS.TupAny
import HandS.TupMul
import HandS.TupLe
import HandS.IsInst
import KE.GoesMore
import HandS.WordsExc
import HandS.Defaults
import HandS.SetFor
import HandS.Deep
import KE.SortData
import KE.KStateDown
import HandS.Ends
import HandS.More
import HandS.Words
import HandS.Head0
import HandS.Head1
import HandS.Head2
import HandS.HeadEnd
import HandS.HeadHook1
import HandS.HeadHook2
import KE.DataMinMax
import PySem.Challenge.RW_countedstays_k69_whole_crowds
set_option Elab.async false
set_option linter.all false
set_option autoImplicit false
set_option maxRecDepth 100000
set_option maxHeartbeats 4000000
/-! PVa: values of Python as plain data (PyData) over the abstract heap of HandS; slots; the evaluators' judgements for expressions. -/
namespace PV
open PySem PySem.Spec PyProof.Rows L2

abbrev D := PyData
abbrev Ms := Addr → Prop
abbrev Empt : Hp := fun _ => none

/-! ### data at a value: M are the addresses that may still change -/
mutual
def Dq (K : PySem.W.Frag) (M : Ms) (H : Hp) : PyData → V → Prop
  | .none, v => v = .non
  | .bool b, v => v = .bl b
  | .int i, v => v = .int i
  | .str s, v => v = .str s
  | .list ds, v => ∃ a xs, v = .ref a ∧ (H a = some (.lst xs) ∧ ¬ M a) ∧ DqAll K M H ds xs
  | .tuple ds, v => ∃ a xs, v = .ref a ∧ ((H a = some (.tup xs) ∧ ¬ M a) ∨ SqT K Empt a xs) ∧ DqAll K M H ds xs
  | .dict _, _ => False
def DqAll (K : PySem.W.Frag) (M : Ms) (H : Hp) : List PyData → List V → Prop
  | [], xs => xs = []
  | d :: ds, xs => ∃ v vs, xs = v :: vs ∧ Dq K M H d v ∧ DqAll K M H ds vs
end

/-- from one state to a later one: only what is mutable changes, only what is new becomes mutable -/
structure Step (M : Ms) (H : Hp) (M' : Ms) (H' : Hp) : Prop where
  keep : ∀ a o, H a = some o → ¬ M a → H' a = some o
  mono : ∀ a, M' a → M a ∨ H a = none
/-- the heap only grows -/
def Gr (H H' : Hp) : Prop := ∀ a o, H a = some o → H' a = some o
theorem Gr.refl (H : Hp) : Gr H H := fun _ _ h => h
theorem Gr.trans {H H1 H2 : Hp} (a : Gr H H1) (b : Gr H1 H2) : Gr H H2 := fun x o h => b x o (a x o h)
theorem Gr.upd {H : Hp} {p : Addr} {o : HO} (n : H p = none) : Gr H (upd H p o) := fun a u h => by rw [upd_ne (ne_of_none h n)]; exact h
theorem Gr.none {H H' : Hp} (g : Gr H H') {a : Addr} (h : H' a = none) : H a = none := by
  cases q : H a with
  | none => rfl
  | some o => rw [g a o q] at h; cases h
theorem Step.refl (M : Ms) (H : Hp) : Step M H M H := ⟨fun _ _ h _ => h, fun _ h => .inl h⟩
theorem Step.trans {M M1 M2 : Ms} {H H1 H2 : Hp} (a : Step M H M1 H1) (b : Step M1 H1 M2 H2) : Step M H M2 H2 := by
  refine ⟨fun x o h n => ?_, fun x h => ?_⟩
  · refine b.keep x o (a.keep x o h n) fun m => ?_
    rcases a.mono x m with z | z
    · exact n z
    · rw [h] at z; cases z
  · rcases b.mono x h with z | z
    · exact a.mono x z
    · by_cases m : M x
      · exact .inl m
      · cases q : H x with
        | none => exact .inr rfl
        | some o => rw [a.keep x o q m] at z; cases z
theorem Step.gr {M : Ms} {H H' : Hp} (g : Gr H H') : Step M H M H' := ⟨fun a o h _ => g a o h, fun _ h => .inl h⟩

section
variable {K : PySem.W.Frag} {M M' : Ms} {H H' : Hp}
mutual
theorem Dq.step (s : Step M H M' H') : ∀ (d : PyData) (v : V), Dq K M H d v → Dq K M' H' d v
  | .none, v, h => h
  | .bool b, v, h => h
  | .int i, v, h => h
  | .str x, v, h => h
  | .list ds, v, h => by
    obtain ⟨a, xs, e, ⟨h1, h2⟩, h3⟩ := h
    refine ⟨a, xs, e, ⟨s.keep a _ h1 h2, fun m => ?_⟩, DqAll.step s ds xs h3⟩
    rcases s.mono a m with z | z
    · exact h2 z
    · rw [h1] at z; cases z
  | .tuple ds, v, h => by
    obtain ⟨a, xs, e, h1, h3⟩ := h
    refine ⟨a, xs, e, ?_, DqAll.step s ds xs h3⟩
    rcases h1 with ⟨h1, h2⟩ | h1
    · refine .inl ⟨s.keep a _ h1 h2, fun m => ?_⟩
      rcases s.mono a m with z | z
      · exact h2 z
      · rw [h1] at z; cases z
    · exact .inr h1
  | .dict _, v, h => h.elim
theorem DqAll.step (s : Step M H M' H') : ∀ (ds : List PyData) (xs : List V), DqAll K M H ds xs → DqAll K M' H' ds xs
  | [], xs, h => h
  | d :: ds, xs, h => by
    obtain ⟨v, vs, e, h1, h2⟩ := h
    exact ⟨v, vs, e, Dq.step s d v h1, DqAll.step s ds vs h2⟩
end
theorem SqT.empt {a : Addr} {xs : List V} (h : SqT K Empt a xs) : SqT K H a xs := by
  rcases h with (h | ⟨o, h⟩) | h
  · cases h
  · cases h
  · exact .inr h
theorem SqL.empt {a : Addr} {xs : List V} (h : SqL K Empt a xs) : SqL K H a xs := by
  rcases h with (h | ⟨o, h⟩) | h
  · cases h
  · cases h
  · exact .inr h
mutual
theorem Dq.dp : ∀ (d : PyData) (v : V), Dq K M H d v → Dp K H v d
  | .none, v, h => by cases h; exact .non
  | .bool b, v, h => by cases h; exact .bl b
  | .int i, v, h => by cases h; exact .int i
  | .str x, v, h => by cases h; exact .str x
  | .list ds, v, h => by
    obtain ⟨a, xs, e, ⟨h1, h2⟩, h3⟩ := h
    subst e
    exact .lst (SqL.of h1) (DqAll.dp ds xs h3)
  | .tuple ds, v, h => by
    obtain ⟨a, xs, e, h1, h3⟩ := h
    subst e
    refine .tup ?_ (DqAll.dp ds xs h3)
    rcases h1 with ⟨h1, _⟩ | h1
    · exact SqT.of h1
    · exact SqT.empt h1
  | .dict _, v, h => h.elim
theorem DqAll.dp : ∀ (ds : List PyData) (xs : List V), DqAll K M H ds xs → DpAll K H xs ds
  | [], xs, h => by cases h; exact .nil
  | d :: ds, xs, h => by
    obtain ⟨v, vs, e, h1, h2⟩ := h
    subst e
    exact .cons (Dq.dp d v h1) (DqAll.dp ds vs h2)
end
theorem DqAll.len : ∀ {ds : List PyData} {xs : List V}, DqAll K M H ds xs → xs.length = ds.length
  | [], xs, h => by cases h; rfl
  | d :: ds, xs, h => by
    obtain ⟨v, vs, e, h1, h2⟩ := h
    subst e
    simp [DqAll.len h2]
theorem DqAll.get : ∀ {ds : List PyData} {xs : List V} {i : Nat} {d : PyData}, DqAll K M H ds xs → ds[i]? = some d → ∃ v, xs[i]? = some v ∧ Dq K M H d v
  | [], xs, i, d, h, e => by simp at e
  | d' :: ds, xs, i, d, h, e => by
    obtain ⟨v, vs, e1, h1, h2⟩ := h
    subst e1
    cases i with
    | zero => simp at e; subst e; exact ⟨v, rfl, h1⟩
    | succ i =>
      obtain ⟨u, q1, q2⟩ := DqAll.get h2 (by simpa using e)
      exact ⟨u, by simpa using q1, q2⟩
theorem DqAll.get' : ∀ {ds : List PyData} {xs : List V} {i : Nat} {v : V}, DqAll K M H ds xs → xs[i]? = some v → ∃ d, ds[i]? = some d ∧ Dq K M H d v
  | [], xs, i, v, h, e => by cases h; simp at e
  | d' :: ds, xs, i, v, h, e => by
    obtain ⟨u, vs, e1, h1, h2⟩ := h
    subst e1
    cases i with
    | zero => simp at e; subst e; exact ⟨d', rfl, h1⟩
    | succ i =>
      obtain ⟨d, q1, q2⟩ := DqAll.get' h2 (by simpa using e)
      exact ⟨d, by simpa using q1, q2⟩
theorem DqAll.app : ∀ {ds es : List PyData} {xs ys : List V}, DqAll K M H ds xs → DqAll K M H es ys → DqAll K M H (ds ++ es) (xs ++ ys)
  | [], es, xs, ys, h, g => by cases h; exact g
  | d :: ds, es, xs, ys, h, g => by
    obtain ⟨v, vs, e, h1, h2⟩ := h
    subst e
    exact ⟨v, vs ++ ys, rfl, h1, DqAll.app h2 g⟩
theorem DqAll.one {d : PyData} {v : V} (h : Dq K M H d v) : DqAll K M H [d] [v] := ⟨v, [], rfl, h, rfl⟩
theorem DqAll.nil : DqAll K M H [] [] := rfl
theorem DqAll.cons {d : PyData} {v : V} {ds : List PyData} {vs : List V} (h : Dq K M H d v) (g : DqAll K M H ds vs) : DqAll K M H (d :: ds) (v :: vs) := ⟨v, vs, rfl, h, g⟩
theorem DqAll.take : ∀ (n : Nat) {ds : List PyData} {xs : List V}, DqAll K M H ds xs → DqAll K M H (ds.take n) (xs.take n)
  | 0, ds, xs, h => rfl
  | n + 1, [], xs, h => by cases h; rfl
  | n + 1, d :: ds, xs, h => by
    obtain ⟨v, vs, e, h1, h2⟩ := h
    subst e
    exact ⟨v, vs.take n, rfl, h1, DqAll.take n h2⟩
theorem DqAll.drop : ∀ (n : Nat) {ds : List PyData} {xs : List V}, DqAll K M H ds xs → DqAll K M H (ds.drop n) (xs.drop n)
  | 0, ds, xs, h => h
  | n + 1, [], xs, h => by cases h; rfl
  | n + 1, d :: ds, xs, h => by
    obtain ⟨v, vs, e, h1, h2⟩ := h
    subst e
    exact DqAll.drop n h2
theorem DqAll.set : ∀ {ds : List PyData} {xs : List V} (i : Nat) {d : PyData} {v : V}, DqAll K M H ds xs → Dq K M H d v → DqAll K M H (ds.set i d) (xs.set i v)
  | [], xs, i, d, v, h, g => by cases h; rfl
  | d' :: ds, xs, 0, d, v, h, g => by
    obtain ⟨u, vs, e, h1, h2⟩ := h
    subst e
    exact ⟨v, vs, rfl, g, h2⟩
  | d' :: ds, xs, i + 1, d, v, h, g => by
    obtain ⟨u, vs, e, h1, h2⟩ := h
    subst e
    exact ⟨u, vs.set i v, rfl, h1, DqAll.set i h2 g⟩
theorem DqAll.erase : ∀ {ds : List PyData} {xs : List V} (i : Nat), DqAll K M H ds xs → DqAll K M H (ds.eraseIdx i) (xs.eraseIdx i)
  | [], xs, i, h => by cases h; rfl
  | d' :: ds, xs, 0, h => by
    obtain ⟨u, vs, e, h1, h2⟩ := h
    subst e
    exact h2
  | d' :: ds, xs, i + 1, h => by
    obtain ⟨u, vs, e, h1, h2⟩ := h
    subst e
    exact ⟨u, vs.eraseIdx i, rfl, h1, DqAll.erase i h2⟩
theorem DqAll.dropLast {ds : List PyData} {xs : List V} (h : DqAll K M H ds xs) : DqAll K M H ds.dropLast xs.dropLast := by
  rw [List.dropLast_eq_take, List.dropLast_eq_take, h.len]
  exact h.take _
theorem DqAll.rep {ds : List PyData} {xs : List V} (h : DqAll K M H ds xs) : ∀ k : Nat, DqAll K M H (List.replicate k ds).flatten (List.replicate k xs).flatten
  | 0 => rfl
  | k + 1 => by
    rw [List.replicate_succ, List.replicate_succ, List.flatten_cons, List.flatten_cons]
    exact h.app (h.rep k)
theorem DqAll.ints : ∀ {is : List Int} {xs : List V}, DqAll K M H (is.map PyData.int) xs → xs = is.map V.int
  | [], xs, h => h
  | i :: is, xs, h => by
    obtain ⟨v, vs, e, h1, h2⟩ := h
    subst e
    have h1 : v = V.int i := h1
    rw [List.map_cons, h1, DqAll.ints h2]
theorem DqAll.of_ints : ∀ (is : List Int), DqAll K M H (is.map PyData.int) (is.map V.int)
  | [] => rfl
  | i :: is => ⟨_, _, rfl, rfl, DqAll.of_ints is⟩
theorem DqAll.bls : ∀ {is : List Bool} {xs : List V}, DqAll K M H (is.map PyData.bool) xs → xs = is.map V.bl
  | [], xs, h => h
  | i :: is, xs, h => by
    obtain ⟨v, vs, e, h1, h2⟩ := h
    subst e
    have h1 : v = V.bl i := h1
    rw [List.map_cons, h1, DqAll.bls h2]
theorem Dq.sqT {ds : List PyData} {v : V} (h : Dq K M H (.tuple ds) v) : ∃ a xs, v = .ref a ∧ SqT K H a xs ∧ DqAll K M H ds xs := by
  obtain ⟨a, xs, e, h1, h3⟩ := h
  refine ⟨a, xs, e, ?_, h3⟩
  rcases h1 with ⟨h1, _⟩ | h1
  · exact SqT.of h1
  · exact SqT.empt h1
end

/-! ### slots -/
inductive Ix | z | s (i : Ix)
@[simp] def Ix.n : Ix → Nat
  | .z => 0
  | .s i => i.n + 1
/-- what a slot holds: nothing that is told; a value; a list of this def's own that may change; one that was handed in and may change; a list that is only read -/
inductive B | no | val (d : D) | own (ds : List D) | ref (ds : List D) | rd (ds : List D)
abbrev Rho := List B
def B.mut : B → Bool
  | .own _ => true
  | .ref _ => true
  | _ => false
@[simp] def get : Ix → Rho → B
  | _, [] => .no
  | .z, b :: _ => b
  | .s i, _ :: r => get i r
@[simp] def put : Ix → B → Rho → Rho
  | _, _, [] => []
  | .z, b, _ :: r => b :: r
  | .s i, b, c :: r => c :: put i b r
theorem get_n : ∀ (i : Ix) (ρ : Rho), get i ρ = (ρ[i.n]?).getD .no
  | .z, [] => rfl
  | .s _, [] => rfl
  | .z, b :: r => rfl
  | .s i, b :: r => by
    show get i r = _
    rw [get_n i r]
    simp [Ix.n]
theorem put_n : ∀ (i : Ix) (b : B) (ρ : Rho), put i b ρ = ρ.set i.n b
  | .z, b, [] => rfl
  | .s _, b, [] => rfl
  | .z, b, c :: r => rfl
  | .s i, b, c :: r => by
    show c :: put i b r = _
    rw [put_n i b r]
    rfl
theorem get_some {i : Ix} {ρ : Rho} {b : B} (h : get i ρ = b) (n : b ≠ .no) : ρ[i.n]? = some b := by
  rw [get_n] at h
  cases e : ρ[i.n]? with
  | none => rw [e] at h; exact absurd h.symm n
  | some c => rw [e] at h; simp at h; rw [h]

/-- what stood at a def's entry: the heap, the lists handed in that may change, all that may change, where the handed ones stand; pd: lists in the making that nothing here touches -/
structure Fx where
  H0 : Hp
  N0 : Ms
  M0 : Ms
  ra : Nat → Addr
  pd : Addr → Option (List V)

def slotOk (K : PySem.W.Frag) (F : Fx) (M : Ms) (H : Hp) (i : Nat) (o : Option V) : B → Prop
  | .no => True
  | .val d => ∃ v, o = some v ∧ Dq K M H d v
  | .own ds => ∃ a xs, o = some (.ref a) ∧ M a ∧ F.H0 a = none ∧ F.pd a = none ∧ H a = some (.lst xs) ∧ DqAll K M H ds xs
  | .ref ds => ∃ xs, o = some (.ref (F.ra i)) ∧ M (F.ra i) ∧ F.N0 (F.ra i) ∧ F.pd (F.ra i) = none ∧ H (F.ra i) = some (.lst xs) ∧ DqAll K M H ds xs
  | .rd ds => ∃ a xs, o = some (.ref a) ∧ ((∃ ob, H a = some (.frz ob (.lst xs)) ∧ ¬ M a) ∨ SqL K Empt a xs) ∧ DqAll K M H ds xs

structure Rel (K : PySem.W.Frag) (F : Fx) (M : Ms) (σ : L2.St) (H : Hp) (ρ : Rho) : Prop where
  len : σ.length = ρ.length
  slot : ∀ (i : Nat) o b, σ[i]? = some o → ρ[i]? = some b → slotOk K F M H i o b
  inj : ∀ (i j : Nat) a b c, ρ[i]? = some b → ρ[j]? = some c → b.mut = true → c.mut = true → σ[i]? = some (some (.ref a)) → σ[j]? = some (some (.ref a)) → i = j
  trk : ∀ a, M a → ∃ xs, H a = some (.lst xs)
  m0 : ∀ a, F.M0 a → M a
  n0 : ∀ a, F.N0 a → F.M0 a
  h0 : ∀ a, F.M0 a → F.H0 a ≠ none
  keep : ∀ a o, F.H0 a = some o → ¬ F.N0 a → H a = some o
  pd : ∀ a xs, F.pd a = some xs → H a = some (.lst xs) ∧ M a

section
variable {K : PySem.W.Frag} {F : Fx} {M M' : Ms} {H H' : Hp} {σ : L2.St} {ρ : Rho}
theorem slotOk.step {i : Nat} {o : Option V} {b : B} (h : slotOk K F M H i o b) (s : Step M H M' H') (w : ∀ a xs, o = some (.ref a) → b.mut = true → H a = some (.lst xs) → M a → H' a = some (.lst xs) ∧ M' a) : slotOk K F M' H' i o b := by
  cases b with
  | no => trivial
  | val d =>
    obtain ⟨v, e, h⟩ := h
    exact ⟨v, e, Dq.step s d v h⟩
  | own ds =>
    obtain ⟨a, xs, e, h1, h2, h2', h3, h4⟩ := h
    obtain ⟨q1, q2⟩ := w a xs e rfl h3 h1
    exact ⟨a, xs, e, q2, h2, h2', q1, DqAll.step s ds xs h4⟩
  | ref ds =>
    obtain ⟨xs, e, h1, h2, h2', h3, h4⟩ := h
    obtain ⟨q1, q2⟩ := w _ xs e rfl h3 h1
    exact ⟨xs, e, q2, h2, h2', q1, DqAll.step s ds xs h4⟩
  | rd ds =>
    obtain ⟨a, xs, e, h1, h4⟩ := h
    refine ⟨a, xs, e, ?_, DqAll.step s ds xs h4⟩
    rcases h1 with ⟨ob, h1, h2⟩ | h1
    · refine .inl ⟨ob, s.keep a _ h1 h2, fun m => ?_⟩
      rcases s.mono a m with z | z
      · exact h2 z
      · rw [h1] at z; cases z
    · exact .inr h1
/-- the heap grows -/
theorem Rel.grow (R : Rel K F M σ H ρ) (g : Gr H H') : Rel K F M σ H' ρ :=
  ⟨R.len, fun i o b h1 h2 => (R.slot i o b h1 h2).step (Step.gr g) fun a xs _ _ h m => ⟨g a _ h, m⟩, R.inj, fun a m => let ⟨xs, h⟩ := R.trk a m; ⟨xs, g a _ h⟩, R.m0, R.n0, R.h0, fun a o h n => g a o (R.keep a o h n),
    fun a xs h => ⟨g a _ (R.pd a xs h).1, (R.pd a xs h).2⟩⟩
/-- the slot of a mutable binding -/
theorem Rel.mutAt (R : Rel K F M σ H ρ) {i : Nat} {b : B} (h : ρ[i]? = some b) (m : b.mut = true) :
    ∃ a xs ds, σ[i]? = some (some (.ref a)) ∧ M a ∧ H a = some (.lst xs) ∧ (b = .own ds ∨ b = .ref ds) ∧ DqAll K M H ds xs ∧ F.pd a = none ∧ (F.N0 a ∨ F.H0 a = none) := by
  have hl : i < σ.length := by
    rw [R.len]
    exact (List.getElem?_eq_some_iff.mp h).1
  obtain ⟨o, ho⟩ : ∃ o, σ[i]? = some o := ⟨_, List.getElem?_eq_getElem hl⟩
  have s := R.slot i o b ho h
  cases b with
  | no => cases m
  | val d => cases m
  | rd d => cases m
  | own ds =>
    obtain ⟨a, xs, e, h1, h2, h2', h3, h4⟩ := s
    subst e
    exact ⟨a, xs, ds, ho, h1, h3, .inl rfl, h4, h2', .inr h2⟩
  | ref ds =>
    obtain ⟨xs, e, h1, h2, h2', h3, h4⟩ := s
    subst e
    exact ⟨_, xs, ds, ho, h1, h3, .inr rfl, h4, h2', .inl h2⟩
end

/-! ### what an expression gives -/
/-- a value; the list that stands in a slot; a new list; a list that is only read -/
inductive AV | val (d : D) | ref (b : Ix) | new (ds : List D) | rd (ds : List D)
def AvOk (K : PySem.W.Frag) (F : Fx) (M : Ms) (H : Hp) (σ : L2.St) (ρ : Rho) (v : V) : AV → Prop
  | .val d => Dq K M H d v
  | .ref b => σ[b.n]? = some (some v)
  | .new ds => ∃ p xs, v = .ref p ∧ H p = some (.lst xs) ∧ M p ∧ F.H0 p = none ∧ F.pd p = none ∧ DqAll K M H ds xs ∧ ∀ (i : Nat) b, ρ[i]? = some b → b.mut = true → σ[i]? ≠ some (some (.ref p))
  | .rd ds => ∃ a xs, v = .ref a ∧ ((∃ ob, H a = some (.frz ob (.lst xs)) ∧ ¬ M a) ∨ SqL K Empt a xs) ∧ DqAll K M H ds xs
abbrev Ev := Rho → Option (AV × Rho)
def tU (K : PySem.W.Frag) (ev : Ev) : TE := fun σ H Q => ∃ F M ρ av ρ', Rel K F M σ H ρ ∧ ev ρ = some (av, ρ') ∧
  ∀ v M' H', Step M H M' H' → Rel K F M' σ H' ρ' → AvOk K F M' H' σ ρ' v av → Q v H'
abbrev PU (X : Cx) (e : Expr) (ev : Ev) : Prop := PE X e (tU X.K ev)
abbrev Et := Rho → Option (Bool × Rho)
def tB' (K : PySem.W.Frag) (et : Et) : TT := fun σ H Q => ∃ F M ρ b ρ', Rel K F M σ H ρ ∧ et ρ = some (b, ρ') ∧
  ∀ M' H', Step M H M' H' → Rel K F M' σ H' ρ' → Q b H'
abbrev PUT (X : Cx) (e : Expr) (et : Et) : Prop := PT X e (tB' X.K et)
abbrev PUW (X : Cx) (e : Expr) (et : Et) : Prop := PW X e (tB' X.K et)

section
variable {X : Cx}
theorem _root_.L2.PE.imp {e : Expr} {t t' : TE} (h : PE X e t) (i : ∀ σ H Q, t' σ H Q → t σ H Q) : PE X e t' := ⟨fun pins s σ H Q I q => h.run pins s σ H Q I (i σ H Q q)⟩
theorem _root_.L2.PT.imp {e : Expr} {t t' : TT} (h : PT X e t) (i : ∀ σ H Q, t' σ H Q → t σ H Q) : PT X e t' := ⟨fun pins s σ H Q I q => h.run pins s σ H Q I (i σ H Q q)⟩
theorem _root_.L2.PW.imp {e : Expr} {t t' : TT} (h : PW X e t) (i : ∀ σ H Q, t' σ H Q → t σ H Q) : PW X e t' := ⟨fun w pins s σ H Q I q => h.run w pins s σ H Q I (i σ H Q q)⟩
theorem _root_.L2.PS.imp {e : Stmt} {t t' : TS} (h : PS X e t) (i : ∀ D σ H, t' D σ H → t D σ H) : PS X e t' := ⟨fun pins s σ H D I q => h.run pins s σ H D I (i D σ H q)⟩
theorem _root_.L2.PSs.imp {e : List Stmt} {t t' : TS} (h : PSs X e t) (i : ∀ D σ H, t' D σ H → t D σ H) : PSs X e t' := ⟨fun pins s σ H D I q => h.run pins s σ H D I (i D σ H q)⟩
end
end PV
set_option Elab.async false
set_option linter.all false
set_option autoImplicit false
set_option maxRecDepth 100000
set_option maxHeartbeats 4000000
/-! PVb: the judgements for expressions, rule by rule. -/
namespace PV
open PySem PySem.Spec PyProof.Rows L2

section
variable {K : PySem.W.Frag} {F : Fx} {M M' : Ms} {H H' : Hp} {σ : L2.St} {ρ : Rho}

theorem Dq.less {d : PyData} {v : V} (h : Dq K M H d v) (s : ∀ a, M' a → M a) : Dq K M' H d v := Dq.step ⟨fun _ _ h _ => h, fun a m => .inl (s a m)⟩ d v h
theorem DqAll.less {d : List PyData} {v : List V} (h : DqAll K M H d v) (s : ∀ a, M' a → M a) : DqAll K M' H d v := DqAll.step ⟨fun _ _ h _ => h, fun a m => .inl (s a m)⟩ d v h

/-- a mutable list that stands in no slot is fixed -/
theorem Rel.fix (R : Rel K F M σ H ρ) {p : Addr} (h0 : F.H0 p = none) (hp : F.pd p = none) (hs : ∀ (i : Nat) b, ρ[i]? = some b → b.mut = true → σ[i]? ≠ some (some (.ref p))) : Rel K F (fun a => M a ∧ a ≠ p) σ H ρ := by
  refine ⟨R.len, fun i o b h1 h2 => (R.slot i o b h1 h2).step ⟨fun _ _ h _ => h, fun a m => .inl m.1⟩ fun a xs e m h ma => ⟨h, ma, fun z => ?_⟩, R.inj, fun a m => R.trk a m.1, fun a m => ⟨R.m0 a m, fun z => ?_⟩, R.n0, R.h0, R.keep, fun a xs h => ⟨(R.pd a xs h).1, (R.pd a xs h).2, fun z => ?_⟩⟩
  · subst z; exact hs i b h2 m (by rw [h1, e])
  · subst z; exact R.h0 a m h0
  · subst z; rw [hp] at h; cases h
/-- a slot is overwritten by a value -/
theorem Rel.setVal (R : Rel K F M σ H ρ) (i : Nat) {d : D} {v : V} (h : Dq K M H d v) : Rel K F M (σ.set i (some v)) H (ρ.set i (.val d)) := by
  refine ⟨by simpa using R.len, fun j o b h1 h2 => ?_, fun j k a b c h1 h2 m1 m2 e1 e2 => ?_, R.trk, R.m0, R.n0, R.h0, R.keep, R.pd⟩
  · by_cases e : i = j
    · subst e
      have hl : i < σ.length := by simpa using (List.getElem?_eq_some_iff.mp h1).1
      have hl2 : i < ρ.length := by simpa using (List.getElem?_eq_some_iff.mp h2).1
      rw [List.getElem?_set_self hl] at h1
      rw [List.getElem?_set_self hl2] at h2
      cases h1; cases h2
      exact ⟨v, rfl, h⟩
    · rw [List.getElem?_set_ne e] at h1 h2
      exact R.slot j o b h1 h2
  · have n1 : i ≠ j := by
      rintro rfl
      have hl2 : i < ρ.length := by simpa using (List.getElem?_eq_some_iff.mp h1).1
      rw [List.getElem?_set_self hl2] at h1; cases h1; cases m1
    have n2 : i ≠ k := by
      rintro rfl
      have hl2 : i < ρ.length := by simpa using (List.getElem?_eq_some_iff.mp h2).1
      rw [List.getElem?_set_self hl2] at h2; cases h2; cases m2
    rw [List.getElem?_set_ne n1] at h1 e1
    rw [List.getElem?_set_ne n2] at h2 e2
    exact R.inj j k a b c h1 h2 m1 m2 e1 e2
/-- a slot is told less of -/
theorem Rel.drop (R : Rel K F M σ H ρ) (i : Nat) : Rel K F M σ H (ρ.set i .no) := by
  refine ⟨by simpa using R.len, fun j o b h1 h2 => ?_, fun j k a b c h1 h2 m1 m2 e1 e2 => ?_, R.trk, R.m0, R.n0, R.h0, R.keep, R.pd⟩
  · by_cases e : i = j
    · subst e
      have hl2 : i < ρ.length := by simpa using (List.getElem?_eq_some_iff.mp h2).1
      rw [List.getElem?_set_self hl2] at h2
      cases h2
      trivial
    · rw [List.getElem?_set_ne e] at h2
      exact R.slot j o b h1 h2
  · have n1 : i ≠ j := by
      rintro rfl
      have hl2 : i < ρ.length := by simpa using (List.getElem?_eq_some_iff.mp h1).1
      rw [List.getElem?_set_self hl2] at h1; cases h1; cases m1
    have n2 : i ≠ k := by
      rintro rfl
      have hl2 : i < ρ.length := by simpa using (List.getElem?_eq_some_iff.mp h2).1
      rw [List.getElem?_set_self hl2] at h2; cases h2; cases m2
    rw [List.getElem?_set_ne n1] at h1
    rw [List.getElem?_set_ne n2] at h2
    exact R.inj j k a b c h1 h2 m1 m2 e1 e2
/-- a slot whose list is this def's own is told as a value -/
theorem Rel.freeze (R : Rel K F M σ H ρ) {i : Nat} {ds : List D} (h : ρ[i]? = some (.own ds)) : ∃ a M', σ[i]? = some (some (.ref a)) ∧ Step M H M' H ∧ Dq K M' H (.list ds) (.ref a) ∧ Rel K F M' σ H (ρ.set i (.val (.list ds))) := by
  have hl : i < σ.length := by
    rw [R.len]
    exact (List.getElem?_eq_some_iff.mp h).1
  obtain ⟨o, ho⟩ : ∃ o, σ[i]? = some o := ⟨_, List.getElem?_eq_getElem hl⟩
  obtain ⟨a, xs, e, h1, h2, h2', h3, h4⟩ := R.slot i o _ ho h
  subst e
  have s : Step M H (fun b => M b ∧ b ≠ a) H := ⟨fun _ _ h _ => h, fun b m => .inl m.1⟩
  have dq : Dq K (fun b => M b ∧ b ≠ a) H (.list ds) (.ref a) := ⟨a, xs, rfl, ⟨h3, fun m => m.2 rfl⟩, DqAll.step s ds xs h4⟩
  refine ⟨a, _, ho, s, dq, ?_⟩
  have R2 := (R.drop i).fix h2 h2' fun j b e m q => ?_
  · have R3 := R2.setVal i dq
    have e1 : σ.set i (some (.ref a)) = σ := by
      apply List.ext_getElem?
      intro j
      by_cases e : i = j
      · subst e; rw [List.getElem?_set_self hl, ho]
      · rw [List.getElem?_set_ne e]
    rw [e1, List.set_set] at R3
    exact R3
  · by_cases e' : i = j
    · subst e'
      have hl2 : i < ρ.length := (List.getElem?_eq_some_iff.mp h).1
      rw [List.getElem?_set_self hl2] at e; cases e; cases m
    · rw [List.getElem?_set_ne e'] at e
      exact e' (R.inj i j a _ b h e rfl m ho q)

/-! ### what a rule by values may leave -/
def ResD (K : PySem.W.Frag) (M : Ms) (H : Hp) (av : AV) (v : V) (H' : Hp) : Prop :=
  Gr H H' ∧ match av with
  | .val d => Dq K M H' d v
  | .new ds => ∃ p xs H1, v = .ref p ∧ Gr H H1 ∧ H1 p = none ∧ DqAll K M H1 ds xs ∧ Gr H1 H' ∧ H' p = some (.lst xs)
  | _ => False
theorem ResD.val {d : D} {v : V} (h : Dq K M H d v) : ResD K M H (.val d) v H := ⟨Gr.refl H, h⟩
theorem ResD.new {ds : List D} {p : Addr} {xs : List V} (n : H p = none) (h : DqAll K M H ds xs) : ResD K M H (.new ds) (.ref p) (upd H p (.lst xs)) :=
  ⟨Gr.upd n, p, xs, H, rfl, Gr.refl H, n, h, Gr.upd n, upd_same⟩
theorem ResD.tup {ds : List D} {p : Addr} {xs : List V} (n : H p = none) (t : ∀ a, M a → ∃ ys, H a = some (.lst ys)) (h : DqAll K M H ds xs) : ResD K M H (.val (.tuple ds)) (.ref p) (upd H p (.tup xs)) :=
  ⟨Gr.upd n, p, xs, rfl, .inl ⟨upd_same, fun m => by obtain ⟨ys, z⟩ := t p m; rw [n] at z; cases z⟩, DqAll.step (Step.gr (Gr.upd n)) ds xs h⟩
theorem Rel.fin (R : Rel K F M σ H ρ) {av : AV} {v : V} (h : ResD K M H av v H') : ∃ M', Step M H M' H' ∧ Rel K F M' σ H' ρ ∧ AvOk K F M' H' σ ρ v av := by
  obtain ⟨g, h⟩ := h
  cases av with
  | val d => exact ⟨M, Step.gr g, R.grow g, h⟩
  | ref b => exact h.elim
  | rd ds => exact h.elim
  | new ds =>
    obtain ⟨p, xs, H1, e, g1, n1, h1, g2, hp⟩ := h
    subst e
    have n0 : H p = none := g1.none n1
    have s : Step M H (fun a => M a ∨ a = p) H' := ⟨fun a o h _ => g a o h, fun a m => m.elim .inl fun z => .inr (by rw [z]; exact n0)⟩
    have s1 : Step M H1 (fun a => M a ∨ a = p) H' := ⟨fun a o h _ => g2 a o h, fun a m => m.elim .inl fun z => .inr (by rw [z]; exact n1)⟩
    refine ⟨_, s, ⟨R.len, fun i o b q1 q2 => (R.slot i o b q1 q2).step s fun a xs _ _ q m => ⟨g a _ q, .inl m⟩, R.inj, fun a m => ?_, fun a m => .inl (R.m0 a m), R.n0, R.h0, fun a o q n => g a o (R.keep a o q n), fun a xs q => ⟨g a _ (R.pd a xs q).1, .inl (R.pd a xs q).2⟩⟩, p, xs, rfl, hp, .inr rfl, ?_, ?_, DqAll.step s1 ds xs h1, fun i b q m z => ?_⟩
    · rcases m with m | m
      · obtain ⟨ys, q⟩ := R.trk a m; exact ⟨ys, g a _ q⟩
      · subst m; exact ⟨xs, hp⟩
    · cases q : F.H0 p with
      | none => rfl
      | some o =>
        by_cases nn : F.N0 p
        · obtain ⟨ys, z⟩ := R.trk p (R.m0 p (R.n0 p nn))
          rw [n0] at z; cases z
        · have z := R.keep p o q nn
          rw [n0] at z; cases z
    · cases q : F.pd p with
      | none => rfl
      | some ys =>
        have z := (R.pd p ys q).1
        rw [n0] at z; cases z
    · obtain ⟨a, ys, es, e1, _, e2, _⟩ := R.mutAt q m
      rw [e1] at z
      cases z
      rw [n0] at e2; cases e2

/-! ### what is looked at -/
@[simp] def peek : AV → Rho → Option D
  | .val d, _ => some d
  | .new ds, _ => some (.list ds)
  | .ref b, ρ => match get b ρ with
    | .own ds => some (.list ds)
    | .ref ds => some (.list ds)
    | _ => none
  | .rd _, _ => none
/-- also a list that is only read -/
@[simp] def peekR : AV → Rho → Option D
  | .rd ds, _ => some (.list ds)
  | av, ρ => peek av ρ
def Pk (K : PySem.W.Frag) (M : Ms) (H : Hp) (d : D) (v : V) : Prop := Dq K M H d v ∨ ∃ a xs ds, d = .list ds ∧ v = .ref a ∧ H a = some (.lst xs) ∧ DqAll K M H ds xs
def PkR (K : PySem.W.Frag) (M : Ms) (H : Hp) (d : D) (v : V) : Prop := Pk K M H d v ∨ ∃ a xs ds, d = .list ds ∧ v = .ref a ∧ SqL K H a xs ∧ DqAll K M H ds xs
theorem Pk.dp {d : D} {v : V} (h : Pk K M H d v) : Dp K H v d := by
  rcases h with h | ⟨a, xs, ds, rfl, rfl, h1, h2⟩
  · exact Dq.dp d v h
  · exact .lst (SqL.of h1) (DqAll.dp ds xs h2)
theorem Pk.list {ds : List D} {v : V} (h : Pk K M H (.list ds) v) : ∃ a xs, v = .ref a ∧ H a = some (.lst xs) ∧ DqAll K M H ds xs := by
  rcases h with ⟨a, xs, e, ⟨h1, _⟩, h2⟩ | ⟨a, xs, ds', e, e2, h1, h2⟩
  · exact ⟨a, xs, e, h1, h2⟩
  · cases e; exact ⟨a, xs, e2, h1, h2⟩
theorem PkR.dp {d : D} {v : V} (h : PkR K M H d v) : Dp K H v d := by
  rcases h with h | ⟨a, xs, ds, rfl, rfl, h1, h2⟩
  · exact h.dp
  · exact .lst h1 (DqAll.dp ds xs h2)
theorem PkR.list {ds : List D} {v : V} (h : PkR K M H (.list ds) v) : ∃ a xs, v = .ref a ∧ SqL K H a xs ∧ DqAll K M H ds xs := by
  rcases h with h | ⟨a, xs, ds', e, e2, h1, h2⟩
  · obtain ⟨a, xs, e, h1, h2⟩ := h.list
    exact ⟨a, xs, e, SqL.of h1, h2⟩
  · cases e; exact ⟨a, xs, e2, h1, h2⟩
theorem Pk.tup {ds : List D} {v : V} (h : Pk K M H (.tuple ds) v) : Dq K M H (.tuple ds) v := by
  rcases h with h | ⟨a, xs, ds', e, _⟩
  · exact h
  · cases e
theorem Pk.int {i : Int} {v : V} (h : Pk K M H (.int i) v) : v = .int i := by
  rcases h with h | ⟨a, xs, ds', e, _⟩
  · exact h
  · cases e
theorem Pk.bl {i : Bool} {v : V} (h : Pk K M H (.bool i) v) : v = .bl i := by
  rcases h with h | ⟨a, xs, ds', e, _⟩
  · exact h
  · cases e
theorem Pk.str {i : Str} {v : V} (h : Pk K M H (.str i) v) : v = .str i := by
  rcases h with h | ⟨a, xs, ds', e, _⟩
  · exact h
  · cases e
theorem Pk.non {v : V} (h : Pk K M H .none v) : v = .non := by
  rcases h with h | ⟨a, xs, ds', e, _⟩
  · exact h
  · cases e
theorem PkR.pk {d : D} {v : V} (h : PkR K M H d v) (n : ∀ ds, d ≠ .list ds) : Pk K M H d v := by
  rcases h with h | ⟨a, xs, ds', e, _⟩
  · exact h
  · exact absurd e (n ds')
theorem AvOk.pk (R : Rel K F M σ H ρ) {v : V} {av : AV} {d : D} (h : AvOk K F M H σ ρ v av) (e : peek av ρ = some d) : Pk K M H d v := by
  cases av with
  | val d' => cases e; exact .inl h
  | rd ds => cases e
  | new ds =>
    cases e
    obtain ⟨p, xs, e, h1, h2, h3, h4, h5, _⟩ := h
    exact .inr ⟨p, xs, ds, rfl, e, h1, h5⟩
  | ref b =>
    have fin : ∀ {c : B} {ds : List D}, get b ρ = c → (c = .own ds ∨ c = .ref ds) → Pk K M H (.list ds) v := by
      intro c ds q1 q2
      have q3 : ρ[b.n]? = some c := get_some q1 (by rcases q2 with z | z <;> (subst z; intro w; cases w))
      obtain ⟨a, xs, es, e1, m, e2, e3, e4, _⟩ := R.mutAt q3 (by rcases q2 with z | z <;> (subst z; rfl))
      have e5 : es = ds := by
        rcases q2 with z | z <;> rcases e3 with y | y <;> (rw [z] at y; cases y) <;> rfl
      subst e5
      have h : σ[b.n]? = some (some v) := h
      rw [h] at e1
      cases e1
      exact .inr ⟨a, xs, es, rfl, rfl, e2, e4⟩
    have e : (match get b ρ with | .own ds => some (.list ds) | .ref ds => some (.list ds) | _ => none) = some d := e
    cases q : get b ρ with
    | own ds => rw [q] at e; cases e; exact fin q (.inl rfl)
    | ref ds => rw [q] at e; cases e; exact fin q (.inr rfl)
    | no => rw [q] at e; cases e
    | val _ => rw [q] at e; cases e
    | rd _ => rw [q] at e; cases e
theorem AvOk.pkR (R : Rel K F M σ H ρ) {v : V} {av : AV} {d : D} (h : AvOk K F M H σ ρ v av) (e : peekR av ρ = some d) : PkR K M H d v := by
  cases av with
  | val d' => exact .inl (AvOk.pk R h e)
  | new ds => exact .inl (AvOk.pk R h e)
  | ref b => exact .inl (AvOk.pk R h e)
  | rd ds =>
    cases e
    obtain ⟨a, xs, e, h1, h2⟩ := h
    refine .inr ⟨a, xs, ds, rfl, e, ?_, h2⟩
    rcases h1 with ⟨ob, h1, _⟩ | h1
    · exact .inl (.inr ⟨ob, h1⟩)
    · exact SqL.empt h1
/-- what was given stays, unless it is a new list -/
theorem AvOk.step {v : V} {av : AV} {ρ' : Rho} (h : AvOk K F M H σ ρ v av) (s : Step M H M' H') (n : ∀ ds, av ≠ .new ds) : AvOk K F M' H' σ ρ' v av := by
  cases av with
  | val d => exact Dq.step s d v h
  | ref b => exact h
  | new ds => exact absurd rfl (n ds)
  | rd ds =>
    obtain ⟨a, xs, e, h1, h4⟩ := h
    refine ⟨a, xs, e, ?_, DqAll.step s ds xs h4⟩
    rcases h1 with ⟨ob, h1, h2⟩ | h1
    · refine .inl ⟨ob, s.keep a _ h1 h2, fun m => ?_⟩
      rcases s.mono a m with z | z
      · exact h2 z
      · rw [h1] at z; cases z
    · exact .inr h1
end

/-! ### a value; nothing new -/
def eNorm (ev : Ev) : Ev := fun ρ => match ev ρ with
  | some (.new ds, r) => some (.val (.list ds), r)
  | o => o
def eVal (ev : Ev) : Ev := fun ρ => match ev ρ with
  | some (.val d, r) => some (.val d, r)
  | some (.new ds, r) => some (.val (.list ds), r)
  | some (.ref b, r) => (match get b r with
    | .own ds => some (.val (.list ds), put b (.val (.list ds)) r)
    | _ => none)
  | _ => none
section
variable {X : Cx} {e a b : Expr} {pos : Pos}
/-- behind a new list that is fixed -/
theorem fix_new {K : PySem.W.Frag} {F : Fx} {M : Ms} {H : Hp} {σ : L2.St} {ρ : Rho} {ds : List D} {v : V} (R : Rel K F M σ H ρ) (h : AvOk K F M H σ ρ v (.new ds)) : ∃ M', Step M H M' H ∧ Rel K F M' σ H ρ ∧ Dq K M' H (.list ds) v := by
  obtain ⟨p, xs, e, h1, h2, h3, h4, h5, h6⟩ := h
  have s : Step M H (fun a => M a ∧ a ≠ p) H := ⟨fun _ _ h _ => h, fun a m => .inl m.1⟩
  exact ⟨_, s, R.fix h3 h4 h6, p, xs, e, ⟨h1, fun m => m.2 rfl⟩, DqAll.step s ds xs h5⟩
theorem pu_norm {ev : Ev} (h : PU X e ev) : PU X e (eNorm ev) := h.imp fun σ H Q ⟨F, M, ρ, av, ρ', R, q, k⟩ => by
  unfold eNorm at q
  cases z : ev ρ with
  | none => rw [z] at q; cases q
  | some x =>
    obtain ⟨x, r⟩ := x
    rw [z] at q
    cases x with
    | new ds =>
      cases q
      refine ⟨F, M, ρ, _, _, R, z, fun v M' H' s R' ok => ?_⟩
      obtain ⟨M2, s2, R2, dq⟩ := fix_new R' ok
      exact k v M2 H' (s.trans s2) R2 dq
    | val d => cases q; exact ⟨F, M, ρ, _, _, R, z, k⟩
    | ref d => cases q; exact ⟨F, M, ρ, _, _, R, z, k⟩
    | rd d => cases q; exact ⟨F, M, ρ, _, _, R, z, k⟩
theorem eNorm_new {ev : Ev} {ρ ρ' : Rho} {av : AV} (h : eNorm ev ρ = some (av, ρ')) : ∀ ds, av ≠ .new ds := by
  intro ds e
  subst e
  unfold eNorm at h
  split at h
  · cases h
  · rename_i q; exact q _ _ h
theorem pu_val {ev : Ev} (h : PU X e ev) : PU X e (eVal ev) := h.imp fun σ H Q ⟨F, M, ρ, av, ρ', R, q, k⟩ => by
  unfold eVal at q
  cases z : ev ρ with
  | none => rw [z] at q; cases q
  | some x =>
    obtain ⟨x, r⟩ := x
    rw [z] at q
    cases x with
    | new ds =>
      cases q
      refine ⟨F, M, ρ, _, _, R, z, fun v M' H' s R' ok => ?_⟩
      obtain ⟨M2, s2, R2, dq⟩ := fix_new R' ok
      exact k v M2 H' (s.trans s2) R2 dq
    | val d => cases q; exact ⟨F, M, ρ, _, _, R, z, k⟩
    | ref b =>
      simp only at q
      split at q
      · rename_i ds g
        cases q
        refine ⟨F, M, ρ, _, _, R, z, fun v M' H' s R' ok => ?_⟩
        have g' : r[b.n]? = some (.own ds) := get_some g (fun z => nomatch z)
        obtain ⟨a, M2, e1, s2, dq, R2⟩ := R'.freeze g'
        have ok : σ[b.n]? = some (some v) := ok
        rw [ok] at e1
        cases e1
        rw [put_n] at k
        exact k _ M2 H' (s.trans s2) R2 dq
      · cases q
    | rd d => cases q
theorem eVal_val {ev : Ev} {ρ ρ' : Rho} {av : AV} (h : eVal ev ρ = some (av, ρ')) : ∃ d, av = .val d := by
  unfold eVal at h
  split at h
  · cases h; exact ⟨_, rfl⟩
  · cases h; exact ⟨_, rfl⟩
  · split at h
    · cases h; exact ⟨_, rfl⟩
    · cases h
  · cases h

/-! ### names, constants -/
def eVar (b : Ix) : Ev := fun ρ => match get b ρ with
  | .val d => some (.val d, ρ)
  | .own _ => some (.ref b, ρ)
  | .ref _ => some (.ref b, ρ)
  | .rd ds => some (.rd ds, ρ)
  | .no => none
def eK (d : D) : Ev := fun ρ => some (.val d, ρ)
theorem pu_var (b : Ix) {x : Str} (hN : X.N[b.n]? = some x := by rfl) (hv : Vis X.env.scope x := by first | exact Or.inl rfl | exact Or.inr (Or.inl rfl) | exact Or.inr (Or.inr rfl))
    (hd : (x == ("__debug__" : Str)) = false := by decide) (hcd : (x == ("__classdict__" : Str)) = false := by decide) : PU X (.Name x pos) (eVar b) :=
  (pe_var hN hv hd hcd).imp fun σ H Q ⟨F, M, ρ, av, ρ', R, q, k⟩ => by
    have at_ : ∀ {c : B}, get b ρ = c → c ≠ .no → ∃ o, σ[b.n]? = some o ∧ slotOk X.K F M H b.n o c := by
      intro c e n
      have e' := get_some e n
      have hl : b.n < σ.length := by
        rw [R.len]
        exact (List.getElem?_eq_some_iff.mp e').1
      exact ⟨_, List.getElem?_eq_getElem hl, R.slot _ _ _ (List.getElem?_eq_getElem hl) e'⟩
    unfold eVar at q
    split at q
    · rename_i d e
      cases q
      obtain ⟨o, ho, v, e2, dq⟩ := at_ e (fun z => nomatch z)
      subst e2
      exact ⟨v, ho, k v M H (Step.refl M H) R dq⟩
    · rename_i d e
      cases q
      obtain ⟨o, ho, a, xs, e2, _⟩ := at_ e (fun z => nomatch z)
      subst e2
      exact ⟨_, ho, k _ M H (Step.refl M H) R ho⟩
    · rename_i d e
      cases q
      obtain ⟨o, ho, xs, e2, _⟩ := at_ e (fun z => nomatch z)
      subst e2
      exact ⟨_, ho, k _ M H (Step.refl M H) R ho⟩
    · rename_i d e
      cases q
      obtain ⟨o, ho, a, xs, e2, h1, h2⟩ := at_ e (fun z => nomatch z)
      subst e2
      exact ⟨_, ho, k _ M H (Step.refl M H) R ⟨a, xs, rfl, h1, h2⟩⟩
    · cases q
theorem pu_of {d : D} {v : V} {t : PE X e (tC v)} (dq : ∀ M H, Dq X.K M H d v) : PU X e (eK d) := t.imp fun σ H Q ⟨F, M, ρ, av, ρ', R, q, k⟩ => by
  cases q
  exact k v M H (Step.refl M H) R (dq M H)
theorem pu_int {i : Int} {j} : PU X (.Constant (.int i) j pos) (eK (.int i)) := pu_of (t := pe_int) fun _ _ => rfl
theorem pu_bl {i : Bool} {j} : PU X (.Constant (.bool i) j pos) (eK (.bool i)) := pu_of (t := pe_bl) fun _ _ => rfl
theorem pu_non {j} : PU X (.Constant .none j pos) (eK .none) := pu_of (t := pe_non) fun _ _ => rfl
theorem pu_str {i : Str} {j} : PU X (.Constant (.str i) j pos) (eK (.str i)) := pu_of (t := pe_str) fun _ _ => rfl
/-- a module's constant -/
theorem pu_gint {x : Str} {i : Int} (hg : Gl X x) (hm : ∃ t, X.mg x = some (.int i t)) (hd : (x == ("__debug__" : Str)) = false := by decide) : PU X (.Name x pos) (eK (.int i)) := by
  obtain ⟨t, hm⟩ := hm
  exact pu_of (t := pe_glob (v := .int i) hg hm ⟨t, rfl⟩ hd) fun _ _ => rfl
theorem pu_gstr {x : Str} {i : Str} (hg : Gl X x) (hm : ∃ t, X.mg x = some (.str i t)) (hd : (x == ("__debug__" : Str)) = false := by decide) : PU X (.Name x pos) (eK (.str i)) := by
  obtain ⟨t, hm⟩ := hm
  exact pu_of (t := pe_glob (v := .str i) hg hm ⟨t, rfl⟩ hd) fun _ _ => rfl

/-! ### operators -/
def OpD (X : Cx) (f : Value → Value → Sem Value) (op : D → D → Option AV) : Prop := ∃ r : R2, OpR X f r ∧ ∀ (M : Ms) (H : Hp) (d1 d2 : D) (v1 v2 : V) (av : AV) (Q : VK),
  (∀ a, M a → ∃ xs, H a = some (.lst xs)) → Pk X.K M H d1 v1 → Pk X.K M H d2 v2 → op d1 d2 = some av → (∀ v H', ResD X.K M H av v H' → Q v H') → r v1 v2 H Q
def eBin (op : D → D → Option AV) (ea eb : Ev) : Ev := fun ρ => match eNorm ea ρ with
  | none => none
  | some (x, r1) => match eb r1 with
    | none => none
    | some (y, r2) => match peek x r2, peek y r2 with
      | some dx, some dy => (match op dx dy with
        | some av => some (av, r2)
        | none => none)
      | _, _ => none
theorem eBin_inv {op : D → D → Option AV} {ea eb : Ev} {ρ ρ' : Rho} {av : AV} (h : eBin op ea eb ρ = some (av, ρ')) :
    ∃ x r1 y dx dy, eNorm ea ρ = some (x, r1) ∧ eb r1 = some (y, ρ') ∧ peek x ρ' = some dx ∧ peek y ρ' = some dy ∧ op dx dy = some av := by
  unfold eBin at h
  split at h
  · cases h
  · rename_i x r1 h1
    split at h
    · cases h
    · rename_i y r2 h2
      split at h
      · rename_i dx dy h3 h4
        split at h
        · rename_i av' h5
          cases h
          exact ⟨x, r1, y, dx, dy, h1, h2, h3, h4, h5⟩
        · cases h
      · cases h
theorem bin_imp {f : Value → Value → Sem Value} {op : D → D → Option AV} {ea eb : Ev} {r : R2} (ho : ∀ (M : Ms) (H : Hp) (d1 d2 : D) (v1 v2 : V) (av : AV) (Q : VK),
      (∀ a, M a → ∃ xs, H a = some (.lst xs)) → Pk X.K M H d1 v1 → Pk X.K M H d2 v2 → op d1 d2 = some av → (∀ v H', ResD X.K M H av v H' → Q v H') → r v1 v2 H Q)
    (σ : L2.St) (H : Hp) (Q : VK) (h : tU X.K (eBin op ea eb) σ H Q) : tOp r (tU X.K (eNorm ea)) (tU X.K eb) σ H Q := by
  obtain ⟨F, M, ρ, av, ρ', R, q, k⟩ := h
  obtain ⟨x, r1, y, dx, dy, h1, h2, h3, h4, h5⟩ := eBin_inv q
  refine ⟨F, M, ρ, x, r1, R, h1, fun v1 M1 H1 s1 R1 ok1 => ⟨F, M1, r1, y, ρ', R1, h2, fun v2 M2 H2 s2 R2 ok2 => ?_⟩⟩
  refine ho M2 H2 dx dy v1 v2 av Q R2.trk (AvOk.pk R2 (ok1.step s2 (eNorm_new h1)) h3) (AvOk.pk R2 ok2 h4) h5 fun v H3 res => ?_
  obtain ⟨M3, s3, R3, ok3⟩ := R2.fin res
  exact k v M3 H3 ((s1.trans s2).trans s3) R3 ok3
theorem pu_bin {o : Operator} {op : D → D → Option AV} {ea eb : Ev} (ho : OpD X (binaryOp o) op) (ha : PU X a ea) (hb : PU X b eb) : PU X (.BinOp a o b pos) (eBin op ea eb) := by
  obtain ⟨r, hr, h⟩ := ho
  exact (pe_op hr (pu_norm ha) hb).imp fun σ H Q q => bin_imp (f := binaryOp o) h σ H Q q
theorem pu_cmp {o : CmpOp} {op : D → D → Option AV} {ea eb : Ev} (ho : OpD X (compareOp o) op) (ha : PU X a ea) (hb : PU X b eb) (hm : behindInMarks o b = false := by first | exact nomark _ | rfl) : PU X (.Compare a [o] [b] pos) (eBin op ea eb) := by
  obtain ⟨r, hr, h⟩ := ho
  exact (pe_cmpR hr (pu_norm ha) hb hm).imp fun σ H Q q => bin_imp (f := compareOp o) h σ H Q q
/-- a test out of a value that is a truth -/
def eT (ev : Ev) : Et := fun ρ => match ev ρ with
  | some (.val (.bool c), r) => some (c, r)
  | _ => none
theorem eT_inv {ev : Ev} {ρ ρ' : Rho} {c : Bool} (h : eT ev ρ = some (c, ρ')) : ev ρ = some (.val (.bool c), ρ') := by
  unfold eT at h
  split at h
  · rename_i q; cases h; exact q
  · cases h
theorem tst_imp {ev : Ev} {te : TE} (i : ∀ σ H Q, tU X.K ev σ H Q → te σ H Q) (σ : L2.St) (H : Hp) (Q : Bool → Hp → Prop) (h : tB' X.K (eT ev) σ H Q) : te σ H fun x H' => ∃ k, x = .bl k ∧ Q k H' := by
  obtain ⟨F, M, ρ, c, ρ', R, q, k⟩ := h
  exact i σ H _ ⟨F, M, ρ, _, ρ', R, eT_inv q, fun v M' H' s R' ok => ⟨c, ok, k M' H' s R'⟩⟩
theorem put_cmp {o : CmpOp} {op : D → D → Option AV} {ea eb : Ev} (ho : OpD X (compareOp o) op) (ha : PU X a ea) (hb : PU X b eb) (hm : behindInMarks o b = false := by first | exact nomark _ | rfl) : PUT X (.Compare a [o] [b] pos) (eT (eBin op ea eb)) := by
  obtain ⟨r, hr, h⟩ := ho
  exact (pt_cmpR hr (pu_norm ha) hb hm).imp fun σ H Q q => tst_imp (fun σ H Q q => bin_imp (f := compareOp o) h σ H Q q) σ H Q q
theorem put_val {ev : Ev} (h : PU X e ev) (he : ∀ whole, isTrue e X.env whole = (do let v ← whole; standAt e.pos; holding [v] (truthy v)) := by intro _; rfl) : PUT X e (eT ev) :=
  (pt_val h he).imp fun σ H Q q => tst_imp (fun σ H Q q => q) σ H Q q
end
end PV
set_option Elab.async false
set_option linter.all false
set_option autoImplicit false
set_option maxRecDepth 100000
set_option maxHeartbeats 4000000
/-! PVc: operators, truths, displays, places, slices, built-ins. -/
namespace PV
open PySem PySem.Spec PyProof.Rows L2

/-- the length of a list or tuple at most -/
abbrev mxL : Nat := 16777216
theorem mxL_ok {n : Nat} (h : n ≤ mxL) : n ≤ sizeLine := by rw [sizeLine_eq]; exact h

theorem DqAll.nilOf {K : PySem.W.Frag} {M : Ms} {H : Hp} : ∀ {ds : List D}, DqAll K M H ds [] → ds = []
  | [], _ => rfl
  | _ :: _, h => by obtain ⟨v, vs, e, _⟩ := h; cases e
/-! ### operators on data -/
@[simp] def dAdd : D → D → Option AV
  | .int i, .int j => some (.val (.int (i + j)))
  | .list a, .list b => if a.length + b.length ≤ mxL then some (.new (a ++ b)) else none
  | .tuple a, .tuple b => if a.length + b.length ≤ mxL then some (.val (.tuple (a ++ b))) else none
  | .str a, .str b => if a.length + b.length ≤ mxL then some (.val (.str (a ++ b))) else none
  | _, _ => none
@[simp] def dSub : D → D → Option AV
  | .int i, .int j => some (.val (.int (i - j)))
  | _, _ => none
@[simp] def dMul : D → D → Option AV
  | .int i, .int j => if i.natAbs < 2 ^ 4000 ∧ j.natAbs < 2 ^ 4000 then some (.val (.int (i * j))) else none
  | .list a, .int k => if k.natAbs < 4611686018427387904 ∧ a.length * k.toNat ≤ mxL then some (.new (List.replicate k.toNat a).flatten) else none
  | .tuple a, .int k => if a ≠ [] ∧ 2 ≤ k ∧ k.natAbs ≤ 1000 ∧ a.length ≤ 1000 then some (.val (.tuple (List.replicate k.toNat a).flatten)) else none
  | _, _ => none
@[simp] def dFdiv : D → D → Option AV
  | .int i, .int j => if j ≠ 0 ∧ j.natAbs < 1073741824 then some (.val (.int (i.fdiv j))) else none
  | _, _ => none
@[simp] def dMod : D → D → Option AV
  | .int i, .int j => if j ≠ 0 then some (.val (.int (i.fmod j))) else none
  | _, _ => none
@[simp] def dPow : D → D → Option AV
  | .int i, .int j => if 0 ≤ j ∧ j.natAbs ≤ 1000 ∧ i.natAbs < 2 ^ 64 then some (.val (.int (i ^ j.toNat))) else none
  | _, _ => none
section
variable {X : Cx}
theorem od_add : OpD X (binaryOp .Add) dAdd := by
  refine ⟨_, (op_add.or (op_cat.or (op_catA.or op_add_str))), fun M H d1 d2 v1 v2 av Q t p1 p2 h k => ?_⟩
  unfold dAdd at h
  split at h
  · cases h
    exact .inl ⟨_, _, p1.int, p2.int, k _ _ (ResD.val rfl)⟩
  · split at h
    · rename_i hz
      cases h
      obtain ⟨a, xs, rfl, h1, q1⟩ := p1.list
      obtain ⟨b, ys, rfl, h2, q2⟩ := p2.list
      exact .inr (.inl ⟨a, b, xs, ys, rfl, rfl, h1, h2, mxL_ok (by rw [q1.len, q2.len]; exact hz), fun p n => k _ _ (ResD.new n (q1.app q2))⟩)
    · cases h
  · split at h
    · rename_i hz
      cases h
      have w1 := p1.tup
      have w2 := p2.tup
      obtain ⟨a, xs, rfl, h1, q1⟩ := w1.sqT
      obtain ⟨b, ys, rfl, h2, q2⟩ := w2.sqT
      refine .inr (.inr (.inl ⟨a, b, xs, ys, rfl, rfl, h1, h2, mxL_ok (by rw [q1.len, q2.len]; exact hz), fun e => ?_, fun _ e => ?_, fun _ _ p n => k _ _ (ResD.tup n t (q1.app q2))⟩))
      · subst e
        cases q1.nilOf
        exact k _ _ (ResD.val w2)
      · subst e
        cases q2.nilOf
        rw [List.append_nil] at k
        exact k _ _ (ResD.val w1)
    · cases h
  · split at h
    · rename_i hz
      cases h
      exact .inr (.inr (.inr ⟨_, _, p1.str, p2.str, mxL_ok hz, k _ _ (ResD.val rfl)⟩))
    · cases h
  · cases h
theorem od_sub : OpD X (binaryOp .Sub) dSub := by
  refine ⟨_, op_sub, fun M H d1 d2 v1 v2 av Q t p1 p2 h k => ?_⟩
  unfold dSub at h
  split at h
  · cases h
    exact ⟨_, _, p1.int, p2.int, k _ _ (ResD.val rfl)⟩
  · cases h
theorem od_mul : OpD X (binaryOp .Mult) dMul := by
  refine ⟨_, (op_mulW.or (op_rep.or op_repT)), fun M H d1 d2 v1 v2 av Q t p1 p2 h k => ?_⟩
  unfold dMul at h
  split at h
  · split at h
    · rename_i hz
      cases h
      exact .inl ⟨_, _, p1.int, p2.int, wide_mul hz.1 hz.2 (by decide) (by decide) (by decide), k _ _ (ResD.val rfl)⟩
    · cases h
  · split at h
    · rename_i hz
      cases h
      obtain ⟨a, xs, rfl, h1, q1⟩ := p1.list
      have e2 := p2.int
      exact .inr (.inl ⟨a, _, xs, rfl, e2, h1, by omega, by omega, mxL_ok (by rw [q1.len]; exact hz.2), fun p n => k _ _ (ResD.new n (q1.rep _))⟩)
    · cases h
  · split at h
    · rename_i hz
      cases h
      obtain ⟨a, xs, rfl, h1, q1⟩ := p1.tup.sqT
      have e2 := p2.int
      have l1 := q1.len
      refine .inr (.inr ⟨a, _, xs, rfl, e2, h1, fun e => hz.1 ?_, hz.2.1, by have := hz.2.2.1; omega, by rw [l1]; exact hz.2.2.2, fun p n => k _ _ (ResD.tup n t (q1.rep _))⟩)
      subst e
      exact q1.nilOf
    · cases h
  · cases h
theorem od_fdiv : OpD X (binaryOp .FloorDiv) dFdiv := by
  refine ⟨_, op_fdivN, fun M H d1 d2 v1 v2 av Q t p1 p2 h k => ?_⟩
  unfold dFdiv at h
  split at h
  · split at h
    · rename_i hz
      cases h
      exact ⟨_, _, p1.int, p2.int, hz, k _ _ (ResD.val rfl)⟩
    · cases h
  · cases h
theorem od_mod : OpD X (binaryOp .Mod) dMod := by
  refine ⟨_, op_modN, fun M H d1 d2 v1 v2 av Q t p1 p2 h k => ?_⟩
  unfold dMod at h
  split at h
  · split at h
    · rename_i hz
      cases h
      exact ⟨_, _, p1.int, p2.int, hz, k _ _ (ResD.val rfl)⟩
    · cases h
  · cases h
theorem od_pow : OpD X (binaryOp .Pow) dPow := by
  refine ⟨_, op_pow, fun M H d1 d2 v1 v2 av Q t p1 p2 h k => ?_⟩
  unfold dPow at h
  split at h
  · split at h
    · rename_i hz
      cases h
      exact ⟨_, _, p1.int, p2.int, ⟨hz.1, by omega, hz.2.2⟩, k _ _ (ResD.val rfl)⟩
    · cases h
  · cases h

/-! ### comparisons -/
def dEq : D → D → Option AV
  | .str x, .str y => some (.val (.bool (decide (x = y))))
  | a, b => if SeqAt.shaped a = true ∧ SeqAt.shaped b = true then some (.val (.bool (PyData.eqv a b))) else none
def dNe : D → D → Option AV
  | .str x, .str y => some (.val (.bool (!decide (x = y))))
  | a, b => if SeqAt.shaped a = true ∧ SeqAt.shaped b = true then some (.val (.bool (!PyData.eqv a b))) else none
theorem dec_str {x y : Str} : decide (V.str x = V.str y) = decide (x = y) := by
  by_cases h : x = y
  · subst h; simp
  · rw [decide_eq_false h, decide_eq_false (fun z => h (V.str.inj z))]
@[simp] def dLt : D → D → Option AV
  | .int i, .int j => some (.val (.bool (decide (i < j))))
  | _, _ => none
@[simp] def dLe : D → D → Option AV
  | .int i, .int j => some (.val (.bool (decide (i ≤ j))))
  | _, _ => none
@[simp] def dGt : D → D → Option AV
  | .int i, .int j => some (.val (.bool (decide (j < i))))
  | _, _ => none
@[simp] def dGe : D → D → Option AV
  | .int i, .int j => some (.val (.bool (decide (j ≤ i))))
  | _, _ => none
@[simp] def isNone : D → Bool
  | .none => true
  | _ => false
@[simp] def dIs : D → D → Option AV
  | a, .none => some (.val (.bool (isNone a)))
  | .bool a, .bool b => some (.val (.bool (decide (a = b))))
  | _, _ => none
@[simp] def dIsNot : D → D → Option AV
  | a, .none => some (.val (.bool (!isNone a)))
  | .bool a, .bool b => some (.val (.bool (!decide (a = b))))
  | _, _ => none
theorem od_eq (hu : X.A.units + 64 < cLine) : OpD X (compareOp .Eq) dEq := by
  refine ⟨_, op_eq.or (op_eqD hu), fun M H d1 d2 v1 v2 av Q t p1 p2 h k => ?_⟩
  unfold dEq at h
  split at h
  · rename_i x y
    cases h
    have e1 := p1.str
    have e2 := p2.str
    subst e1
    subst e2
    exact .inl ⟨rfl, by rw [dec_str]; exact k _ _ (ResD.val rfl)⟩
  · split at h
    · rename_i hz
      cases h
      exact .inr ⟨_, _, p1.dp, p2.dp, hz.1, hz.2, k _ _ (ResD.val rfl)⟩
    · cases h
theorem od_ne (hu : X.A.units + 64 < cLine) : OpD X (compareOp .NotEq) dNe := by
  refine ⟨_, op_ne.or (op_neD hu), fun M H d1 d2 v1 v2 av Q t p1 p2 h k => ?_⟩
  unfold dNe at h
  split at h
  · rename_i x y
    cases h
    have e1 := p1.str
    have e2 := p2.str
    subst e1
    subst e2
    exact .inl ⟨rfl, by rw [dec_str]; exact k _ _ (ResD.val rfl)⟩
  · split at h
    · rename_i hz
      cases h
      exact .inr ⟨_, _, p1.dp, p2.dp, hz.1, hz.2, k _ _ (ResD.val rfl)⟩
    · cases h
theorem od_lt : OpD X (compareOp .Lt) dLt := by
  refine ⟨_, op_lt, fun M H d1 d2 v1 v2 av Q t p1 p2 h k => ?_⟩
  unfold dLt at h
  split at h
  · cases h; exact ⟨_, _, p1.int, p2.int, k _ _ (ResD.val rfl)⟩
  · cases h
theorem od_le : OpD X (compareOp .LtE) dLe := by
  refine ⟨_, op_le, fun M H d1 d2 v1 v2 av Q t p1 p2 h k => ?_⟩
  unfold dLe at h
  split at h
  · cases h; exact ⟨_, _, p1.int, p2.int, k _ _ (ResD.val rfl)⟩
  · cases h
theorem od_gt : OpD X (compareOp .Gt) dGt := by
  refine ⟨_, op_gt, fun M H d1 d2 v1 v2 av Q t p1 p2 h k => ?_⟩
  unfold dGt at h
  split at h
  · cases h; exact ⟨_, _, p1.int, p2.int, k _ _ (ResD.val rfl)⟩
  · cases h
theorem od_ge : OpD X (compareOp .GtE) dGe := by
  refine ⟨_, op_ge, fun M H d1 d2 v1 v2 av Q t p1 p2 h k => ?_⟩
  unfold dGe at h
  split at h
  · cases h; exact ⟨_, _, p1.int, p2.int, k _ _ (ResD.val rfl)⟩
  · cases h
theorem Dq_isNone {K : PySem.W.Frag} {M : Ms} {H : Hp} {d : D} {v : V} (h : Pk K M H d v) : decide (v = .non) = isNone d := by
  cases d with
  | none => rw [h.non]; rfl
  | bool b => rw [h.bl]; rfl
  | int b => rw [h.int]; rfl
  | str b => rw [h.str]; rfl
  | list b => obtain ⟨a, xs, rfl, _⟩ := h.list; rfl
  | tuple b => obtain ⟨a, xs, rfl, _⟩ := h.tup; rfl
  | dict b =>
    rcases h with h | ⟨_, _, _, e, _⟩
    · exact h.elim
    · cases e
theorem od_is : OpD X (compareOp .Is) dIs := by
  refine ⟨_, op_isN.or op_is_bl, fun M H d1 d2 v1 v2 av Q t p1 p2 h k => ?_⟩
  unfold dIs at h
  split at h
  · cases h; exact .inl ⟨p2.non, by rw [Dq_isNone p1]; exact k _ _ (ResD.val rfl)⟩
  · cases h; exact .inr ⟨_, _, p1.bl, p2.bl, k _ _ (ResD.val rfl)⟩
  · cases h
theorem od_isnot : OpD X (compareOp .IsNot) dIsNot := by
  refine ⟨_, op_notN.or op_isnot_bl, fun M H d1 d2 v1 v2 av Q t p1 p2 h k => ?_⟩
  unfold dIsNot at h
  split at h
  · cases h; exact .inl ⟨p2.non, by rw [Dq_isNone p1]; exact k _ _ (ResD.val rfl)⟩
  · cases h; exact .inr ⟨_, _, p1.bl, p2.bl, k _ _ (ResD.val rfl)⟩
  · cases h

/-! ### truths -/
variable {e a b c : Expr} {pos : Pos} {rest : List Expr} {ea eb : Ev} {ta tb : Et}
def etAnd (ta tb : Et) : Et := fun ρ => match ta ρ with
  | some (true, r) => tb r
  | some (false, r) => some (false, r)
  | none => none
def etOr (ta tb : Et) : Et := fun ρ => match ta ρ with
  | some (true, r) => some (true, r)
  | some (false, r) => tb r
  | none => none
def etNot (ta : Et) : Et := fun ρ => match ta ρ with
  | some (c, r) => some (!c, r)
  | none => none
theorem puw_and1 (ha : PUT X a ta) : PUW X (.BoolOp .And [a] pos) ta := pw_and1 ha
theorem puw_or1 (ha : PUT X a ta) : PUW X (.BoolOp .Or [a] pos) ta := pw_or1 ha
theorem puw_and (ha : PUT X a ta) (hb : PUW X (.BoolOp .And (b :: rest) pos) tb) : PUW X (.BoolOp .And (a :: b :: rest) pos) (etAnd ta tb) :=
  (pw_and ha hb).imp fun σ H Q ⟨F, M, ρ, c, ρ', R, q, k⟩ => by
    unfold etAnd at q
    split at q
    · rename_i r h1
      exact ⟨F, M, ρ, _, r, R, h1, fun M' H' s R' => iteT ⟨F, M', r, _, ρ', R', q, fun M2 H2 s2 R2 => k M2 H2 (s.trans s2) R2⟩⟩
    · rename_i r h1
      cases q
      exact ⟨F, M, ρ, _, _, R, h1, fun M' H' s R' => iteF (k M' H' s R')⟩
    · cases q
theorem puw_or (ha : PUT X a ta) (hb : PUW X (.BoolOp .Or (b :: rest) pos) tb) : PUW X (.BoolOp .Or (a :: b :: rest) pos) (etOr ta tb) :=
  (pw_or ha hb).imp fun σ H Q ⟨F, M, ρ, c, ρ', R, q, k⟩ => by
    unfold etOr at q
    split at q
    · rename_i r h1
      cases q
      exact ⟨F, M, ρ, _, _, R, h1, fun M' H' s R' => iteT (k M' H' s R')⟩
    · rename_i r h1
      exact ⟨F, M, ρ, _, r, R, h1, fun M' H' s R' => iteF ⟨F, M', r, _, ρ', R', q, fun M2 H2 s2 R2 => k M2 H2 (s.trans s2) R2⟩⟩
    · cases q
theorem put_w (h : PUW X e ta) : PUT X e ta := PW.pt h
theorem put_not (ha : PUT X a ta) : PUT X (.UnaryOp .Not a pos) (etNot ta) :=
  (pt_not ha).imp fun σ H Q ⟨F, M, ρ, c, ρ', R, q, k⟩ => by
    unfold etNot at q
    split at q
    · rename_i c r h1
      cases q
      exact ⟨F, M, ρ, _, _, R, h1, fun M' H' s R' => k M' H' s R'⟩
    · cases q
/-- .. as values -/
def eAnd (ea eb : Ev) : Ev := fun ρ => match ea ρ with
  | some (.val (.bool c), r) => if c then eb r else some (.val (.bool false), r)
  | _ => none
def eOr (ea eb : Ev) : Ev := fun ρ => match ea ρ with
  | some (.val (.bool c), r) => if c then some (.val (.bool true), r) else eb r
  | _ => none
def eNot (ea : Ev) : Ev := fun ρ => match ea ρ with
  | some (.val (.bool c), r) => some (.val (.bool (!c)), r)
  | _ => none
theorem pu_one {op} (h : PU X a ea) : PU X (.BoolOp op [a] pos) ea := pe_one h
theorem pu_and (ha : PU X a ea) (hb : PU X (.BoolOp .And (b :: rest) pos) eb) : PU X (.BoolOp .And (a :: b :: rest) pos) (eAnd ea eb) :=
  (pe_and ha hb).imp fun σ H Q ⟨F, M, ρ, av, ρ', R, q, k⟩ => by
    unfold eAnd at q
    split at q
    · rename_i c r h1
      refine ⟨F, M, ρ, _, r, R, h1, fun v M' H' s R' ok => ⟨c, ok, ?_⟩⟩
      cases c with
      | true => exact iteT ⟨F, M', r, av, ρ', R', q, fun v2 M2 H2 s2 R2 ok2 => k v2 M2 H2 (s.trans s2) R2 ok2⟩
      | false => cases q; exact iteF (k _ M' H' s R' rfl)
    · cases q
theorem pu_or (ha : PU X a ea) (hb : PU X (.BoolOp .Or (b :: rest) pos) eb) : PU X (.BoolOp .Or (a :: b :: rest) pos) (eOr ea eb) :=
  (pe_or ha hb).imp fun σ H Q ⟨F, M, ρ, av, ρ', R, q, k⟩ => by
    unfold eOr at q
    split at q
    · rename_i c r h1
      refine ⟨F, M, ρ, _, r, R, h1, fun v M' H' s R' ok => ⟨c, ok, ?_⟩⟩
      cases c with
      | false => exact iteF ⟨F, M', r, av, ρ', R', q, fun v2 M2 H2 s2 R2 ok2 => k v2 M2 H2 (s.trans s2) R2 ok2⟩
      | true => cases q; exact iteT (k _ M' H' s R' rfl)
    · cases q
theorem pu_not (ha : PU X a ea) : PU X (.UnaryOp .Not a pos) (eNot ea) :=
  (pe_not ha).imp fun σ H Q ⟨F, M, ρ, av, ρ', R, q, k⟩ => by
    unfold eNot at q
    split at q
    · rename_i c r h1
      cases q
      exact ⟨F, M, ρ, _, _, R, h1, fun v M' H' s R' ok => ⟨c, ok, k _ M' H' s R' rfl⟩⟩
    · cases q
def eIf (tc : Et) (ea eb : Ev) : Ev := fun ρ => match tc ρ with
  | some (true, r) => ea r
  | some (false, r) => eb r
  | none => none
theorem pu_if {tc : Et} (hc : PUT X c tc) (ha : PU X a ea) (hb : PU X b eb) : PU X (.IfExp c a b pos) (eIf tc ea eb) :=
  (pe_ifExp hc ha hb).imp fun σ H Q ⟨F, M, ρ, av, ρ', R, q, k⟩ => by
    unfold eIf at q
    split at q
    · rename_i r h1
      exact ⟨F, M, ρ, _, r, R, h1, fun M' H' s R' => iteT ⟨F, M', r, av, ρ', R', q, fun v2 M2 H2 s2 R2 ok2 => k v2 M2 H2 (s.trans s2) R2 ok2⟩⟩
    · rename_i r h1
      exact ⟨F, M, ρ, _, r, R, h1, fun M' H' s R' => iteF ⟨F, M', r, av, ρ', R', q, fun v2 M2 H2 s2 R2 ok2 => k v2 M2 H2 (s.trans s2) R2 ok2⟩⟩
    · cases q
def eNeg (ea : Ev) : Ev := fun ρ => match ea ρ with
  | some (.val (.int i), r) => some (.val (.int (-i)), r)
  | _ => none
theorem pu_neg (ha : PU X a ea) : PU X (.UnaryOp .USub a pos) (eNeg ea) :=
  (pe_un un_neg ha).imp fun σ H Q ⟨F, M, ρ, av, ρ', R, q, k⟩ => by
    unfold eNeg at q
    split at q
    · rename_i i r h1
      cases q
      exact ⟨F, M, ρ, _, _, R, h1, fun v M' H' s R' ok => ⟨i, ok, k _ M' H' s R' rfl⟩⟩
    · cases q

/-! ### a op b op' c -/
def eChain (op op' : D → D → Option AV) (ea eb ec : Ev) : Ev := fun ρ => match eNorm ea ρ with
  | none => none
  | some (x, r1) => match eNorm eb r1 with
    | none => none
    | some (y, r2) => match peek x r2, peek y r2 with
      | some dx, some dy => (match op dx dy with
        | some (.val (.bool true)) => (match ec r2 with
          | some (z, r3) => (match peek y r3, peek z r3 with
            | some dy', some dz => (match op' dy' dz with
              | some (.val (.bool k)) => some (.val (.bool k), r3)
              | _ => none)
            | _, _ => none)
          | none => none)
        | some (.val (.bool false)) => some (.val (.bool false), r2)
        | _ => none)
      | _, _ => none
theorem chain_imp {f f' : Value → Value → Sem Value} {op op' : D → D → Option AV} {ec : Ev} {r r' : R2}
    (ho : ∀ (M : Ms) (H : Hp) (d1 d2 : D) (v1 v2 : V) (av : AV) (Q : VK),
      (∀ a, M a → ∃ xs, H a = some (.lst xs)) → Pk X.K M H d1 v1 → Pk X.K M H d2 v2 → op d1 d2 = some av → (∀ v H', ResD X.K M H av v H' → Q v H') → r v1 v2 H Q)
    (ho' : ∀ (M : Ms) (H : Hp) (d1 d2 : D) (v1 v2 : V) (av : AV) (Q : VK),
      (∀ a, M a → ∃ xs, H a = some (.lst xs)) → Pk X.K M H d1 v1 → Pk X.K M H d2 v2 → op' d1 d2 = some av → (∀ v H', ResD X.K M H av v H' → Q v H') → r' v1 v2 H Q)
    (σ : L2.St) (H : Hp) (Q : VK) (h : tU X.K (eChain op op' ea eb ec) σ H Q) : tChain r r' (tU X.K (eNorm ea)) (tU X.K (eNorm eb)) (tU X.K ec) σ H Q := by
  obtain ⟨F, M, ρ, av, ρ', R, q, k⟩ := h
  unfold eChain at q
  split at q
  · cases q
  · rename_i x r1 h1
    split at q
    · cases q
    · rename_i y r2 h2
      split at q
      · rename_i dx dy p1 p2
        refine ⟨F, M, ρ, x, r1, R, h1, fun v1 M1 H1 s1 R1 ok1 => ⟨F, M1, r1, y, r2, R1, h2, fun v2 M2 H2 s2 R2 ok2 => ?_⟩⟩
        split at q
        · rename_i o1
          refine ho M2 H2 dx dy v1 v2 _ _ R2.trk (AvOk.pk R2 (ok1.step s2 (eNorm_new h1)) p1) (AvOk.pk R2 ok2 p2) o1 fun v H3 res => ?_
          obtain ⟨g, res⟩ := res
          refine ⟨true, res, iteT ?_⟩
          split at q
          · rename_i z r3 h3
            split at q
            · rename_i dy' dz p3 p4
              split at q
              · rename_i kk o2
                cases q
                refine ⟨F, M2, r2, z, _, R2.grow g, h3, fun v3 M3 H4 s3 R3 ok3 => ?_⟩
                refine ho' M3 H4 dy' dz v2 v3 _ _ R3.trk (AvOk.pk R3 (ok2.step ((Step.gr g).trans s3) (eNorm_new h2)) p3) (AvOk.pk R3 ok3 p4) o2 fun v H5 res => ?_
                obtain ⟨M4, s4, R4, ok4⟩ := R3.fin res
                exact k v M4 H5 (((s1.trans s2).trans ((Step.gr g).trans s3)).trans s4) R4 ok4
              · cases q
            · cases q
          · cases q
        · rename_i o1
          cases q
          refine ho M2 H2 dx dy v1 v2 _ _ R2.trk (AvOk.pk R2 (ok1.step s2 (eNorm_new h1)) p1) (AvOk.pk R2 ok2 p2) o1 fun v H3 res => ?_
          obtain ⟨g, res⟩ := res
          exact ⟨false, res, iteF (k _ M2 H3 ((s1.trans s2).trans (Step.gr g)) (R2.grow g) rfl)⟩
        · cases q
      · cases q
theorem pu_chain {o o' : CmpOp} {op op' : D → D → Option AV} {ec : Ev} (ho : OpD X (compareOp o) op) (ho' : OpD X (compareOp o') op') (ha : PU X a ea) (hb : PU X b eb) (hc : PU X c ec)
    (hm : lastMarks [o, o'] [b, c] = false := by with_unfolding_all rfl) : PU X (.Compare a [o, o'] [b, c] pos) (eChain op op' ea eb ec) := by
  obtain ⟨r, hr, h⟩ := ho
  obtain ⟨r', hr', h'⟩ := ho'
  exact (pe_chain hr hr' (pu_norm ha) (pu_norm hb) hc hm).imp fun σ H Q q => chain_imp (f := compareOp o) (f' := compareOp o') h h' σ H Q q
theorem put_chain {o o' : CmpOp} {op op' : D → D → Option AV} {ec : Ev} (ho : OpD X (compareOp o) op) (ho' : OpD X (compareOp o') op') (ha : PU X a ea) (hb : PU X b eb) (hc : PU X c ec)
    (hm : lastMarks [o, o'] [b, c] = false := by with_unfolding_all rfl) : PUT X (.Compare a [o, o'] [b, c] pos) (eT (eChain op op' ea eb ec)) := by
  obtain ⟨r, hr, h⟩ := ho
  obtain ⟨r', hr', h'⟩ := ho'
  exact (pt_chain hr hr' (pu_norm ha) (pu_norm hb) hc hm).imp fun σ H Q q => tst_imp (fun σ H Q q => chain_imp (f := compareOp o) (f' := compareOp o') h h' σ H Q q) σ H Q q

/-! ### lists of arguments -/
abbrev Ea := Rho → Option (List AV × Rho)
def AvsOk (K : PySem.W.Frag) (F : Fx) (M : Ms) (H : Hp) (σ : L2.St) (ρ : Rho) (vs : List V) (avs : List AV) : Prop := Paired (fun v av => AvOk K F M H σ ρ v av ∧ ∀ ds, av ≠ .new ds) vs avs
def tUA (K : PySem.W.Frag) (ev : Ea) : TA := fun σ H Q => ∃ F M ρ avs ρ', Rel K F M σ H ρ ∧ ev ρ = some (avs, ρ') ∧
  ∀ vs M' H', Step M H M' H' → Rel K F M' σ H' ρ' → AvsOk K F M' H' σ ρ' vs avs → Q vs H'
abbrev PUA (X : Cx) (es : List Expr) (ea : Ea) : Prop := PA X es (tUA X.K ea)
theorem _root_.L2.PA.imp {es : List Expr} {t t' : TA} (h : PA X es t) (i : ∀ σ H Q, t' σ H Q → t σ H Q) : PA X es t' := ⟨fun pos pins s σ H Q I q => h.run pos pins s σ H Q I (i σ H Q q)⟩
def aNil : Ea := fun ρ => some ([], ρ)
def aCons (ev : Ev) (ea : Ea) : Ea := fun ρ => match eNorm ev ρ with
  | some (x, r1) => (match ea r1 with
    | some (xs, r2) => some (x :: xs, r2)
    | none => none)
  | none => none
@[simp] def starD : D → Option (List D)
  | .tuple ds => some ds
  | .list ds => some ds
  | _ => none
def aStar (ev : Ev) (ea : Ea) : Ea := fun ρ => match eNorm ev ρ with
  | some (x, r1) => (match (peekR x r1).bind starD with
    | some ds => (match ea r1 with
      | some (xs, r2) => some (ds.map AV.val ++ xs, r2)
      | none => none)
    | none => none)
  | none => none
theorem pua_nil : PUA X [] aNil := pa_nil.imp fun σ H Q ⟨F, M, ρ, avs, ρ', R, q, k⟩ => by
  cases q
  exact k [] M H (Step.refl M H) R .nil
theorem AvsOk.step {K : PySem.W.Frag} {F : Fx} {M M' : Ms} {H H' : Hp} {σ : L2.St} {ρ ρ' : Rho} {vs : List V} {avs : List AV} (h : AvsOk K F M H σ ρ vs avs) (s : Step M H M' H') : AvsOk K F M' H' σ ρ' vs avs :=
  Paired.mapP h fun _ _ ⟨q, n⟩ => ⟨q.step s n, n⟩
theorem pua_cons {es : List Expr} {ev : Ev} {ee : Ea} (ha : PU X e ev) (hr : PUA X es ee) (hs : starEach (e :: es) X.env = (false, eval e X.env) :: starEach es X.env := by rfl) : PUA X (e :: es) (aCons ev ee) :=
  (pa_cons (pu_norm ha) hr hs).imp fun σ H Q ⟨F, M, ρ, avs, ρ', R, q, k⟩ => by
    unfold aCons at q
    split at q
    · rename_i x r1 h1
      split at q
      · rename_i xs r2 h2
        cases q
        refine ⟨F, M, ρ, x, r1, R, h1, fun v M1 H1 s1 R1 ok1 => ⟨F, M1, r1, xs, _, R1, h2, fun vs M2 H2 s2 R2 ok2 => ?_⟩⟩
        exact k _ M2 H2 (s1.trans s2) R2 (.cons ⟨ok1.step s2 (eNorm_new h1), eNorm_new h1⟩ ok2)
      · cases q
    · cases q
theorem AvsOk.vals {K : PySem.W.Frag} {F : Fx} {M : Ms} {H : Hp} {σ : L2.St} {ρ : Rho} : ∀ {ds : List D} {vs : List V}, DqAll K M H ds vs → AvsOk K F M H σ ρ vs (ds.map AV.val)
  | [], vs, h => by cases h; exact .nil
  | d :: ds, vs, h => by
    obtain ⟨v, us, e, h1, h2⟩ := h
    subst e
    exact .cons ⟨h1, fun _ z => nomatch z⟩ (AvsOk.vals h2)
theorem AvsOk.app {K : PySem.W.Frag} {F : Fx} {M : Ms} {H : Hp} {σ : L2.St} {ρ : Rho} : ∀ {as bs : List AV} {vs us : List V}, AvsOk K F M H σ ρ vs as → AvsOk K F M H σ ρ us bs → AvsOk K F M H σ ρ (vs ++ us) (as ++ bs)
  | _, _, _, _, .nil, h => h
  | _, _, _, _, .cons h t, g => .cons h (AvsOk.app t g)
theorem pua_star {es : List Expr} {ev : Ev} {ee : Ea} {p : Pos} (ha : PU X e ev) (hr : PUA X es ee) (hs : starEach (.Starred e p :: es) X.env = (true, eval e X.env) :: starEach es X.env := by rfl) : PUA X (.Starred e p :: es) (aStar ev ee) :=
  (StX.pa_star (pu_norm ha) hr hs).imp fun σ H Q ⟨F, M, ρ, avs, ρ', R, q, k⟩ => by
    unfold aStar at q
    split at q
    · rename_i x r1 h1
      split at q
      · rename_i ds hd
        split at q
        · rename_i xs r2 h2
          cases q
          obtain ⟨d, hd1, hd2⟩ := Option.bind_eq_some_iff.mp hd
          refine ⟨F, M, ρ, x, r1, R, h1, fun v M1 H1 s1 R1 ok1 => ?_⟩
          have pk := AvOk.pkR R1 ok1 hd1
          have fin : ∀ ys : List V, DqAll X.K M1 H1 ds ys → ∀ vs M2 H2, Step M1 H1 M2 H2 → Rel X.K F M2 σ H2 ρ' → AvsOk X.K F M2 H2 σ ρ' vs xs → Q (ys ++ vs) H2 := fun ys dq vs M2 H2 s2 R2 ok2 =>
            k _ M2 H2 (s1.trans s2) R2 ((AvsOk.vals (DqAll.step s2 ds ys dq)).app ok2)
          cases d with
          | tuple es' =>
            cases hd2
            obtain ⟨a, ys, e2, hq, dq⟩ := (pk.pk (fun _ z => nomatch z)).tup.sqT
            exact ⟨a, ys, e2, .inl hq, F, M1, r1, xs, _, R1, h2, fin ys dq⟩
          | list es' =>
            cases hd2
            obtain ⟨a, ys, e2, hq, dq⟩ := pk.list
            exact ⟨a, ys, e2, .inr hq, F, M1, r1, xs, _, R1, h2, fin ys dq⟩
          | none => cases hd2
          | bool _ => cases hd2
          | int _ => cases hd2
          | str _ => cases hd2
          | dict _ => cases hd2
        · cases q
      · cases q
    · cases q
/-- all are values -/
@[simp] def valsOf : List AV → Option (List D)
  | [] => some []
  | .val d :: r => (match valsOf r with
    | some ds => some (d :: ds)
    | none => none)
  | _ :: _ => none
theorem valsOf_ok {K : PySem.W.Frag} {F : Fx} {M : Ms} {H : Hp} {σ : L2.St} {ρ : Rho} : ∀ {avs : List AV} {ds : List D} {vs : List V}, valsOf avs = some ds → AvsOk K F M H σ ρ vs avs → DqAll K M H ds vs
  | [], ds, vs, e, h => by cases e; cases h; rfl
  | .val d :: r, ds, vs, e, h => by
    unfold valsOf at e
    split at e
    · rename_i es q
      cases e
      cases h with
      | cons h t => exact ⟨_, _, rfl, h.1, valsOf_ok q t⟩
    · cases e
  | .ref _ :: r, ds, vs, e, h => by cases e
  | .new _ :: r, ds, vs, e, h => by cases e
  | .rd _ :: r, ds, vs, e, h => by cases e
def eTup (ea : Ea) : Ev := fun ρ => match ea ρ with
  | some (avs, r) => (match valsOf avs with
    | some ds => if ds.length ≤ mxL then some (.val (.tuple ds), r) else none
    | none => none)
  | none => none
def eLst (ea : Ea) : Ev := fun ρ => match ea ρ with
  | some (avs, r) => (match valsOf avs with
    | some ds => if ds.length ≤ mxL then some (.new ds, r) else none
    | none => none)
  | none => none
theorem pu_tup {es : List Expr} {ee : Ea} {x1} (h : PUA X es ee) : PU X (.Tuple es x1 pos) (eTup ee) :=
  (pe_tup h).imp fun σ H Q ⟨F, M, ρ, av, ρ', R, q, k⟩ => by
    unfold eTup at q
    split at q
    · rename_i avs r h1
      split at q
      · rename_i ds h2
        split at q
        · rename_i hz
          cases q
          refine ⟨F, M, ρ, avs, _, R, h1, fun vs M1 H1 s1 R1 ok1 => ?_⟩
          have dq := valsOf_ok h2 ok1
          refine ⟨mxL_ok (by rw [dq.len]; exact hz), fun p n => ?_⟩
          obtain ⟨M2, s2, R2, ok2⟩ := R1.fin (ResD.tup n R1.trk dq)
          exact k _ M2 _ (s1.trans s2) R2 ok2
        · cases q
      · cases q
    · cases q
theorem pu_lst {es : List Expr} {ee : Ea} (h : PUA X es ee) : PU X (.List es pos) (eLst ee) :=
  (pe_lst h).imp fun σ H Q ⟨F, M, ρ, av, ρ', R, q, k⟩ => by
    unfold eLst at q
    split at q
    · rename_i avs r h1
      split at q
      · rename_i ds h2
        split at q
        · rename_i hz
          cases q
          refine ⟨F, M, ρ, avs, _, R, h1, fun vs M1 H1 s1 R1 ok1 => ?_⟩
          have dq := valsOf_ok h2 ok1
          refine ⟨mxL_ok (by rw [dq.len]; exact hz), fun p n => ?_⟩
          obtain ⟨M2, s2, R2, ok2⟩ := R1.fin (ResD.new n dq)
          exact k _ M2 _ (s1.trans s2) R2 ok2
        · cases q
      · cases q
    · cases q
end
end PV
set_option Elab.async false
set_option linter.all false
set_option autoImplicit false
set_option maxRecDepth 100000
set_option maxHeartbeats 4000000
/-! PVd: places, slices, built-ins by name, methods. -/
namespace PV
open PySem PySem.Spec PyProof.Rows L2

section
variable {X : Cx} {e a b c : Expr} {pos p2 : Pos} {ea eb : Ev}
/-! ### x[i] -/
@[simp] def dIx : D → D → Option D
  | .list ds, .int i => atI ds i
  | .tuple ds, .int i => atI ds i
  | .str z, .int i => if z.length ≤ mxL then (match atI z.cps.toList i with
    | some c => some (.str ⟨#[c]⟩)
    | none => none) else none
  | _, _ => none
def eIx (ea eb : Ev) : Ev := fun ρ => match eNorm ea ρ with
  | none => none
  | some (x, r1) => match eb r1 with
    | none => none
    | some (y, r2) => match peekR x r2, peek y r2 with
      | some dx, some dy => (match dIx dx dy with
        | some d => some (.val d, r2)
        | none => none)
      | _, _ => none
theorem DqAll.atI {K : PySem.W.Frag} {M : Ms} {H : Hp} {ds : List D} {xs : List V} {i : Int} {d : D} (h : DqAll K M H ds xs) (e : L2.atI ds i = some d) : ∃ v, L2.atI xs i = some v ∧ Dq K M H d v := by
  unfold L2.atI at e ⊢
  rw [h.len]
  obtain ⟨j, h1, h2⟩ := Option.bind_eq_some_iff.mp e
  obtain ⟨v, q1, q2⟩ := h.get h2
  exact ⟨v, by rw [h1]; exact q1, q2⟩
theorem pu_ix (ha : PU X a ea) (hb : PU X b eb) (hs : PlainIx b := by exact fun _ _ => rfl) : PU X (.Subscript a b pos) (eIx ea eb) :=
  (pe_ix ix_seq (pu_norm ha) hb hs).imp fun σ H Q ⟨F, M, ρ, av, ρ', R, q, k⟩ => by
    unfold eIx at q
    split at q
    · cases q
    · rename_i x r1 h1
      split at q
      · cases q
      · rename_i y r2 h2
        split at q
        · rename_i dx dy p1 p2
          split at q
          · rename_i d h3
            cases q
            refine ⟨F, M, ρ, x, r1, R, h1, fun v1 M1 H1 s1 R1 ok1 => ⟨F, M1, r1, y, _, R1, h2, fun v2 M2 H2 s2 R2 ok2 => ?_⟩⟩
            have w1 := AvOk.pkR R2 (ok1.step (ρ' := ρ') s2 (eNorm_new h1)) p1
            have w2 := AvOk.pk R2 ok2 p2
            have fin : ∀ v, Dq X.K M2 H2 d v → Q v H2 := fun v dq => k v M2 H2 (s1.trans s2) R2 dq
            unfold dIx at h3
            split at h3
            · obtain ⟨p, xs, rfl, l1, l2⟩ := w1.list
              obtain ⟨v, q1, q2⟩ := DqAll.atI l2 h3
              exact .inl ⟨p, xs, _, v, rfl, w2.int, l1, q1, fin v q2⟩
            · obtain ⟨p, xs, rfl, l1, l2⟩ := (w1.pk (fun _ z => nomatch z)).tup.sqT
              obtain ⟨v, q1, q2⟩ := DqAll.atI l2 h3
              exact .inr (.inl ⟨p, xs, _, v, rfl, w2.int, l1, q1, fin v q2⟩)
            · split at h3
              · rename_i hz
                split at h3
                · rename_i c hc
                  cases h3
                  exact .inr (.inr ⟨_, _, c, (w1.pk (fun _ z => nomatch z)).str, w2.int, mxL_ok hz, hc, fin _ rfl⟩)
                · cases h3
              · cases h3
            · cases h3
          · cases q
        · cases q

/-! ### x[lo:hi] -/
@[simp] def ePart : Option Ev → Rho → Option (Option Int × Rho)
  | none, ρ => some (none, ρ)
  | some ev, ρ => match ev ρ with
    | some (.val (.int i), r) => some (some i, r)
    | _ => none
def tUO (K : PySem.W.Frag) (ep : Option Ev) : TO := fun σ H Q => ∃ F M ρ o ρ', Rel K F M σ H ρ ∧ ePart ep ρ = some (o, ρ') ∧ ∀ M' H', Step M H M' H' → Rel K F M' σ H' ρ' → Q o H'
abbrev PUO (X : Cx) (e : Option Expr) (ep : Option Ev) : Prop := PO X e (tUO X.K ep)
theorem PO.imp' {e : Option Expr} {t t' : TO} (h : PO X e t) (i : ∀ σ H Q, t' σ H Q → t σ H Q) : PO X e t' := ⟨fun pins s σ H Q I q => h.run pins s σ H Q I (i σ H Q q)⟩
theorem puo_none : PUO X none none := PO.imp' po_none fun σ H Q ⟨F, M, ρ, o, ρ', R, q, k⟩ => by
  cases q
  exact k M H (Step.refl M H) R
theorem puo_some (h : PU X e ea) : PUO X (some e) (some ea) := PO.imp' (po_some h) fun σ H Q ⟨F, M, ρ, o, ρ', R, q, k⟩ => by
  unfold ePart at q
  split at q
  · rename_i q'; cases q'
  · rename_i q'
    cases q'
    split at q
    · rename_i i r h1
      cases q
      exact ⟨F, M, _, _, _, R, h1, fun v M' H' s R' ok => ⟨_, ok, k M' H' s R'⟩⟩
    · cases q
def cutD (ds : List D) (lo hi : Option Int) : List D := (ds.drop (HT.sIx ds.length 0 lo)).take (HT.sIx ds.length ds.length hi - HT.sIx ds.length 0 lo)
theorem DqAll.cut {K : PySem.W.Frag} {M : Ms} {H : Hp} {ds : List D} {xs : List V} (h : DqAll K M H ds xs) (lo hi : Option Int) : DqAll K M H (cutD ds lo hi) (cutV xs lo hi) := by
  unfold cutD cutV
  rw [h.len]
  exact (h.drop _).take _
@[simp] def dSl : D → Option Int → Option Int → Option AV
  | .list ds, lo, hi => some (.new (cutD ds lo hi))
  | .tuple ds, lo, hi => some (.val (.tuple (cutD ds lo hi)))
  | .str z, lo, hi => if z.length ≤ mxL then some (.val (.str (cutS z lo hi))) else none
  | _, _, _ => none
def eSl (ea : Ev) (lo hi : Option Ev) : Ev := fun ρ => match eNorm ea ρ with
  | none => none
  | some (x, r1) => match ePart lo r1 with
    | none => none
    | some (l, r2) => match ePart hi r2 with
      | none => none
      | some (u, r3) => match peekR x r3 with
        | some d => (match dSl d l u with
          | some av => some (av, r3)
          | none => none)
        | none => none
theorem cut_whole {α : Type} {xs : List α} {i j : Nat} (h1 : i = 0) (h2 : j = xs.length) : (xs.drop i).take (j - i) = xs := by
  subst h1 h2
  simp
theorem pu_sl {lo hi : Option Expr} {el eh : Option Ev} (ha : PU X a ea) (hl : PUO X lo el) (hh : PUO X hi eh) : PU X (.Subscript a (.Slice lo hi none p2) pos) (eSl ea el eh) :=
  (pe_slice (sl_list.or (sl_tupA.or sl_str)) (pu_norm ha) hl hh).imp fun σ H Q ⟨F, M, ρ, av, ρ', R, q, k⟩ => by
    unfold eSl at q
    split at q
    · cases q
    · rename_i x r1 h1
      split at q
      · cases q
      · rename_i l r2 h2
        split at q
        · cases q
        · rename_i u r3 h3
          split at q
          · rename_i d p1
            split at q
            · rename_i av' h4
              cases q
              refine ⟨F, M, ρ, x, r1, R, h1, fun v1 M1 H1 s1 R1 ok1 => ⟨F, M1, r1, l, r2, R1, h2, fun M2 H2 s2 R2 => ⟨F, M2, r2, u, _, R2, h3, fun M3 H3 s3 R3 => ?_⟩⟩⟩
              have w1 := AvOk.pkR R3 (ok1.step (ρ' := ρ') (s2.trans s3) (eNorm_new h1)) p1
              have fin : ∀ v H4, ResD X.K M3 H3 av v H4 → Q v H4 := fun v H4 res => by
                obtain ⟨M4, s4, R4, ok4⟩ := R3.fin res
                exact k v M4 H4 ((s1.trans (s2.trans s3)).trans s4) R4 ok4
              unfold dSl at h4
              split at h4
              · cases h4
                obtain ⟨p, xs, rfl, l1, l2⟩ := w1.list
                exact .inl ⟨p, xs, rfl, l1, fun q n => fin _ _ (ResD.new n (l2.cut _ _))⟩
              · cases h4
                have w2 := (w1.pk (fun _ z => nomatch z)).tup
                obtain ⟨p, xs, rfl, l1, l2⟩ := w2.sqT
                refine .inr (.inl ⟨p, xs, rfl, l1, fun ⟨z1, z2⟩ => ?_, fun _ q n => fin _ _ (ResD.tup n R3.trk (l2.cut _ _))⟩)
                have e : cutD ‹List D› l u = ‹List D› := by
                  unfold cutD
                  rw [l2.len] at z1 z2
                  exact cut_whole z1 z2
                rw [e] at fin
                exact fin _ _ (ResD.val w2)
              · split at h4
                · rename_i hz
                  cases h4
                  exact .inr (.inr ⟨_, (w1.pk (fun _ z => nomatch z)).str, mxL_ok hz, fin _ _ (ResD.val rfl)⟩)
                · cases h4
              · cases h4
            · cases q
          · cases q

/-! ### built-ins called by name -/
def PkAll (K : PySem.W.Frag) (M : Ms) (H : Hp) (vs : List V) (ds : List D) : Prop := Paired (fun v d => PkR K M H d v) vs ds
def CallD (X : Cx) (f : Value) (m : List D → Option AV) : Prop := ∃ r, CallR X f r ∧ ∀ (M : Ms) (H : Hp) (ds : List D) (vs : List V) (av : AV) (Q : VK),
  (∀ a, M a → ∃ xs, H a = some (.lst xs)) → PkAll X.K M H vs ds → m ds = some av → (∀ v H', ResD X.K M H av v H' → Q v H') → r vs H Q
@[simp] def peekAll : List AV → Rho → Option (List D)
  | [], _ => some []
  | av :: r, ρ => match peekR av ρ with
    | some d => (match peekAll r ρ with
      | some ds => some (d :: ds)
      | none => none)
    | none => none
theorem peekAll_ok {K : PySem.W.Frag} {F : Fx} {M : Ms} {H : Hp} {σ : L2.St} {ρ : Rho} (R : Rel K F M σ H ρ) : ∀ {avs : List AV} {ds : List D} {vs : List V}, peekAll avs ρ = some ds → AvsOk K F M H σ ρ vs avs → PkAll K M H vs ds
  | [], ds, vs, e, h => by cases e; cases h; exact .nil
  | av :: r, ds, vs, e, h => by
    unfold peekAll at e
    split at e
    · rename_i d q1
      split at e
      · rename_i es q2
        cases e
        cases h with
        | cons h t => exact .cons (AvOk.pkR R h.1 q1) (peekAll_ok R q2 t)
      · cases e
    · cases e
def eCall (m : List D → Option AV) (ea : Ea) : Ev := fun ρ => match ea ρ with
  | none => none
  | some (avs, r) => match peekAll avs r with
    | none => none
    | some ds => match m ds with
      | none => none
      | some av => some (av, r)
theorem call_imp {f : Value} {m : List D → Option AV} {ea : Ea} {r : List V → Hp → VK → Prop} (hr : ∀ (M : Ms) (H : Hp) (ds : List D) (vs : List V) (av : AV) (Q : VK),
      (∀ a, M a → ∃ xs, H a = some (.lst xs)) → PkAll X.K M H vs ds → m ds = some av → (∀ v H', ResD X.K M H av v H' → Q v H') → r vs H Q)
    (σ : L2.St) (H : Hp) (Q : VK) (h : tU X.K (eCall m ea) σ H Q) : tCB r (tUA X.K ea) σ H Q := by
  obtain ⟨F, M, ρ, av, ρ', R, q, k⟩ := h
  unfold eCall at q
  split at q
  · cases q
  · rename_i avs r1 h1
    split at q
    · cases q
    · rename_i ds h2
      split at q
      · cases q
      · rename_i av' h3
        cases q
        refine ⟨F, M, ρ, avs, _, R, h1, fun vs M1 H1 s1 R1 ok1 => ?_⟩
        refine hr M1 H1 ds vs _ Q R1.trk (peekAll_ok R1 h2 ok1) h3 fun v H2 res => ?_
        obtain ⟨M2, s2, R2, ok2⟩ := R1.fin res
        exact k v M2 H2 (s1.trans s2) R2 ok2
theorem pu_callB {id : String} {x : Str} {m : List D → Option AV} {es : List Expr} {ee : Ea} {p : Pos} (hc : CallD X (.builtin id) m) (hg : Gl X x) (hm : X.mg x = none) (hv : bootBuiltins x = some (.builtin id)) (ha : PUA X (e :: es) ee)
    (hn : x ≠ "__name__" := by decide) (hdb : (x == ("__debug__" : Str)) = false := by decide)
    (he : starEach (e :: es) X.env = (false, eval e X.env) :: starEach es X.env := by rfl) (hpl : (backTo pos (starEach es X.env)).any (·.1) = false := by rfl) : PU X (.Call (.Name x p) (e :: es) [] pos) (eCall m ee) := by
  obtain ⟨r, hr, h⟩ := hc
  exact (pe_callB hr hg hm hv ha hn hdb he hpl).imp fun σ H Q q => call_imp (f := .builtin id) h σ H Q q
theorem pu_callTy {T : String} {x : Str} {m : List D → Option AV} {es : List Expr} {ee : Ea} {p : Pos} (hc : CallD X (.type T) m) (hg : Gl X x) (hm : X.mg x = none) (hv : bootBuiltins x = some (.type T)) (ha : PUA X (e :: es) ee)
    (hn : x ≠ "__name__" := by decide) (hdb : (x == ("__debug__" : Str)) = false := by decide)
    (he : starEach (e :: es) X.env = (false, eval e X.env) :: starEach es X.env := by rfl) (hpl : (backTo pos (starEach es X.env)).any (·.1) = false := by rfl) : PU X (.Call (.Name x p) (e :: es) [] pos) (eCall m ee) := by
  obtain ⟨r, hr, h⟩ := hc
  exact (pe_callTy hr hg hm hv ha hn hdb he hpl).imp fun σ H Q q => call_imp (f := .type T) h σ H Q q
theorem PkAll.one {K : PySem.W.Frag} {M : Ms} {H : Hp} {vs : List V} {d : D} (h : PkAll K M H vs [d]) : ∃ v, vs = [v] ∧ PkR K M H d v := by
  cases h with
  | cons h t => cases t; exact ⟨_, rfl, h⟩
theorem PkAll.two {K : PySem.W.Frag} {M : Ms} {H : Hp} {vs : List V} {d d' : D} (h : PkAll K M H vs [d, d']) : ∃ v u, vs = [v, u] ∧ PkR K M H d v ∧ PkR K M H d' u := by
  cases h with
  | cons h t =>
    obtain ⟨u, rfl, h2⟩ := PkAll.one t
    exact ⟨_, u, rfl, h, h2⟩
theorem PkR.int {K : PySem.W.Frag} {M : Ms} {H : Hp} {i : Int} {v : V} (h : PkR K M H (.int i) v) : v = .int i := (h.pk (fun _ z => nomatch z)).int
theorem PkR.bl {K : PySem.W.Frag} {M : Ms} {H : Hp} {i : Bool} {v : V} (h : PkR K M H (.bool i) v) : v = .bl i := (h.pk (fun _ z => nomatch z)).bl
theorem PkR.str {K : PySem.W.Frag} {M : Ms} {H : Hp} {i : Str} {v : V} (h : PkR K M H (.str i) v) : v = .str i := (h.pk (fun _ z => nomatch z)).str
theorem PkR.tup {K : PySem.W.Frag} {M : Ms} {H : Hp} {i : List D} {v : V} (h : PkR K M H (.tuple i) v) : Dq K M H (.tuple i) v := (h.pk (fun _ z => nomatch z)).tup

/-- the numbers of a row -/
def intsOf : List D → Option (List Int)
  | [] => some []
  | .int i :: r => (match intsOf r with
    | some is => some (i :: is)
    | none => none)
  | _ :: _ => none
theorem intsOf_map : ∀ {ds : List D} {is : List Int}, intsOf ds = some is → ds = is.map PyData.int
  | [], is, e => by cases e; rfl
  | .int i :: r, is, e => by
    unfold intsOf at e
    split at e
    · rename_i js q
      cases e
      rw [intsOf_map q]; rfl
    · cases e
  | .none :: _, is, e => by cases e
  | .bool _ :: _, is, e => by cases e
  | .str _ :: _, is, e => by cases e
  | .list _ :: _, is, e => by cases e
  | .tuple _ :: _, is, e => by cases e
  | .dict _ :: _, is, e => by cases e
theorem intsOf_ok : ∀ (is : List Int), intsOf (is.map PyData.int) = some is
  | [] => rfl
  | i :: is => by show (match intsOf (is.map PyData.int) with | some is => some (i :: is) | none => none) = _; rw [intsOf_ok is]
def boolsOf : List D → Option (List Bool)
  | [] => some []
  | .bool i :: r => (match boolsOf r with
    | some is => some (i :: is)
    | none => none)
  | _ :: _ => none
theorem boolsOf_map : ∀ {ds : List D} {is : List Bool}, boolsOf ds = some is → ds = is.map PyData.bool
  | [], is, e => by cases e; rfl
  | .bool i :: r, is, e => by
    unfold boolsOf at e
    split at e
    · rename_i js q
      cases e
      rw [boolsOf_map q]; rfl
    · cases e
  | .none :: _, is, e => by cases e
  | .int _ :: _, is, e => by cases e
  | .str _ :: _, is, e => by cases e
  | .list _ :: _, is, e => by cases e
  | .tuple _ :: _, is, e => by cases e
  | .dict _ :: _, is, e => by cases e
theorem boolsOf_ok : ∀ (is : List Bool), boolsOf (is.map PyData.bool) = some is
  | [] => rfl
  | i :: is => by show (match boolsOf (is.map PyData.bool) with | some is => some (i :: is) | none => none) = _; rw [boolsOf_ok is]

@[simp] def dLen : List D → Option AV
  | [.list ds] => some (.val (.int ds.length))
  | [.tuple ds] => some (.val (.int ds.length))
  | [.str z] => if z.length ≤ mxL then some (.val (.int z.length)) else none
  | _ => none
theorem cd_len : CallD X (.builtin "len") dLen := by
  refine ⟨_, call_len, fun M H ds vs av Q t p h k => ?_⟩
  unfold dLen at h
  split at h
  · cases h
    obtain ⟨v, rfl, w⟩ := p.one
    obtain ⟨a, xs, rfl, l1, l2⟩ := w.list
    exact ⟨_, _, rfl, .inl ⟨xs, l1, rfl⟩, by rw [l2.len]; exact k _ _ (ResD.val rfl)⟩
  · cases h
    obtain ⟨v, rfl, w⟩ := p.one
    obtain ⟨a, xs, rfl, l1, l2⟩ := w.tup.sqT
    exact ⟨_, _, rfl, .inr ⟨xs, l1, rfl⟩, by rw [l2.len]; exact k _ _ (ResD.val rfl)⟩
  · split at h
    · rename_i hz
      cases h
      obtain ⟨v, rfl, w⟩ := p.one
      cases w.str
      exact ⟨_, _, rfl, ⟨mxL_ok hz, rfl⟩, k _ _ (ResD.val rfl)⟩
    · cases h
  · cases h

end
/-! sum -/
/-- sum(t) of a tuple of numbers -/
theorem sum_tup {prog : Program} {w : World} {A : Around} {E : Value → Shared → Prop} {s : Shared} {l : Addr} {its : List Value} {ns : List Int} {Q : Value → Shared → Prop} (hh : A.handled = none) (hl : IsTup s.heap l its.toArray) (hi : IntsAre its ns)
    (h : ∀ h' tk t', (∀ b o, s.heap.get? b = some o → h'.get? b = some o) → Q (.int ns.sum t') { s with heap := h', toks := tk }) : wpAny (model prog w) A (call (.builtin "sum") [.ref l]) Q E s := by
  obtain ⟨xs, e⟩ := hi.allInts.items
  have hn : numsOf (intItems xs).toList = ns := by rw [← e]; exact hi.numsOf
  rw [nums_intItems] at hn
  rw [e] at hl
  have hlt : l < s.heap.objs.size := hl.lt
  have hT : s.heap.IsTuple l (intItems xs) := hl
  obtain ⟨o, ho, hc, n, hd⟩ := hl
  refine call_sum_walkG (wpAny_pyIter_tuple hT ⟨_, _, _, _, _, _, numAt xs, rfl, Walks.tuple (A := A.in1) hh _ l (Nat.ne_of_lt hlt) (intItems xs), ⟨⟨_, Heap.get?_push_size _ rfl, rfl, rfl⟩, ⟨o, Heap.get?_push_of_some _ ho, hc, n, hd⟩⟩, fun b hb => ?_, fun _ _ => intItems_at, fun h' tk t' hk => ?_⟩)
  · show b < (s.heap.push _).objs.size
    rw [Heap.size_push]
    rcases List.mem_cons.mp hb with rfl | hb
    · exact Nat.lt_succ_self _
    · rw [List.mem_singleton.mp hb]
      exact Nat.lt_succ_of_lt hlt
  · have e : preSum (numAt xs) (intItems xs).size = ns.sum := by
      rw [show (intItems xs).size = xs.size by simp [intItems], preSum_eq, List.take_of_length_le (by simp), hn]
    rw [e]
    exact h h' tk t' fun b ob q => hk b ob (fun z => by
      rw [List.mem_singleton.mp z] at q
      exact absurd (Heap.lt_size q) (Nat.lt_irrefl _)) (Heap.get?_push_of_some _ q)
section
variable {X : Cx} {e a b c : Expr} {pos p2 : Pos} {ea eb : Ev}
@[simp] def dSum : List D → Option AV
  | [.list ds] => (match intsOf ds with
    | some is => some (.val (.int is.sum))
    | none => none)
  | [.tuple ds] => (match intsOf ds with
    | some is => some (.val (.int is.sum))
    | none => none)
  | _ => none
theorem cr_sumT (hc : X.calm = true) : CallR X (.builtin "sum") (fun vs H Q => ∃ (a : Addr) (ns : List Int), vs = [V.ref a] ∧ SqT X.K H a (ns.map V.int) ∧ Q (.int ns.sum) H) := by
  intro pins s σ H vs us Q I r h
  obtain ⟨a, ns, rfl, hs, q⟩ := h
  obtain ⟨its, rv, hl, _⟩ := I.tuple hs
  rw [Vals.ref1 r]
  exact sum_tup (I.ok.hd hc) hl rv.ints fun h' tk t' hk => ⟨.int _, H, I.kept hk, ⟨_, rfl⟩, q⟩
theorem cd_sum (hc : X.calm = true) : CallD X (.builtin "sum") dSum := by
  refine ⟨_, (cr_sum hc).or (cr_sumT hc), fun M H ds vs av Q t p h k => ?_⟩
  unfold dSum at h
  split at h
  · split at h
    · rename_i is q
      cases h
      obtain ⟨v, rfl, w⟩ := p.one
      obtain ⟨a, xs, rfl, l1, l2⟩ := w.list
      rw [intsOf_map q] at l2
      rw [l2.ints] at l1
      exact .inl ⟨a, is, rfl, l1, k _ _ (ResD.val rfl)⟩
    · cases h
  · split at h
    · rename_i is q
      cases h
      obtain ⟨v, rfl, w⟩ := p.one
      obtain ⟨a, xs, rfl, l1, l2⟩ := w.tup.sqT
      rw [intsOf_map q] at l2
      rw [l2.ints] at l1
      exact .inr ⟨a, is, rfl, l1, k _ _ (ResD.val rfl)⟩
    · cases h
  · cases h
@[simp] def dAbs : List D → Option AV
  | [.int i] => some (.val (.int (if i < 0 then -i else i)))
  | _ => none
theorem cd_abs : CallD X (.builtin "abs") dAbs := by
  refine ⟨_, call_abs, fun M H ds vs av Q t p h k => ?_⟩
  unfold dAbs at h
  split at h
  · cases h
    obtain ⟨v, rfl, w⟩ := p.one
    cases w.int
    exact ⟨_, rfl, k _ _ (ResD.val rfl)⟩
  · cases h
@[simp] def dInt : List D → Option AV
  | [.int i] => some (.val (.int i))
  | [.bool b] => some (.val (.int (if b then 1 else 0)))
  | _ => none
theorem cd_int : CallD X (.type "int") dInt := by
  refine ⟨_, call_int1, fun M H ds vs av Q t p h k => ?_⟩
  unfold dInt at h
  split at h
  · cases h
    obtain ⟨v, rfl, w⟩ := p.one
    cases w.int
    exact .inl ⟨_, rfl, k _ _ (ResD.val rfl)⟩
  · cases h
    obtain ⟨v, rfl, w⟩ := p.one
    cases w.bl
    exact .inr ⟨_, rfl, k _ _ (ResD.val rfl)⟩
  · cases h
def maxI : List Int → Int
  | [] => 0
  | x :: xs => xs.foldl (fun a b => if a < b then b else a) x
def minI : List Int → Int
  | [] => 0
  | x :: xs => xs.foldl (fun a b => if b < a then b else a) x
theorem foldMax : ∀ (xs : List Int) (x : Int), (xs.foldl (fun a b => if a < b then b else a) x ∈ x :: xs) ∧ ∀ y ∈ x :: xs, y ≤ (xs.foldl (fun a b => if a < b then b else a) x)
  | [], x => ⟨by simp, by simp⟩
  | z :: xs, x => by
    have hm : ∃ m, m = (if x < z then z else x) ∧ x ≤ m ∧ z ≤ m ∧ (m = x ∨ m = z) := by
      refine ⟨_, rfl, ?_⟩
      split <;> omega
    obtain ⟨m, e, a1, a2, a3⟩ := hm
    obtain ⟨h1, h2⟩ := foldMax xs m
    rw [List.foldl_cons, ← e]
    refine ⟨?_, fun y hy => ?_⟩
    · rcases List.mem_cons.mp h1 with e | e
      · rw [e]; rcases a3 with e | e <;> simp [e]
      · exact List.mem_cons_of_mem _ (List.mem_cons_of_mem _ e)
    · have h3 := h2 _ List.mem_cons_self
      rcases List.mem_cons.mp hy with e | e
      · subst e; omega
      · rcases List.mem_cons.mp e with e | e
        · subst e; omega
        · exact h2 y (List.mem_cons_of_mem _ e)
theorem foldMin : ∀ (xs : List Int) (x : Int), (xs.foldl (fun a b => if b < a then b else a) x ∈ x :: xs) ∧ ∀ y ∈ x :: xs, (xs.foldl (fun a b => if b < a then b else a) x) ≤ y
  | [], x => ⟨by simp, by simp⟩
  | z :: xs, x => by
    have hm : ∃ m, m = (if z < x then z else x) ∧ m ≤ x ∧ m ≤ z ∧ (m = x ∨ m = z) := by
      refine ⟨_, rfl, ?_⟩
      split <;> omega
    obtain ⟨m, e, a1, a2, a3⟩ := hm
    obtain ⟨h1, h2⟩ := foldMin xs m
    rw [List.foldl_cons, ← e]
    refine ⟨?_, fun y hy => ?_⟩
    · rcases List.mem_cons.mp h1 with e | e
      · rw [e]; rcases a3 with e | e <;> simp [e]
      · exact List.mem_cons_of_mem _ (List.mem_cons_of_mem _ e)
    · have h3 := h2 _ List.mem_cons_self
      rcases List.mem_cons.mp hy with e | e
      · subst e; omega
      · rcases List.mem_cons.mp e with e | e
        · subst e; omega
        · exact h2 y (List.mem_cons_of_mem _ e)
theorem maxI_spec {xs : List Int} (h : xs ≠ []) : maxI xs ∈ xs ∧ ∀ y ∈ xs, y ≤ maxI xs := by
  cases xs with
  | nil => exact absurd rfl h
  | cons x xs => exact foldMax xs x
theorem minI_spec {xs : List Int} (h : xs ≠ []) : minI xs ∈ xs ∧ ∀ y ∈ xs, minI xs ≤ y := by
  cases xs with
  | nil => exact absurd rfl h
  | cons x xs => exact foldMin xs x
@[simp] def dMax : List D → Option AV
  | [.int i, .int j] => some (.val (.int (if j > i then j else i)))
  | [.list ds] => (match intsOf ds with
    | some [] => none
    | some (i :: is) => some (.val (.int (maxI (i :: is))))
    | none => none)
  | _ => none
@[simp] def dMin : List D → Option AV
  | [.int i, .int j] => some (.val (.int (if j < i then j else i)))
  | [.list ds] => (match intsOf ds with
    | some [] => none
    | some (i :: is) => some (.val (.int (minI (i :: is))))
    | none => none)
  | _ => none
theorem cd_max (hc : X.calm = true) : CallD X (.builtin "max") dMax := by
  refine ⟨_, (call_max2 hc).or (cr_max hc), fun M H ds vs av Q t p h k => ?_⟩
  unfold dMax at h
  split at h
  · cases h
    obtain ⟨v, u, rfl, w, w2⟩ := p.two
    cases w.int; cases w2.int
    exact .inl ⟨_, _, rfl, k _ _ (ResD.val rfl)⟩
  · split at h
    · cases h
    · rename_i i is q
      cases h
      obtain ⟨v, rfl, w⟩ := p.one
      obtain ⟨a, xs, rfl, l1, l2⟩ := w.list
      rw [intsOf_map q] at l2
      rw [l2.ints] at l1
      refine .inr ⟨a, i :: is, rfl, l1, by simp, fun m h1 h2 => ?_⟩
      obtain ⟨h3, h4⟩ := maxI_spec (xs := i :: is) (by simp)
      have e : m = maxI (i :: is) := by
        have a1 := h2 _ h3
        have a2 := h4 _ h1
        omega
      rw [e]
      exact k _ _ (ResD.val rfl)
    · cases h
  · cases h
theorem cd_min (hc : X.calm = true) : CallD X (.builtin "min") dMin := by
  refine ⟨_, (call_min2 hc).or (cr_min hc), fun M H ds vs av Q t p h k => ?_⟩
  unfold dMin at h
  split at h
  · cases h
    obtain ⟨v, u, rfl, w, w2⟩ := p.two
    cases w.int; cases w2.int
    exact .inl ⟨_, _, rfl, k _ _ (ResD.val rfl)⟩
  · split at h
    · cases h
    · rename_i i is q
      cases h
      obtain ⟨v, rfl, w⟩ := p.one
      obtain ⟨a, xs, rfl, l1, l2⟩ := w.list
      rw [intsOf_map q] at l2
      rw [l2.ints] at l1
      refine .inr ⟨a, i :: is, rfl, l1, by simp, fun m h1 h2 => ?_⟩
      obtain ⟨h3, h4⟩ := minI_spec (xs := i :: is) (by simp)
      have e : m = minI (i :: is) := by
        have a1 := h2 _ h3
        have a2 := h4 _ h1
        omega
      rw [e]
      exact k _ _ (ResD.val rfl)
    · cases h
  · cases h
@[simp] def dAll : List D → Option AV
  | [.list ds] => (match boolsOf ds with
    | some is => some (.val (.bool (is.all id)))
    | none => none)
  | _ => none
@[simp] def dAny : List D → Option AV
  | [.list ds] => (match boolsOf ds with
    | some is => some (.val (.bool (is.any id)))
    | none => none)
  | _ => none
theorem cd_all (hc : X.calm = true) : CallD X (.builtin "all") dAll := by
  refine ⟨_, cr_all hc, fun M H ds vs av Q t p h k => ?_⟩
  unfold dAll at h
  split at h
  · split at h
    · rename_i is q
      cases h
      obtain ⟨v, rfl, w⟩ := p.one
      obtain ⟨a, xs, rfl, l1, l2⟩ := w.list
      rw [boolsOf_map q] at l2
      rw [l2.bls] at l1
      exact ⟨a, is, rfl, l1, k _ _ (ResD.val rfl)⟩
    · cases h
  · cases h
theorem cd_any (hc : X.calm = true) : CallD X (.builtin "any") dAny := by
  refine ⟨_, cr_any hc, fun M H ds vs av Q t p h k => ?_⟩
  unfold dAny at h
  split at h
  · split at h
    · rename_i is q
      cases h
      obtain ⟨v, rfl, w⟩ := p.one
      obtain ⟨a, xs, rfl, l1, l2⟩ := w.list
      rw [boolsOf_map q] at l2
      rw [l2.bls] at l1
      exact ⟨a, is, rfl, l1, k _ _ (ResD.val rfl)⟩
    · cases h
  · cases h
@[simp] def dTuple : List D → Option AV
  | [.list ds] => some (.val (.tuple ds))
  | [.tuple ds] => some (.val (.tuple ds))
  | _ => none
theorem cd_tuple : CallD X (.type "tuple") dTuple := by
  refine ⟨_, call_tuple_of, fun M H ds vs av Q t p h k => ?_⟩
  unfold dTuple at h
  split at h
  · cases h
    obtain ⟨v, rfl, w⟩ := p.one
    obtain ⟨a, xs, rfl, l1, l2⟩ := w.list
    exact ⟨a, xs, rfl, .inl ⟨l1, fun l n => k _ _ (ResD.tup n t l2)⟩⟩
  · cases h
    obtain ⟨v, rfl, w⟩ := p.one
    have w2 := w.tup
    obtain ⟨a, xs, rfl, l1, l2⟩ := w2.sqT
    exact ⟨a, xs, rfl, .inr ⟨l1, k _ _ (ResD.val w2)⟩⟩
  · cases h
@[simp] def dList : List D → Option AV
  | [.list ds] => some (.new ds)
  | [.tuple ds] => some (.new ds)
  | _ => none
theorem cd_list : CallD X (.type "list") dList := by
  refine ⟨_, call_list_of, fun M H ds vs av Q t p h k => ?_⟩
  unfold dList at h
  split at h
  · cases h
    obtain ⟨v, rfl, w⟩ := p.one
    obtain ⟨a, xs, rfl, l1, l2⟩ := w.list
    exact ⟨a, xs, rfl, .inl l1, fun l n => k _ _ (ResD.new n l2)⟩
  · cases h
    obtain ⟨v, rfl, w⟩ := p.one
    obtain ⟨a, xs, rfl, l1, l2⟩ := w.tup.sqT
    exact ⟨a, xs, rfl, .inr l1, fun l n => k _ _ (ResD.new n l2)⟩
  · cases h
@[simp] def dDivmod : List D → Option AV
  | [.int i, .int j] => if 0 < j ∧ j.natAbs < 1073741824 then some (.val (.tuple [.int (i / j), .int (i % j)])) else none
  | _ => none
theorem cd_divmod : CallD X (.builtin "divmod") dDivmod := by
  refine ⟨_, call_divmod, fun M H ds vs av Q t p h k => ?_⟩
  unfold dDivmod at h
  split at h
  · split at h
    · rename_i hz
      cases h
      obtain ⟨v, u, rfl, w, w2⟩ := p.two
      cases w.int; cases w2.int
      exact ⟨_, _, rfl, ⟨hz.1, by have := hz.2; omega⟩, fun q n => k _ _ (ResD.tup n t (DqAll.of_ints [_, _]))⟩
    · cases h
  · cases h

/-! isinstance(x, T), T a built-in class -/
@[simp] def tyOfD : D → String
  | .none => "NoneType"
  | .bool _ => "bool"
  | .int _ => "int"
  | .str _ => "str"
  | .list _ => "list"
  | .tuple _ => "tuple"
  | .dict _ => "dict"
def eIsi (T : String) (ea : Ev) : Ev := fun ρ => match eNorm ea ρ with
  | some (x, r) => (match peek x r with
    | some d => (match kitB (tyOfD d) T with
      | some b => some (.val (.bool b), r)
      | none => none)
    | none => none)
  | none => none
theorem PkR.ty {K : PySem.W.Frag} {M : Ms} {H : Hp} {d : D} {v : V} (h : Pk K M H d v) : TyX K H v (.type (tyOfD d)) := by
  cases d with
  | none => cases h.non; exact .base .non
  | bool b => cases h.bl; exact .base (.bl _)
  | int b => cases h.int; exact .base (.int _)
  | str b => cases h.str; exact .base (.str _)
  | list ds => obtain ⟨a, xs, rfl, l1, _⟩ := h.list; exact .base (.lst l1)
  | tuple ds =>
    obtain ⟨a, xs, rfl, l1, _⟩ := h.tup
    rcases l1 with ⟨l1, _⟩ | l1
    · exact .base (.tup l1)
    · rcases l1 with (l1 | ⟨o, l1⟩) | ⟨o, its, n, hk, hc, _⟩
      · cases l1
      · cases l1
      · exact .kTuple hk hc
  | dict ds =>
    rcases h with h | ⟨_, _, _, e, _⟩
    · exact h.elim
    · cases e
theorem pu_isi {x2 : Str} {p q1 : Pos} {TS : String} (he : PU X e ea) (hg : Gl X "isinstance") (hm : X.mg "isinstance" = none) (hg2 : Gl X x2) (hm2 : X.mg x2 = none) (hv2 : bootBuiltins x2 = some (.type TS))
    (hn : x2 ≠ "__name__" := by decide) (hd : (x2 == ("__debug__" : Str)) = false := by decide)
    (hs : starEach (e :: [.Name x2 q1]) X.env = (false, eval e X.env) :: starEach [.Name x2 q1] X.env := by rfl) (hpl : (backTo pos (starEach [.Name x2 q1] X.env)).any (·.1) = false := by rfl) :
    PU X (.Call (.Name "isinstance" p) [e, .Name x2 q1] [] pos) (eIsi TS ea) :=
  (pe_callB call_isi hg hm (by decide +kernel) (pa_cons (pu_norm he) (pa_cons (pe_bltn (v := .ty TS) hg2 hm2 hv2 rfl hn hd) pa_nil) hs) (by decide) (by decide) hs hpl).imp fun σ H Q ⟨F, M, ρ, av, ρ', R, q, k⟩ => by
    unfold eIsi at q
    split at q
    · rename_i x r h1
      split at q
      · rename_i d h2
        split at q
        · rename_i b h3
          cases q
          refine ⟨F, M, ρ, x, _, R, h1, fun v M' H' s R' ok => ?_⟩
          exact ⟨v, .ty TS, _, _, b, rfl, .ty TS, PkR.ty (AvOk.pk R' ok h2), kit_ty h3, k _ M' H' s R' rfl⟩
        · cases q
      · cases q
    · cases q
end
end PV
set_option Elab.async false
set_option linter.all false
set_option autoImplicit false
set_option maxRecDepth 100000
set_option maxHeartbeats 4000000
/-! PVe: targets, statements, what is walked, loops, list comprehensions. -/
namespace PV
open PySem PySem.Spec PyProof.Rows L2

/-! ### slots told less of -/
@[simp] def killAll : List Ix → Rho → Rho
  | [], ρ => ρ
  | i :: is, ρ => killAll is (put i .no ρ)
@[simp] def keepVal : B → B
  | .val d => .val d
  | _ => .no
/-- the slots own as they were in the first state, if values -/
@[simp] def restore : List Ix → Rho → Rho → Rho
  | [], _, ρ => ρ
  | i :: is, ρ0, ρ => restore is ρ0 (put i (keepVal (get i ρ0)) ρ)
section
variable {K : PySem.W.Frag} {F : Fx} {M M' : Ms} {H H' : Hp} {σ : L2.St} {ρ ρ0 : Rho}
theorem Rel.kill : ∀ (is : List Ix) {ρ : Rho}, Rel K F M σ H ρ → Rel K F M σ H (killAll is ρ)
  | [], _, R => R
  | i :: is, ρ, R => Rel.kill is (by rw [put_n]; exact R.drop i.n)
/-- a slot of no told content may hold anything -/
theorem Rel.slotNone (R : Rel K F M σ H ρ) (i : Nat) (o : Option V) (h : ρ[i]? = some .no ∨ ρ[i]? = none) : Rel K F M (σ.set i o) H ρ := by
  refine ⟨by simpa using R.len, fun j u b h1 h2 => ?_, fun j k a b c h1 h2 m1 m2 e1 e2 => ?_, R.trk, R.m0, R.n0, R.h0, R.keep, R.pd⟩
  · by_cases e : i = j
    · subst e
      rcases h with h | h
      · rw [h] at h2; cases h2; trivial
      · rw [h] at h2; cases h2
    · rw [List.getElem?_set_ne e] at h1
      exact R.slot j u b h1 h2
  · have n1 : i ≠ j := by
      rintro rfl
      rcases h with h | h
      · rw [h] at h1; cases h1; cases m1
      · rw [h] at h1; cases h1
    have n2 : i ≠ k := by
      rintro rfl
      rcases h with h | h
      · rw [h] at h2; cases h2; cases m2
      · rw [h] at h2; cases h2
    rw [List.getElem?_set_ne n1] at e1
    rw [List.getElem?_set_ne n2] at e2
    exact R.inj j k a b c h1 h2 m1 m2 e1 e2
theorem kill_at : ∀ (is : List Ix) (ρ : Rho) (i : Nat), (ρ[i]? = some .no ∨ ρ[i]? = none) → ((killAll is ρ)[i]? = some .no ∨ (killAll is ρ)[i]? = none)
  | [], ρ, i, h => h
  | j :: is, ρ, i, h => kill_at is _ i (by
    rw [put_n]
    by_cases e : j.n = i
    · subst e
      by_cases hl : j.n < ρ.length
      · rw [List.getElem?_set_self hl]; exact .inl rfl
      · exact .inr (by rw [List.getElem?_eq_none_iff]; simpa using hl)
    · rw [List.getElem?_set_ne e]; exact h)
theorem kill_in : ∀ (is : List Ix) (ρ : Rho) (i : Ix), i ∈ is → ((killAll is ρ)[i.n]? = some .no ∨ (killAll is ρ)[i.n]? = none)
  | j :: is, ρ, i, h => by
    rcases List.mem_cons.mp h with e | e
    · subst e
      exact kill_at is _ i.n (by
        rw [put_n]
        by_cases hl : i.n < ρ.length
        · rw [List.getElem?_set_self hl]; exact .inl rfl
        · exact .inr (by rw [List.getElem?_eq_none_iff]; simpa using hl))
    · exact kill_in is _ i e
theorem wipe_set (σ : L2.St) (o : Option V) : ∀ (vs : List Nat) (i : Nat), i ∈ vs → wipe (σ.set i o) vs = wipe σ vs
  | [], i, h => by cases h
  | v :: vs, i, h => by
    show (wipe (σ.set i o) vs).set v none = (wipe σ vs).set v none
    by_cases hi : i ∈ vs
    · rw [wipe_set σ o vs i hi]
    · rcases List.mem_cons.mp h with e | e
      · subst e
        have : ∀ (ws : List Nat), i ∉ ws → wipe (σ.set i o) ws = (wipe σ ws).set i o := by
          intro ws
          induction ws with
          | nil => intro _; rfl
          | cons w ws ih =>
            intro hn
            show (wipe (σ.set i o) ws).set w none = ((wipe σ ws).set w none).set i o
            rw [ih (fun z => hn (List.mem_cons_of_mem _ z)), List.set_comm]
            intro z
            exact hn (by rw [z]; exact List.mem_cons_self)
        rw [this vs hi, List.set_set]
      · exact absurd e hi
/-- the block's own slots wiped on both sides -/
theorem Rel.wipe : ∀ (vs : List Nat) {ρ : Rho}, Rel K F M σ H ρ → (∀ v ∈ vs, ρ[v]? = some .no ∨ ρ[v]? = none) → Rel K F M (L2.wipe σ vs) H ρ
  | [], _, R, _ => R
  | v :: vs, ρ, R, h => (Rel.wipe vs R fun w hw => h w (List.mem_cons_of_mem _ hw)).slotNone v none (h v List.mem_cons_self)
/-- from the wiped state back: slots outside are as they were -/
theorem wipe_out' {σ : L2.St} {i : Nat} {vs : List Nat} (h : i ∉ vs) : (L2.wipe σ vs)[i]? = σ[i]? := L2.wipe_out h
theorem wipe_len (σ : L2.St) (vs : List Nat) : (L2.wipe σ vs).length = σ.length := L2.wipe_length σ vs
theorem Rel.unwipe {vs : List Nat} (R : Rel K F M (L2.wipe σ vs) H ρ) (h : ∀ v ∈ vs, ρ[v]? = some .no ∨ ρ[v]? = none) : Rel K F M σ H ρ := by
  refine ⟨by rw [← wipe_len σ vs]; exact R.len, fun i o b h1 h2 => ?_, fun i j a b c h1 h2 m1 m2 e1 e2 => ?_, R.trk, R.m0, R.n0, R.h0, R.keep, R.pd⟩
  · by_cases hi : i ∈ vs
    · rcases h i hi with z | z
      · rw [z] at h2; cases h2; trivial
      · rw [z] at h2; cases h2
    · exact R.slot i o b (by rw [wipe_out' hi]; exact h1) h2
  · have n1 : i ∉ vs := fun hi => by
      rcases h i hi with z | z
      · rw [z] at h1; cases h1; cases m1
      · rw [z] at h1; cases h1
    have n2 : j ∉ vs := fun hi => by
      rcases h j hi with z | z
      · rw [z] at h2; cases h2; cases m2
      · rw [z] at h2; cases h2
    exact R.inj i j a b c h1 h2 m1 m2 (by rw [wipe_out' n1]; exact e1) (by rw [wipe_out' n2]; exact e2)
theorem Rel.setVal' (R : Rel K F M σ H ρ) (i : Nat) {d : D} {v : V} (hs : σ[i]? = some (some v)) (h : Dq K M H d v) : Rel K F M σ H (ρ.set i (.val d)) := by
  have R2 := R.setVal i h
  have e : σ.set i (some v) = σ := by
    apply List.ext_getElem?
    intro j
    by_cases e : i = j
    · subst e
      rw [List.getElem?_set_self ((List.getElem?_eq_some_iff.mp hs).1), hs]
    · rw [List.getElem?_set_ne e]
  rw [e] at R2
  exact R2
theorem Rel.restore {M0 : Ms} {H0 : Hp} (R0 : Rel K F M0 σ H0 ρ0) (s : Step M0 H0 M H) : ∀ (is : List Ix) {ρ : Rho}, Rel K F M σ H ρ → Rel K F M σ H (PV.restore is ρ0 ρ)
  | [], _, R => R
  | i :: is, ρ, R => Rel.restore R0 s is (by
    rw [put_n]
    cases e : get i ρ0 with
    | val d =>
      have e' := get_some e (fun z => nomatch z)
      have hl : i.n < σ.length := by
        rw [R0.len]
        exact (List.getElem?_eq_some_iff.mp e').1
      obtain ⟨v, ev, dq⟩ := R0.slot i.n _ _ (List.getElem?_eq_getElem hl) e'
      exact R.setVal' i.n (by rw [List.getElem?_eq_getElem hl, ev]) (Dq.step s d v dq)
    | no => exact R.drop i.n
    | own _ => exact R.drop i.n
    | ref _ => exact R.drop i.n
    | rd _ => exact R.drop i.n)
/-- a slot gets a new list of this def's own -/
theorem Rel.setOwn (R : Rel K F M σ H ρ) (i : Nat) {ds : List D} {v : V} (h : AvOk K F M H σ ρ v (.new ds)) : Rel K F M (σ.set i (some v)) H (ρ.set i (.own ds)) := by
  obtain ⟨p, xs, rfl, h1, h2, h3, h4, h5, h6⟩ := h
  refine ⟨by simpa using R.len, fun j o b q1 q2 => ?_, fun j k a b c q1 q2 m1 m2 e1 e2 => ?_, R.trk, R.m0, R.n0, R.h0, R.keep, R.pd⟩
  · by_cases e : i = j
    · subst e
      have hl : i < σ.length := by simpa using (List.getElem?_eq_some_iff.mp q1).1
      have hl2 : i < ρ.length := by simpa using (List.getElem?_eq_some_iff.mp q2).1
      rw [List.getElem?_set_self hl] at q1
      rw [List.getElem?_set_self hl2] at q2
      cases q1; cases q2
      exact ⟨p, xs, rfl, h2, h3, h4, h1, h5⟩
    · rw [List.getElem?_set_ne e] at q1 q2
      exact R.slot j o b q1 q2
  · have sl : ∀ {j : Nat} {a : Addr}, i = j → (σ.set i (some (.ref p)))[j]? = some (some (.ref a)) → a = p := fun {j a} e z => by
      subst e
      have hl : i < σ.length := by simpa using (List.getElem?_eq_some_iff.mp z).1
      rw [List.getElem?_set_self hl] at z
      cases z; rfl
    by_cases n1 : i = j
    · by_cases n2 : i = k
      · exact n1.symm.trans n2
      · rw [List.getElem?_set_ne n2] at q2 e2
        have := sl n1 e1
        subst this
        exact absurd e2 (h6 k c q2 m2)
    · rw [List.getElem?_set_ne n1] at q1 e1
      by_cases n2 : i = k
      · have := sl n2 e2
        subst this
        exact absurd e1 (h6 j b q1 m1)
      · rw [List.getElem?_set_ne n2] at q2 e2
        exact R.inj j k a b c q1 q2 m1 m2 e1 e2
theorem Rel.setRd (R : Rel K F M σ H ρ) (i : Nat) {ds : List D} {v : V} (h : AvOk K F M H σ ρ v (.rd ds)) : Rel K F M (σ.set i (some v)) H (ρ.set i (.rd ds)) := by
  refine ⟨by simpa using R.len, fun j o b h1 h2 => ?_, fun j k a b c h1 h2 m1 m2 e1 e2 => ?_, R.trk, R.m0, R.n0, R.h0, R.keep, R.pd⟩
  · by_cases e : i = j
    · subst e
      have hl : i < σ.length := by simpa using (List.getElem?_eq_some_iff.mp h1).1
      have hl2 : i < ρ.length := by simpa using (List.getElem?_eq_some_iff.mp h2).1
      rw [List.getElem?_set_self hl] at h1
      rw [List.getElem?_set_self hl2] at h2
      cases h1; cases h2
      obtain ⟨a, xs, e, q⟩ := h
      exact ⟨a, xs, by rw [e], q⟩
    · rw [List.getElem?_set_ne e] at h1 h2
      exact R.slot j o b h1 h2
  · have n1 : i ≠ j := by
      rintro rfl
      have hl2 : i < ρ.length := by simpa using (List.getElem?_eq_some_iff.mp h1).1
      rw [List.getElem?_set_self hl2] at h1; cases h1; cases m1
    have n2 : i ≠ k := by
      rintro rfl
      have hl2 : i < ρ.length := by simpa using (List.getElem?_eq_some_iff.mp h2).1
      rw [List.getElem?_set_self hl2] at h2; cases h2; cases m2
    rw [List.getElem?_set_ne n1] at h1 e1
    rw [List.getElem?_set_ne n2] at h2 e2
    exact R.inj j k a b c h1 h2 m1 m2 e1 e2
end

/-! ### what a statement does -/
inductive Fl | nx (ρ : Rho) | bk (ρ : Rho) | ct (ρ : Rho) | rt (d : D) (ρ : Rho) | rtN (ds : List D) (ρ : Rho)
def FlOk (K : PySem.W.Frag) (F : Fx) (M : Ms) (H : Hp) (E : Ends) : Fl → Prop
  | .nx ρ' => ∀ σ' M' H', Step M H M' H' → Rel K F M' σ' H' ρ' → E.nx σ' H'
  | .bk ρ' => ∀ σ' M' H', Step M H M' H' → Rel K F M' σ' H' ρ' → E.bk σ' H'
  | .ct ρ' => ∀ σ' M' H', Step M H M' H' → Rel K F M' σ' H' ρ' → E.ct σ' H'
  | .rt d ρ' => ∀ v σ' M' H', Step M H M' H' → Rel K F M' σ' H' ρ' → Dq K M' H' d v → E.rt v H'
  | .rtN ds ρ' => ∀ v σ' M' H', Step M H M' H' → Rel K F M' σ' H' ρ' → AvOk K F M' H' σ' ρ' v (.new ds) → E.rt v H'
abbrev Es := Rho → Option Fl
def tSt (K : PySem.W.Frag) (ev : Es) : TS := fun E σ H => ∃ F M ρ fl, Rel K F M σ H ρ ∧ ev ρ = some fl ∧ FlOk K F M H E fl
abbrev PUS (X : Cx) (st : Stmt) (ev : Es) : Prop := PS X st (tSt X.K ev)
abbrev PUSs (X : Cx) (st : List Stmt) (ev : Es) : Prop := PSs X st (tSt X.K ev)
theorem FlOk.step {K : PySem.W.Frag} {F : Fx} {M M' : Ms} {H H' : Hp} {E : Ends} {fl : Fl} (h : FlOk K F M H E fl) (s : Step M H M' H') : FlOk K F M' H' E fl := by
  cases fl with
  | nx ρ => exact fun σ' M2 H2 s2 R => h σ' M2 H2 (s.trans s2) R
  | bk ρ => exact fun σ' M2 H2 s2 R => h σ' M2 H2 (s.trans s2) R
  | ct ρ => exact fun σ' M2 H2 s2 R => h σ' M2 H2 (s.trans s2) R
  | rt d ρ => exact fun v σ' M2 H2 s2 R dq => h v σ' M2 H2 (s.trans s2) R dq
  | rtN ds ρ => exact fun v σ' M2 H2 s2 R dq => h v σ' M2 H2 (s.trans s2) R dq

/-! ### targets: ws are the slots that may be stored -/
abbrev Gd := D → Rho → Option Rho
def tGU (K : PySem.W.Frag) (g : Gd) (ws : List Nat) : TG := fun v σ H Q => ∃ F M ρ d ρ', Rel K F M σ H ρ ∧ Dq K M H d v ∧ g d ρ = some ρ' ∧
  ∀ σ' M' H', Step M H M' H' → Rel K F M' σ' H' ρ' → L2.wipe σ' ws = L2.wipe σ ws → Q σ' H'
abbrev PUG (X : Cx) (tg : Expr) (g : Gd) (ws : List Nat) : Prop := PG X tg (tGU X.K g ws)
abbrev Gds := List D → Rho → Option Rho
def tGUs (K : PySem.W.Frag) (g : Gds) (ws : List Nat) : TGs := fun vs σ H Q => ∃ F M ρ ds ρ', Rel K F M σ H ρ ∧ DqAll K M H ds vs ∧ g ds ρ = some ρ' ∧
  ∀ σ' M' H', Step M H M' H' → Rel K F M' σ' H' ρ' → L2.wipe σ' ws = L2.wipe σ ws → Q σ' H'
abbrev PUGs (X : Cx) (tg : List Expr) (g : Gds) (ws : List Nat) : Prop := PGs X tg (tGUs X.K g ws)
theorem PG.imp' {X : Cx} {e : Expr} {t t' : TG} (h : PG X e t) (i : ∀ v σ H Q, t' v σ H Q → t v σ H Q) : PG X e t' := ⟨fun pins s σ H x v Q I r q => h.run pins s σ H x v Q I r (i x σ H Q q)⟩
theorem PGs.imp' {X : Cx} {e : List Expr} {t t' : TGs} (h : PGs X e t) (i : ∀ v σ H Q, t' v σ H Q → t v σ H Q) : PGs X e t' := ⟨fun pins s σ H x v Q I r q => h.run pins s σ H x v Q I r (i x σ H Q q)⟩
def gN (i : Ix) : Gd := fun d ρ => some (put i (.val d) ρ)
def gsNil : Gds := fun ds ρ => match ds with
  | [] => some ρ
  | _ => none
def gsCons (g : Gd) (gs : Gds) : Gds := fun ds ρ => match ds with
  | d :: r => (match g d ρ with
    | some ρ1 => gs r ρ1
    | none => none)
  | [] => none
def gT (n : Nat) (gs : Gds) : Gd := fun d ρ => match d with
  | .tuple ds => if ds.length = n then gs ds ρ else none
  | _ => none
section
variable {X : Cx} {e a b c tg : Expr} {pos p2 : Pos} {ea eb : Ev} {st : Stmt} {sts : List Stmt}
theorem pug_name (i : Ix) {x : Str} (hN : X.N.Nodup) (hi : X.N[i.n]? = some x) (hx : Loc X.env.scope x) (hf : X.fn x = true ∨ X.env.scope.names.lookup x = some .local := by first | exact .inl rfl | exact .inr rfl | assumption) : PUG X (.Name x pos) (gN i) [i.n] :=
  PG.imp' (pg_name (i := i.n) hN hi hx hf) fun v σ H Q ⟨F, M, ρ, d, ρ', R, dq, q, k⟩ => by
    cases q
    rw [put_n] at k
    exact k _ M H (Step.refl M H) (R.setVal i.n dq) (wipe_set σ _ _ _ List.mem_cons_self)
theorem pugs_nil : PUGs X [] gsNil [] := PGs.imp' pgs_nil fun v σ H Q ⟨F, M, ρ, ds, ρ', R, dq, q, k⟩ => by
  unfold gsNil at q
  split at q
  · cases q
    cases dq
    exact ⟨rfl, k σ M H (Step.refl M H) R rfl⟩
  · cases q
theorem wipe_app (σ : L2.St) : ∀ (as bs : List Nat), L2.wipe σ (as ++ bs) = L2.wipe (L2.wipe σ bs) as
  | [], bs => rfl
  | a :: as, bs => by show (L2.wipe σ (as ++ bs)).set a none = (L2.wipe (L2.wipe σ bs) as).set a none; rw [wipe_app σ as bs]
theorem wipe_set_comm (σ : L2.St) (v : Nat) : ∀ (as : List Nat), L2.wipe (σ.set v none) as = (L2.wipe σ as).set v none
  | [] => rfl
  | a :: as => by
    show (L2.wipe (σ.set v none) as).set a none = ((L2.wipe σ as).set a none).set v none
    rw [wipe_set_comm σ v as]
    by_cases e : v = a
    · rw [e]
    · rw [List.set_comm _ _ e]
theorem wipe_comm (σ : L2.St) : ∀ (as bs : List Nat), L2.wipe (L2.wipe σ as) bs = L2.wipe (L2.wipe σ bs) as
  | [], bs => rfl
  | a :: as, bs => by
    show L2.wipe ((L2.wipe σ as).set a none) bs = (L2.wipe (L2.wipe σ bs) as).set a none
    rw [wipe_set_comm, wipe_comm σ as bs]
theorem pugs_cons {es : List Expr} {g : Gd} {gs : Gds} {ws us : List Nat} (h1 : PUG X e g ws) (h2 : PUGs X es gs us)
    (hs : List.map (fun x => x.2) (assignEach (e :: es) X.env) = assign e X.env :: List.map (fun x => x.2) (assignEach es X.env) := by rfl) : PUGs X (e :: es) (gsCons g gs) (ws ++ us) :=
  PGs.imp' (pgs_cons h1 h2 hs) fun v σ H Q ⟨F, M, ρ, ds, ρ', R, dq, q, k⟩ => by
    unfold gsCons at q
    split at q
    · split at q
      · rename_i d r ρ1 h3
        obtain ⟨x, xs, rfl, dx, dxs⟩ := dq
        refine ⟨x, xs, rfl, F, M, ρ, _, ρ1, R, dx, h3, fun σ1 M1 H1 s1 R1 w1 => ⟨F, M1, ρ1, _, ρ', R1, DqAll.step s1 _ _ dxs, q, fun σ2 M2 H2 s2 R2 w2 => ?_⟩⟩
        refine k σ2 M2 H2 (s1.trans s2) R2 ?_
        rw [wipe_app, wipe_app, w2, wipe_comm, wipe_comm σ us ws, w1]
      · cases q
    · cases q
theorem pug_tup {es : List Expr} {gs : Gds} {ws : List Nat} {n : Nat} {k1 : Nat} (hc : X.calm = true) (h : PUGs X es gs ws)
    (ht : PG X (.Tuple es k1 pos) (gTup X.K n (tGUs X.K gs ws))) : PUG X (.Tuple es k1 pos) (gT n gs) ws :=
  PG.imp' ht fun v σ H Q ⟨F, M, ρ, d, ρ', R, dq, q, k⟩ => by
    unfold gT at q
    split at q
    · split at q
      · rename_i ds hn
        obtain ⟨a, xs, rfl, l1, l2⟩ := Dq.sqT dq
        exact ⟨a, xs, rfl, l1, by rw [l2.len]; exact hn, F, M, ρ, _, ρ', R, l2, q, k⟩
      · cases q
    · cases q

/-! ### blocks and small statements -/
def sNil : Es := fun ρ => some (.nx ρ)
def sSeq (s t : Es) : Es := fun ρ => match s ρ with
  | some (.nx r) => t r
  | o => o
theorem puss_nil : PUSs X [] sNil := pss_nil.imp fun E σ H ⟨F, M, ρ, fl, R, q, k⟩ => by
  cases q
  exact k σ M H (Step.refl M H) R
theorem puss_one {s : Es} (h : PUS X st s) : PUSs X [st] s := pss_one h
theorem puss_cons {s t : Es} (h1 : PUS X st s) (h2 : PUSs X sts t) : PUSs X (st :: sts) (sSeq s t) :=
  (pss_cons h1 h2).imp fun E σ H ⟨F, M, ρ, fl, R, q, k⟩ => by
    unfold sSeq at q
    split at q
    · rename_i r h3
      exact ⟨F, M, ρ, _, R, h3, fun σ' M' H' s' R' => ⟨F, M', r, fl, R', q, k.step s'⟩⟩
    · rename_i n
      refine ⟨F, M, ρ, fl, R, q, ?_⟩
      cases fl with
      | nx r => exact absurd q (n r)
      | bk r => exact k
      | ct r => exact k
      | rt d r => exact k
      | rtN d r => exact k
def sSet (i : Ix) (ev : Ev) : Es := fun ρ => match eVal ev ρ with
  | some (.val d, r) => some (.nx (put i (.val d) r))
  | _ => none
theorem pus_set (i : Ix) {x : Str} {pos' : Pos} (hN : X.N.Nodup) (hi : X.N[i.n]? = some x) (hx : Loc X.env.scope x) (he : PU X e ea) (hs : swapsWith e (some (.Name x pos')) pos.line X.env = pure false := by rfl) (hf : X.fn x = true ∨ X.env.scope.names.lookup x = some .local := by first | exact .inl rfl | exact .inr rfl | assumption) :
    PUS X (.Assign [.Name x pos'] e pos) (sSet i ea) :=
  (ps_set (i := i.n) hN hi hx (pu_val he) hs hf).imp fun E σ H ⟨F, M, ρ, fl, R, q, k⟩ => by
    unfold sSet at q
    split at q
    · rename_i d r h1
      cases q
      refine ⟨F, M, ρ, _, r, R, h1, fun v M' H' s R' ok => ?_⟩
      have k : ∀ σ' M' H', Step M H M' H' → Rel X.K F M' σ' H' (put i (.val d) r) → E.nx σ' H' := k
      rw [put_n] at k
      exact k _ M' H' s (R'.setVal i.n ok)
    · cases q
/-- a name that is to hold a list of its own -/
@[simp] def bindM (i : Ix) : AV → Rho → Option Rho
  | .val d, r => some (put i (.val d) r)
  | .new ds, r => some (put i (.own ds) r)
  | .rd ds, r => some (put i (.rd ds) r)
  | .ref _, _ => none
def sSetM (i : Ix) (ev : Ev) : Es := fun ρ => match ev ρ with
  | some (av, r) => (match bindM i av r with
    | some r' => some (.nx r')
    | none => none)
  | none => none
theorem bindM_ok {K : PySem.W.Frag} {F : Fx} {M : Ms} {H : Hp} {σ : L2.St} {ρ ρ' : Rho} {i : Ix} {av : AV} {v : V} (R : Rel K F M σ H ρ) (ok : AvOk K F M H σ ρ v av) (h : bindM i av ρ = some ρ') : Rel K F M (σ.set i.n (some v)) H ρ' := by
  cases av with
  | val d => cases h; rw [put_n]; exact R.setVal i.n ok
  | new ds => cases h; rw [put_n]; exact R.setOwn i.n ok
  | rd ds => cases h; rw [put_n]; exact R.setRd i.n ok
  | ref b => cases h
theorem pus_setM (i : Ix) {x : Str} {pos' : Pos} (hN : X.N.Nodup) (hi : X.N[i.n]? = some x) (hx : Loc X.env.scope x) (he : PU X e ea) (hs : swapsWith e (some (.Name x pos')) pos.line X.env = pure false := by rfl) (hf : X.fn x = true ∨ X.env.scope.names.lookup x = some .local := by first | exact .inl rfl | exact .inr rfl | assumption) :
    PUS X (.Assign [.Name x pos'] e pos) (sSetM i ea) :=
  (ps_set (i := i.n) hN hi hx he hs hf).imp fun E σ H ⟨F, M, ρ, fl, R, q, k⟩ => by
    unfold sSetM at q
    split at q
    · rename_i av r h1
      split at q
      · rename_i r' h2
        cases q
        exact ⟨F, M, ρ, _, r, R, h1, fun v M' H' s R' ok => k _ M' H' s (bindM_ok R' ok h2)⟩
      · cases q
    · cases q
def sAsg (ev : Ev) (g : Gd) : Es := fun ρ => match eVal ev ρ with
  | some (.val d, r) => (match g d r with
    | some r' => some (.nx r')
    | none => none)
  | _ => none
theorem pus_asg {g : Gd} {ws : List Nat} (he : PU X e ea) (hg : PUG X tg g ws) (hs : swapsWithSole [tg] e pos.line X.env = pure false := by rfl) (hw : swappedStores [tg] e X.env = pure none := by rfl)
    (h1 : (assignEach [tg] X.env).map (·.2) = [assign tg X.env] := by rfl) : PUS X (.Assign [tg] e pos) (sAsg ea g) :=
  (ps_asg (pu_val he) hg hs hw h1).imp fun E σ H ⟨F, M, ρ, fl, R, q, k⟩ => by
    unfold sAsg at q
    split at q
    · rename_i d r h1
      split at q
      · rename_i r' h2
        cases q
        exact ⟨F, M, ρ, _, r, R, h1, fun v M' H' s R' ok => ⟨F, M', r, d, r', R', ok, h2, fun σ2 M2 H2 s2 R2 _ => k σ2 M2 H2 (s.trans s2) R2⟩⟩
      · cases q
    · cases q
def sIf (tc : Et) (s t : Es) : Es := fun ρ => match tc ρ with
  | some (true, r) => s r
  | some (false, r) => t r
  | none => none
theorem pus_if {tc : Et} {s t : Es} {as bs : List Stmt} (hc : PUT X c tc) (ha : PUSs X as s) (hb : PUSs X bs t) : PUS X (.If c as bs pos) (sIf tc s t) :=
  (ps_if hc ha hb).imp fun E σ H ⟨F, M, ρ, fl, R, q, k⟩ => by
    unfold sIf at q
    split at q
    · rename_i r h1
      exact ⟨F, M, ρ, _, r, R, h1, fun M' H' s' R' => iteT ⟨F, M', r, fl, R', q, k.step s'⟩⟩
    · rename_i r h1
      exact ⟨F, M, ρ, _, r, R, h1, fun M' H' s' R' => iteF ⟨F, M', r, fl, R', q, k.step s'⟩⟩
    · cases q
def sExpr (ev : Ev) : Es := fun ρ => match ev ρ with
  | some (_, r) => some (.nx r)
  | none => none
theorem pus_expr (he : PU X e ea) (hs : swapsWith e none pos.line X.env = pure false := by rfl) : PUS X (.Expr e pos) (sExpr ea) :=
  (ps_expr he hs).imp fun E σ H ⟨F, M, ρ, fl, R, q, k⟩ => by
    unfold sExpr at q
    split at q
    · rename_i av r h1
      cases q
      exact ⟨F, M, ρ, _, r, R, h1, fun v M' H' s R' _ => k σ M' H' s R'⟩
    · cases q
def sRet (ev : Ev) : Es := fun ρ => match ev ρ with
  | some (.val d, r) => some (.rt d r)
  | some (.new ds, r) => some (.rtN ds r)
  | some (.ref b, r) => (match get b r with
    | .own ds => some (.rtN ds (put b .no r))
    | _ => none)
  | _ => none
theorem pus_ret (he : PU X e ea) : PUS X (.Return (some e) pos) (sRet ea) :=
  (ps_ret he).imp fun E σ H ⟨F, M, ρ, fl, R, q, k⟩ => by
    unfold sRet at q
    split at q
    · rename_i d r h1
      cases q
      exact ⟨F, M, ρ, _, r, R, h1, fun v M' H' s R' ok => k v σ M' H' s R' ok⟩
    · rename_i d r h1
      cases q
      exact ⟨F, M, ρ, _, r, R, h1, fun v M' H' s R' ok => k v σ M' H' s R' ok⟩
    · rename_i b r h1
      split at q
      · rename_i ds h2
        cases q
        refine ⟨F, M, ρ, _, r, R, h1, fun v M' H' s R' ok => ?_⟩
        have h3 : r[b.n]? = some (.own ds) := get_some h2 (fun z => nomatch z)
        have ok : σ[b.n]? = some (some v) := ok
        obtain ⟨a, xs, e, m, n0, np, ha, dq⟩ := R'.slot b.n _ _ ok h3
        cases e
        have k : ∀ v σ' M' H', Step M H M' H' → Rel X.K F M' σ' H' (put b .no r) → AvOk X.K F M' H' σ' (put b .no r) v (.new ds) → E.rt v H' := k
        rw [put_n] at k
        refine k _ σ M' H' s (R'.drop b.n) ⟨a, xs, rfl, ha, m, n0, np, dq, fun i c q2 m2 z => ?_⟩
        by_cases e : b.n = i
        · subst e
          have hl2 : b.n < r.length := (List.getElem?_eq_some_iff.mp h3).1
          rw [List.getElem?_set_self hl2] at q2; cases q2; cases m2
        · rw [List.getElem?_set_ne e] at q2
          exact e (R'.inj b.n i a _ c h3 q2 rfl m2 ok z)
      · cases q
    · cases q
theorem pus_retN : PUS X (.Return none pos) (fun ρ => some (.rt .none ρ)) := ps_retN.imp fun E σ H ⟨F, M, ρ, fl, R, q, k⟩ => by
  cases q
  exact k .non σ M H (Step.refl M H) R rfl
theorem pus_pass : PUS X (.Pass pos) sNil := ps_pass.imp fun E σ H ⟨F, M, ρ, fl, R, q, k⟩ => by
  cases q
  exact k σ M H (Step.refl M H) R
theorem pus_break : PUS X (.Break pos) (fun ρ => some (.bk ρ)) := ps_break.imp fun E σ H ⟨F, M, ρ, fl, R, q, k⟩ => by
  cases q
  exact k σ M H (Step.refl M H) R
theorem pus_cont : PUS X (.Continue pos) (fun ρ => some (.ct ρ)) := ps_continue.imp fun E σ H ⟨F, M, ρ, fl, R, q, k⟩ => by
  cases q
  exact k σ M H (Step.refl M H) R
/-- a statement that is not reached -/
theorem pus_never : PUS X st (fun _ => none) := ps_never.imp fun E σ H ⟨F, M, ρ, fl, R, q, k⟩ => by cases q
end
end PV
set_option Elab.async false
set_option linter.all false
set_option autoImplicit false
set_option maxRecDepth 100000
set_option maxHeartbeats 4000000
/-! PVf: what is walked, for loops, list comprehensions. -/
namespace PV
open PySem PySem.Spec PyProof.Rows L2

/-! ### what is walked: an iterator that yields these items -/
structure ItOk (K : PySem.W.Frag) (J : It) (ds : List D) (P : Ms → Hp → Prop) : Prop where
  stay : ∀ M H M' H', Step M H M' H' → P M H → P M' H'
  go : ∀ M H i, P M H → i < ds.length → J.go i H
  yld : ∀ M H i x H', (∀ a, M a → ∃ xs, H a = some (.lst xs)) → P M H → i < ds.length → J.yld i H x H' → Gr H H' ∧ ∃ d, ds[i]? = some d ∧ Dq K M H' d x
  stop : ∀ M H, P M H → J.stop ds.length H
abbrev Ei := Rho → Option (List D × Rho)
def tUI (K : PySem.W.Frag) (ei : Ei) : TI := fun σ H R => ∃ F M ρ ds ρ', Rel K F M σ H ρ ∧ ei ρ = some (ds, ρ') ∧
  ∀ J P M' H', Step M H M' H' → Rel K F M' σ H' ρ' → ItOk K J ds P → P M' H' → R J H'
abbrev PUI (X : Cx) (tg iter : Expr) (ei : Ei) : Prop := PI X tg iter (tUI X.K ei)
theorem PI.imp' {X : Cx} {tg e : Expr} {t t' : TI} (h : PI X tg e t) (i : ∀ σ H R, t' σ H R → t σ H R) : PI X tg e t' := ⟨fun pins s σ H R I q => h.run pins s σ H R I (i σ H R q)⟩
theorem PI.or' {X : Cx} {tg e : Expr} {t t' : TI} (h : PI X tg e t) (h' : PI X tg e t') : PI X tg e (fun σ H R => t σ H R ∨ t' σ H R) :=
  ⟨fun pins s σ H R I q => q.elim (fun q => h.run pins s σ H R I q) fun q => h'.run pins s σ H R I q⟩

section
variable {K : PySem.W.Frag}
theorem it_list {a : Addr} {ds : List D} : ItOk K (Itl K a) ds (fun M H => Dq K M H (.list ds) (.ref a)) where
  stay := fun M H M' H' s h => Dq.step s _ _ h
  go := fun M H i h hi => by
    obtain ⟨a', xs, e, ⟨h1, _⟩, h2⟩ := h
    cases e
    obtain ⟨v, q, _⟩ := h2.get (List.getElem?_eq_getElem hi)
    exact ⟨xs, v, SqL.of h1, q⟩
  yld := fun M H i x H' _ h _ y => by
    obtain ⟨a', xs, e, ⟨h1, _⟩, h2⟩ := h
    cases e
    obtain ⟨e, y⟩ := y
    subst e
    obtain ⟨d, q1, q2⟩ := h2.get' (y xs (SqL.of h1))
    exact ⟨Gr.refl _, d, q1, q2⟩
  stop := fun M H h => by
    obtain ⟨a', xs, e, ⟨h1, _⟩, h2⟩ := h
    cases e
    exact ⟨xs, SqL.of h1, Nat.le_of_eq h2.len⟩
def RdAt (K : PySem.W.Frag) (M : Ms) (H : Hp) (ds : List D) (a : Addr) : Prop := ∃ xs, ((∃ ob, H a = some (.frz ob (.lst xs)) ∧ ¬ M a) ∨ SqL K Empt a xs) ∧ DqAll K M H ds xs
theorem RdAt.sq {M : Ms} {H : Hp} {ds : List D} {a : Addr} (h : RdAt K M H ds a) : ∃ xs, SqL K H a xs ∧ DqAll K M H ds xs := by
  obtain ⟨xs, h1, h2⟩ := h
  refine ⟨xs, ?_, h2⟩
  rcases h1 with ⟨ob, h1, _⟩ | h1
  · exact .inl (.inr ⟨ob, h1⟩)
  · exact SqL.empt h1
theorem it_rd {a : Addr} {ds : List D} : ItOk K (Itl K a) ds (fun M H => RdAt K M H ds a) where
  stay := fun M H M' H' s ⟨xs, h1, h2⟩ => by
    refine ⟨xs, ?_, DqAll.step s _ _ h2⟩
    rcases h1 with ⟨ob, h1, n⟩ | h1
    · refine .inl ⟨ob, s.keep a _ h1 n, fun m => ?_⟩
      rcases s.mono a m with z | z
      · exact n z
      · rw [h1] at z; cases z
    · exact .inr h1
  go := fun M H i h hi => by
    obtain ⟨xs, h1, h2⟩ := h.sq
    obtain ⟨v, q, _⟩ := h2.get (List.getElem?_eq_getElem hi)
    exact ⟨xs, v, h1, q⟩
  yld := fun M H i x H' _ h _ y => by
    obtain ⟨xs, h1, h2⟩ := h.sq
    obtain ⟨e, y⟩ := y
    subst e
    obtain ⟨d, q1, q2⟩ := h2.get' (y xs h1)
    exact ⟨Gr.refl _, d, q1, q2⟩
  stop := fun M H h => by
    obtain ⟨xs, h1, h2⟩ := h.sq
    exact ⟨xs, h1, Nat.le_of_eq h2.len⟩
theorem it_tup {a : Addr} {ds : List D} : ItOk K (Itt K a) ds (fun M H => Dq K M H (.tuple ds) (.ref a)) where
  stay := fun M H M' H' s h => Dq.step s _ _ h
  go := fun M H i h hi => by
    obtain ⟨a', xs, e, h1, h2⟩ := Dq.sqT h
    cases e
    obtain ⟨v, q, _⟩ := h2.get (List.getElem?_eq_getElem hi)
    exact ⟨xs, v, h1, q⟩
  yld := fun M H i x H' _ h _ y => by
    obtain ⟨a', xs, e, h1, h2⟩ := Dq.sqT h
    cases e
    obtain ⟨e, y⟩ := y
    subst e
    obtain ⟨d, q1, q2⟩ := h2.get' (y xs h1)
    exact ⟨Gr.refl _, d, q1, q2⟩
  stop := fun M H h => by
    obtain ⟨a', xs, e, h1, h2⟩ := Dq.sqT h
    cases e
    exact ⟨xs, h1, Nat.le_of_eq h2.len⟩
def rgD (lo : Int) (n : Nat) : List D := (List.range n).map fun i => .int (lo + (i : Nat))
theorem rgD_len (lo : Int) (n : Nat) : (rgD lo n).length = n := by unfold rgD; simp
theorem it_rng {lo : Int} {n : Nat} : ItOk K (Itr lo n) (rgD lo n) (fun _ _ => True) where
  stay := fun _ _ _ _ _ h => h
  go := fun M H i _ hi => by rw [rgD_len] at hi; exact hi
  yld := fun M H i x H' _ h hi y => by
    obtain ⟨e, y⟩ := y
    subst e y
    rw [rgD_len] at hi
    refine ⟨Gr.refl _, .int (lo + (i : Nat)), ?_, rfl⟩
    unfold rgD
    simp [hi]
  stop := fun M H _ => by rw [rgD_len]; exact Nat.le_refl n
/-- pairs of the items -/
def zipD : List D → List D → List D
  | a :: as, b :: bs => .tuple [a, b] :: zipD as bs
  | _, _ => []
theorem zipD_len : ∀ (as bs : List D), (zipD as bs).length = min as.length bs.length
  | [], _ => by simp [zipD]
  | _ :: _, [] => by simp [zipD]
  | a :: as, b :: bs => by simp [zipD, zipD_len as bs]
theorem zipD_get : ∀ (as bs : List D) (i : Nat) (a b : D), as[i]? = some a → bs[i]? = some b → (zipD as bs)[i]? = some (.tuple [a, b])
  | [], _, i, a, b, h, _ => by simp at h
  | _ :: _, [], i, a, b, _, h => by simp at h
  | x :: as, y :: bs, 0, a, b, h1, h2 => by simp at h1 h2; subst h1 h2; rfl
  | x :: as, y :: bs, i + 1, a, b, h1, h2 => by
    have := zipD_get as bs i a b (by simpa using h1) (by simpa using h2)
    simpa [zipD] using this
def enumD (k : Nat) : List D → List D
  | [] => []
  | d :: ds => .tuple [.int (k : Nat), d] :: enumD (k + 1) ds
theorem enumD_len : ∀ (ds : List D) (k : Nat), (enumD k ds).length = ds.length
  | [], _ => rfl
  | d :: ds, k => by simp [enumD, enumD_len ds]
theorem enumD_get : ∀ (ds : List D) (k i : Nat) (d : D), ds[i]? = some d → (enumD k ds)[i]? = some (.tuple [.int ((k + i : Nat) : Nat), d])
  | [], _, i, d, h => by simp at h
  | x :: ds, k, 0, d, h => by simp at h; subst h; simp [enumD]
  | x :: ds, k, i + 1, d, h => by
    have := enumD_get ds (k + 1) i d (by simpa using h)
    rw [show k + 1 + i = k + (i + 1) by omega] at this
    simpa [enumD] using this
theorem new_pair {M : Ms} {H : Hp} {T : Addr} {x y : V} {a b : D} (t : ∀ a, M a → ∃ xs, H a = some (.lst xs)) (n : H T = none) (h1 : Dq K M H a x) (h2 : Dq K M H b y) : Gr H (upd H T (.tup [x, y])) ∧ Dq K M (upd H T (.tup [x, y])) (.tuple [a, b]) (.ref T) := by
  obtain ⟨g, q⟩ := ResD.tup (K := K) (ds := [a, b]) n t (.cons h1 (.one h2))
  exact ⟨g, q⟩
theorem it_zip {a b : Addr} {as bs : List D} : ItOk K (Itz K a b) (zipD as bs) (fun M H => Dq K M H (.list as) (.ref a) ∧ Dq K M H (.list bs) (.ref b)) where
  stay := fun M H M' H' s h => ⟨Dq.step s _ _ h.1, Dq.step s _ _ h.2⟩
  go := fun M H i h hi => by
    obtain ⟨⟨a', xs, e, ⟨h1, _⟩, h2⟩, ⟨b', ys, e', ⟨g1, _⟩, g2⟩⟩ := h
    cases e; cases e'
    rw [zipD_len] at hi
    obtain ⟨v, q, _⟩ := h2.get (List.getElem?_eq_getElem (by omega : i < as.length))
    obtain ⟨u, q', _⟩ := g2.get (List.getElem?_eq_getElem (by omega : i < bs.length))
    exact ⟨xs, ys, v, u, SqL.of h1, SqL.of g1, q, q'⟩
  yld := fun M H i x H' t h hi y => by
    obtain ⟨⟨a', xs, e, ⟨h1, _⟩, h2⟩, ⟨b', ys, e', ⟨g1, _⟩, g2⟩⟩ := h
    cases e; cases e'
    obtain ⟨T, u, v, rfl, n, rfl, y1, y2⟩ := y
    obtain ⟨d, q1, q2⟩ := h2.get' (y1 xs (SqL.of h1))
    obtain ⟨d', q3, q4⟩ := g2.get' (y2 ys (SqL.of g1))
    obtain ⟨g, dq⟩ := new_pair t n q2 q4
    exact ⟨g, _, zipD_get _ _ _ _ _ q1 q3, dq⟩
  stop := fun M H h => by
    obtain ⟨⟨a', xs, e, ⟨h1, _⟩, h2⟩, ⟨b', ys, e', ⟨g1, _⟩, g2⟩⟩ := h
    cases e; cases e'
    refine ⟨xs, ys, SqL.of h1, SqL.of g1, ?_⟩
    rw [zipD_len, h2.len, g2.len]
    omega
theorem it_zipT {a b : Addr} {as bs : List D} : ItOk K (RZ.ItzT K a b) (zipD as bs) (fun M H => Dq K M H (.tuple as) (.ref a) ∧ Dq K M H (.tuple bs) (.ref b)) where
  stay := fun M H M' H' s h => ⟨Dq.step s _ _ h.1, Dq.step s _ _ h.2⟩
  go := fun M H i h hi => by
    obtain ⟨h, g⟩ := h
    obtain ⟨a', xs, e, h1, h2⟩ := Dq.sqT h
    obtain ⟨b', ys, e', g1, g2⟩ := Dq.sqT g
    cases e; cases e'
    rw [zipD_len] at hi
    obtain ⟨v, q, _⟩ := h2.get (List.getElem?_eq_getElem (by omega : i < as.length))
    obtain ⟨u, q', _⟩ := g2.get (List.getElem?_eq_getElem (by omega : i < bs.length))
    exact ⟨xs, ys, v, u, h1, g1, q, q'⟩
  yld := fun M H i x H' t h hi y => by
    obtain ⟨h, g⟩ := h
    obtain ⟨a', xs, e, h1, h2⟩ := Dq.sqT h
    obtain ⟨b', ys, e', g1, g2⟩ := Dq.sqT g
    cases e; cases e'
    obtain ⟨T, u, v, rfl, n, rfl, y1, y2⟩ := y
    obtain ⟨d, q1, q2⟩ := h2.get' (y1 xs h1)
    obtain ⟨d', q3, q4⟩ := g2.get' (y2 ys g1)
    obtain ⟨g, dq⟩ := new_pair t n q2 q4
    exact ⟨g, _, zipD_get _ _ _ _ _ q1 q3, dq⟩
  stop := fun M H h => by
    obtain ⟨h, g⟩ := h
    obtain ⟨a', xs, e, h1, h2⟩ := Dq.sqT h
    obtain ⟨b', ys, e', g1, g2⟩ := Dq.sqT g
    cases e; cases e'
    refine ⟨xs, ys, h1, g1, ?_⟩
    rw [zipD_len, h2.len, g2.len]
    omega
theorem it_enum {a : Addr} {ds : List D} : ItOk K (Ite K a) (enumD 0 ds) (fun M H => Dq K M H (.list ds) (.ref a)) where
  stay := fun M H M' H' s h => Dq.step s _ _ h
  go := fun M H i h hi => by
    obtain ⟨a', xs, e, ⟨h1, _⟩, h2⟩ := h
    cases e
    rw [enumD_len] at hi
    obtain ⟨v, q, _⟩ := h2.get (List.getElem?_eq_getElem hi)
    exact ⟨xs, v, SqL.of h1, q⟩
  yld := fun M H i x H' t h hi y => by
    obtain ⟨a', xs, e, ⟨h1, _⟩, h2⟩ := h
    cases e
    obtain ⟨T, u, rfl, n, rfl, y1⟩ := y
    obtain ⟨d, q1, q2⟩ := h2.get' (y1 xs (SqL.of h1))
    obtain ⟨g, dq⟩ := new_pair (K := K) (a := .int (i : Nat)) t n rfl q2
    refine ⟨g, _, enumD_get ds 0 i d q1, ?_⟩
    rw [Nat.zero_add]
    exact dq
  stop := fun M H h => by
    obtain ⟨a', xs, e, ⟨h1, _⟩, h2⟩ := h
    cases e
    exact ⟨xs, SqL.of h1, by rw [enumD_len, h2.len]; exact Nat.le_refl _⟩

/-! enumerate of a tuple: the library has lists and texts -/
def IteT (K : PySem.W.Frag) (a : Addr) : It :=
  ⟨fun i H => ∃ (xs : List V) (x : V), SqT K H a xs ∧ xs[i]? = some x,
   fun i H v H' => ∃ T x, v = .ref T ∧ H T = none ∧ H' = upd H T (.tup [.int (i : Nat), x]) ∧ ∀ xs, SqT K H a xs → xs[i]? = some x,
   fun i H => ∃ xs : List V, SqT K H a xs ∧ i = xs.length⟩
theorem it_enumT {a : Addr} {ds : List D} : ItOk K (IteT K a) (enumD 0 ds) (fun M H => Dq K M H (.tuple ds) (.ref a)) where
  stay := fun M H M' H' s h => Dq.step s _ _ h
  go := fun M H i h hi => by
    obtain ⟨a', xs, e, h1, h2⟩ := Dq.sqT h
    cases e
    rw [enumD_len] at hi
    obtain ⟨v, q, _⟩ := h2.get (List.getElem?_eq_getElem hi)
    exact ⟨xs, v, h1, q⟩
  yld := fun M H i x H' t h hi y => by
    obtain ⟨a', xs, e, h1, h2⟩ := Dq.sqT h
    cases e
    obtain ⟨T, u, rfl, n, rfl, y1⟩ := y
    obtain ⟨d, q1, q2⟩ := h2.get' (y1 xs h1)
    obtain ⟨g, dq⟩ := new_pair (K := K) (a := .int (i : Nat)) t n rfl q2
    refine ⟨g, _, enumD_get ds 0 i d q1, ?_⟩
    rw [Nat.zero_add]
    exact dq
  stop := fun M H h => by
    obtain ⟨a', xs, e, h1, h2⟩ := Dq.sqT h
    cases e
    exact ⟨xs, h1, by rw [enumD_len, h2.len]⟩
end
end PV
namespace PV
open PySem PySem.Spec PyProof.Rows L2
set_option maxRecDepth 100000 in
theorem meets_enumT (l : Addr) (items : Array Value) (n : Nat) (dct : Option Addr) (sl : Array (Option Value)) :
    Meets (Builtin.«enumerate.__new__» ⟨[.type "enumerate", .ref l], []⟩) (fun _ R s => s.heap.get? l = some { cls := .type "tuple", dict := dct, data := .seq items n, slots := sl } ∧
      R (.ok (.ret (.ref (s.heap.push { cls := .type "tuple_iterator", data := .fields #[.ref l, .int 0 0] }).objs.size)))
        { s with heap := (s.heap.push { cls := .type "tuple_iterator", data := .fields #[.ref l, .int 0 0] }).push { cls := .type "enumerate", data := .fields #[.none, .bool false, .ref s.heap.objs.size, rawInt 0, .none, .none] } }) :=
  .of_wp fun prog w A R s h => by
    obtain ⟨hp, g, d, tk, os⟩ := s
    obtain ⟨hl, h⟩ := h
    have hsub := sub_enumerate
    have hT : Heap.IsTuple (Shared.heap ⟨hp, g, d, tk, os⟩) l items := ⟨_, hl, rfl, n, rfl⟩
    wp_walk using AutoSeq1.wpAny_loadPart' hl
    refine wpAny_stack_any fun st => wpAny_pure ?_
    split
    · rename_i c _ _ _ _ _
      cases (c == Value.type "enumerate")
      · wp_walk using AutoSeq1.wpAny_loadPart' hl, wpAny_pyIter_tuple hT
        exact ⟨_, rfl, h⟩
      · wp_walk using AutoSeq1.wpAny_loadPart' hl, wpAny_pyIter_tuple hT
        exact ⟨_, rfl, h⟩
    · wp_walk using AutoSeq1.wpAny_loadPart' hl, wpAny_pyIter_tuple hT
      exact ⟨_, rfl, h⟩
section
variable {prog : Program} {w : World} {A : Around} {E : Value → Shared → Prop} {s : Shared}
theorem call_enumT {l : Addr} {items : Array Value} {Q : Value → Shared → Prop} (hL : s.heap.IsTuple l items)
    (h : ∀ h', IsEnum h' (s.heap.objs.size + 1) s.heap.objs.size 0 .none → h'.IsTupleIter s.heap.objs.size l 0 →
      (∀ b o, s.heap.get? b = some o → h'.get? b = some o) → Q (.ref (s.heap.objs.size + 1)) { s with heap := h' }) :
    wpAny (model prog w) A (call (.type "enumerate") [.ref l]) Q E s := by
  obtain ⟨⟨c, dct, dt, sl⟩, hl, hc, n, hd⟩ := hL
  have hc : c = .type "tuple" := hc
  have hd : dt = .seq items n := hd
  subst hc hd
  have hz : (s.heap.push { cls := .type "tuple_iterator", data := .fields #[.ref l, .int 0 0] }).objs.size = s.heap.objs.size + 1 := Heap.size_push ..
  refine callType_new F.called_enumerate (by decide) (F.typeCall_enumerate_1 _) (F.newCall_enumerate_1 _) (fun obj => F.args_object_init_2 obj _) F.entry_enumerate_new (meets_enumT l items n dct sl) ⟨hl, ?_⟩
  show _ ∧ _
  have he := Heap.get?_push_size (s.heap.push { cls := .type "tuple_iterator", data := .fields #[.ref l, .int 0 0] })
      (o := { cls := .type "enumerate", data := .fields #[.none, .bool false, .ref s.heap.objs.size, rawInt 0, .none, .none] }) rfl
  rw [hz] at he ⊢
  exact ⟨⟨_, he, rfl⟩, h _ he ⟨_, Heap.get?_push_of_some _ (Heap.get?_push_size _ rfl), rfl, rfl⟩ fun b o x => Heap.get?_push_of_some _ (Heap.get?_push_of_some _ x)⟩
end
theorem turn_enumT {P : Program} {w : World} {K : PySem.W.Frag} {elts : List Expr} {kk : Nat} {tpos : Pos} (a e it : Addr) (hta : a ≠ it) (hea : e ≠ a) :
    Turn P w K (.Tuple elts kk tpos) (IteT K a) [e, it] e (fun i h => (∃ old, IsEnum h e it ((i : Nat) : Int) old) ∧ h.IsTupleIter it a i ∧ e ≠ it) where
  mem := by simp
  obj := fun i h st b hb => by
    obtain ⟨⟨old, he⟩, ⟨o, ho, hc, hd⟩, _⟩ := st
    rcases List.mem_cons.mp hb with z | z
    · rw [z]; exact ⟨_, he, fun v q => nomatch q⟩
    · rw [List.mem_singleton.mp z]; exact ⟨o, ho, fun v q => by rw [hd] at q; cases q⟩
  keep := fun i h h' st k => by
    obtain ⟨⟨old, he⟩, hi, hne⟩ := st
    exact ⟨⟨old, k e (by simp) _ he⟩, hi.at fun o q => k it (by simp) o q, hne⟩
  item := by
    intro X hP hw hK hc i pins s σ H E I hf st hg
    subst hP hw hK
    obtain ⟨⟨old, he⟩, hit, hne⟩ := st
    obtain ⟨xs, x, hq, hx⟩ := hg
    obtain ⟨its, rv, p, hz⟩ := I.tuple hq
    obtain ⟨u, hu, ru⟩ := rv.get hx
    have hel : e < s.heap.objs.size := Heap.lt_size he
    have hil : it < s.heap.objs.size := by obtain ⟨_, q, _⟩ := hit; exact Heap.lt_size q
    have hlen : i < its.toArray.size := by
      have := (List.getElem?_eq_some_iff.mp hu).1
      simpa using this
    refine wpAny_pyNext_enum_itemD (Draws.tuple (prog := X.prog) (w := X.w) (A := X.A.in1) (by exact I.ok.hd hc) it a hta its.toArray) he ⟨hit, p⟩ hlen hne (by simp [hne, hea]) fun y h' tk hy ho st' hT hsz hk => ?_
    have ey : y = u := by
      have hy : its.toArray[i]? = some y := hy
      rw [show its.toArray[i]? = some u by simpa using hu] at hy
      exact (Option.some.inj hy).symm
    subst ey
    refine ⟨_, rfl, wpAny_letOwnedTupleGo_enum (s := { s with heap := h', toks := tk + 1 }) ho fun h'' he' sb => ?_⟩
    have hT2 : h''.get? s.heap.objs.size = some { cls := .type "tuple", data := .seq #[.int i tk, y] } := (sb.2 _ (Nat.ne_of_gt hel)).trans hT
    have new : ObjOk X.prog X.w (upd H s.heap.objs.size (.tup [.int (i : Nat), x])) h'' s.heap.objs.size (.tup [.int (i : Nat), x]) :=
      ⟨by show 2 ≤ sizeLine; decide, [.int i tk, y], .cons ⟨_, rfl⟩ (.cons ru .nil), ⟨_, hT2, rfl, _, rfl⟩⟩
    have I1 : Inv X pins σ (upd H s.heap.objs.size (.tup [.int (i : Nat), x])) { s with heap := h'', toks := tk + 1 } :=
      Inv.turnedNew I (ch := [e, it]) (fun b ob hb q => (sb.2 b (fun z => hb (by simp [z]))).trans (hk b ob (fun z => hb (by simp [z])) (fun z => hb (by simp [z])) q)) hf (Nat.le_refl _) new
    refine ⟨.ref s.heap.objs.size, _, I1, rfl, ⟨_, x, rfl, I.hok.fresh (Nat.le_refl _), rfl, fun ys hy => by rw [I.tuple_inj hy hq]; exact hx⟩, ⟨⟨y, ?_⟩, st'.1.at fun o q => (sb.2 it (Ne.symm hne)).trans q, hne⟩, fun b hb => ?_⟩
    · have e1 : ((i + 1 : Nat) : Int) = (i : Int) + 1 := by omega
      rw [e1]
      exact he'
    · have hb' : b < s.heap.objs.size := by
        rcases List.mem_cons.mp hb with z | z
        · rw [z]; exact hel
        · rw [List.mem_singleton.mp z]; exact hil
      rw [upd_ne (Nat.ne_of_lt hb')]
      exact (hf b hb).1
  done := by
    intro X hP hw hK hc i pins s σ H E I hf st hg
    subst hP hw hK
    obtain ⟨⟨old, he⟩, hit, hne⟩ := st
    obtain ⟨xs, hq, hx⟩ := hg
    obtain ⟨its, rv, p, hz⟩ := I.tuple hq
    obtain ⟨f0, f1, f2, f3, f4, f5⟩ := hf it (by simp)
    have hl := rv.length
    have e1 : i = its.toArray.size := by simp; omega
    exact wpAny_pyNext_enum_endD (Draws.tuple (prog := X.prog) (w := X.w) (A := X.A.in1) (by exact I.ok.hd hc) it a hta its.toArray) he ⟨by rw [← e1]; exact hit, p⟩ fun h' eb => ⟨rfl, I.turned (t' := s.toks) (fun b o hb q => eb b o hb q) f0 f1 f3 f4 f5⟩
  self := fun A i s Q E st h => by
    obtain ⟨⟨_, he⟩, _⟩ := st
    exact wpAny_pyIter_enum he h
end PV
set_option Elab.async false
set_option linter.all false
set_option autoImplicit false
set_option maxRecDepth 100000
set_option maxHeartbeats 4000000
/-! PVg: the walked things by rule, for, list comprehensions. -/
namespace PV
open PySem PySem.Spec PyProof.Rows L2
section
variable {X : Cx} {e a b c tg iter : Expr} {pos p2 p : Pos} {ea eb : Ev}
def eIter (ev : Ev) : Ei := fun ρ => match ev ρ with
  | some (.val (.list ds), r) => some (ds, r)
  | some (.val (.tuple ds), r) => some (ds, r)
  | some (.new ds, r) => some (ds, r)
  | some (.rd ds, r) => some (ds, r)
  | some (.ref b, r) => (match get b r with
    | .own ds => some (ds, put b (.val (.list ds)) r)
    | _ => none)
  | _ => none
theorem pui_seq {ev : Ev} (h : PU X e ev) : PUI X tg e (eIter ev) :=
  PI.imp' (PI.or' (pi_list h) (pi_tup h)) fun σ H R ⟨F, M, ρ, ds, ρ', Rl, q, k⟩ => by
    unfold eIter at q
    split at q
    · rename_i ds' r h1
      cases q
      refine .inl ⟨F, M, ρ, _, _, Rl, h1, fun v M' H' s R' ok => ?_⟩
      have ok' : Dq X.K M' H' (.list ds) v := ok
      obtain ⟨a, xs, e, ⟨h2, _⟩, _⟩ := ok
      subst e
      exact ⟨a, rfl, ⟨xs, SqL.of h2⟩, k _ _ M' H' s R' it_list ok'⟩
    · rename_i ds' r h1
      cases q
      refine .inr ⟨F, M, ρ, _, _, Rl, h1, fun v M' H' s R' ok => ?_⟩
      have ok' : Dq X.K M' H' (.tuple ds) v := ok
      obtain ⟨a, xs, e, h2, _⟩ := Dq.sqT ok'
      subst e
      exact ⟨a, rfl, ⟨xs, h2⟩, k _ _ M' H' s R' it_tup ok'⟩
    · rename_i ds' r h1
      cases q
      refine .inl ⟨F, M, ρ, _, _, Rl, h1, fun v M' H' s R' ok => ?_⟩
      obtain ⟨M2, s2, R2, ok'⟩ := fix_new R' ok
      obtain ⟨a, xs, e, ⟨h2, n2⟩, dq⟩ := ok'
      subst e
      exact ⟨a, rfl, ⟨xs, SqL.of h2⟩, k _ _ M2 H' (s.trans s2) R2 it_list ⟨a, xs, rfl, ⟨h2, n2⟩, dq⟩⟩
    · rename_i ds' r h1
      cases q
      refine .inl ⟨F, M, ρ, _, _, Rl, h1, fun v M' H' s R' ok => ?_⟩
      obtain ⟨a, xs, e, h2, dq⟩ := ok
      subst e
      have rd : RdAt X.K M' H' ds a := ⟨xs, h2, dq⟩
      obtain ⟨ys, h3, _⟩ := rd.sq
      exact ⟨a, rfl, ⟨ys, h3⟩, k _ _ M' H' s R' it_rd rd⟩
    · rename_i b r h1
      split at q
      · rename_i ds' h2
        cases q
        refine .inl ⟨F, M, ρ, _, _, Rl, h1, fun v M' H' s R' ok => ?_⟩
        have g' : r[b.n]? = some (.own ds) := get_some h2 (fun z => nomatch z)
        obtain ⟨a, M2, e1, s2, dq, R2⟩ := R'.freeze g'
        have ok : σ[b.n]? = some (some v) := ok
        rw [ok] at e1
        cases e1
        rw [put_n] at k
        have dq' := dq
        obtain ⟨a', xs, e, ⟨h2, _⟩, _⟩ := dq
        cases e
        exact ⟨a, rfl, ⟨xs, SqL.of h2⟩, k _ _ M2 H' (s.trans s2) R2 it_list dq'⟩
      · cases q
    · cases q
/-- what several written arguments are, all values -/
def eVals (ea : Ea) : Rho → Option (List D × Rho) := fun ρ => match ea ρ with
  | some (avs, r) => (match valsOf avs with
    | some ds => some (ds, r)
    | none => none)
  | none => none
def small62 (i : Int) : Bool := decide (i.natAbs < 4611686018427387904)
theorem small62_ok {i : Int} (h : small62 i = true) : -(2 ^ 62) ≤ i ∧ i < 2 ^ 62 := by
  unfold small62 at h
  rw [decide_eq_true_eq] at h
  omega
def eRange1 (ea : Ea) : Ei := fun ρ => match eVals ea ρ with
  | some ([.int n], r) => if small62 n then some (rgD 0 n.toNat, r) else none
  | _ => none
def eRange2 (ea : Ea) : Ei := fun ρ => match eVals ea ρ with
  | some ([.int i, .int j], r) => if small62 i && small62 j then some (rgD i (j - i).toNat, r) else none
  | _ => none
theorem eVals_inv {ee : Ea} {ρ ρ' : Rho} {ds : List D} (h : eVals ee ρ = some (ds, ρ')) : ∃ avs, ee ρ = some (avs, ρ') ∧ valsOf avs = some ds := by
  unfold eVals at h
  split at h
  · rename_i avs r h1
    split at h
    · rename_i ds' h2
      cases h
      exact ⟨avs, h1, h2⟩
    · cases h
  · cases h
theorem pui_range1 {ee : Ea} (hg : Gl X "range") (hm : X.mg "range" = none) (ha : PUA X [a] ee) (hs : starEach [a] X.env = [(false, eval a X.env)] := by rfl) : PUI X tg (.Call (.Name "range" p) [a] [] pos) (eRange1 ee) :=
  PI.imp' (pi_range1 hg hm ha hs) fun σ H R ⟨F, M, ρ, ds, ρ', Rl, q, k⟩ => by
    unfold eRange1 at q
    split at q
    · rename_i n r h1
      split at q
      · rename_i hz
        cases q
        obtain ⟨avs, h2, h3⟩ := eVals_inv h1
        obtain ⟨z1, z2⟩ := small62_ok hz
        exact ⟨F, M, ρ, avs, _, Rl, h2, fun vs M' H' s R' ok => ⟨n, (valsOf_ok h3 ok).ints (is := [n]), z1, z2, k _ _ M' H' s R' it_rng trivial⟩⟩
      · cases q
    · cases q
theorem pui_range2 {ee : Ea} (hg : Gl X "range") (hm : X.mg "range" = none) (ha : PUA X [a, b] ee) (hs : starEach [a, b] X.env = [(false, eval a X.env), (false, eval b X.env)] := by rfl) (hs2 : starEach [b] X.env = [(false, eval b X.env)] := by rfl) :
    PUI X tg (.Call (.Name "range" p) [a, b] [] pos) (eRange2 ee) :=
  PI.imp' (pi_range2 hg hm ha hs hs2) fun σ H R ⟨F, M, ρ, ds, ρ', Rl, q, k⟩ => by
    unfold eRange2 at q
    split at q
    · rename_i i j r h1
      split at q
      · rename_i hz
        cases q
        obtain ⟨avs, h2, h3⟩ := eVals_inv h1
        obtain ⟨y1, y2⟩ := Bool.and_eq_true_iff.mp hz
        obtain ⟨z1, z2⟩ := small62_ok y1
        obtain ⟨z3, z4⟩ := small62_ok y2
        exact ⟨F, M, ρ, avs, _, Rl, h2, fun vs M' H' s R' ok => ⟨i, j, (valsOf_ok h3 ok).ints (is := [i, j]), ⟨z1, z2, z3, z4⟩, k _ _ M' H' s R' it_rng trivial⟩⟩
      · cases q
    · cases q
theorem DqAll.two {K : PySem.W.Frag} {M : Ms} {H : Hp} {d d' : D} {vs : List V} (h : DqAll K M H [d, d'] vs) : ∃ v u, vs = [v, u] ∧ Dq K M H d v ∧ Dq K M H d' u := by
  obtain ⟨v, us, rfl, h1, u, ws, rfl, h2, e⟩ := h
  cases e
  exact ⟨v, u, rfl, h1, h2⟩
def eZip (ea : Ea) : Ei := fun ρ => match eVals ea ρ with
  | some ([.list as, .list bs], r) => some (zipD as bs, r)
  | some ([.tuple as, .tuple bs], r) => some (zipD as bs, r)
  | _ => none
theorem pui_zip {ee : Ea} {elts : List Expr} {kk : Nat} (hg : Gl X "zip") (hm : X.mg "zip" = none) (ha : PUA X [a, b] ee)
    (hs : starEach [a, b] X.env = (false, eval a X.env) :: starEach [b] X.env := by rfl) (hpl : (backTo pos (starEach [b] X.env)).any (·.1) = false := by rfl) :
    PUI X (.Tuple elts kk p2) (.Call (.Name "zip" p) [a, b] [] pos) (eZip ee) :=
  PI.imp' (RZ.pi_zipA hg hm ha hs hpl) fun σ H R ⟨F, M, ρ, ds, ρ', Rl, q, k⟩ => by
    unfold eZip at q
    split at q
    · rename_i as bs r h1
      cases q
      obtain ⟨avs, h2, h3⟩ := eVals_inv h1
      refine ⟨F, M, ρ, avs, _, Rl, h2, fun vs M' H' s R' ok => ?_⟩
      obtain ⟨v, u, rfl, d1, d2⟩ := (valsOf_ok h3 ok).two
      have e1 := d1
      have e2 := d2
      obtain ⟨x, xs, rfl, ⟨l1, _⟩, _⟩ := d1
      obtain ⟨y, ys, rfl, ⟨l2, _⟩, _⟩ := d2
      exact ⟨x, y, xs, ys, rfl, .inl ⟨SqL.of l1, SqL.of l2, k _ _ M' H' s R' it_zip ⟨e1, e2⟩⟩⟩
    · rename_i as bs r h1
      cases q
      obtain ⟨avs, h2, h3⟩ := eVals_inv h1
      refine ⟨F, M, ρ, avs, _, Rl, h2, fun vs M' H' s R' ok => ?_⟩
      obtain ⟨v, u, rfl, d1, d2⟩ := (valsOf_ok h3 ok).two
      obtain ⟨x, xs, e3, l1, _⟩ := Dq.sqT d1
      obtain ⟨y, ys, e4, l2, _⟩ := Dq.sqT d2
      subst e3 e4
      exact ⟨x, y, xs, ys, rfl, .inr ⟨l1, l2, k _ _ M' H' s R' it_zipT ⟨d1, d2⟩⟩⟩
    · cases q
def iEnumT (K : PySem.W.Frag) (ta : TA) : TI := fun σ H R => ta σ H fun vs H1 => ∃ a xs, vs = [.ref a] ∧ SqT K H1 a xs ∧ R (IteT K a) H1
theorem pi_enumT {ta : TA} {elts : List Expr} {kk : Nat} (hg : Gl X "enumerate") (hm : X.mg "enumerate" = none) (ha : PA X [e] ta) (hs : starEach [e] X.env = [(false, eval e X.env)] := by rfl) :
    PI X (.Tuple elts kk p2) (.Call (.Name "enumerate" p) [e] [] pos) (iEnumT X.K ta) := by
  refine ⟨fun pins s σ H R I h => Call_ (ld_blt I hg hm boot_enumerate (PyProof.Rows.callWith_type1 (thn (ha.run pos pins s σ H _ I h) fun us s1 ⟨vs, H1, I1, r1, q1⟩ => ?_) hs rfl))⟩
  obtain ⟨a, xs, ex, hq, q⟩ := q1
  subst ex
  cases r1 with
  | cons r rr =>
    cases rr
    cases r
    obtain ⟨its, rv, p', hz⟩ := I1.tuple hq
    have hlt := p'.lt
    refine call_enumT (show s1.heap.IsTuple a its.toArray from p') fun h' he hit hk => wpAny_pyIter_enum he ?_
    have I2 : Inv X pins σ H1 { s1 with heap := h' } := I1.kept (t' := s1.toks) hk
    refine ⟨s1.heap.objs.size + 1, [s1.heap.objs.size + 1, s1.heap.objs.size], _, _, H1, rfl, I2, turn_enumT a (s1.heap.objs.size + 1) s1.heap.objs.size (Nat.ne_of_lt hlt) (Nat.ne_of_gt (Nat.lt_succ_of_lt hlt)), ⟨⟨.none, he⟩, hit, Nat.succ_ne_self _⟩, fun b hb => ?_, q⟩
    have hle : s1.heap.objs.size ≤ b := by
      rcases List.mem_cons.mp hb with z | z
      · rw [z]; exact Nat.le_succ _
      · rw [List.mem_singleton.mp z]; exact Nat.le_refl _
    exact I1.fpOk hle (I1.hok.fresh hle)
def eEnum (ea : Ea) : Ei := fun ρ => match eVals ea ρ with
  | some ([.list ds], r) => some (enumD 0 ds, r)
  | some ([.tuple ds], r) => some (enumD 0 ds, r)
  | _ => none
theorem pui_enum {ee : Ea} {elts : List Expr} {kk : Nat} (hg : Gl X "enumerate") (hm : X.mg "enumerate" = none) (ha : PUA X [a] ee) (hs : starEach [a] X.env = [(false, eval a X.env)] := by rfl) :
    PUI X (.Tuple elts kk p2) (.Call (.Name "enumerate" p) [a] [] pos) (eEnum ee) :=
  PI.imp' (PI.or' (pi_enum hg hm ha hs) (pi_enumT hg hm ha hs)) fun σ H R ⟨F, M, ρ, ds, ρ', Rl, q, k⟩ => by
    unfold eEnum at q
    split at q
    · rename_i as r h1
      cases q
      obtain ⟨avs, h2, h3⟩ := eVals_inv h1
      refine .inl ⟨F, M, ρ, avs, _, Rl, h2, fun vs M' H' s R' ok => ?_⟩
      obtain ⟨v, us, rfl, d1, e⟩ := valsOf_ok h3 ok
      cases e
      have e1 := d1
      obtain ⟨x, xs, rfl, ⟨l1, _⟩, _⟩ := d1
      exact ⟨x, xs, rfl, SqL.of l1, k _ _ M' H' s R' it_enum e1⟩
    · rename_i as r h1
      cases q
      obtain ⟨avs, h2, h3⟩ := eVals_inv h1
      refine .inr ⟨F, M, ρ, avs, _, Rl, h2, fun vs M' H' s R' ok => ?_⟩
      obtain ⟨v, us, rfl, d1, e⟩ := valsOf_ok h3 ok
      cases e
      obtain ⟨x, xs, e3, l1, _⟩ := Dq.sqT d1
      subst e3
      exact ⟨x, xs, rfl, l1, k _ _ M' H' s R' it_enumT d1⟩
    · cases q

/-! ### for -/
def evFor (g : Gd) (body : Es) (ks : List Ix) : List D → Rho → Option Fl
  | [], ρ => some (.nx ρ)
  | d :: ds, ρ => match g d ρ with
    | none => none
    | some r1 => match body r1 with
      | some (.nx r2) => evFor g body ks ds (killAll ks r2)
      | some (.ct r2) => evFor g body ks ds (killAll ks r2)
      | some (.bk r2) => some (.nx r2)
      | some (.rt d r2) => some (.rt d r2)
      | some (.rtN d r2) => some (.rtN d r2)
      | none => none
def sFor (ei : Ei) (g : Gd) (body : Es) (ks : List Ix) : Es := fun ρ => match ei ρ with
  | some (ds, r) => evFor g body ks ds (killAll ks r)
  | none => none
theorem pus_for {ei : Ei} {g : Gd} {ws : List Nat} {body : List Stmt} {eb : Es} (ks : List Ix) (hp : PassesOwn (model X.prog X.w) X.A X.env X.xe) (hc : X.calm = true) (hi : PUI X tg iter ei) (hg : PUG X tg g ws) (hb : PUSs X body eb)
    (hs : ∀ x, foldedSetIterable iter X.env x = pure x := by intro _; rfl) : PUS X (.For tg iter body [] pos) (sFor ei g eb ks) :=
  (ps_for hp hc hi hg hb hs).imp fun E σ H ⟨F, M, ρ, fl, R, q, k⟩ => by
    unfold sFor at q
    split at q
    · rename_i ds r h1
      refine ⟨F, M, ρ, ds, r, R, h1, fun J P M1 H1 s1 R1 it p1 => ?_⟩
      refine ⟨fun i m σ H => m = ds.length - i ∧ i ≤ ds.length ∧ ∃ M2 ρ2, Step M1 H1 M2 H ∧ Rel X.K F M2 σ H ρ2 ∧ P M2 H ∧ evFor g eb ks (ds.drop i) ρ2 = some fl, ⟨ds.length, rfl, Nat.zero_le _, M1, _, Step.refl _ _, R1.kill ks, p1, q⟩, ?_⟩
      rintro i m σ2 H2 ⟨rfl, hi, M2, ρ2, s2, R2, p2, q2⟩
      have k2 : FlOk X.K F M2 H2 E fl := (k.step s1).step s2
      by_cases hlt : i < ds.length
      · refine .inr ⟨it.go M2 H2 i p2 hlt, fun σ H => ∃ M3 ρ3, Step M2 H2 M3 H ∧ Rel X.K F M3 σ H ρ3 ∧ evFor g eb ks (ds.drop (i + 1)) (killAll ks ρ3) = some fl, fun σ' H' ⟨M3, ρ3, s3, R3, q3⟩ => ⟨ds.length - (i + 1), by omega, rfl, hlt, M3, _, s2.trans s3, R3.kill ks, it.stay _ _ _ _ s3 p2, q3⟩, fun x H3 y => ?_⟩
        obtain ⟨gr, d, hd, dq⟩ := it.yld M2 H2 i x H3 R2.trk p2 hlt y
        have e : ds.drop i = d :: ds.drop (i + 1) := by
          obtain ⟨hl, e⟩ := List.getElem?_eq_some_iff.mp hd
          rw [List.drop_eq_getElem_cons hl, e]
        rw [e] at q2
        unfold evFor at q2
        split at q2
        · cases q2
        · rename_i r1 h2
          refine ⟨F, M2, ρ2, d, r1, R2.grow gr, dq, h2, fun σ4 M4 H4 s4 R4 _ => ?_⟩
          have s5 : Step M2 H2 M4 H4 := (Step.gr gr).trans s4
          split at q2
          · rename_i r2 h3
            exact ⟨F, M4, r1, _, R4, h3, fun σ' M' H' s' R' => ⟨M', r2, s5.trans s', R', q2⟩⟩
          · rename_i r2 h3
            exact ⟨F, M4, r1, _, R4, h3, fun σ' M' H' s' R' => ⟨M', r2, s5.trans s', R', q2⟩⟩
          · rename_i r2 h3
            cases q2
            exact ⟨F, M4, r1, _, R4, h3, fun σ' M' H' s' R' => k2 σ' M' H' (s5.trans s') R'⟩
          · rename_i d2 r2 h3
            cases q2
            exact ⟨F, M4, r1, _, R4, h3, fun v σ' M' H' s' R' ok => k2 v σ' M' H' (s5.trans s') R' ok⟩
          · rename_i d2 r2 h3
            cases q2
            exact ⟨F, M4, r1, _, R4, h3, fun v σ' M' H' s' R' ok => k2 v σ' M' H' (s5.trans s') R' ok⟩
          · cases q2
      · have e : i = ds.length := by omega
        subst e
        refine .inl ⟨it.stop M2 H2 p2, ?_⟩
        rw [List.drop_length] at q2
        cases q2
        exact k2 σ2 M2 H2 (Step.refl _ _) R2
    · cases q

/-! ### while -/
def evWhile (tc : Et) (body : Es) (ks : List Ix) : Nat → Rho → Option Fl
  | 0, _ => none
  | n + 1, ρ => match tc ρ with
    | none => none
    | some (false, r) => some (.nx r)
    | some (true, r) => match body r with
      | some (.nx r2) => evWhile tc body ks n (killAll ks r2)
      | some (.ct r2) => evWhile tc body ks n (killAll ks r2)
      | some (.bk r2) => some (.nx r2)
      | some (.rt d r2) => some (.rt d r2)
      | some (.rtN d r2) => some (.rtN d r2)
      | none => none
def sWhile (n : Nat) (tc : Et) (body : Es) (ks : List Ix) : Es := fun ρ => evWhile tc body ks n (killAll ks ρ)
theorem pus_while {tc : Et} {body : List Stmt} {eb : Es} (n : Nat) (ks : List Ix) (hp : PassesOwn (model X.prog X.w) X.A X.env X.xe) (hc : PUT X c tc) (hb : PUSs X body eb) : PUS X (.While c body [] pos) (sWhile n tc eb ks) :=
  (ps_while hp hc hb).imp fun E σ H ⟨F, M, ρ, fl, R, q, k⟩ => by
    refine ⟨fun m σ' H' => ∃ M2 ρ2, Step M H M2 H' ∧ Rel X.K F M2 σ' H' ρ2 ∧ evWhile tc eb ks m ρ2 = some fl, ⟨n, M, _, Step.refl _ _, R.kill ks, q⟩, ?_⟩
    rintro m σ2 H2 ⟨M2, ρ2, s2, R2, q2⟩
    have k2 : FlOk X.K F M2 H2 E fl := k.step s2
    cases m with
    | zero => cases q2
    | succ m =>
      unfold evWhile at q2
      split at q2
      · cases q2
      · rename_i r h1
        cases q2
        exact ⟨F, M2, ρ2, _, r, R2, h1, fun M' H' s' R' => iteF (k2 σ2 M' H' s' R')⟩
      · rename_i r h1
        refine ⟨F, M2, ρ2, _, r, R2, h1, fun M' H' s' R' => iteT ?_⟩
        refine ⟨fun σ H => ∃ M3 ρ3, Step M2 H2 M3 H ∧ Rel X.K F M3 σ H ρ3 ∧ evWhile tc eb ks m (killAll ks ρ3) = some fl, fun σ' H' ⟨M3, ρ3, s3, R3, q3⟩ => ⟨m, Nat.lt_succ_self _, M3, _, s2.trans s3, R3.kill ks, q3⟩, ?_⟩
        split at q2
        · rename_i r2 h3
          exact ⟨F, M', r, _, R', h3, fun σ' M4 H4 s4 R4 => ⟨M4, r2, s'.trans s4, R4, q2⟩⟩
        · rename_i r2 h3
          exact ⟨F, M', r, _, R', h3, fun σ' M4 H4 s4 R4 => ⟨M4, r2, s'.trans s4, R4, q2⟩⟩
        · rename_i r2 h3
          cases q2
          exact ⟨F, M', r, _, R', h3, fun σ' M4 H4 s4 R4 => k2 σ' M4 H4 (s'.trans s4) R4⟩
        · rename_i d2 r2 h3
          cases q2
          exact ⟨F, M', r, _, R', h3, fun v σ' M4 H4 s4 R4 ok => k2 v σ' M4 H4 (s'.trans s4) R4 ok⟩
        · rename_i d2 r2 h3
          cases q2
          exact ⟨F, M', r, _, R', h3, fun v σ' M4 H4 s4 R4 ok => k2 v σ' M4 H4 (s'.trans s4) R4 ok⟩
        · cases q2

/-! ### list comprehensions -/
def evComp (g : Gd) (tt : Et) (ee : Ev) (own : List Ix) : List D → Rho → Option (List D × Rho)
  | [], ρ => some ([], ρ)
  | d :: ds, ρ => match g d ρ with
    | none => none
    | some r1 => match tt r1 with
      | none => none
      | some (false, r2) => evComp g tt ee own ds (killAll own r2)
      | some (true, r2) => match eVal ee r2 with
        | some (.val y, r3) => (match evComp g tt ee own ds (killAll own r3) with
          | some (ys, r4) => some (y :: ys, r4)
          | none => none)
        | _ => none
def eComp (ei : Ei) (g : Gd) (tt : Et) (ee : Ev) (own : List Ix) : Ev := fun ρ => match ei ρ with
  | some (ds, r) => if ds.length ≤ mxL then (match evComp g tt ee own ds (killAll own r) with
    | some (ys, r2) => some (.new ys, restore own r r2)
    | none => none) else none
  | none => none
def etYes : Et := fun ρ => some (true, ρ)
theorem puts_nil : PTs X [] (tB' X.K etYes) := ⟨fun pins s σ H Q I ⟨F, M, ρ, b, ρ', R, q, k⟩ => by
  cases q
  exact pts_nil.run pins s σ H Q I (k M H (Step.refl _ _) R)⟩
theorem puts_one {tc : Et} (h : PUT X c tc) : PTs X [c] (tB' X.K tc) := pts_one h
/-- a list in the making, told apart -/
def Fx.with (F : Fx) (p : Addr) (xs : List V) : Fx := { F with pd := fun a => if a = p then some xs else F.pd a }
theorem Fx.with_at (F : Fx) (p : Addr) (xs : List V) : (F.with p xs).pd p = some xs := by
  show (if p = p then some xs else F.pd p) = some xs
  rw [if_pos rfl]
theorem Rel.with {K : PySem.W.Frag} {F : Fx} {M : Ms} {H : Hp} {σ : L2.St} {ρ : Rho} (R : Rel K F M σ H ρ) {p : Addr} {xs : List V} (h : H p = some (.lst xs)) (m : M p) (ns : ∀ (i : Nat) b, ρ[i]? = some b → b.mut = true → σ[i]? ≠ some (some (.ref p))) : Rel K (F.with p xs) M σ H ρ := by
  refine ⟨R.len, fun i o b h1 h2 => ?_, R.inj, R.trk, R.m0, R.n0, R.h0, R.keep, fun a ys q => ?_⟩
  · have sl := R.slot i o b h1 h2
    cases b with
    | no => trivial
    | val d => exact sl
    | rd d => exact sl
    | own ds =>
      obtain ⟨a, zs, e, q1, q2, q3, q4, q5⟩ := sl
      have ne : a ≠ p := fun z => by subst z; exact ns i _ h2 rfl (by rw [h1, e])
      exact ⟨a, zs, e, q1, q2, by show (if a = p then some xs else F.pd a) = none; rw [if_neg ne]; exact q3, q4, q5⟩
    | ref ds =>
      obtain ⟨zs, e, q1, q2, q3, q4, q5⟩ := sl
      have ne : F.ra i ≠ p := fun z => ns i _ h2 rfl (by rw [h1, e, z])
      exact ⟨zs, e, q1, q2, by show (if F.ra i = p then some xs else F.pd (F.ra i)) = none; rw [if_neg ne]; exact q3, q4, q5⟩
  · have q : (if a = p then some xs else F.pd a) = some ys := q
    by_cases e : a = p
    · rw [if_pos e] at q
      cases q
      subst e
      exact ⟨h, m⟩
    · rw [if_neg e] at q
      exact R.pd a ys q
theorem Rel.less {K : PySem.W.Frag} {F : Fx} {M : Ms} {H : Hp} {σ : L2.St} {ρ : Rho} {p : Addr} {xs : List V} (R : Rel K (F.with p xs) M σ H ρ) (n : F.pd p = none) : Rel K F M σ H ρ := by
  have np : ∀ a, (F.with p xs).pd a = none → F.pd a = none := fun a z => by
    have z : (if a = p then some xs else F.pd a) = none := z
    by_cases e : a = p
    · rw [if_pos e] at z; cases z
    · rw [if_neg e] at z; exact z
  refine ⟨R.len, fun i o b h1 h2 => ?_, R.inj, R.trk, R.m0, R.n0, R.h0, R.keep, fun a ys q => ?_⟩
  · have sl := R.slot i o b h1 h2
    cases b with
    | no => trivial
    | val d => exact sl
    | rd d => exact sl
    | own ds =>
      obtain ⟨a, zs, e, q1, q2, q3, q4, q5⟩ := sl
      exact ⟨a, zs, e, q1, q2, np a q3, q4, q5⟩
    | ref ds =>
      obtain ⟨zs, e, q1, q2, q3, q4, q5⟩ := sl
      exact ⟨zs, e, q1, q2, np _ q3, q4, q5⟩
  · refine R.pd a ys ?_
    show (if a = p then some xs else F.pd a) = some ys
    by_cases e : a = p
    · subst e; rw [n] at q; cases q
    · rw [if_neg e]; exact q
/-- no slot bears a list in the making -/
theorem Rel.apart {K : PySem.W.Frag} {F : Fx} {M : Ms} {H : Hp} {σ : L2.St} {ρ : Rho} (R : Rel K F M σ H ρ) {p : Addr} {xs : List V} (h : F.pd p = some xs) : ∀ (i : Nat) b, ρ[i]? = some b → b.mut = true → σ[i]? ≠ some (some (.ref p)) := fun i b h1 h2 z => by
  obtain ⟨a, ys, ds, q1, _, _, _, _, q2, _⟩ := R.mutAt h1 h2
  rw [q1] at z
  cases z
  rw [h] at q2
  cases q2
/-- a list in the making is written -/
theorem Rel.write {K : PySem.W.Frag} {F : Fx} {M : Ms} {H : Hp} {σ : L2.St} {ρ : Rho} (R : Rel K F M σ H ρ) {p : Addr} {ys : List V} (m : M p) (h0 : F.H0 p = none) (n : F.pd p = none) (ns : ∀ (i : Nat) b, ρ[i]? = some b → b.mut = true → σ[i]? ≠ some (some (.ref p))) :
    Rel K F M σ (upd H p (.lst ys)) ρ ∧ Step M H M (upd H p (.lst ys)) := by
  have st : Step M H M (upd H p (.lst ys)) := ⟨fun a o h nm => by rw [upd_ne (fun z => nm (by rw [z]; exact m))]; exact h, fun a h => .inl h⟩
  refine ⟨⟨R.len, fun i o b h1 h2 => (R.slot i o b h1 h2).step st fun a zs e mt h ma => ⟨?_, ma⟩, R.inj, fun a ma => ?_, R.m0, R.n0, R.h0, fun a o q nn => ?_, fun a zs q => ?_⟩, st⟩
  · rw [upd_ne (fun z => by subst z; exact ns i b h2 mt (by rw [h1, e]))]
    exact h
  · by_cases e : a = p
    · subst e; exact ⟨ys, upd_same⟩
    · rw [upd_ne e]; exact R.trk a ma
  · rw [upd_ne (fun z => by subst z; rw [h0] at q; cases q)]
    exact R.keep a o q nn
  · rw [upd_ne (fun z => by subst z; rw [n] at q; cases q)]
    exact R.pd a zs q
theorem wipe_mono {σ σ' : L2.St} {ws vs : List Nat} (h : L2.wipe σ' ws = L2.wipe σ ws) (s : ∀ w ∈ ws, w ∈ vs) : L2.wipe σ' vs = L2.wipe σ vs := by
  have key : ∀ (τ : L2.St) (us : List Nat), (∀ w ∈ us, w ∈ vs) → L2.wipe (L2.wipe τ us) vs = L2.wipe τ vs := by
    intro τ us
    induction us with
    | nil => intro _; rfl
    | cons u us ih =>
      intro hs
      show L2.wipe ((L2.wipe τ us).set u none) vs = _
      rw [wipe_set _ none vs u (hs u List.mem_cons_self), ih fun w hw => hs w (List.mem_cons_of_mem _ hw)]
  rw [← key σ' ws s, h, key σ ws s]
theorem wipe_idem (τ : L2.St) (as : List Nat) : L2.wipe (L2.wipe τ as) as = L2.wipe τ as := by
  have key : ∀ (us : List Nat), (∀ w ∈ us, w ∈ as) → L2.wipe (L2.wipe τ us) as = L2.wipe τ as := by
    intro us
    induction us with
    | nil => intro _; rfl
    | cons u us ih =>
      intro hs
      show L2.wipe ((L2.wipe τ us).set u none) as = _
      rw [wipe_set _ none as u (hs u List.mem_cons_self), ih fun w hw => hs w (List.mem_cons_of_mem _ hw)]
  exact key as fun _ h => h
/-- the loop of a comprehension: from its reading -/
theorem comp_imp {ei : Ei} {g : Gd} {ws : List Nat} {tt : Et} {ee : Ev} (own : List Ix) (hw : ∀ w ∈ ws, w ∈ own.map Ix.n) (σ : L2.St) (H : Hp) (Q : VK) (h : tU X.K (eComp ei g tt ee own) σ H Q) :
    tLc (tUI X.K ei) (tGU X.K g ws) (tB' X.K tt) (tU X.K (eVal ee)) (own.map Ix.n) σ H Q := by
  obtain ⟨F, M, ρ, av, ρ', R, q, k⟩ := h
  unfold eComp at q
  split at q
  · rename_i ds r h1
    split at q
    · rename_i hz
      split at q
      · rename_i ys r2 h2
        cases q
        refine ⟨F, M, ρ, ds, r, R, h1, fun J P M1 H1 s1 R1 it p1 L hL => ?_⟩
        -- the new list at L
        have ownNo : ∀ (ρ2 : Rho), ∀ v ∈ own.map Ix.n, (killAll own ρ2)[v]? = some .no ∨ (killAll own ρ2)[v]? = none := fun ρ2 v hv => by
          obtain ⟨i, hi, rfl⟩ := List.mem_map.mp hv
          exact kill_in own ρ2 i hi
        obtain ⟨M2, s2, R2, p, xs, e, hp, mp, p0, ppd, _, pns⟩ := R1.fin (ResD.new (K := X.K) (M := M1) (ds := []) hL DqAll.nil)
        cases e
        have hp : (upd H1 L (.lst [])) L = some (.lst xs) := hp
        rw [upd_same] at hp
        cases hp
        refine ⟨fun i m H => m = ds.length - i ∧ i ≤ ds.length ∧ ∃ M3 ρ3 acc dacc, Step M2 (upd H1 L (.lst [])) M3 H ∧ Rel X.K F M3 σ H ρ3 ∧ (∀ v ∈ own.map Ix.n, ρ3[v]? = some .no ∨ ρ3[v]? = none) ∧ M3 L ∧ H L = some (.lst acc) ∧ DqAll X.K M3 H dacc acc ∧ acc.length ≤ i ∧
          (∀ (i : Nat) b, ρ3[i]? = some b → b.mut = true → σ[i]? ≠ some (some (.ref L))) ∧ P M3 H ∧ ∃ zs, evComp g tt ee own (ds.drop i) ρ3 = some (zs, r2) ∧ dacc ++ zs = ys,
          ⟨ds.length, rfl, Nat.zero_le _, M2, _, [], [], Step.refl _ _, R2.kill own, ownNo r, mp, upd_same, DqAll.nil, Nat.zero_le _, ?_, it.stay _ _ _ _ s2 p1, ys, h2, rfl⟩, ?_⟩
        · exact (((R2.with upd_same mp pns).kill own).apart (Fx.with_at _ _ _))
        rintro i m H3 ⟨rfl, hi, M3, ρ3, acc, dacc, s3, R3, hno, m3, hl3, dq3, hacc, ns3, p3, zs, q3, ez⟩
        by_cases hlt : i < ds.length
        · refine .inr ⟨it.go M3 H3 i p3 hlt, fun H => ∃ M4 ρ4 acc4 dacc4, Step M3 H3 M4 H ∧ Rel X.K F M4 σ H ρ4 ∧ (∀ v ∈ own.map Ix.n, ρ4[v]? = some .no ∨ ρ4[v]? = none) ∧ M4 L ∧ H L = some (.lst acc4) ∧ DqAll X.K M4 H dacc4 acc4 ∧ acc4.length ≤ i + 1 ∧
            (∀ (i : Nat) b, ρ4[i]? = some b → b.mut = true → σ[i]? ≠ some (some (.ref L))) ∧ ∃ zs, evComp g tt ee own (ds.drop (i + 1)) ρ4 = some (zs, r2) ∧ dacc4 ++ zs = ys,
            fun H' ⟨M4, ρ4, acc4, dacc4, s4, R4, hno4, m4, hl4, dq4, hacc4, ns4, q4⟩ => ⟨ds.length - (i + 1), by omega, rfl, hlt, M4, ρ4, acc4, dacc4, s3.trans s4, R4, hno4, m4, hl4, dq4, hacc4, ns4, it.stay _ _ _ _ s4 p3, q4⟩, fun x H4 y => ?_⟩
          obtain ⟨gr, d, hd, dqd⟩ := it.yld M3 H3 i x H4 R3.trk p3 hlt y
          have e : ds.drop i = d :: ds.drop (i + 1) := by
            obtain ⟨hl, e⟩ := List.getElem?_eq_some_iff.mp hd
            rw [List.drop_eq_getElem_cons hl, e]
          rw [e] at q3
          unfold evComp at q3
          split at q3
          · cases q3
          · rename_i r1 hg1
            have R3' : Rel X.K (F.with L acc) M3 (L2.wipe σ (own.map Ix.n)) H4 ρ3 := ((R3.with hl3 m3 ns3).wipe _ hno).grow gr
            refine ⟨F.with L acc, M3, ρ3, d, r1, R3', dqd, hg1, fun σ5 M5 H5 s5 R5 w5 => ?_⟩
            have w6 : L2.wipe σ5 (own.map Ix.n) = L2.wipe σ (own.map Ix.n) := by
              rw [wipe_mono w5 hw]
              exact wipe_idem σ _
            refine ⟨w6, ?_⟩
            have n1 : F.pd L = none := ppd
            have back : ∀ {M7 : Ms} {H7 : Hp} {ρ7 : Rho}, Rel X.K (F.with L acc) M7 σ5 H7 ρ7 → Rel X.K (F.with L acc) M7 σ H7 (killAll own ρ7) := fun {M7 H7 ρ7} R7 => by
              have := ((R7.kill own).wipe (own.map Ix.n) (ownNo ρ7))
              rw [w6] at this
              exact this.unwipe (ownNo ρ7)
            split at q3
            · cases q3
            · rename_i rr ht
              refine ⟨F.with L acc, M5, r1, _, rr, R5, ht, fun M6 H6 s6 R6 => iteF ?_⟩
              have s7 : Step M3 H3 M6 H6 := ((Step.gr gr).trans s5).trans s6
              have R7 := back R6
              obtain ⟨hl7, m7⟩ := R6.pd L acc (Fx.with_at _ _ _)
              exact ⟨M6, _, acc, dacc, s7, R7.less n1, ownNo rr, m7, hl7, DqAll.step s7 _ _ dq3, Nat.le_succ_of_le hacc, R7.apart (Fx.with_at _ _ _), zs, q3, ez⟩
            · rename_i rr ht
              refine ⟨F.with L acc, M5, r1, _, rr, R5, ht, fun M6 H6 s6 R6 => iteT ?_⟩
              split at q3
              · rename_i y r3 he
                refine ⟨F.with L acc, M6, rr, _, r3, R6, he, fun v M7 H7 s7 R7 ok => ?_⟩
                split at q3
                · rename_i ys' r4 hc'
                  cases q3
                  obtain ⟨hl7, m7⟩ := R7.pd L acc (Fx.with_at _ _ _)
                  have R8 : Rel X.K (F.with L acc) M7 σ H7 (killAll own r3) := back R7
                  have s8 : Step M3 H3 M7 H7 := (((Step.gr gr).trans s5).trans s6).trans s7
                  have ap : ∀ (i : Nat) b, (killAll own r3)[i]? = some b → b.mut = true → σ[i]? ≠ some (some (.ref L)) := R8.apart (Fx.with_at F L acc)
                  have lt : acc.length < mxL := Nat.lt_of_lt_of_le (Nat.lt_of_le_of_lt hacc hlt) hz
                  refine ⟨acc, hl7, by rw [sizeLine_eq]; exact lt, ?_⟩
                  obtain ⟨R9, s9⟩ := (R8.less n1).write (ys := acc ++ [v]) m7 p0 n1 ap
                  have dqv : Dq X.K M7 H7 y v := ok
                  have len1 : (acc ++ [v]).length ≤ i + 1 := by rw [List.length_append]; exact Nat.succ_le_succ hacc
                  have dq8 : DqAll X.K M7 (upd H7 L (.lst (acc ++ [v]))) (dacc ++ [y]) (acc ++ [v]) := DqAll.step s9 _ _ ((DqAll.step s8 _ _ dq3).app (.one dqv))
                  have ez2 : (dacc ++ [y]) ++ ys' = ys := by rw [List.append_assoc]; exact ez
                  exact ⟨M7, killAll own r3, acc ++ [v], dacc ++ [y], s8.trans s9, R9, ownNo r3, m7, upd_same, dq8, len1, ap, ys', hc', ez2⟩
                · cases q3
              · cases q3
        · have e : i = ds.length := by omega
          subst e
          refine .inl ⟨it.stop M3 H3 p3, ?_⟩
          rw [List.drop_length] at q3
          cases q3
          rw [List.append_nil] at ez
          subst ez
          have s4 : Step M H M3 H3 := (s1.trans s2).trans s3
          have R4 := Rel.restore R1 (s2.trans s3) own R3
          refine k _ M3 H3 s4 R4 ⟨L, acc, rfl, hl3, m3, p0, ppd, dq3, ?_⟩
          intro i b q1 q2 z
          obtain ⟨a, zs', es, w1, w2, w3, w4, w5, w6, w7⟩ := R4.mutAt q1 q2
          rw [w1] at z
          cases z
          -- a mutable slot behind restoring was one ahead of it
          have : ∀ (is : List Ix) (ρ4 : Rho), (restore is r ρ4)[i]? = some b → ρ4[i]? = some b := by
            intro is
            induction is with
            | nil => intro ρ4 h; exact h
            | cons j is ih =>
              intro ρ4 h
              have h := ih _ h
              rw [put_n] at h
              by_cases ej : j.n = i
              · subst ej
                have hl : j.n < ρ4.length := by simpa using (List.getElem?_eq_some_iff.mp h).1
                rw [List.getElem?_set_self hl] at h
                cases h
                cases hg : get j r <;> (rw [hg] at q2; cases q2)
              · rw [List.getElem?_set_ne ej] at h
                exact h
          exact ns3 i b (this own _ q1) q2 w1
      · cases q
    · cases q
  · cases q
theorem pu_comp {elt : Expr} {ifs : List Expr} {scope : Scope} {ei : Ei} {g : Gd} {ws : List Nat} {tt : Et} {ee : Ev} (own : List Ix) (names : List (Str × Nat)) (en : names.map (·.2) = own.map Ix.n) (hw : ∀ w ∈ ws, w ∈ own.map Ix.n)
    (hc : X.calm = true) (hN : X.N.Nodup) (hi : PUI X tg iter ei) (ok : BlkOk X.N X.env.scope scope names)
    (hg : ∀ (s : Shared) (H : Hp) (C : Addr) (cl : List (Str × Addr)) (fp : List Addr), PUG (X.blk s H scope (PySem.compEnvC scope cl C X.env) fp) tg g ws)
    (ht : ∀ (s : Shared) (H : Hp) (C : Addr) (cl : List (Str × Addr)) (fp : List Addr), PTs (X.blk s H scope (PySem.compEnvC scope cl C X.env) fp) ifs (tB' X.K tt))
    (he : ∀ (s : Shared) (H : Hp) (C : Addr) (cl : List (Str × Addr)) (fp : List Addr), PU (X.blk s H scope (PySem.compEnvC scope cl C X.env) fp) elt ee) (hs : ∀ x, foldedSetIterable iter X.env x = pure x := by intro _; rfl) :
    PU X (.ListComp elt [⟨tg, iter, ifs, 0⟩] scope pos) (eComp ei g tt ee own) :=
  (pe_lc hc hN hi ok hg ht (fun s H C cl fp => pu_val (he s H C cl fp)) hs).imp fun σ H Q q => by
    rw [en]
    exact comp_imp own hw σ H Q q
theorem pus_setComp (i : Ix) {y : Str} {py spos : Pos} {elt : Expr} {ifs : List Expr} {scope : Scope} {ei : Ei} {g : Gd} {ws : List Nat} {tt : Et} {ee : Ev} (m : Bool) (own : List Ix) (names : List (Str × Nat)) (en : names.map (·.2) = own.map Ix.n) (hw : ∀ w ∈ ws, w ∈ own.map Ix.n)
    (hc : X.calm = true) (hN : X.N.Nodup) (hy : X.N[i.n]? = some y) (hyl : X.env.scope.names.lookup y = some .local)
    (hsw : swapsWith (.ListComp elt [⟨tg, iter, ifs, 0⟩] scope pos) (some (.Name y py)) spos.line X.env = pure true) (hi : PUI X tg iter ei) (ok : BlkOk X.N X.env.scope scope names)
    (hg : ∀ (s : Shared) (H : Hp) (C : Addr) (cl : List (Str × Addr)) (fp : List Addr), PUG (X.blk s H scope (PySem.compEnvC scope cl C X.env) fp) tg g ws)
    (ht : ∀ (s : Shared) (H : Hp) (C : Addr) (cl : List (Str × Addr)) (fp : List Addr), PTs (X.blk s H scope (PySem.compEnvC scope cl C X.env) fp) ifs (tB' X.K tt))
    (he : ∀ (s : Shared) (H : Hp) (C : Addr) (cl : List (Str × Addr)) (fp : List Addr), PU (X.blk s H scope (PySem.compEnvC scope cl C X.env) fp) elt ee) (hs : ∀ x, foldedSetIterable iter X.env x = pure x := by intro _; rfl) :
    PUS X (.Assign [.Name y py] (.ListComp elt [⟨tg, iter, ifs, 0⟩] scope pos) spos) (if m then sSetM i (eComp ei g tt ee own) else sSet i (eComp ei g tt ee own)) :=
  (ps_setLc (i := i.n) hc hN hy hyl hsw hi ok hg ht (fun s H C cl fp => pu_val (he s H C cl fp)) hs).imp fun E σ H ⟨F, M, ρ, fl, R, q, k⟩ => by
    rw [en]
    cases m with
    | true =>
      have q : sSetM i (eComp ei g tt ee own) ρ = some fl := q
      unfold sSetM at q
      split at q
      · rename_i av r h1
        split at q
        · rename_i r' h2
          cases q
          exact comp_imp own hw σ H _ ⟨F, M, ρ, _, r, R, h1, fun v M' H' s R' ok => k _ M' H' s (bindM_ok R' ok h2)⟩
        · cases q
      · cases q
    | false =>
      have q : sSet i (eComp ei g tt ee own) ρ = some fl := q
      unfold sSet at q
      split at q
      · rename_i d r h1
        cases q
        unfold eVal at h1
        split at h1
        · rename_i d' r' h2
          cases h1
          refine comp_imp own hw σ H _ ⟨F, M, ρ, _, r, R, h2, fun v M' H' s R' ok => ?_⟩
          have k : ∀ σ' M' H', Step M H M' H' → Rel X.K F M' σ' H' (put i (.val d) r) → E.nx σ' H' := k
          rw [put_n] at k
          exact k _ M' H' s (R'.setVal i.n ok)
        · rename_i d' r' h2
          cases h1
          refine comp_imp own hw σ H _ ⟨F, M, ρ, _, r, R, h2, fun v M' H' s R' ok => ?_⟩
          obtain ⟨M2, s2, R2, dq⟩ := fix_new R' ok
          have k : ∀ σ' M' H', Step M H M' H' → Rel X.K F M' σ' H' (put i (.val (.list d')) r) → E.nx σ' H' := k
          rw [put_n] at k
          exact k _ M2 H' (s.trans s2) (R2.setVal i.n dq)
        · rename_i b r' h2
          unfold eComp at h2
          split at h2
          · split at h2
            · split at h2
              · cases h2
              · cases h2
            · cases h2
          · cases h2
        · cases h1
      · cases q
end
end PV
set_option Elab.async false
set_option linter.all false
set_option autoImplicit false
set_option maxRecDepth 100000
set_option maxHeartbeats 4000000
/-! PVh: what a def promises, calls of defs, methods of lists, pairs stored at once. -/
namespace PV
open PySem PySem.Spec PyProof.Rows L2

inductive Res | val (d : D) | new (ds : List D)
abbrev Fm := List B → Option (Res × List (List D))
def ArgOk (K : PySem.W.Frag) (M : Ms) (H : Hp) (v : V) : B → Prop
  | .val d => Dq K M H d v
  | .ref ds => ∃ a xs, v = .ref a ∧ M a ∧ H a = some (.lst xs) ∧ DqAll K M H ds xs
  | .rd ds => ∃ a xs, v = .ref a ∧ ((∃ ob, H a = some (.frz ob (.lst xs)) ∧ ¬ M a) ∨ SqL K Empt a xs) ∧ DqAll K M H ds xs
  | _ => False
def RefsAre (K : PySem.W.Frag) (M : Ms) (H : Hp) : List V → List B → List (List D) → Prop
  | v :: vs, .ref _ :: bs, ds :: rs => (∃ a xs, v = .ref a ∧ H a = some (.lst xs) ∧ DqAll K M H ds xs) ∧ RefsAre K M H vs bs rs
  | _ :: _, .ref _ :: _, [] => False
  | _ :: vs, _ :: bs, rs => RefsAre K M H vs bs rs
  | [], [], rs => rs = []
  | _, _, _ => False
def ResOk (K : PySem.W.Frag) (M : Ms) (H H' : Hp) (v : V) : Res → Prop
  | .val d => Dq K M H' d v
  | .new ds => ∃ p xs, v = .ref p ∧ M p ∧ H p = none ∧ H' p = some (.lst xs) ∧ DqAll K M H' ds xs
abbrev SpG := List V → Hp → VK → Prop
structure SpU (K : PySem.W.Frag) (m : Fm) (vs : List V) (H : Hp) (Q : VK) (M : Ms) (bs : List B) (r : Res) (rs : List (List D)) : Prop where
  trk : ∀ a, M a → ∃ xs, H a = some (.lst xs)
  args : Paired (fun v b => ArgOk K M H v b) vs bs
  apart : ∀ (i j : Nat) a ds es, bs[i]? = some (.ref ds) → bs[j]? = some (.ref es) → vs[i]? = some (.ref a) → vs[j]? = some (.ref a) → i = j
  gives : m bs = some (r, rs)
  fin : ∀ v H' M', (∀ a, M a → M' a) → (∀ a, M' a → M a ∨ H a = none) → (∀ a, M' a → ∃ xs, H' a = some (.lst xs)) →
    (∀ a o, H a = some o → (∀ (i : Nat) ds, bs[i]? = some (.ref ds) → vs[i]? ≠ some (.ref a)) → H' a = some o) → RefsAre K M' H' vs bs rs → ResOk K M' H H' v r → Q v H'
def spU (K : PySem.W.Frag) (m : Fm) : SpG := fun vs H Q => ∃ M bs r rs, SpU K m vs H Q M bs r rs

/-- a def keeps its promise; where no repr is under way -/
structure FnG (P : Program) (w : World) (K : PySem.W.Frag) (mg : Str → Option Value) (base : Heap) (k : Nat) (f : Addr) (fd : FuncData) (ps : List Str) (sp : SpG) : Prop where
  len : ∀ vs H Q, sp vs H Q → vs.length = ps.length
  run : ∀ (A : Around) (outer : List Env) (s : Shared) (H : Hp) (args : Args) (us : List Value) (vs : List V) (Q : VK), A.guards = some [] → Room k A → Env0 P w K mg base A outer s H →
    BindsTo s fd args (ps.zip us) → Vals vs us → sp vs H Q → codeAny (model P w) A (.call (.ref f) args) (CR CX0 outer P w H s Q E0) s
theorem FnG.mono {P : Program} {w : World} {K : PySem.W.Frag} {mg : Str → Option Value} {base : Heap} {j k : Nat} {f : Addr} {fd : FuncData} {ps : List Str} {sp : SpG} (F : FnG P w K mg base j f fd ps sp) (h : j ≤ k) : FnG P w K mg base k f fd ps sp :=
  ⟨F.len, fun A outer s H args us vs Q hg hr => F.run A outer s H args us vs Q hg (hr.mono h)⟩

section
variable {P : Program} {w : World} {K : PySem.W.Frag} {mg : Str → Option Value} {base : Heap} {N ps : List Str}
/-- a def of the text, from its body's derivation and reading -/
theorem fnG_of {x qual : Str} {params : Arguments} {body : List Stmt} {scope : Scope} {dvs : List V} {kws : List (Str × V)} {f : Addr} {fd : FuncData} {k : Nat} {sp : SpG} (F : FunD K x qual params body scope dvs kws f fd) (S : FnScope N ps scope)
    (len : ∀ vs H Q, sp vs H Q → vs.length = ps.length)
    (hbody : ∀ (cdv : Value) (A : Around) (outer : List Env) (s : Shared) (H : Hp) (vs : List V) (Q : VK), A.guards = some [] → Room k (A.deeper (envOfC qual scope s.heap.objs.size f cdv)) → sp vs H Q →
      ∃ t, PSs (cxOf CX0 P w K mg base N qual scope f cdv A outer s H E0).nox body t ∧ t { nx := fun _ H' => Q .non H', rt := Q } (start N vs) H) : FnG P w K mg base (k + 1) f fd ps sp := by
  obtain ⟨oc, od, dV, kV, doc, pm, an, cdv, ct, osl, rfl, lk, hcd, _, _⟩ := F.ex
  refine ⟨len, fun A outer s H args us vs Q hg hr e0 hb r hsp => ?_⟩
  have hl := len _ _ _ hsp
  have KX : K.In s.heap := e0.mod.kin.keeps fun b o e => (e0.bs b o e).1
  have lim : s.heap.NoLimit := e0.mod.nolimit.keeps fun b o e => (e0.bs b o e).1
  have kind : ∀ y ∈ ps.zip us, scope.names.lookup y.1 = some .local ∨ (scope.names.lookup y.1 = some .cell ∧ ((cellsFrom (s.heap.objs.size + 1) scope.names []).lookup y.1).isSome = true) := by
    intro y hy
    rcases S.par y.1 (List.of_mem_zip (a := y.1) (b := y.2) hy).1 with q | q
    · exact .inl q
    · exact .inr ⟨q, PySem.W.cellsFrom_some _ _ _ (.inl q)⟩
  refine codeAny_call_function hr.depth (KX _ _ lk) rfl S.co S.gen rfl (PySem.W.codeRec_of KX hcd) (hb _ _ _ _ (wpAny_newFunctionEnv_cells S.kind kind fun env he s1 x => ?_))
  subst he
  refine ⟨lim.keeps x.toInCall.keep, codeAny_func ?_⟩
  obtain ⟨t, ht, hq⟩ := hbody cdv A outer s H vs Q hg (hr.deeper _) hsp
  have I : Inv (cxOf CX0 P w K mg base N qual scope f cdv A outer s H E0) [] (start N vs) H s1 := inv_start S hr.hd e0 hl r x
  refine wpAny_mono (ht.nox.run [] s1 (start N vs) H _ I hq) (fun fl s' hs => ?_) fun e s' hs => hs
  have fin : ∀ {σ' : L2.St} {H' : Hp} {v : V} {u : Value}, Inv (cxOf CX0 P w K mg base N qual scope f cdv A outer s H E0) [] σ' H' s' → RelV v u → Q v H' → CE outer P w H s Q u s' := by
    intro σ' H' v u J rv q
    exact ⟨v, H', J.os, J.bare, J.base, J.hok, rv, q⟩
  cases fl with
  | ret u =>
    obtain ⟨v, σ', H', J, rv, q⟩ := hs
    exact fin J rv q
  | next =>
    obtain ⟨σ', H', J, q⟩ := hs
    exact fin (v := V.non) (u := Value.none) J rfl q
  | brk =>
    obtain ⟨_, _, _, q⟩ := hs
    exact q.elim
  | cont =>
    obtain ⟨_, _, _, q⟩ := hs
    exact q.elim

/-! ### a def by its evaluator -/
def inits (bs : List B) (n : Nat) : Rho := bs ++ List.replicate (n - bs.length) .no
/-- the lists handed in, as they are at the end -/
@[simp] def refsOf : List B → Rho → Option (List (List D))
  | [], _ => some []
  | .ref _ :: bs, .ref ds :: ρ => (match refsOf bs ρ with
    | some rs => some (ds :: rs)
    | none => none)
  | .ref _ :: _, _ => none
  | _ :: bs, _ :: ρ => refsOf bs ρ
  | _ :: _, [] => none
def runFn (n : Nat) (ev : Es) : Fm := fun bs => match ev (inits bs n) with
  | some (.rt d ρ) => (match refsOf bs ρ with
    | some rs => some (.val d, rs)
    | none => none)
  | some (.rtN ds ρ) => (match refsOf bs ρ with
    | some rs => some (.new ds, rs)
    | none => none)
  | some (.nx ρ) => (match refsOf bs ρ with
    | some rs => some (.val .none, rs)
    | none => none)
  | _ => none
theorem Paired.at {α β : Type} {R : α → β → Prop} : ∀ {as : List α} {bs : List β} {i : Nat} {b : β}, Paired R as bs → bs[i]? = some b → ∃ a, as[i]? = some a ∧ R a b
  | _, _, _, _, .nil, e => by simp at e
  | _, _, 0, _, .cons r _, e => by simp at e; subst e; exact ⟨_, rfl, r⟩
  | _, _, i + 1, b, .cons _ t, e => by
    obtain ⟨a, q, r⟩ := Paired.at t (i := i) (by simpa using e)
    exact ⟨a, by simpa using q, r⟩
theorem refsOf_ok {F : Fx} {M : Ms} {H H' : Hp} : ∀ {vs : List V} {bs : List B} {ρ : Rho} {σ : List (Option V)} {rs : List (List D)} (k : Nat), refsOf bs ρ = some rs → vs.length = bs.length →
    (∀ (i : Nat) ds, bs[i]? = some (.ref ds) → vs[i]? = some (.ref (F.ra (k + i)))) → (∀ (i : Nat) ds, bs[i]? ≠ none → ρ[i]? = some (.ref ds) → ∃ xs, H' (F.ra (k + i)) = some (.lst xs) ∧ DqAll K M H' ds xs) → RefsAre K M H' vs bs rs
  | [], [], ρ, σ, rs, k, h, _, _, _ => by cases h; rfl
  | v :: vs, [], ρ, σ, rs, k, h, hl, _, _ => by simp at hl
  | [], b :: bs, ρ, σ, rs, k, h, hl, _, _ => by simp at hl
  | v :: vs, b :: bs, [], σ, rs, k, h, hl, h1, h2 => by cases b <;> cases h
  | v :: vs, b :: bs, c :: ρ, σ, rs, k, h, hl, h1, h2 => by
    have recc : ∀ {rs'}, refsOf bs ρ = some rs' → RefsAre K M H' vs bs rs' := fun h' => refsOf_ok (F := F) (H := H) (σ := []) (k + 1) h' (by simpa using hl)
      (fun i ds e => by have := h1 (i + 1) ds (by simpa using e); rw [show k + 1 + i = k + (i + 1) by omega]; simpa using this)
      (fun i ds e e' => by have := h2 (i + 1) ds (by simpa using e) (by simpa using e'); rw [show k + 1 + i = k + (i + 1) by omega]; exact this)
    cases b with
    | ref ds0 =>
      cases c with
      | ref ds =>
        unfold refsOf at h
        split at h
        · rename_i rs' q
          cases h
          have e1 := h1 0 ds0 rfl
          obtain ⟨xs, q1, q2⟩ := h2 0 ds (by simp) rfl
          exact ⟨⟨_, xs, by simpa using e1, q1, q2⟩, recc q⟩
        · cases h
      | no => cases h
      | val _ => cases h
      | own _ => cases h
      | rd _ => cases h
    | no => exact recc h
    | val _ => exact recc h
    | own _ => exact recc h
    | rd _ => exact recc h
def slotAddr (vs : List V) (i : Nat) : Addr := match vs[i]? with
  | some (.ref a) => a
  | _ => 0
/-- the evaluator is what the def does -/
theorem fnG_mk {x qual : Str} {params : Arguments} {body : List Stmt} {scope : Scope} {dvs : List V} {kws : List (Str × V)} {f : Addr} {fd : FuncData} {k : Nat} {ev : Es} (np : Nat) (hnp : ps.length = np) (nn : Nat) (hnn : N.length = nn) (F : FunD K x qual params body scope dvs kws f fd) (S : FnScope N ps scope)
    (hbody : ∀ (cdv : Value) (A : Around) (outer : List Env) (s : Shared) (H : Hp), A.guards = some [] → Room k (A.deeper (envOfC qual scope s.heap.objs.size f cdv)) →
      PUSs (cxOf CX0 P w K mg base N qual scope f cdv A outer s H E0).nox body ev) : FnG P w K mg base (k + 1) f fd ps (spU K fun bs => if bs.length = np then runFn nn ev bs else none) := by
  subst hnp hnn
  have hle : ps.length ≤ N.length := by
    have h1 := S.pre
    have h2 := congrArg List.length h1
    rw [List.length_take] at h2
    omega
  refine fnG_of F S (fun vs H Q ⟨M, bs, r, rs, h⟩ => ?_) fun cdv A outer s H vs Q hg hr ⟨M, bs, r, rs, h⟩ => ⟨_, hbody cdv A outer s H hg hr, ?_⟩
  · have g := h.gives
    split at g
    · rename_i e
      rw [Paired.length h.args, e]
    · cases g
  · have g := h.gives
    split at g
    · rename_i hbl
      have hvl : vs.length = bs.length := Paired.length h.args
      let F0 : Fx := ⟨H, fun a => ∃ (i : Nat) (ds : List D), bs[i]? = some (B.ref ds) ∧ vs[i]? = some (V.ref a), M, slotAddr vs, fun _ => none⟩
      have ra_of : ∀ (i : Nat) ds, bs[i]? = some (.ref ds) → vs[i]? = some (.ref (slotAddr vs i)) := fun i ds e => by
        obtain ⟨v, q, a, xs, e1, _⟩ := Paired.at h.args e
        subst e1
        have : slotAddr vs i = a := by unfold slotAddr; rw [q]
        rw [this]; exact q
      have ref_in : ∀ a, F0.N0 a → M a := fun a ⟨i, ds, e, e2⟩ => by
        obtain ⟨v, q, a', xs, e1, m, _⟩ := Paired.at h.args e
        subst e1
        rw [e2] at q
        cases q
        exact m
      have hσ : ∀ (i : Nat) b, bs[i]? = some b → (start N vs)[i]? = (vs[i]?).map some := fun i b e => by
        have hi : i < vs.length := by rw [hvl]; exact (List.getElem?_eq_some_iff.mp e).1
        unfold L2.start
        rw [List.getElem?_append_left (by simpa using hi), List.getElem?_map]
      have hρ : ∀ (i : Nat) b, (inits bs N.length)[i]? = some b → bs[i]? = some b ∨ b = .no := fun i b e => by
        unfold inits at e
        by_cases hi : i < bs.length
        · rw [List.getElem?_append_left hi] at e
          exact .inl e
        · rw [List.getElem?_append_right (by omega)] at e
          exact .inr (List.mem_replicate.mp (List.mem_of_getElem? e)).2
      have R0 : Rel K F0 M (start N vs) H (inits bs N.length) := by
        refine ⟨?_, fun i o b h1 h2 => ?_, fun i j a b c h1 h2 m1 m2 e1 e2 => ?_, h.trk, fun a m => m, ref_in, fun a m => ?_, fun a o q _ => q, fun a xs q => nomatch q⟩
        · unfold L2.start inits
          rw [List.length_append, List.length_append, List.length_map, List.length_replicate, List.length_replicate, hvl]
        · rcases hρ i b h2 with e | e
          · rw [hσ i b e] at h1
            obtain ⟨v, q, ok⟩ := Paired.at h.args e
            rw [q] at h1
            cases h1
            cases b with
            | no => trivial
            | val d => exact ⟨v, rfl, ok⟩
            | own ds => exact ok.elim
            | ref ds =>
              have ra := ra_of i ds e
              obtain ⟨a, xs, e1, m, q1, q2⟩ := ok
              subst e1
              rw [q] at ra
              have ea : a = slotAddr vs i := by injection ra with ra; injection ra
              subst ea
              exact ⟨xs, rfl, m, ⟨i, ds, e, q⟩, rfl, q1, q2⟩
            | rd ds =>
              obtain ⟨a, xs, e1, q1⟩ := ok
              exact ⟨a, xs, by rw [e1], q1⟩
          · subst e; trivial
        · rcases hρ i b h1 with e | e
          · rcases hρ j c h2 with e' | e'
            · rw [hσ i b e] at e1
              rw [hσ j c e'] at e2
              have v1 : vs[i]? = some (.ref a) := by
                cases q : vs[i]? with
                | none => rw [q] at e1; cases e1
                | some u => rw [q] at e1; cases e1; rfl
              have v2 : vs[j]? = some (.ref a) := by
                cases q : vs[j]? with
                | none => rw [q] at e2; cases e2
                | some u => rw [q] at e2; cases e2; rfl
              obtain ⟨u, _, ok⟩ := Paired.at h.args e
              obtain ⟨u', _, ok'⟩ := Paired.at h.args e'
              cases b with
              | own _ => exact ok.elim
              | ref ds =>
                cases c with
                | own _ => exact ok'.elim
                | ref es => exact h.apart i j a ds es e e' v1 v2
                | no => cases m2
                | val _ => cases m2
                | rd _ => cases m2
              | no => cases m1
              | val _ => cases m1
              | rd _ => cases m1
            · subst e'; cases m2
          · subst e; cases m1
        · obtain ⟨xs, q⟩ := h.trk a m
          intro z
          have z : H a = none := z
          rw [q] at z; cases z
      -- behind the body
      have fin : ∀ {σ' : L2.St} {M' : Ms} {H' : Hp} {ρ' : Rho} {v : V}, Step M H M' H' → Rel K F0 M' σ' H' ρ' → refsOf bs ρ' = some rs → ResOk K M' H H' v r → Q v H' := by
        intro σ' M' H' ρ' v s' R' hrs res
        refine h.fin v H' M' R'.m0 s'.mono R'.trk (fun a o q n => R'.keep a o q fun ⟨i, ds, e, e2⟩ => n i ds e e2) ?_ res
        refine refsOf_ok (F := F0) (H := H) (σ := σ') 0 hrs hvl (fun i ds e => by rw [Nat.zero_add]; exact ra_of i ds e) fun i ds e e' => ?_
        rw [Nat.zero_add]
        have hl : i < σ'.length := by
          rw [R'.len]
          exact (List.getElem?_eq_some_iff.mp e').1
        obtain ⟨xs, _, _, _, _, q1, q2⟩ := R'.slot i _ _ (List.getElem?_eq_getElem hl) e'
        exact ⟨xs, q1, q2⟩
      unfold runFn at g
      split at g
      · rename_i d ρ' he
        split at g
        · rename_i rs' hrs
          cases g
          exact ⟨F0, M, _, _, R0, he, fun v σ' M' H' s' R' dq => fin s' R' hrs dq⟩
        · cases g
      · rename_i ds ρ' he
        split at g
        · rename_i rs' hrs
          cases g
          refine ⟨F0, M, _, _, R0, he, fun v σ' M' H' s' R' ok => fin s' R' hrs ?_⟩
          obtain ⟨p, xs, e, q1, q2, q3, _, q4, _⟩ := ok
          exact ⟨p, xs, e, q2, q3, q1, q4⟩
        · cases g
      · rename_i ρ' he
        split at g
        · rename_i rs' hrs
          cases g
          exact ⟨F0, M, _, _, R0, he, fun σ' M' H' s' R' => fin s' R' hrs rfl⟩
        · cases g
      · cases g
    · cases g
end
end PV
set_option Elab.async false
set_option linter.all false
set_option autoImplicit false
set_option maxRecDepth 100000
set_option maxHeartbeats 4000000
/-! PVi: calls of defs, by place and by name; methods of lists; x[i] = e; pairs stored at once. -/
namespace PV
open PySem PySem.Spec PyProof.Rows L2

/-! ### behind a call -/
@[simp] def setL : B → List D → B
  | .own _, ds => .own ds
  | .ref _, ds => .ref ds
  | b, _ => b
@[simp] def putRefs : List (Ix × List D) → Rho → Rho
  | [], ρ => ρ
  | (b, ds) :: l, ρ => putRefs l (put b (setL (get b ρ) ds) ρ)
theorem setL_mut {b : B} {ds : List D} : (setL b ds).mut = b.mut := by cases b <;> rfl
theorem putRefs_out : ∀ (l : List (Ix × List D)) (ρ : Rho) (i : Nat), (∀ q ∈ l, q.1.n ≠ i) → (putRefs l ρ)[i]? = ρ[i]?
  | [], ρ, i, _ => rfl
  | (b, ds) :: l, ρ, i, h => by
    show (putRefs l _)[i]? = _
    rw [putRefs_out l _ i (fun q hq => h q (List.mem_cons_of_mem _ hq)), put_n, List.getElem?_set_ne (h (b, ds) List.mem_cons_self)]
theorem putRefs_in : ∀ (l : List (Ix × List D)) (ρ : Rho), (l.map (·.1.n)).Nodup → ∀ q ∈ l, q.1.n < ρ.length → (putRefs l ρ)[q.1.n]? = some (setL (get q.1 ρ) q.2)
  | (b, ds) :: l, ρ, nd, q, hq, hl => by
    have nd' := List.nodup_cons.mp nd
    show (putRefs l _)[q.1.n]? = _
    rcases List.mem_cons.mp hq with e | hq
    · subst e
      rw [putRefs_out l _ _ (fun q' hq' z => nd'.1 (List.mem_map.mpr ⟨q', hq', z⟩)), put_n, List.getElem?_set_self hl]
    · have ne : b.n ≠ q.1.n := fun z => nd'.1 (List.mem_map.mpr ⟨q, hq, z.symm⟩)
      rw [putRefs_in l _ nd'.2 q hq (by rw [put_n]; simpa using hl), get_n, put_n, List.getElem?_set_ne ne, ← get_n]
theorem putRefs_len : ∀ (l : List (Ix × List D)) (ρ : Rho), (putRefs l ρ).length = ρ.length
  | [], ρ => rfl
  | (b, ds) :: l, ρ => by show (putRefs l _).length = _; rw [putRefs_len l, put_n]; simp
section
variable {K : PySem.W.Frag} {F : Fx} {M M' : Ms} {H H' : Hp} {σ : L2.St} {ρ : Rho}
theorem Rel.after (R : Rel K F M σ H ρ) (s : Step M H M' H') (mm : ∀ a, M a → M' a) (trk' : ∀ a, M' a → ∃ xs, H' a = some (.lst xs)) (l : List (Ix × List D)) (nd : (l.map (·.1.n)).Nodup)
    (hk : ∀ a o, H a = some o → (∀ q ∈ l, σ[q.1.n]? ≠ some (some (.ref a))) → H' a = some o)
    (hr : ∀ q ∈ l, ∀ a, σ[q.1.n]? = some (some (.ref a)) → ∃ xs, H' a = some (.lst xs) ∧ DqAll K M' H' q.2 xs)
    (hm : ∀ q ∈ l, ∃ b, ρ[q.1.n]? = some b ∧ b.mut = true) : Rel K F M' σ H' (putRefs l ρ) := by
  -- an address that no handed slot bears is kept
  have ref_sl : ∀ q ∈ l, ∀ a, σ[q.1.n]? = some (some (.ref a)) → M a ∧ F.pd a = none ∧ (F.N0 a ∨ F.H0 a = none) := fun q hq a e => by
    obtain ⟨b, hb, mb⟩ := hm q hq
    obtain ⟨a', xs, ds, e1, m1, _, _, _, p1, n1⟩ := R.mutAt hb mb
    rw [e] at e1
    cases e1
    exact ⟨m1, p1, n1⟩
  have old : ∀ (i : Nat) c, (putRefs l ρ)[i]? = some c → ∃ b, ρ[i]? = some b ∧ b.mut = c.mut ∧ ((c = b ∧ ∀ q ∈ l, q.1.n ≠ i) ∨ ∃ q ∈ l, q.1.n = i ∧ c = setL b q.2) := fun i c e => by
    by_cases h : ∃ q ∈ l, q.1.n = i
    · obtain ⟨q, hq, rfl⟩ := h
      obtain ⟨b, hb, mb⟩ := hm q hq
      have hl : q.1.n < ρ.length := (List.getElem?_eq_some_iff.mp hb).1
      rw [putRefs_in l ρ nd q hq hl] at e
      cases e
      have eg : get q.1 ρ = b := by rw [get_n, hb]; rfl
      exact ⟨b, hb, by rw [eg, setL_mut], .inr ⟨q, hq, rfl, by rw [eg]⟩⟩
    · have h : ∀ q ∈ l, q.1.n ≠ i := fun q hq z => h ⟨q, hq, z⟩
      rw [putRefs_out l ρ i h] at e
      exact ⟨c, e, rfl, .inl ⟨rfl, h⟩⟩
  refine ⟨by rw [putRefs_len]; exact R.len, fun i o c h1 h2 => ?_, fun i j a c c' h1 h2 m1 m2 e1 e2 => ?_, trk', fun a m => mm a (R.m0 a m), R.n0, R.h0, fun a o q n => ?_, fun a xs q => ?_⟩
  · obtain ⟨b, hb, mb, hcase⟩ := old i c h2
    have sl := R.slot i o b h1 hb
    rcases hcase with ⟨rfl, hn⟩ | ⟨q, hq, rfl, rfl⟩
    · refine sl.step s fun a xs e mt ha ma => ⟨?_, mm a ma⟩
      refine hk a _ ha fun q hq z => ?_
      obtain ⟨b', hb', mb'⟩ := hm q hq
      exact hn q hq (R.inj q.1.n i a b' c hb' hb mb' mt z (by rw [h1, e]))
    · cases b with
      | no => trivial
      | val d =>
        obtain ⟨b', hb', mb'⟩ := hm q hq
        rw [hb] at hb'; cases hb'; cases mb'
      | rd d =>
        obtain ⟨b', hb', mb'⟩ := hm q hq
        rw [hb] at hb'; cases hb'; cases mb'
      | own ds =>
        obtain ⟨a, xs, e, q1, q2, q3, q4, q5⟩ := sl
        obtain ⟨ys, w1, w2⟩ := hr q hq a (by rw [h1, e])
        exact ⟨a, ys, e, mm a q1, q2, q3, w1, w2⟩
      | ref ds =>
        obtain ⟨xs, e, q1, q2, q3, q4, q5⟩ := sl
        obtain ⟨ys, w1, w2⟩ := hr q hq _ (by rw [h1, e])
        exact ⟨ys, e, mm _ q1, q2, q3, w1, w2⟩
  · obtain ⟨b, hb, mb, _⟩ := old i c h1
    obtain ⟨b', hb', mb', _⟩ := old j c' h2
    exact R.inj i j a b b' hb hb' (by rw [mb]; exact m1) (by rw [mb']; exact m2) e1 e2
  · refine hk a o (R.keep a o q n) fun q' hq z => ?_
    obtain ⟨_, _, n1⟩ := ref_sl q' hq a z
    rcases n1 with n1 | n1
    · exact n n1
    · rw [q] at n1; cases n1
  · obtain ⟨h1, h2⟩ := R.pd a xs q
    refine ⟨hk a _ h1 fun q' hq z => ?_, mm a h2⟩
    obtain ⟨_, n1, _⟩ := ref_sl q' hq a z
    rw [q] at n1; cases n1
/-- the list in a slot is written -/
theorem Rel.putL (R : Rel K F M σ H ρ) {i : Ix} {b : B} {a : Addr} {ys : List V} {es : List D} (hb : ρ[i.n]? = some b) (mb : b.mut = true) (ha : σ[i.n]? = some (some (.ref a))) (dq : DqAll K M H es ys) :
    Rel K F M σ (upd H a (.lst ys)) (put i (setL b es) ρ) ∧ Step M H M (upd H a (.lst ys)) := by
  obtain ⟨a', xs, ds, e1, m1, _⟩ := R.mutAt hb mb
  rw [ha] at e1
  cases e1
  have st : Step M H M (upd H a (.lst ys)) := ⟨fun c o h nm => by rw [upd_ne (fun z => nm (by rw [z]; exact m1))]; exact h, fun c h => .inl h⟩
  have eg : get i ρ = b := by rw [get_n, hb]; rfl
  have R2 := R.after st (fun _ m => m) (fun c m => by
    by_cases e : c = a
    · subst e; exact ⟨ys, upd_same⟩
    · rw [upd_ne e]; exact R.trk c m) [(i, es)] (by simp) (fun c o h n => by
      rw [upd_ne (fun z => by subst z; exact n (i, es) (by simp) ha)]; exact h) (fun q hq c e => by
      cases List.mem_singleton.mp hq
      rw [ha] at e
      cases e
      exact ⟨ys, upd_same, DqAll.step st _ _ dq⟩) (fun q hq => by
      cases List.mem_singleton.mp hq
      exact ⟨b, hb, mb⟩)
  have e2 : putRefs [(i, es)] ρ = put i (setL b es) ρ := by show put i (setL (get i ρ) es) ρ = _; rw [eg]
  rw [e2] at R2
  exact ⟨R2, st⟩
end

/-! ### arguments of a def -/
@[simp] def argB : AV → Rho → Option B
  | .val d, _ => some (.val d)
  | .rd ds, _ => some (.rd ds)
  | .ref b, ρ => (match get b ρ with
    | .own ds => some (.ref ds)
    | .ref ds => some (.ref ds)
    | _ => none)
  | .new _, _ => none
@[simp] def argsB : List AV → Rho → Option (List B)
  | [], _ => some []
  | av :: r, ρ => match argB av ρ with
    | some b => (match argsB r ρ with
      | some bs => some (b :: bs)
      | none => none)
    | none => none
/-- which slots' lists are handed on -/
@[simp] def refIx : List AV → List Ix
  | [] => []
  | .ref b :: r => b :: refIx r
  | _ :: r => refIx r
def distinctIx (l : List Ix) : Bool := decide ((l.map Ix.n).Nodup)
@[simp] def resAV : Res → AV
  | .val d => .val d
  | .new ds => .new ds
def callU (m : Fm) (avs : List AV) (r : Rho) : Option (AV × Rho) :=
  if distinctIx (refIx avs) then (match argsB avs r with
    | none => none
    | some bs => match m bs with
      | none => none
      | some (res, rs) => some (resAV res, putRefs ((refIx avs).zip rs) r)) else none
section
variable {K : PySem.W.Frag} {F : Fx} {M M' : Ms} {H H' : Hp} {σ : L2.St} {ρ : Rho}
theorem argsB_ok (R : Rel K F M σ H ρ) : ∀ {avs : List AV} {bs : List B} {vs : List V}, argsB avs ρ = some bs → AvsOk K F M H σ ρ vs avs → Paired (fun v b => ArgOk K M H v b) vs bs
  | [], bs, vs, e, h => by cases e; cases h; exact .nil
  | av :: r, bs, vs, e, h => by
    unfold argsB at e
    split at e
    · rename_i b q1
      split at e
      · rename_i bs' q2
        cases e
        cases h with
        | cons h t =>
          refine .cons ?_ (argsB_ok R q2 t)
          obtain ⟨h, _⟩ := h
          cases av with
          | val d => cases q1; exact h
          | rd ds => cases q1; exact h
          | new ds => cases q1
          | ref i =>
            have h : σ[i.n]? = some (some _) := h
            have fin : ∀ {c : B} {ds : List D}, get i ρ = c → (c = .own ds ∨ c = .ref ds) → ArgOk K M H ‹V› (.ref ds) := by
              intro c ds w1 w2
              have w3 : ρ[i.n]? = some c := get_some w1 (by rcases w2 with z | z <;> (subst z; intro w; cases w))
              obtain ⟨a, xs, es, e1, m, e2, e3, e4, _⟩ := R.mutAt w3 (by rcases w2 with z | z <;> (subst z; rfl))
              have e5 : es = ds := by
                rcases w2 with z | z <;> rcases e3 with y | y <;> (rw [z] at y; cases y) <;> rfl
              subst e5
              rw [h] at e1
              cases e1
              exact ⟨a, xs, rfl, m, e2, e4⟩
            have q1 : (match get i ρ with | .own ds => some (B.ref ds) | .ref ds => some (B.ref ds) | _ => none) = some b := q1
            cases z : get i ρ with
            | own ds => rw [z] at q1; cases q1; exact fin z (.inl rfl)
            | ref ds => rw [z] at q1; cases q1; exact fin z (.inr rfl)
            | no => rw [z] at q1; cases q1
            | val _ => rw [z] at q1; cases q1
            | rd _ => rw [z] at q1; cases q1
      · cases e
    · cases e
/-- place by place: a handed list is the slot's -/
theorem argsB_ref : ∀ {avs : List AV} {bs : List B} {vs : List V}, argsB avs ρ = some bs → AvsOk K F M H σ ρ vs avs → ∀ (i : Nat) ds, bs[i]? = some (.ref ds) →
    ∃ b, avs[i]? = some (.ref b) ∧ b ∈ refIx avs ∧ (∃ c, ρ[b.n]? = some c ∧ c.mut = true) ∧ ∀ v, vs[i]? = some v → σ[b.n]? = some (some v)
  | [], bs, vs, e, h, i, ds, hi => by cases e; simp at hi
  | av :: r, bs, vs, e, h, i, ds, hi => by
    unfold argsB at e
    split at e
    · rename_i b q1
      split at e
      · rename_i bs' q2
        cases e
        cases h with
        | cons h t =>
          cases i with
          | zero =>
            simp at hi
            subst hi
            cases av with
            | val d => cases q1
            | rd ds => cases q1
            | new ds => cases q1
            | ref j =>
              refine ⟨j, rfl, List.mem_cons_self, ?_, fun v hv => ?_⟩
              · have q1 : (match get j ρ with | .own ds => some (B.ref ds) | .ref ds => some (B.ref ds) | _ => none) = some (B.ref ds) := q1
                cases z : get j ρ with
                | own es => exact ⟨_, get_some z (fun w => nomatch w), rfl⟩
                | ref es => exact ⟨_, get_some z (fun w => nomatch w), rfl⟩
                | no => rw [z] at q1; cases q1
                | val _ => rw [z] at q1; cases q1
                | rd _ => rw [z] at q1; cases q1
              · simp at hv
                subst hv
                exact h.1
          | succ i =>
            obtain ⟨b', w1, w2, w3, w4⟩ := argsB_ref q2 t i ds (by simpa using hi)
            refine ⟨b', by simpa using w1, ?_, w3, fun v hv => w4 v (by simpa using hv)⟩
            cases av with
            | ref j => exact List.mem_cons_of_mem _ w2
            | val _ => exact w2
            | rd _ => exact w2
            | new _ => exact w2
      · cases e
    · cases e
theorem refIx_at : ∀ {avs : List AV} {bs : List B}, argsB avs ρ = some bs → ∀ b ∈ refIx avs, ∃ (i : Nat) (ds : List D), avs[i]? = some (.ref b) ∧ bs[i]? = some (.ref ds)
  | [], bs, e, b, hb => by cases hb
  | av :: r, bs, e, b, hb => by
    unfold argsB at e
    split at e
    · rename_i c q1
      split at e
      · rename_i bs' q2
        cases e
        have recc : b ∈ refIx r → ∃ (i : Nat) (ds : List D), (av :: r)[i]? = some (.ref b) ∧ (c :: bs')[i]? = some (.ref ds) := fun h => by
          obtain ⟨i, ds, w1, w2⟩ := refIx_at q2 b h
          exact ⟨i + 1, ds, by simpa using w1, by simpa using w2⟩
        cases av with
        | val _ => exact recc hb
        | rd _ => exact recc hb
        | new _ => exact recc hb
        | ref j =>
          rcases List.mem_cons.mp hb with z | z
          · subst z
            have q1 : (match get b ρ with | .own ds => some (B.ref ds) | .ref ds => some (B.ref ds) | _ => none) = some c := q1
            cases z : get b ρ with
            | own es => rw [z] at q1; cases q1; exact ⟨0, es, rfl, rfl⟩
            | ref es => rw [z] at q1; cases q1; exact ⟨0, es, rfl, rfl⟩
            | no => rw [z] at q1; cases q1
            | val _ => rw [z] at q1; cases q1
            | rd _ => rw [z] at q1; cases q1
          · exact recc z
      · cases e
    · cases e
theorem refIx_uniq : ∀ {avs : List AV} (i j : Nat) (b c : Ix), ((refIx avs).map Ix.n).Nodup → avs[i]? = some (.ref b) → avs[j]? = some (.ref c) → b.n = c.n → i = j
  | [], i, j, b, c, _, h, _, _ => by simp at h
  | av :: r, i, j, b, c, nd, h1, h2, e => by
    have mem : ∀ {r : List AV} {i : Nat} {b : Ix}, r[i]? = some (.ref b) → b ∈ refIx r := by
      intro r
      induction r with
      | nil => intro i b h; simp at h
      | cons a r ih =>
        intro i b h
        cases i with
        | zero => simp at h; subst h; exact List.mem_cons_self
        | succ i =>
          have := ih (i := i) (b := b) (by simpa using h)
          cases a with
          | ref _ => exact List.mem_cons_of_mem _ this
          | val _ => exact this
          | rd _ => exact this
          | new _ => exact this
    have tl : ((refIx r).map Ix.n).Nodup := by
      cases av with
      | ref _ => exact (List.nodup_cons.mp nd).2
      | val _ => exact nd
      | rd _ => exact nd
      | new _ => exact nd
    cases i with
    | zero =>
      cases j with
      | zero => rfl
      | succ j =>
        simp at h1
        subst h1
        have m := mem (r := r) (i := j) (b := c) (by simpa using h2)
        exact absurd (by rw [e]; exact List.mem_map_of_mem m) (List.nodup_cons.mp nd).1
    | succ i =>
      cases j with
      | zero =>
        simp at h2
        subst h2
        have m := mem (r := r) (i := i) (b := b) (by simpa using h1)
        exact absurd (by rw [← e]; exact List.mem_map_of_mem m) (List.nodup_cons.mp nd).1
      | succ j => rw [refIx_uniq (avs := r) i j b c tl (by simpa using h1) (by simpa using h2) e]
/-- what RefsAre tells of each handed slot -/
theorem refsAre_at : ∀ {avs : List AV} {bs : List B} {vs : List V} {rs : List (List D)}, argsB avs ρ = some bs → AvsOk K F M H σ ρ vs avs → RefsAre K M' H' vs bs rs →
    rs.length = (refIx avs).length ∧ ∀ q ∈ (refIx avs).zip rs, ∃ a xs, σ[q.1.n]? = some (some (.ref a)) ∧ H' a = some (.lst xs) ∧ DqAll K M' H' q.2 xs
  | [], bs, vs, rs, e, h, ra => by
    cases e; cases h
    have ra : rs = [] := ra
    subst ra
    exact ⟨rfl, fun q hq => by cases hq⟩
  | av :: r, bs, vs, rs, e, h, ra => by
    unfold argsB at e
    split at e
    · rename_i c q1
      split at e
      · rename_i bs' q2
        cases e
        cases h with
        | cons h t =>
          cases av with
          | val _ => cases q1; exact refsAre_at (avs := r) q2 t ra
          | rd _ => cases q1; exact refsAre_at (avs := r) q2 t ra
          | new _ => cases q1
          | ref b =>
            have q1 : (match get b ρ with | .own ds => some (B.ref ds) | .ref ds => some (B.ref ds) | _ => none) = some c := q1
            have fin : ∀ ds, c = .ref ds → rs.length = (refIx (.ref b :: r)).length ∧ ∀ q ∈ (refIx (.ref b :: r)).zip rs, ∃ a xs, σ[q.1.n]? = some (some (.ref a)) ∧ H' a = some (.lst xs) ∧ DqAll K M' H' q.2 xs := by
              intro ds ec
              subst ec
              cases rs with
              | nil => exact ra.elim
              | cons es rs =>
                obtain ⟨⟨a, xs, e1, w1, w2⟩, ra⟩ := ra
                obtain ⟨l1, l2⟩ := refsAre_at q2 t ra
                refine ⟨by show rs.length + 1 = (refIx r).length + 1; rw [l1], fun q hq => ?_⟩
                rcases List.mem_cons.mp hq with z | z
                · subst z
                  have h1 : σ[b.n]? = some (some _) := h.1
                  exact ⟨a, xs, by rw [h1, e1], w1, w2⟩
                · exact l2 q z
            cases z : get b ρ with
            | own es => rw [z] at q1; cases q1; exact fin _ rfl
            | ref es => rw [z] at q1; cases q1; exact fin _ rfl
            | no => rw [z] at q1; cases q1
            | val _ => rw [z] at q1; cases q1
            | rd _ => rw [z] at q1; cases q1
      · cases e
    · cases e
/-- a call by the promise -/
theorem callU_ok {m : Fm} {avs : List AV} {av : AV} {ρ' : Rho} {vs : List V} {Q : VK} (R : Rel K F M σ H ρ) (ok : AvsOk K F M H σ ρ vs avs) (h : callU m avs ρ = some (av, ρ'))
    (k : ∀ v M' H', Step M H M' H' → Rel K F M' σ H' ρ' → AvOk K F M' H' σ ρ' v av → Q v H') : spU K m vs H Q := by
  unfold callU at h
  split at h
  · rename_i hd
    have nd : ((refIx avs).map Ix.n).Nodup := of_decide_eq_true hd
    split at h
    · cases h
    · rename_i bs hb
      split at h
      · cases h
      · rename_i res rs hm
        cases h
        refine ⟨M, bs, res, rs, R.trk, argsB_ok R hb ok, fun i j a ds es q1 q2 v1 v2 => ?_, hm, fun v H' M' mm mono trk' keep ra ro => ?_⟩
        · obtain ⟨b, w1, _, ⟨c, c1, c2⟩, w2⟩ := argsB_ref hb ok i ds q1
          obtain ⟨b', w1', _, ⟨c', c1', c2'⟩, w2'⟩ := argsB_ref hb ok j es q2
          exact refIx_uniq i j b b' nd w1 w1' (R.inj b.n b'.n a c c' c1 c1' c2 c2' (w2 _ v1) (w2' _ v2))
        · have refAddr : ∀ (i : Nat) ds a, bs[i]? = some (.ref ds) → vs[i]? = some (.ref a) → M a ∧ F.pd a = none := fun i ds a q1 v1 => by
            obtain ⟨b, _, _, ⟨c, c1, c2⟩, w2⟩ := argsB_ref hb ok i ds q1
            obtain ⟨a', xs, es, e1, m1, _, _, _, p1, _⟩ := R.mutAt c1 c2
            rw [w2 _ v1] at e1
            cases e1
            exact ⟨m1, p1⟩
          have st : Step M H M' H' := ⟨fun a o q n => keep a o q fun i ds q1 v1 => n (refAddr i ds a q1 v1).1, mono⟩
          obtain ⟨lr, hr⟩ := refsAre_at hb ok ra
          have mapz : ((refIx avs).zip rs).map (·.1.n) = (refIx avs).map Ix.n := by
            have : ∀ (l : List Ix) (r : List (List D)), r.length = l.length → (l.zip r).map (·.1.n) = l.map Ix.n := by
              intro l
              induction l with
              | nil => intro r _; rfl
              | cons x l ih =>
                intro r hl
                cases r with
                | nil => simp at hl
                | cons y r => simp only [List.zip_cons_cons, List.map_cons]; rw [ih r (by simpa using hl)]
            exact this _ _ lr
          have memz : ∀ q ∈ (refIx avs).zip rs, q.1 ∈ refIx avs := fun q hq => (List.of_mem_zip (a := q.1) (b := q.2) hq).1
          have R2 := R.after st mm trk' ((refIx avs).zip rs) (by rw [mapz]; exact nd) (fun a o q n => keep a o q fun i ds q1 v1 => by
            obtain ⟨b, _, hbi, _, w2⟩ := argsB_ref hb ok i ds q1
            obtain ⟨j, hj⟩ := List.getElem?_of_mem hbi
            have hj2 : j < rs.length := by rw [lr]; exact (List.getElem?_eq_some_iff.mp hj).1
            have hz : ((refIx avs).zip rs)[j]? = some (b, rs[j]) := by rw [List.getElem?_zip_eq_some]; exact ⟨hj, List.getElem?_eq_getElem hj2⟩
            exact n (b, rs[j]) (List.mem_of_getElem? hz) (w2 _ v1)) (fun q hq a e => by
            obtain ⟨a', xs, e1, w1, w2⟩ := hr q hq
            rw [e] at e1
            cases e1
            exact ⟨xs, w1, w2⟩) (fun q hq => by
            obtain ⟨i, ds, w1, w2⟩ := refIx_at hb q.1 (memz q hq)
            obtain ⟨b, w3, _, w4, _⟩ := argsB_ref hb ok i ds w2
            rw [w1] at w3
            cases w3
            exact w4)
          refine k v M' H' st R2 ?_
          cases res with
          | val d => exact ro
          | new ds =>
            obtain ⟨p, xs, e, mp, hp, hp', dq⟩ := ro
            subst e
            refine ⟨p, xs, rfl, hp', mp, ?_, ?_, dq, fun i b q1 q2 z => ?_⟩
            · cases q : F.H0 p with
              | none => rfl
              | some o =>
                by_cases nn : F.N0 p
                · obtain ⟨ys, z⟩ := R.trk p (R.m0 p (R.n0 p nn))
                  rw [hp] at z; cases z
                · have z := R.keep p o q nn
                  rw [hp] at z; cases z
            · cases q : F.pd p with
              | none => rfl
              | some ys =>
                have z := (R.pd p ys q).1
                rw [hp] at z; cases z
            · -- the slot bore a list ahead of the call
              have : ∃ b0, ρ[i]? = some b0 ∧ b0.mut = true := by
                by_cases hi : ∃ q ∈ (refIx avs).zip rs, q.1.n = i
                · obtain ⟨q, hq, e⟩ := hi
                  obtain ⟨j, ds', w1, w2⟩ := refIx_at hb q.1 (memz q hq)
                  obtain ⟨b', w3, _, w4, _⟩ := argsB_ref hb ok j ds' w2
                  rw [w1] at w3
                  cases w3
                  rw [e] at w4
                  exact w4
                · rw [putRefs_out _ _ _ (fun q hq z => hi ⟨q, hq, z⟩)] at q1
                  exact ⟨b, q1, q2⟩
              obtain ⟨b0, hb0, mb0⟩ := this
              obtain ⟨a, ys, es, e1, _, e2, _⟩ := R.mutAt hb0 mb0
              rw [e1] at z
              cases z
              rw [hp] at e2; cases e2
  · cases h
end
end PV
set_option Elab.async false
set_option linter.all false
set_option autoImplicit false
set_option maxRecDepth 100000
set_option maxHeartbeats 4000000
/-! PVj: the rules of calls, methods, stores. -/
namespace PV
open PySem PySem.Spec PyProof.Rows L2
section
variable {X : Cx} {k : Nat} {f : Addr} {fd : FuncData} {ps : List Str} {sp : SpG} {x : Str} {p pos p2 p3 : Pos} {e e2 : Expr} {es : List Expr} {t tk : TA} {ee ek : Ea} {m : Fm}
theorem run_fnG {pins : List (Addr × Obj)} {σ : L2.St} {H : Hp} {s : Shared} {Q : VK} {us : List Value} {vs : List V} {args : Args} (F : FnG X.prog X.w X.K X.mg X.base k f fd ps sp) (hg : X.A.guards = some []) (hr : Room k X.A)
    (I : Inv X pins σ H s) (hb : BindsTo s fd args (ps.zip us)) (r : Vals vs us) (h : sp vs H Q) : codeAny (model X.prog X.w) X.A (.call (.ref f) args) (fun r s' => match r with | .ok (.ret u) => EP X pins σ Q u s' | _ => False) s := by
  refine codeAny_mono (F.run X.A X.stack s H args us vs Q hg hr I.env0 hb r h) fun r s' hq => ?_
  cases r with
  | error e => exact hq
  | ok fl =>
    cases fl with
    | ret u => exact I.after hq
    | next => exact hq
    | brk => exact hq
    | cont => exact hq
/-- f(a, b, ..): every parameter by its place -/
theorem pe_callG (F : FnG X.prog X.w X.K X.mg X.base k f fd ps sp) (hgd : X.A.guards = some []) (hr : Room k X.A) (hg : Gl X x) (hm : X.mg x = some (.ref f)) (hk : PySem.W.keepIn X.K (.ref f) = true) (hb : Binds X.K fd ps [])
    (ha : PA X (e :: es) t) (hdb : (x == ("__debug__" : Str)) = false := by decide) (he : starEach (e :: es) X.env = (false, eval e X.env) :: starEach es X.env := by rfl) (hpl : (backTo pos (starEach es X.env)).any (·.1) = false := by rfl) :
    PE X (.Call (.Name x p) (e :: es) [] pos) (fun σ H Q => t σ H fun vs H1 => sp vs H1 Q) := by
  refine ⟨fun pins s σ H Q I h => wpAny_Call_Name_kw (ld_glob I hg hm ?_ hdb)⟩
  refine PySem.W.callWith_K (h₀ := X.base) I.ok.mod.kin hk (thn (ha.run pos pins s σ H _ I h) fun us s1 ⟨vs, H1, I1, r, q⟩ => ⟨I1.kIn, ?_⟩) he hpl
  have hl : us.length = ps.length := by rw [← r.length]; exact F.len _ _ _ q
  have b := hb s1 us I1.kIn (by rw [List.append_nil]; exact hl)
  rw [List.append_nil] at b
  refine wpAny_call (codeAny_mono (run_fnG F hgd hr I1 b r q) fun r s' hq => ?_)
  cases r with
  | error e => exact hq.elim
  | ok fl =>
    cases fl with
    | ret u => exact hq
    | next => exact hq.elim
    | brk => exact hq.elim
    | cont => exact hq.elim
/-- f() -/
theorem pe_callG0 (F : FnG X.prog X.w X.K X.mg X.base k f fd ps sp) (hgd : X.A.guards = some []) (hr : Room k X.A) (hg : Gl X x) (hm : X.mg x = some (.ref f)) (hk : PySem.W.keepIn X.K (.ref f) = true) (hb : Binds X.K fd ps [])
    (hdb : (x == ("__debug__" : Str)) = false := by decide) : PE X (.Call (.Name x p) [] [] pos) (fun σ H Q => sp [] H Q) := by
  refine ⟨fun pins s σ H Q I h => wpAny_Call_Name_kw (ld_glob I hg hm ?_ hdb)⟩
  refine PySem.W.callWith_K0 I.kIn hk ?_
  have hl : ([] : List Value).length = ps.length := F.len _ _ _ h
  have b := hb s [] I.kIn hl
  refine wpAny_call (codeAny_mono (run_fnG F hgd hr I b .nil h) fun r s' hq => ?_)
  cases r with
  | error e => exact hq.elim
  | ok fl =>
    cases fl with
    | ret u => exact hq
    | next => exact hq.elim
    | brk => exact hq.elim
    | cont => exact hq.elim
def eUser (m : Fm) (ea : Ea) : Ev := fun ρ => match ea ρ with
  | some (avs, r) => callU m avs r
  | none => none
theorem pu_call (F : FnG X.prog X.w X.K X.mg X.base k f fd ps (spU X.K m)) (hgd : X.A.guards = some []) (hr : Room k X.A) (hg : Gl X x) (hm : X.mg x = some (.ref f)) (hk : PySem.W.keepIn X.K (.ref f) = true) (hb : Binds X.K fd ps [])
    (ha : PUA X (e :: es) ee) (hdb : (x == ("__debug__" : Str)) = false := by decide) (he : starEach (e :: es) X.env = (false, eval e X.env) :: starEach es X.env := by rfl) (hpl : (backTo pos (starEach es X.env)).any (·.1) = false := by rfl) :
    PU X (.Call (.Name x p) (e :: es) [] pos) (eUser m ee) :=
  (pe_callG F hgd hr hg hm hk hb ha hdb he hpl).imp fun σ H Q ⟨F, M, ρ, av, ρ', R, q, kk⟩ => by
    unfold eUser at q
    split at q
    · rename_i avs r h1
      exact ⟨F, M, ρ, avs, r, R, h1, fun vs M1 H1 s1 R1 ok1 => callU_ok R1 ok1 q fun v M2 H2 s2 R2 ok2 => kk v M2 H2 (s1.trans s2) R2 ok2⟩
    · cases q
theorem pu_call0 (F : FnG X.prog X.w X.K X.mg X.base k f fd ps (spU X.K m)) (hgd : X.A.guards = some []) (hr : Room k X.A) (hg : Gl X x) (hm : X.mg x = some (.ref f)) (hk : PySem.W.keepIn X.K (.ref f) = true) (hb : Binds X.K fd ps [])
    (hdb : (x == ("__debug__" : Str)) = false := by decide) : PU X (.Call (.Name x p) [] [] pos) (eUser m aNil) :=
  (pe_callG0 F hgd hr hg hm hk hb hdb).imp fun σ H Q ⟨F, M, ρ, av, ρ', R, q, kk⟩ => callU_ok (σ := σ) R .nil q fun v M2 H2 s2 R2 ok2 => kk v M2 H2 s2 R2 ok2

/-! ### by name: the written places, then the names' values, put in the parameters' order -/
def pick {α : Type} (idx : List Nat) (l : List α) : List α := idx.filterMap fun i => l[i]?
theorem Vals.pick {vs : List V} {us : List Value} (r : Vals vs us) : ∀ idx : List Nat, Vals (PV.pick idx vs) (PV.pick idx us)
  | [] => .nil
  | i :: idx => by
    unfold PV.pick
    rw [List.filterMap_cons, List.filterMap_cons]
    cases e : vs[i]? with
    | none => rw [Vals.none_of r e]; exact Vals.pick r idx
    | some v =>
      obtain ⟨u, h1, h2⟩ := Vals.get r e
      rw [h1]
      exact .cons h2 (Vals.pick r idx)
abbrev PUK (X : Cx) (kws : List Keyword) (ek : Ea) : Prop := PK X kws (tUA X.K ek)
theorem _root_.L2.PK.imp {kws : List Keyword} {t t' : TA} (h : PK X kws t) (i : ∀ σ H Q, t' σ H Q → t σ H Q) : PK X kws t' := ⟨fun pos pins s σ H Q I q => h.run pos pins s σ H Q I (i σ H Q q)⟩
theorem puk_nil : PUK X [] aNil := pk_nil.imp fun σ H Q ⟨F, M, ρ, avs, ρ', R, q, k⟩ => by
  cases q
  exact k [] M H (Step.refl M H) R .nil
theorem puk_cons {kws : List Keyword} {nm : Option Str} {kpos : Pos} {ev : Ev} (ha : PU X e ev) (hr : PUK X kws ek) : PUK X (⟨nm, e, kpos⟩ :: kws) (aCons ev ek) :=
  (pk_cons (pu_norm ha) hr).imp fun σ H Q ⟨F, M, ρ, avs, ρ', R, q, k⟩ => by
    unfold aCons at q
    split at q
    · rename_i x r1 h1
      split at q
      · rename_i xs r2 h2
        cases q
        refine ⟨F, M, ρ, x, r1, R, h1, fun v M1 H1 s1 R1 ok1 => ⟨F, M1, r1, xs, _, R1, h2, fun vs M2 H2 s2 R2 ok2 => ?_⟩⟩
        exact k _ M2 H2 (s1.trans s2) R2 (.cons ⟨ok1.step s2 (eNorm_new h1), eNorm_new h1⟩ ok2)
      · cases q
    · cases q
def eUserK (idx : List Nat) (n l : Nat) (m : Fm) (ea ek : Ea) : Ev := fun ρ => match ea ρ with
  | some (avs, r) => (match ek r with
    | some (avs2, r2) => if avs.length = n ∧ avs2.length = l then callU m (pick idx (avs ++ avs2)) r2 else none
    | none => none)
  | none => none
theorem AvsOk.get {K : PySem.W.Frag} {F : Fx} {M : Ms} {H : Hp} {σ : L2.St} {ρ : Rho} {vs : List V} {avs : List AV} (h : AvsOk K F M H σ ρ vs avs) (i : Nat) : (vs[i]? = none ∧ avs[i]? = none) ∨ ∃ v av, vs[i]? = some v ∧ avs[i]? = some av ∧ AvOk K F M H σ ρ v av ∧ ∀ ds, av ≠ .new ds := by
  cases e : avs[i]? with
  | none =>
    have l := Paired.length h
    refine .inl ⟨?_, rfl⟩
    rw [List.getElem?_eq_none_iff] at e ⊢
    omega
  | some av =>
    obtain ⟨v, q1, q2, q3⟩ := Paired.at h e
    exact .inr ⟨v, av, q1, rfl, q2, q3⟩
theorem AvsOk.pick {K : PySem.W.Frag} {F : Fx} {M : Ms} {H : Hp} {σ : L2.St} {ρ : Rho} {vs : List V} {avs : List AV} (h : AvsOk K F M H σ ρ vs avs) : ∀ idx : List Nat, AvsOk K F M H σ ρ (PV.pick idx vs) (PV.pick idx avs)
  | [] => .nil
  | i :: idx => by
    unfold PV.pick
    rw [List.filterMap_cons, List.filterMap_cons]
    rcases h.get i with ⟨e1, e2⟩ | ⟨v, av, e1, e2, q, n⟩
    · rw [e1, e2]; exact AvsOk.pick h idx
    · rw [e1, e2]; exact .cons ⟨q, n⟩ (AvsOk.pick h idx)
/-- what a call with names asks of the binding -/
def BindsK (K : PySem.W.Frag) (fd : FuncData) (ps ks : List Str) (idx : List Nat) (n l : Nat) : Prop := ∀ (s : Shared) (us ws : List Value), K.In s.heap → us.length = n → ws.length = l → BindsTo s fd ⟨us, ks.zip ws⟩ (ps.zip (pick idx (us ++ ws)))
theorem pu_callK {kws : List Keyword} {ks : List Str} (idx : List Nat) (n l : Nat) (F : FnG X.prog X.w X.K X.mg X.base k f fd ps (spU X.K m)) (hgd : X.A.guards = some []) (hr : Room k X.A) (hg : Gl X x) (hm : X.mg x = some (.ref f)) (hk : PySem.W.keepIn X.K (.ref f) = true)
    (hb : BindsK X.K fd ps ks idx n l) (ha : PUA X (e :: es) ee) (hkw : PUK X kws ek)
    (hall : (backToKw pos (keywordEach kws X.env)).all (·.1.isSome) = true := by rfl) (hks : (backToKw pos (keywordEach kws X.env)).filterMap (·.1) = ks := by rfl)
    (hdb : (x == ("__debug__" : Str)) = false := by decide) (he : starEach (e :: es) X.env = (false, eval e X.env) :: starEach es X.env := by rfl)
    (hpl : ((backTo pos (starEach (e :: es) X.env)).any (·.1) || (backToKw pos (keywordEach kws X.env)).any (·.1.isNone)) = false := by rfl) :
    PU X (.Call (.Name x p) (e :: es) kws pos) (eUserK idx n l m ee ek) := by
  refine ⟨fun pins s σ H Q I ⟨F0, M, ρ, av, ρ', R, q, kk⟩ => wpAny_Call_Name_kw (ld_glob I hg hm ?_ hdb)⟩
  unfold eUserK at q
  split at q
  · rename_i avs r h1
    split at q
    · rename_i avs2 r2 h2
      split at q
      · rename_i hz
        refine PySem.W.callWith_KW (h₀ := X.base) I.ok.mod.kin hk hall (thn (ha.run pos pins s σ H (fun vs H1 => ∃ M1, Step M H M1 H1 ∧ Rel X.K F0 M1 σ H1 r ∧ AvsOk X.K F0 M1 H1 σ r vs avs) I ⟨F0, M, ρ, avs, r, R, h1, fun vs M1 H1 s1 R1 ok1 => ⟨M1, s1, R1, ok1⟩⟩) fun us s1 ⟨vs, H1, I1, rv, M1, st1, R1, ok1⟩ => ?_) hpl he
        refine thn (hkw.run pos pins s1 σ H1 (fun zs H2 => ∃ M2, Step M1 H1 M2 H2 ∧ Rel X.K F0 M2 σ H2 r2 ∧ AvsOk X.K F0 M2 H2 σ r2 zs avs2) I1 ⟨F0, M1, r, avs2, r2, R1, h2, fun vs M2 H2 s2 R2 ok2 => ⟨M2, s2, R2, ok2⟩⟩) fun ws s2 ⟨zs, H2, I2, rz, M2, st2, R2, ok2⟩ => ⟨I2.kIn, ?_⟩
        rw [hks]
        have ok := ((ok1.step (ρ' := r2) st2).app ok2).pick idx
        have rr := Vals.pick (rv.append rz) idx
        have l1 : us.length = n := by rw [← rv.length, Paired.length ok1]; exact hz.1
        have l2 : ws.length = l := by rw [← rz.length, Paired.length ok2]; exact hz.2
        refine wpAny_call (codeAny_mono (run_fnG F hgd hr I2 (hb s2 us ws I2.kIn l1 l2) rr (callU_ok (Q := Q) R2 ok q fun v M3 H3 s3 R3 ok3 => kk v M3 H3 ((st1.trans st2).trans s3) R3 ok3)) fun r s' hq => ?_)
        cases r with
        | error e => exact hq.elim
        | ok fl =>
          cases fl with
          | ret u => exact hq
          | next => exact hq.elim
          | brk => exact hq.elim
          | cont => exact hq.elim
      · cases q
    · cases q
  · cases q
theorem pu_callK0 {kws : List Keyword} {ks : List Str} (idx : List Nat) (l : Nat) (F : FnG X.prog X.w X.K X.mg X.base k f fd ps (spU X.K m)) (hgd : X.A.guards = some []) (hr : Room k X.A) (hg : Gl X x) (hm : X.mg x = some (.ref f)) (hk : PySem.W.keepIn X.K (.ref f) = true)
    (hb : BindsK X.K fd ps ks idx 0 l) (hkw : PUK X kws ek)
    (hall : (backToKw pos (keywordEach kws X.env)).all (·.1.isSome) = true := by rfl) (hks : (backToKw pos (keywordEach kws X.env)).filterMap (·.1) = ks := by rfl)
    (hdb : (x == ("__debug__" : Str)) = false := by decide)
    (hpl : ((backTo pos (starEach [] X.env)).any (·.1) || (backToKw pos (keywordEach kws X.env)).any (·.1.isNone)) = false := by rfl) :
    PU X (.Call (.Name x p) [] kws pos) (eUserK idx 0 l m aNil ek) := by
  refine ⟨fun pins s σ H Q I ⟨F0, M, ρ, av, ρ', R, q, kk⟩ => wpAny_Call_Name_kw (ld_glob I hg hm ?_ hdb)⟩
  unfold eUserK at q
  simp only [aNil] at q
  split at q
  · rename_i avs2 r2 h2
    split at q
    · rename_i hz
      refine PySem.W.callWith_KW0 (h₀ := X.base) I.ok.mod.kin hk hall ?_ hpl
      refine thn (hkw.run pos pins s σ H (fun zs H2 => ∃ M2, Step M H M2 H2 ∧ Rel X.K F0 M2 σ H2 r2 ∧ AvsOk X.K F0 M2 H2 σ r2 zs avs2) I ⟨F0, M, ρ, avs2, r2, R, h2, fun vs M2 H2 s2 R2 ok2 => ⟨M2, s2, R2, ok2⟩⟩) fun ws s2 ⟨zs, H2, I2, rz, M2, st2, R2, ok2⟩ => ⟨I2.kIn, ?_⟩
      rw [hks]
      have ok := ok2.pick idx
      have rr := Vals.pick rz idx
      have l2 : ws.length = l := by rw [← rz.length, Paired.length ok2]; exact hz.2
      have b := hb s2 [] ws I2.kIn rfl l2
      rw [List.nil_append] at b q
      refine wpAny_call (codeAny_mono (run_fnG F hgd hr I2 b rr (callU_ok (Q := Q) R2 ok q fun v M3 H3 s3 R3 ok3 => kk v M3 H3 (st2.trans s3) R3 ok3)) fun r s' hq => ?_)
      cases r with
      | error e => exact hq.elim
      | ok fl =>
        cases fl with
        | ret u => exact hq
        | next => exact hq.elim
        | brk => exact hq.elim
        | cont => exact hq.elim
    · cases q
  · cases q

/-! ### methods of lists -/
@[simp] def mutL : B → Option (List D)
  | .own ds => some ds
  | .ref ds => some ds
  | _ => none
theorem mutL_mut {b : B} {ds : List D} (h : mutL b = some ds) : b.mut = true ∧ b ≠ .no ∧ (b = .own ds ∨ b = .ref ds) := by
  cases b with
  | own _ => cases h; exact ⟨rfl, (by intro z; cases z), .inl rfl⟩
  | ref _ => cases h; exact ⟨rfl, (by intro z; cases z), .inr rfl⟩
  | no => cases h
  | val _ => cases h
  | rd _ => cases h
theorem Rel.mutSlot {K : PySem.W.Frag} {F : Fx} {M : Ms} {H : Hp} {σ : L2.St} {ρ : Rho} (R : Rel K F M σ H ρ) {b : Ix} {ds : List D} {v : V} (h : mutL (get b ρ) = some ds) (hv : σ[b.n]? = some (some v)) :
    ∃ a xs, v = .ref a ∧ H a = some (.lst xs) ∧ DqAll K M H ds xs ∧ ρ[b.n]? = some (get b ρ) := by
  obtain ⟨m1, n1, c1⟩ := mutL_mut h
  have hb := get_some (i := b) (ρ := ρ) rfl n1
  obtain ⟨a, xs, es, e1, _, e2, e3, e4, _⟩ := R.mutAt hb m1
  rw [hv] at e1
  cases e1
  have e5 : es = ds := by
    rcases c1 with z | z <;> rcases e3 with y | y <;> (rw [z] at y; cases y) <;> rfl
  subst e5
  exact ⟨a, xs, rfl, e2, e4, hb⟩
def eAppend (b : Ix) (ev : Ev) : Ev := fun ρ => match mutL (get b ρ) with
  | none => none
  | some _ => match eVal ev ρ with
    | some (.val d, r) => (match mutL (get b r) with
      | some ds => if ds.length < mxL then some (.val .none, put b (setL (get b r) (ds ++ [d])) r) else none
      | none => none)
    | _ => none
variable {y : Str} {apos cpos : Pos} {ev : Ev}
theorem eVar_mut {b : Ix} {ρ : Rho} {ds : List D} (h : mutL (get b ρ) = some ds) : eVar b ρ = some (.ref b, ρ) := by
  unfold eVar
  cases e : get b ρ with
  | own _ => rfl
  | ref _ => rfl
  | no => rw [e] at h; cases h
  | val _ => rw [e] at h; cases h
  | rd _ => rw [e] at h; cases h
theorem tyV_list {K : PySem.W.Frag} {H : Hp} {a : Addr} {xs : List V} (h : H a = some (.lst xs)) : tyV K "list" (.ref a) H := Or.inl ⟨rfl, _, SqL.of h⟩
theorem pu_append (b : Ix) (hv : PU X (.Name y p2) (eVar b)) (ha : PU X e ev)
    (hbase : attributeBase (.Name y p2) "append" X.env (eval (.Name y p2) X.env) = eval (.Name y p2) X.env := by rfl)
    (hfew : ((backTo cpos (starEach [e] X.env)).all (fun x => !x.1) && (backToKw cpos (keywordEach [] X.env)).all (fun x => x.1.isSome) && decide (([e] : List Expr).length + ([] : List Keyword).length + (if ([] : List Keyword).isEmpty then 0 else 1) < 30)) = true := by rfl)
    (hline : (apos.endLine == cpos.line) = true := by rfl) (hs : starEach [e] X.env = (false, eval e X.env) :: starEach [] X.env := by rfl) (hplain : (backTo cpos (starEach [] X.env)).any (·.1) = false := by rfl) :
    PU X (.Call (.Attribute (.Name y p2) "append" apos) [e] [] cpos) (eAppend b ev) :=
  (pe_bm PySem.F.plainAttrs_list PySem.F.slot_list_append PySem.F.type_list_append mt_append hv (pa_cons (pu_val ha) pa_nil hs) hbase hfew hline hs hplain).imp fun σ H Q ⟨F, M, ρ, av, ρ', R, q, k⟩ => by
    unfold eAppend at q
    split at q
    · cases q
    · rename_i ds0 h0
      split at q
      · rename_i d r h1
        split at q
        · rename_i ds h2
          split at q
          · rename_i hz
            cases q
            refine ⟨F, M, ρ, _, _, R, eVar_mut h0, fun v M1 H1 s1 R1 ok1 => ?_⟩
            have ok1 : σ[b.n]? = some (some v) := ok1
            obtain ⟨a, xs, e1, h3, _, _⟩ := R1.mutSlot h0 ok1
            subst e1
            refine ⟨tyV_list h3, F, M1, ρ, _, r, R1, h1, fun u M2 H2 s2 R2 ok2 => ?_⟩
            obtain ⟨a', ys, e2, h4, dq, hb⟩ := R2.mutSlot h2 ok1
            cases e2
            refine ⟨a, ys, u, rfl, rfl, h4, by rw [sizeLine_eq, dq.len]; exact hz, ?_⟩
            have du : Dq X.K M2 H2 d u := ok2
            obtain ⟨R3, s3⟩ := R2.putL hb (mutL_mut h2).1 ok1 (dq.app (.one du))
            exact k .non M2 _ ((s1.trans s2).trans s3) R3 rfl
          · cases q
        · cases q
      · cases q
def eExtend (b : Ix) (ev : Ev) : Ev := fun ρ => match mutL (get b ρ) with
  | none => none
  | some _ => match ev ρ with
    | some (av, r) => (match peek av r with
      | some (.list es) => (match mutL (get b r) with
        | some ds => if ds.length + es.length ≤ mxL then some (.val .none, put b (setL (get b r) (ds ++ es)) r) else none
        | none => none)
      | _ => none)
    | none => none
theorem pu_extend (b : Ix) (hv : PU X (.Name y p2) (eVar b)) (ha : PU X e ev)
    (hbase : attributeBase (.Name y p2) "extend" X.env (eval (.Name y p2) X.env) = eval (.Name y p2) X.env := by rfl)
    (hfew : ((backTo cpos (starEach [e] X.env)).all (fun x => !x.1) && (backToKw cpos (keywordEach [] X.env)).all (fun x => x.1.isSome) && decide (([e] : List Expr).length + ([] : List Keyword).length + (if ([] : List Keyword).isEmpty then 0 else 1) < 30)) = true := by rfl)
    (hline : (apos.endLine == cpos.line) = true := by rfl) (hs : starEach [e] X.env = (false, eval e X.env) :: starEach [] X.env := by rfl) (hplain : (backTo cpos (starEach [] X.env)).any (·.1) = false := by rfl) :
    PU X (.Call (.Attribute (.Name y p2) "extend" apos) [e] [] cpos) (eExtend b ev) :=
  (pe_bm PySem.F.plainAttrs_list PySem.F.slot_list_extend PySem.F.type_list_extend mt_extend hv (pa_cons ha pa_nil hs) hbase hfew hline hs hplain).imp fun σ H Q ⟨F, M, ρ, av, ρ', R, q, k⟩ => by
    unfold eExtend at q
    split at q
    · cases q
    · rename_i ds0 h0
      split at q
      · rename_i av2 r h1
        split at q
        · rename_i es hp
          split at q
          · rename_i ds h2
            split at q
            · rename_i hz
              cases q
              refine ⟨F, M, ρ, _, _, R, eVar_mut h0, fun v M1 H1 s1 R1 ok1 => ?_⟩
              have ok1 : σ[b.n]? = some (some v) := ok1
              obtain ⟨a, xs, e1, h3, _, _⟩ := R1.mutSlot h0 ok1
              subst e1
              refine ⟨tyV_list h3, F, M1, ρ, av2, r, R1, h1, fun u M2 H2 s2 R2 ok2 => ?_⟩
              obtain ⟨a', ys, e2, h4, dq, hb⟩ := R2.mutSlot h2 ok1
              cases e2
              obtain ⟨c, zs, e3, h5, dq2⟩ := (AvOk.pk R2 ok2 hp).list
              subst e3
              refine ⟨a, c, ys, zs, rfl, rfl, h4, h5, by rw [sizeLine_eq, dq.len, dq2.len]; exact hz, ?_⟩
              obtain ⟨R3, s3⟩ := R2.putL hb (mutL_mut h2).1 ok1 (dq.app dq2)
              exact k .non M2 _ ((s1.trans s2).trans s3) R3 rfl
            · cases q
          · cases q
        · cases q
      · cases q
def ePopAt (b : Ix) (ev : Ev) : Ev := fun ρ => match mutL (get b ρ) with
  | none => none
  | some _ => match eVal ev ρ with
    | some (.val (.int i), r) => (match mutL (get b r) with
      | some ds => if small62 i then (match ixN ds.length i with
        | some j => (match ds[j]? with
          | some d => some (.val d, put b (setL (get b r) (ds.eraseIdx j)) r)
          | none => none)
        | none => none) else none
      | none => none)
    | _ => none
theorem pu_popAt (b : Ix) (hv : PU X (.Name y p2) (eVar b)) (ha : PU X e ev)
    (hbase : attributeBase (.Name y p2) "pop" X.env (eval (.Name y p2) X.env) = eval (.Name y p2) X.env := by rfl)
    (hfew : ((backTo cpos (starEach [e] X.env)).all (fun x => !x.1) && (backToKw cpos (keywordEach [] X.env)).all (fun x => x.1.isSome) && decide (([e] : List Expr).length + ([] : List Keyword).length + (if ([] : List Keyword).isEmpty then 0 else 1) < 30)) = true := by rfl)
    (hline : (apos.endLine == cpos.line) = true := by rfl) (hs : starEach [e] X.env = (false, eval e X.env) :: starEach [] X.env := by rfl) (hplain : (backTo cpos (starEach [] X.env)).any (·.1) = false := by rfl) :
    PU X (.Call (.Attribute (.Name y p2) "pop" apos) [e] [] cpos) (ePopAt b ev) :=
  (pe_bm PySem.F.plainAttrs_list PySem.F.slot_list_pop PySem.F.type_list_pop mt_popAt hv (pa_cons (pu_val ha) pa_nil hs) hbase hfew hline hs hplain).imp fun σ H Q ⟨F, M, ρ, av, ρ', R, q, k⟩ => by
    unfold ePopAt at q
    split at q
    · cases q
    · rename_i ds0 h0
      split at q
      · rename_i i r h1
        split at q
        · rename_i ds h2
          split at q
          · rename_i hz
            split at q
            · rename_i j hj
              split at q
              · rename_i d hd
                cases q
                refine ⟨F, M, ρ, _, _, R, eVar_mut h0, fun v M1 H1 s1 R1 ok1 => ?_⟩
                have ok1 : σ[b.n]? = some (some v) := ok1
                obtain ⟨a, xs, e1, h3, _, _⟩ := R1.mutSlot h0 ok1
                subst e1
                refine ⟨tyV_list h3, F, M1, ρ, _, r, R1, h1, fun u M2 H2 s2 R2 ok2 => ?_⟩
                obtain ⟨a', ys, e2, h4, dq, hb⟩ := R2.mutSlot h2 ok1
                cases e2
                have eu : u = .int i := ok2
                subst eu
                obtain ⟨z1, z2⟩ := small62_ok hz
                rw [← dq.len] at hj
                obtain ⟨v2, w1, w2⟩ := dq.get hd
                refine ⟨a, ys, i, j, v2, rfl, rfl, h4, by omega, by omega, (ixN_seq hj).1, w1, ?_⟩
                obtain ⟨R3, s3⟩ := R2.putL hb (mutL_mut h2).1 ok1 (dq.erase j)
                exact k v2 M2 _ ((s1.trans s2).trans s3) R3 (Dq.step s3 _ _ w2)
              · cases q
            · cases q
          · cases q
        · cases q
      · cases q
/-- xs.count(i) of numbers -/
def eCount (ea : Ev) (ev : Ev) : Ev := fun ρ => match eNorm ea ρ with
  | some (av, r) => (match peekR av r with
    | some (.list _) => (match eVal ev r with
      | some (.val (.int i), r2) => (match peekR av r2 with
        | some (.list ds) => (match intsOf ds with
          | some is => some (.val (.int (is.count i : Nat)), r2)
          | none => none)
        | _ => none)
      | _ => none)
    | _ => none)
  | none => none
theorem pu_count {o : Expr} {ea : Ev} (ho : PU X o ea) (ha : PU X e ev)
    (hbase : attributeBase o "count" X.env (eval o X.env) = eval o X.env := by rfl)
    (hfew : ((backTo cpos (starEach [e] X.env)).all (fun x => !x.1) && (backToKw cpos (keywordEach [] X.env)).all (fun x => x.1.isSome) && decide (([e] : List Expr).length + ([] : List Keyword).length + (if ([] : List Keyword).isEmpty then 0 else 1) < 30)) = true := by rfl)
    (hline : (apos.endLine == cpos.line) = true := by rfl) (hs : starEach [e] X.env = (false, eval e X.env) :: starEach [] X.env := by rfl) (hplain : (backTo cpos (starEach [] X.env)).any (·.1) = false := by rfl) :
    PU X (.Call (.Attribute o "count" apos) [e] [] cpos) (eCount ea ev) :=
  (pe_bm PySem.F.plainAttrs_list PySem.F.slot_list_count PySem.F.type_list_count mt_lcount (pu_norm ho) (pa_cons (pu_val ha) pa_nil hs) hbase hfew hline hs hplain).imp fun σ H Q ⟨F, M, ρ, av, ρ', R, q, k⟩ => by
    unfold eCount at q
    split at q
    · rename_i av1 r h1
      split at q
      · rename_i es h0
        split at q
        · rename_i i rr h2
          split at q
          · rename_i ds h3
            split at q
            · rename_i is h4
              cases q
              refine ⟨F, M, ρ, av1, r, R, h1, fun v M1 H1 s1 R1 ok1 => ?_⟩
              obtain ⟨a, xs, e1, hx, dq⟩ := (AvOk.pkR R1 ok1 h0).list
              subst e1
              refine ⟨Or.inl ⟨rfl, _, hx⟩, F, M1, r, _, ρ', R1, h2, fun u M2 H2 s2 R2 ok2 => ?_⟩
              have eu : u = .int i := ok2
              subst eu
              obtain ⟨a', ys, e2, hy, dq2⟩ := (AvOk.pkR R2 (ok1.step s2 (eNorm_new h1)) h3).list
              cases e2
              have ed := intsOf_map h4
              subst ed
              rw [DqAll.ints dq2] at hy
              exact ⟨a, is, i, rfl, rfl, hy, k _ M2 H2 (s1.trans s2) R2 rfl⟩
            · cases q
          · cases q
        · cases q
      · cases q
    · cases q
end
end PV
set_option Elab.async false
set_option linter.all false
set_option autoImplicit false
set_option maxRecDepth 100000
set_option maxHeartbeats 4000000
/-! PVk: stores into lists; two names stored at once; comprehensions of two walks. -/
namespace PV
open PySem PySem.Spec PyProof.Rows L2
section
variable {X : Cx} {o i e e2 : Expr} {y : Str} {p2 pos : Pos} {ei ev : Ev}
/-- x[i] = .. -/
def gI (b : Ix) (ei : Ev) : Gd := fun d ρ => match mutL (get b ρ) with
  | none => none
  | some _ => match eVal ei ρ with
    | some (.val (.int k), r) => (match mutL (get b r) with
      | some ds => (match ixN ds.length k with
        | some j => some (put b (setL (get b r) (ds.set j d)) r)
        | none => none)
      | none => none)
    | _ => none
theorem pug_sub (b : Ix) (hv : PU X (.Name y p2) (eVar b)) (hi : PU X i ei)
    (ha : ∀ v, assign (.Subscript (.Name y p2) i pos) X.env v = (do
      let ov ← holding [v] (eval (.Name y p2) X.env)
      let iv ← holding [v, ov] (eval i X.env)
      standAt pos
      holding [v, ov, iv] (setItem ov iv v)
      release [v, ov, iv] []) := by intro _; rfl) : PUG X (.Subscript (.Name y p2) i pos) (gI b ei) [] :=
  PG.imp' (pg_sub hv (pu_val hi) set_list ha) fun v σ H Q ⟨F, M, ρ, d, ρ', R, dq, q, k⟩ => by
    unfold gI at q
    split at q
    · cases q
    · rename_i ds0 h0
      split at q
      · rename_i i r h1
        split at q
        · rename_i ds h2
          split at q
          · rename_i j hj
            cases q
            refine ⟨F, M, ρ, _, _, R, eVar_mut h0, fun o M1 H1 s1 R1 ok1 => ?_⟩
            have ok1 : σ[b.n]? = some (some o) := ok1
            obtain ⟨a, xs, e1, h3, _, _⟩ := R1.mutSlot h0 ok1
            subst e1
            refine ⟨F, M1, ρ, _, r, R1, h1, fun u M2 H2 s2 R2 ok2 => ?_⟩
            obtain ⟨a', ys, e2, h4, dq2, hb⟩ := R2.mutSlot h2 ok1
            cases e2
            have eu : u = .int i := ok2
            subst eu
            rw [← dq2.len] at hj
            obtain ⟨R3, s3⟩ := R2.putL hb (mutL_mut h2).1 ok1 (dq2.set j (Dq.step (s1.trans s2) _ _ dq))
            exact ⟨a, ys, i, j, rfl, rfl, h4, hj, k σ M2 _ ((s1.trans s2).trans s3) R3 rfl⟩
          · cases q
        · cases q
      · cases q

/-! ### two names at once -/
def eSel (m : Bool) (e : Ev) : Ev := if m = true then e else eVal e
theorem pu_sel (m : Bool) (h : PU X e ev) : PU X e (eSel m ev) := by
  cases m with
  | true => exact h
  | false => exact pu_val h
def sPar (i j : Ix) (m1 m2 : Bool) (e1 e2 : Ev) : Es := fun ρ => match eSel m1 e1 ρ with
  | some (.val d, r) => (match eSel m2 e2 r with
    | some (av, r2) => (match bindM j av (put i (.val d) r2) with
      | some r3 => some (.nx r3)
      | none => none)
    | none => none)
  | some (.new ds, r) => (match eSel m2 e2 r with
    | some (.val d, r2) => some (.nx (put j (.val d) (put i (.own ds) r2)))
    | some (.new es, r2) => some (.nx (put j (.own es) (put i (.own ds) r2)))
    | _ => none)
  | _ => none
theorem own_apart {K : PySem.W.Frag} {F : Fx} {M : Ms} {H : Hp} {σ : L2.St} {ρ : Rho} {i : Nat} {w : Option V} {c : B} {p : Addr} (hw : c.mut = true → w ≠ some (.ref p)) (h : ∀ (k : Nat) b, ρ[k]? = some b → b.mut = true → σ[k]? ≠ some (some (.ref p))) :
    ∀ (k : Nat) b, (ρ.set i c)[k]? = some b → b.mut = true → (σ.set i w)[k]? ≠ some (some (.ref p)) := fun k b q1 q2 z => by
  by_cases e : i = k
  · subst e
    have l1 : i < ρ.length := by simpa using (List.getElem?_eq_some_iff.mp q1).1
    have l2 : i < σ.length := by simpa using (List.getElem?_eq_some_iff.mp z).1
    rw [List.getElem?_set_self l1] at q1
    rw [List.getElem?_set_self l2] at z
    cases q1
    exact hw q2 (Option.some.inj z)
  · rw [List.getElem?_set_ne e] at q1 z
    exact h k b q1 q2 z
theorem pus_par (i j : Ix) (m1 m2 : Bool) {x y : Str} {a b : Expr} {e1 e2 : Ev} {px py pt : Pos} {kt k2 pt2} (hc : X.calm = true) (hN : X.N.Nodup) (hi : X.N[i.n]? = some x) (hj : X.N[j.n]? = some y) (hij : i.n ≠ j.n)
    (hx : X.env.scope.names.lookup x = some .local) (hy : X.env.scope.names.lookup y = some .local) (h1 : PU X a e1) (h2 : PU X b e2)
    (hw : swappedStores [.Tuple [.Name x px, .Name y py] kt pt] (.Tuple [a, b] k2 pt2) X.env = pure (some [x, y]) := by rfl)
    (hs : swapsWithSole [.Tuple [.Name x px, .Name y py] kt pt] (.Tuple [a, b] k2 pt2) pos.line X.env = pure false := by rfl)
    (ha : PA X [a, b] (tCons (tU X.K (eSel m1 e1)) (tCons (tU X.K (eSel m2 e2)) tNil))) :
    PUS X (.Assign [.Tuple [.Name x px, .Name y py] kt pt] (.Tuple [a, b] k2 pt2) pos) (sPar i j m1 m2 e1 e2) :=
  (ps_par (i := i.n) (j := j.n) hc hN hi hj hij hx hy ha hw hs).imp fun E σ H ⟨F, M, ρ, fl, R, q, k⟩ => by
    unfold sPar at q
    split at q
    · rename_i d r q1
      split at q
      · rename_i av r2 q2
        split at q
        · rename_i r3 q3
          cases q
          refine ⟨F, M, ρ, _, r, R, q1, fun v M1 H1 s1 R1 ok1 => ⟨F, M1, r, av, r2, R1, q2, fun w M2 H2 s2 R2 ok2 => ⟨v, w, rfl, ?_⟩⟩⟩
          have dv : Dq X.K M2 H2 d v := Dq.step s2 _ _ ok1
          refine k _ M2 H2 (s1.trans s2) (bindM_ok (R2.setVal i.n dv) ?_ (by rw [put_n] at q3; exact q3))
          cases av with
          | val d2 => exact ok2
          | rd d2 => exact ok2
          | ref b => cases q3
          | new es =>
            obtain ⟨p, xs, e, z1, z2, z3, z4, z5, z6⟩ := ok2
            exact ⟨p, xs, e, z1, z2, z3, z4, z5, own_apart (K := X.K) (F := F) (M := M2) (H := H2) (fun z => nomatch z) z6⟩
        · cases q
      · cases q
    · rename_i ds r q1
      have fst : ∀ v M1 H1, AvOk X.K F M1 H1 σ r v (.new ds) → Rel X.K F M1 σ H1 r → ∃ p xs, v = .ref p ∧ Rel X.K (F.with p xs) M1 σ H1 r ∧ F.H0 p = none ∧ F.pd p = none ∧ DqAll X.K M1 H1 ds xs := fun v M1 H1 ⟨p, xs, e, z1, z2, z3, z4, z5, z6⟩ R1 => ⟨p, xs, e, R1.with z1 z2 z6, z3, z4, z5⟩
      have set1 : ∀ {p xs M1 H1 M2 H2 r2}, Rel X.K (F.with p xs) M2 σ H2 r2 → F.H0 p = none → F.pd p = none → Step M1 H1 M2 H2 → DqAll X.K M1 H1 ds xs → Rel X.K F M2 (σ.set i.n (some (.ref p))) H2 (r2.set i.n (.own ds)) := fun {p xs M1 H1 M2 H2 r2} R2 n1 n2 s2 dq => by
        obtain ⟨w1, w2⟩ := R2.pd p xs (Fx.with_at _ _ _)
        exact (R2.less n2).setOwn i.n ⟨p, xs, rfl, w1, w2, n1, n2, DqAll.step s2 _ _ dq, R2.apart (Fx.with_at _ _ _)⟩
      split at q
      · rename_i d r2 q2
        cases q
        rw [put_n, put_n] at k
        refine ⟨F, M, ρ, _, r, R, q1, fun v M1 H1 s1 R1 ok1 => ?_⟩
        obtain ⟨p, xs, e, R1', n1, n2, dq⟩ := fst v M1 H1 ok1 R1
        subst e
        refine ⟨F.with p xs, M1, r, _, r2, R1', q2, fun w M2 H2 s2 R2 ok2 => ⟨_, w, rfl, ?_⟩⟩
        exact k _ M2 H2 (s1.trans s2) ((set1 R2 n1 n2 s2 dq).setVal j.n ok2)
      · rename_i es r2 q2
        cases q
        rw [put_n, put_n] at k
        refine ⟨F, M, ρ, _, r, R, q1, fun v M1 H1 s1 R1 ok1 => ?_⟩
        obtain ⟨p, xs, e, R1', n1, n2, dq⟩ := fst v M1 H1 ok1 R1
        subst e
        refine ⟨F.with p xs, M1, r, _, r2, R1', q2, fun w M2 H2 s2 R2 ok2 => ⟨_, w, rfl, ?_⟩⟩
        obtain ⟨p2, ys, e2, z1, z2, z3, z4, z5, z6⟩ := ok2
        have ne : p2 ≠ p := fun z => by
          subst z
          rw [Fx.with_at] at z4
          cases z4
        have z4' : F.pd p2 = none := by
          have z : (if p2 = p then some xs else F.pd p2) = none := z4
          rw [if_neg ne] at z
          exact z
        refine k _ M2 H2 (s1.trans s2) ((set1 R2 n1 n2 s2 dq).setOwn j.n ⟨p2, ys, e2, z1, z2, z3, z4', z5, own_apart (K := X.K) (F := F) (M := M2) (H := H2) (fun _ z => ?_) z6⟩)
        cases z
        exact ne rfl
      · cases q
    · cases q

/-! ### comprehensions of two walks -/
def evComp2 (g : Gd) (tt : Et) (ei1 : Ei) (g1 : Gd) (tt1 : Et) (ee : Ev) (own own1 : List Ix) : List D → Rho → Option (List D × Rho)
  | [], ρ => some ([], ρ)
  | d :: ds, ρ => match g d ρ with
    | none => none
    | some r1 => match tt r1 with
      | none => none
      | some (false, r2) => evComp2 g tt ei1 g1 tt1 ee own own1 ds (killAll own r2)
      | some (true, r2) => match ei1 r2 with
        | none => none
        | some (ds1, r3) => match evComp g1 tt1 ee own1 ds1 (killAll own1 r3) with
          | none => none
          | some (xs, r4) => match evComp2 g tt ei1 g1 tt1 ee own own1 ds (killAll own r4) with
            | some (ys, r5) => some (xs ++ ys, r5)
            | none => none
def eComp2 (ei : Ei) (g : Gd) (tt : Et) (ei1 : Ei) (g1 : Gd) (tt1 : Et) (ee : Ev) (own own1 : List Ix) : Ev := fun ρ => match ei ρ with
  | some (ds, r) => (match evComp2 g tt ei1 g1 tt1 ee own own1 ds (killAll own r) with
    | some (ys, r2) => if ys.length ≤ mxL then some (.new ys, restore own r r2) else none
    | none => none)
  | none => none
theorem own_no (own : List Ix) (ρ2 : Rho) : ∀ v ∈ own.map Ix.n, (killAll own ρ2)[v]? = some .no ∨ (killAll own ρ2)[v]? = none := fun v hv => by
  obtain ⟨i, hi, rfl⟩ := List.mem_map.mp hv
  exact kill_in own ρ2 i hi
theorem inner_imp {K : PySem.W.Frag} {g : Gd} {ws : List Nat} {tt : Et} {ee : Ev} (own : List Ix) (hw : ∀ w ∈ ws, w ∈ own.map Ix.n) {σ : L2.St} {F : Fx} {M2 : Ms} {H2 : Hp} {r r2 : Rho} {L : Addr} {acc0 : List V} {dacc0 ds xs : List D} {J : It} {P : Ms → Hp → Prop} {Nx : Hp → Prop}
    (p0 : F.H0 L = none) (n1 : F.pd L = none) (R2 : Rel K (F.with L acc0) M2 σ H2 r) (it : ItOk K J ds P) (p2 : P M2 H2) (dq : DqAll K M2 H2 dacc0 acc0) (h2 : evComp g tt ee own ds (killAll own r) = some (xs, r2)) (hz : dacc0.length + xs.length ≤ mxL)
    (k : ∀ M H acc, Step M2 H2 M H → Rel K F M σ H r2 → M L → H L = some (.lst acc) → DqAll K M H (dacc0 ++ xs) acc → (∀ (i : Nat) b, r2[i]? = some b → b.mut = true → σ[i]? ≠ some (some (.ref L))) → Nx H) :
    ∃ W1 : Nat → Nat → Hp → Prop, (∃ m, W1 0 m H2) ∧ ∀ j k H, W1 j k H →
      (J.stop j H ∧ Nx H) ∨ (J.go j H ∧ ∃ Nx1 : Hp → Prop, (∀ H', Nx1 H' → ∃ k', k' < k ∧ W1 (j + 1) k' H') ∧ ∀ x H', J.yld j H x H' → tGU K g ws x (L2.wipe σ (own.map Ix.n)) H' fun σ3 H5 => L2.wipe σ3 (own.map Ix.n) = L2.wipe σ (own.map Ix.n) ∧ tB' K tt σ3 H5 fun b H6 =>
        if b = true then tU K (eVal ee) σ3 H6 fun y H7 => ∃ acc, H7 L = some (.lst acc) ∧ acc.length < sizeLine ∧ Nx1 (upd H7 L (.lst (acc ++ [y]))) else Nx1 H6) := by
  have ownNo := own_no own
  obtain ⟨hl2, m2⟩ := R2.pd L acc0 (Fx.with_at _ _ _)
  refine ⟨fun i m H => m = ds.length - i ∧ i ≤ ds.length ∧ ∃ M3 ρ3 acc dacc, Step M2 H2 M3 H ∧ Rel K F M3 σ H ρ3 ∧ (∀ v ∈ own.map Ix.n, ρ3[v]? = some .no ∨ ρ3[v]? = none) ∧ M3 L ∧ H L = some (.lst acc) ∧ DqAll K M3 H dacc acc ∧
    (∀ (i : Nat) b, ρ3[i]? = some b → b.mut = true → σ[i]? ≠ some (some (.ref L))) ∧ P M3 H ∧ ∃ zs, evComp g tt ee own (ds.drop i) ρ3 = some (zs, r2) ∧ dacc ++ zs = dacc0 ++ xs,
    ⟨ds.length, rfl, Nat.zero_le _, M2, _, acc0, dacc0, Step.refl _ _, (R2.less n1).kill own, ownNo r, m2, hl2, dq, (R2.kill own).apart (Fx.with_at _ _ _), p2, xs, h2, rfl⟩, ?_⟩
  rintro i m H3 ⟨rfl, hi, M3, ρ3, acc, dacc, s3, R3, hno, m3, hl3, dq3, ns3, p3, zs, q3, ez⟩
  by_cases hlt : i < ds.length
  · refine .inr ⟨it.go M3 H3 i p3 hlt, fun H => ∃ M4 ρ4 acc4 dacc4, Step M3 H3 M4 H ∧ Rel K F M4 σ H ρ4 ∧ (∀ v ∈ own.map Ix.n, ρ4[v]? = some .no ∨ ρ4[v]? = none) ∧ M4 L ∧ H L = some (.lst acc4) ∧ DqAll K M4 H dacc4 acc4 ∧
      (∀ (i : Nat) b, ρ4[i]? = some b → b.mut = true → σ[i]? ≠ some (some (.ref L))) ∧ ∃ zs, evComp g tt ee own (ds.drop (i + 1)) ρ4 = some (zs, r2) ∧ dacc4 ++ zs = dacc0 ++ xs,
      fun H' ⟨M4, ρ4, acc4, dacc4, s4, R4, hno4, m4, hl4, dq4, ns4, q4⟩ => ⟨ds.length - (i + 1), by omega, rfl, hlt, M4, ρ4, acc4, dacc4, s3.trans s4, R4, hno4, m4, hl4, dq4, ns4, it.stay _ _ _ _ s4 p3, q4⟩, fun x H4 y => ?_⟩
    obtain ⟨gr, d, hd, dqd⟩ := it.yld M3 H3 i x H4 R3.trk p3 hlt y
    have e : ds.drop i = d :: ds.drop (i + 1) := by
      obtain ⟨hl, e⟩ := List.getElem?_eq_some_iff.mp hd
      rw [List.drop_eq_getElem_cons hl, e]
    rw [e] at q3
    unfold evComp at q3
    split at q3
    · cases q3
    · rename_i r1 hg1
      have R3' : Rel K (F.with L acc) M3 (L2.wipe σ (own.map Ix.n)) H4 ρ3 := ((R3.with hl3 m3 ns3).wipe _ hno).grow gr
      refine ⟨F.with L acc, M3, ρ3, d, r1, R3', dqd, hg1, fun σ5 M5 H5 s5 R5 w5 => ?_⟩
      have w6 : L2.wipe σ5 (own.map Ix.n) = L2.wipe σ (own.map Ix.n) := by
        rw [wipe_mono w5 hw]
        exact wipe_idem σ _
      refine ⟨w6, ?_⟩
      have back : ∀ {M7 : Ms} {H7 : Hp} {ρ7 : Rho}, Rel K (F.with L acc) M7 σ5 H7 ρ7 → Rel K (F.with L acc) M7 σ H7 (killAll own ρ7) := fun {M7 H7 ρ7} R7 => by
        have := ((R7.kill own).wipe (own.map Ix.n) (ownNo ρ7))
        rw [w6] at this
        exact this.unwipe (ownNo ρ7)
      split at q3
      · cases q3
      · rename_i rr ht
        refine ⟨F.with L acc, M5, r1, _, rr, R5, ht, fun M6 H6 s6 R6 => iteF ?_⟩
        have s7 : Step M3 H3 M6 H6 := ((Step.gr gr).trans s5).trans s6
        have R7 := back R6
        obtain ⟨hl7, m7⟩ := R6.pd L acc (Fx.with_at _ _ _)
        exact ⟨M6, _, acc, dacc, s7, R7.less n1, ownNo rr, m7, hl7, DqAll.step s7 _ _ dq3, R7.apart (Fx.with_at _ _ _), zs, q3, ez⟩
      · rename_i rr ht
        refine ⟨F.with L acc, M5, r1, _, rr, R5, ht, fun M6 H6 s6 R6 => iteT ?_⟩
        split at q3
        · rename_i y r3 he
          refine ⟨F.with L acc, M6, rr, _, r3, R6, he, fun v M7 H7 s7 R7 ok => ?_⟩
          split at q3
          · rename_i ys' r4 hc'
            cases q3
            obtain ⟨hl7, m7⟩ := R7.pd L acc (Fx.with_at _ _ _)
            have R8 : Rel K (F.with L acc) M7 σ H7 (killAll own r3) := back R7
            have s8 : Step M3 H3 M7 H7 := (((Step.gr gr).trans s5).trans s6).trans s7
            have ap : ∀ (i : Nat) b, (killAll own r3)[i]? = some b → b.mut = true → σ[i]? ≠ some (some (.ref L)) := R8.apart (Fx.with_at F L acc)
            have lt : acc.length < mxL := by
              have := congrArg List.length ez
              simp only [List.length_append, List.length_cons] at this
              rw [dq3.len]
              omega
            refine ⟨acc, hl7, by rw [sizeLine_eq]; exact lt, ?_⟩
            obtain ⟨R9, s9⟩ := (R8.less n1).write (ys := acc ++ [v]) m7 p0 n1 ap
            have dqv : Dq K M7 H7 y v := ok
            have dq8 : DqAll K M7 (upd H7 L (.lst (acc ++ [v]))) (dacc ++ [y]) (acc ++ [v]) := DqAll.step s9 _ _ ((DqAll.step s8 _ _ dq3).app (.one dqv))
            have ez2 : (dacc ++ [y]) ++ ys' = dacc0 ++ xs := by rw [List.append_assoc]; exact ez
            exact ⟨M7, killAll own r3, acc ++ [v], dacc ++ [y], s8.trans s9, R9, ownNo r3, m7, upd_same, dq8, ap, ys', hc', ez2⟩
          · cases q3
        · cases q3
  · have e : i = ds.length := by omega
    subst e
    refine .inl ⟨it.stop M3 H3 p3, ?_⟩
    rw [List.drop_length] at q3
    cases q3
    rw [List.append_nil] at ez
    subst ez
    exact k M3 H3 acc s3 R3 m3 hl3 dq3 ns3
theorem restore_apart {F : Fx} {K : PySem.W.Frag} {M : Ms} {H : Hp} {σ : L2.St} {r ρ4 : Rho} {L : Addr} (own : List Ix) (R4 : Rel K F M σ H (restore own r ρ4)) (ns : ∀ (i : Nat) b, ρ4[i]? = some b → b.mut = true → σ[i]? ≠ some (some (.ref L))) :
    ∀ (i : Nat) b, (restore own r ρ4)[i]? = some b → b.mut = true → σ[i]? ≠ some (some (.ref L)) := fun i b q1 q2 z => by
  obtain ⟨a, zs', es, w1, w2, w3, w4, w5, w6, w7⟩ := R4.mutAt q1 q2
  rw [w1] at z
  cases z
  have : ∀ (is : List Ix) (ρ4 : Rho), (restore is r ρ4)[i]? = some b → ρ4[i]? = some b := by
    intro is
    induction is with
    | nil => intro ρ4 h; exact h
    | cons j is ih =>
      intro ρ4 h
      have h := ih _ h
      rw [put_n] at h
      by_cases ej : j.n = i
      · subst ej
        have hl : j.n < ρ4.length := by simpa using (List.getElem?_eq_some_iff.mp h).1
        rw [List.getElem?_set_self hl] at h
        cases h
        cases hg : get j r <;> (rw [hg] at q2; cases q2)
      · rw [List.getElem?_set_ne ej] at h
        exact h
  exact ns i b (this own _ q1) q2 w1
theorem comp2_imp {K : PySem.W.Frag} {ei ei1 : Ei} {g g1 : Gd} {ws ws1 : List Nat} {tt tt1 : Et} {ee : Ev} (own own1 : List Ix) (hw : ∀ w ∈ ws, w ∈ own.map Ix.n) (hw1 : ∀ w ∈ ws1, w ∈ own1.map Ix.n) (hsub : ∀ w ∈ own1.map Ix.n, w ∈ own.map Ix.n) (σ : L2.St) (H : Hp) (Q : VK) (h : tU K (eComp2 ei g tt ei1 g1 tt1 ee own own1) σ H Q) :
    tLc2 (tUI K ei) (tGU K g ws) (tB' K tt) (tUI K ei1) (tGU K g1 ws1) (tB' K tt1) (tU K (eVal ee)) (own.map Ix.n) (own1.map Ix.n) σ H Q := by
  obtain ⟨F, M, ρ, av, ρ', R, q, k⟩ := h
  unfold eComp2 at q
  split at q
  · rename_i ds r h1
    split at q
    · rename_i ys r2 h2
      split at q
      · rename_i hz
        cases q
        refine ⟨F, M, ρ, ds, r, R, h1, fun J P M1 H1 s1 R1 it p1 L hL => ?_⟩
        have ownNo := own_no own
        obtain ⟨M2, s2, R2, p, xs, e, hp, mp, p0, ppd, _, pns⟩ := R1.fin (ResD.new (K := K) (M := M1) (ds := []) hL DqAll.nil)
        cases e
        have hp : (upd H1 L (.lst [])) L = some (.lst xs) := hp
        rw [upd_same] at hp
        cases hp
        refine ⟨fun i m H => m = ds.length - i ∧ i ≤ ds.length ∧ ∃ M3 ρ3 acc dacc, Step M2 (upd H1 L (.lst [])) M3 H ∧ Rel K F M3 σ H ρ3 ∧ (∀ v ∈ own.map Ix.n, ρ3[v]? = some .no ∨ ρ3[v]? = none) ∧ M3 L ∧ H L = some (.lst acc) ∧ DqAll K M3 H dacc acc ∧
          (∀ (i : Nat) b, ρ3[i]? = some b → b.mut = true → σ[i]? ≠ some (some (.ref L))) ∧ P M3 H ∧ ∃ zs, evComp2 g tt ei1 g1 tt1 ee own own1 (ds.drop i) ρ3 = some (zs, r2) ∧ dacc ++ zs = ys,
          ⟨ds.length, rfl, Nat.zero_le _, M2, _, [], [], Step.refl _ _, R2.kill own, ownNo r, mp, upd_same, DqAll.nil, ?_, it.stay _ _ _ _ s2 p1, ys, h2, rfl⟩, ?_⟩
        · exact (((R2.with upd_same mp pns).kill own).apart (Fx.with_at _ _ _))
        rintro i m H3 ⟨rfl, hi, M3, ρ3, acc, dacc, s3, R3, hno, m3, hl3, dq3, ns3, p3, zs, q3, ez⟩
        by_cases hlt : i < ds.length
        · refine .inr ⟨it.go M3 H3 i p3 hlt, fun H => ∃ M4 ρ4 acc4 dacc4, Step M3 H3 M4 H ∧ Rel K F M4 σ H ρ4 ∧ (∀ v ∈ own.map Ix.n, ρ4[v]? = some .no ∨ ρ4[v]? = none) ∧ M4 L ∧ H L = some (.lst acc4) ∧ DqAll K M4 H dacc4 acc4 ∧
            (∀ (i : Nat) b, ρ4[i]? = some b → b.mut = true → σ[i]? ≠ some (some (.ref L))) ∧ ∃ zs, evComp2 g tt ei1 g1 tt1 ee own own1 (ds.drop (i + 1)) ρ4 = some (zs, r2) ∧ dacc4 ++ zs = ys,
            fun H' ⟨M4, ρ4, acc4, dacc4, s4, R4, hno4, m4, hl4, dq4, ns4, q4⟩ => ⟨ds.length - (i + 1), by omega, rfl, hlt, M4, ρ4, acc4, dacc4, s3.trans s4, R4, hno4, m4, hl4, dq4, ns4, it.stay _ _ _ _ s4 p3, q4⟩, fun x H4 y => ?_⟩
          obtain ⟨gr, d, hd, dqd⟩ := it.yld M3 H3 i x H4 R3.trk p3 hlt y
          have e : ds.drop i = d :: ds.drop (i + 1) := by
            obtain ⟨hl, e⟩ := List.getElem?_eq_some_iff.mp hd
            rw [List.drop_eq_getElem_cons hl, e]
          rw [e] at q3
          unfold evComp2 at q3
          split at q3
          · cases q3
          · rename_i r1 hg1
            have R3' : Rel K (F.with L acc) M3 (L2.wipe σ (own.map Ix.n)) H4 ρ3 := ((R3.with hl3 m3 ns3).wipe _ hno).grow gr
            refine ⟨F.with L acc, M3, ρ3, d, r1, R3', dqd, hg1, fun σ5 M5 H5 s5 R5 w5 => ?_⟩
            have w6 : L2.wipe σ5 (own.map Ix.n) = L2.wipe σ (own.map Ix.n) := by
              rw [wipe_mono w5 hw]
              exact wipe_idem σ _
            refine ⟨w6, ?_⟩
            have n1 : F.pd L = none := ppd
            have back : ∀ {F' : Fx} {M7 : Ms} {H7 : Hp} {ρ7 : Rho}, Rel K F' M7 σ5 H7 ρ7 → Rel K F' M7 σ H7 (killAll own ρ7) := fun {F' M7 H7 ρ7} R7 => by
              have := ((R7.kill own).wipe (own.map Ix.n) (ownNo ρ7))
              rw [w6] at this
              exact this.unwipe (ownNo ρ7)
            split at q3
            · cases q3
            · rename_i rr ht
              refine ⟨F.with L acc, M5, r1, _, rr, R5, ht, fun M6 H6 s6 R6 => iteF ?_⟩
              have s7 : Step M3 H3 M6 H6 := ((Step.gr gr).trans s5).trans s6
              have R7 := back R6
              obtain ⟨hl7, m7⟩ := R6.pd L acc (Fx.with_at _ _ _)
              exact ⟨M6, _, acc, dacc, s7, R7.less n1, ownNo rr, m7, hl7, DqAll.step s7 _ _ dq3, R7.apart (Fx.with_at _ _ _), zs, q3, ez⟩
            · rename_i rr ht
              refine ⟨F.with L acc, M5, r1, _, rr, R5, ht, fun M6 H6 s6 R6 => iteT ?_⟩
              split at q3
              · cases q3
              · rename_i ds1 r3 hi1
                refine ⟨F.with L acc, M6, rr, ds1, r3, R6, hi1, fun J1 P1 M7 H7 s7 R7 it1 p7 => ?_⟩
                split at q3
                · cases q3
                · rename_i xs1 r4 hc1
                  split at q3
                  · rename_i ys' r5 hc'
                    cases q3
                    have s8 : Step M3 H3 M7 H7 := (((Step.gr gr).trans s5).trans s6).trans s7
                    have hlen : dacc.length + xs1.length ≤ mxL := by
                      have := congrArg List.length ez
                      simp only [List.length_append] at this
                      omega
                    refine inner_imp own1 hw1 p0 n1 R7 it1 p7 (DqAll.step s8 _ _ dq3) hc1 hlen fun M8 H8 acc8 s9 R8 m8 hl8 dq8 ns8 => ?_
                    have R9 := back R8
                    have ap := (back (R8.with hl8 m8 ns8)).apart (Fx.with_at F L acc8)
                    exact ⟨M8, killAll own r4, acc8, dacc ++ xs1, s8.trans s9, R9, ownNo r4, m8, hl8, dq8, ap, ys', hc', by rw [List.append_assoc]; exact ez⟩
                  · cases q3
        · have e : i = ds.length := by omega
          subst e
          refine .inl ⟨it.stop M3 H3 p3, ?_⟩
          rw [List.drop_length] at q3
          cases q3
          rw [List.append_nil] at ez
          subst ez
          have s4 : Step M H M3 H3 := (s1.trans s2).trans s3
          have R4 := Rel.restore R1 (s2.trans s3) own R3
          exact k _ M3 H3 s4 R4 ⟨L, acc, rfl, hl3, m3, p0, ppd, dq3, restore_apart own R4 ns3⟩
      · cases q
    · cases q
  · cases q
variable {tg iter tg1 iter1 : Expr}
theorem pu_comp2 {elt : Expr} {ifs ifs1 : List Expr} {scope : Scope} {ei ei1 : Ei} {g g1 : Gd} {ws ws1 : List Nat} {tt tt1 : Et} {ee : Ev} (own own1 : List Ix) (names : List (Str × Nat)) (en : names.map (·.2) = own.map Ix.n) (hw : ∀ w ∈ ws, w ∈ own.map Ix.n) (hw1 : ∀ w ∈ ws1, w ∈ own1.map Ix.n) (hsub : ∀ w ∈ own1.map Ix.n, w ∈ own.map Ix.n)
    (hc : X.calm = true) (hN : X.N.Nodup) (hi : PUI X tg iter ei) (ok : BlkOk X.N X.env.scope scope names)
    (hg : ∀ (s : Shared) (H : Hp) (C : Addr) (cl : List (Str × Addr)) (fp : List Addr), PUG (X.blk s H scope (PySem.compEnvC scope cl C X.env) fp) tg g ws)
    (ht : ∀ (s : Shared) (H : Hp) (C : Addr) (cl : List (Str × Addr)) (fp : List Addr), PTs (X.blk s H scope (PySem.compEnvC scope cl C X.env) fp) ifs (tB' X.K tt))
    (hi1 : ∀ (s : Shared) (H : Hp) (C : Addr) (cl : List (Str × Addr)) (fp : List Addr), PUI (X.blk s H scope (PySem.compEnvC scope cl C X.env) fp) tg1 iter1 ei1)
    (hg1 : ∀ (s : Shared) (H : Hp) (C : Addr) (cl : List (Str × Addr)) (fp : List Addr), PUG (X.blk s H scope (PySem.compEnvC scope cl C X.env) fp) tg1 g1 ws1)
    (ht1 : ∀ (s : Shared) (H : Hp) (C : Addr) (cl : List (Str × Addr)) (fp : List Addr), PTs (X.blk s H scope (PySem.compEnvC scope cl C X.env) fp) ifs1 (tB' X.K tt1))
    (he : ∀ (s : Shared) (H : Hp) (C : Addr) (cl : List (Str × Addr)) (fp : List Addr), PU (X.blk s H scope (PySem.compEnvC scope cl C X.env) fp) elt ee) (hs : ∀ x, foldedSetIterable iter X.env x = pure x := by intro _; rfl) (hs1 : ∀ env x, foldedSetIterable iter1 env x = pure x := by intro _ _; rfl) :
    PU X (.ListComp elt [⟨tg, iter, ifs, 0⟩, ⟨tg1, iter1, ifs1, 0⟩] scope pos) (eComp2 ei g tt ei1 g1 tt1 ee own own1) :=
  (pe_lc2 hc hN hi ok (fun i hi => by rw [en]; exact hsub i hi) hg ht hi1 hg1 ht1 (fun s H C cl fp => pu_val (he s H C cl fp)) hs hs1).imp fun σ H Q q => by
    rw [en]
    exact comp2_imp own own1 hw hw1 hsub σ H Q q
theorem pus_setComp2 (i : Ix) {y : Str} {py spos : Pos} {elt : Expr} {ifs ifs1 : List Expr} {scope : Scope} {ei ei1 : Ei} {g g1 : Gd} {ws ws1 : List Nat} {tt tt1 : Et} {ee : Ev} (m : Bool) (own own1 : List Ix) (names : List (Str × Nat)) (en : names.map (·.2) = own.map Ix.n) (hw : ∀ w ∈ ws, w ∈ own.map Ix.n) (hw1 : ∀ w ∈ ws1, w ∈ own1.map Ix.n) (hsub : ∀ w ∈ own1.map Ix.n, w ∈ own.map Ix.n)
    (hc : X.calm = true) (hN : X.N.Nodup) (hy : X.N[i.n]? = some y) (hyl : X.env.scope.names.lookup y = some .local)
    (hsw : swapsWith (.ListComp elt [⟨tg, iter, ifs, 0⟩, ⟨tg1, iter1, ifs1, 0⟩] scope pos) (some (.Name y py)) spos.line X.env = pure true) (hi : PUI X tg iter ei) (ok : BlkOk X.N X.env.scope scope names)
    (hg : ∀ (s : Shared) (H : Hp) (C : Addr) (cl : List (Str × Addr)) (fp : List Addr), PUG (X.blk s H scope (PySem.compEnvC scope cl C X.env) fp) tg g ws)
    (ht : ∀ (s : Shared) (H : Hp) (C : Addr) (cl : List (Str × Addr)) (fp : List Addr), PTs (X.blk s H scope (PySem.compEnvC scope cl C X.env) fp) ifs (tB' X.K tt))
    (hi1 : ∀ (s : Shared) (H : Hp) (C : Addr) (cl : List (Str × Addr)) (fp : List Addr), PUI (X.blk s H scope (PySem.compEnvC scope cl C X.env) fp) tg1 iter1 ei1)
    (hg1 : ∀ (s : Shared) (H : Hp) (C : Addr) (cl : List (Str × Addr)) (fp : List Addr), PUG (X.blk s H scope (PySem.compEnvC scope cl C X.env) fp) tg1 g1 ws1)
    (ht1 : ∀ (s : Shared) (H : Hp) (C : Addr) (cl : List (Str × Addr)) (fp : List Addr), PTs (X.blk s H scope (PySem.compEnvC scope cl C X.env) fp) ifs1 (tB' X.K tt1))
    (he : ∀ (s : Shared) (H : Hp) (C : Addr) (cl : List (Str × Addr)) (fp : List Addr), PU (X.blk s H scope (PySem.compEnvC scope cl C X.env) fp) elt ee) (hs : ∀ x, foldedSetIterable iter X.env x = pure x := by intro _; rfl) (hs1 : ∀ env x, foldedSetIterable iter1 env x = pure x := by intro _ _; rfl) :
    PUS X (.Assign [.Name y py] (.ListComp elt [⟨tg, iter, ifs, 0⟩, ⟨tg1, iter1, ifs1, 0⟩] scope pos) spos) (if m then sSetM i (eComp2 ei g tt ei1 g1 tt1 ee own own1) else sSet i (eComp2 ei g tt ei1 g1 tt1 ee own own1)) :=
  (ps_setLc2 (i := i.n) hc hN hy hyl hsw hi ok (fun i hi => by rw [en]; exact hsub i hi) hg ht hi1 hg1 ht1 (fun s H C cl fp => pu_val (he s H C cl fp)) hs hs1).imp fun E σ H ⟨F, M, ρ, fl, R, q, k⟩ => by
    rw [en]
    cases m with
    | true =>
      have q : sSetM i (eComp2 ei g tt ei1 g1 tt1 ee own own1) ρ = some fl := q
      unfold sSetM at q
      split at q
      · rename_i av r h1
        split at q
        · rename_i r' h2
          cases q
          exact comp2_imp own own1 hw hw1 hsub σ H _ ⟨F, M, ρ, _, r, R, h1, fun v M' H' s R' ok => k _ M' H' s (bindM_ok R' ok h2)⟩
        · cases q
      · cases q
    | false =>
      have q : sSet i (eComp2 ei g tt ei1 g1 tt1 ee own own1) ρ = some fl := q
      unfold sSet at q
      split at q
      · rename_i d r h1
        cases q
        unfold eVal at h1
        split at h1
        · rename_i d' r' h2
          cases h1
          refine comp2_imp own own1 hw hw1 hsub σ H _ ⟨F, M, ρ, _, r, R, h2, fun v M' H' s R' ok => ?_⟩
          have k : ∀ σ' M' H', Step M H M' H' → Rel X.K F M' σ' H' (put i (.val d) r) → E.nx σ' H' := k
          rw [put_n] at k
          exact k _ M' H' s (R'.setVal i.n ok)
        · rename_i d' r' h2
          cases h1
          refine comp2_imp own own1 hw hw1 hsub σ H _ ⟨F, M, ρ, _, r, R, h2, fun v M' H' s R' ok => ?_⟩
          obtain ⟨M2, s2, R2, dq⟩ := fix_new R' ok
          have k : ∀ σ' M' H', Step M H M' H' → Rel X.K F M' σ' H' (put i (.val (.list d')) r) → E.nx σ' H' := k
          rw [put_n] at k
          exact k _ M2 H' (s.trans s2) (R2.setVal i.n dq)
        · rename_i b r' h2
          unfold eComp2 at h2
          split at h2
          · split at h2
            · split at h2
              · cases h2
              · cases h2
            · cases h2
          · cases h2
        · cases h1
      · cases q
end
end PV
set_option Elab.async false
set_option linter.all false
set_option autoImplicit false
set_option maxRecDepth 100000
set_option maxHeartbeats 4000000
/-! PVl: repr, sorted, membership of data. -/
namespace PV
open PySem PySem.Spec PyProof.Rows L2
def reprOk (d : D) : Bool := d.showable && !d.hasDict && decide (d.depth ≤ 64) && decide (d.shown.length ≤ mxL)
theorem reprOk_iff {d : D} (h : reprOk d = true) : d.showable = true ∧ d.hasDict = false ∧ d.depth ≤ 64 ∧ d.shown.length ≤ mxL := by
  unfold reprOk at h
  simp only [Bool.and_eq_true, Bool.not_eq_true', decide_eq_true_eq] at h
  exact ⟨h.1.1.1, h.1.1.2, h.1.2, h.2⟩
@[simp] def isRow : D → Bool
  | .list _ => true
  | .tuple _ => true
  | _ => false
section
variable {X : Cx}
theorem cr_repr (hg : X.A.guards = some []) (hu : X.A.units + 100 < cLine) : CallR X (.builtin "repr") (fun xs H Q => ∃ v d, xs = [v] ∧ isRow d = true ∧ Dp X.K H v d ∧ reprOk d = true ∧ Q (.str d.shown) H) := by
  intro pins s σ H xs us Q I r h
  obtain ⟨v, d, rfl, hrow, hd, hok, q⟩ := h
  obtain ⟨u, rfl, ru⟩ := r.one
  obtain ⟨as, rd⟩ := Dp.reads I d v u hd ru
  obtain ⟨h1, h2, h3, h4⟩ := reprOk_iff hok
  have go : ∀ a, u = .ref a → wpAny (model X.prog X.w) X.A (call (.builtin "repr") [u]) (EP X pins σ Q) X.xe s := fun a e => by
    subst e
    refine repr_of_reads' rd h1 (fun z => by rw [h2] at z; cases z) hg (by omega) (fun b o z => z) (fun h' u tk hk => ?_) (by rw [sizeLine_eq]; exact h4)
    exact ⟨.str d.shown, H, I.kept hk, ⟨_, rfl⟩, q⟩
  cases d with
  | list ds => cases rd with
    | list a1 a2 a3 a4 => exact go _ rfl
  | tuple ds => cases rd with
    | tuple a1 a2 a3 a4 => exact go _ rfl
  | none => cases hrow
  | bool _ => cases hrow
  | int _ => cases hrow
  | str _ => cases hrow
  | dict _ => cases hrow
@[simp] def dRepr : List D → Option AV
  | [d] => if isRow d = true ∧ reprOk d = true then some (.val (.str d.shown)) else none
  | _ => none
theorem cd_repr (hg : X.A.guards = some []) (hu : X.A.units + 100 < cLine) : CallD X (.builtin "repr") dRepr := by
  refine ⟨_, cr_repr hg hu, fun M H ds vs av Q t p h k => ?_⟩
  unfold dRepr at h
  split at h
  · split at h
    · rename_i hh
      cases h
      obtain ⟨v, rfl, w⟩ := p.one
      exact ⟨v, _, rfl, hh.1, w.dp, hh.2, k _ _ (ResD.val rfl)⟩
    · cases h
  · cases h

/-! ### sorted(list) -/
def alikeAllB (ds : List D) : Bool := ds.all fun d => ds.all fun e => PySem.W.alike d e
def tupB : D → Bool
  | .tuple (_ :: _) => true
  | _ => false
def plainB : D → Bool
  | .none => false
  | .tuple _ => false
  | _ => true
def sortOk (ds : List D) : Bool := alikeAllB ds && (ds.all tupB || ds.all plainB) && ds.all fun d => decide (d.depth ≤ 64)
theorem sortOk_iff {ds : List D} (h : sortOk ds = true) : PySem.W.AllAlike ds ∧ PySem.W.Sortable ds ∧ ∀ d, d ∈ ds → d.depth ≤ 64 := by
  unfold sortOk at h
  simp only [Bool.and_eq_true, Bool.or_eq_true, List.all_eq_true, decide_eq_true_eq] at h
  refine ⟨fun d hd e he => ?_, ?_, h.2⟩
  · have := h.1.1
    unfold alikeAllB at this
    simp only [List.all_eq_true] at this
    exact this d hd e he
  · rcases h.1.2 with z | z
    · refine .inl fun d hd => ?_
      have := z d hd
      unfold tupB at this
      split at this
      · exact ⟨_, _, rfl⟩
      · cases this
    · refine .inr fun d hd => ⟨fun e => ?_, fun xs e => ?_⟩
      · have := z d hd
        subst e
        cases this
      · have := z d hd
        subst e
        cases this
def sortD (ds : List D) : List D := ds.mergeSort (PySem.W.dataLe false id)
def rSortD (K : PySem.W.Frag) : List V → Hp → VK → Prop := fun vs H Q => ∃ (M : Ms) (a : Addr) (xs : List V) (ds : List D), vs = [.ref a] ∧ SqL K H a xs ∧ DqAll K M H ds xs ∧ sortOk ds = true ∧
  ∀ (ys : List V) (p : Addr), DqAll K M H (sortD ds) ys → H p = none → Q (.ref p) (upd H p (.lst ys))
theorem each_dq {K : PySem.W.Frag} {M : Ms} {H : Hp} : ∀ {ds : List D} {xs : List V} {us : List Value}, DqAll K M H ds xs → Vals xs us → PySem.W.EachIs (fun u d => ∃ v, RelV v u ∧ Dq K M H d v) us ds
  | [], xs, us, h, r => by cases h; cases r; exact .nil
  | d :: ds, xs, us, h, r => by
    obtain ⟨v, vs, rfl, h1, h2⟩ := h
    cases r with
    | cons r1 r2 => exact .cons ⟨v, r1, h1⟩ (each_dq h2 r2)
theorem dq_each {K : PySem.W.Frag} {M : Ms} {H : Hp} : ∀ {ds : List D} {us : List Value}, PySem.W.EachIs (fun u d => ∃ v, RelV v u ∧ Dq K M H d v) us ds → ∃ xs, DqAll K M H ds xs ∧ Vals xs us
  | _, _, .nil => ⟨[], DqAll.nil, .nil⟩
  | _, _, .cons ⟨v, r, h⟩ t => by
    obtain ⟨xs, h1, h2⟩ := dq_each t
    exact ⟨v :: xs, ⟨v, xs, rfl, h, h1⟩, .cons r h2⟩
theorem cr_sortD (hu : X.A.units + 100 < cLine) : CallR X (.builtin "sorted") (rSortD X.K) := by
  intro pins s σ H vs us Q I r h
  obtain ⟨M, a, xs, ds, rfl, hs, dq, hok, q⟩ := h
  obtain ⟨its, rv, hl, hz⟩ := I.list hs
  rw [Vals.ref1 r]
  obtain ⟨h1, h2, h3⟩ := sortOk_iff hok
  have er : PySem.W.EachIs (fun u d => ∃ as, Reads s.heap u (id d) as) its ds := (each_dq dq rv).mono fun u d ⟨v, r, hq⟩ => Dp.reads I d v u (Dq.dp d v hq) r
  refine PySem.W.sorted_data (enc := id) (R := fun u d => ∃ v, RelV v u ∧ Dq X.K M H d v) hl.isList (each_dq dq rv) er (by rw [List.map_id]; exact h1) (by rw [List.map_id]; exact h2) (by rw [← dq.len]; exact hz) (fun d hd => ?_) fun out ho eo => ?_
  · have := h3 d hd
    show X.A.units + 2 + d.depth < cLine
    omega
  · obtain ⟨ys, w1, w2⟩ := dq_each eo
    obtain ⟨ep, he'⟩ := PyProof.Rows.sortedAll_at s.heap its out.toArray
    have hlen : ys.length ≤ sizeLine := by
      rw [w2.length, ho, ← dq.len]
      exact hz
    exact ⟨.ref _, upd H (s.heap.objs.size + 1) (.lst ys), I.laid (t' := s.toks) (fun _ _ => PyProof.Rows.sortedAll_old) (Nat.le_succ _) ⟨hlen, out, ep, w2, he'⟩, rfl, q _ _ w1 (I.hok.fresh (Nat.le_succ _))⟩
@[simp] def dSorted : List D → Option AV
  | [.list ds] => if sortOk ds = true then some (.new (sortD ds)) else none
  | _ => none
theorem cd_sorted (hu : X.A.units + 100 < cLine) : CallD X (.builtin "sorted") dSorted := by
  refine ⟨_, cr_sortD hu, fun M H ds vs av Q t p h k => ?_⟩
  unfold dSorted at h
  split at h
  · split at h
    · rename_i ds hok
      cases h
      obtain ⟨v, rfl, w⟩ := p.one
      obtain ⟨a, xs, rfl, l1, l2⟩ := w.list
      exact ⟨M, a, xs, ds, rfl, l1, l2, hok, fun ys p dq hp => k _ _ (ResD.new hp dq)⟩
    · cases h
  · cases h
end
end PV
set_option Elab.async false
set_option linter.all false
set_option autoImplicit false
set_option maxRecDepth 100000
set_option maxHeartbeats 4000000
/-! PVm: the end of a law row, from the law's own evaluator. -/
namespace PV
open PySem PySem.Spec PyProof.Rows L2
section
variable {P : Program} {w : World} {K : PySem.W.Frag} {mg : Str → Option Value} {k : Nat} {f : Addr} {fd : FuncData} {x : Str} {m : Fm}
/-- from a tracked heap T that knows at most the script -/
theorem endAt {st : Shared} {p : Addr} {os : Array Value} {is : List Int} {mbi : Str → Option Value} {T : Hp} (kin : K.In st.heap) (nsg : st.heap.Ns mainGlobals mg) (nsb : st.heap.Ns builtinsNs mbi) (bb : ∀ y : Str, y ≠ "__name__" → mbi y = bootBuiltins y) (nl : st.heap.NoLimit) (ng : st.gens = #[])
    (hp : st.heap.get? p = some { cls := .type "list", data := .seq os }) (room : Room k callerA)
    (F : ∀ h0 : Heap, K.In h0 → h0.Ns mainGlobals mg → FnG P w K mg h0 k f fd [x] (spU K m)) (hbind : ∀ (z : Shared) (u : Value), BindsTo z fd ⟨[u], []⟩ [(x, u)])
    (hm : m [.rd (is.map PyData.int)] = some (.val (.bool true), [])) (only : Only T)
    (hS : (∃ ob, T p = some (.frz ob (.lst (is.map V.int)))) ∨ SqL K Empt p (is.map V.int)) (tok : HOk P w T st.heap) (tp : ∀ b, T b ≠ none → b = p) (tk : T p ≠ none → K.lookup p = none) :
    codeAny (model P w) callerA (.call (.ref f) ⟨[.ref p], []⟩) (fun r s' => r = .ok (.ret (.bool true)) ∧ OldK st.heap s'.heap ∧ s'.os = st.os ∧ AllBare s'.gens) st := by
  have notd : ∀ {b : Addr} {o : Obj} {es : Array DictEntry} {n : Nat}, st.heap.get? b = some o → o.data = .dict es n → T b = none := fun {b o es n} q d => by
    by_cases z : T b = none
    · exact z
    · have e := tp b z
      subst e
      rw [hp] at q
      cases q
      cases d
  have hidNs : ∀ {b : Addr} {g : Str → Option Value}, st.heap.Ns b g → (hidT st.heap T).Ns b g := fun ⟨o, es, n, q, d, r⟩ => ⟨o, es, n, hidT_get q (notd q d), d, r⟩
  have kin' : K.In (hidT st.heap T) := fun b o q => hidT_get (kin b o q) (Classical.byContradiction fun z => by
    have e := tp b z
    subst e
    rw [tk z] at q
    cases q)
  obtain ⟨mc, c1, c2⟩ := nl
  have env : Env0 P w K mg (hidT st.heap T) callerA [] st T :=
    ⟨rfl, ⟨kin', hidNs nsg, ⟨mbi, hidNs nsb, bb⟩, ⟨mc, hidNs c1, c2⟩⟩, fun b o q => of_hidT q, Nat.le_of_eq (hidT_size _ _), trivial, fun b z => (nomatch z), tok, .of_eq ng⟩
  have arg : ArgOk K (fun _ => False) T (.ref p) (.rd (is.map PyData.int)) := by
    refine ⟨p, is.map V.int, rfl, ?_, DqAll.of_ints is⟩
    rcases hS with ⟨ob, z⟩ | z
    · exact .inl ⟨ob, z, fun z => z⟩
    · exact .inr z
  have prom : spU K m [.ref p] T (fun v _ => v = .bl true) := by
    refine ⟨fun _ => False, [.rd (is.map PyData.int)], .val (.bool true), [], ⟨fun _ z => z.elim, .cons arg .nil, fun i j a ds es e1 => ?_, hm, fun v H' M' _ _ _ _ _ q => q⟩⟩
    cases i with
    | zero => cases e1
    | succ i => cases e1
  refine codeAny_mono ((F _ kin' (hidNs nsg)).run callerA [] st T ⟨[.ref p], []⟩ [.ref p] [.ref p] _ rfl room env (hbind st (.ref p)) (.cons rfl .nil) prom) fun r s' q => ?_
  match r, q with
  | .error _, q => exact False.elim q
  | .ok .next, q => exact False.elim q
  | .ok .brk, q => exact False.elim q
  | .ok .cont, q => exact False.elim q
  | .ok (.ret u), ⟨v, H', e1, e2, un, tok', rv, q⟩ =>
    have q' : v = .bl true := q
    subst q'
    have eu : u = Value.bool true := rv
    subst eu
    refine ⟨rfl, OldK.of_keep fun b o hb => ?_, e1, e2⟩
    rcases only b with z | ⟨ob, xs, z⟩
    · exact un.keep b o hb z (fun y => nomatch y) (fun y => nomatch y)
    · have i1 := (tok b _ z).1
      rw [hb] at i1
      cases i1
      exact (tok' b _ (un.frzs b _ _ z)).1
theorem lawEnd {st : Shared} {p : Addr} {vs : List Value} {is : List Int} {mbi : Str → Option Value} (kin : K.In st.heap) (nsg : st.heap.Ns mainGlobals mg) (nsb : st.heap.Ns builtinsNs mbi) (bb : ∀ y : Str, y ≠ "__name__" → mbi y = bootBuiltins y) (nl : st.heap.NoLimit) (ng : st.gens = #[])
    (hp : st.heap.get? p = some { cls := .type "list", data := .seq vs.toArray }) (hi : IntsAre vs is) (hz : is.length ≤ sizeLine) (room : Room k callerA)
    (F : ∀ h0 : Heap, K.In h0 → h0.Ns mainGlobals mg → FnG P w K mg h0 k f fd [x] (spU K m)) (hbind : ∀ (z : Shared) (u : Value), BindsTo z fd ⟨[u], []⟩ [(x, u)])
    (hm : m [.rd (is.map PyData.int)] = some (.val (.bool true), [])) :
    codeAny (model P w) callerA (.call (.ref f) ⟨[.ref p], []⟩) (fun r s' => r = .ok (.ret (.bool true)) ∧ OldK st.heap s'.heap ∧ s'.os = st.os ∧ AllBare s'.gens) st := by
  have rv := vals_ints hi
  rcases hk : K.lookup p with _ | o
  · -- a list of the judge's own
    let T : Hp := fun b => if b = p then some (.frz { cls := .type "list", data := .seq vs.toArray } (.lst (is.map V.int))) else none
    have Tp : T p = some (.frz { cls := .type "list", data := .seq vs.toArray } (.lst (is.map V.int))) := if_pos rfl
    have Tn : ∀ b, b ≠ p → T b = none := fun b n => if_neg n
    refine endAt (T := T) kin nsg nsb bb nl ng hp room F hbind hm (fun b => ?_) (.inl ⟨_, Tp⟩) (fun b u z => ?_) (fun b z => Classical.byContradiction fun n => z (Tn b n)) fun _ => hk
    · by_cases e : b = p
      · subst e; exact .inr ⟨_, _, Tp⟩
      · exact .inl (Tn b e)
    · by_cases e : b = p
      · subst e
        rw [Tp] at z
        cases z
        exact ⟨hp, by rw [List.length_map]; exact hz, vs, _, rv, hp⟩
      · rw [Tn b e] at z
        cases z
  · -- one of the program's own lists
    have q := kin p o hk
    rw [hp] at q
    cases q
    refine endAt (T := fun _ => none) kin nsg nsb bb nl ng hp room F hbind hm (fun _ => .inl rfl) (.inr (.inr ⟨_, vs.toArray, _, hk, rfl, rfl, rfl, ?_, rv⟩)) (fun b u z => nomatch z) (fun b z => absurd rfl z) fun z => absurd rfl z
    rw [List.size_toArray, hi.length]
    exact hz
end
/-- the walk that the head leaves, from the law's own evaluator -/
theorem walkEnd {l : PySem.W.OpenLaw} {n k : Nat} {q : Program} {loose : List Str} {XP : (Str → Option Value) → Heap → Prop} {YP : World → Heap → Prop} {d : DefRec} {x : Str}
    (hn : l.most = some n) (hn2 : n ≤ sizeLine) (hdf : d.params.defaults = []) (hr : Room k callerA)
    (F : ∀ (w : World) (mg : Str → Option Value) (fa : Addr) (h : Heap), YP w h → h.Ns mainGlobals mg → mg d.name = some (.ref fa) →
      ∃ (K : PySem.W.Frag) (fd : FuncData) (m : Fm), K.In h ∧ (∀ (s : Shared) (u : Value), BindsTo s fd ⟨[u], []⟩ [(x, u)]) ∧
        (∀ is : List Int, is.length ≤ n → m [.rd (is.map PyData.int)] = some (.val (.bool true), [])) ∧
        ∀ h0 : Heap, K.In h0 → h0.Ns mainGlobals mg → FnG l.prog w K mg h0 k fa fd [x] (spU K m)) :
    PySem.W.WalkO q loose XP YP l.row.toRowW d [] (fun f vs => PySem.call f vs) := by
  refine Att.attach_call hn hdf fun w s₀ s₁ mg mb fa o pm cd doc a vs ns G Y ho hd hcd hmg hobj hints hlen hg => ?_
  obtain ⟨K, fd, m, kin, hb, hm, hF⟩ := F w mg fa _ Y G.T.g hmg
  exact lawEnd kin G.T.g G.T.b G.T.builtins G.T.nolimit hg hobj hints (Nat.le_trans hlen hn2) hr hF hb (hm ns hlen)
end PV
set_option Elab.async false
set_option linter.all false
set_option autoImplicit false
set_option maxRecDepth 100000
set_option maxHeartbeats 4000000
/-! PVn: a def of the row's top and its evaluator, as the printed derivations take them. -/
namespace PV
open PySem PySem.Spec PyProof.Rows L2
/-- the def that the statement st makes stands under its name -/
def Top (K : PySem.W.Frag) (mg : Str → Option Value) (x : Str) (st : Stmt) : Prop := ∃ f fd, FunD K x x (defArgs st) (defBody st) (defScope st) [] [] f fd ∧ mg x = some (.ref f)
def mkF (np nn : Nat) (ev : Es) : Fm := fun bs => if bs.length = np then runFn nn ev bs else none
structure Fn (P : Program) (w : World) (K : PySem.W.Frag) (mg : Str → Option Value) (base : Heap) (k : Nat) (x : Str) (st : Stmt) (ps : List Str) (m : Fm) : Prop where
  ex : ∃ f fd, FunD K x x (defArgs st) (defBody st) (defScope st) [] [] f fd ∧ mg x = some (.ref f) ∧ Binds K fd ps [] ∧ FnG P w K mg base k f fd ps (spU K m)
abbrev BindsP (x : Str) (st : Stmt) (ps : List Str) : Prop := ∀ (kV doc pm : Value) (an : Option Addr) (cdv ct : Value) (us : List Value), us.length = ps.length →
  bindArgs (PySem.W.fnOf x x (defArgs st) (defBody st) (defScope st) .none kV doc pm an cdv ct) ⟨us, []⟩ = pure (ps.zip us)
abbrev BindsW (x : Str) (st : Stmt) (ps ks : List Str) (idx : List Nat) (n l : Nat) : Prop := ∀ (kV doc pm : Value) (an : Option Addr) (cdv ct : Value) (us ws : List Value), us.length = n → ws.length = l →
  bindArgs (PySem.W.fnOf x x (defArgs st) (defBody st) (defScope st) .none kV doc pm an cdv ct) ⟨us, ks.zip ws⟩ = pure (ps.zip (pick idx (us ++ ws)))
section
variable {P : Program} {w : World} {K : PySem.W.Frag} {mg : Str → Option Value} {base : Heap} {N ps : List Str} {x : Str} {st : Stmt} {k : Nat}
theorem fn_mk {ev : Es} (np nn : Nat) (T : Top K mg x st) (S : FnScope N ps (defScope st)) (hb : BindsP x st ps) 
    (hbody : ∀ (f : Addr) (cdv : Value) (A : Around) (outer : List Env) (s : Shared) (H : Hp), (A.deeper (envOfC x (defScope st) s.heap.objs.size f cdv)).guards = some [] → Room k (A.deeper (envOfC x (defScope st) s.heap.objs.size f cdv)) →
      PUSs (cxOf CX0 P w K mg base N x (defScope st) f cdv A outer s H E0).nox (defBody st) ev) (hnp : ps.length = np := by rfl) (hnn : N.length = nn := by rfl) : Fn P w K mg base (k + 1) x st ps (mkF np nn ev) := by
  obtain ⟨f, fd, F, g⟩ := T
  exact ⟨f, fd, F, g, F.bindsN hb, fnG_mk np hnp nn hnn F S fun cdv A outer s H hg hr => hbody f cdv A outer s H hg hr⟩
theorem room_u {A : Around} (h : Room k A) : A.units + 100 < cLine := by have := h.un; omega
theorem room_e {A : Around} (h : Room k A) : A.units + 64 < cLine := by have := h.un; omega
end
section
variable {X : Cx} {x : Str} {st : Stmt} {ps : List Str} {m : Fm} {p pos : Pos} {e : Expr} {es : List Expr} {ee ek : Ea} {j k : Nat}
theorem pu_callF (G : Fn X.prog X.w X.K X.mg X.base j x st ps m) (hj : j ≤ k) (hgd : X.A.guards = some []) (hr : Room k X.A) (hg : Gl X x) (ha : PUA X (e :: es) ee)
    (hdb : (x == ("__debug__" : Str)) = false := by decide) (he : starEach (e :: es) X.env = (false, eval e X.env) :: starEach es X.env := by rfl) (hpl : (backTo pos (starEach es X.env)).any (·.1) = false := by rfl) :
    PU X (.Call (.Name x p) (e :: es) [] pos) (eUser m ee) := by
  obtain ⟨f, fd, F, gm, hb, G⟩ := G.ex
  exact pu_call (G.mono hj) hgd hr hg gm F.kp hb ha hdb he hpl
theorem pu_callF0 (G : Fn X.prog X.w X.K X.mg X.base j x st ps m) (hj : j ≤ k) (hgd : X.A.guards = some []) (hr : Room k X.A) (hg : Gl X x)
    (hdb : (x == ("__debug__" : Str)) = false := by decide) : PU X (.Call (.Name x p) [] [] pos) (eUser m aNil) := by
  obtain ⟨f, fd, F, gm, hb, G⟩ := G.ex
  exact pu_call0 (G.mono hj) hgd hr hg gm F.kp hb hdb
theorem bindsK_of {K : PySem.W.Frag} {f : Addr} {fd : FuncData} {ks : List Str} {idx : List Nat} {n l : Nat} (F : FunD K x x (defArgs st) (defBody st) (defScope st) [] [] f fd) (h : BindsW x st ps ks idx n l) : BindsK K fd ps ks idx n l := by
  obtain ⟨oc, od, dV, kV, doc, pm, an, cdv, ct, osl, rfl, lk, hcd, hD, hK⟩ := F.ex
  rcases hD with ⟨_, rfl⟩ | ⟨e, _⟩
  · exact fun s us ws hin h1 h2 => .of_eq (h kV doc pm an cdv ct us ws h1 h2)
  · exact absurd rfl e
theorem pu_callFK {kws : List Keyword} {ks : List Str} (idx : List Nat) (n l : Nat) (G : Fn X.prog X.w X.K X.mg X.base j x st ps m) (hj : j ≤ k) (hgd : X.A.guards = some []) (hr : Room k X.A) (hg : Gl X x) (hb : BindsW x st ps ks idx n l) (ha : PUA X (e :: es) ee) (hkw : PUK X kws ek)
    (hall : (backToKw pos (keywordEach kws X.env)).all (·.1.isSome) = true := by rfl) (hks : (backToKw pos (keywordEach kws X.env)).filterMap (·.1) = ks := by rfl)
    (hdb : (x == ("__debug__" : Str)) = false := by decide) (he : starEach (e :: es) X.env = (false, eval e X.env) :: starEach es X.env := by rfl)
    (hpl : ((backTo pos (starEach (e :: es) X.env)).any (·.1) || (backToKw pos (keywordEach kws X.env)).any (·.1.isNone)) = false := by rfl) :
    PU X (.Call (.Name x p) (e :: es) kws pos) (eUserK idx n l m ee ek) := by
  obtain ⟨f, fd, F, gm, _, G⟩ := G.ex
  exact pu_callK idx n l (G.mono hj) hgd hr hg gm F.kp (bindsK_of F hb) ha hkw hall hks hdb he hpl
theorem pu_callFK0 {kws : List Keyword} {ks : List Str} (idx : List Nat) (l : Nat) (G : Fn X.prog X.w X.K X.mg X.base j x st ps m) (hj : j ≤ k) (hgd : X.A.guards = some []) (hr : Room k X.A) (hg : Gl X x) (hb : BindsW x st ps ks idx 0 l) (hkw : PUK X kws ek)
    (hall : (backToKw pos (keywordEach kws X.env)).all (·.1.isSome) = true := by rfl) (hks : (backToKw pos (keywordEach kws X.env)).filterMap (·.1) = ks := by rfl)
    (hdb : (x == ("__debug__" : Str)) = false := by decide)
    (hpl : ((backTo pos (starEach [] X.env)).any (·.1) || (backToKw pos (keywordEach kws X.env)).any (·.1.isNone)) = false := by rfl) :
    PU X (.Call (.Name x p) [] kws pos) (eUserK idx 0 l m aNil ek) := by
  obtain ⟨f, fd, F, gm, _, G⟩ := G.ex
  exact pu_callK0 idx l (G.mono hj) hgd hr hg gm F.kp (bindsK_of F hb) hkw hall hks hdb hpl
end
theorem Fn.law {P : Program} {w : World} {K : PySem.W.Frag} {mg : Str → Option Value} {x a : Str} {st : Stmt} {k : Nat} {m : Fm} {fa : Addr} (T : Top K mg x st) (hb : BindsP x st [a]) (hmg : mg x = some (.ref fa)) (G : ∀ base : Heap, Fn P w K mg base k x st [a] m) :
    ∃ fd : FuncData, (∀ (s : Shared) (u : Value), BindsTo s fd ⟨[u], []⟩ [(a, u)]) ∧ ∀ h0 : Heap, K.In h0 → h0.Ns mainGlobals mg → FnG P w K mg h0 k fa fd [a] (spU K m) := by
  obtain ⟨f, fd, F, g⟩ := T
  rw [hmg] at g
  cases g
  refine ⟨fd, fun s u => F.bindsA (ps := [a]) hb s [u] rfl, fun h0 _ _ => ?_⟩
  obtain ⟨f', fd', F', g', _, G'⟩ := (G h0).ex
  rw [hmg] at g'
  cases g'
  have e : fd' = fd := by
    obtain ⟨oc, od, dV, kV, doc, pm, an, cdv, ct, osl, _, l1, _⟩ := F.ex
    obtain ⟨oc', od', dV', kV', doc', pm', an', cdv', ct', osl', _, l2, _⟩ := F'.ex
    rw [l1] at l2
    cases l2
    rfl
  rw [e] at G'
  exact G'
theorem bt_len : bootBuiltins "len" = some (.builtin "len") := by decide +kernel
theorem bt_sum : bootBuiltins "sum" = some (.builtin "sum") := by decide +kernel
theorem bt_abs : bootBuiltins "abs" = some (.builtin "abs") := by decide +kernel
theorem bt_min : bootBuiltins "min" = some (.builtin "min") := by decide +kernel
theorem bt_max : bootBuiltins "max" = some (.builtin "max") := by decide +kernel
theorem bt_all : bootBuiltins "all" = some (.builtin "all") := by decide +kernel
theorem bt_any : bootBuiltins "any" = some (.builtin "any") := by decide +kernel
theorem bt_divmod : bootBuiltins "divmod" = some (.builtin "divmod") := by decide +kernel
theorem bt_repr : bootBuiltins "repr" = some (.builtin "repr") := by decide +kernel
theorem bt_sorted : bootBuiltins "sorted" = some (.builtin "sorted") := by decide +kernel
theorem bt_int : bootBuiltins "int" = some (.type "int") := by decide +kernel
theorem bt_bool : bootBuiltins "bool" = some (.type "bool") := by decide +kernel
theorem bt_str : bootBuiltins "str" = some (.type "str") := by decide +kernel
theorem bt_tuple : bootBuiltins "tuple" = some (.type "tuple") := by decide +kernel
theorem bt_list : bootBuiltins "list" = some (.type "list") := by decide +kernel
theorem bt_dict : bootBuiltins "dict" = some (.type "dict") := by decide +kernel
end PV
set_option Elab.async false
set_option linter.all false
set_option autoImplicit false
set_option maxRecDepth 100000
set_option maxHeartbeats 4000000
/-! PVo: membership, the place of data, least and greatest data. -/
namespace PV
open PySem PySem.Spec PyProof.Rows L2
def dIn : D → D → Option AV
  | d, .list ds => if SeqAt.shaped d = true ∧ SeqAt.shaped (.list ds) = true then some (.val (.bool (ds.any fun z => PyData.eqv z d))) else none
  | _, _ => none
def dNotIn : D → D → Option AV
  | d, .list ds => if SeqAt.shaped d = true ∧ SeqAt.shaped (.list ds) = true then some (.val (.bool (!ds.any fun z => PyData.eqv z d))) else none
  | _, _ => none
section
variable {X : Cx}
theorem od_in (hu : X.A.units + 65 < cLine) : OpD X (compareOp .In) dIn := by
  refine ⟨_, op_inD hu, fun M H d1 d2 v1 v2 av Q t p1 p2 h k => ?_⟩
  unfold dIn at h
  split at h
  · split at h
    · rename_i hz
      cases h
      exact ⟨_, _, p1.dp, p2.dp, hz.1, hz.2, k _ _ (ResD.val rfl)⟩
    · cases h
  · cases h
theorem od_notin (hu : X.A.units + 65 < cLine) : OpD X (compareOp .NotIn) dNotIn := by
  refine ⟨_, op_notInD hu, fun M H d1 d2 v1 v2 av Q t p1 p2 h k => ?_⟩
  unfold dNotIn at h
  split at h
  · split at h
    · rename_i hz
      cases h
      exact ⟨_, _, p1.dp, p2.dp, hz.1, hz.2, k _ _ (ResD.val rfl)⟩
    · cases h
  · cases h
/-- xs.index(d) -/
def eIndex (ea : Ev) (ev : Ev) : Ev := fun ρ => match eNorm ea ρ with
  | some (av, r) => (match peekR av r with
    | some (.list _) => (match eVal ev r with
      | some (.val d, r2) => (match peekR av r2 with
        | some (.list ds) => if SeqAt.shaped (.list ds) = true ∧ SeqAt.shaped d = true then (match ds.findIdx? fun z => PyData.eqv z d with
          | some j => some (.val (.int (j : Nat)), r2)
          | none => none) else none
        | _ => none)
      | _ => none)
    | _ => none)
  | none => none
variable {e : Expr} {ev : Ev} {apos cpos : Pos}
theorem pu_index (hu : X.A.units + 65 < cLine) {o : Expr} {ea : Ev} (ho : PU X o ea) (ha : PU X e ev)
    (hbase : attributeBase o "index" X.env (eval o X.env) = eval o X.env := by rfl)
    (hfew : ((backTo cpos (starEach [e] X.env)).all (fun x => !x.1) && (backToKw cpos (keywordEach [] X.env)).all (fun x => x.1.isSome) && decide (([e] : List Expr).length + ([] : List Keyword).length + (if ([] : List Keyword).isEmpty then 0 else 1) < 30)) = true := by rfl)
    (hline : (apos.endLine == cpos.line) = true := by rfl) (hs : starEach [e] X.env = (false, eval e X.env) :: starEach [] X.env := by rfl) (hplain : (backTo cpos (starEach [] X.env)).any (·.1) = false := by rfl) :
    PU X (.Call (.Attribute o "index" apos) [e] [] cpos) (eIndex ea ev) :=
  (pe_bm PySem.F.plainAttrs_list PySem.F.slot_list_index PySem.F.type_list_index (mt_indexD hu) (pu_norm ho) (pa_cons (pu_val ha) pa_nil hs) hbase hfew hline hs hplain).imp fun σ H Q ⟨F, M, ρ, av, ρ', R, q, k⟩ => by
    unfold eIndex at q
    split at q
    · rename_i av1 r h1
      split at q
      · rename_i es h0
        split at q
        · rename_i d r2 h2
          split at q
          · rename_i ds h3
            split at q
            · rename_i hz
              split at q
              · rename_i j hj
                cases q
                refine ⟨F, M, ρ, av1, r, R, h1, fun v M1 H1 s1 R1 ok1 => ?_⟩
                obtain ⟨a, xs, e1, hx, dq⟩ := (AvOk.pkR R1 ok1 h0).list
                subst e1
                refine ⟨Or.inl ⟨rfl, _, hx⟩, F, M1, r, _, ρ', R1, h2, fun u M2 H2 s2 R2 ok2 => ?_⟩
                have du : Dq X.K M2 H2 d u := ok2
                have pk := AvOk.pkR R2 (ok1.step s2 (eNorm_new h1)) h3
                obtain ⟨hj1, hj2, hj3⟩ := List.findIdx?_eq_some_iff_getElem.mp hj
                refine ⟨a, u, d, ds, j, ds[j], rfl, rfl, pk.dp, Dq.dp d u du, hz.1, hz.2, by simp [hj1], hj2, fun m z' hm hz' => ?_, k _ M2 H2 (s1.trans s2) R2 rfl⟩
                obtain ⟨hl, ez⟩ := List.getElem?_eq_some_iff.mp hz'
                have := hj3 m hm
                rw [← ez]
                simpa using this
              · cases q
            · cases q
          · cases q
        · cases q
      · cases q
    · cases q
end
/-! ### least and greatest of data -/
theorem pick_mem (f : D → D → Bool) : ∀ (xs : List D) (x : D), xs.foldl (fun a y => if f a y = true then y else a) x ∈ x :: xs
  | [], x => by simp
  | y :: xs, x => by
    rw [List.foldl_cons]
    have := pick_mem f xs (if f x y = true then y else x)
    rcases List.mem_cons.mp this with e | h
    · rw [e]
      split
      · simp
      · simp
    · exact List.mem_cons_of_mem _ (List.mem_cons_of_mem _ h)
theorem minD_mem (x : D) (xs : List D) : PySem.W.minD x xs ∈ x :: xs := pick_mem (fun a y => PySem.W.dataLt y a) xs x
theorem maxD_mem (x : D) (xs : List D) : PySem.W.maxD x xs ∈ x :: xs := pick_mem (fun a y => PySem.W.dataLt a y) xs x
def cmpOk (ds : List D) : Bool := (alikeAllB ds && decide (PyData.depthAll ds ≤ 64)) && ds.all fun d => !isNone d
theorem cmpOk_iff {ds : List D} (h : cmpOk ds = true) : PySem.W.AlikeAll ds ∧ (∀ d, d ∈ ds → ∀ e, e ∈ ds → PySem.W.alike d e = true) ∧ PyData.depthAll ds ≤ 64 := by
  unfold cmpOk alikeAllB at h
  simp only [Bool.and_eq_true, List.all_eq_true, decide_eq_true_eq] at h
  refine ⟨⟨fun x hx y hy => h.1.1 x hx y hy, fun x hx e => ?_⟩, fun d hd e he => h.1.1 d hd e he, h.1.2⟩
  have := h.2 x hx
  subst e
  cases this
def rBest (K : PySem.W.Frag) (b : D → List D → D) : List V → Hp → VK → Prop := fun vs H Q => ∃ (M : Ms) (a : Addr) (xs : List V) (x : D) (ds : List D), vs = [.ref a] ∧ (SqL K H a xs ∨ SqT K H a xs) ∧ DqAll K M H (x :: ds) xs ∧ cmpOk (x :: ds) = true ∧
  ∀ v, Dq K M H (b x ds) v → Q v H
section
variable {X : Cx}
theorem best_back {M : Ms} {pins : List (Addr × Obj)} {σ : L2.St} {H : Hp} {s : Shared} {Q : VK} {xs : List V} {its : List Value} {ds : List D} {d : D} {i : Nat} {v : Value} {h' : Heap} {tk : Nat} {bs : List Addr} (I : Inv X pins σ H s) (dq : DqAll X.K M H ds xs) (rv : Vals xs its)
    (hal : ∀ d, d ∈ ds → ∀ e, e ∈ ds → PySem.W.alike d e = true) (hd : d ∈ ds) (hi : its[i]? = some v) (r : Reads h' v d bs) (hk : ∀ b o, s.heap.get? b = some o → h'.get? b = some o) (q : ∀ w, Dq X.K M H d w → Q w H) :
    EP X pins σ Q v { s with heap := h', toks := tk } := by
  have l1 := rv.length
  have l2 := dq.len
  obtain ⟨hil, ev⟩ := List.getElem?_eq_some_iff.mp hi
  have hdl : i < ds.length := by omega
  obtain ⟨w, w1, w2⟩ := dq.get (List.getElem?_eq_getElem hdl)
  obtain ⟨u, u1, u2⟩ := Vals.get rv w1
  rw [hi] at u1
  cases u1
  obtain ⟨as, ra⟩ := Dp.reads I ds[i] w v (Dq.dp _ w w2) u2
  have e := PySem.W.alike_unique ds[i] d v as bs (hal _ (List.getElem_mem hdl) _ hd) (PyProof.Rows.Reads.keeps hk ra) r
  rw [e] at w2
  exact ⟨w, H, I.kept hk, u2, q w w2⟩
theorem cr_minD (hc : X.calm = true) (hu : X.A.units + 100 < cLine) : CallR X (.builtin "min") (rBest X.K PySem.W.minD) := by
  intro pins s σ H vs us Q I r h
  obtain ⟨M, a, xs, x, ds, rfl, hs, dq, hok, q⟩ := h
  obtain ⟨o1, o2, o3⟩ := cmpOk_iff hok
  rw [Vals.ref1 r]
  rcases hs with hs | hs
  · obtain ⟨its, rv, hl, hz⟩ := I.list hs
    obtain ⟨as, hr⟩ := Dp.readsAll I (x :: ds) xs its (DqAll.dp _ xs dq) rv
    exact PySem.W.min_list_data (I.ok.hd hc) hl.isList hr o1 (by omega) fun i v h' tk bs hi hr' hk => best_back I dq rv o2 (minD_mem x ds) (by simpa using hi) hr' hk q
  · obtain ⟨its, rv, hl, hz⟩ := I.tuple hs
    obtain ⟨as, hr⟩ := Dp.readsAll I (x :: ds) xs its (DqAll.dp _ xs dq) rv
    exact PySem.W.min_tuple_data (I.ok.hd hc) hl hr o1 (by omega) fun i v h' tk bs hi hr' hk => best_back I dq rv o2 (minD_mem x ds) (by simpa using hi) hr' hk q
theorem cr_maxD (hc : X.calm = true) (hu : X.A.units + 100 < cLine) : CallR X (.builtin "max") (rBest X.K PySem.W.maxD) := by
  intro pins s σ H vs us Q I r h
  obtain ⟨M, a, xs, x, ds, rfl, hs, dq, hok, q⟩ := h
  obtain ⟨o1, o2, o3⟩ := cmpOk_iff hok
  rw [Vals.ref1 r]
  rcases hs with hs | hs
  · obtain ⟨its, rv, hl, hz⟩ := I.list hs
    obtain ⟨as, hr⟩ := Dp.readsAll I (x :: ds) xs its (DqAll.dp _ xs dq) rv
    exact PySem.W.max_list_data (I.ok.hd hc) hl.isList hr o1 (by omega) fun i v h' tk bs hi hr' hk => best_back I dq rv o2 (maxD_mem x ds) (by simpa using hi) hr' hk q
  · obtain ⟨its, rv, hl, hz⟩ := I.tuple hs
    obtain ⟨as, hr⟩ := Dp.readsAll I (x :: ds) xs its (DqAll.dp _ xs dq) rv
    exact PySem.W.max_tuple_data (I.ok.hd hc) hl hr o1 (by omega) fun i v h' tk bs hi hr' hk => best_back I dq rv o2 (maxD_mem x ds) (by simpa using hi) hr' hk q
def dMinX : List D → Option AV
  | [.int i, .int j] => some (.val (.int (if j < i then j else i)))
  | [.list (x :: ds)] => if cmpOk (x :: ds) = true then some (.val (PySem.W.minD x ds)) else none
  | [.tuple (x :: ds)] => if cmpOk (x :: ds) = true then some (.val (PySem.W.minD x ds)) else none
  | _ => none
def dMaxX : List D → Option AV
  | [.int i, .int j] => some (.val (.int (if j > i then j else i)))
  | [.list (x :: ds)] => if cmpOk (x :: ds) = true then some (.val (PySem.W.maxD x ds)) else none
  | [.tuple (x :: ds)] => if cmpOk (x :: ds) = true then some (.val (PySem.W.maxD x ds)) else none
  | _ => none
theorem cd_minX (hc : X.calm = true) (hu : X.A.units + 100 < cLine) : CallD X (.builtin "min") dMinX := by
  refine ⟨_, (call_min2 hc).or (cr_minD hc hu), fun M H ds vs av Q t p h k => ?_⟩
  unfold dMinX at h
  split at h
  · cases h
    obtain ⟨v, u, rfl, w, w2⟩ := p.two
    cases w.int; cases w2.int
    exact .inl ⟨_, _, rfl, k _ _ (ResD.val rfl)⟩
  · split at h
    · rename_i hok
      cases h
      obtain ⟨v, rfl, w⟩ := p.one
      obtain ⟨a, xs, rfl, l1, l2⟩ := w.list
      exact .inr ⟨M, a, xs, _, _, rfl, .inl l1, l2, hok, fun v hv => k _ _ (ResD.val hv)⟩
    · cases h
  · split at h
    · rename_i hok
      cases h
      obtain ⟨v, rfl, w⟩ := p.one
      obtain ⟨a, xs, rfl, l1, l2⟩ := w.tup.sqT
      exact .inr ⟨M, a, xs, _, _, rfl, .inr l1, l2, hok, fun v hv => k _ _ (ResD.val hv)⟩
    · cases h
  · cases h
theorem cd_maxX (hc : X.calm = true) (hu : X.A.units + 100 < cLine) : CallD X (.builtin "max") dMaxX := by
  refine ⟨_, (call_max2 hc).or (cr_maxD hc hu), fun M H ds vs av Q t p h k => ?_⟩
  unfold dMaxX at h
  split at h
  · cases h
    obtain ⟨v, u, rfl, w, w2⟩ := p.two
    cases w.int; cases w2.int
    exact .inl ⟨_, _, rfl, k _ _ (ResD.val rfl)⟩
  · split at h
    · rename_i hok
      cases h
      obtain ⟨v, rfl, w⟩ := p.one
      obtain ⟨a, xs, rfl, l1, l2⟩ := w.list
      exact .inr ⟨M, a, xs, _, _, rfl, .inl l1, l2, hok, fun v hv => k _ _ (ResD.val hv)⟩
    · cases h
  · split at h
    · rename_i hok
      cases h
      obtain ⟨v, rfl, w⟩ := p.one
      obtain ⟨a, xs, rfl, l1, l2⟩ := w.tup.sqT
      exact .inr ⟨M, a, xs, _, _, rfl, .inr l1, l2, hok, fun v hv => k _ _ (ResD.val hv)⟩
    · cases h
  · cases h
end
theorem room_i {k : Nat} {A : Around} (h : Room k A) : A.units + 65 < cLine := by have := h.un; omega
end PV
set_option Elab.async false
set_option linter.all false
set_option autoImplicit false
set_option maxRecDepth 100000
set_option maxHeartbeats 4000000
/-! PW: the evaluators' parts as rewriting rules; loops and comprehensions over plain lists. -/
namespace PV
open PySem PySem.Spec PyProof.Rows L2
@[simp] theorem eNorm_ap (ev : Ev) (ρ : Rho) : eNorm ev ρ = (match ev ρ with
  | some (.new ds, r) => some (.val (.list ds), r)
  | o => o) := Eq.trans rfl rfl
@[simp] theorem eVal_ap (ev : Ev) (ρ : Rho) : eVal ev ρ = (match ev ρ with
  | some (.val d, r) => some (.val d, r)
  | some (.new ds, r) => some (.val (.list ds), r)
  | some (.ref b, r) => (match get b r with
    | .own ds => some (.val (.list ds), put b (.val (.list ds)) r)
    | _ => none)
  | _ => none) := Eq.trans rfl rfl
@[simp] theorem eVar_ap (b : Ix) (ρ : Rho) : eVar b ρ = (match get b ρ with
  | .val d => some (.val d, ρ)
  | .own _ => some (.ref b, ρ)
  | .ref _ => some (.ref b, ρ)
  | .rd ds => some (.rd ds, ρ)
  | .no => none) := Eq.trans rfl rfl
@[simp] theorem eK_ap (d : D) (ρ : Rho) : eK d ρ = (some (.val d, ρ)) := Eq.trans rfl rfl
@[simp] theorem eBin_ap (op : D → D → Option AV) (ea eb : Ev) (ρ : Rho) : eBin op ea eb ρ = (match eNorm ea ρ with
  | none => none
  | some (x, r1) => match eb r1 with
    | none => none
    | some (y, r2) => match peek x r2, peek y r2 with
      | some dx, some dy => (match op dx dy with
        | some av => some (av, r2)
        | none => none)
      | _, _ => none) := Eq.trans rfl rfl
@[simp] theorem eT_ap (ev : Ev) (ρ : Rho) : eT ev ρ = (match ev ρ with
  | some (.val (.bool c), r) => some (c, r)
  | _ => none) := Eq.trans rfl rfl
@[simp] theorem etNot_ap (ta : Et) (ρ : Rho) : etNot ta ρ = (match ta ρ with
  | some (c, r) => some (!c, r)
  | none => none) := Eq.trans rfl rfl
@[simp] theorem eNot_ap (ea : Ev) (ρ : Rho) : eNot ea ρ = (match ea ρ with
  | some (.val (.bool c), r) => some (.val (.bool (!c)), r)
  | _ => none) := Eq.trans rfl rfl
@[simp] theorem eNeg_ap (ea : Ev) (ρ : Rho) : eNeg ea ρ = (match ea ρ with
  | some (.val (.int i), r) => some (.val (.int (-i)), r)
  | _ => none) := Eq.trans rfl rfl
@[simp] theorem aNil_ap  (ρ : Rho) : aNil  ρ = (some ([], ρ)) := Eq.trans rfl rfl
@[simp] theorem aCons_ap (ev : Ev) (ea : Ea) (ρ : Rho) : aCons ev ea ρ = (match eNorm ev ρ with
  | some (x, r1) => (match ea r1 with
    | some (xs, r2) => some (x :: xs, r2)
    | none => none)
  | none => none) := Eq.trans rfl rfl
@[simp] theorem aStar_ap (ev : Ev) (ea : Ea) (ρ : Rho) : aStar ev ea ρ = (match eNorm ev ρ with
  | some (x, r1) => (match (peekR x r1).bind starD with
    | some ds => (match ea r1 with
      | some (xs, r2) => some (ds.map AV.val ++ xs, r2)
      | none => none)
    | none => none)
  | none => none) := Eq.trans rfl rfl
@[simp] theorem eTup_ap (ea : Ea) (ρ : Rho) : eTup ea ρ = (match ea ρ with
  | some (avs, r) => (match valsOf avs with
    | some ds => if ds.length ≤ mxL then some (.val (.tuple ds), r) else none
    | none => none)
  | none => none) := Eq.trans rfl rfl
@[simp] theorem eLst_ap (ea : Ea) (ρ : Rho) : eLst ea ρ = (match ea ρ with
  | some (avs, r) => (match valsOf avs with
    | some ds => if ds.length ≤ mxL then some (.new ds, r) else none
    | none => none)
  | none => none) := Eq.trans rfl rfl
@[simp] theorem eIx_ap (ea eb : Ev) (ρ : Rho) : eIx ea eb ρ = (match eNorm ea ρ with
  | none => none
  | some (x, r1) => match eb r1 with
    | none => none
    | some (y, r2) => match peekR x r2, peek y r2 with
      | some dx, some dy => (match dIx dx dy with
        | some d => some (.val d, r2)
        | none => none)
      | _, _ => none) := Eq.trans rfl rfl
@[simp] theorem eSl_ap (ea : Ev) (lo hi : Option Ev) (ρ : Rho) : eSl ea lo hi ρ = (match eNorm ea ρ with
  | none => none
  | some (x, r1) => match ePart lo r1 with
    | none => none
    | some (l, r2) => match ePart hi r2 with
      | none => none
      | some (u, r3) => match peekR x r3 with
        | some d => (match dSl d l u with
          | some av => some (av, r3)
          | none => none)
        | none => none) := Eq.trans rfl rfl
@[simp] theorem eCall_ap (m : List D → Option AV) (ea : Ea) (ρ : Rho) : eCall m ea ρ = (match ea ρ with
  | none => none
  | some (avs, r) => match peekAll avs r with
    | none => none
    | some ds => match m ds with
      | none => none
      | some av => some (av, r)) := Eq.trans rfl rfl
@[simp] theorem eIsi_ap (T : String) (ea : Ev) (ρ : Rho) : eIsi T ea ρ = (match eNorm ea ρ with
  | some (x, r) => (match peek x r with
    | some d => (match kitB (tyOfD d) T with
      | some b => some (.val (.bool b), r)
      | none => none)
    | none => none)
  | none => none) := Eq.trans rfl rfl
@[simp] theorem gN_ap (i : Ix) (d : D) (ρ : Rho) : gN i d ρ = (some (put i (.val d) ρ)) := Eq.trans rfl rfl
@[simp] theorem gsNil_ap  (ds : List D) (ρ : Rho) : gsNil  ds ρ = (match ds with
  | [] => some ρ
  | _ => none) := Eq.trans rfl rfl
@[simp] theorem gsCons_ap (g : Gd) (gs : Gds) (ds : List D) (ρ : Rho) : gsCons g gs ds ρ = (match ds with
  | d :: r => (match g d ρ with
    | some ρ1 => gs r ρ1
    | none => none)
  | [] => none) := Eq.trans rfl rfl
@[simp] theorem gT_ap (n : Nat) (gs : Gds) (d : D) (ρ : Rho) : gT n gs d ρ = (match d with
  | .tuple ds => if ds.length = n then gs ds ρ else none
  | _ => none) := Eq.trans rfl rfl
@[simp] theorem sNil_ap  (ρ : Rho) : sNil  ρ = (some (.nx ρ)) := Eq.trans rfl rfl
@[simp] theorem sSeq_ap (s t : Es) (ρ : Rho) : sSeq s t ρ = (match s ρ with
  | some (.nx r) => t r
  | o => o) := Eq.trans rfl rfl
@[simp] theorem sSet_ap (i : Ix) (ev : Ev) (ρ : Rho) : sSet i ev ρ = (match eVal ev ρ with
  | some (.val d, r) => some (.nx (put i (.val d) r))
  | _ => none) := Eq.trans rfl rfl
@[simp] theorem sSetM_ap (i : Ix) (ev : Ev) (ρ : Rho) : sSetM i ev ρ = (match ev ρ with
  | some (av, r) => (match bindM i av r with
    | some r' => some (.nx r')
    | none => none)
  | none => none) := Eq.trans rfl rfl
@[simp] theorem sAsg_ap (ev : Ev) (g : Gd) (ρ : Rho) : sAsg ev g ρ = (match eVal ev ρ with
  | some (.val d, r) => (match g d r with
    | some r' => some (.nx r')
    | none => none)
  | _ => none) := Eq.trans rfl rfl
@[simp] theorem sExpr_ap (ev : Ev) (ρ : Rho) : sExpr ev ρ = (match ev ρ with
  | some (_, r) => some (.nx r)
  | none => none) := Eq.trans rfl rfl
@[simp] theorem sRet_ap (ev : Ev) (ρ : Rho) : sRet ev ρ = (match ev ρ with
  | some (.val d, r) => some (.rt d r)
  | some (.new ds, r) => some (.rtN ds r)
  | some (.ref b, r) => (match get b r with
    | .own ds => some (.rtN ds (put b .no r))
    | _ => none)
  | _ => none) := Eq.trans rfl rfl
@[simp] theorem eIter_ap (ev : Ev) (ρ : Rho) : eIter ev ρ = (match ev ρ with
  | some (.val (.list ds), r) => some (ds, r)
  | some (.val (.tuple ds), r) => some (ds, r)
  | some (.new ds, r) => some (ds, r)
  | some (.rd ds, r) => some (ds, r)
  | some (.ref b, r) => (match get b r with
    | .own ds => some (ds, put b (.val (.list ds)) r)
    | _ => none)
  | _ => none) := Eq.trans rfl rfl
@[simp] theorem eVals_ap (ea : Ea) (ρ : Rho) : eVals ea ρ = (match ea ρ with
  | some (avs, r) => (match valsOf avs with
    | some ds => some (ds, r)
    | none => none)
  | none => none) := Eq.trans rfl rfl
@[simp] theorem eRange1_ap (ea : Ea) (ρ : Rho) : eRange1 ea ρ = (match eVals ea ρ with
  | some ([.int n], r) => if small62 n then some (rgD 0 n.toNat, r) else none
  | _ => none) := Eq.trans rfl rfl
@[simp] theorem eRange2_ap (ea : Ea) (ρ : Rho) : eRange2 ea ρ = (match eVals ea ρ with
  | some ([.int i, .int j], r) => if small62 i && small62 j then some (rgD i (j - i).toNat, r) else none
  | _ => none) := Eq.trans rfl rfl
@[simp] theorem eZip_ap (ea : Ea) (ρ : Rho) : eZip ea ρ = (match eVals ea ρ with
  | some ([.list as, .list bs], r) => some (zipD as bs, r)
  | some ([.tuple as, .tuple bs], r) => some (zipD as bs, r)
  | _ => none) := Eq.trans rfl rfl
@[simp] theorem eEnum_ap (ea : Ea) (ρ : Rho) : eEnum ea ρ = (match eVals ea ρ with
  | some ([.list ds], r) => some (enumD 0 ds, r)
  | some ([.tuple ds], r) => some (enumD 0 ds, r)
  | _ => none) := Eq.trans rfl rfl
@[simp] theorem sFor_ap (ei : Ei) (g : Gd) (body : Es) (ks : List Ix) (ρ : Rho) : sFor ei g body ks ρ = (match ei ρ with
  | some (ds, r) => evFor g body ks ds (killAll ks r)
  | none => none) := Eq.trans rfl rfl
@[simp] theorem sWhile_ap (n : Nat) (tc : Et) (body : Es) (ks : List Ix) (ρ : Rho) : sWhile n tc body ks ρ = (evWhile tc body ks n (killAll ks ρ)) := Eq.trans rfl rfl
@[simp] theorem eComp_ap (ei : Ei) (g : Gd) (tt : Et) (ee : Ev) (own : List Ix) (ρ : Rho) : eComp ei g tt ee own ρ = (match ei ρ with
  | some (ds, r) => if ds.length ≤ mxL then (match evComp g tt ee own ds (killAll own r) with
    | some (ys, r2) => some (.new ys, restore own r r2)
    | none => none) else none
  | none => none) := Eq.trans rfl rfl
@[simp] theorem etYes_ap  (ρ : Rho) : etYes  ρ = (some (true, ρ)) := Eq.trans rfl rfl
@[simp] theorem inits_ap (bs : List B) (n : Nat) : inits bs n = (bs ++ List.replicate (n - bs.length) .no) := Eq.trans rfl rfl
@[simp] theorem runFn_ap (n : Nat) (ev : Es) (bs : List B) : runFn n ev bs = (match ev (inits bs n) with
  | some (.rt d ρ) => (match refsOf bs ρ with
    | some rs => some (.val d, rs)
    | none => none)
  | some (.rtN ds ρ) => (match refsOf bs ρ with
    | some rs => some (.new ds, rs)
    | none => none)
  | some (.nx ρ) => (match refsOf bs ρ with
    | some rs => some (.val .none, rs)
    | none => none)
  | _ => none) := Eq.trans rfl rfl
@[simp] theorem callU_ap (m : Fm) (avs : List AV) (r : Rho) : callU m avs r = (if distinctIx (refIx avs) then (match argsB avs r with
    | none => none
    | some bs => match m bs with
      | none => none
      | some (res, rs) => some (resAV res, putRefs ((refIx avs).zip rs) r)) else none) := Eq.trans rfl rfl
@[simp] theorem eUser_ap (m : Fm) (ea : Ea) (ρ : Rho) : eUser m ea ρ = (match ea ρ with
  | some (avs, r) => callU m avs r
  | none => none) := Eq.trans rfl rfl
@[simp] theorem eUserK_ap (idx : List Nat) (n l : Nat) (m : Fm) (ea ek : Ea) (ρ : Rho) : eUserK idx n l m ea ek ρ = (match ea ρ with
  | some (avs, r) => (match ek r with
    | some (avs2, r2) => if avs.length = n ∧ avs2.length = l then callU m (pick idx (avs ++ avs2)) r2 else none
    | none => none)
  | none => none) := Eq.trans rfl rfl
@[simp] theorem eAppend_ap (b : Ix) (ev : Ev) (ρ : Rho) : eAppend b ev ρ = (match mutL (get b ρ) with
  | none => none
  | some _ => match eVal ev ρ with
    | some (.val d, r) => (match mutL (get b r) with
      | some ds => if ds.length < mxL then some (.val .none, put b (setL (get b r) (ds ++ [d])) r) else none
      | none => none)
    | _ => none) := Eq.trans rfl rfl
@[simp] theorem eExtend_ap (b : Ix) (ev : Ev) (ρ : Rho) : eExtend b ev ρ = (match mutL (get b ρ) with
  | none => none
  | some _ => match ev ρ with
    | some (av, r) => (match peek av r with
      | some (.list es) => (match mutL (get b r) with
        | some ds => if ds.length + es.length ≤ mxL then some (.val .none, put b (setL (get b r) (ds ++ es)) r) else none
        | none => none)
      | _ => none)
    | none => none) := Eq.trans rfl rfl
@[simp] theorem ePopAt_ap (b : Ix) (ev : Ev) (ρ : Rho) : ePopAt b ev ρ = (match mutL (get b ρ) with
  | none => none
  | some _ => match eVal ev ρ with
    | some (.val (.int i), r) => (match mutL (get b r) with
      | some ds => if small62 i then (match ixN ds.length i with
        | some j => (match ds[j]? with
          | some d => some (.val d, put b (setL (get b r) (ds.eraseIdx j)) r)
          | none => none)
        | none => none) else none
      | none => none)
    | _ => none) := Eq.trans rfl rfl
@[simp] theorem eCount_ap (ea : Ev) (ev : Ev) (ρ : Rho) : eCount ea ev ρ = (match eNorm ea ρ with
  | some (av, r) => (match peekR av r with
    | some (.list _) => (match eVal ev r with
      | some (.val (.int i), r2) => (match peekR av r2 with
        | some (.list ds) => (match intsOf ds with
          | some is => some (.val (.int (is.count i : Nat)), r2)
          | none => none)
        | _ => none)
      | _ => none)
    | _ => none)
  | none => none) := Eq.trans rfl rfl
@[simp] theorem gI_ap (b : Ix) (ei : Ev) (d : D) (ρ : Rho) : gI b ei d ρ = (match mutL (get b ρ) with
  | none => none
  | some _ => match eVal ei ρ with
    | some (.val (.int k), r) => (match mutL (get b r) with
      | some ds => (match ixN ds.length k with
        | some j => some (put b (setL (get b r) (ds.set j d)) r)
        | none => none)
      | none => none)
    | _ => none) := Eq.trans rfl rfl
@[simp] theorem eSel_ap (m : Bool) (e : Ev) : eSel m e = (if m = true then e else eVal e) := Eq.trans rfl rfl
@[simp] theorem sPar_ap (i j : Ix) (m1 m2 : Bool) (e1 e2 : Ev) (ρ : Rho) : sPar i j m1 m2 e1 e2 ρ = (match eSel m1 e1 ρ with
  | some (.val d, r) => (match eSel m2 e2 r with
    | some (av, r2) => (match bindM j av (put i (.val d) r2) with
      | some r3 => some (.nx r3)
      | none => none)
    | none => none)
  | some (.new ds, r) => (match eSel m2 e2 r with
    | some (.val d, r2) => some (.nx (put j (.val d) (put i (.own ds) r2)))
    | some (.new es, r2) => some (.nx (put j (.own es) (put i (.own ds) r2)))
    | _ => none)
  | _ => none) := Eq.trans rfl rfl
@[simp] theorem mkF_ap (np nn : Nat) (ev : Es) (bs : List B) : mkF np nn ev bs = (if bs.length = np then runFn nn ev bs else none) := Eq.trans rfl rfl
@[simp] theorem etAnd_ap (ta tb : Et) (ρ : Rho) : etAnd ta tb ρ = (match ta ρ with
  | some (c, r) => if c = true then tb r else some (false, r)
  | none => none) := by
  unfold etAnd
  rcases ta ρ with _ | ⟨c, r⟩
  · rfl
  · cases c <;> rfl
@[simp] theorem etOr_ap (ta tb : Et) (ρ : Rho) : etOr ta tb ρ = (match ta ρ with
  | some (c, r) => if c = true then some (true, r) else tb r
  | none => none) := by
  unfold etOr
  rcases ta ρ with _ | ⟨c, r⟩
  · rfl
  · cases c <;> rfl
@[simp] theorem eIf_ap (tc : Et) (ea eb : Ev) (ρ : Rho) : eIf tc ea eb ρ = (match tc ρ with
  | some (c, r) => if c = true then ea r else eb r
  | none => none) := by
  unfold eIf
  rcases tc ρ with _ | ⟨c, r⟩
  · rfl
  · cases c <;> rfl
@[simp] theorem sIf_ap (tc : Et) (s t : Es) (ρ : Rho) : sIf tc s t ρ = (match tc ρ with
  | some (c, r) => if c = true then s r else t r
  | none => none) := by
  unfold sIf
  rcases tc ρ with _ | ⟨c, r⟩
  · rfl
  · cases c <;> rfl
def truAv : Option (AV × Rho) → Option (Bool × Rho)
  | some (.val (.bool c), r) => some (c, r)
  | _ => none
@[simp] theorem truAv_b (c : Bool) (r : Rho) : truAv (some (.val (.bool c), r)) = some (c, r) := rfl
@[simp] theorem eAnd_ap (ea eb : Ev) (ρ : Rho) : eAnd ea eb ρ = (match truAv (ea ρ) with
  | some (c, r) => if c = true then eb r else some (.val (.bool false), r)
  | none => none) := by
  unfold eAnd
  rcases ea ρ with _ | ⟨av, r⟩
  · rfl
  · cases av with
    | val d => cases d with
      | bool c => cases c <;> rfl
      | _ => rfl
    | _ => rfl
@[simp] theorem eOr_ap (ea eb : Ev) (ρ : Rho) : eOr ea eb ρ = (match truAv (ea ρ) with
  | some (c, r) => if c = true then some (.val (.bool true), r) else eb r
  | none => none) := by
  unfold eOr
  rcases ea ρ with _ | ⟨av, r⟩
  · rfl
  · cases av with
    | val d => cases d with
      | bool c => cases c <;> rfl
      | _ => rfl
    | _ => rfl
def truV : Option AV → Option Bool
  | some (.val (.bool c)) => some c
  | _ => none
@[simp] theorem truV_b (c : Bool) : truV (some (.val (.bool c))) = some c := rfl
@[simp] theorem eChain_ap (op op' : D → D → Option AV) (ea eb ec : Ev) (ρ : Rho) : eChain op op' ea eb ec ρ = (match eNorm ea ρ with
  | none => none
  | some (x, r1) => match eNorm eb r1 with
    | none => none
    | some (y, r2) => match peek x r2, peek y r2 with
      | some dx, some dy => (match truV (op dx dy) with
        | some c => if c = true then (match ec r2 with
          | some (z, r3) => (match peek y r3, peek z r3 with
            | some dy', some dz => (match truV (op' dy' dz) with
              | some k => some (.val (.bool k), r3)
              | none => none)
            | _, _ => none)
          | none => none) else some (.val (.bool false), r2)
        | none => none)
      | _, _ => none) := by
  have key : ∀ o : Option AV, (match o with
      | some (.val (.bool k)) => some k
      | _ => none) = truV o := fun o => by
    rcases o with _ | av
    · rfl
    · cases av with
      | val d => cases d <;> rfl
      | _ => rfl
  unfold eChain
  rcases eNorm ea ρ with _ | ⟨x, r1⟩
  · rfl
  · simp only
    rcases eNorm eb r1 with _ | ⟨y, r2⟩
    · rfl
    · simp only
      rcases peek x r2 with _ | dx
      · rfl
      · rcases peek y r2 with _ | dy
        · rfl
        · simp only
          rcases op dx dy with _ | av
          · rfl
          · cases av with
            | val d => cases d with
              | bool c => cases c with
                | false => rfl
                | true =>
                  simp only [truV_b, if_true]
                  rcases ec r2 with _ | ⟨z, r3⟩
                  · rfl
                  · simp only
                    rcases peek y r3 with _ | dy'
                    · rfl
                    · rcases peek z r3 with _ | dz
                      · rfl
                      · simp only
                        rcases op' dy' dz with _ | av
                        · rfl
                        · cases av with
                          | val d => cases d <;> rfl
                          | _ => rfl
              | _ => rfl
            | _ => rfl
@[simp] theorem distinctIx_nil : distinctIx [] = true := rfl
@[simp] theorem distinctIx_one (i : Ix) : distinctIx [i] = true := rfl
@[simp] theorem shaped_int (i : Int) : SeqAt.shaped (.int i) = true := rfl
@[simp] theorem shaped_bool (i : Bool) : SeqAt.shaped (.bool i) = true := rfl
@[simp] theorem shaped_none : SeqAt.shaped .none = true := rfl
@[simp] theorem eqv_int (i j : Int) : PyData.eqv (.int i) (.int j) = decide (i = j) := by simp [PyData.eqv]; rfl
@[simp] theorem eqv_bool (i j : Bool) : PyData.eqv (.bool i) (.bool j) = decide (i = j) := by simp [PyData.eqv]; cases i <;> cases j <;> rfl
@[simp] theorem eqv_none : PyData.eqv .none .none = true := by simp [PyData.eqv]
@[simp] theorem eqv_str_self (s : Str) : PyData.eqv (.str s) (.str s) = true := by simp [PyData.eqv]
@[simp] theorem eqv_tuple (a b : List D) : PyData.eqv (.tuple a) (.tuple b) = PyData.eqvAll a b := by simp [PyData.eqv]
@[simp] theorem eqv_list (a b : List D) : PyData.eqv (.list a) (.list b) = PyData.eqvAll a b := by simp [PyData.eqv]
@[simp] theorem eqvAll_nil : PyData.eqvAll [] [] = true := by simp [PyData.eqvAll]
@[simp] theorem eqvAll_nilc (a : D) (as : List D) : PyData.eqvAll [] (a :: as) = false := by simp [PyData.eqvAll]
@[simp] theorem eqvAll_cnil (a : D) (as : List D) : PyData.eqvAll (a :: as) [] = false := by simp [PyData.eqvAll]
@[simp] theorem eqvAll_cons (a b : D) (as bs : List D) : PyData.eqvAll (a :: as) (b :: bs) = (PyData.eqv a b && PyData.eqvAll as bs) := by simp [PyData.eqvAll]
@[simp] theorem dEq_str (a b : Str) : dEq (.str a) (.str b) = some (.val (.bool (decide (a = b)))) := rfl
@[simp] theorem dNe_str (a b : Str) : dNe (.str a) (.str b) = some (.val (.bool (!decide (a = b)))) := rfl
@[simp] theorem dEq_int (i j : Int) : dEq (.int i) (.int j) = some (.val (.bool (decide (i = j)))) := by
  show (if SeqAt.shaped (.int i) = true ∧ SeqAt.shaped (.int j) = true then some (AV.val (.bool (PyData.eqv (.int i) (.int j)))) else none) = _
  simp
@[simp] theorem dNe_int (i j : Int) : dNe (.int i) (.int j) = some (.val (.bool (!decide (i = j)))) := by
  show (if SeqAt.shaped (.int i) = true ∧ SeqAt.shaped (.int j) = true then some (AV.val (.bool (!PyData.eqv (.int i) (.int j)))) else none) = _
  simp
@[simp] theorem dEq_tup (a b : List D) : dEq (.tuple a) (.tuple b) = if SeqAt.shaped (.tuple a) = true ∧ SeqAt.shaped (.tuple b) = true then some (.val (.bool (PyData.eqvAll a b))) else none := by
  show (if SeqAt.shaped (.tuple a) = true ∧ SeqAt.shaped (.tuple b) = true then some (AV.val (.bool (PyData.eqv (.tuple a) (.tuple b)))) else none) = _
  simp
@[simp] theorem dNe_tup (a b : List D) : dNe (.tuple a) (.tuple b) = if SeqAt.shaped (.tuple a) = true ∧ SeqAt.shaped (.tuple b) = true then some (.val (.bool (!PyData.eqvAll a b))) else none := by
  show (if SeqAt.shaped (.tuple a) = true ∧ SeqAt.shaped (.tuple b) = true then some (AV.val (.bool (!PyData.eqv (.tuple a) (.tuple b)))) else none) = _
  simp
@[simp] theorem dEq_lst (a b : List D) : dEq (.list a) (.list b) = if SeqAt.shaped (.list a) = true ∧ SeqAt.shaped (.list b) = true then some (.val (.bool (PyData.eqvAll a b))) else none := by
  show (if SeqAt.shaped (.list a) = true ∧ SeqAt.shaped (.list b) = true then some (AV.val (.bool (PyData.eqv (.list a) (.list b)))) else none) = _
  simp
@[simp] theorem dNe_lst (a b : List D) : dNe (.list a) (.list b) = if SeqAt.shaped (.list a) = true ∧ SeqAt.shaped (.list b) = true then some (.val (.bool (!PyData.eqvAll a b))) else none := by
  show (if SeqAt.shaped (.list a) = true ∧ SeqAt.shaped (.list b) = true then some (AV.val (.bool (!PyData.eqv (.list a) (.list b)))) else none) = _
  simp
@[simp] theorem atI_0 {α : Type} (x : α) (l : List α) : atI (x :: l) 0 = some x := by simp [atI, ixN]
@[simp] theorem atI_1 {α : Type} (x y : α) (l : List α) : atI (x :: y :: l) 1 = some y := by
  have : (1 : Int) < (((x :: y :: l).length : Nat) : Int) := by simp only [List.length_cons]; omega
  simp only [atI, ixN, if_pos this, if_pos (show (0 : Int) ≤ 1 by omega)]
  rfl
@[simp] theorem atI_2 {α : Type} (x y z : α) (l : List α) : atI (x :: y :: z :: l) 2 = some z := by
  have : (2 : Int) < (((x :: y :: z :: l).length : Nat) : Int) := by simp only [List.length_cons]; omega
  simp only [atI, ixN, if_pos this, if_pos (show (0 : Int) ≤ 2 by omega)]
  rfl
theorem atI_nat {α : Type} (l : List α) (k : Nat) : atI l (k : Int) = l[k]? := by
  unfold atI ixN
  by_cases h : k < l.length
  · rw [if_pos (by omega), if_pos (by omega)]
    simp
  · rw [if_pos (by omega), if_neg (by omega)]
    simp; omega
theorem cutD_to (ds : List D) (k : Nat) : cutD ds none (some (k : Int)) = ds.take k := by
  unfold cutD
  rw [HT.sIx_nat, HT.sIx_none]
  simp [List.take_eq_take_iff]
theorem cutD_from (ds : List D) (k : Nat) : cutD ds (some (k : Int)) none = ds.drop k := by
  unfold cutD
  rw [HT.sIx_nat, HT.sIx_none]
  by_cases h : k ≤ ds.length
  · rw [Nat.min_eq_left h, List.take_of_length_le (by simp)]
  · rw [Nat.min_eq_right (by omega), List.drop_of_length_le (by omega), List.drop_of_length_le (by omega)]
    simp

/-! ### walks over plain lists -/
def stComp (g : Gd) (tt : Et) (ee : Ev) (own : List Ix) (d : D) (ρ : Rho) : Option (Option D × Rho) := match g d ρ with
  | none => none
  | some r1 => match tt r1 with
    | none => none
    | some (c, r2) => if c = true then (match eVal ee r2 with
      | some (.val y, r3) => some (some y, killAll own r3)
      | _ => none) else some (none, killAll own r2)
theorem evComp_cons (g : Gd) (tt : Et) (ee : Ev) (own : List Ix) (d : D) (ds : List D) (ρ : Rho) : evComp g tt ee own (d :: ds) ρ = match stComp g tt ee own d ρ with
    | none => none
    | some (o, r) => match evComp g tt ee own ds r with
      | some (ys, r2) => some (o.toList ++ ys, r2)
      | none => none := by
  unfold stComp
  rw [evComp]
  cases g d ρ with
  | none => rfl
  | some r1 =>
    simp only
    rcases tt r1 with _ | ⟨c, r2⟩
    · rfl
    · cases c with
      | false =>
        simp only [Bool.false_eq_true, if_false]
        rcases evComp g tt ee own ds (killAll own r2) with _ | ⟨ys, r4⟩ <;> rfl
      | true =>
        simp only [if_true]
        rcases eVal ee r2 with _ | ⟨av, r3⟩
        · rfl
        · cases av with
          | val y =>
            simp only
            rcases evComp g tt ee own ds (killAll own r3) with _ | ⟨ys, r4⟩ <;> rfl
          | _ => rfl
theorem evComp_map {α : Type} {g : Gd} {tt : Et} {ee : Ev} {own : List Ix} {ρ : Rho} (emb : α → D) (φ : α → Option D) : ∀ (xs : List α), (∀ x ∈ xs, stComp g tt ee own (emb x) ρ = some (φ x, ρ)) → evComp g tt ee own (xs.map emb) ρ = some (xs.filterMap φ, ρ)
  | [], _ => rfl
  | x :: xs, h => by
    rw [List.map_cons, evComp_cons, h x List.mem_cons_self]
    simp only
    rw [evComp_map emb φ xs fun y hy => h y (List.mem_cons_of_mem _ hy)]
    simp only [List.filterMap_cons]
    cases φ x <;> rfl
theorem evComp_inv {g : Gd} {tt : Et} {ee : Ev} {own : List Ix} {ds0 : List D} (I : Nat → List D → Rho → Prop) (h : ∀ i d acc ρ, ds0[i]? = some d → I i acc ρ → ∃ o ρ', stComp g tt ee own d ρ = some (o, ρ') ∧ I (i + 1) (acc ++ o.toList) ρ') :
    ∀ (ds : List D) (i : Nat) (acc : List D) (ρ : Rho), ds0.drop i = ds → I i acc ρ → ∃ ys ρ', evComp g tt ee own ds ρ = some (ys, ρ') ∧ I (i + ds.length) (acc ++ ys) ρ'
  | [], i, acc, ρ, _, hi => ⟨[], ρ, rfl, by simpa using hi⟩
  | d :: ds, i, acc, ρ, hd, hi => by
    have e : ds0[i]? = some d := by
      have := congrArg (fun l => l[0]?) hd
      simpa using this
    obtain ⟨o, ρ1, h1, i1⟩ := h i d acc ρ e hi
    obtain ⟨ys, ρ2, h2, i2⟩ := evComp_inv I h ds (i + 1) (acc ++ o.toList) ρ1 (by
      have := congrArg List.tail hd
      simpa using this) i1
    refine ⟨o.toList ++ ys, ρ2, by rw [evComp_cons, h1]; simp only; rw [h2], ?_⟩
    rw [List.append_assoc] at i2
    rw [List.length_cons, show i + (ds.length + 1) = i + 1 + ds.length by omega]
    exact i2
def stFor (g : Gd) (body : Es) (ks : List Ix) (d : D) (ρ : Rho) : Option Fl := match g d ρ with
  | none => none
  | some r1 => match body r1 with
    | some (.nx r2) => some (.nx (killAll ks r2))
    | some (.ct r2) => some (.nx (killAll ks r2))
    | x => x
theorem evFor_cons (g : Gd) (body : Es) (ks : List Ix) (d : D) (ds : List D) (ρ : Rho) : evFor g body ks (d :: ds) ρ = match stFor g body ks d ρ with
    | some (.nx r) => evFor g body ks ds r
    | some (.ct r) => evFor g body ks ds r
    | some (.bk r) => some (.nx r)
    | x => x := by
  unfold stFor
  rw [evFor]
  cases g d ρ with
  | none => rfl
  | some r1 =>
    simp only
    rcases body r1 with _ | fl
    · rfl
    · cases fl <;> rfl
@[simp] theorem evFor_nil (g : Gd) (body : Es) (ks : List Ix) (ρ : Rho) : evFor g body ks [] ρ = some (.nx ρ) := rfl
@[simp] theorem evComp_nil (g : Gd) (tt : Et) (ee : Ev) (own : List Ix) (ρ : Rho) : evComp g tt ee own [] ρ = some ([], ρ) := rfl
theorem evFor_fold {α β : Type} {g : Gd} {body : Es} {ks : List Ix} (emb : α → D) (st : β → Rho) (f : β → α → β) (I : β → Prop) : ∀ (xs : List α) (s : β), I s → (∀ s x, x ∈ xs → I s → stFor g body ks (emb x) (st s) = some (.nx (st (f s x))) ∧ I (f s x)) →
    evFor g body ks (xs.map emb) (st s) = some (.nx (st (xs.foldl f s))) ∧ I (xs.foldl f s)
  | [], s, hi, _ => ⟨rfl, hi⟩
  | x :: xs, s, hi, h => by
    obtain ⟨h1, i1⟩ := h s x List.mem_cons_self hi
    rw [List.map_cons, evFor_cons, h1]
    exact evFor_fold emb st f I xs (f s x) i1 fun s y hy => h s y (List.mem_cons_of_mem _ hy)
theorem evFor_inv {g : Gd} {body : Es} {ks : List Ix} {ds0 : List D} (I : Nat → Rho → Prop) (h : ∀ i d ρ, ds0[i]? = some d → I i ρ → ∃ ρ', stFor g body ks d ρ = some (.nx ρ') ∧ I (i + 1) ρ') :
    ∀ (ds : List D) (i : Nat) (ρ : Rho), ds0.drop i = ds → I i ρ → ∃ ρ', evFor g body ks ds ρ = some (.nx ρ') ∧ I (i + ds.length) ρ'
  | [], i, ρ, _, hi => ⟨ρ, rfl, by simpa using hi⟩
  | d :: ds, i, ρ, hd, hi => by
    have e : ds0[i]? = some d := by
      have := congrArg (fun l => l[0]?) hd
      simpa using this
    obtain ⟨ρ1, h1, i1⟩ := h i d ρ e hi
    obtain ⟨ρ2, h2, i2⟩ := evFor_inv I h ds (i + 1) ρ1 (by
      have := congrArg List.tail hd
      simpa using this) i1
    refine ⟨ρ2, by rw [evFor_cons, h1]; exact h2, ?_⟩
    rw [List.length_cons, show i + (ds.length + 1) = i + 1 + ds.length by omega]
    exact i2
/-- for i in range(n): the states told by the number of turns -/
theorem evFor_rng {g : Gd} {body : Es} {ks : List Ix} (n : Nat) (st : Nat → Rho) (h : ∀ i, i < n → stFor g body ks (.int (i : Int)) (st i) = some (.nx (st (i + 1)))) :
    evFor g body ks ((List.range n).map fun (i : Nat) => PyData.int (i : Int)) (st 0) = some (.nx (st n)) := by
  obtain ⟨ρ', h1, h2⟩ := evFor_inv (ds0 := (List.range n).map fun (i : Nat) => PyData.int (i : Int)) (g := g) (body := body) (ks := ks) (fun i ρ => ρ = st i) (fun i d ρ hd hρ => by
    have hi : i < n := by
      have := (List.getElem?_eq_some_iff.mp hd).1
      simpa using this
    have ed : d = .int (i : Int) := by
      have := (List.getElem?_eq_some_iff.mp hd).2
      simpa using this.symm
    subst ed
    subst hρ
    exact ⟨_, h i hi, rfl⟩) _ 0 _ rfl rfl
  subst h2
  simpa using h1
/-- for x in xs: the states told by the number of turns -/
theorem evFor_lst {α : Type} {g : Gd} {body : Es} {ks : List Ix} (emb : α → D) (xs : List α) (st : Nat → Rho) (h : ∀ i x, xs[i]? = some x → stFor g body ks (emb x) (st i) = some (.nx (st (i + 1)))) :
    evFor g body ks (xs.map emb) (st 0) = some (.nx (st xs.length)) := by
  obtain ⟨ρ', h1, h2⟩ := evFor_inv (ds0 := xs.map emb) (g := g) (body := body) (ks := ks) (fun i ρ => ρ = st i) (fun i d ρ hd hρ => by
    rw [List.getElem?_map] at hd
    cases hx : xs[i]? with
    | none => rw [hx] at hd; cases hd
    | some x =>
      rw [hx] at hd
      cases hd
      subst hρ
      exact ⟨_, h i x hx, rfl⟩) _ 0 _ rfl rfl
  subst h2
  simpa using h1
/-- a state told by the items already walked -/
theorem evFor_pre {α : Type} {g : Gd} {body : Es} {ks : List Ix} (emb : α → D) (xs : List α) (st : List α → Rho) (h : ∀ pre x post, xs = pre ++ x :: post → stFor g body ks (emb x) (st pre) = some (.nx (st (pre ++ [x])))) :
    evFor g body ks (xs.map emb) (st []) = some (.nx (st xs)) := by
  have := evFor_lst (g := g) (body := body) (ks := ks) emb xs (fun i => st (xs.take i)) (fun i x hx => by
    obtain ⟨hl, e⟩ := List.getElem?_eq_some_iff.mp hx
    have e2 : xs = xs.take i ++ x :: xs.drop (i + 1) := by
      rw [← e, ← List.drop_eq_getElem_cons hl, List.take_append_drop]
    have e3 : xs.take (i + 1) = xs.take i ++ [x] := by
      rw [List.take_succ, hx]
      rfl
    show _ = some (Fl.nx (st (xs.take (i + 1))))
    rw [e3]
    exact h _ _ _ e2)
  simpa using this
@[simp] theorem rgD_zero (lo : Int) : rgD lo 0 = [] := rfl
theorem rgD_eq (lo : Int) (n : Nat) : rgD lo n = (List.range n).map fun i => PyData.int (lo + (i : Nat)) := rfl

@[simp] theorem kitB_int_int : kitB "int" "int" = some true := by decide +kernel
@[simp] theorem kitB_bool_bool : kitB "bool" "bool" = some true := by decide +kernel
@[simp] theorem kitB_int_bool : kitB "int" "bool" = some false := by decide +kernel
@[simp] theorem kitB_bool_int : kitB "bool" "int" = some true := by decide +kernel
@[simp] theorem kitB_tuple_tuple : kitB "tuple" "tuple" = some true := by decide +kernel
@[simp] theorem kitB_none_int : kitB "NoneType" "int" = some false := by decide +kernel
@[simp] theorem kitB_tuple_int : kitB "tuple" "int" = some false := by decide +kernel
@[simp] theorem kitB_none_tuple : kitB "NoneType" "tuple" = some false := by decide +kernel
@[simp] theorem intsOf_map' (is : List Int) : intsOf (is.map PyData.int) = some is := intsOf_ok is
@[simp] theorem intsOf_nil : intsOf [] = some [] := rfl
@[simp] theorem boolsOf_map' (is : List Bool) : boolsOf (is.map PyData.bool) = some is := by
  induction is with
  | nil => rfl
  | cons b bs ih => simp [boolsOf, ih]
theorem canLayAll0_iff : ∀ xs : List D, PyData.canLayAll0 xs = true ↔ ∀ x ∈ xs, PyData.canLay0 x = true
  | [] => by simp [PyData.canLayAll0]
  | x :: xs => by simp [PyData.canLayAll0, canLayAll0_iff xs]
theorem depthAll_le (n : Nat) : ∀ xs : List D, PyData.depthAll xs ≤ n ↔ ∀ x ∈ xs, PyData.depth x ≤ n
  | [] => by simp [PyData.depthAll]
  | x :: xs => by simp [PyData.depthAll, depthAll_le n xs, Nat.max_le]
theorem shaped_list_iff (xs : List D) : SeqAt.shaped (.list xs) = true ↔ ∀ x ∈ xs, PyData.canLay0 x = true ∧ PyData.depth x ≤ 63 := by
  have : PyData.depthAll xs + 1 ≤ 64 ↔ PyData.depthAll xs ≤ 63 := by omega
  simp only [SeqAt.shaped, PyData.canLay0, PyData.depth, Bool.and_eq_true, decide_eq_true_eq, canLayAll0_iff, this, depthAll_le]
  exact ⟨fun h x hx => ⟨h.1 x hx, h.2 x hx⟩, fun h => ⟨fun x hx => (h x hx).1, fun x hx => (h x hx).2⟩⟩
theorem shaped_tuple_iff (xs : List D) : SeqAt.shaped (.tuple xs) = true ↔ ∀ x ∈ xs, PyData.canLay0 x = true ∧ PyData.depth x ≤ 63 := by
  have : PyData.depthAll xs + 1 ≤ 64 ↔ PyData.depthAll xs ≤ 63 := by omega
  simp only [SeqAt.shaped, PyData.canLay0, PyData.depth, Bool.and_eq_true, decide_eq_true_eq, canLayAll0_iff, this, depthAll_le]
  exact ⟨fun h x hx => ⟨h.1 x hx, h.2 x hx⟩, fun h => ⟨fun x hx => (h x hx).1, fun x hx => (h x hx).2⟩⟩
/-- may be compared, of depth n at most -/
def shp (n : Nat) (d : D) : Prop := PyData.canLay0 d = true ∧ PyData.depth d ≤ n
theorem shp_int (n : Nat) (i : Int) : shp n (.int i) := ⟨rfl, by simp [PyData.depth]⟩
theorem shp_bool (n : Nat) (i : Bool) : shp n (.bool i) := ⟨rfl, by simp [PyData.depth]⟩
theorem shp_none (n : Nat) : shp n .none := ⟨rfl, by simp [PyData.depth]⟩
theorem shp_tuple {n : Nat} {xs : List D} (h : ∀ x ∈ xs, shp n x) : shp (n + 1) (.tuple xs) :=
  ⟨by rw [PyData.canLay0, canLayAll0_iff]; exact fun x hx => (h x hx).1, by rw [PyData.depth]; have := (depthAll_le n xs).mpr fun x hx => (h x hx).2; omega⟩
theorem shp_list {n : Nat} {xs : List D} (h : ∀ x ∈ xs, shp n x) : shp (n + 1) (.list xs) :=
  ⟨by rw [PyData.canLay0, canLayAll0_iff]; exact fun x hx => (h x hx).1, by rw [PyData.depth]; have := (depthAll_le n xs).mpr fun x hx => (h x hx).2; omega⟩
theorem shp.shaped {n : Nat} {d : D} (h : shp n d) (hn : n ≤ 64 := by decide) : SeqAt.shaped d = true := by
  unfold SeqAt.shaped
  simp only [Bool.and_eq_true, decide_eq_true_eq]
  exact ⟨h.1, Nat.le_trans h.2 hn⟩
theorem shp_row (n : Nat) (l : List Int) : shp (n + 1) (.tuple (l.map PyData.int)) := shp_tuple fun x hx => by
  obtain ⟨i, _, rfl⟩ := List.mem_map.mp hx
  exact shp_int n i
@[simp] theorem shaped_row (l : List Int) : SeqAt.shaped (.tuple (l.map PyData.int)) = true := (shp_row 0 l).shaped
@[simp] theorem shaped_row2 {α : Type} (f : α → Int) (l : List α) : SeqAt.shaped (.tuple (l.map fun x => PyData.int (f x))) = true := by
  have := shaped_row (l.map f)
  rw [List.map_map] at this
  exact this
@[simp] theorem shaped_lrow (l : List Int) : SeqAt.shaped (.list (l.map PyData.int)) = true := (shp_list fun x hx => by
  obtain ⟨i, _, rfl⟩ := List.mem_map.mp hx
  exact shp_int 0 i).shaped
@[simp] theorem shaped_lrow2 {α : Type} (f : α → Int) (l : List α) : SeqAt.shaped (.list (l.map fun x => PyData.int (f x))) = true := by
  have := shaped_lrow (l.map f)
  rw [List.map_map] at this
  exact this
@[simp] theorem shaped_nil : SeqAt.shaped (.list []) = true := shaped_lrow []
@[simp] theorem shaped_tnil : SeqAt.shaped (.tuple []) = true := shaped_row []
@[simp] theorem shaped_lcons_int (i : Int) {α : Type} (f : α → Int) (l : List α) : SeqAt.shaped (.list (PyData.int i :: l.map fun x => PyData.int (f x))) = true := by
  have := shaped_lrow (i :: l.map f)
  rw [List.map_cons, List.map_map] at this
  exact this
theorem eqvAll_ints : ∀ a b : List Int, PyData.eqvAll (a.map PyData.int) (b.map PyData.int) = decide (a = b)
  | [], [] => by simp
  | [], _ :: _ => by simp
  | _ :: _, [] => by simp
  | x :: a, y :: b => by
    simp [eqvAll_ints a b]
theorem small62_nat {n : Nat} (h : n ≤ 1000000) : small62 (n : Int) = true := by
  unfold small62
  rw [decide_eq_true_eq]
  omega
theorem small62_int {n : Int} (h : -1000000 ≤ n) (h2 : n ≤ 1000000) : small62 n = true := by
  unfold small62
  rw [decide_eq_true_eq]
  omega
theorem mxL_ge {n : Nat} (h : n ≤ 16000000) : n ≤ mxL := Nat.le_trans h (by decide)
@[simp] theorem one_le_mxL : 1 ≤ mxL := by decide
@[simp] theorem two_le_mxL : 2 ≤ mxL := by decide
@[simp] theorem three_le_mxL : 3 ≤ mxL := by decide
@[simp] theorem four_le_mxL : 4 ≤ mxL := by decide
theorem valsOf_app {α : Type} (f : α → D) (rest : List AV) : ∀ l : List α, valsOf (l.map (fun x => AV.val (f x)) ++ rest) = match valsOf rest with
    | some ds => some (l.map f ++ ds)
    | none => none
  | [] => by
    cases h : valsOf rest <;> simp [h]
  | x :: l => by
    rw [List.map_cons, List.cons_append]
    show (match valsOf (l.map (fun x => AV.val (f x)) ++ rest) with
      | some ds => some (f x :: ds)
      | none => none) = _
    rw [valsOf_app f rest l]
    cases valsOf rest <;> rfl
@[simp] theorem valsOf_map (l : List D) (rest : List AV) : valsOf (l.map AV.val ++ rest) = match valsOf rest with
    | some ds => some (l ++ ds)
    | none => none := by
  have := valsOf_app id rest l
  simpa using this
@[simp] theorem valsOf_mapc {α : Type} (f : α → D) (l : List α) (rest : List AV) : valsOf (l.map (AV.val ∘ f) ++ rest) = match valsOf rest with
    | some ds => some (l.map f ++ ds)
    | none => none := valsOf_app f rest l
@[simp] theorem valsOf_mapc1 {α : Type} (f : α → D) (l : List α) : valsOf (l.map (AV.val ∘ f)) = some (l.map f) := by
  have := valsOf_app f [] l
  rw [List.append_nil] at this
  simp only [valsOf, List.append_nil] at this
  exact this
@[simp] theorem valsOf_map1 (l : List D) : valsOf (l.map AV.val) = some l := by
  have := valsOf_app id [] l
  simpa using this
@[simp] theorem eIndex_ap (ea ev : Ev) (ρ : Rho) : eIndex ea ev ρ = (match eNorm ea ρ with
  | some (av, r) => (match peekR av r with
    | some (.list _) => (match eVal ev r with
      | some (.val d, r2) => (match peekR av r2 with
        | some (.list ds) => if SeqAt.shaped (.list ds) = true ∧ SeqAt.shaped d = true then (match ds.findIdx? fun z => PyData.eqv z d with
          | some j => some (.val (.int (j : Nat)), r2)
          | none => none) else none
        | _ => none)
      | _ => none)
    | _ => none)
  | none => none) := Eq.trans rfl rfl
@[simp] theorem dMinX_ii (i j : Int) : dMinX [.int i, .int j] = some (.val (.int (if j < i then j else i))) := rfl
@[simp] theorem dMaxX_ii (i j : Int) : dMaxX [.int i, .int j] = some (.val (.int (if j > i then j else i))) := rfl
@[simp] theorem dIn_l (d : D) (ds : List D) : dIn d (.list ds) = if SeqAt.shaped d = true ∧ SeqAt.shaped (.list ds) = true then some (.val (.bool (ds.any fun z => PyData.eqv z d))) else none := Eq.trans rfl rfl
@[simp] theorem dNotIn_l (d : D) (ds : List D) : dNotIn d (.list ds) = if SeqAt.shaped d = true ∧ SeqAt.shaped (.list ds) = true then some (.val (.bool (!ds.any fun z => PyData.eqv z d))) else none := Eq.trans rfl rfl
theorem evComp_mapT {α : Type} {g : Gd} {tt : Et} {ee : Ev} {own : List Ix} {ρ : Rho} (emb f : α → D) (xs : List α) (h : ∀ x ∈ xs, stComp g tt ee own (emb x) ρ = some (some (f x), ρ)) : evComp g tt ee own (xs.map emb) ρ = some (xs.map f, ρ) := by
  rw [evComp_map emb (fun x => some (f x)) xs h]
  simp
theorem evComp_filt {α : Type} {g : Gd} {tt : Et} {ee : Ev} {own : List Ix} {ρ : Rho} (emb f : α → D) (p : α → Bool) (xs : List α) (h : ∀ x ∈ xs, stComp g tt ee own (emb x) ρ = some (if p x = true then some (f x) else none, ρ)) : evComp g tt ee own (xs.map emb) ρ = some ((xs.filter p).map f, ρ) := by
  rw [evComp_map emb (fun x => if p x = true then some (f x) else none) xs h]
  congr 2
  clear h
  induction xs with
  | nil => rfl
  | cons x xs ih =>
    by_cases q : p x = true
    · simp [q, ih]
    · simp [q, ih]
@[simp] theorem boolsOf_mapf {α : Type} (p : α → Bool) (xs : List α) : boolsOf (xs.map fun x => PyData.bool (p x)) = some (xs.map p) := by
  induction xs with
  | nil => rfl
  | cons b bs ih => simp [boolsOf, ih]
@[simp] theorem intsOf_mapf {α : Type} (p : α → Int) (xs : List α) : intsOf (xs.map fun x => PyData.int (p x)) = some (xs.map p) := by
  induction xs with
  | nil => rfl
  | cons b bs ih => simp [intsOf, ih]
theorem cutD_to1 (ds : List D) (k : Nat) : cutD ds none (some ((k : Int) + 1)) = ds.take (k + 1) := cutD_to ds (k + 1)
/-- comprehensions of two walks -/
def stComp2 (g : Gd) (tt : Et) (ei1 : Ei) (g1 : Gd) (tt1 : Et) (ee : Ev) (own own1 : List Ix) (d : D) (ρ : Rho) : Option (List D × Rho) := match g d ρ with
    | none => none
    | some r1 => match tt r1 with
      | none => none
      | some (c, r2) => if c = true then (match ei1 r2 with
        | none => none
        | some (ds1, r3) => match evComp g1 tt1 ee own1 ds1 (killAll own1 r3) with
          | none => none
          | some (xs, r4) => some (xs, killAll own r4)) else some ([], killAll own r2)
theorem evComp2_cons (g : Gd) (tt : Et) (ei1 : Ei) (g1 : Gd) (tt1 : Et) (ee : Ev) (own own1 : List Ix) (d : D) (ds : List D) (ρ : Rho) : evComp2 g tt ei1 g1 tt1 ee own own1 (d :: ds) ρ = match stComp2 g tt ei1 g1 tt1 ee own own1 d ρ with
    | none => none
    | some (xs, r) => match evComp2 g tt ei1 g1 tt1 ee own own1 ds r with
      | some (ys, r2) => some (xs ++ ys, r2)
      | none => none := by
  unfold stComp2
  rw [evComp2]
  cases g d ρ with
  | none => rfl
  | some r1 =>
    simp only
    rcases tt r1 with _ | ⟨c, r2⟩
    · rfl
    · cases c with
      | false =>
        simp only [Bool.false_eq_true, if_false]
        rcases evComp2 g tt ei1 g1 tt1 ee own own1 ds (killAll own r2) with _ | ⟨ys, r4⟩ <;> rfl
      | true =>
        simp only [if_true]
        rcases ei1 r2 with _ | ⟨ds1, r3⟩
        · rfl
        · simp only
          rcases evComp g1 tt1 ee own1 ds1 (killAll own1 r3) with _ | ⟨xs, r4⟩
          · rfl
          · rfl
@[simp] theorem evComp2_nil (g : Gd) (tt : Et) (ei1 : Ei) (g1 : Gd) (tt1 : Et) (ee : Ev) (own own1 : List Ix) (ρ : Rho) : evComp2 g tt ei1 g1 tt1 ee own own1 [] ρ = some ([], ρ) := rfl
theorem evComp2_map {α : Type} {g : Gd} {tt : Et} {ei1 : Ei} {g1 : Gd} {tt1 : Et} {ee : Ev} {own own1 : List Ix} {ρ : Rho} (emb : α → D) (φ : α → List D) : ∀ (xs : List α), (∀ x ∈ xs, stComp2 g tt ei1 g1 tt1 ee own own1 (emb x) ρ = some (φ x, ρ)) →
    evComp2 g tt ei1 g1 tt1 ee own own1 (xs.map emb) ρ = some (xs.flatMap φ, ρ)
  | [], _ => rfl
  | x :: xs, h => by
    rw [List.map_cons, evComp2_cons, h x List.mem_cons_self]
    simp only
    rw [evComp2_map emb φ xs fun y hy => h y (List.mem_cons_of_mem _ hy)]
    rfl
@[simp] theorem eComp2_ap (ei : Ei) (g : Gd) (tt : Et) (ei1 : Ei) (g1 : Gd) (tt1 : Et) (ee : Ev) (own own1 : List Ix) (ρ : Rho) : eComp2 ei g tt ei1 g1 tt1 ee own own1 ρ = (match ei ρ with
  | some (ds, r) => (match evComp2 g tt ei1 g1 tt1 ee own own1 ds (killAll own r) with
    | some (ys, r2) => if ys.length ≤ mxL then some (.new ys, restore own r r2) else none
    | none => none)
  | none => none) := rfl

/-! ### what repr may be asked of -/
structure Rp (k n : Nat) (d : D) : Prop where
  sh : d.showable = true
  nd : d.hasDict = false
  dp : d.depth ≤ k
  lv : d.leavesShort 20 = true
  bk : d.bulk ≤ n
theorem Rp.mono {k n k' n' : Nat} {d : D} (h : Rp k n d) (hk : k ≤ k') (hn : n ≤ n') : Rp k' n' d := ⟨h.sh, h.nd, Nat.le_trans h.dp hk, h.lv, Nat.le_trans h.bk hn⟩
theorem rp_int {i : Int} (h : i.natAbs < 10 ^ 18) : Rp 0 0 (.int i) := by
  have h1 : i.natAbs.log2 < 1920 := by
    by_cases z : i.natAbs = 0
    · rw [z]; decide
    · rw [Nat.log2_lt z]
      exact Nat.lt_of_lt_of_le h (Nat.le_trans (show 10 ^ 18 ≤ 2 ^ 64 by decide) (Nat.pow_le_pow_right (by decide) (by decide)))
  refine ⟨by simp [PyData.showable, h1], by simp [PyData.hasDict], by simp [PyData.depth], ?_, by simp [PyData.bulk]⟩
  simp only [PyData.leavesShort, decide_eq_true_eq]
  have h2 := int_text_length_le10 (a := i) (k := 18) (by decide) h
  have h3 : (PyData.shown (.int i)).length = (toString i).length := by
    simp only [PyData.shown]
    exact PySem.ofString_length _
  omega
theorem rp_bool (b : Bool) : Rp 0 0 (.bool b) := ⟨by simp [PyData.showable], by simp [PyData.hasDict], by simp [PyData.depth], by simp [PyData.leavesShort], by simp [PyData.bulk]⟩
theorem rp_none : Rp 0 0 .none := ⟨by simp [PyData.showable], by simp [PyData.hasDict], by simp [PyData.depth], by simp [PyData.leavesShort], by simp [PyData.bulk]⟩
theorem rp_all {k n : Nat} : ∀ {xs : List D}, (∀ x ∈ xs, Rp k n x) → PyData.showableAll xs = true ∧ PyData.hasDictAll xs = false ∧ PyData.depthAll xs ≤ k ∧ PyData.leavesShortAll 20 xs = true ∧ PyData.bulkAll xs ≤ xs.length * (n + 1)
  | [], _ => by simp [PyData.showableAll, PyData.hasDictAll, PyData.depthAll, PyData.leavesShortAll, PyData.bulkAll]
  | x :: xs, h => by
    obtain ⟨a1, a2, a3, a4, a5⟩ := rp_all fun y hy => h y (List.mem_cons_of_mem _ hy)
    obtain ⟨b1, b2, b3, b4, b5⟩ := h x List.mem_cons_self
    refine ⟨by simp [PyData.showableAll, a1, b1], by simp [PyData.hasDictAll, a2, b2], by simp [PyData.depthAll]; omega, by simp [PyData.leavesShortAll, a4, b4], ?_⟩
    simp only [PyData.bulkAll, List.length_cons, Nat.add_mul]
    omega
theorem rp_list {k n : Nat} {xs : List D} (h : ∀ x ∈ xs, Rp k n x) : Rp (k + 1) (xs.length * (n + 1)) (.list xs) := by
  obtain ⟨a1, a2, a3, a4, a5⟩ := rp_all h
  exact ⟨by simp [PyData.showable, a1], by simp [PyData.hasDict, a2], by simp [PyData.depth]; omega, by simp [PyData.leavesShort, a4], by simp only [PyData.bulk]; exact a5⟩
theorem rp_tuple {k n : Nat} {xs : List D} (h : ∀ x ∈ xs, Rp k n x) : Rp (k + 1) (xs.length * (n + 1)) (.tuple xs) := by
  obtain ⟨a1, a2, a3, a4, a5⟩ := rp_all h
  exact ⟨by simp [PyData.showable, a1], by simp [PyData.hasDict, a2], by simp [PyData.depth]; omega, by simp [PyData.leavesShort, a4], by simp only [PyData.bulk]; exact a5⟩
theorem Rp.ok {k n : Nat} {d : D} (h : Rp k n d) (hk : k ≤ 64) (hn : n ≤ 700000) : reprOk d = true := by
  unfold reprOk
  have h1 := PyData.shown_le_bulk 20 (by decide) d h.lv
  have h2 := h.bk
  have h3 := h.dp
  have h4 : d.shown.length ≤ mxL := mxL_ge (by omega)
  simp [h.sh, h.nd, h4]
  omega
end PV
set_option Elab.async false
set_option linter.all false
set_option autoImplicit false
set_option maxRecDepth 100000
set_option maxHeartbeats 4000000
/-! the evaluators of countedstays_k69_whole_crowds, printed by gen.py -/
namespace L_k69
open PySem PySem.Spec PyProof.Rows L2 PV
def e__law_bag : Es :=
  (sSeq (sSet (.s (.s .z)) (eBin dAdd (eK (.int 52027)) (eBin dMul (eK (.int 8009)) (eVar (.s .z)))))
  (sSeq (sFor (eIter (eSl (eVar .z) none (some (eK (.int 16))))) (gN (.s (.s (.s .z))))
  (sSet (.s (.s .z)) (eBin dMod (eCall dInt (aCons (eBin dAdd (eBin dAdd (eBin dMul (eVar (.s (.s .z))) (eK (.int 48271))) (eBin dMod (eCall dInt (aCons (eVar (.s (.s (.s .z)))) aNil)) (eK (.int 2147483629)))) (eK (.int 23))) aNil)) (eK (.int 2147483647)))) [(.s (.s (.s .z)))])
  (sSeq (sSet (.s (.s (.s (.s .z)))) (eIf (eT (eBin dLt (eVar (.s .z)) (eCall dLen (aCons (eVar .z) aNil)))) (eCall dInt (aCons (eIx (eVar .z) (eVar (.s .z))) aNil)) (eK (.int 0))))
  (sSeq (sSet (.s (.s .z)) (eBin dMod (eCall dInt (aCons (eBin dAdd (eBin dAdd (eBin dMul (eVar (.s (.s .z))) (eK (.int 31))) (eBin dMul (eBin dMod (eCall dInt (aCons (eVar (.s (.s (.s (.s .z))))) aNil)) (eK (.int 2147483629))) (eK (.int 17)))) (eK (.int 3))) aNil)) (eK (.int 2147483647))))
  (sRet (eLst (aCons (eIf (etOr (eT (eBin dLt (eVar (.s (.s (.s (.s .z))))) (eK (.int 0)))) (eT (eBin dGe (eVar (.s (.s (.s (.s .z))))) (eBin dPow (eK (.int 10)) (eK (.int 15)))))) (eCall dAbs (aCons (eVar (.s (.s (.s (.s .z))))) aNil)) (eK (.int 0))) (aCons (eVar (.s (.s .z))) (aCons (eK (.int 0)) aNil)))))))))
def m__law_bag : Fm := mkF 2 5 e__law_bag
def e__law_is_right : Es :=
  (sSeq (sSet (.s .z) (eK (.int 0)))
  (sSeq (sFor (eZip (aCons (eIx (eVar .z) (eK (.int 0))) (aCons (eIx (eVar .z) (eK (.int 1))) aNil))) (gT 2 (gsCons (gN (.s (.s .z))) (gsCons (gN (.s (.s (.s .z)))) gsNil)))
  (sSeq (sIf (eT (eBin dGt (eVar (.s (.s (.s .z)))) (eVar (.s .z))))
  (sRet (eK (.bool false)))
  sNil)
  (sSet (.s .z) (eBin dAdd (eBin dSub (eVar (.s .z)) (eVar (.s (.s (.s .z))))) (eVar (.s (.s .z)))))) [(.s (.s .z)), (.s (.s (.s .z)))])
  (sRet (eBin dEq (eVar (.s .z)) (eK (.int 0))))))
def m__law_is_right : Fm := mkF 1 4 e__law_is_right
def e__law_rest : Es :=
  (sRet (eCall dTuple (aCons (eComp (eZip (aCons (eVar .z) (aCons (eVar (.s .z)) aNil))) (gT 2 (gsCons (gN (.s (.s .z))) (gsCons (gN (.s (.s (.s .z)))) gsNil))) etYes (eCall dTuple (aCons (eComp (eZip (aCons (eVar (.s (.s .z))) (aCons (eVar (.s (.s (.s .z)))) aNil))) (gT 2 (gsCons (gN (.s (.s (.s (.s .z))))) (gsCons (gN (.s (.s (.s (.s (.s .z)))))) gsNil))) etYes (eBin dSub (eVar (.s (.s (.s (.s .z))))) (eVar (.s (.s (.s (.s (.s .z))))))) [(.s (.s (.s (.s .z)))), (.s (.s (.s (.s (.s .z)))))]) aNil)) [(.s (.s .z)), (.s (.s (.s .z)))]) aNil)))
def m__law_rest : Fm := mkF 2 6 e__law_rest
def e__law_parts : Es :=
  (sSeq (sSet (.s .z) (eLst (aCons (eTup aNil) aNil)))
  (sSeq (sFor (eIter (eBin dAdd (eIx (eVar .z) (eK (.int 0))) (eIx (eVar .z) (eK (.int 1))))) (gN (.s (.s .z)))
  (sSeq (sSet (.s (.s (.s .z))) (eLst aNil))
  (sSeq (sFor (eIter (eVar (.s .z))) (gN (.s (.s (.s (.s .z)))))
  (sSet (.s (.s (.s .z))) (eBin dAdd (eVar (.s (.s (.s .z)))) (eComp (eRange1 (aCons (eBin dAdd (eVar (.s (.s .z))) (eK (.int 1))) aNil)) (gN (.s (.s (.s (.s (.s (.s (.s (.s .z))))))))) etYes (eBin dAdd (eVar (.s (.s (.s (.s .z))))) (eTup (aCons (eVar (.s (.s (.s (.s (.s (.s (.s (.s .z))))))))) aNil))) [(.s (.s (.s (.s (.s (.s (.s (.s .z))))))))]))) [(.s (.s (.s (.s .z))))])
  (sSet (.s .z) (eVar (.s (.s (.s .z))))))) [(.s (.s .z)), (.s (.s (.s .z))), (.s (.s (.s (.s .z))))])
  (sSeq (sPar (.s (.s (.s (.s (.s .z))))) (.s (.s (.s (.s (.s (.s .z)))))) false true (eCall dLen (aCons (eIx (eVar .z) (eK (.int 0))) aNil)) (eLst aNil))
  (sSeq (sFor (eIter (eVar (.s .z))) (gN (.s (.s (.s (.s .z)))))
  (sSeq (sSet (.s (.s (.s (.s (.s (.s (.s .z))))))) (eTup (aCons (eSl (eVar (.s (.s (.s (.s .z))))) none (some (eVar (.s (.s (.s (.s (.s .z)))))))) (aCons (eSl (eVar (.s (.s (.s (.s .z))))) (some (eVar (.s (.s (.s (.s (.s .z))))))) none) aNil))))
  (sIf (etAnd (eT (eUser m__law_is_right (aCons (eVar (.s (.s (.s (.s (.s (.s (.s .z)))))))) aNil))) (eT (eUser m__law_is_right (aCons (eUser m__law_rest (aCons (eVar .z) (aCons (eVar (.s (.s (.s (.s (.s (.s (.s .z)))))))) aNil))) aNil))))
  (sExpr (eAppend (.s (.s (.s (.s (.s (.s .z)))))) (eVar (.s (.s (.s (.s (.s (.s (.s .z))))))))))
  sNil)) [(.s (.s (.s (.s .z)))), (.s (.s (.s (.s (.s (.s (.s .z)))))))])
  (sRet (eCall dSorted (aCons (eVar (.s (.s (.s (.s (.s (.s .z))))))) aNil)))))))
def m__law_parts : Fm := mkF 1 9 e__law_parts
def e__law_take : Es :=
  (sSeq (sIf (eT (eBin dGt (eIx (eVar .z) (eK (.int 0))) (eK (.int 0))))
  (sSeq (sAsg (eCall dDivmod (aCons (eIx (eVar .z) (eK (.int 0))) (aCons (eVar (.s .z)) aNil))) (gT 2 (gsCons (gI .z (eK (.int 0))) (gsCons (gN (.s (.s .z))) gsNil))))
  (sRet (eVar (.s (.s .z)))))
  sNil)
  (sSeq (sAsg (eBin dAdd (eIx (eVar .z) (eK (.int 2))) (eK (.int 1))) (gI .z (eK (.int 2))))
  (sSeq (sAsg (eBin dMod (eCall dInt (aCons (eBin dAdd (eBin dAdd (eBin dMul (eIx (eVar .z) (eK (.int 1))) (eK (.int 16807))) (eBin dMul (eK (.int 4099)) (eIx (eVar .z) (eK (.int 2))))) (eK (.int 1))) aNil)) (eK (.int 2147483647))) (gI .z (eK (.int 1))))
  (sRet (eBin dMod (eCall dInt (aCons (eBin dFdiv (eIx (eVar .z) (eK (.int 1))) (eK (.int 911))) aNil)) (eVar (.s .z)))))))
def m__law_take : Fm := mkF 2 3 e__law_take
def e__law_day : Es :=
  (sSeq (sSet (.s (.s (.s .z))) (eBin dAdd (eK (.int 2)) (eUser m__law_take (aCons (eVar .z) (aCons (eBin dSub (eVar (.s .z)) (eK (.int 1))) aNil)))))
  (sSeq (sPar (.s (.s (.s (.s .z)))) (.s (.s (.s (.s (.s .z))))) true true (eBin dMul (eLst (aCons (eK (.int 0)) aNil)) (eVar (.s (.s (.s .z))))) (eBin dMul (eLst (aCons (eK (.int 0)) aNil)) (eVar (.s (.s (.s .z))))))
  (sSeq (sFor (eRange1 (aCons (eBin dAdd (eK (.int 1)) (eUser m__law_take (aCons (eVar .z) (aCons (eVar (.s (.s .z))) aNil)))) aNil)) (gN (.s (.s (.s (.s (.s (.s .z)))))))
  (sSeq (sSet (.s (.s (.s (.s (.s (.s (.s .z))))))) (eUser m__law_take (aCons (eVar .z) (aCons (eBin dSub (eVar (.s (.s (.s .z)))) (eK (.int 1))) aNil))))
  (sSeq (sSet (.s (.s (.s (.s (.s (.s (.s (.s .z)))))))) (eBin dAdd (eBin dAdd (eVar (.s (.s (.s (.s (.s (.s (.s .z)))))))) (eK (.int 1))) (eUser m__law_take (aCons (eVar .z) (aCons (eBin dSub (eBin dSub (eVar (.s (.s (.s .z)))) (eK (.int 1))) (eVar (.s (.s (.s (.s (.s (.s (.s .z))))))))) aNil)))))
  (sAsg (eTup (aCons (eBin dAdd (eIx (eVar (.s (.s (.s (.s .z))))) (eVar (.s (.s (.s (.s (.s (.s (.s .z))))))))) (eK (.int 1))) (aCons (eBin dAdd (eIx (eVar (.s (.s (.s (.s (.s .z)))))) (eVar (.s (.s (.s (.s (.s (.s (.s (.s .z)))))))))) (eK (.int 1))) aNil))) (gT 2 (gsCons (gI (.s (.s (.s (.s .z)))) (eVar (.s (.s (.s (.s (.s (.s (.s .z))))))))) (gsCons (gI (.s (.s (.s (.s (.s .z))))) (eVar (.s (.s (.s (.s (.s (.s (.s (.s .z)))))))))) gsNil)))))) [(.s (.s (.s (.s (.s (.s .z)))))), (.s (.s (.s (.s (.s (.s (.s .z))))))), (.s (.s (.s (.s (.s (.s (.s (.s .z))))))))])
  (sRet (eTup (aCons (eCall dTuple (aCons (eVar (.s (.s (.s (.s .z))))) aNil)) (aCons (eCall dTuple (aCons (eVar (.s (.s (.s (.s (.s .z)))))) aNil)) aNil)))))))
def m__law_day : Fm := mkF 3 9 e__law_day
def e__law_present : Es :=
  (sSeq (sPar (.s .z) (.s (.s .z)) true false (eLst aNil) (eK (.int 0)))
  (sSeq (sFor (eZip (aCons (eIx (eVar .z) (eK (.int 0))) (aCons (eIx (eVar .z) (eK (.int 1))) aNil))) (gT 2 (gsCons (gN (.s (.s (.s .z)))) (gsCons (gN (.s (.s (.s (.s .z))))) gsNil)))
  (sSeq (sSet (.s (.s .z)) (eBin dAdd (eBin dSub (eVar (.s (.s .z))) (eVar (.s (.s (.s (.s .z)))))) (eVar (.s (.s (.s .z))))))
  (sExpr (eAppend (.s .z) (eVar (.s (.s .z)))))) [(.s (.s (.s .z))), (.s (.s (.s (.s .z))))])
  (sRet (eCall dTuple (aCons (eVar (.s .z)) aNil)))))
def m__law_present : Fm := mkF 1 5 e__law_present
def e__law_crowd : Es :=
  (sRet (eCall dMaxX (aCons (eBin dAdd (eUser m__law_present (aCons (eVar (.s .z)) aNil)) (eUser m__law_present (aCons (eUser m__law_rest (aCons (eVar .z) (aCons (eVar (.s .z)) aNil))) aNil))) aNil)))
def m__law_crowd : Fm := mkF 2 2 e__law_crowd
def e__law_uneven : Es :=
  (sRet (eCall dSum (aCons (eComp (eZip (aCons (eUser m__law_present (aCons (eVar (.s .z)) aNil)) (aCons (eUser m__law_present (aCons (eUser m__law_rest (aCons (eVar .z) (aCons (eVar (.s .z)) aNil))) aNil)) aNil))) (gT 2 (gsCons (gN (.s (.s .z))) (gsCons (gN (.s (.s (.s .z)))) gsNil))) etYes (eCall dAbs (aCons (eBin dSub (eVar (.s (.s .z))) (eVar (.s (.s (.s .z))))) aNil)) [(.s (.s .z)), (.s (.s (.s .z)))]) aNil)))
def m__law_uneven : Fm := mkF 2 4 e__law_uneven
def e_is_tuple_of : Es :=
  (sRet (eAnd (eIsi "tuple" (eVar .z)) (eBin dEq (eCall dLen (aCons (eVar .z) aNil)) (eVar (.s .z)))))
def m_is_tuple_of : Fm := mkF 2 2 e_is_tuple_of
def e_is_row : Es :=
  (sRet (eAnd (eIsi "tuple" (eVar .z)) (eChain dLe dLe (eVar (.s .z)) (eCall dLen (aCons (eVar .z) aNil)) (eVar (.s (.s .z))))))
def m_is_row : Fm := mkF 3 3 e_is_row
def e_is_whole : Es :=
  (sRet (eAnd (eIsi "int" (eVar .z)) (eNot (eIsi "bool" (eVar .z)))))
def m_is_whole : Fm := mkF 1 1 e_is_whole
def e_is_between : Es :=
  (sRet (eAnd (eUser m_is_whole (aCons (eVar .z) aNil)) (eChain dLe dLe (eVar (.s .z)) (eVar .z) (eVar (.s (.s .z))))))
def m_is_between : Fm := mkF 3 3 e_is_between
def e_are_counts : Es :=
  (sSeq (sIf (etOr (etNot (eT (eUser m_is_row (aCons (eVar .z) (aCons (eK (.int 1)) (aCons (eK (.int 6)) aNil)))))) (etNot (eT (eCall dAll (aCons (eComp (eIter (eVar .z)) (gN (.s .z)) etYes (eUser m_is_between (aCons (eVar (.s .z)) (aCons (eK (.int 0)) (aCons (eK (.int 7)) aNil)))) [(.s .z)]) aNil)))))
  (sRet (eK (.bool false)))
  sNil)
  (sRet (eBin dLe (eCall dSum (aCons (eVar .z) aNil)) (eK (.int 7)))))
def m_are_counts : Fm := mkF 1 2 e_are_counts
def e_is_any_day : Es :=
  (sRet (eAnd (eUser m_is_tuple_of (aCons (eVar .z) (aCons (eK (.int 2)) aNil))) (eAnd (eCall dAll (aCons (eComp (eIter (eVar .z)) (gN (.s .z)) etYes (eUser m_are_counts (aCons (eVar (.s .z)) aNil)) [(.s .z)]) aNil)) (eBin dEq (eCall dLen (aCons (eIx (eVar .z) (eK (.int 0))) aNil)) (eCall dLen (aCons (eIx (eVar .z) (eK (.int 1))) aNil))))))
def m_is_any_day : Fm := mkF 1 2 e_is_any_day
def e_have_one_sum : Es :=
  (sRet (eBin dEq (eCall dSum (aCons (eIx (eVar .z) (eK (.int 0))) aNil)) (eCall dSum (aCons (eIx (eVar .z) (eK (.int 1))) aNil))))
def m_have_one_sum : Fm := mkF 1 1 e_have_one_sum
def e_there_by : Es :=
  (sRet (eBin dSub (eCall dSum (aCons (eSl (eIx (eVar .z) (eK (.int 0))) none (some (eVar (.s .z)))) aNil)) (eCall dSum (aCons (eSl (eIx (eVar .z) (eK (.int 1))) none (some (eBin dAdd (eVar (.s .z)) (eK (.int 1))))) aNil))))
def m_there_by : Fm := mkF 2 2 e_there_by
def e_goes_too_many : Es :=
  (sRet (eBin dLt (eUser m_there_by (aCons (eVar .z) (aCons (eVar (.s .z)) aNil))) (eK (.int 0))))
def m_goes_too_many : Fm := mkF 2 2 e_goes_too_many
def e_ticks_of : Es :=
  (sRet (eCall dLen (aCons (eIx (eVar .z) (eK (.int 0))) aNil)))
def m_ticks_of : Fm := mkF 1 1 e_ticks_of
def e_bar_by : Es :=
  (sSeq (sSet (.s .z) (eComp (eRange1 (aCons (eUser m_ticks_of (aCons (eVar .z) aNil)) aNil)) (gN (.s (.s .z))) (eT (eUser m_goes_too_many (aCons (eVar .z) (aCons (eVar (.s (.s .z))) aNil)))) (eVar (.s (.s .z))) [(.s (.s .z))]))
  (sRet (eIf (eT (eBin dNe (eVar (.s .z)) (eLst aNil))) (eIx (eVar (.s .z)) (eK (.int 0))) (eK .none))))
def m_bar_by : Fm := mkF 1 3 e_bar_by
def e_is_right_by : Es :=
  (sRet (eAnd (eUser m_have_one_sum (aCons (eVar .z) aNil)) (eBin dIs (eUser m_bar_by (aCons (eVar .z) aNil)) (eK .none))))
def m_is_right_by : Fm := mkF 1 1 e_is_right_by
def e_people_of : Es :=
  (sRet (eCall dSum (aCons (eIx (eVar .z) (eK (.int 0))) aNil)))
def m_people_of : Fm := mkF 1 1 e_people_of
def e_is_day : Es :=
  (sRet (eAnd (eUser m_is_any_day (aCons (eVar .z) aNil)) (eAnd (eUser m_is_right_by (aCons (eVar .z) aNil)) (eBin dGt (eUser m_people_of (aCons (eVar .z) aNil)) (eK (.int 0))))))
def m_is_day : Fm := mkF 1 1 e_is_day
def e_check_day : Es :=
  (sIf (etNot (eT (eUser m_is_day (aCons (eVar .z) aNil))))
  (fun _ => none)
  sNil)
def m_check_day : Fm := mkF 1 1 e_check_day
def e_present_by : Es :=
  (sRet (eCall dTuple (aCons (eComp (eRange1 (aCons (eUser m_ticks_of (aCons (eVar .z) aNil)) aNil)) (gN (.s .z)) etYes (eBin dAdd (eUser m_there_by (aCons (eVar .z) (aCons (eVar (.s .z)) aNil))) (eIx (eIx (eVar .z) (eK (.int 0))) (eVar (.s .z)))) [(.s .z)]) aNil)))
def m_present_by : Fm := mkF 1 2 e_present_by
def e_rest_of : Es :=
  (sSeq (sSet (.s (.s .z)) (eComp (eZip (aCons (eVar .z) (aCons (eVar (.s .z)) aNil))) (gT 2 (gsCons (gN (.s (.s (.s .z)))) (gsCons (gN (.s (.s (.s (.s .z))))) gsNil))) etYes (eCall dTuple (aCons (eComp (eZip (aCons (eVar (.s (.s (.s .z)))) (aCons (eVar (.s (.s (.s (.s .z))))) aNil))) (gT 2 (gsCons (gN (.s (.s (.s (.s (.s .z)))))) (gsCons (gN (.s (.s (.s (.s (.s (.s .z))))))) gsNil))) etYes (eBin dSub (eVar (.s (.s (.s (.s (.s .z)))))) (eVar (.s (.s (.s (.s (.s (.s .z)))))))) [(.s (.s (.s (.s (.s .z))))), (.s (.s (.s (.s (.s (.s .z))))))]) aNil)) [(.s (.s (.s .z))), (.s (.s (.s (.s .z))))]))
  (sRet (eTup (aCons (eIx (eVar (.s (.s .z))) (eK (.int 0))) (aCons (eIx (eVar (.s (.s .z))) (eK (.int 1))) aNil)))))
def m_rest_of : Fm := mkF 2 7 e_rest_of
def e_crowd_by : Es :=
  (sRet (eCall dMaxX (aCons (eLst (aStar (eUser m_present_by (aCons (eVar (.s .z)) aNil)) (aStar (eUser m_present_by (aCons (eUser m_rest_of (aCons (eVar .z) (aCons (eVar (.s .z)) aNil))) aNil)) aNil))) aNil)))
def m_crowd_by : Fm := mkF 2 2 e_crowd_by
def e_rows_below : Es :=
  (sSeq (sSet (.s .z) (eLst (aCons (eTup aNil) aNil)))
  (sSeq (sFor (eIter (eVar .z)) (gN (.s (.s .z)))
  (sSet (.s .z) (eComp2 (eIter (eVar (.s .z))) (gN (.s (.s (.s .z)))) etYes (eRange1 (aCons (eBin dAdd (eVar (.s (.s .z))) (eK (.int 1))) aNil)) (gN (.s (.s (.s (.s .z))))) etYes (eTup (aStar (eVar (.s (.s (.s .z)))) (aCons (eVar (.s (.s (.s (.s .z))))) aNil))) [(.s (.s (.s .z))), (.s (.s (.s (.s .z))))] [(.s (.s (.s (.s .z))))])) [(.s (.s .z))])
  (sRet (eVar (.s .z)))))
def m_rows_below : Fm := mkF 1 5 e_rows_below
def e_is_part_by : Es :=
  (sRet (eAnd (eUser m_is_right_by (aCons (eVar (.s .z)) aNil)) (eUser m_is_right_by (aCons (eUser m_rest_of (aCons (eVar .z) (aCons (eVar (.s .z)) aNil))) aNil))))
def m_is_part_by : Fm := mkF 2 2 e_is_part_by
def e_parts_by : Es :=
  (sSeq (sSet (.s .z) (eUser m_rows_below (aCons (eIx (eVar .z) (eK (.int 1))) aNil)))
  (sSeq (sSetM (.s (.s .z)) (eLst aNil))
  (sSeq (sFor (eIter (eUser m_rows_below (aCons (eIx (eVar .z) (eK (.int 0))) aNil))) (gN (.s (.s (.s .z))))
  (sExpr (eExtend (.s (.s .z)) (eComp (eIter (eVar (.s .z))) (gN (.s (.s (.s (.s .z))))) (etAnd (eT (eBin dEq (eCall dSum (aCons (eVar (.s (.s (.s (.s .z))))) aNil)) (eCall dSum (aCons (eVar (.s (.s (.s .z)))) aNil)))) (eT (eUser m_is_part_by (aCons (eVar .z) (aCons (eTup (aCons (eVar (.s (.s (.s .z)))) (aCons (eVar (.s (.s (.s (.s .z))))) aNil))) aNil))))) (eTup (aCons (eVar (.s (.s (.s .z)))) (aCons (eVar (.s (.s (.s (.s .z))))) aNil))) [(.s (.s (.s (.s .z))))]))) [(.s (.s (.s .z)))])
  (sRet (eVar (.s (.s .z)))))))
def m_parts_by : Fm := mkF 1 5 e_parts_by
def e_least_by : Es :=
  (sRet (eCall dMinX (aCons (eComp (eIter (eUser m_parts_by (aCons (eVar .z) aNil))) (gN (.s .z)) etYes (eTup (aCons (eUser m_crowd_by (aCons (eVar .z) (aCons (eVar (.s .z)) aNil))) (aCons (eVar (.s .z)) aNil))) [(.s .z)]) aNil)))
def m_least_by : Fm := mkF 1 2 e_least_by
def e_least_crowd : Es :=
  (sSeq (sExpr (eUser m_check_day (aCons (eVar .z) aNil)))
  (sRet (eUser m_least_by (aCons (eVar .z) aNil))))
def m_least_crowd : Fm := mkF 1 1 e_least_crowd
def e_apart_by : Es :=
  (sRet (eCall dSum (aCons (eComp (eZip (aCons (eUser m_present_by (aCons (eVar (.s .z)) aNil)) (aCons (eUser m_present_by (aCons (eUser m_rest_of (aCons (eVar .z) (aCons (eVar (.s .z)) aNil))) aNil)) aNil))) (gT 2 (gsCons (gN (.s (.s .z))) (gsCons (gN (.s (.s (.s .z)))) gsNil))) etYes (eCall dAbs (aCons (eBin dSub (eVar (.s (.s .z))) (eVar (.s (.s (.s .z))))) aNil)) [(.s (.s .z)), (.s (.s (.s .z)))]) aNil)))
def m_apart_by : Fm := mkF 2 4 e_apart_by
def e_evenest_by : Es :=
  (sRet (eCall dMinX (aCons (eComp (eIter (eUser m_parts_by (aCons (eVar .z) aNil))) (gN (.s .z)) etYes (eTup (aCons (eUser m_apart_by (aCons (eVar .z) (aCons (eVar (.s .z)) aNil))) (aCons (eVar (.s .z)) aNil))) [(.s .z)]) aNil)))
def m_evenest_by : Fm := mkF 1 2 e_evenest_by
def e_evenest_parts : Es :=
  (sSeq (sExpr (eUser m_check_day (aCons (eVar .z) aNil)))
  (sRet (eUser m_evenest_by (aCons (eVar .z) aNil))))
def m_evenest_parts : Fm := mkF 1 1 e_evenest_parts
def e_is_crowd : Es :=
  (sRet (eUser m_is_between (aCons (eVar .z) (aCons (eK (.int 1)) (aCons (eK (.int 7)) aNil)))))
def m_is_crowd : Fm := mkF 1 1 e_is_crowd
def e_check_crowd : Es :=
  (sIf (etNot (eT (eUser m_is_crowd (aCons (eVar .z) aNil))))
  (fun _ => none)
  sNil)
def m_check_crowd : Fm := mkF 1 1 e_check_crowd
def e_within_by : Es :=
  (sRet (eCall dLen (aCons (eComp (eIter (eUser m_parts_by (aCons (eVar .z) aNil))) (gN (.s (.s .z))) (eT (eBin dLe (eUser m_crowd_by (aCons (eVar .z) (aCons (eVar (.s (.s .z))) aNil))) (eVar (.s .z)))) (eK (.int 1)) [(.s (.s .z))]) aNil)))
def m_within_by : Fm := mkF 2 3 e_within_by
def e_count_within : Es :=
  (sSeq (sExpr (eUser m_check_day (aCons (eVar .z) aNil)))
  (sSeq (sExpr (eUser m_check_crowd (aCons (eVar (.s .z)) aNil)))
  (sRet (eUser m_within_by (aCons (eVar .z) (aCons (eVar (.s .z)) aNil))))))
def m_count_within : Fm := mkF 2 2 e_count_within
def e__law_right : Es :=
  (sSeq (sAsg (eTup (aCons (eUser m__law_day (aCons (eVar .z) (aCons (eK (.int 5)) (aCons (eK (.int 4)) aNil)))) (aCons (eBin dAdd (eK (.int 1)) (eUser m__law_take (aCons (eVar .z) (aCons (eK (.int 7)) aNil)))) aNil))) (gT 2 (gsCons (gN (.s .z)) (gsCons (gN (.s (.s .z))) gsNil))))
  (sSeq (sSet (.s (.s (.s .z))) (eUser m__law_parts (aCons (eVar (.s .z)) aNil)))
  (sSeq (sSet (.s (.s (.s (.s .z)))) (eComp (eIter (eVar (.s (.s (.s .z))))) (gN (.s (.s (.s (.s (.s (.s (.s (.s (.s (.s .z))))))))))) etYes (eUser m__law_crowd (aCons (eVar (.s .z)) (aCons (eVar (.s (.s (.s (.s (.s (.s (.s (.s (.s (.s .z))))))))))) aNil))) [(.s (.s (.s (.s (.s (.s (.s (.s (.s (.s .z))))))))))]))
  (sSeq (sSet (.s (.s (.s (.s (.s .z))))) (eComp (eIter (eVar (.s (.s (.s .z))))) (gN (.s (.s (.s (.s (.s (.s (.s (.s (.s (.s .z))))))))))) etYes (eUser m__law_uneven (aCons (eVar (.s .z)) (aCons (eVar (.s (.s (.s (.s (.s (.s (.s (.s (.s (.s .z))))))))))) aNil))) [(.s (.s (.s (.s (.s (.s (.s (.s (.s (.s .z))))))))))]))
  (sSeq (sSet (.s (.s (.s (.s (.s (.s .z)))))) (eLst (aCons (eTup (aCons (eCall dMinX (aCons (eVar (.s (.s (.s (.s .z))))) aNil)) (aCons (eIx (eVar (.s (.s (.s .z)))) (eIndex (eVar (.s (.s (.s (.s .z))))) (eCall dMinX (aCons (eVar (.s (.s (.s (.s .z))))) aNil)))) aNil))) (aCons (eTup (aCons (eCall dMinX (aCons (eVar (.s (.s (.s (.s (.s .z)))))) aNil)) (aCons (eIx (eVar (.s (.s (.s .z)))) (eIndex (eVar (.s (.s (.s (.s (.s .z)))))) (eCall dMinX (aCons (eVar (.s (.s (.s (.s (.s .z)))))) aNil)))) aNil))) aNil))))
  (sSeq (sIf (eT (eBin dNe (eCall dRepr (aCons (eLst (aCons (eUser m_least_crowd (aCons (eVar (.s .z)) aNil)) (aCons (eUser m_evenest_parts (aCons (eVar (.s .z)) aNil)) aNil))) aNil)) (eCall dRepr (aCons (eVar (.s (.s (.s (.s (.s (.s .z))))))) aNil))))
  (sRet (eK (.bool false)))
  sNil)
  (sSeq (sIf (eT (eBin dNe (eCall dRepr (aCons (eLst (aCons (eUserK [0] 0 1 m_least_crowd aNil (aCons (eVar (.s .z)) aNil)) (aCons (eUserK [0] 0 1 m_evenest_parts aNil (aCons (eVar (.s .z)) aNil)) aNil))) aNil)) (eCall dRepr (aCons (eVar (.s (.s (.s (.s (.s (.s .z))))))) aNil))))
  (sRet (eK (.bool false)))
  sNil)
  (sSeq (sSet (.s (.s (.s (.s (.s (.s (.s .z))))))) (eCall dLen (aCons (eComp (eIter (eVar (.s (.s (.s (.s .z)))))) (gN (.s (.s (.s (.s (.s (.s (.s (.s (.s (.s .z))))))))))) (eT (eBin dLe (eVar (.s (.s (.s (.s (.s (.s (.s (.s (.s (.s .z))))))))))) (eVar (.s (.s .z))))) (eVar (.s (.s (.s (.s (.s (.s (.s (.s (.s (.s .z))))))))))) [(.s (.s (.s (.s (.s (.s (.s (.s (.s (.s .z))))))))))]) aNil)))
  (sSeq (sIf (eT (eBin dNe (eCall dRepr (aCons (eLst (aCons (eUser m_count_within (aCons (eVar (.s .z)) (aCons (eVar (.s (.s .z))) aNil))) (aCons (eUserK [1, 0] 0 2 m_count_within aNil (aCons (eVar (.s (.s .z))) (aCons (eVar (.s .z)) aNil))) aNil))) aNil)) (eCall dRepr (aCons (eLst (aCons (eVar (.s (.s (.s (.s (.s (.s (.s .z)))))))) (aCons (eVar (.s (.s (.s (.s (.s (.s (.s .z)))))))) aNil))) aNil))))
  (sRet (eK (.bool false)))
  sNil)
  (sSeq (sSet (.s (.s (.s (.s (.s (.s (.s (.s .z)))))))) (eCall dMaxX (aCons (eUser m__law_present (aCons (eVar (.s .z)) aNil)) aNil)))
  (sSeq (sIf (etOr (eT (eBin dLt (eBin dMul (eK (.int 2)) (eIx (eIx (eVar (.s (.s (.s (.s (.s (.s .z))))))) (eK (.int 0))) (eK (.int 0)))) (eVar (.s (.s (.s (.s (.s (.s (.s (.s .z))))))))))) (eT (eBin dGt (eIx (eIx (eVar (.s (.s (.s (.s (.s (.s .z))))))) (eK (.int 0))) (eK (.int 0))) (eVar (.s (.s (.s (.s (.s (.s (.s (.s .z))))))))))))
  (sRet (eK (.bool false)))
  sNil)
  (sSeq (sSet (.s (.s (.s (.s (.s (.s (.s (.s (.s .z))))))))) (eCall dLen (aCons (eComp (eIter (eUser m__law_present (aCons (eVar (.s .z)) aNil))) (gN (.s (.s (.s (.s (.s (.s (.s (.s (.s (.s .z))))))))))) (eT (eBin dEq (eBin dMod (eCall dInt (aCons (eVar (.s (.s (.s (.s (.s (.s (.s (.s (.s (.s .z))))))))))) aNil)) (eK (.int 2))) (eK (.int 1)))) (eVar (.s (.s (.s (.s (.s (.s (.s (.s (.s (.s .z))))))))))) [(.s (.s (.s (.s (.s (.s (.s (.s (.s (.s .z))))))))))]) aNil)))
  (sRet (eAnd (eBin dGe (eIx (eIx (eVar (.s (.s (.s (.s (.s (.s .z))))))) (eK (.int 1))) (eK (.int 0))) (eVar (.s (.s (.s (.s (.s (.s (.s (.s (.s .z))))))))))) (eOr (eBin dLt (eIx (eIx (eVar (.s (.s (.s (.s (.s (.s .z))))))) (eK (.int 0))) (eK (.int 0))) (eK (.int 2))) (eBin dEq (eUser m_count_within (aCons (eVar (.s .z)) (aCons (eBin dSub (eIx (eIx (eVar (.s (.s (.s (.s (.s (.s .z))))))) (eK (.int 0))) (eK (.int 0))) (eK (.int 1))) aNil))) (eK (.int 0))))))))))))))))))
def m__law_right : Fm := mkF 1 11 e__law_right
def e_law : Es :=
  (sSeq (sFor (eRange1 (aCons (eCall dMaxX (aCons (eK (.int 2)) (aCons (eCall dMinX (aCons (eCall dLen (aCons (eVar .z) aNil)) (aCons (eK (.int 3)) aNil))) aNil))) aNil)) (gN (.s .z))
  (sSeq (sSetM (.s (.s .z)) (eUser m__law_bag (aCons (eVar .z) (aCons (eVar (.s .z)) aNil))))
  (sIf (etNot (eT (eCall dAll (aCons (eComp (eRange1 (aCons (eK (.int 8)) aNil)) (gN (.s (.s (.s .z)))) etYes (eUser m__law_right (aCons (eVar (.s (.s .z))) aNil)) [(.s (.s (.s .z)))]) aNil))))
  (sRet (eK (.bool false)))
  sNil)) [(.s .z), (.s (.s .z))])
  (sRet (eK (.bool true))))
def m_law : Fm := mkF 1 4 e_law
end L_k69
set_option autoImplicit false
set_option linter.all false
set_option maxHeartbeats 4000000
set_option maxRecDepth 100000
namespace L_k69
open PySem PySem.Spec PyProof.Rows L2 PV
abbrev row (l : List Int) : D := .tuple (l.map PyData.int)
abbrev day (c g : List Int) : D := .tuple [row c, row g]
def there (c g : List Int) (t : Nat) : Int := (c.take t).sum - (g.take (t + 1)).sum
def rightB (c g : List Int) : Bool := decide (c.sum = g.sum) && (List.range c.length).all fun t => decide (0 ≤ there c g t)
structure cOk (c : List Int) : Prop where
  l1 : 1 ≤ c.length
  l2 : c.length ≤ 6
  el : ∀ x ∈ c, 0 ≤ x ∧ x ≤ 7
  sm : c.sum ≤ 7
theorem is_whole_i (v : Int) : m_is_whole [.val (.int v)] = some (.val (.bool true), []) := by
  simp [m_is_whole, mkF, runFn, e_is_whole]
theorem is_between_i (v a b : Int) : m_is_between [.val (.int v), .val (.int a), .val (.int b)] = some (.val (.bool (decide (a ≤ v ∧ v ≤ b))), []) := by
  simp [m_is_between, runFn, e_is_between, is_whole_i]
  by_cases h : a ≤ v <;> simp [h]
theorem is_tuple_of_t (xs : List D) (n : Int) : m_is_tuple_of [.val (.tuple xs), .val (.int n)] = some (.val (.bool (decide ((xs.length : Int) = n))), []) := by
  simp [m_is_tuple_of, runFn, e_is_tuple_of]
theorem is_row_t (xs : List D) (a b : Int) : m_is_row [.val (.tuple xs), .val (.int a), .val (.int b)] = some (.val (.bool (decide (a ≤ xs.length ∧ (xs.length : Int) ≤ b))), []) := by
  simp [m_is_row, runFn, e_is_row]
  by_cases h : a ≤ xs.length <;> simp [h]
theorem ticks_of_t (xs : List D) (r : List D) : m_ticks_of [.val (.tuple (.tuple xs :: r))] = some (.val (.int xs.length), []) := by
  simp [m_ticks_of, runFn, e_ticks_of]
theorem are_counts_ok {c : List Int} (h : cOk c) : m_are_counts [.val (row c)] = some (.val (.bool true), []) := by
  have h1 : (1 : Int) ≤ c.length := by have := h.l1; omega
  have h2 : (c.length : Int) ≤ 6 := by have := h.l2; omega
  have h3 : c.length ≤ mxL := mxL_ge (by have := h.l2; omega)
  have h4 := h.sm
  simp [m_are_counts, runFn, e_are_counts, is_row_t, h1, h2, h3]
  rw [evComp_mapT PyData.int (fun x => .bool true)]
  · simp [h4]
  · intro x hx
    simp [stComp, is_between_i, h.el x hx]
theorem is_any_day_ok {c g : List Int} (h : cOk c) (h' : cOk g) (e : c.length = g.length) : m_is_any_day [.val (day c g)] = some (.val (.bool true), []) := by
  simp [m_is_any_day, runFn, e_is_any_day, is_tuple_of_t, evComp_cons, stComp, are_counts_ok h, are_counts_ok h', boolsOf, e]
theorem there_by_t (c g : List Int) (t : Nat) : m_there_by [.val (day c g), .val (.int t)] = some (.val (.int (there c g t)), []) := by
  simp [m_there_by, runFn, e_there_by, cutD_to, cutD_to1, ← List.map_take, there]
theorem goes_too_many_t (c g : List Int) (t : Nat) : m_goes_too_many [.val (day c g), .val (.int t)] = some (.val (.bool (decide (there c g t < 0))), []) := by
  simp [m_goes_too_many, runFn, e_goes_too_many, there_by_t]
theorem have_one_sum_t (c g : List Int) : m_have_one_sum [.val (day c g)] = some (.val (.bool (decide (c.sum = g.sum))), []) := by
  simp [m_have_one_sum, runFn, e_have_one_sum]

theorem bar_by_t (c g : List Int) (hc : c.length ≤ 100) : m_bar_by [.val (day c g)] = some (.val (match (List.range c.length).filter (fun t => decide (there c g t < 0)) with
    | [] => .none
    | t :: _ => .int (t : Nat)), []) := by
  have hs : small62 (c.length : Int) = true := small62_nat (by omega)
  have h : c.length ≤ mxL := mxL_ge (by omega)
  simp [m_bar_by, runFn, e_bar_by, ticks_of_t, hs, rgD_eq, h]
  rw [evComp_filt (fun (i : Nat) => PyData.int (i : Int)) (fun i => .int (i : Int)) (fun t => decide (there c g t < 0))]
  · generalize (List.range c.length).filter (fun t => decide (there c g t < 0)) = l
    cases l with
    | nil => simp
    | cons t l => simp
  · intro t ht
    simp [stComp, goes_too_many_t]
    by_cases q : there c g t < 0 <;> simp [q]
theorem is_right_by_t (c g : List Int) (hc : c.length ≤ 100) : m_is_right_by [.val (day c g)] = some (.val (.bool (rightB c g)), []) := by
  have e : ((List.range c.length).all fun t => decide (0 ≤ there c g t)) = isNone (match (List.range c.length).filter (fun t => decide (there c g t < 0)) with
    | [] => .none
    | t :: _ => .int (t : Nat)) := by
    rcases h : (List.range c.length).filter (fun t => decide (there c g t < 0)) with _ | ⟨t, l⟩
    · simp only [isNone]
      rw [List.all_eq_true]
      intro t ht
      have := List.filter_eq_nil_iff.mp h t ht
      simp only [decide_eq_true_eq] at this ⊢
      omega
    · simp only [isNone]
      rw [List.all_eq_false]
      have : t ∈ (List.range c.length).filter (fun t => decide (there c g t < 0)) := by rw [h]; exact List.mem_cons_self
      obtain ⟨h1, h2⟩ := List.mem_filter.mp this
      refine ⟨t, h1, ?_⟩
      simp only [decide_eq_true_eq] at h2 ⊢
      omega
  simp [m_is_right_by, runFn, e_is_right_by, have_one_sum_t, bar_by_t c g hc, rightB]
  by_cases q : c.sum = g.sum
  · simp [q, e]
  · simp [q]
theorem zipD_map : ∀ (a b : List Int), zipD (a.map PyData.int) (b.map PyData.int) = (a.zip b).map fun p => .tuple [.int p.1, .int p.2]
  | [], _ => by simp [zipD]
  | _ :: _, [] => by simp [zipD]
  | x :: a, y :: b => by simp [zipD, zipD_map a b]
theorem sum_nn : ∀ {r : List Int}, (∀ x ∈ r, 0 ≤ x) → 0 ≤ r.sum
  | [], _ => by simp
  | x :: r, h => by
    rw [List.sum_cons]
    have := h x List.mem_cons_self
    have := sum_nn fun y hy => h y (List.mem_cons_of_mem _ hy)
    omega
/-! ### rows that sum to total -/
theorem right_iff {a b : List Int} : rightB a b = true ↔ a.sum = b.sum ∧ ∀ t, t < a.length → 0 ≤ there a b t := by
  unfold rightB
  simp [List.all_eq_true]
theorem le_sum : ∀ {l : List Int}, (∀ x ∈ l, 0 ≤ x) → ∀ x ∈ l, x ≤ l.sum
  | [], _, x, hx => by simp at hx
  | y :: l, h, x, hx => by
    rw [List.sum_cons]
    have hy := h y List.mem_cons_self
    have hs := sum_nn fun z hz => h z (List.mem_cons_of_mem _ hz)
    rcases List.mem_cons.mp hx with e | hx
    · subst e; omega
    · have := le_sum (fun z hz => h z (List.mem_cons_of_mem _ hz)) x hx
      omega
theorem ixN_nat {n k : Nat} (h : k < n) : ixN n (k : Int) = some k := by
  unfold ixN
  rw [if_pos (by omega), if_pos (by omega)]
  simp
theorem atI_ints {l : List Int} {k : Nat} (h : k < l.length) : atI (l.map PyData.int) (k : Int) = some (.int l[k]) := by
  rw [PV.atI_nat]
  simp [h]
end L_k69
set_option autoImplicit false
set_option linter.all false
set_option maxHeartbeats 4000000
set_option maxRecDepth 100000
namespace L_k69
open PySem PySem.Spec PyProof.Rows L2 PV
structure BagOk (k : Nat) (b : List D) : Prop where
  ex : ∃ x y z : Int, b = [.int x, .int y, .int z] ∧ 0 ≤ x ∧ 0 ≤ y ∧ y < 2147483647 ∧ 0 ≤ z ∧ z ≤ k
theorem BagOk.mono {j k : Nat} {b : List D} (h : BagOk j b) (hk : j ≤ k) : BagOk k b := by
  obtain ⟨x, y, z, e, h1, h2, h3, h4, h5⟩ := h.ex
  exact ⟨x, y, z, e, h1, h2, h3, h4, by omega⟩
theorem big {n : Nat} (h : n < 18446744073709551616) : n < 2 ^ 4000 := Nat.lt_of_lt_of_le h (Nat.le_trans (show 18446744073709551616 ≤ 2 ^ 64 by decide) (Nat.pow_le_pow_right (by decide) (by decide)))
theorem big16807 : 16807 < 2 ^ 4000 := big (by decide)
theorem big4099 : 4099 < 2 ^ 4000 := big (by decide)
theorem take_t {k : Nat} {b : List D} {top : Int} (hb : BagOk k b) (h0 : 0 < top) (h1 : top < 1000000) (hk : k ≤ 1000000) :
    ∃ d b', m__law_take [.ref b, .val (.int top)] = some (.val (.int d), [b']) ∧ 0 ≤ d ∧ d < top ∧ BagOk (k + 1) b' := by
  obtain ⟨x, y, z, rfl, hx, hy, hy2, hz, hz2⟩ := hb.ex
  by_cases hx0 : 0 < x
  · refine ⟨x % top, [.int (x / top), .int y, .int z], ?_, Int.emod_nonneg _ (by omega), Int.emod_lt_of_pos _ h0, ⟨_, _, _, rfl, Int.ediv_nonneg hx (by omega), hy, hy2, hz, by omega⟩⟩
    have ht : top.natAbs < 1073741824 := by omega
    simp [m__law_take, runFn, e__law_take, hx0, h0, ht, ixN]
  · have e1 : (y * 16807 + 4099 * (z + 1) + 1).fmod 2147483647 = (y * 16807 + 4099 * (z + 1) + 1) % 2147483647 := Int.fmod_eq_emod_of_nonneg _ (by decide)
    have y1 := Int.emod_nonneg (y * 16807 + 4099 * (z + 1) + 1) (show (2147483647 : Int) ≠ 0 by decide)
    have y2 := Int.emod_lt_of_pos (y * 16807 + 4099 * (z + 1) + 1) (show (0 : Int) < 2147483647 by decide)
    generalize hy' : (y * 16807 + 4099 * (z + 1) + 1) % 2147483647 = y' at *
    refine ⟨(y'.fdiv 911).fmod top, [.int x, .int y', .int (z + 1)], ?_, ?_, ?_, ⟨_, _, _, rfl, hx, y1, y2, by omega, by omega⟩⟩
    · have b1 : y.natAbs < 2 ^ 4000 := big (by omega)
      have b2 : (z + 1).natAbs < 2 ^ 4000 := big (by omega)
      have ht : top ≠ 0 := by omega
      simp [m__law_take, runFn, e__law_take, hx0, ixN, b1, b2, big16807, big4099, e1, ht]
    · rw [Int.fmod_eq_emod_of_nonneg _ (by omega)]; exact Int.emod_nonneg _ (by omega)
    · rw [Int.fmod_eq_emod_of_nonneg _ (by omega)]; exact Int.emod_lt_of_pos _ h0
theorem big48271 : 48271 < 2 ^ 4000 := big (by decide)
theorem big8009 : 8009 < 2 ^ 4000 := big (by decide)
theorem big31 : 31 < 2 ^ 4000 := big (by decide)
theorem big17 : 17 < 2 ^ 4000 := big (by decide)
theorem bag_t (is : List Int) (lap : Nat) (hl : lap ≤ 2) : ∃ b, m__law_bag [.rd (is.map PyData.int), .val (.int (lap : Int))] = some (.new b, []) ∧ BagOk 0 b := by
  have hc : cutD (is.map PyData.int) none (some 16) = (is.take 16).map PyData.int := by
    have := cutD_to (is.map PyData.int) 16
    rw [← List.map_take] at this
    exact this
  have key := evFor_inv (ds0 := (is.take 16).map PyData.int) (g := gN (.s (.s (.s .z)))) (body := sSet (.s (.s .z)) (eBin dMod (eCall dInt (aCons (eBin dAdd (eBin dAdd (eBin dMul (eVar (.s (.s .z))) (eK (.int 48271))) (eBin dMod (eCall dInt (aCons (eVar (.s (.s (.s .z)))) aNil)) (eK (.int 2147483629)))) (eK (.int 23))) aNil)) (eK (.int 2147483647)))) (ks := [(.s (.s (.s .z)))])
    (fun i ρ => ∃ s : Int, ρ = [.rd (is.map PyData.int), .val (.int (lap : Int)), .val (.int s), .no, .no] ∧ 0 ≤ s ∧ s < 2147483647) (fun i d ρ hd hρ => by
      obtain ⟨s, rfl, s0, s1⟩ := hρ
      rw [List.getElem?_map] at hd
      cases hx : (is.take 16)[i]? with
      | none => rw [hx] at hd; cases hd
      | some x =>
        rw [hx] at hd
        cases hd
        have b1 : s.natAbs < 2 ^ 4000 := big (by omega)
        refine ⟨_, by simp [stFor, b1, big48271]; rfl, _, rfl, ?_, ?_⟩
        · rw [Int.fmod_eq_emod_of_nonneg _ (by decide)]; exact Int.emod_nonneg _ (by decide)
        · rw [Int.fmod_eq_emod_of_nonneg _ (by decide)]; exact Int.emod_lt_of_pos _ (by decide))
  have b2 : lap < 2 ^ 4000 := big (by omega)
  obtain ⟨ρ', h1, s, h2, s0, s1⟩ := key _ 0 [.rd (is.map PyData.int), .val (.int (lap : Int)), .val (.int (52027 + 8009 * (lap : Int))), .no, .no] rfl ⟨_, rfl, by omega, by omega⟩
  subst h2
  simp only [List.drop_zero] at h1
  have b1 : s.natAbs < 2 ^ 4000 := big (by omega)
  have tail : ∀ own : Int, (((s * 31 + own.fmod 2147483629 * 17 + 3).fmod 2147483647 : Int) : Int) = (s * 31 + own.fmod 2147483629 * 17 + 3) % 2147483647 := fun own => Int.fmod_eq_emod_of_nonneg _ (by decide)
  have y0 : ∀ own : Int, 0 ≤ (s * 31 + own.fmod 2147483629 * 17 + 3).fmod 2147483647 := fun own => by rw [tail]; exact Int.emod_nonneg _ (by decide)
  have y1 : ∀ own : Int, (s * 31 + own.fmod 2147483629 * 17 + 3).fmod 2147483647 < 2147483647 := fun own => by rw [tail]; exact Int.emod_lt_of_pos _ (by decide)
  have f1 : ∀ own : Int, (own.fmod 2147483629).natAbs < 2 ^ 4000 := fun own => by
    rw [Int.fmod_eq_emod_of_nonneg _ (by decide)]
    have a1 := Int.emod_nonneg own (show (2147483629 : Int) ≠ 0 by decide)
    have a2 := Int.emod_lt_of_pos own (show (0 : Int) < 2147483629 by decide)
    exact big (by omega)
  have rest : ∀ own : Int, ∃ b, BagOk 0 b ∧ b = [PyData.int (if own < 0 ∨ 1000000000000000 ≤ own then (if own < 0 then -own else own) else 0), .int ((s * 31 + own.fmod 2147483629 * 17 + 3).fmod 2147483647), .int 0] := fun own => by
    refine ⟨_, ⟨_, _, _, rfl, ?_, y0 own, y1 own, by decide, by decide⟩, rfl⟩
    split
    · split <;> omega
    · decide
  by_cases hlt : lap < is.length
  · obtain ⟨b, hb, eb⟩ := rest is[lap]
    refine ⟨b, ?_, hb⟩
    have hat : atI (is.map PyData.int) (lap : Int) = some (.int is[lap]) := by rw [PV.atI_nat]; simp [hlt]
    simp [m__law_bag, runFn, e__law_bag, hc, b2, big8009, -List.map_take]
    rw [h1]
    have f1 := f1 is[lap]
    generalize is[lap] = own at *
    by_cases n1 : own < 0
    · simp [hlt, hat, b1, big31, big17, f1, n1, eb]
    · by_cases n2 : 1000000000000000 ≤ own
      · simp [hlt, hat, b1, big31, big17, f1, n1, n2, eb]
      · simp [hlt, hat, b1, big31, big17, f1, n1, n2, eb]
  · obtain ⟨b, hb, eb⟩ := rest 0
    refine ⟨b, ?_, hb⟩
    simp [m__law_bag, runFn, e__law_bag, hc, b2, big8009, -List.map_take]
    rw [h1]
    have f1 := f1 0
    simp at f1
    simp [hlt, b1, big31, big17, f1, eb]
def go : List (Int × Int) → Int → Option Int
  | [], s => some s
  | p :: l, s => if s < p.2 then none else go l (s - p.2 + p.1)
theorem go_right : ∀ (a b : List Int) (s : Int), a.length = b.length → go (a.zip b) s = if (List.range a.length).all (fun t => decide (0 ≤ s + there a b t)) = true then some (s + a.sum - b.sum) else none
  | [], [], s, _ => by simp [go]
  | x :: a, y :: b, s, h => by
    have ih := go_right a b (s - y + x) (by simpa using h)
    have e : ∀ t, there (x :: a) (y :: b) (t + 1) = x - y + there a b t := fun t => by simp [there]; omega
    have e0 : there (x :: a) (y :: b) 0 = -y := by simp [there]
    have e2 : (List.range (x :: a).length).all (fun t => decide (0 ≤ s + there (x :: a) (y :: b) t)) = (decide (0 ≤ s - y) && (List.range a.length).all (fun t => decide (0 ≤ s - y + x + there a b t))) := by
      rw [List.length_cons, List.range_succ_eq_map, List.all_cons, List.all_map]
      congr 1
      · rw [e0]; rfl
      · congr 1
        funext t
        simp only [Function.comp_apply]
        rw [Nat.succ_eq_add_one, e]
        congr 2
        omega
    rw [e2, List.zip_cons_cons]
    unfold go
    by_cases z : s < y
    · have : ¬ 0 ≤ s - y := by omega
      rw [if_pos z, decide_eq_false this]
      simp
    · have : 0 ≤ s - y := by omega
      simp only [z, if_false, ih, this, decide_true, Bool.true_and]
      simp only [List.sum_cons]
      congr 2
      omega
theorem law_is_right_t {a b : List Int} (h : a.length = b.length) : m__law_is_right [.val (day a b)] = some (.val (.bool (rightB a b)), []) := by
  have key : ∀ (l : List (Int × Int)) (s : Int), (match go l s with
      | some s' => evFor (gT 2 (gsCons (gN (.s (.s .z))) (gsCons (gN (.s (.s (.s .z)))) gsNil))) (sSeq (sIf (eT (eBin dGt (eVar (.s (.s (.s .z)))) (eVar (.s .z))))
  (sRet (eK (.bool false)))
  sNil)
  (sSet (.s .z) (eBin dAdd (eBin dSub (eVar (.s .z)) (eVar (.s (.s (.s .z))))) (eVar (.s (.s .z)))))) [(.s (.s .z)), (.s (.s (.s .z)))] (l.map fun p => .tuple [.int p.1, .int p.2]) [.val (day a b), .val (.int s), .no, .no] = some (.nx [.val (day a b), .val (.int s'), .no, .no])
      | none => ∃ u v w, evFor (gT 2 (gsCons (gN (.s (.s .z))) (gsCons (gN (.s (.s (.s .z)))) gsNil))) (sSeq (sIf (eT (eBin dGt (eVar (.s (.s (.s .z)))) (eVar (.s .z))))
  (sRet (eK (.bool false)))
  sNil)
  (sSet (.s .z) (eBin dAdd (eBin dSub (eVar (.s .z)) (eVar (.s (.s (.s .z))))) (eVar (.s (.s .z)))))) [(.s (.s .z)), (.s (.s (.s .z)))] (l.map fun p => .tuple [.int p.1, .int p.2]) [.val (day a b), .val (.int s), .no, .no] = some (.rt (.bool false) [.val (day a b), u, v, w])) := by
    intro l
    induction l with
    | nil => intro s; simp [go]
    | cons p l ih =>
      intro s
      have ih := ih (s - p.2 + p.1)
      unfold go
      by_cases z : s < p.2
      · simp only [z, if_true]
        refine ⟨.val (.int s), .val (.int p.1), .val (.int p.2), ?_⟩
        rw [List.map_cons, evFor_cons]
        simp [stFor, z]
      · simp only [z, if_false]
        rw [List.map_cons, evFor_cons]
        simp only [stFor, gT_ap, gsCons_ap, gN_ap, gsNil_ap, List.length_cons, List.length_nil, put, sSeq_ap, sIf_ap, eT_ap, eBin_ap, eNorm_ap, eVar_ap, PV.get, peek, dGt, decide_eq_true_eq, z, decide_false, Bool.false_eq_true, if_false, sNil_ap, sSet_ap, eVal_ap, dSub, dAdd, killAll, if_true]
        exact ih
  have key := key (a.zip b) 0
  rw [go_right a b 0 h] at key
  simp [m__law_is_right, runFn, e__law_is_right, zipD_map]
  by_cases q : (List.range a.length).all (fun t => decide (0 ≤ 0 + there a b t)) = true
  · rw [if_pos q] at key
    simp only at key
    rw [key]
    simp only [Int.zero_add] at q
    simp [rightB, q]
    omega
  · rw [if_neg q] at key
    obtain ⟨u, v, w, key⟩ := key
    rw [key]
    simp only [Int.zero_add] at q
    simp [rightB, q]
/-! ### a day made of stays -/
def inc (l : List Int) (i : Nat) : List Int := l.set i ((l[i]?.getD 0) + 1)
theorem inc_len (l : List Int) (i : Nat) : (inc l i).length = l.length := by simp [inc]
theorem take_inc : ∀ (l : List Int) (i t : Nat), i < l.length → ((inc l i).take t).sum = (l.take t).sum + (if i < t then 1 else 0)
  | [], i, t, h => by simp at h
  | x :: l, 0, t, h => by
    cases t with
    | zero => simp
    | succ t => simp [inc]; omega
  | x :: l, i + 1, t, h => by
    cases t with
    | zero => simp
    | succ t =>
      have ih := take_inc l i t (by simpa using h)
      have e : inc (x :: l) (i + 1) = x :: inc l i := by simp [inc]
      rw [e, List.take_succ_cons, List.take_succ_cons, List.sum_cons, List.sum_cons, ih]
      by_cases z : i < t <;> simp [z] <;> omega
theorem sum_inc (l : List Int) (i : Nat) (h : i < l.length) : (inc l i).sum = l.sum + 1 := by
  have := take_inc l i l.length h
  rw [List.take_of_length_le (by rw [inc_len]; exact Nat.le_refl _), List.take_length, if_pos h] at this
  exact this
theorem nn_inc {l : List Int} (i : Nat) (h : ∀ x ∈ l, 0 ≤ x) : ∀ x ∈ inc l i, 0 ≤ x := by
  intro x hx
  rcases List.mem_or_eq_of_mem_set hx with hx | e
  · exact h x hx
  · subst e
    cases z : l[i]? with
    | none => simp
    | some y =>
      have := h y (List.mem_of_getElem? z)
      simp; omega
structure Made (n i : Nat) (c g : List Int) : Prop where
  lc : c.length = n + 1
  lg : g.length = n + 1
  pc : ∀ x ∈ c, 0 ≤ x
  pg : ∀ x ∈ g, 0 ≤ x
  sc : c.sum = i
  sg : g.sum = i
  th : ∀ t, 0 ≤ there c g t
theorem Made.next {n i : Nat} {c g : List Int} (h : Made n i c g) {s e : Nat} (h1 : s < e) (h2 : e ≤ n) : Made n (i + 1) (inc c s) (inc g e) := by
  have l1 : s < c.length := by have := h.lc; omega
  have l2 : e < g.length := by have := h.lg; omega
  refine ⟨by rw [inc_len, h.lc], by rw [inc_len, h.lg], nn_inc s h.pc, nn_inc e h.pg, by rw [sum_inc c s l1, h.sc]; omega, by rw [sum_inc g e l2, h.sg]; omega, fun t => ?_⟩
  have := h.th t
  unfold there at *
  rw [take_inc c s t l1, take_inc g e (t + 1) l2]
  split <;> split <;> omega
theorem Made.zero (n : Nat) : Made n 0 (List.replicate (n + 1) 0) (List.replicate (n + 1) 0) := by
  have z : ∀ k : Nat, (List.replicate k (0 : Int)).sum = 0 := fun k => by induction k with
    | zero => rfl
    | succ k ih => rw [List.replicate_succ, List.sum_cons, ih]; rfl
  refine ⟨by simp, by simp, fun x hx => ?_, fun x hx => ?_, z _, z _, fun t => ?_⟩
  · rw [List.eq_of_mem_replicate hx]; decide
  · rw [List.eq_of_mem_replicate hx]; decide
  · unfold there
    rw [List.take_replicate, List.take_replicate, z, z]
    decide
theorem inc_map (l : List Int) (i : Nat) (h : i < l.length) : (l.map PyData.int).set i (.int (l[i] + 1)) = (inc l i).map PyData.int := by
  unfold inc
  rw [List.map_set]
  simp [h]
def dayBody : Es := (sSeq (sSet (.s (.s (.s (.s (.s (.s (.s .z))))))) (eUser m__law_take (aCons (eVar .z) (aCons (eBin dSub (eVar (.s (.s (.s .z)))) (eK (.int 1))) aNil))))
  (sSeq (sSet (.s (.s (.s (.s (.s (.s (.s (.s .z)))))))) (eBin dAdd (eBin dAdd (eVar (.s (.s (.s (.s (.s (.s (.s .z)))))))) (eK (.int 1))) (eUser m__law_take (aCons (eVar .z) (aCons (eBin dSub (eBin dSub (eVar (.s (.s (.s .z)))) (eK (.int 1))) (eVar (.s (.s (.s (.s (.s (.s (.s .z))))))))) aNil)))))
  (sAsg (eTup (aCons (eBin dAdd (eIx (eVar (.s (.s (.s (.s .z))))) (eVar (.s (.s (.s (.s (.s (.s (.s .z))))))))) (eK (.int 1))) (aCons (eBin dAdd (eIx (eVar (.s (.s (.s (.s (.s .z)))))) (eVar (.s (.s (.s (.s (.s (.s (.s (.s .z)))))))))) (eK (.int 1))) aNil))) (gT 2 (gsCons (gI (.s (.s (.s (.s .z)))) (eVar (.s (.s (.s (.s (.s (.s (.s .z))))))))) (gsCons (gI (.s (.s (.s (.s (.s .z))))) (eVar (.s (.s (.s (.s (.s (.s (.s (.s .z)))))))))) gsNil))))))
def dayKs : List Ix := [(.s (.s (.s (.s (.s (.s .z)))))), (.s (.s (.s (.s (.s (.s (.s .z))))))), (.s (.s (.s (.s (.s (.s (.s (.s .z))))))))]
theorem day_step {mo pe : Int} {n i k : Nat} {c g : List Int} {b : List D} {d : D} (hb : BagOk k b) (hk : k ≤ 999000) (hn : 1 ≤ n) (hn3 : n ≤ 100) (h : Made n i c g) :
    ∃ b' c' g', stFor (gN (.s (.s (.s (.s (.s (.s .z))))))) dayBody dayKs d [.ref b, .val (.int mo), .val (.int pe), .val (.int ((n : Int) + 1)), .own (c.map PyData.int), .own (g.map PyData.int), .no, .no, .no] =
      some (.nx [.ref b', .val (.int mo), .val (.int pe), .val (.int ((n : Int) + 1)), .own (c'.map PyData.int), .own (g'.map PyData.int), .no, .no, .no]) ∧ Made n (i + 1) c' g' ∧ BagOk (k + 2) b' := by
  obtain ⟨s0, b1, h1, s1, s2, hb1⟩ := take_t (top := (n : Int) + 1 - 1) hb (by omega) (by omega) (by omega)
  obtain ⟨s, rfl⟩ := Int.eq_ofNat_of_zero_le s1
  obtain ⟨e0, b2, h2, e1, e2, hb2⟩ := take_t (top := (n : Int) + 1 - 1 - (s : Int)) hb1 (by omega) (by omega) (by omega)
  obtain ⟨e, rfl⟩ := Int.eq_ofNat_of_zero_le e1
  have lc : s < c.length := by have := h.lc; omega
  have lg : s + 1 + e < g.length := by have := h.lg; omega
  have he : (s : Int) + 1 + (e : Int) = ((s + 1 + e : Nat) : Int) := by omega
  refine ⟨b2, inc c s, inc g (s + 1 + e), ?_, h.next (by omega) (by omega), hb2⟩
  have a1 := atI_ints lc
  have a2 := atI_ints lg
  have i1 : ixN c.length (s : Int) = some s := ixN_nat lc
  have i2 : ixN g.length ((s + 1 + e : Nat) : Int) = some (s + 1 + e) := ixN_nat lg
  rw [← he] at a2 i2
  have j1 := inc_map c s lc
  have j2 := inc_map g (s + 1 + e) lg
  simp only [stFor, dayBody, gN_ap, put, sSeq_ap, sSet_ap, eVal_ap, eUser_ap, aCons_ap, eNorm_ap, eVar_ap, PV.get, eBin_ap, eK_ap, peek, dSub, aNil_ap, callU_ap, refIx, distinctIx_one, if_true, argsB, argB, h1, resAV, List.zip_cons_cons, List.zip_nil_left, putRefs, setL, h2, dAdd]
  simp [a1, a2, i1, i2, j1, j2, dayKs]
theorem law_day_t {k : Nat} {b : List D} {mo pe : Int} (hmo : 2 ≤ mo) (hmo2 : mo ≤ 100) (hpe : 1 ≤ pe) (hpe2 : pe ≤ 100) (hb : BagOk k b) (hk : k ≤ 900000) :
    ∃ (n : Nat) (c g : List Int) (i : Nat) (b' : List D), m__law_day [.ref b, .val (.int mo), .val (.int pe)] = some (.val (day c g), [b']) ∧ 1 ≤ n ∧ (n : Int) ≤ mo - 1 ∧ 1 ≤ i ∧ (i : Int) ≤ pe ∧ Made n i c g ∧ BagOk (k + 300) b' := by
  obtain ⟨d, b1, h1, d0, d3, hb1⟩ := take_t (top := mo - 1) hb (by omega) (by omega) (by omega)
  obtain ⟨n0, rfl⟩ := Int.eq_ofNat_of_zero_le d0
  obtain ⟨p, b2, h2, p0, p5, hb2⟩ := take_t (top := pe) hb1 (by omega) (by omega) (by omega)
  obtain ⟨p', rfl⟩ := Int.eq_ofNat_of_zero_le p0
  obtain ⟨n, hn⟩ : ∃ n : Nat, n = n0 + 1 := ⟨_, rfl⟩
  obtain ⟨m, hm⟩ : ∃ m : Nat, m = 1 + p' := ⟨_, rfl⟩
  have key := evFor_inv (ds0 := (List.range m).map fun (i : Nat) => PyData.int (i : Int)) (g := gN (.s (.s (.s (.s (.s (.s .z))))))) (body := dayBody) (ks := dayKs)
    (fun i ρ => ∃ c g b', ρ = [.ref b', .val (.int mo), .val (.int pe), .val (.int ((n : Int) + 1)), .own (c.map PyData.int), .own (g.map PyData.int), .no, .no, .no] ∧ Made n i c g ∧ i ≤ m ∧ BagOk (k + 2 + 2 * i) b') (fun i d ρ hd hρ => by
      obtain ⟨c, g, b', rfl, hmd, hi, hb'⟩ := hρ
      have hi : i < m := by
        have := (List.getElem?_eq_some_iff.mp hd).1
        simpa using this
      obtain ⟨b'', c', g', q, hm', hb''⟩ := day_step (d := d) hb' (by omega) (by omega) (by omega) hmd
      exact ⟨_, q, c', g', b'', rfl, hm', by omega, hb''.mono (by omega)⟩)
  obtain ⟨ρ', q1, c, g, b', rfl, hmd, hi, hb'⟩ := key _ 0 [.ref b2, .val (.int mo), .val (.int pe), .val (.int ((n : Int) + 1)), .own ((List.replicate (n + 1) 0).map PyData.int), .own ((List.replicate (n + 1) 0).map PyData.int), .no, .no, .no] rfl ⟨_, _, _, rfl, Made.zero n, by omega, hb2.mono (by omega)⟩
  simp only [List.drop_zero, List.length_map, List.length_range, Nat.zero_add] at hmd hi hb' q1
  refine ⟨n, c, g, m, b', ?_, by omega, by omega, by omega, by omega, hmd, hb'.mono (by omega)⟩
  have e1 : (2 : Int) + (n0 : Int) = (n : Int) + 1 := by omega
  have e2 : (1 : Int) + (p' : Int) = (m : Int) := by omega
  have hs : small62 (m : Int) = true := small62_nat (by omega)
  have z1 : ((n : Int) + 1).natAbs < 4611686018427387904 := by omega
  have z2 : ((n : Int) + 1).toNat = n + 1 := by omega
  have z3 : n + 1 ≤ mxL := mxL_ge (by omega)
  unfold dayBody dayKs at q1
  simp only [List.map_replicate] at q1
  simp [m__law_day, runFn, e__law_day, h1, e1, z1, z3, h2, e2, hs, rgD_eq]
  rw [q1]
  simp
end L_k69
set_option autoImplicit false
set_option linter.all false
set_option maxHeartbeats 4000000
set_option maxRecDepth 100000
namespace L_k69
open PySem PySem.Spec PyProof.Rows L2 PV
abbrev dayP (p : List Int × List Int) : D := day p.1 p.2
theorem alike_ints : ∀ a b : List Int, PySem.W.alikeAll (a.map PyData.int) (b.map PyData.int) = true
  | [], _ => by simp [PySem.W.alikeAll]
  | _ :: _, [] => by simp [PySem.W.alikeAll]
  | x :: a, y :: b => by simp [PySem.W.alikeAll, PySem.W.alike, alike_ints a b]
theorem alike_day (p q : List Int × List Int) : PySem.W.alike (dayP p) (dayP q) = true := by
  simp [PySem.W.alike, PySem.W.alikeAll, alike_ints]
theorem shp_day (n : Nat) (p : List Int × List Int) : shp (n + 2) (dayP p) := shp_tuple fun x hx => by
  rcases List.mem_cons.mp hx with e | hx
  · subst e; exact shp_row n p.1
  · cases List.mem_singleton.mp hx; exact shp_row n p.2
theorem sortOk_days (l : List (List Int × List Int)) : sortOk (l.map dayP) = true := by
  unfold sortOk alikeAllB
  simp only [Bool.and_eq_true, Bool.or_eq_true, List.all_eq_true, decide_eq_true_eq]
  refine ⟨⟨?_, .inl ?_⟩, ?_⟩
  · intro d hd e he
    obtain ⟨p, _, rfl⟩ := List.mem_map.mp hd
    obtain ⟨q, _, rfl⟩ := List.mem_map.mp he
    exact alike_day p q
  · intro d hd
    obtain ⟨p, _, rfl⟩ := List.mem_map.mp hd
    rfl
  · intro d hd
    obtain ⟨p, _, rfl⟩ := List.mem_map.mp hd
    exact Nat.le_trans (shp_day 0 p).2 (by decide)
theorem flat_le {α β : Type} (f : α → List β) (b : Nat) : ∀ l : List α, (∀ x ∈ l, (f x).length ≤ b) → (l.flatMap f).length ≤ l.length * b
  | [], _ => by simp
  | x :: l, h => by
    rw [List.flatMap_cons, List.length_append, List.length_cons, Nat.add_mul]
    have h1 := h x List.mem_cons_self
    have h2 := flat_le f b l fun y hy => h y (List.mem_cons_of_mem _ hy)
    omega
def sd (l : List (List Int × List Int)) : List (List Int × List Int) := l.mergeSort fun p q => PySem.W.dataLe false id (dayP p) (dayP q)
theorem sortD_days (l : List (List Int × List Int)) : sortD (l.map dayP) = (sd l).map dayP :=
  (PySem.W.sort_maps dayP fun a _ b _ => rfl).symm
theorem sd_perm (l : List (List Int × List Int)) : (sd l).Perm l := List.mergeSort_perm _ _
/-! ### the order of days -/
theorem toks_inj : ∀ (a b : List Int) (x y : List (Int ⊕ List Nat)), PySem.W.keyToksAll (a.map PyData.int) ++ x = PySem.W.keyToksAll (b.map PyData.int) ++ y → a = b ∧ x = y
  | [], [], x, y, h => by simpa [PySem.W.keyToksAll] using h
  | [], b :: bs, x, y, h => by simp [PySem.W.keyToksAll] at h
  | a :: as, [], x, y, h => by simp [PySem.W.keyToksAll] at h
  | a :: as, b :: bs, x, y, h => by
    simp [PySem.W.keyToksAll, PySem.W.keyToks] at h
    obtain ⟨h1, h2⟩ := toks_inj as bs x y h.2
    exact ⟨by rw [h.1, h1], h2⟩
theorem day_toks {p q : List Int × List Int} (h : PySem.W.keyToks (dayP p) = PySem.W.keyToks (dayP q)) : p = q := by
  have e : ∀ r : List Int × List Int, PySem.W.keyToks (dayP r) = .inl 1 :: (PySem.W.keyToksAll (r.1.map PyData.int) ++ (.inl 1 :: (PySem.W.keyToksAll (r.2.map PyData.int) ++ [.inl 0]))) := fun r => by
    simp [PySem.W.keyToks, PySem.W.keyToksAll]
  rw [e p, e q] at h
  obtain ⟨h1, h2⟩ := toks_inj _ _ _ _ (List.cons.inj h).2
  obtain ⟨h3, _⟩ := toks_inj _ _ _ _ (List.cons.inj h2).2
  exact Prod.ext h1 h3
def leD (p q : List Int × List Int) : Bool := PySem.W.dataLe false id (dayP p) (dayP q)
theorem leD_total : PySem.W.TotalLe leD := PySem.W.sortLe_total (listOrd itemOrd) false (fun p : List Int × List Int => PySem.W.keyToks (dayP p))
theorem leD_anti {p q : List Int × List Int} (h1 : leD p q = true) (h2 : leD q p = true) : p = q := by
  refine day_toks ((listOrd itemOrd).total _ _ ?_ ?_)
  · have : (!(listOrd itemOrd).blt (PySem.W.keyToks (dayP p)) (PySem.W.keyToks (dayP q))) = true := h2
    simpa using this
  · have : (!(listOrd itemOrd).blt (PySem.W.keyToks (dayP q)) (PySem.W.keyToks (dayP p))) = true := h1
    simpa using this
theorem sd_perm_eq {l m : List (List Int × List Int)} (h : l.Perm m) : sd l = sd m :=
  List.Perm.eq_of_pairwise (le := fun a b => leD a b = true) (fun a b _ _ => leD_anti) (PySem.W.sort_pairwise leD_total l) (PySem.W.sort_pairwise leD_total m) ((sd_perm l).trans (h.trans (sd_perm m).symm))
theorem nodup_flat {α β : Type} {f : α → List β} : ∀ {l : List α}, l.Nodup → (∀ a ∈ l, (f a).Nodup) → (∀ a ∈ l, ∀ b ∈ l, ∀ x, x ∈ f a → x ∈ f b → a = b) → (l.flatMap f).Nodup
  | l, hl, h1, h2 => by
    refine List.pairwise_flatMap.mpr ⟨h1, ?_⟩
    have : l.Pairwise fun a b => a ∈ l ∧ b ∈ l ∧ a ≠ b := by
      refine List.Pairwise.imp_of_mem (R := fun a b => a ≠ b) (fun ha hb hne => ⟨ha, hb, hne⟩) hl
    exact this.imp fun ⟨ha, hb, hne⟩ x hx y hy e => hne (h2 _ ha _ hb x hx (e ▸ hy))
theorem nodup_map {α β : Type} {f : α → β} {l : List α} (hl : l.Nodup) (h : ∀ a ∈ l, ∀ b ∈ l, f a = f b → a = b) : (l.map f).Nodup := by
  refine List.pairwise_map.mpr ?_
  exact List.Pairwise.imp_of_mem (R := fun a b => a ≠ b) (fun ha hb hne e => hne (h _ ha _ hb e)) hl
theorem atI_last {α : Type} (l : List α) (x : α) : atI (l ++ [x]) (-1) = some x := by
  unfold atI ixN
  rw [if_neg (by omega), if_pos (by simp; omega)]
  have e : (-1 + ((l.length : Int) + 1)).toNat = l.length := by omega
  simp [e]

/-! ### rows that stay below a row; what is left -/
theorem snoc_rec {α : Type} {motive : List α → Prop} (nil : motive []) (snoc : ∀ (l : List α) (m : α), motive l → motive (l ++ [m])) (l : List α) : motive l := by
  have : ∀ (n : Nat) (l : List α), l.length = n → motive l := by
    intro n
    induction n with
    | zero => intro l h; rw [List.eq_nil_of_length_eq_zero h]; exact nil
    | succ n ih =>
      intro l h
      rcases List.eq_nil_or_concat l with e | ⟨q, x, e⟩
      · subst e; simp at h
      · rw [List.concat_eq_append] at e
        subst e
        exact snoc q x (ih q (by simpa using h))
  exact this _ l rfl
def extB (m : Int) (rows : List (List Int)) : List (List Int) := rows.flatMap fun r => (List.range (m + 1).toNat).map fun (k : Nat) => r ++ [(k : Int)]
def rowsB (l : List Int) : List (List Int) := l.foldl (fun rows m => extB m rows) [[]]
theorem rowsB_snoc (l : List Int) (m : Int) : rowsB (l ++ [m]) = extB m (rowsB l) := by simp [rowsB]
theorem mem_rowsB : ∀ (l : List Int) (r : List Int), r ∈ rowsB l → r.length = l.length ∧ (∀ x ∈ r, 0 ≤ x) ∧ ∀ (i : Nat) x y, r[i]? = some x → l[i]? = some y → x ≤ y := by
  intro l
  induction l using snoc_rec with
  | nil => intro r h; cases List.mem_singleton.mp h; simp
  | snoc l m ih =>
    intro r h
    rw [rowsB_snoc] at h
    obtain ⟨q, hq, h⟩ := List.mem_flatMap.mp h
    obtain ⟨k, hk, rfl⟩ := List.mem_map.mp h
    obtain ⟨h1, h2, h3⟩ := ih q hq
    have hk := List.mem_range.mp hk
    refine ⟨by simp [h1], fun x hx => ?_, fun i x y hx hy => ?_⟩
    · rcases List.mem_append.mp hx with hx | hx
      · exact h2 x hx
      · cases List.mem_singleton.mp hx; omega
    · by_cases hi : i < l.length
      · rw [List.getElem?_append_left (by omega)] at hx hy
        exact h3 i x y hx hy
      · have hi2 : i = l.length := by
          have := (List.getElem?_eq_some_iff.mp hy).1
          simp at this
          omega
        subst hi2
        rw [← h1] at hx
        simp at hx hy
        omega
theorem pow_bound (m : Int) (h : 0 ≤ m) : (m + 1).toNat ≤ 2 ^ m.toNat := by
  obtain ⟨k, rfl⟩ := Int.eq_ofNat_of_zero_le h
  have : ((k : Int) + 1).toNat = k + 1 := by omega
  rw [this]
  exact Nat.lt_two_pow_self
theorem extB_len (m : Int) : ∀ rows : List (List Int), (extB m rows).length = rows.length * (m + 1).toNat
  | [] => by simp [extB]
  | r :: rows => by
    have e : extB m (r :: rows) = ((List.range (m + 1).toNat).map fun (k : Nat) => r ++ [(k : Int)]) ++ extB m rows := rfl
    rw [e, List.length_append, List.length_map, List.length_range, List.length_cons, extB_len m rows, Nat.add_mul]
    omega
theorem rowsB_len : ∀ (l : List Int), (∀ x ∈ l, 0 ≤ x) → (rowsB l).length ≤ 2 ^ l.sum.toNat := by
  intro l
  induction l using snoc_rec with
  | nil => intro _; simp [rowsB]
  | snoc l m ih =>
    intro h
    have h1 := ih fun x hx => h x (by simp [hx])
    have h2 := h m (by simp)
    have h3 := sum_nn (r := l) fun x hx => h x (by simp [hx])
    have e : (l ++ [m]).sum = l.sum + m := by simp
    have e2 : (l.sum + m).toNat = l.sum.toNat + m.toNat := by omega
    rw [rowsB_snoc, extB_len, e, e2, Nat.pow_add]
    exact Nat.mul_le_mul h1 (pow_bound m h2)
theorem rowsB_app (a : List Int) : ∀ (b : List Int), rowsB (a ++ b) = (rowsB a).flatMap fun r => (rowsB b).map fun s => r ++ s := by
  intro b
  induction b using snoc_rec with
  | nil => simp [rowsB]
  | snoc b m ih =>
    rw [← List.append_assoc, rowsB_snoc, ih, rowsB_snoc]
    unfold extB
    rw [List.flatMap_assoc]
    congr 1
    funext r
    rw [List.map_flatMap, List.flatMap_map]
    congr 1
    funext s
    rw [List.map_map]
    congr 1
    funext k
    simp
theorem rows_below_t (l : List Int) (h0 : ∀ x ∈ l, 0 ≤ x) (hs : l.sum ≤ 20) (hll : l.length ≤ 100) : m_rows_below [.val (row l)] = some (.val (.list ((rowsB l).map row)), []) := by
  have key := evFor_pre (g := gN (.s (.s .z))) (body := (sSet (.s .z) (eComp2 (eIter (eVar (.s .z))) (gN (.s (.s (.s .z)))) etYes (eRange1 (aCons (eBin dAdd (eVar (.s (.s .z))) (eK (.int 1))) aNil)) (gN (.s (.s (.s (.s .z))))) etYes (eTup (aStar (eVar (.s (.s (.s .z)))) (aCons (eVar (.s (.s (.s (.s .z))))) aNil))) [(.s (.s (.s .z))), (.s (.s (.s (.s .z))))] [(.s (.s (.s (.s .z))))]))) (ks := [(.s (.s .z))]) PyData.int l
    (fun pre => [.val (row l), .val (.list ((rowsB pre).map row)), .no, .no, .no]) (fun pre m post e => by
      have hm : 0 ≤ m := h0 m (by rw [e]; simp)
      have hpre : ∀ x ∈ pre, 0 ≤ x := fun x hx => h0 x (by rw [e]; simp [hx])
      have hpost : ∀ x ∈ post, 0 ≤ x := fun x hx => h0 x (by rw [e]; simp [hx])
      have e1 : l.sum = pre.sum + (m + post.sum) := by rw [e]; simp
      have p1 := sum_nn hpre
      have p2 := sum_nn hpost
      have hs2 : small62 (m + 1) = true := small62_int (by omega) (by omega)
      have hl : (rowsB (pre ++ [m])).length ≤ mxL := mxL_ge (by
        have := rowsB_len (pre ++ [m]) (fun x hx => by
          rcases List.mem_append.mp hx with hx | hx
          · exact hpre x hx
          · cases List.mem_singleton.mp hx; exact hm)
        have e2 : (pre ++ [m]).sum = pre.sum + m := by simp
        have : 2 ^ (pre ++ [m]).sum.toNat ≤ 2 ^ 20 := Nat.pow_le_pow_right (by decide) (by rw [e2]; omega)
        have : (2 : Nat) ^ 20 = 1048576 := by decide
        omega)
      have hp : pre.length ≤ 1000000 := by
        rw [e] at hll
        simp at hll
        omega
      simp [stFor]
      rw [evComp2_map row (fun r => (List.range (m + 1).toNat).map fun (k : Nat) => row (r ++ [(k : Int)]))]
      · have e3 : ((rowsB pre).flatMap fun r => (List.range (m + 1).toNat).map fun (k : Nat) => row (r ++ [(k : Int)])) = (rowsB (pre ++ [m])).map row := by
          rw [rowsB_snoc]
          unfold extB
          rw [List.map_flatMap]
          simp [Function.comp_def]
        rw [e3]
        simp [hl]
      · intro r hr
        obtain ⟨r1, _, _⟩ := mem_rowsB pre r hr
        have hz : r.length + 1 ≤ mxL := mxL_ge (by omega)
        simp [stComp2, hs2, rgD_eq]
        rw [evComp_mapT (fun (i : Nat) => PyData.int (i : Int)) (fun k => row (r ++ [(k : Int)]))]
        · simp
        · intro k hk
          simp [stComp, hz])
  have e0 : (rowsB []).map row = [PyData.tuple []] := rfl
  rw [e0] at key
  simp [m_rows_below, runFn, e_rows_below]
  rw [key]
  simp
def subL (a b : List Int) : List Int := (a.zip b).map fun p => p.1 - p.2
theorem rest_of_t (c g a b : List Int) (h1 : c.length ≤ 1000) (h2 : g.length ≤ 1000) : m_rest_of [.val (day c g), .val (day a b)] = some (.val (day (subL c a) (subL g b)), []) := by
  have z1 : min c.length a.length ≤ mxL := mxL_ge (by omega)
  have z2 : min g.length b.length ≤ mxL := mxL_ge (by omega)
  have k1 : ∀ (x y : List Int) (ρ : Rho), True := fun _ _ _ => trivial
  simp [m_rest_of, runFn, e_rest_of, zipD, evComp_cons, stComp, zipD_map, z1, z2]
  rw [evComp_mapT (fun p : Int × Int => .tuple [.int p.1, .int p.2]) (fun p : Int × Int => PyData.int (p.1 - p.2))]
  · simp [z1, z2, zipD_map]
    rw [evComp_mapT (fun p : Int × Int => .tuple [.int p.1, .int p.2]) (fun p : Int × Int => PyData.int (p.1 - p.2))]
    · simp [subL]
    · intro p hp
      simp [stComp]
  · intro p hp
    simp [stComp]
theorem law_rest_t (c g a b : List Int) (h1 : c.length ≤ 1000) (h2 : g.length ≤ 1000) : m__law_rest [.val (day c g), .val (day a b)] = some (.val (day (subL c a) (subL g b)), []) := by
  have z1 : min c.length a.length ≤ mxL := mxL_ge (by omega)
  have z2 : min g.length b.length ≤ mxL := mxL_ge (by omega)
  simp [m__law_rest, runFn, e__law_rest, zipD, evComp_cons, stComp, zipD_map, z1, z2]
  rw [evComp_mapT (fun p : Int × Int => .tuple [.int p.1, .int p.2]) (fun p : Int × Int => PyData.int (p.1 - p.2))]
  · simp [z1, z2, zipD_map]
    rw [evComp_mapT (fun p : Int × Int => .tuple [.int p.1, .int p.2]) (fun p : Int × Int => PyData.int (p.1 - p.2))]
    · simp [subL]
    · intro p hp
      simp [stComp]
  · intro p hp
    simp [stComp]
theorem is_part_by_t (c g a b : List Int) (hc : c.length ≤ 100) (hg : g.length ≤ 100) (ha : a.length ≤ 100) : m_is_part_by [.val (day c g), .val (day a b)] = some (.val (.bool (rightB a b && rightB (subL c a) (subL g b))), []) := by
  have h1 := is_right_by_t a b ha
  have h2 := is_right_by_t (subL c a) (subL g b) (by simp [subL]; omega)
  have h3 := rest_of_t c g a b (by omega) (by omega)
  by_cases z : rightB a b = true
  · simp [m_is_part_by, runFn, e_is_part_by, h1, h2, h3, z]
  · simp [m_is_part_by, runFn, e_is_part_by, h1, z]
end L_k69
set_option autoImplicit false
set_option linter.all false
set_option maxHeartbeats 4000000
set_option maxRecDepth 100000
namespace L_k69
open PySem PySem.Spec PyProof.Rows L2 PV
/-- the first and the rest are right days -/
def okP (c g a b : List Int) : Bool := rightB a b && rightB (subL c a) (subL g b)
def partsL (c g : List Int) : List (List Int × List Int) := (rowsB c).flatMap fun a => ((rowsB g).filter fun b => okP c g a b).map fun b => (a, b)
theorem ok_sum {c g a b : List Int} (h : okP c g a b = true) : a.sum = b.sum := by
  unfold okP at h
  rw [Bool.and_eq_true] at h
  exact (right_iff.mp h.1).1
structure sDay (c g : List Int) : Prop where
  le : c.length = g.length
  l6 : c.length ≤ 6
  pc : ∀ x ∈ c, 0 ≤ x
  pg : ∀ x ∈ g, 0 ≤ x
  sc : c.sum ≤ 7
  sg : g.sum ≤ 7
theorem rows_128 {l : List Int} (h0 : ∀ x ∈ l, 0 ≤ x) (hs : l.sum ≤ 7) : (rowsB l).length ≤ 128 := by
  have := rowsB_len l h0
  have : 2 ^ l.sum.toNat ≤ 2 ^ 7 := Nat.pow_le_pow_right (by decide) (by omega)
  omega
theorem flatP_len {c g : List Int} (h : sDay c g) (pre : List (List Int)) (hp : pre.length ≤ 128) : (pre.flatMap fun a => ((rowsB g).filter fun b => okP c g a b).map fun b => (a, b)).length ≤ 16384 := by
  have := flat_le (fun a => ((rowsB g).filter fun b => okP c g a b).map fun b => (a, b)) 128 pre fun a _ => by
    rw [List.length_map]
    exact Nat.le_trans (List.length_filter_le _ _) (rows_128 h.pg h.sg)
  omega
theorem parts_by_t {c g : List Int} (h : sDay c g) : m_parts_by [.val (day c g)] = some (.new ((partsL c g).map dayP), []) := by
  have hl := h.le
  have h6 := h.l6
  have r1 := rows_below_t g h.pg (by have := h.sg; omega) (by omega)
  have r2 := rows_below_t c h.pc (by have := h.sc; omega) (by omega)
  have b1 := rows_128 h.pc h.sc
  have b2 := rows_128 h.pg h.sg
  have bb : (rowsB g).length ≤ mxL := mxL_ge (by omega)
  have key := evFor_pre (g := gN (.s (.s (.s .z)))) (body := (sExpr (eExtend (.s (.s .z)) (eComp (eIter (eVar (.s .z))) (gN (.s (.s (.s (.s .z))))) (etAnd (eT (eBin dEq (eCall dSum (aCons (eVar (.s (.s (.s (.s .z))))) aNil)) (eCall dSum (aCons (eVar (.s (.s (.s .z)))) aNil)))) (eT (eUser m_is_part_by (aCons (eVar .z) (aCons (eTup (aCons (eVar (.s (.s (.s .z)))) (aCons (eVar (.s (.s (.s (.s .z))))) aNil))) aNil))))) (eTup (aCons (eVar (.s (.s (.s .z)))) (aCons (eVar (.s (.s (.s (.s .z))))) aNil))) [(.s (.s (.s (.s .z))))])))) (ks := [(.s (.s (.s .z)))]) row (rowsB c)
    (fun pre => [.val (day c g), .val (.list ((rowsB g).map row)), .own ((pre.flatMap fun a => ((rowsB g).filter fun b => okP c g a b).map fun b => (a, b)).map dayP), .no, .no]) (fun pre a post e => by
      have ha : a ∈ rowsB c := by rw [e]; simp
      have la := (mem_rowsB c a ha).1
      have hp : pre.length ≤ 127 := by
        rw [e] at b1
        simp at b1
        omega
      have f1 := flatP_len h pre (by omega)
      have f2 : ((rowsB g).filter fun b => okP c g a b).length ≤ 128 := Nat.le_trans (List.length_filter_le _ _) b2
      have f3 : (pre.flatMap fun a => ((rowsB g).filter fun b => okP c g a b).map fun b => (a, b)).length + ((rowsB g).filter fun b => okP c g a b).length ≤ mxL := mxL_ge (by omega)
      simp [stFor, bb]
      rw [evComp_filt row (fun b => day a b) (fun b => okP c g a b)]
      · have e2 : ((rowsB g).filter fun b => okP c g a b).map (fun b => day a b) = (((rowsB g).filter fun b => okP c g a b).map fun b => (a, b)).map dayP := by
          rw [List.map_map]
          rfl
        rw [e2]
        simp [f3, -List.length_flatMap, Function.comp_def]
      · intro b hb
        have hpt := is_part_by_t c g a b (by omega) (by omega) (by omega)
        have eo : okP c g a b = (rightB a b && rightB (subL c a) (subL g b)) := rfl
        by_cases z : okP c g a b = true
        · have zs := ok_sum z
          rw [eo] at z
          rw [z] at hpt
          simp [stComp, hpt, zs, eo, z]
        · have z' : okP c g a b = false := by simpa using z
          have z2 := z'
          rw [eo] at z2
          rw [z2] at hpt
          by_cases zs : b.sum = a.sum
          · simp [stComp, hpt, zs, z']
          · simp [stComp, zs, z'])
  simp only [List.flatMap_nil, List.map_nil] at key
  simp [m_parts_by, runFn, e_parts_by, r1, r2]
  rw [key]
  simp [partsL]
end L_k69
set_option autoImplicit false
set_option linter.all false
set_option maxHeartbeats 4000000
set_option maxRecDepth 100000
namespace L_k69
open PySem PySem.Spec PyProof.Rows L2 PV
def lb__law_parts_1 : Es := (sSet (.s (.s (.s .z))) (eBin dAdd (eVar (.s (.s (.s .z)))) (eComp (eRange1 (aCons (eBin dAdd (eVar (.s (.s .z))) (eK (.int 1))) aNil)) (gN (.s (.s (.s (.s (.s (.s (.s (.s .z))))))))) etYes (eBin dAdd (eVar (.s (.s (.s (.s .z))))) (eTup (aCons (eVar (.s (.s (.s (.s (.s (.s (.s (.s .z))))))))) aNil))) [(.s (.s (.s (.s (.s (.s (.s (.s .z))))))))])))
def lk__law_parts_1 : List Ix := [(.s (.s (.s (.s .z))))]
def lb__law_parts_2 : Es := (sSeq (sSet (.s (.s (.s .z))) (eLst aNil)) (sSeq (sFor (eIter (eVar (.s .z))) (gN (.s (.s (.s (.s .z))))) (sSet (.s (.s (.s .z))) (eBin dAdd (eVar (.s (.s (.s .z)))) (eComp (eRange1 (aCons (eBin dAdd (eVar (.s (.s .z))) (eK (.int 1))) aNil)) (gN (.s (.s (.s (.s (.s (.s (.s (.s .z))))))))) etYes (eBin dAdd (eVar (.s (.s (.s (.s .z))))) (eTup (aCons (eVar (.s (.s (.s (.s (.s (.s (.s (.s .z))))))))) aNil))) [(.s (.s (.s (.s (.s (.s (.s (.s .z))))))))]))) [(.s (.s (.s (.s .z))))]) (sSet (.s .z) (eVar (.s (.s (.s .z)))))))
def lk__law_parts_2 : List Ix := [(.s (.s .z)), (.s (.s (.s .z))), (.s (.s (.s (.s .z))))]
def lb__law_parts_3 : Es := (sSeq (sSet (.s (.s (.s (.s (.s (.s (.s .z))))))) (eTup (aCons (eSl (eVar (.s (.s (.s (.s .z))))) none (some (eVar (.s (.s (.s (.s (.s .z)))))))) (aCons (eSl (eVar (.s (.s (.s (.s .z))))) (some (eVar (.s (.s (.s (.s (.s .z))))))) none) aNil)))) (sIf (etAnd (eT (eUser m__law_is_right (aCons (eVar (.s (.s (.s (.s (.s (.s (.s .z)))))))) aNil))) (eT (eUser m__law_is_right (aCons (eUser m__law_rest (aCons (eVar .z) (aCons (eVar (.s (.s (.s (.s (.s (.s (.s .z)))))))) aNil))) aNil)))) (sExpr (eAppend (.s (.s (.s (.s (.s (.s .z)))))) (eVar (.s (.s (.s (.s (.s (.s (.s .z)))))))))) sNil))
def lk__law_parts_3 : List Ix := [(.s (.s (.s (.s .z)))), (.s (.s (.s (.s (.s (.s (.s .z)))))))]
abbrev stP (c g : List Int) (R : List (List Int)) (s2 s3 : B) : Rho := [.val (day c g), .val (.list (R.map row)), s2, s3, .no, .no, .no, .no, .no]
theorem lp_inner {c g : List Int} {R : List (List Int)} {m : Int} (hm : 0 ≤ m) (hm7 : m ≤ 1000) (hR : ∀ r ∈ R, r.length ≤ 1000) (hz : (extB m R).length ≤ 1000000) :
    evFor (gN (.s (.s (.s (.s .z))))) lb__law_parts_1 lk__law_parts_1 (R.map row) (stP c g R (.val (.int m)) (.val (.list []))) = some (.nx (stP c g R (.val (.int m)) (.val (.list ((extB m R).map row))))) := by
  refine evFor_pre row R (fun pre => stP c g R (.val (.int m)) (.val (.list ((extB m pre).map row)))) fun pre x post e => ?_
  have hx : x ∈ R := by rw [e]; simp
  have hs : small62 (m + 1) = true := small62_int (by omega) (by omega)
  have e3 : extB m (pre ++ [x]) = extB m pre ++ ((List.range (m + 1).toNat).map fun (k : Nat) => x ++ [(k : Int)]) := by simp [extB]
  have e2 : extB m R = extB m pre ++ ((List.range (m + 1).toNat).map fun (k : Nat) => x ++ [(k : Int)]) ++ extB m post := by rw [e]; simp [extB]
  have h1 : (extB m pre).length + (m + 1).toNat ≤ mxL := mxL_ge (by
    rw [e2] at hz
    simp only [List.length_append, List.length_map, List.length_range] at hz
    omega)
  have h2 : (m + 1).toNat ≤ mxL := mxL_ge (by omega)
  have h3 : x.length + 1 ≤ mxL := mxL_ge (by have := hR x hx; omega)
  simp [stFor, lb__law_parts_1, lk__law_parts_1, hs, rgD_eq, h2]
  rw [evComp_mapT (fun (i : Nat) => PyData.int (i : Int)) (fun k => row (x ++ [(k : Int)]))]
  · simp [h1, e3, Function.comp_def]
  · intro k hk
    simp [stComp, h3]
def cutP (c g : List Int) (n : Nat) (r : List Int) : Option (List Int × List Int) := if okP c g (r.take n) (r.drop n) = true then some (r.take n, r.drop n) else none
theorem cutP_all (c g : List Int) : (rowsB (c ++ g)).filterMap (cutP c g c.length) = partsL c g := by
  rw [rowsB_app, List.filterMap_flatMap]
  unfold partsL
  have key : ∀ (a : List Int), a.length = c.length → ((rowsB g).map fun s => a ++ s).filterMap (cutP c g c.length) = ((rowsB g).filter fun b => okP c g a b).map fun b => (a, b) := by
    intro a ha
    rw [List.filterMap_map]
    induction rowsB g with
    | nil => rfl
    | cons b l ih =>
      have e1 : (a ++ b).take c.length = a := by rw [← ha]; simp
      have e2 : (a ++ b).drop c.length = b := by rw [← ha]; simp
      have e3 : (cutP c g c.length ∘ fun s => a ++ s) b = if okP c g a b = true then some (a, b) else none := by
        simp only [Function.comp_apply, cutP, e1, e2]
      rw [List.filterMap_cons, e3]
      by_cases z : okP c g a b = true
      · simp [z, ih]
      · simp [z, ih]
  have all : ∀ l : List (List Int), (∀ a ∈ l, a.length = c.length) → (l.flatMap fun a => ((rowsB g).map fun s => a ++ s).filterMap (cutP c g c.length)) = l.flatMap fun a => ((rowsB g).filter fun b => okP c g a b).map fun b => (a, b) := by
    intro l
    induction l with
    | nil => intro _; rfl
    | cons a l ih =>
      intro h
      rw [List.flatMap_cons, List.flatMap_cons, key a (h a List.mem_cons_self), ih fun x hx => h x (List.mem_cons_of_mem _ hx)]
  exact all _ fun a ha => (mem_rowsB c a ha).1
theorem law_parts_t {c g : List Int} (h : sDay c g) : m__law_parts [.val (day c g)] = some (.new ((sd (partsL c g)).map dayP), []) := by
  have hl := h.le
  have h6 := h.l6
  have hnn : ∀ x ∈ c ++ g, 0 ≤ x := fun x hx => by
    rcases List.mem_append.mp hx with hx | hx
    · exact h.pc x hx
    · exact h.pg x hx
  have hb : (rowsB (c ++ g)).length ≤ 16384 := by
    have := rowsB_len (c ++ g) hnn
    have e : (c ++ g).sum = c.sum + g.sum := by simp
    have : 2 ^ (c ++ g).sum.toNat ≤ 2 ^ 14 := Nat.pow_le_pow_right (by decide) (by rw [e]; have := h.sc; have := h.sg; omega)
    omega
  have z1 : c.length + g.length ≤ mxL := mxL_ge (by omega)
  have loop1 := evFor_pre (g := gN (.s (.s .z))) (body := lb__law_parts_2) (ks := lk__law_parts_2) PyData.int (c ++ g) (fun pre => stP c g (rowsB pre) .no .no) (fun pre m post e => by
    have hm : 0 ≤ m := hnn m (by rw [e]; simp)
    have hpre : ∀ x ∈ pre, 0 ≤ x := fun x hx => hnn x (by rw [e]; simp [hx])
    have hpost : ∀ x ∈ post, 0 ≤ x := fun x hx => hnn x (by rw [e]; simp [hx])
    have e1 : (c ++ g).sum = pre.sum + (m + post.sum) := by rw [e]; simp
    have e1' : (c ++ g).sum = c.sum + g.sum := by simp
    have p1 := sum_nn hpre
    have p2 := sum_nn hpost
    have hc := h.sc
    have hg := h.sg
    have hpl : pre.length ≤ 12 := by
      have := congrArg List.length e
      simp at this
      omega
    have hz : (extB m (rowsB pre)).length ≤ 1000000 := by
      rw [← rowsB_snoc]
      have := rowsB_len (pre ++ [m]) (fun x hx => by
        rcases List.mem_append.mp hx with hx | hx
        · exact hpre x hx
        · cases List.mem_singleton.mp hx; exact hm)
      have e2 : (pre ++ [m]).sum = pre.sum + m := by simp
      have : 2 ^ (pre ++ [m]).sum.toNat ≤ 2 ^ 14 := Nat.pow_le_pow_right (by decide) (by rw [e2]; omega)
      omega
    have inn := lp_inner (c := c) (g := g) (R := rowsB pre) hm (by omega) (fun r hr => by have := (mem_rowsB pre r hr).1; omega) hz
    unfold lb__law_parts_1 lk__law_parts_1 stP at inn
    simp [stFor, lb__law_parts_2, lk__law_parts_2, inn, rowsB_snoc])
  have loop2 := evFor_pre (g := gN (.s (.s (.s (.s .z))))) (body := lb__law_parts_3) (ks := lk__law_parts_3) row (rowsB (c ++ g))
    (fun pre => [.val (day c g), .val (.list ((rowsB (c ++ g)).map row)), .no, .no, .no, .val (.int (c.length : Int)), .own ((pre.filterMap (cutP c g c.length)).map dayP), .no, .no]) (fun pre r post e => by
      have hr : r ∈ rowsB (c ++ g) := by rw [e]; simp
      have lr := (mem_rowsB (c ++ g) r hr).1
      have lr2 : r.length = c.length + g.length := by simpa using lr
      have t1 := cutD_to (r.map PyData.int) c.length
      have t2 := cutD_from (r.map PyData.int) c.length
      rw [← List.map_take] at t1
      rw [← List.map_drop] at t2
      have i1 := law_is_right_t (a := r.take c.length) (b := r.drop c.length) (by simp; omega)
      have i2 := law_is_right_t (a := subL c (r.take c.length)) (b := subL g (r.drop c.length)) (by simp [subL]; omega)
      have i3 := law_rest_t c g (r.take c.length) (r.drop c.length) (by omega) (by omega)
      have hz : (pre.filterMap (cutP c g c.length)).length < mxL := Nat.lt_of_lt_of_le (show _ < 16000000 by
        have := List.length_filterMap_le (cutP c g c.length) pre
        rw [e] at hb
        simp at hb
        omega) (by decide)
      have ef : cutP c g c.length r = if okP c g (r.take c.length) (r.drop c.length) = true then some (r.take c.length, r.drop c.length) else none := rfl
      have eo : okP c g (r.take c.length) (r.drop c.length) = (rightB (r.take c.length) (r.drop c.length) && rightB (subL c (r.take c.length)) (subL g (r.drop c.length))) := rfl
      generalize ha : r.take c.length = a at *
      generalize hbb : r.drop c.length = b at *
      by_cases y1 : rightB a b = true
      · by_cases y2 : rightB (subL c a) (subL g b) = true
        · have : okP c g a b = true := by rw [eo, y1, y2]; rfl
          rw [if_pos this] at ef
          simp [stFor, lb__law_parts_3, lk__law_parts_3, t1, t2, i1, i2, i3, y1, y2, hz, List.filterMap_append, ef]
        · have : ¬ okP c g a b = true := by rw [eo, y1]; simpa using y2
          rw [if_neg this] at ef
          simp [stFor, lb__law_parts_3, lk__law_parts_3, t1, t2, i1, i2, i3, y1, y2, List.filterMap_append, ef]
      · have : ¬ okP c g a b = true := by rw [eo]; simp [y1]
        rw [if_neg this] at ef
        simp [stFor, lb__law_parts_3, lk__law_parts_3, t1, t2, i1, y1, List.filterMap_append, ef])
  rw [cutP_all] at loop2
  have e0 : (rowsB []).map row = [PyData.tuple []] := rfl
  unfold stP lb__law_parts_2 lk__law_parts_2 at loop1
  unfold lb__law_parts_3 lk__law_parts_3 at loop2
  rw [e0] at loop1
  simp only [List.filterMap_nil, List.map_nil] at loop2
  have hs := sortD_days (partsL c g)
  rw [List.map_append] at loop1
  simp [m__law_parts, runFn, e__law_parts, z1]
  rw [loop1]
  simp
  rw [loop2]
  simp [sortOk_days, hs]
end L_k69
set_option autoImplicit false
set_option linter.all false
set_option maxHeartbeats 4000000
set_option maxRecDepth 100000
namespace L_k69
open PySem PySem.Spec PyProof.Rows L2 PV
/-! ### who is there -/
def presL : List Int → List Int → List Int
  | x :: a, y :: b => (x - y) :: (presL a b).map (fun z => x - y + z)
  | _, _ => []
theorem presL_len : ∀ (a b : List Int), a.length = b.length → (presL a b).length = a.length
  | [], [], _ => rfl
  | x :: a, y :: b, h => by simp [presL, presL_len a b (by simpa using h)]
theorem presL_at : ∀ (a b : List Int), a.length = b.length → (List.range a.length).map (fun t => there a b t + a[t]?.getD 0) = presL a b
  | [], [], _ => rfl
  | x :: a, y :: b, h => by
    have ih := presL_at a b (by simpa using h)
    rw [List.length_cons, List.range_succ_eq_map, List.map_cons, List.map_map]
    have e0 : there (x :: a) (y :: b) 0 + (x :: a)[0]?.getD 0 = x - y := by simp [there]; omega
    rw [e0]
    show _ = (x - y) :: (presL a b).map (fun z => x - y + z)
    rw [← ih, List.map_map]
    congr 1
    refine List.map_congr_left fun t _ => ?_
    simp [there]
    omega
theorem present_by_t {a b : List Int} (h : a.length = b.length) (hl : a.length ≤ 100) : m_present_by [.val (day a b)] = some (.val (row (presL a b)), []) := by
  have hs : small62 (a.length : Int) = true := small62_nat (by omega)
  have hz : a.length ≤ mxL := mxL_ge (by omega)
  have e := presL_at a b h
  simp [m_present_by, runFn, e_present_by, ticks_of_t, hs, rgD_eq, hz]
  rw [evComp_mapT (fun (i : Nat) => PyData.int (i : Int)) (fun t => PyData.int (there a b t + a[t]?.getD 0))]
  · rw [← e]
    simp
  · intro t ht
    have ht := List.mem_range.mp ht
    have ha : atI (a.map PyData.int) (t : Int) = some (.int a[t]) := atI_ints ht
    simp [stComp, there_by_t, ha, ht]
theorem law_present_t {a b : List Int} (h : a.length = b.length) (hl : a.length ≤ 100) : m__law_present [.val (day a b)] = some (.val (row (presL a b)), []) := by
  have key : ∀ (l : List (Int × Int)) (acc : List Int) (s : Int), acc.length + l.length ≤ 200 → evFor (gT 2 (gsCons (gN (.s (.s (.s .z)))) (gsCons (gN (.s (.s (.s (.s .z))))) gsNil))) (sSeq (sSet (.s (.s .z)) (eBin dAdd (eBin dSub (eVar (.s (.s .z))) (eVar (.s (.s (.s (.s .z)))))) (eVar (.s (.s (.s .z))))))
  (sExpr (eAppend (.s .z) (eVar (.s (.s .z)))))) [(.s (.s (.s .z))), (.s (.s (.s (.s .z))))] (l.map fun p => .tuple [.int p.1, .int p.2]) [.val (day a b), .own (acc.map PyData.int), .val (.int s), .no, .no] =
      some (.nx [.val (day a b), .own ((acc ++ (presL (l.map (·.1)) (l.map (·.2))).map (fun z => s + z)).map PyData.int), .val (.int (s + (l.map (·.1)).sum - (l.map (·.2)).sum)), .no, .no]) := by
    intro l
    induction l with
    | nil => intro acc s _; simp [presL]
    | cons p l ih =>
      intro acc s hlen
      simp only [List.length_cons] at hlen
      have hz : acc.length < mxL := Nat.lt_of_lt_of_le (show acc.length < 16000000 by omega) (by decide)
      have ih := ih (acc ++ [s - p.2 + p.1]) (s - p.2 + p.1) (by simp; omega)
      rw [List.map_cons, evFor_cons]
      simp [stFor, hz]
      simp at ih
      rw [ih]
      simp [presL]
      refine ⟨⟨by omega, ?_⟩, by omega⟩
      intro z hz
      omega
  have e1 : (a.zip b).map (·.1) = a := by rw [List.map_fst_zip]; omega
  have e2 : (a.zip b).map (·.2) = b := by rw [List.map_snd_zip]; omega
  have key := key (a.zip b) [] 0 (by simp; omega)
  rw [e1, e2] at key
  simp only [List.map_nil, List.nil_append] at key
  simp [m__law_present, runFn, e__law_present, zipD_map]
  rw [key]
  simp
end L_k69
set_option autoImplicit false
set_option linter.all false
set_option maxHeartbeats 4000000
set_option maxRecDepth 100000
namespace L_k69
open PySem PySem.Spec PyProof.Rows L2 PV
def mxI : List Int → Int
  | [] => 0
  | x :: xs => xs.foldl max x
theorem foldl_max : ∀ (xs : List Int) (x : Int), (xs.foldl max x = x ∨ xs.foldl max x ∈ xs) ∧ x ≤ xs.foldl max x ∧ ∀ y ∈ xs, y ≤ xs.foldl max x
  | [], x => by simp
  | z :: xs, x => by
    obtain ⟨h1, h2, h3⟩ := foldl_max xs (max x z)
    rw [List.foldl_cons]
    refine ⟨?_, by omega, fun y hy => ?_⟩
    · rcases h1 with h1 | h1
      · rw [h1]
        by_cases q : x ≤ z
        · right; rw [Int.max_eq_right q]; simp
        · left; exact Int.max_eq_left (by omega)
      · right; exact List.mem_cons_of_mem _ h1
    · rcases List.mem_cons.mp hy with e | hy
      · subst e; omega
      · exact h3 y hy
theorem mxI_spec {l : List Int} (h : l ≠ []) : mxI l ∈ l ∧ ∀ y ∈ l, y ≤ mxI l := by
  cases l with
  | nil => exact absurd rfl h
  | cons x xs =>
    obtain ⟨h1, h2, h3⟩ := foldl_max xs x
    refine ⟨?_, fun y hy => ?_⟩
    · rcases h1 with h1 | h1
      · show xs.foldl max x ∈ _
        rw [h1]; simp
      · exact List.mem_cons_of_mem _ h1
    · rcases List.mem_cons.mp hy with e | hy
      · subst e; exact h2
      · exact h3 y hy
theorem cmpOk_ints (l : List Int) : cmpOk (l.map PyData.int) = true := by
  unfold cmpOk alikeAllB
  simp only [Bool.and_eq_true, List.all_eq_true, decide_eq_true_eq]
  refine ⟨⟨fun d hd e he => ?_, (depthAll_le 64 _).mpr fun x hx => ?_⟩, fun d hd => ?_⟩
  · obtain ⟨i, _, rfl⟩ := List.mem_map.mp hd
    obtain ⟨j, _, rfl⟩ := List.mem_map.mp he
    simp [PySem.W.alike]
  · obtain ⟨i, _, rfl⟩ := List.mem_map.mp hx
    simp [PyData.depth]
  · obtain ⟨i, _, rfl⟩ := List.mem_map.mp hd
    rfl
theorem dMaxX_l {l : List Int} (h : l ≠ []) : dMaxX [.list (l.map PyData.int)] = some (.val (.int (mxI l))) := by
  cases l with
  | nil => exact absurd rfl h
  | cons x xs =>
    have := cmpOk_ints (x :: xs)
    rw [List.map_cons] at this ⊢
    show (if cmpOk _ = true then some (AV.val (PySem.W.maxD _ _)) else none) = _
    rw [if_pos this, PySem.W.maxD_ints]
    rfl
theorem dMaxX_t {l : List Int} (h : l ≠ []) : dMaxX [.tuple (l.map PyData.int)] = some (.val (.int (mxI l))) := by
  cases l with
  | nil => exact absurd rfl h
  | cons x xs =>
    have := cmpOk_ints (x :: xs)
    rw [List.map_cons] at this ⊢
    show (if cmpOk _ = true then some (AV.val (PySem.W.maxD _ _)) else none) = _
    rw [if_pos this, PySem.W.maxD_ints]
    rfl
def crowdV (c g : List Int) (p : List Int × List Int) : Int := mxI (presL p.1 p.2 ++ presL (subL c p.1) (subL g p.2))
def absI (x : Int) : Int := if x < 0 then -x else x
def unevV (c g : List Int) (p : List Int × List Int) : Int := (((presL p.1 p.2).zip (presL (subL c p.1) (subL g p.2))).map fun q => absI (q.1 - q.2)).sum
structure isP (c g : List Int) (p : List Int × List Int) : Prop where
  l1 : p.1.length = c.length
  l2 : p.2.length = g.length
  le : c.length = g.length
  ne : 1 ≤ c.length
  l6 : c.length ≤ 6
theorem crowd_by_t {c g : List Int} {p : List Int × List Int} (h : isP c g p) : m_crowd_by [.val (day c g), .val (dayP p)] = some (.val (.int (crowdV c g p)), []) := by
  obtain ⟨a, b⟩ := p
  obtain ⟨l1, l2, le, ne, l6⟩ := h
  simp only at l1 l2
  have h1 := present_by_t (a := a) (b := b) (by omega) (by omega)
  have h2 := present_by_t (a := subL c a) (b := subL g b) (by simp [subL]; omega) (by simp [subL]; omega)
  have h3 := rest_of_t c g a b (by omega) (by omega)
  have n1 := presL_len a b (by omega)
  have n2 := presL_len (subL c a) (subL g b) (by simp [subL]; omega)
  have n3 : (subL c a).length = c.length := by simp [subL]; omega
  have hz : (presL a b).length + (presL (subL c a) (subL g b)).length ≤ mxL := mxL_ge (by omega)
  have hne : presL a b ++ presL (subL c a) (subL g b) ≠ [] := fun z => by
    have := congrArg List.length z
    simp only [List.length_append, List.length_nil] at this
    omega
  have hm := dMaxX_l hne
  rw [List.map_append] at hm
  simp [m_crowd_by, runFn, e_crowd_by, h1, h2, h3, hz, hm, crowdV]
theorem law_crowd_t {c g : List Int} {p : List Int × List Int} (h : isP c g p) : m__law_crowd [.val (day c g), .val (dayP p)] = some (.val (.int (crowdV c g p)), []) := by
  obtain ⟨a, b⟩ := p
  obtain ⟨l1, l2, le, ne, l6⟩ := h
  simp only at l1 l2
  have h1 := law_present_t (a := a) (b := b) (by omega) (by omega)
  have h2 := law_present_t (a := subL c a) (b := subL g b) (by simp [subL]; omega) (by simp [subL]; omega)
  have h3 := law_rest_t c g a b (by omega) (by omega)
  have n1 := presL_len a b (by omega)
  have n2 := presL_len (subL c a) (subL g b) (by simp [subL]; omega)
  have n3 : (subL c a).length = c.length := by simp [subL]; omega
  have hz : (presL a b).length + (presL (subL c a) (subL g b)).length ≤ mxL := mxL_ge (by omega)
  have hne : presL a b ++ presL (subL c a) (subL g b) ≠ [] := fun z => by
    have := congrArg List.length z
    simp only [List.length_append, List.length_nil] at this
    omega
  have hm := dMaxX_t hne
  rw [List.map_append] at hm
  simp [m__law_crowd, runFn, e__law_crowd, h1, h2, h3, hz, hm, crowdV]
theorem apart_by_t {c g : List Int} {p : List Int × List Int} (h : isP c g p) : m_apart_by [.val (day c g), .val (dayP p)] = some (.val (.int (unevV c g p)), []) := by
  obtain ⟨a, b⟩ := p
  obtain ⟨l1, l2, le, ne, l6⟩ := h
  simp only at l1 l2
  have h1 := present_by_t (a := a) (b := b) (by omega) (by omega)
  have h2 := present_by_t (a := subL c a) (b := subL g b) (by simp [subL]; omega) (by simp [subL]; omega)
  have h3 := rest_of_t c g a b (by omega) (by omega)
  have n1 := presL_len a b (by omega)
  have n2 := presL_len (subL c a) (subL g b) (by simp [subL]; omega)
  have n3 : (subL c a).length = c.length := by simp [subL]; omega
  have hz : min (presL a b).length (presL (subL c a) (subL g b)).length ≤ mxL := mxL_ge (by omega)
  simp [m_apart_by, runFn, e_apart_by, h1, h2, h3, zipD_map, hz]
  rw [evComp_mapT (fun p : Int × Int => .tuple [.int p.1, .int p.2]) (fun p : Int × Int => PyData.int (absI (p.1 - p.2)))]
  · simp [unevV]
  · intro x hx
    simp [stComp, absI]
theorem law_uneven_t {c g : List Int} {p : List Int × List Int} (h : isP c g p) : m__law_uneven [.val (day c g), .val (dayP p)] = some (.val (.int (unevV c g p)), []) := by
  obtain ⟨a, b⟩ := p
  obtain ⟨l1, l2, le, ne, l6⟩ := h
  simp only at l1 l2
  have h1 := law_present_t (a := a) (b := b) (by omega) (by omega)
  have h2 := law_present_t (a := subL c a) (b := subL g b) (by simp [subL]; omega) (by simp [subL]; omega)
  have h3 := law_rest_t c g a b (by omega) (by omega)
  have n1 := presL_len a b (by omega)
  have n2 := presL_len (subL c a) (subL g b) (by simp [subL]; omega)
  have n3 : (subL c a).length = c.length := by simp [subL]; omega
  have hz : min (presL a b).length (presL (subL c a) (subL g b)).length ≤ mxL := mxL_ge (by omega)
  simp [m__law_uneven, runFn, e__law_uneven, h1, h2, h3, zipD_map, hz]
  rw [evComp_mapT (fun p : Int × Int => .tuple [.int p.1, .int p.2]) (fun p : Int × Int => PyData.int (absI (p.1 - p.2)))]
  · simp [unevV]
  · intro x hx
    simp [stComp, absI]
end L_k69
set_option autoImplicit false
set_option linter.all false
set_option maxHeartbeats 4000000
set_option maxRecDepth 100000
namespace L_k69
open PySem PySem.Spec PyProof.Rows L2 PV
/-! ### the least of pairs (number, day) -/
def T (f : List Int × List Int → Int) (p : List Int × List Int) : D := .tuple [.int (f p), dayP p]
def ltD (p q : List Int × List Int) : Bool := PySem.W.dataLt (dayP p) (dayP q)
theorem leD_lt (p q : List Int × List Int) : leD p q = !ltD q p := rfl
theorem lt_T (f : List Int × List Int → Int) (p q : List Int × List Int) : PySem.W.dataLt (T f p) (T f q) = (decide (f p < f q) || (decide (f p = f q) && ltD p q)) := by
  have e : ∀ r, PySem.W.keyToks (T f r) = .inl 1 :: .inl (f r) :: .inl 1 :: (PySem.W.keyToks (dayP r) ++ [.inl 0]) := fun r => by
    simp [T, PySem.W.keyToks, PySem.W.keyToksAll]
  unfold PySem.W.dataLt
  rw [e p, e q, lex_self]
  by_cases h : f p = f q
  · rw [h, lex_self, lex_self]
    have h2 : ¬ f q < f q := by omega
    simp only [h2, decide_false, decide_true, Bool.false_or, Bool.true_and]
    by_cases hpq : p = q
    · subst hpq
      rw [lex_irrefl]
      exact (lex_irrefl _).symm
    · have he : PyData.eqv (dayP p) (dayP q) = false := by
        cases z : PyData.eqv (dayP p) (dayP q) with
        | false => rfl
        | true => exact absurd (day_toks ((PySem.W.toks_eqv _ _ (alike_day p q)).1 z)) hpq
      exact (PySem.W.toks_eqv _ _ (alike_day p q)).2 he _ _
  · rw [lex_diff (fun z => h (Sum.inl.inj z))]
    show decide (f p < f q) = _
    simp [h]
theorem fold_least : ∀ (xs : List D) (x : D), ∀ y ∈ x :: xs, PySem.W.dataLt y (PySem.W.minD x xs) = false
  | [], x, y, hy => by
    cases List.mem_singleton.mp hy
    exact lex_irrefl _
  | z :: xs, x, y, hy => by
    have e : PySem.W.minD x (z :: xs) = PySem.W.minD (if PySem.W.dataLt z x then z else x) xs := rfl
    rw [e]
    have ih := fold_least xs (if PySem.W.dataLt z x then z else x)
    have h0 := ih _ List.mem_cons_self
    have key : ∀ w, PySem.W.dataLt w (if PySem.W.dataLt z x then z else x) = false → PySem.W.dataLt w (PySem.W.minD (if PySem.W.dataLt z x then z else x) xs) = false := fun w hw => by
      cases q : PySem.W.dataLt w (PySem.W.minD (if PySem.W.dataLt z x then z else x) xs) with
      | false => rfl
      | true =>
        rcases (listOrd itemOrd).negTrans _ (PySem.W.keyToks (if PySem.W.dataLt z x then z else x)) _ q with u | u
        · have u : PySem.W.dataLt w (if PySem.W.dataLt z x then z else x) = true := u
          rw [hw] at u
          cases u
        · have u : PySem.W.dataLt (if PySem.W.dataLt z x then z else x) (PySem.W.minD (if PySem.W.dataLt z x then z else x) xs) = true := u
          rw [h0] at u
          cases u
    rcases List.mem_cons.mp hy with rfl | hy
    · refine key _ ?_
      by_cases c : PySem.W.dataLt z y = true
      · rw [if_pos c]
        cases q : PySem.W.dataLt y z with
        | false => rfl
        | true =>
          have := (listOrd itemOrd).trans _ _ _ c q
          rw [(listOrd itemOrd).irrefl] at this
          cases this
      · rw [if_neg c]
        exact lex_irrefl _
    · rcases List.mem_cons.mp hy with rfl | hy
      · refine key _ ?_
        by_cases c : PySem.W.dataLt y x = true
        · rw [if_pos c]
          exact lex_irrefl _
        · rw [if_neg c]
          simpa using c
      · exact ih y (List.mem_cons_of_mem _ hy)
/-- the first of the sorted that has the least number -/
theorem min_T {f : List Int × List Int → Int} {L : List (List Int × List Int)} {p0 : List Int × List Int} {ps : List (List Int × List Int)} (hL : L = p0 :: ps) {m : Int} (hm : m ∈ L.map f) (hm2 : ∀ p ∈ L, m ≤ f p) {j : Nat} {q : List Int × List Int}
    (hq : (sd L)[j]? = some q) (hf : f q = m) (hj : ∀ i p, i < j → (sd L)[i]? = some p → f p ≠ m) : PySem.W.minD (T f p0) (ps.map (T f)) = T f q := by
  have hmem := minD_mem (T f p0) (ps.map (T f))
  have hleast := fold_least (ps.map (T f)) (T f p0)
  rw [← List.map_cons, ← hL] at hmem hleast
  obtain ⟨p, hp, ep⟩ := List.mem_map.mp hmem
  rw [← ep]
  have hpq : ∀ x ∈ L, PySem.W.dataLt (T f x) (T f p) = false := fun x hx => by rw [ep]; exact hleast _ (List.mem_map.mpr ⟨x, hx, rfl⟩)
  obtain ⟨x, hx, ex⟩ := List.mem_map.mp hm
  have fp : f p = m := by
    have h1 := hm2 p hp
    have h2 := hpq x hx
    rw [lt_T, Bool.or_eq_false_iff] at h2
    have := h2.1
    simp only [decide_eq_false_iff_not] at this
    omega
  have hqL : q ∈ L := (sd_perm L).mem_iff.mp (List.mem_of_getElem? hq)
  have l1 : leD p q = true := by
    have := hpq q hqL
    rw [lt_T, fp, hf] at this
    simp at this
    rw [leD_lt, this]
    rfl
  have hpS : p ∈ sd L := (sd_perm L).mem_iff.mpr hp
  obtain ⟨i, hi, ei⟩ := List.mem_iff_getElem.mp hpS
  have hji : j ≤ i := Nat.le_of_not_lt fun z => hj i p z (by rw [List.getElem?_eq_getElem hi, ei]) fp
  obtain ⟨hjl, ej⟩ := List.getElem?_eq_some_iff.mp hq
  have l2 : leD q p = true := by
    rcases Nat.lt_or_eq_of_le hji with z | z
    · have := List.pairwise_iff_getElem.mp (PySem.W.sort_pairwise leD_total L) j i hjl hi z
      have e1 : (sd L)[j] = q := ej
      have e2 : (sd L)[i] = p := ei
      rw [← e1, ← e2]
      exact this
    · subst z
      have : q = p := by rw [← ej, ← ei]
      rw [this]
      exact leD_total.refl p
  rw [leD_anti l1 l2]
end L_k69
set_option autoImplicit false
set_option linter.all false
set_option maxHeartbeats 4000000
set_option maxRecDepth 100000
namespace L_k69
open PySem PySem.Spec PyProof.Rows L2 PV
theorem cmpOk_T (f : List Int × List Int → Int) (L : List (List Int × List Int)) : cmpOk (L.map (T f)) = true := by
  unfold cmpOk alikeAllB
  simp only [Bool.and_eq_true, List.all_eq_true, decide_eq_true_eq]
  refine ⟨⟨fun d hd e he => ?_, (depthAll_le 64 _).mpr fun x hx => ?_⟩, fun d hd => ?_⟩
  · obtain ⟨i, _, rfl⟩ := List.mem_map.mp hd
    obtain ⟨j, _, rfl⟩ := List.mem_map.mp he
    have := alike_day i j
    simp [T, PySem.W.alike, PySem.W.alikeAll] at this ⊢
    exact this
  · obtain ⟨p, _, rfl⟩ := List.mem_map.mp hx
    have : shp 3 (T f p) := shp_tuple fun x hx => by
      rcases List.mem_cons.mp hx with e | hx
      · subst e; exact shp_int 2 _
      · cases List.mem_singleton.mp hx; exact shp_day 0 p
    exact Nat.le_trans this.2 (by decide)
  · obtain ⟨i, _, rfl⟩ := List.mem_map.mp hd
    rfl
theorem dMinX_T (f : List Int × List Int → Int) (p0 : List Int × List Int) (ps : List (List Int × List Int)) : dMinX [.list ((p0 :: ps).map (T f))] = some (.val (PySem.W.minD (T f p0) (ps.map (T f)))) := by
  have := cmpOk_T f (p0 :: ps)
  rw [List.map_cons] at this ⊢
  show (if cmpOk _ = true then some (AV.val (PySem.W.minD _ _)) else none) = _
  rw [if_pos this]
structure vDay (c g : List Int) : Prop where
  s : sDay c g
  ne : 1 ≤ c.length
  rt : rightB c g = true
  pp : 0 < c.sum
theorem vDay.cok {c g : List Int} (h : vDay c g) : cOk c ∧ cOk g := by
  have hl := h.s.le
  exact ⟨⟨h.ne, h.s.l6, fun x hx => ⟨h.s.pc x hx, Int.le_trans (le_sum h.s.pc x hx) h.s.sc⟩, h.s.sc⟩, ⟨by have := h.ne; omega, by have := h.s.l6; omega, fun x hx => ⟨h.s.pg x hx, Int.le_trans (le_sum h.s.pg x hx) h.s.sg⟩, h.s.sg⟩⟩
theorem check_day_t {c g : List Int} (h : vDay c g) : m_check_day [.val (day c g)] = some (.val .none, []) := by
  obtain ⟨h1, h2⟩ := h.cok
  have h3 := is_any_day_ok h1 h2 h.s.le
  have h4 := is_right_by_t c g (by have := h.s.l6; omega)
  rw [h.rt] at h4
  have h5 : m_people_of [.val (day c g)] = some (.val (.int c.sum), []) := by simp [m_people_of, runFn, e_people_of]
  have h6 := h.pp
  have h7 : m_is_day [.val (day c g)] = some (.val (.bool true), []) := by simp [m_is_day, runFn, e_is_day, h3, h4, h5, h6]
  simp [m_check_day, runFn, e_check_day, h7]
theorem mem_parts {c g : List Int} (h : vDay c g) {p : List Int × List Int} (hp : p ∈ partsL c g) : isP c g p ∧ okP c g p.1 p.2 = true ∧ (∀ x ∈ p.1, 0 ≤ x) ∧ ∀ x ∈ p.2, 0 ≤ x := by
  obtain ⟨a, ha, hp⟩ := List.mem_flatMap.mp hp
  obtain ⟨b, hb, rfl⟩ := List.mem_map.mp hp
  obtain ⟨h1, h2⟩ := List.mem_filter.mp hb
  obtain ⟨a1, a2, _⟩ := mem_rowsB c a ha
  obtain ⟨b1, b2, _⟩ := mem_rowsB g b h1
  exact ⟨⟨a1, b1, h.s.le, h.ne, h.s.l6⟩, h2, a2, b2⟩
theorem self_rowsB : ∀ (l : List Int), (∀ x ∈ l, 0 ≤ x) → l ∈ rowsB l := by
  intro l
  induction l using snoc_rec with
  | nil => intro _; simp [rowsB]
  | snoc l m ih =>
    intro h
    rw [rowsB_snoc]
    have hm := h m (by simp)
    refine List.mem_flatMap.mpr ⟨l, ih fun x hx => h x (by simp [hx]), List.mem_map.mpr ⟨m.toNat, List.mem_range.mpr (by omega), ?_⟩⟩
    rw [Int.toNat_of_nonneg hm]
theorem subL_self : ∀ l : List Int, subL l l = List.replicate l.length 0
  | [] => rfl
  | x :: l => by
    have := subL_self l
    unfold subL at *
    simp [List.replicate_succ, this]
theorem self_parts {c g : List Int} (h : vDay c g) : (c, g) ∈ partsL c g := by
  refine List.mem_flatMap.mpr ⟨c, self_rowsB c h.s.pc, List.mem_map.mpr ⟨g, List.mem_filter.mpr ⟨self_rowsB g h.s.pg, ?_⟩, rfl⟩⟩
  have hl := h.s.le
  have hn := h.ne
  obtain ⟨n, hn⟩ : ∃ n, c.length = n + 1 := ⟨c.length - 1, by omega⟩
  have hm := Made.zero n
  unfold okP
  rw [h.rt, subL_self, subL_self, ← hl, hn]
  exact right_iff.mpr ⟨rfl, fun t _ => hm.th t⟩
theorem len_parts {c g : List Int} (h : sDay c g) : (partsL c g).length ≤ 16384 := flatP_len h _ (rows_128 h.pc h.sc)
theorem least_by_t {c g : List Int} (h : vDay c g) {p0 : List Int × List Int} {ps : List (List Int × List Int)} (hL : partsL c g = p0 :: ps) : m_least_by [.val (day c g)] = some (.val (PySem.W.minD (T (crowdV c g) p0) (ps.map (T (crowdV c g)))), []) := by
  have hp := parts_by_t h.s
  have hz : (partsL c g).length ≤ mxL := mxL_ge (by have := len_parts h.s; omega)
  have hm := dMinX_T (crowdV c g) p0 ps
  rw [← hL] at hm
  simp [m_least_by, runFn, e_least_by, hp, hz]
  rw [evComp_mapT dayP (T (crowdV c g))]
  · simp [hm]
  · intro p hpm
    simp [stComp, crowd_by_t (mem_parts h hpm).1, T]
theorem evenest_by_t {c g : List Int} (h : vDay c g) {p0 : List Int × List Int} {ps : List (List Int × List Int)} (hL : partsL c g = p0 :: ps) : m_evenest_by [.val (day c g)] = some (.val (PySem.W.minD (T (unevV c g) p0) (ps.map (T (unevV c g)))), []) := by
  have hp := parts_by_t h.s
  have hz : (partsL c g).length ≤ mxL := mxL_ge (by have := len_parts h.s; omega)
  have hm := dMinX_T (unevV c g) p0 ps
  rw [← hL] at hm
  simp [m_evenest_by, runFn, e_evenest_by, hp, hz]
  rw [evComp_mapT dayP (T (unevV c g))]
  · simp [hm]
  · intro p hpm
    simp [stComp, apart_by_t (mem_parts h hpm).1, T]
theorem least_crowd_t {c g : List Int} (h : vDay c g) {p0 : List Int × List Int} {ps : List (List Int × List Int)} (hL : partsL c g = p0 :: ps) : m_least_crowd [.val (day c g)] = some (.val (PySem.W.minD (T (crowdV c g) p0) (ps.map (T (crowdV c g)))), []) := by
  simp [m_least_crowd, runFn, e_least_crowd, check_day_t h, least_by_t h hL]
theorem evenest_parts_t {c g : List Int} (h : vDay c g) {p0 : List Int × List Int} {ps : List (List Int × List Int)} (hL : partsL c g = p0 :: ps) : m_evenest_parts [.val (day c g)] = some (.val (PySem.W.minD (T (unevV c g) p0) (ps.map (T (unevV c g)))), []) := by
  simp [m_evenest_parts, runFn, e_evenest_parts, check_day_t h, evenest_by_t h hL]
theorem count_within_t {c g : List Int} (h : vDay c g) {m : Int} (h1 : 1 ≤ m) (h7 : m ≤ 7) : m_count_within [.val (day c g), .val (.int m)] = some (.val (.int (((partsL c g).filter fun p => decide (crowdV c g p ≤ m)).length : Int)), []) := by
  have hp := parts_by_t h.s
  have hz : (partsL c g).length ≤ mxL := mxL_ge (by have := len_parts h.s; omega)
  have hw : m_within_by [.val (day c g), .val (.int m)] = some (.val (.int (((partsL c g).filter fun p => decide (crowdV c g p ≤ m)).length : Int)), []) := by
    simp [m_within_by, runFn, e_within_by, hp, hz]
    rw [evComp_filt dayP (fun _ => .int 1) (fun p => decide (crowdV c g p ≤ m))]
    · simp
    · intro p hpm
      simp [stComp, crowd_by_t (mem_parts h hpm).1]
      by_cases z : crowdV c g p ≤ m <;> simp [z]
  have hc : m_check_crowd [.val (.int m)] = some (.val .none, []) := by
    have : m_is_crowd [.val (.int m)] = some (.val (.bool true), []) := by simp [m_is_crowd, runFn, e_is_crowd, is_between_i, h1, h7]
    simp [m_check_crowd, runFn, e_check_crowd, this]
  simp [m_count_within, runFn, e_count_within, check_day_t h, hc, hw]
end L_k69
set_option autoImplicit false
set_option linter.all false
set_option maxHeartbeats 4000000
set_option maxRecDepth 100000
namespace L_k69
open PySem PySem.Spec PyProof.Rows L2 PV
def mnI : List Int → Int
  | [] => 0
  | x :: xs => xs.foldl min x
theorem foldl_min : ∀ (xs : List Int) (x : Int), (xs.foldl min x = x ∨ xs.foldl min x ∈ xs) ∧ xs.foldl min x ≤ x ∧ ∀ y ∈ xs, xs.foldl min x ≤ y
  | [], x => by simp
  | z :: xs, x => by
    obtain ⟨h1, h2, h3⟩ := foldl_min xs (min x z)
    rw [List.foldl_cons]
    refine ⟨?_, by omega, fun y hy => ?_⟩
    · rcases h1 with h1 | h1
      · rw [h1]
        by_cases q : x ≤ z
        · left; exact Int.min_eq_left q
        · right; rw [Int.min_eq_right (by omega)]; simp
      · right; exact List.mem_cons_of_mem _ h1
    · rcases List.mem_cons.mp hy with e | hy
      · subst e; omega
      · exact h3 y hy
theorem mnI_spec {l : List Int} (h : l ≠ []) : mnI l ∈ l ∧ ∀ y ∈ l, mnI l ≤ y := by
  cases l with
  | nil => exact absurd rfl h
  | cons x xs =>
    obtain ⟨h1, h2, h3⟩ := foldl_min xs x
    refine ⟨?_, fun y hy => ?_⟩
    · rcases h1 with h1 | h1
      · show xs.foldl min x ∈ _
        rw [h1]; simp
      · exact List.mem_cons_of_mem _ h1
    · rcases List.mem_cons.mp hy with e | hy
      · subst e; exact h2
      · exact h3 y hy
theorem dMinX_l {l : List Int} (h : l ≠ []) : dMinX [.list (l.map PyData.int)] = some (.val (.int (mnI l))) := by
  cases l with
  | nil => exact absurd rfl h
  | cons x xs =>
    have := cmpOk_ints (x :: xs)
    rw [List.map_cons] at this ⊢
    show (if cmpOk _ = true then some (AV.val (PySem.W.minD _ _)) else none) = _
    rw [if_pos this, PySem.W.minD_ints]
    rfl
theorem idx_ints : ∀ {l : List Int} {m : Int}, m ∈ l → ∃ j, (l.map PyData.int).findIdx? (fun z => PyData.eqv z (.int m)) = some j ∧ l[j]? = some m ∧ ∀ (i : Nat) (x : Int), i < j → l[i]? = some x → x ≠ m
  | x :: l, m, h => by
    by_cases e : x = m
    · subst e
      exact ⟨0, by simp [List.findIdx?_cons], by simp, fun i y hi => absurd hi (by omega)⟩
    · have hm : m ∈ l := by
        rcases List.mem_cons.mp h with z | z
        · exact absurd z.symm e
        · exact z
      obtain ⟨j, h1, h2, h3⟩ := idx_ints hm
      refine ⟨j + 1, by simp [List.findIdx?_cons, e, h1], by simpa using h2, fun i y hi hy => ?_⟩
      cases i with
      | zero => simp at hy; omega
      | succ i => exact h3 i y (by omega) (by simpa using hy)
theorem presL_split : ∀ (c g a b : List Int), c.length = g.length → a.length = c.length → b.length = g.length →
    presL c g = ((presL a b).zip (presL (subL c a) (subL g b))).map fun q => q.1 + q.2
  | [], [], [], [], _, _, _ => rfl
  | x :: c, y :: g, u :: a, v :: b, h1, h2, h3 => by
    have ih := presL_split c g a b (by simpa using h1) (by simpa using h2) (by simpa using h3)
    have e1 : subL (x :: c) (u :: a) = (x - u) :: subL c a := by simp [subL]
    have e2 : subL (y :: g) (v :: b) = (y - v) :: subL g b := by simp [subL]
    rw [e1, e2]
    simp only [presL]
    rw [List.zip_cons_cons, List.map_cons, ih, List.map_map, List.zip_map, List.map_map]
    congr 1
    · omega
    · refine List.map_congr_left fun q _ => ?_
      simp
      omega
theorem presL_le : ∀ (a b : List Int), (∀ x ∈ a, 0 ≤ x) → (∀ x ∈ b, 0 ≤ x) → ∀ z ∈ presL a b, z ≤ a.sum ∧ - b.sum ≤ z
  | [], _, _, _, z, hz => by simp [presL] at hz
  | _ :: _, [], _, _, z, hz => by simp [presL] at hz
  | x :: a, y :: b, h1, h2, z, hz => by
    have ha := sum_nn fun w hw => h1 w (List.mem_cons_of_mem _ hw)
    have hb := sum_nn fun w hw => h2 w (List.mem_cons_of_mem _ hw)
    have hx := h1 x List.mem_cons_self
    have hy := h2 y List.mem_cons_self
    simp only [presL] at hz
    rw [List.sum_cons, List.sum_cons]
    rcases List.mem_cons.mp hz with e | hz
    · omega
    · obtain ⟨w, hw, rfl⟩ := List.mem_map.mp hz
      have := presL_le a b (fun w hw => h1 w (List.mem_cons_of_mem _ hw)) (fun w hw => h2 w (List.mem_cons_of_mem _ hw)) w hw
      omega
theorem presL_nn {a b : List Int} (h : a.length = b.length) (hr : rightB a b = true) (ha : ∀ x ∈ a, 0 ≤ x) : ∀ z ∈ presL a b, 0 ≤ z := by
  intro z hz
  rw [← presL_at a b h] at hz
  obtain ⟨t, ht, rfl⟩ := List.mem_map.mp hz
  have ht := List.mem_range.mp ht
  have h1 := (right_iff.mp hr).2 t ht
  have h2 := ha a[t] (List.getElem_mem ht)
  simp [ht]
  omega
theorem presL_zero : ∀ n : Nat, ∀ z ∈ presL (List.replicate n 0) (List.replicate n 0), z = 0
  | 0, z, hz => by simp [presL] at hz
  | n + 1, z, hz => by
    rw [List.replicate_succ] at hz
    simp only [presL] at hz
    rcases List.mem_cons.mp hz with e | hz
    · omega
    · obtain ⟨w, hw, rfl⟩ := List.mem_map.mp hz
      have := presL_zero n w hw
      omega
theorem odd_le : ∀ (l : List (Int × Int)), ((l.filter fun q => decide ((q.1 + q.2).fmod 2 = 1)).length : Int) ≤ (l.map fun q => absI (q.1 - q.2)).sum
  | [] => by simp
  | q :: l => by
    have ih := odd_le l
    rw [List.filter_cons, List.map_cons, List.sum_cons]
    have h0 : 0 ≤ absI (q.1 - q.2) := by unfold absI; split <;> omega
    by_cases z : (q.1 + q.2).fmod 2 = 1
    · have h1 : 1 ≤ absI (q.1 - q.2) := by
        rw [Int.fmod_eq_emod_of_nonneg _ (by decide)] at z
        unfold absI
        split <;> omega
      simp only [z, decide_true, if_true, List.length_cons]
      omega
    · simp only [z, decide_false, Bool.false_eq_true, if_false]
      omega
theorem peak_two {c g : List Int} {p : List Int × List Int} (h : isP c g p) : mxI (presL c g) ≤ 2 * crowdV c g p := by
  have hl := presL_len c g h.le
  have hne : presL c g ≠ [] := fun z => by rw [z] at hl; have := h.ne; simp at hl; omega
  have hm := (mxI_spec hne).1
  rw [presL_split c g p.1 p.2 h.le h.l1 h.l2] at hm
  obtain ⟨q, hq, e⟩ := List.mem_map.mp hm
  have l1 := presL_len p.1 p.2 (by rw [h.l1, h.l2, h.le])
  have hne2 : presL p.1 p.2 ++ presL (subL c p.1) (subL g p.2) ≠ [] := fun z => by
    have := congrArg List.length z
    simp only [List.length_append, List.length_nil] at this
    have := h.ne
    have := h.l1
    omega
  have hs := (mxI_spec hne2).2
  have q1 := hs q.1 (List.mem_append_left _ (List.of_mem_zip hq).1)
  have q2 := hs q.2 (List.mem_append_right _ (List.of_mem_zip hq).2)
  have e' : mxI (presL c g) = q.1 + q.2 := by
    rw [presL_split c g p.1 p.2 h.le h.l1 h.l2]
    exact e.symm
  unfold crowdV
  omega
theorem peak_self {c g : List Int} (h : vDay c g) : crowdV c g (c, g) ≤ mxI (presL c g) ∧ 0 ≤ mxI (presL c g) ∧ mxI (presL c g) ≤ c.sum := by
  have hl := presL_len c g h.s.le
  have hne : presL c g ≠ [] := fun z => by rw [z] at hl; have := h.ne; simp at hl; omega
  obtain ⟨m1, m2⟩ := mxI_spec hne
  have m0 := presL_nn h.s.le h.rt h.s.pc _ m1
  refine ⟨?_, m0, (presL_le c g h.s.pc h.s.pg _ m1).1⟩
  have hne2 : presL c g ++ presL (subL c c) (subL g g) ≠ [] := fun z => hne (List.append_eq_nil_iff.mp z).1
  have hs := (mxI_spec hne2).1
  show mxI (presL c g ++ presL (subL c c) (subL g g)) ≤ _
  rcases List.mem_append.mp hs with z | z
  · exact m2 _ z
  · rw [subL_self, subL_self, ← h.s.le] at z
    have := presL_zero _ _ z
    rw [subL_self, subL_self, ← h.s.le]
    omega
theorem odd_uneven {c g : List Int} {p : List Int × List Int} (h : isP c g p) : (((presL c g).filter fun z => decide (z.fmod 2 = 1)).length : Int) ≤ unevV c g p := by
  rw [presL_split c g p.1 p.2 h.le h.l1 h.l2, List.filter_map, List.length_map]
  exact odd_le _
end L_k69
set_option autoImplicit false
set_option linter.all false
set_option maxHeartbeats 4000000
set_option maxRecDepth 100000
namespace L_k69
open PySem PySem.Spec PyProof.Rows L2 PV
theorem row_le7 {l r : List Int} (h : r ∈ rowsB l) (h7 : ∀ y ∈ l, y ≤ 7) : ∀ x ∈ r, x ≤ 7 := by
  intro x hx
  obtain ⟨h1, _, h3⟩ := mem_rowsB l r h
  obtain ⟨i, hi, e⟩ := List.mem_iff_getElem.mp hx
  have := h3 i x l[i] (by rw [List.getElem?_eq_getElem hi, e]) (List.getElem?_eq_getElem (by omega))
  have := h7 l[i] (List.getElem_mem (by omega))
  omega
theorem parts_el {c g : List Int} (h : vDay c g) {p : List Int × List Int} (hp : p ∈ partsL c g) : (∀ x ∈ p.1, 0 ≤ x ∧ x ≤ 7) ∧ ∀ x ∈ p.2, 0 ≤ x ∧ x ≤ 7 := by
  obtain ⟨h1, h2⟩ := h.cok
  obtain ⟨_, _, n1, n2⟩ := mem_parts h hp
  obtain ⟨a, ha, hp⟩ := List.mem_flatMap.mp hp
  obtain ⟨b, hb, rfl⟩ := List.mem_map.mp hp
  have hb := (List.mem_filter.mp hb).1
  exact ⟨fun x hx => ⟨n1 x hx, row_le7 ha (fun y hy => (h1.el y hy).2) x hx⟩, fun x hx => ⟨n2 x hx, row_le7 hb (fun y hy => (h2.el y hy).2) x hx⟩⟩
theorem sum_le7 : ∀ (l : List Int), (∀ x ∈ l, x ≤ 7) → l.sum ≤ 7 * l.length
  | [], _ => by simp
  | x :: l, h => by
    have := sum_le7 l fun y hy => h y (List.mem_cons_of_mem _ hy)
    have := h x List.mem_cons_self
    rw [List.sum_cons, List.length_cons]
    omega
theorem unev_self {c g : List Int} (h : vDay c g) : unevV c g (c, g) ≤ 1000 := by
  have hl := presL_len c g h.s.le
  have e : ∀ x ∈ ((presL c g).zip (presL (subL c c) (subL g g))).map (fun q => absI (q.1 - q.2)), x ≤ 7 := fun x hx => by
    obtain ⟨q, hq, rfl⟩ := List.mem_map.mp hx
    obtain ⟨z1, z2⟩ := List.of_mem_zip hq
    have a1 := presL_le c g h.s.pc h.s.pg _ z1
    have a2 := presL_nn h.s.le h.rt h.s.pc _ z1
    rw [subL_self, subL_self, ← h.s.le] at z2
    have a3 := presL_zero _ _ z2
    have := h.s.sc
    unfold absI
    split <;> omega
  have := sum_le7 _ e
  rw [List.length_map, List.length_zip] at this
  have := h.s.l6
  unfold unevV
  simp only at *
  omega
theorem rp_row {l : List Int} (h : ∀ x ∈ l, 0 ≤ x ∧ x ≤ 7) : Rp 1 (l.length * 1) (row l) := by
  have := rp_tuple (k := 0) (n := 0) (xs := l.map PyData.int) fun x hx => by
    obtain ⟨i, hi, rfl⟩ := List.mem_map.mp hx
    have := h i hi
    exact rp_int (by have : (10 : Nat) ^ 18 = 1000000000000000000 := by decide
                     omega)
  simpa using this
theorem rp_T {f : List Int × List Int → Int} {c g : List Int} (h : vDay c g) {p : List Int × List Int} (hp : p ∈ partsL c g) (h0 : 0 ≤ f p) (h1 : f p ≤ 1000) : Rp 3 40 (T f p) := by
  obtain ⟨e1, e2⟩ := parts_el h hp
  obtain ⟨hP, _⟩ := mem_parts h hp
  have l1 := hP.l1
  have l2 := hP.l2
  have := hP.le
  have := hP.l6
  have hd : Rp 2 14 (dayP p) := (rp_tuple (k := 1) (n := 6) (xs := [row p.1, row p.2]) fun x hx => by
    rcases List.mem_cons.mp hx with e | hx
    · subst e; exact (rp_row e1).mono (by decide) (by omega)
    · cases List.mem_singleton.mp hx; exact (rp_row e2).mono (by decide) (by omega)).mono (by decide) (by simp)
  exact (rp_tuple (k := 2) (n := 14) (xs := [.int (f p), dayP p]) fun x hx => by
    rcases List.mem_cons.mp hx with e | hx
    · subst e
      exact (rp_int (by have : (10 : Nat) ^ 18 = 1000000000000000000 := by decide
                        omega)).mono (by decide) (by decide)
    · cases List.mem_singleton.mp hx; exact hd).mono (by decide) (by simp)
theorem repr_two {i : Int} (h : i.natAbs < 10 ^ 18) : reprOk (.list [.int i, .int i]) = true := by
  refine Rp.ok (k := 1) (n := 2) ((rp_list (k := 0) (n := 0) fun x hx => ?_).mono (by decide) (by simp)) (by decide) (by decide)
  rcases List.mem_cons.mp hx with e | hx
  · subst e; exact rp_int h
  · cases List.mem_singleton.mp hx; exact rp_int h
/-- what the law makes of the least of a number over the parts -/
theorem least_of {c g : List Int} (h : vDay c g) (f : List Int × List Int → Int) {p0 : List Int × List Int} {ps : List (List Int × List Int)} (hL : partsL c g = p0 :: ps) :
    ∃ (m : Int) (j : Nat) (q : List Int × List Int), dMinX [.list ((sd (partsL c g)).map fun p => .int (f p))] = some (.val (.int m)) ∧ ((sd (partsL c g)).map fun p => PyData.int (f p)).findIdx? (fun z => PyData.eqv z (.int m)) = some j ∧
      (sd (partsL c g))[j]? = some q ∧ f q = m ∧ q ∈ partsL c g ∧ (∀ p ∈ partsL c g, m ≤ f p) ∧ PySem.W.minD (T f p0) (ps.map (T f)) = T f q := by
  have hne : (sd (partsL c g)).map f ≠ [] := fun z => by
    have := (sd_perm (partsL c g)).length_eq
    rw [List.map_eq_nil_iff.mp z, hL] at this
    simp at this
  obtain ⟨m1, m2⟩ := mnI_spec hne
  have e : ∀ l : List (List Int × List Int), l.map (fun p => PyData.int (f p)) = (l.map f).map PyData.int := fun l => by rw [List.map_map]; rfl
  obtain ⟨j, j1, j2, j3⟩ := idx_ints m1
  rw [List.getElem?_map] at j2
  cases hq : (sd (partsL c g))[j]? with
  | none => rw [hq] at j2; cases j2
  | some q =>
    rw [hq] at j2
    have fq : f q = mnI ((sd (partsL c g)).map f) := Option.some.inj j2
    have hle : ∀ p ∈ partsL c g, mnI ((sd (partsL c g)).map f) ≤ f p := fun p hp => m2 _ (List.mem_map.mpr ⟨p, (sd_perm _).mem_iff.mpr hp, rfl⟩)
    have hqL : q ∈ partsL c g := (sd_perm _).mem_iff.mp (List.mem_of_getElem? hq)
    refine ⟨_, j, q, by rw [e]; exact dMinX_l hne, by rw [e]; exact j1, hq, fq, hqL, hle, min_T hL (by rw [← fq]; exact List.mem_map.mpr ⟨q, hqL, rfl⟩) hle hq fq fun i p hi hp => ?_⟩
    exact j3 i (f p) hi (by rw [List.getElem?_map, hp]; rfl)
theorem count_S {c g : List Int} (P : List Int × List Int → Bool) : ((sd (partsL c g)).filter P).length = ((partsL c g).filter P).length := ((sd_perm _).filter P).length_eq
theorem law_right_t {k : Nat} {b : List D} (hb : BagOk k b) (hk : k ≤ 800000) : ∃ b', m__law_right [.ref b] = some (.val (.bool true), [b']) ∧ BagOk (k + 400) b' := by
  obtain ⟨n, c, g, i, b1, hd, n1, n2, i1, i2, hm, hb1⟩ := law_day_t (mo := 5) (pe := 4) (by decide) (by decide) (by decide) (by decide) hb (by omega)
  obtain ⟨d, b2, ht, d0, d7, hb2⟩ := take_t (top := 7) hb1 (by decide) (by decide) (by omega)
  refine ⟨b2, ?_, hb2.mono (by omega)⟩
  have lc := hm.lc
  have lg := hm.lg
  have h : vDay c g := ⟨⟨by omega, by omega, hm.pc, hm.pg, by have := hm.sc; omega, by have := hm.sg; omega⟩, by omega, right_iff.mpr ⟨by rw [hm.sc, hm.sg], fun t _ => hm.th t⟩, by have := hm.sc; omega⟩
  have hself := self_parts h
  obtain ⟨p0, ps, hL⟩ : ∃ p0 ps, partsL c g = p0 :: ps := by
    rcases z : partsL c g with _ | ⟨p0, ps⟩
    · rw [z] at hself; cases hself
    · exact ⟨p0, ps, rfl⟩
  obtain ⟨m, j, q, a1, a2, a3, a4, a5, a6, a7⟩ := least_of h (crowdV c g) hL
  obtain ⟨m', j', q', e1, e2, e3, e4, e5, e6, e7⟩ := least_of h (unevV c g) hL
  have lcr := least_crowd_t h hL
  have lev := evenest_parts_t h hL
  rw [a7] at lcr
  rw [e7] at lev
  have hp := law_parts_t h.s
  obtain ⟨k1, k2, k3⟩ := peak_self h
  have k4 := a6 _ hself
  have k5 := peak_two (mem_parts h a5).1
  have k6 := odd_uneven (mem_parts h e5).1
  have k7 := e6 _ hself
  have k8 := unev_self h
  have hsum := h.s.sc
  have r1 : reprOk (.list [T (crowdV c g) q, T (unevV c g) q']) = true := by
    refine Rp.ok (k := 4) (n := 82) ((rp_list (k := 3) (n := 40) fun x hx => ?_).mono (by decide) (by simp)) (by decide) (by decide)
    rcases List.mem_cons.mp hx with e | hx
    · subst e; exact rp_T h a5 (by omega) (by omega)
    · cases List.mem_singleton.mp hx; exact rp_T h e5 (by omega) (by omega)
  have hlen := len_parts h.s
  have cw := count_within_t h (m := 1 + d) (by omega) (by omega)
  have r2 : reprOk (.list [.int (((partsL c g).filter fun p => decide (crowdV c g p ≤ 1 + d)).length : Int), .int (((partsL c g).filter fun p => decide (crowdV c g p ≤ 1 + d)).length : Int)]) = true := repr_two (by
    have := List.length_filter_le (fun p => decide (crowdV c g p ≤ 1 + d)) (partsL c g)
    have : (10 : Nat) ^ 18 = 1000000000000000000 := by decide
    omega)
  have hS : (sd (partsL c g)).length ≤ mxL := mxL_ge (by rw [(sd_perm _).length_eq]; omega)
  have isP_S : ∀ p ∈ sd (partsL c g), isP c g p := fun p hp => (mem_parts h ((sd_perm _).mem_iff.mp hp)).1
  have lp := law_present_t h.s.le (by omega)
  have lpl := presL_len c g h.s.le
  have hpk := dMaxX_t (l := presL c g) (fun z => by rw [z] at lpl; simp at lpl; omega)
  have hpz : (presL c g).length ≤ mxL := mxL_ge (by omega)
  have at1 : atI ((sd (partsL c g)).map dayP) (j : Int) = some (dayP q) := by rw [PV.atI_nat, List.getElem?_map, a3]; rfl
  have at2 : atI ((sd (partsL c g)).map dayP) (j' : Int) = some (dayP q') := by rw [PV.atI_nat, List.getElem?_map, e3]; rfl
  have cS := count_S (c := c) (g := g) (fun p => decide (crowdV c g p ≤ 1 + d))
  have tq : T (crowdV c g) q = .tuple [.int m, dayP q] := by unfold T; rw [a4]
  have tq' : T (unevV c g) q' = .tuple [.int m', dayP q'] := by unfold T; rw [e4]
  rw [tq] at lcr r1
  rw [tq'] at lev r1
  have c0 : 2 ≤ m → m_count_within [.val (day c g), .val (.int (m - 1))] = some (.val (.int 0), []) := fun h2 => by
    have := count_within_t h (m := m - 1) (by omega) (by omega)
    rw [this]
    have : (partsL c g).filter (fun p => decide (crowdV c g p ≤ m - 1)) = [] := List.filter_eq_nil_iff.mpr fun p hp => by
      have := a6 p hp
      simp
      omega
    rw [this]
    rfl
  have o1 : ¬ 2 * m < mxI (presL c g) := by omega
  have o2 : ¬ mxI (presL c g) < m := by omega
  have o3 : (((presL c g).filter fun z => decide (z.fmod 2 = 1)).length : Int) ≤ m' := by omega
  generalize hSS : sd (partsL c g) = S at *
  have b2m : (2 : Nat) < 2 ^ 4000 := big (by decide)
  have bm : m.natAbs < 2 ^ 4000 := big (by omega)
  simp [m__law_right, runFn, e__law_right, hd, ht, hp, hS]
  rw [evComp_mapT dayP (fun p => .int (crowdV c g p))]
  · simp [hS]
    rw [evComp_mapT dayP (fun p => .int (unevV c g p))]
    · simp [hS, a1, a2, e1, e2, at1, at2, lcr, lev, r1, pick]
      rw [evComp_filt (fun p => .int (crowdV c g p)) (fun p => .int (crowdV c g p)) (fun p => decide (crowdV c g p ≤ 1 + d))]
      · simp [cS, cw, r2, lp, hpk, b2m, bm, o1, o2, hpz, pick]
        rw [evComp_filt PyData.int PyData.int (fun z => decide (z.fmod 2 = 1))]
        · by_cases m2 : m < 2
          · simp [o3, m2]
          · have c1 := c0 (by omega)
            simp [o3, m2, c1]
        · intro z hz
          simp [stComp]
          by_cases y : z.fmod 2 = 1 <;> simp [y]
      · intro p hp
        simp [stComp]
        by_cases z : crowdV c g p ≤ 1 + d <;> simp [z]
    · intro p hp
      simp [stComp, law_uneven_t (isP_S p hp)]
  · intro p hp
    simp [stComp, law_crowd_t (isP_S p hp)]
end L_k69
set_option autoImplicit false
set_option linter.all false
set_option maxHeartbeats 4000000
set_option maxRecDepth 100000
namespace L_k69
open PySem PySem.Spec PyProof.Rows L2 PV
theorem rg8 : rgD 0 8 = [PyData.int 0, PyData.int 1, PyData.int 2, PyData.int 3, PyData.int 4, PyData.int 5, PyData.int 6, PyData.int 7] := rfl
theorem sm8 : small62 8 = true := by decide
theorem turns_t {is : List Int} {lap : D} {b : List D} (hb : BagOk 0 b) : ∃ b', evComp (gN (.s (.s (.s .z)))) etYes (eUser m__law_right (aCons (eVar (.s (.s .z))) aNil)) [(.s (.s (.s .z)))] [PyData.int 0, PyData.int 1, PyData.int 2, PyData.int 3, PyData.int 4, PyData.int 5, PyData.int 6, PyData.int 7] [.rd (is.map PyData.int), .val lap, .own b, .no] =
    some ([PyData.bool true, PyData.bool true, PyData.bool true, PyData.bool true, PyData.bool true, PyData.bool true, PyData.bool true, PyData.bool true], [.rd (is.map PyData.int), .val lap, .own b', .no]) := by
  have step : ∀ {k : Nat} {b : List D} (d : D), BagOk k b → k ≤ 800000 → ∃ b', stComp (gN (.s (.s (.s .z)))) etYes (eUser m__law_right (aCons (eVar (.s (.s .z))) aNil)) [(.s (.s (.s .z)))] d [.rd (is.map PyData.int), .val lap, .own b, .no] =
      some (some (.bool true), [.rd (is.map PyData.int), .val lap, .own b', .no]) ∧ BagOk (k + 400) b' := fun {k b} d hb hk => by
    obtain ⟨b', h, hb'⟩ := law_right_t hb hk
    exact ⟨b', by simp [stComp, h], hb'⟩
  obtain ⟨b1, h1, hb1⟩ := step (.int 0) hb (by omega)
  obtain ⟨b2, h2, hb2⟩ := step (.int 1) hb1 (by omega)
  obtain ⟨b3, h3, hb3⟩ := step (.int 2) hb2 (by omega)
  obtain ⟨b4, h4, hb4⟩ := step (.int 3) hb3 (by omega)
  obtain ⟨b5, h5, hb5⟩ := step (.int 4) hb4 (by omega)
  obtain ⟨b6, h6, hb6⟩ := step (.int 5) hb5 (by omega)
  obtain ⟨b7, h7, hb7⟩ := step (.int 6) hb6 (by omega)
  obtain ⟨b8, h8, hb8⟩ := step (.int 7) hb7 (by omega)
  exact ⟨b8, by simp [evComp_cons, h1, h2, h3, h4, h5, h6, h7, h8]⟩
theorem law_true (is : List Int) (h : is.length ≤ 63) : m_law [.rd (is.map PyData.int)] = some (.val (.bool true), []) := by
  obtain ⟨m, hm, hm3⟩ : ∃ m : Nat, (if (if (3 : Int) < (is.length : Int) then 3 else (is.length : Int)) > 2 then (if (3 : Int) < (is.length : Int) then 3 else (is.length : Int)) else 2) = (m : Int) ∧ m ≤ 3 := by
    by_cases z : 3 < is.length
    · exact ⟨3, by rw [if_pos (show (3 : Int) < (is.length : Int) by omega)]; rfl, by decide⟩
    · rw [if_neg (show ¬ (3 : Int) < (is.length : Int) by omega)]
      by_cases y : 2 < is.length
      · exact ⟨is.length, by rw [if_pos (by omega)], by omega⟩
      · exact ⟨2, by rw [if_neg (by omega)]; rfl, by decide⟩
  have hs : small62 (m : Int) = true := small62_nat (by omega)
  have key := evFor_inv (ds0 := (List.range m).map fun (i : Nat) => PyData.int (i : Int)) (g := gN (.s .z)) (body := (sSeq (sSetM (.s (.s .z)) (eUser m__law_bag (aCons (eVar .z) (aCons (eVar (.s .z)) aNil))))
  (sIf (etNot (eT (eCall dAll (aCons (eComp (eRange1 (aCons (eK (.int 8)) aNil)) (gN (.s (.s (.s .z)))) etYes (eUser m__law_right (aCons (eVar (.s (.s .z))) aNil)) [(.s (.s (.s .z)))]) aNil))))
  (sRet (eK (.bool false)))
  sNil))) (ks := [(.s .z), (.s (.s .z))]) (fun i ρ => ρ = [.rd (is.map PyData.int), .no, .no, .no]) (fun i d ρ hd hρ => by
      subst hρ
      have hi : i < m := by
        have := (List.getElem?_eq_some_iff.mp hd).1
        simpa using this
      have ed : d = .int (i : Int) := by
        have := (List.getElem?_eq_some_iff.mp hd).2
        simpa using this.symm
      subst ed
      obtain ⟨b, hb1, hb2⟩ := bag_t is i (by omega)
      obtain ⟨b', ht⟩ := turns_t (is := is) (lap := .int (i : Int)) hb2
      refine ⟨_, ?_, rfl⟩
      have h5 : 8 ≤ mxL := mxL_ge (by decide)
      simp [stFor, hb1, sm8, rg8, ht, h5, boolsOf])
  obtain ⟨ρ', q1, rfl⟩ := key _ 0 _ rfl rfl
  simp only [List.drop_zero] at q1
  simp [m_law, runFn, e_law]
  simp at hm
  rw [hm]
  simp [hs, rgD_eq]
  rw [q1]
  simp
end L_k69
set_option Elab.async false
set_option linter.all false
set_option autoImplicit false
set_option maxRecDepth 100000
set_option maxHeartbeats 4000000
/-! the derivations of countedstays_k69_whole_crowds, printed by gen.py -/
namespace L_k69
open PySem PySem.Spec PyProof.Rows L2 PV
def top (i : Nat) : Stmt := PySem.Challenge.pw_countedstays_k69_whole_crowds.main.body.getD i (.Pass ⟨0, 0, 0, 0⟩)
abbrev s__law_bag : Stmt := top 40
abbrev s__law_is_right : Stmt := top 42
abbrev s__law_rest : Stmt := top 46
abbrev s__law_parts : Stmt := top 45
abbrev s__law_take : Stmt := top 41
abbrev s__law_day : Stmt := top 44
abbrev s__law_present : Stmt := top 43
abbrev s__law_crowd : Stmt := top 47
abbrev s__law_uneven : Stmt := top 48
abbrev s_is_tuple_of : Stmt := top 7
abbrev s_is_row : Stmt := top 8
abbrev s_is_whole : Stmt := top 5
abbrev s_is_between : Stmt := top 6
abbrev s_are_counts : Stmt := top 12
abbrev s_is_any_day : Stmt := top 13
abbrev s_have_one_sum : Stmt := top 20
abbrev s_there_by : Stmt := top 18
abbrev s_goes_too_many : Stmt := top 19
abbrev s_ticks_of : Stmt := top 16
abbrev s_bar_by : Stmt := top 21
abbrev s_is_right_by : Stmt := top 22
abbrev s_people_of : Stmt := top 17
abbrev s_is_day : Stmt := top 14
abbrev s_check_day : Stmt := top 15
abbrev s_present_by : Stmt := top 23
abbrev s_rest_of : Stmt := top 26
abbrev s_crowd_by : Stmt := top 29
abbrev s_rows_below : Stmt := top 25
abbrev s_is_part_by : Stmt := top 27
abbrev s_parts_by : Stmt := top 28
abbrev s_least_by : Stmt := top 30
abbrev s_least_crowd : Stmt := top 36
abbrev s_apart_by : Stmt := top 32
abbrev s_evenest_by : Stmt := top 33
abbrev s_evenest_parts : Stmt := top 38
abbrev s_is_crowd : Stmt := top 34
abbrev s_check_crowd : Stmt := top 35
abbrev s_within_by : Stmt := top 31
abbrev s_count_within : Stmt := top 37
abbrev s__law_right : Stmt := top 49
abbrev s_law : Stmt := top 50
structure Facts (K : PySem.W.Frag) (mg : Str → Option Value) : Prop where
  n_abs : mg "abs" = none
  n_all : mg "all" = none
  n_bool : mg "bool" = none
  n_divmod : mg "divmod" = none
  n_int : mg "int" = none
  n_isinstance : mg "isinstance" = none
  n_len : mg "len" = none
  n_max : mg "max" = none
  n_min : mg "min" = none
  n_range : mg "range" = none
  n_repr : mg "repr" = none
  n_sorted : mg "sorted" = none
  n_sum : mg "sum" = none
  n_tuple : mg "tuple" = none
  n_zip : mg "zip" = none
  c_MOST_PEOPLE : ∃ t, mg "MOST_PEOPLE" = some (.int 7 t)
  c_MOST_TICKS : ∃ t, mg "MOST_TICKS" = some (.int 6 t)
  d__law_bag : Top K mg "_law_bag" s__law_bag
  d__law_is_right : Top K mg "_law_is_right" s__law_is_right
  d__law_rest : Top K mg "_law_rest" s__law_rest
  d__law_parts : Top K mg "_law_parts" s__law_parts
  d__law_take : Top K mg "_law_take" s__law_take
  d__law_day : Top K mg "_law_day" s__law_day
  d__law_present : Top K mg "_law_present" s__law_present
  d__law_crowd : Top K mg "_law_crowd" s__law_crowd
  d__law_uneven : Top K mg "_law_uneven" s__law_uneven
  d_is_tuple_of : Top K mg "is_tuple_of" s_is_tuple_of
  d_is_row : Top K mg "is_row" s_is_row
  d_is_whole : Top K mg "is_whole" s_is_whole
  d_is_between : Top K mg "is_between" s_is_between
  d_are_counts : Top K mg "are_counts" s_are_counts
  d_is_any_day : Top K mg "is_any_day" s_is_any_day
  d_have_one_sum : Top K mg "have_one_sum" s_have_one_sum
  d_there_by : Top K mg "there_by" s_there_by
  d_goes_too_many : Top K mg "goes_too_many" s_goes_too_many
  d_ticks_of : Top K mg "ticks_of" s_ticks_of
  d_bar_by : Top K mg "bar_by" s_bar_by
  d_is_right_by : Top K mg "is_right_by" s_is_right_by
  d_people_of : Top K mg "people_of" s_people_of
  d_is_day : Top K mg "is_day" s_is_day
  d_check_day : Top K mg "check_day" s_check_day
  d_present_by : Top K mg "present_by" s_present_by
  d_rest_of : Top K mg "rest_of" s_rest_of
  d_crowd_by : Top K mg "crowd_by" s_crowd_by
  d_rows_below : Top K mg "rows_below" s_rows_below
  d_is_part_by : Top K mg "is_part_by" s_is_part_by
  d_parts_by : Top K mg "parts_by" s_parts_by
  d_least_by : Top K mg "least_by" s_least_by
  d_least_crowd : Top K mg "least_crowd" s_least_crowd
  d_apart_by : Top K mg "apart_by" s_apart_by
  d_evenest_by : Top K mg "evenest_by" s_evenest_by
  d_evenest_parts : Top K mg "evenest_parts" s_evenest_parts
  d_is_crowd : Top K mg "is_crowd" s_is_crowd
  d_check_crowd : Top K mg "check_crowd" s_check_crowd
  d_within_by : Top K mg "within_by" s_within_by
  d_count_within : Top K mg "count_within" s_count_within
  d__law_right : Top K mg "_law_right" s__law_right
  d_law : Top K mg "law" s_law
section
variable {P : Program} {w : World} {K : PySem.W.Frag} {mg : Str → Option Value} {base : Heap}
theorem bw_evenest_parts_0_day : BindsW "evenest_parts" s_evenest_parts ["day"] ["day"] [0] 0 1 := fun _ _ _ _ _ _ us ws h1 h2 => match us, ws, h1, h2 with | [], [_], _, _ => rfl
theorem bw_least_crowd_0_day : BindsW "least_crowd" s_least_crowd ["day"] ["day"] [0] 0 1 := fun _ _ _ _ _ _ us ws h1 h2 => match us, ws, h1, h2 with | [], [_], _, _ => rfl
theorem bw_count_within_0_most_day : BindsW "count_within" s_count_within ["day", "most"] ["most", "day"] [1, 0] 0 2 := fun _ _ _ _ _ _ us ws h1 h2 => match us, ws, h1, h2 with | [], [_, _], _, _ => rfl
theorem sc__law_bag : FnScope ["script", "lap", "stirred", "cell", "own"] ["script", "lap"] (defScope s__law_bag) := ⟨rfl, rfl, rfl, by decide +kernel, rfl, by decide +kernel, by decide +kernel⟩
theorem ok__law_bag (E : Facts K mg) : Fn P w K mg base 1 "_law_bag" s__law_bag ["script", "lap"] m__law_bag := fn_mk (N := ["script", "lap", "stirred", "cell", "own"]) 2 5 E.d__law_bag sc__law_bag (fun _ _ _ _ _ _ us hl => match us, hl with | [_, _], _ => rfl) fun f cdv A outer s H hg hr =>
  (puss_cons (pus_set (.s (.s .z)) sc__law_bag.nd rfl (Or.inl rfl) (pu_bin od_add pu_int (pu_bin od_mul pu_int (pu_var (.s .z)))))
  (puss_cons (pus_for [(.s (.s (.s .z)))] PassesOwn.never rfl (pui_seq (pu_sl (pu_var .z) puo_none (puo_some pu_int))) (pug_name (.s (.s (.s .z))) sc__law_bag.nd rfl (Or.inl rfl))
  (puss_one (pus_set (.s (.s .z)) sc__law_bag.nd rfl (Or.inl rfl) (pu_bin od_mod (pu_callTy cd_int rfl E.n_int bt_int (pua_cons (pu_bin od_add (pu_bin od_add (pu_bin od_mul (pu_var (.s (.s .z))) pu_int) (pu_bin od_mod (pu_callTy cd_int rfl E.n_int bt_int (pua_cons (pu_var (.s (.s (.s .z)))) pua_nil)) pu_int)) pu_int) pua_nil)) pu_int))))
  (puss_cons (pus_set (.s (.s (.s (.s .z)))) sc__law_bag.nd rfl (Or.inl rfl) (pu_if (put_cmp od_lt (pu_var (.s .z)) (pu_callB cd_len rfl E.n_len bt_len (pua_cons (pu_var .z) pua_nil))) (pu_callTy cd_int rfl E.n_int bt_int (pua_cons (pu_ix (pu_var .z) (pu_var (.s .z))) pua_nil)) pu_int))
  (puss_cons (pus_set (.s (.s .z)) sc__law_bag.nd rfl (Or.inl rfl) (pu_bin od_mod (pu_callTy cd_int rfl E.n_int bt_int (pua_cons (pu_bin od_add (pu_bin od_add (pu_bin od_mul (pu_var (.s (.s .z))) pu_int) (pu_bin od_mul (pu_bin od_mod (pu_callTy cd_int rfl E.n_int bt_int (pua_cons (pu_var (.s (.s (.s (.s .z))))) pua_nil)) pu_int) pu_int)) pu_int) pua_nil)) pu_int))
  (puss_one (pus_ret (pu_lst (pua_cons (pu_if (put_w (puw_or (put_cmp od_lt (pu_var (.s (.s (.s (.s .z))))) pu_int) (puw_or1 (put_cmp od_ge (pu_var (.s (.s (.s (.s .z))))) (pu_bin od_pow pu_int pu_int))))) (pu_callB cd_abs rfl E.n_abs bt_abs (pua_cons (pu_var (.s (.s (.s (.s .z))))) pua_nil)) pu_int) (pua_cons (pu_var (.s (.s .z))) (pua_cons pu_int pua_nil))))))))))
theorem sc__law_is_right : FnScope ["day", "now", "comes", "goes"] ["day"] (defScope s__law_is_right) := ⟨rfl, rfl, rfl, by decide +kernel, rfl, by decide +kernel, by decide +kernel⟩
theorem ok__law_is_right (E : Facts K mg) : Fn P w K mg base 1 "_law_is_right" s__law_is_right ["day"] m__law_is_right := fn_mk (N := ["day", "now", "comes", "goes"]) 1 4 E.d__law_is_right sc__law_is_right (fun _ _ _ _ _ _ us hl => match us, hl with | [_], _ => rfl) fun f cdv A outer s H hg hr =>
  (puss_cons (pus_set (.s .z) sc__law_is_right.nd rfl (Or.inl rfl) pu_int)
  (puss_cons (pus_for [(.s (.s .z)), (.s (.s (.s .z)))] PassesOwn.never rfl (pui_zip rfl E.n_zip (pua_cons (pu_ix (pu_var .z) pu_int) (pua_cons (pu_ix (pu_var .z) pu_int) pua_nil))) (pug_tup rfl (pugs_cons (pug_name (.s (.s .z)) sc__law_is_right.nd rfl (Or.inl rfl)) (pugs_cons (pug_name (.s (.s (.s .z))) sc__law_is_right.nd rfl (Or.inl rfl)) pugs_nil)) (pg_tup rfl (pugs_cons (pug_name (.s (.s .z)) sc__law_is_right.nd rfl (Or.inl rfl)) (pugs_cons (pug_name (.s (.s (.s .z))) sc__law_is_right.nd rfl (Or.inl rfl)) pugs_nil))))
  (puss_cons (pus_if (put_cmp od_gt (pu_var (.s (.s (.s .z)))) (pu_var (.s .z)))
  (puss_one (pus_ret pu_bl))
  puss_nil)
  (puss_one (pus_set (.s .z) sc__law_is_right.nd rfl (Or.inl rfl) (pu_bin od_add (pu_bin od_sub (pu_var (.s .z)) (pu_var (.s (.s (.s .z))))) (pu_var (.s (.s .z))))))))
  (puss_one (pus_ret (pu_cmp (od_eq (room_e hr)) (pu_var (.s .z)) pu_int)))))
theorem sc__law_rest : FnScope ["day", "first", "one", "two", "a", "b"] ["day", "first"] (defScope s__law_rest) := ⟨rfl, rfl, rfl, by decide +kernel, rfl, by decide +kernel, by decide +kernel⟩
theorem ok__law_rest (E : Facts K mg) : Fn P w K mg base 1 "_law_rest" s__law_rest ["day", "first"] m__law_rest := fn_mk (N := ["day", "first", "one", "two", "a", "b"]) 2 6 E.d__law_rest sc__law_rest (fun _ _ _ _ _ _ us hl => match us, hl with | [_, _], _ => rfl) fun f cdv A outer s H hg hr =>
  (puss_one (pus_ret (pu_callTy cd_tuple rfl E.n_tuple bt_tuple (pua_cons (pu_comp [(.s (.s .z)), (.s (.s (.s .z)))] [("one", 2), ("two", 3)] rfl (by decide) rfl sc__law_rest.nd (pui_zip rfl E.n_zip (pua_cons (pu_var .z) (pua_cons (pu_var (.s .z)) pua_nil))) (blkOk_by (by kernel_rfl)) (fun _ _ _ _ _ => (pug_tup rfl (pugs_cons (pug_name (.s (.s .z)) sc__law_rest.nd rfl (Or.inl rfl)) (pugs_cons (pug_name (.s (.s (.s .z))) sc__law_rest.nd rfl (Or.inl rfl)) pugs_nil)) (pg_tup rfl (pugs_cons (pug_name (.s (.s .z)) sc__law_rest.nd rfl (Or.inl rfl)) (pugs_cons (pug_name (.s (.s (.s .z))) sc__law_rest.nd rfl (Or.inl rfl)) pugs_nil))))) (fun _ _ _ _ _ => puts_nil) (fun _ _ _ _ _ => (pu_callTy cd_tuple rfl E.n_tuple bt_tuple (pua_cons (pu_comp [(.s (.s (.s (.s .z)))), (.s (.s (.s (.s (.s .z)))))] [("a", 4), ("b", 5)] rfl (by decide) rfl sc__law_rest.nd (pui_zip rfl E.n_zip (pua_cons (pu_var (.s (.s .z))) (pua_cons (pu_var (.s (.s (.s .z)))) pua_nil))) (blkOk_by (by kernel_rfl)) (fun _ _ _ _ _ => (pug_tup rfl (pugs_cons (pug_name (.s (.s (.s (.s .z)))) sc__law_rest.nd rfl (Or.inl rfl)) (pugs_cons (pug_name (.s (.s (.s (.s (.s .z))))) sc__law_rest.nd rfl (Or.inl rfl)) pugs_nil)) (pg_tup rfl (pugs_cons (pug_name (.s (.s (.s (.s .z)))) sc__law_rest.nd rfl (Or.inl rfl)) (pugs_cons (pug_name (.s (.s (.s (.s (.s .z))))) sc__law_rest.nd rfl (Or.inl rfl)) pugs_nil))))) (fun _ _ _ _ _ => puts_nil) (fun _ _ _ _ _ => (pu_bin od_sub (pu_var (.s (.s (.s (.s .z))))) (pu_var (.s (.s (.s (.s (.s .z))))))))) pua_nil)))) pua_nil))))
theorem sc__law_parts : FnScope ["day", "rows", "own", "longer", "row", "many", "found", "first", "each"] ["day"] (defScope s__law_parts) := ⟨rfl, rfl, rfl, by decide +kernel, rfl, by decide +kernel, by decide +kernel⟩
theorem ok__law_parts (E : Facts K mg) : Fn P w K mg base 2 "_law_parts" s__law_parts ["day"] m__law_parts := fn_mk (N := ["day", "rows", "own", "longer", "row", "many", "found", "first", "each"]) 1 9 E.d__law_parts sc__law_parts (fun _ _ _ _ _ _ us hl => match us, hl with | [_], _ => rfl) fun f cdv A outer s H hg hr =>
  (puss_cons (pus_set (.s .z) sc__law_parts.nd rfl (Or.inl rfl) (pu_lst (pua_cons (pu_tup pua_nil) pua_nil)))
  (puss_cons (pus_for [(.s (.s .z)), (.s (.s (.s .z))), (.s (.s (.s (.s .z))))] PassesOwn.never rfl (pui_seq (pu_bin od_add (pu_ix (pu_var .z) pu_int) (pu_ix (pu_var .z) pu_int))) (pug_name (.s (.s .z)) sc__law_parts.nd rfl (Or.inl rfl))
  (puss_cons (pus_set (.s (.s (.s .z))) sc__law_parts.nd rfl (Or.inl rfl) (pu_lst pua_nil))
  (puss_cons (pus_for [(.s (.s (.s (.s .z))))] PassesOwn.never rfl (pui_seq (pu_var (.s .z))) (pug_name (.s (.s (.s (.s .z)))) sc__law_parts.nd rfl (Or.inr rfl))
  (puss_one (pus_set (.s (.s (.s .z))) sc__law_parts.nd rfl (Or.inl rfl) (pu_bin od_add (pu_var (.s (.s (.s .z)))) (pu_comp [(.s (.s (.s (.s (.s (.s (.s (.s .z))))))))] [("each", 8)] rfl (by decide) rfl sc__law_parts.nd (pui_range1 rfl E.n_range (pua_cons (pu_bin od_add (pu_var (.s (.s .z))) pu_int) pua_nil)) (blkOk_by (by kernel_rfl)) (fun _ _ _ _ _ => (pug_name (.s (.s (.s (.s (.s (.s (.s (.s .z)))))))) sc__law_parts.nd rfl (Or.inl rfl))) (fun _ _ _ _ _ => puts_nil) (fun _ _ _ _ _ => (pu_bin od_add (pu_var (.s (.s (.s (.s .z))))) (pu_tup (pua_cons (pu_var (.s (.s (.s (.s (.s (.s (.s (.s .z))))))))) pua_nil)))))))))
  (puss_one (pus_set (.s .z) sc__law_parts.nd rfl (Or.inl rfl) (pu_var (.s (.s (.s .z)))))))))
  (puss_cons (pus_par (.s (.s (.s (.s (.s .z))))) (.s (.s (.s (.s (.s (.s .z)))))) false true rfl sc__law_parts.nd rfl rfl (by decide) rfl rfl (pu_callB cd_len rfl E.n_len bt_len (pua_cons (pu_ix (pu_var .z) pu_int) pua_nil)) (pu_lst pua_nil) (ha := (pa_cons (pu_sel false (pu_callB cd_len rfl E.n_len bt_len (pua_cons (pu_ix (pu_var .z) pu_int) pua_nil))) (pa_cons (pu_sel true (pu_lst pua_nil)) pa_nil))))
  (puss_cons (pus_for [(.s (.s (.s (.s .z)))), (.s (.s (.s (.s (.s (.s (.s .z)))))))] PassesOwn.never rfl (pui_seq (pu_var (.s .z))) (pug_name (.s (.s (.s (.s .z)))) sc__law_parts.nd rfl (Or.inr rfl))
  (puss_cons (pus_set (.s (.s (.s (.s (.s (.s (.s .z))))))) sc__law_parts.nd rfl (Or.inl rfl) (pu_tup (pua_cons (pu_sl (pu_var (.s (.s (.s (.s .z))))) puo_none (puo_some (pu_var (.s (.s (.s (.s (.s .z)))))))) (pua_cons (pu_sl (pu_var (.s (.s (.s (.s .z))))) (puo_some (pu_var (.s (.s (.s (.s (.s .z))))))) puo_none) pua_nil))))
  (puss_one (pus_if (put_w (puw_and (put_val (pu_callF (ok__law_is_right E) (by decide) hg hr rfl (pua_cons (pu_var (.s (.s (.s (.s (.s (.s (.s .z)))))))) pua_nil))) (puw_and1 (put_val (pu_callF (ok__law_is_right E) (by decide) hg hr rfl (pua_cons (pu_callF (ok__law_rest E) (by decide) hg hr rfl (pua_cons (pu_var .z) (pua_cons (pu_var (.s (.s (.s (.s (.s (.s (.s .z)))))))) pua_nil))) pua_nil))))))
  (puss_one (pus_expr (pu_append (.s (.s (.s (.s (.s (.s .z)))))) (pu_var (.s (.s (.s (.s (.s (.s .z))))))) (pu_var (.s (.s (.s (.s (.s (.s (.s .z)))))))))))
  puss_nil))))
  (puss_one (pus_ret (pu_callB (cd_sorted (room_u hr)) rfl E.n_sorted bt_sorted (pua_cons (pu_var (.s (.s (.s (.s (.s (.s .z))))))) pua_nil))))))))
theorem sc__law_take : FnScope ["bag", "top", "digit"] ["bag", "top"] (defScope s__law_take) := ⟨rfl, rfl, rfl, by decide +kernel, rfl, by decide +kernel, by decide +kernel⟩
theorem ok__law_take (E : Facts K mg) : Fn P w K mg base 1 "_law_take" s__law_take ["bag", "top"] m__law_take := fn_mk (N := ["bag", "top", "digit"]) 2 3 E.d__law_take sc__law_take (fun _ _ _ _ _ _ us hl => match us, hl with | [_, _], _ => rfl) fun f cdv A outer s H hg hr =>
  (puss_cons (pus_if (put_cmp od_gt (pu_ix (pu_var .z) pu_int) pu_int)
  (puss_cons (pus_asg (pu_callB cd_divmod rfl E.n_divmod bt_divmod (pua_cons (pu_ix (pu_var .z) pu_int) (pua_cons (pu_var (.s .z)) pua_nil))) (pug_tup rfl (pugs_cons (pug_sub .z (pu_var .z) pu_int) (pugs_cons (pug_name (.s (.s .z)) sc__law_take.nd rfl (Or.inl rfl)) pugs_nil)) (pg_tup rfl (pugs_cons (pug_sub .z (pu_var .z) pu_int) (pugs_cons (pug_name (.s (.s .z)) sc__law_take.nd rfl (Or.inl rfl)) pugs_nil)))))
  (puss_one (pus_ret (pu_var (.s (.s .z))))))
  puss_nil)
  (puss_cons (pus_asg (pu_bin od_add (pu_ix (pu_var .z) pu_int) pu_int) (pug_sub .z (pu_var .z) pu_int))
  (puss_cons (pus_asg (pu_bin od_mod (pu_callTy cd_int rfl E.n_int bt_int (pua_cons (pu_bin od_add (pu_bin od_add (pu_bin od_mul (pu_ix (pu_var .z) pu_int) pu_int) (pu_bin od_mul pu_int (pu_ix (pu_var .z) pu_int))) pu_int) pua_nil)) pu_int) (pug_sub .z (pu_var .z) pu_int))
  (puss_one (pus_ret (pu_bin od_mod (pu_callTy cd_int rfl E.n_int bt_int (pua_cons (pu_bin od_fdiv (pu_ix (pu_var .z) pu_int) pu_int) pua_nil)) (pu_var (.s .z))))))))
theorem sc__law_day : FnScope ["bag", "most", "people", "many", "comes", "goes", "turn", "start", "stop"] ["bag", "most", "people"] (defScope s__law_day) := ⟨rfl, rfl, rfl, by decide +kernel, rfl, by decide +kernel, by decide +kernel⟩
theorem ok__law_day (E : Facts K mg) : Fn P w K mg base 2 "_law_day" s__law_day ["bag", "most", "people"] m__law_day := fn_mk (N := ["bag", "most", "people", "many", "comes", "goes", "turn", "start", "stop"]) 3 9 E.d__law_day sc__law_day (fun _ _ _ _ _ _ us hl => match us, hl with | [_, _, _], _ => rfl) fun f cdv A outer s H hg hr =>
  (puss_cons (pus_set (.s (.s (.s .z))) sc__law_day.nd rfl (Or.inl rfl) (pu_bin od_add pu_int (pu_callF (ok__law_take E) (by decide) hg hr rfl (pua_cons (pu_var .z) (pua_cons (pu_bin od_sub (pu_var (.s .z)) pu_int) pua_nil)))))
  (puss_cons (pus_par (.s (.s (.s (.s .z)))) (.s (.s (.s (.s (.s .z))))) true true rfl sc__law_day.nd rfl rfl (by decide) rfl rfl (pu_bin od_mul (pu_lst (pua_cons pu_int pua_nil)) (pu_var (.s (.s (.s .z))))) (pu_bin od_mul (pu_lst (pua_cons pu_int pua_nil)) (pu_var (.s (.s (.s .z))))) (ha := (pa_cons (pu_sel true (pu_bin od_mul (pu_lst (pua_cons pu_int pua_nil)) (pu_var (.s (.s (.s .z)))))) (pa_cons (pu_sel true (pu_bin od_mul (pu_lst (pua_cons pu_int pua_nil)) (pu_var (.s (.s (.s .z)))))) pa_nil))))
  (puss_cons (pus_for [(.s (.s (.s (.s (.s (.s .z)))))), (.s (.s (.s (.s (.s (.s (.s .z))))))), (.s (.s (.s (.s (.s (.s (.s (.s .z))))))))] PassesOwn.never rfl (pui_range1 rfl E.n_range (pua_cons (pu_bin od_add pu_int (pu_callF (ok__law_take E) (by decide) hg hr rfl (pua_cons (pu_var .z) (pua_cons (pu_var (.s (.s .z))) pua_nil)))) pua_nil)) (pug_name (.s (.s (.s (.s (.s (.s .z)))))) sc__law_day.nd rfl (Or.inl rfl))
  (puss_cons (pus_set (.s (.s (.s (.s (.s (.s (.s .z))))))) sc__law_day.nd rfl (Or.inl rfl) (pu_callF (ok__law_take E) (by decide) hg hr rfl (pua_cons (pu_var .z) (pua_cons (pu_bin od_sub (pu_var (.s (.s (.s .z)))) pu_int) pua_nil))))
  (puss_cons (pus_set (.s (.s (.s (.s (.s (.s (.s (.s .z)))))))) sc__law_day.nd rfl (Or.inl rfl) (pu_bin od_add (pu_bin od_add (pu_var (.s (.s (.s (.s (.s (.s (.s .z)))))))) pu_int) (pu_callF (ok__law_take E) (by decide) hg hr rfl (pua_cons (pu_var .z) (pua_cons (pu_bin od_sub (pu_bin od_sub (pu_var (.s (.s (.s .z)))) pu_int) (pu_var (.s (.s (.s (.s (.s (.s (.s .z))))))))) pua_nil)))))
  (puss_one (pus_asg (pu_tup (pua_cons (pu_bin od_add (pu_ix (pu_var (.s (.s (.s (.s .z))))) (pu_var (.s (.s (.s (.s (.s (.s (.s .z))))))))) pu_int) (pua_cons (pu_bin od_add (pu_ix (pu_var (.s (.s (.s (.s (.s .z)))))) (pu_var (.s (.s (.s (.s (.s (.s (.s (.s .z)))))))))) pu_int) pua_nil))) (pug_tup rfl (pugs_cons (pug_sub (.s (.s (.s (.s .z)))) (pu_var (.s (.s (.s (.s .z))))) (pu_var (.s (.s (.s (.s (.s (.s (.s .z))))))))) (pugs_cons (pug_sub (.s (.s (.s (.s (.s .z))))) (pu_var (.s (.s (.s (.s (.s .z)))))) (pu_var (.s (.s (.s (.s (.s (.s (.s (.s .z)))))))))) pugs_nil)) (pg_tup rfl (pugs_cons (pug_sub (.s (.s (.s (.s .z)))) (pu_var (.s (.s (.s (.s .z))))) (pu_var (.s (.s (.s (.s (.s (.s (.s .z))))))))) (pugs_cons (pug_sub (.s (.s (.s (.s (.s .z))))) (pu_var (.s (.s (.s (.s (.s .z)))))) (pu_var (.s (.s (.s (.s (.s (.s (.s (.s .z)))))))))) pugs_nil)))))))))
  (puss_one (pus_ret (pu_tup (pua_cons (pu_callTy cd_tuple rfl E.n_tuple bt_tuple (pua_cons (pu_var (.s (.s (.s (.s .z))))) pua_nil)) (pua_cons (pu_callTy cd_tuple rfl E.n_tuple bt_tuple (pua_cons (pu_var (.s (.s (.s (.s (.s .z)))))) pua_nil)) pua_nil))))))))
theorem sc__law_present : FnScope ["day", "found", "now", "comes", "goes"] ["day"] (defScope s__law_present) := ⟨rfl, rfl, rfl, by decide +kernel, rfl, by decide +kernel, by decide +kernel⟩
theorem ok__law_present (E : Facts K mg) : Fn P w K mg base 1 "_law_present" s__law_present ["day"] m__law_present := fn_mk (N := ["day", "found", "now", "comes", "goes"]) 1 5 E.d__law_present sc__law_present (fun _ _ _ _ _ _ us hl => match us, hl with | [_], _ => rfl) fun f cdv A outer s H hg hr =>
  (puss_cons (pus_par (.s .z) (.s (.s .z)) true false rfl sc__law_present.nd rfl rfl (by decide) rfl rfl (pu_lst pua_nil) pu_int (ha := (pa_cons (pu_sel true (pu_lst pua_nil)) (pa_cons (pu_sel false pu_int) pa_nil))))
  (puss_cons (pus_for [(.s (.s (.s .z))), (.s (.s (.s (.s .z))))] PassesOwn.never rfl (pui_zip rfl E.n_zip (pua_cons (pu_ix (pu_var .z) pu_int) (pua_cons (pu_ix (pu_var .z) pu_int) pua_nil))) (pug_tup rfl (pugs_cons (pug_name (.s (.s (.s .z))) sc__law_present.nd rfl (Or.inl rfl)) (pugs_cons (pug_name (.s (.s (.s (.s .z)))) sc__law_present.nd rfl (Or.inl rfl)) pugs_nil)) (pg_tup rfl (pugs_cons (pug_name (.s (.s (.s .z))) sc__law_present.nd rfl (Or.inl rfl)) (pugs_cons (pug_name (.s (.s (.s (.s .z)))) sc__law_present.nd rfl (Or.inl rfl)) pugs_nil))))
  (puss_cons (pus_set (.s (.s .z)) sc__law_present.nd rfl (Or.inl rfl) (pu_bin od_add (pu_bin od_sub (pu_var (.s (.s .z))) (pu_var (.s (.s (.s (.s .z)))))) (pu_var (.s (.s (.s .z))))))
  (puss_one (pus_expr (pu_append (.s .z) (pu_var (.s .z)) (pu_var (.s (.s .z))))))))
  (puss_one (pus_ret (pu_callTy cd_tuple rfl E.n_tuple bt_tuple (pua_cons (pu_var (.s .z)) pua_nil))))))
theorem sc__law_crowd : FnScope ["day", "first"] ["day", "first"] (defScope s__law_crowd) := ⟨rfl, rfl, rfl, by decide +kernel, rfl, by decide +kernel, by decide +kernel⟩
theorem ok__law_crowd (E : Facts K mg) : Fn P w K mg base 2 "_law_crowd" s__law_crowd ["day", "first"] m__law_crowd := fn_mk (N := ["day", "first"]) 2 2 E.d__law_crowd sc__law_crowd (fun _ _ _ _ _ _ us hl => match us, hl with | [_, _], _ => rfl) fun f cdv A outer s H hg hr =>
  (puss_one (pus_ret (pu_callB (cd_maxX rfl (room_u hr)) rfl E.n_max bt_max (pua_cons (pu_bin od_add (pu_callF (ok__law_present E) (by decide) hg hr rfl (pua_cons (pu_var (.s .z)) pua_nil)) (pu_callF (ok__law_present E) (by decide) hg hr rfl (pua_cons (pu_callF (ok__law_rest E) (by decide) hg hr rfl (pua_cons (pu_var .z) (pua_cons (pu_var (.s .z)) pua_nil))) pua_nil))) pua_nil))))
theorem sc__law_uneven : FnScope ["day", "first", "a", "b"] ["day", "first"] (defScope s__law_uneven) := ⟨rfl, rfl, rfl, by decide +kernel, rfl, by decide +kernel, by decide +kernel⟩
theorem ok__law_uneven (E : Facts K mg) : Fn P w K mg base 2 "_law_uneven" s__law_uneven ["day", "first"] m__law_uneven := fn_mk (N := ["day", "first", "a", "b"]) 2 4 E.d__law_uneven sc__law_uneven (fun _ _ _ _ _ _ us hl => match us, hl with | [_, _], _ => rfl) fun f cdv A outer s H hg hr =>
  (puss_one (pus_ret (pu_callB (cd_sum rfl) rfl E.n_sum bt_sum (pua_cons (pu_comp [(.s (.s .z)), (.s (.s (.s .z)))] [("a", 2), ("b", 3)] rfl (by decide) rfl sc__law_uneven.nd (pui_zip rfl E.n_zip (pua_cons (pu_callF (ok__law_present E) (by decide) hg hr rfl (pua_cons (pu_var (.s .z)) pua_nil)) (pua_cons (pu_callF (ok__law_present E) (by decide) hg hr rfl (pua_cons (pu_callF (ok__law_rest E) (by decide) hg hr rfl (pua_cons (pu_var .z) (pua_cons (pu_var (.s .z)) pua_nil))) pua_nil)) pua_nil))) (blkOk_by (by kernel_rfl)) (fun _ _ _ _ _ => (pug_tup rfl (pugs_cons (pug_name (.s (.s .z)) sc__law_uneven.nd rfl (Or.inl rfl)) (pugs_cons (pug_name (.s (.s (.s .z))) sc__law_uneven.nd rfl (Or.inl rfl)) pugs_nil)) (pg_tup rfl (pugs_cons (pug_name (.s (.s .z)) sc__law_uneven.nd rfl (Or.inl rfl)) (pugs_cons (pug_name (.s (.s (.s .z))) sc__law_uneven.nd rfl (Or.inl rfl)) pugs_nil))))) (fun _ _ _ _ _ => puts_nil) (fun _ _ _ _ _ => (pu_callB cd_abs rfl E.n_abs bt_abs (pua_cons (pu_bin od_sub (pu_var (.s (.s .z))) (pu_var (.s (.s (.s .z))))) pua_nil)))) pua_nil))))
theorem sc_is_tuple_of : FnScope ["value", "many"] ["value", "many"] (defScope s_is_tuple_of) := ⟨rfl, rfl, rfl, by decide +kernel, rfl, by decide +kernel, by decide +kernel⟩
theorem ok_is_tuple_of (E : Facts K mg) : Fn P w K mg base 1 "is_tuple_of" s_is_tuple_of ["value", "many"] m_is_tuple_of := fn_mk (N := ["value", "many"]) 2 2 E.d_is_tuple_of sc_is_tuple_of (fun _ _ _ _ _ _ us hl => match us, hl with | [_, _], _ => rfl) fun f cdv A outer s H hg hr =>
  (puss_one (pus_ret (pu_and (pu_isi (pu_var .z) rfl E.n_isinstance rfl E.n_tuple bt_tuple) (pu_one (pu_cmp (od_eq (room_e hr)) (pu_callB cd_len rfl E.n_len bt_len (pua_cons (pu_var .z) pua_nil)) (pu_var (.s .z)))))))
theorem sc_is_row : FnScope ["value", "least", "most"] ["value", "least", "most"] (defScope s_is_row) := ⟨rfl, rfl, rfl, by decide +kernel, rfl, by decide +kernel, by decide +kernel⟩
theorem ok_is_row (E : Facts K mg) : Fn P w K mg base 1 "is_row" s_is_row ["value", "least", "most"] m_is_row := fn_mk (N := ["value", "least", "most"]) 3 3 E.d_is_row sc_is_row (fun _ _ _ _ _ _ us hl => match us, hl with | [_, _, _], _ => rfl) fun f cdv A outer s H hg hr =>
  (puss_one (pus_ret (pu_and (pu_isi (pu_var .z) rfl E.n_isinstance rfl E.n_tuple bt_tuple) (pu_one (pu_chain od_le od_le (pu_var (.s .z)) (pu_callB cd_len rfl E.n_len bt_len (pua_cons (pu_var .z) pua_nil)) (pu_var (.s (.s .z))))))))
theorem sc_is_whole : FnScope ["value"] ["value"] (defScope s_is_whole) := ⟨rfl, rfl, rfl, by decide +kernel, rfl, by decide +kernel, by decide +kernel⟩
theorem ok_is_whole (E : Facts K mg) : Fn P w K mg base 1 "is_whole" s_is_whole ["value"] m_is_whole := fn_mk (N := ["value"]) 1 1 E.d_is_whole sc_is_whole (fun _ _ _ _ _ _ us hl => match us, hl with | [_], _ => rfl) fun f cdv A outer s H hg hr =>
  (puss_one (pus_ret (pu_and (pu_isi (pu_var .z) rfl E.n_isinstance rfl E.n_int bt_int) (pu_one (pu_not (pu_isi (pu_var .z) rfl E.n_isinstance rfl E.n_bool bt_bool))))))
theorem sc_is_between : FnScope ["value", "least", "most"] ["value", "least", "most"] (defScope s_is_between) := ⟨rfl, rfl, rfl, by decide +kernel, rfl, by decide +kernel, by decide +kernel⟩
theorem ok_is_between (E : Facts K mg) : Fn P w K mg base 2 "is_between" s_is_between ["value", "least", "most"] m_is_between := fn_mk (N := ["value", "least", "most"]) 3 3 E.d_is_between sc_is_between (fun _ _ _ _ _ _ us hl => match us, hl with | [_, _, _], _ => rfl) fun f cdv A outer s H hg hr =>
  (puss_one (pus_ret (pu_and (pu_callF (ok_is_whole E) (by decide) hg hr rfl (pua_cons (pu_var .z) pua_nil)) (pu_one (pu_chain od_le od_le (pu_var (.s .z)) (pu_var .z) (pu_var (.s (.s .z))))))))
theorem sc_are_counts : FnScope ["value", "own"] ["value"] (defScope s_are_counts) := ⟨rfl, rfl, rfl, by decide +kernel, rfl, by decide +kernel, by decide +kernel⟩
theorem ok_are_counts (E : Facts K mg) : Fn P w K mg base 3 "are_counts" s_are_counts ["value"] m_are_counts := fn_mk (N := ["value", "own"]) 1 2 E.d_are_counts sc_are_counts (fun _ _ _ _ _ _ us hl => match us, hl with | [_], _ => rfl) fun f cdv A outer s H hg hr =>
  (puss_cons (pus_if (put_w (puw_or (put_not (put_val (pu_callF (ok_is_row E) (by decide) hg hr rfl (pua_cons (pu_var .z) (pua_cons pu_int (pua_cons (pu_gint rfl E.c_MOST_TICKS) pua_nil)))))) (puw_or1 (put_not (put_val (pu_callB (cd_all rfl) rfl E.n_all bt_all (pua_cons (pu_comp [(.s .z)] [("own", 1)] rfl (by decide) rfl sc_are_counts.nd (pui_seq (pu_var .z)) (blkOk_by (by kernel_rfl)) (fun _ _ _ _ _ => (pug_name (.s .z) sc_are_counts.nd rfl (Or.inl rfl))) (fun _ _ _ _ _ => puts_nil) (fun _ _ _ _ _ => (pu_callF (ok_is_between E) (by decide) hg hr rfl (pua_cons (pu_var (.s .z)) (pua_cons pu_int (pua_cons (pu_gint rfl E.c_MOST_PEOPLE) pua_nil)))))) pua_nil)))))))
  (puss_one (pus_ret pu_bl))
  puss_nil)
  (puss_one (pus_ret (pu_cmp od_le (pu_callB (cd_sum rfl) rfl E.n_sum bt_sum (pua_cons (pu_var .z) pua_nil)) (pu_gint rfl E.c_MOST_PEOPLE)))))
theorem sc_is_any_day : FnScope ["value", "own"] ["value"] (defScope s_is_any_day) := ⟨rfl, rfl, rfl, by decide +kernel, rfl, by decide +kernel, by decide +kernel⟩
theorem ok_is_any_day (E : Facts K mg) : Fn P w K mg base 4 "is_any_day" s_is_any_day ["value"] m_is_any_day := fn_mk (N := ["value", "own"]) 1 2 E.d_is_any_day sc_is_any_day (fun _ _ _ _ _ _ us hl => match us, hl with | [_], _ => rfl) fun f cdv A outer s H hg hr =>
  (puss_one (pus_ret (pu_and (pu_callF (ok_is_tuple_of E) (by decide) hg hr rfl (pua_cons (pu_var .z) (pua_cons pu_int pua_nil))) (pu_and (pu_callB (cd_all rfl) rfl E.n_all bt_all (pua_cons (pu_comp [(.s .z)] [("own", 1)] rfl (by decide) rfl sc_is_any_day.nd (pui_seq (pu_var .z)) (blkOk_by (by kernel_rfl)) (fun _ _ _ _ _ => (pug_name (.s .z) sc_is_any_day.nd rfl (Or.inl rfl))) (fun _ _ _ _ _ => puts_nil) (fun _ _ _ _ _ => (pu_callF (ok_are_counts E) (by decide) hg hr rfl (pua_cons (pu_var (.s .z)) pua_nil)))) pua_nil)) (pu_one (pu_cmp (od_eq (room_e hr)) (pu_callB cd_len rfl E.n_len bt_len (pua_cons (pu_ix (pu_var .z) pu_int) pua_nil)) (pu_callB cd_len rfl E.n_len bt_len (pua_cons (pu_ix (pu_var .z) pu_int) pua_nil))))))))
theorem sc_have_one_sum : FnScope ["day"] ["day"] (defScope s_have_one_sum) := ⟨rfl, rfl, rfl, by decide +kernel, rfl, by decide +kernel, by decide +kernel⟩
theorem ok_have_one_sum (E : Facts K mg) : Fn P w K mg base 1 "have_one_sum" s_have_one_sum ["day"] m_have_one_sum := fn_mk (N := ["day"]) 1 1 E.d_have_one_sum sc_have_one_sum (fun _ _ _ _ _ _ us hl => match us, hl with | [_], _ => rfl) fun f cdv A outer s H hg hr =>
  (puss_one (pus_ret (pu_cmp (od_eq (room_e hr)) (pu_callB (cd_sum rfl) rfl E.n_sum bt_sum (pua_cons (pu_ix (pu_var .z) pu_int) pua_nil)) (pu_callB (cd_sum rfl) rfl E.n_sum bt_sum (pua_cons (pu_ix (pu_var .z) pu_int) pua_nil)))))
theorem sc_there_by : FnScope ["day", "tick"] ["day", "tick"] (defScope s_there_by) := ⟨rfl, rfl, rfl, by decide +kernel, rfl, by decide +kernel, by decide +kernel⟩
theorem ok_there_by (E : Facts K mg) : Fn P w K mg base 1 "there_by" s_there_by ["day", "tick"] m_there_by := fn_mk (N := ["day", "tick"]) 2 2 E.d_there_by sc_there_by (fun _ _ _ _ _ _ us hl => match us, hl with | [_, _], _ => rfl) fun f cdv A outer s H hg hr =>
  (puss_one (pus_ret (pu_bin od_sub (pu_callB (cd_sum rfl) rfl E.n_sum bt_sum (pua_cons (pu_sl (pu_ix (pu_var .z) pu_int) puo_none (puo_some (pu_var (.s .z)))) pua_nil)) (pu_callB (cd_sum rfl) rfl E.n_sum bt_sum (pua_cons (pu_sl (pu_ix (pu_var .z) pu_int) puo_none (puo_some (pu_bin od_add (pu_var (.s .z)) pu_int))) pua_nil)))))
theorem sc_goes_too_many : FnScope ["day", "tick"] ["day", "tick"] (defScope s_goes_too_many) := ⟨rfl, rfl, rfl, by decide +kernel, rfl, by decide +kernel, by decide +kernel⟩
theorem ok_goes_too_many (E : Facts K mg) : Fn P w K mg base 2 "goes_too_many" s_goes_too_many ["day", "tick"] m_goes_too_many := fn_mk (N := ["day", "tick"]) 2 2 E.d_goes_too_many sc_goes_too_many (fun _ _ _ _ _ _ us hl => match us, hl with | [_, _], _ => rfl) fun f cdv A outer s H hg hr =>
  (puss_one (pus_ret (pu_cmp od_lt (pu_callF (ok_there_by E) (by decide) hg hr rfl (pua_cons (pu_var .z) (pua_cons (pu_var (.s .z)) pua_nil))) pu_int)))
theorem sc_ticks_of : FnScope ["day"] ["day"] (defScope s_ticks_of) := ⟨rfl, rfl, rfl, by decide +kernel, rfl, by decide +kernel, by decide +kernel⟩
theorem ok_ticks_of (E : Facts K mg) : Fn P w K mg base 1 "ticks_of" s_ticks_of ["day"] m_ticks_of := fn_mk (N := ["day"]) 1 1 E.d_ticks_of sc_ticks_of (fun _ _ _ _ _ _ us hl => match us, hl with | [_], _ => rfl) fun f cdv A outer s H hg hr =>
  (puss_one (pus_ret (pu_callB cd_len rfl E.n_len bt_len (pua_cons (pu_ix (pu_var .z) pu_int) pua_nil))))
theorem sc_bar_by : FnScope ["day", "found", "tick"] ["day"] (defScope s_bar_by) := ⟨rfl, rfl, rfl, by decide +kernel, rfl, by decide +kernel, by decide +kernel⟩
theorem ok_bar_by (E : Facts K mg) : Fn P w K mg base 3 "bar_by" s_bar_by ["day"] m_bar_by := fn_mk (N := ["day", "found", "tick"]) 1 3 E.d_bar_by sc_bar_by (fun _ _ _ _ _ _ us hl => match us, hl with | [_], _ => rfl) fun f cdv A outer s H hg hr =>
  (puss_cons (pus_setComp (.s .z) false [(.s (.s .z))] [("tick", 2)] rfl (by decide) rfl sc_bar_by.nd rfl rfl rfl (pui_range1 rfl E.n_range (pua_cons (pu_callF (ok_ticks_of E) (by decide) hg hr rfl (pua_cons (pu_var .z) pua_nil)) pua_nil)) (blkOk_by (by kernel_rfl)) (fun _ _ _ _ _ => (pug_name (.s (.s .z)) sc_bar_by.nd rfl (Or.inl rfl))) (fun _ _ _ _ _ => (puts_one (put_val (pu_callF (ok_goes_too_many E) (by decide) hg hr rfl (pua_cons (pu_var .z) (pua_cons (pu_var (.s (.s .z))) pua_nil)))))) (fun _ _ _ _ _ => (pu_var (.s (.s .z)))))
  (puss_one (pus_ret (pu_if (put_cmp (od_ne (room_e hr)) (pu_var (.s .z)) (pu_lst pua_nil)) (pu_ix (pu_var (.s .z)) pu_int) pu_non))))
theorem sc_is_right_by : FnScope ["day"] ["day"] (defScope s_is_right_by) := ⟨rfl, rfl, rfl, by decide +kernel, rfl, by decide +kernel, by decide +kernel⟩
theorem ok_is_right_by (E : Facts K mg) : Fn P w K mg base 4 "is_right_by" s_is_right_by ["day"] m_is_right_by := fn_mk (N := ["day"]) 1 1 E.d_is_right_by sc_is_right_by (fun _ _ _ _ _ _ us hl => match us, hl with | [_], _ => rfl) fun f cdv A outer s H hg hr =>
  (puss_one (pus_ret (pu_and (pu_callF (ok_have_one_sum E) (by decide) hg hr rfl (pua_cons (pu_var .z) pua_nil)) (pu_one (pu_cmp od_is (pu_callF (ok_bar_by E) (by decide) hg hr rfl (pua_cons (pu_var .z) pua_nil)) pu_non)))))
theorem sc_people_of : FnScope ["day"] ["day"] (defScope s_people_of) := ⟨rfl, rfl, rfl, by decide +kernel, rfl, by decide +kernel, by decide +kernel⟩
theorem ok_people_of (E : Facts K mg) : Fn P w K mg base 1 "people_of" s_people_of ["day"] m_people_of := fn_mk (N := ["day"]) 1 1 E.d_people_of sc_people_of (fun _ _ _ _ _ _ us hl => match us, hl with | [_], _ => rfl) fun f cdv A outer s H hg hr =>
  (puss_one (pus_ret (pu_callB (cd_sum rfl) rfl E.n_sum bt_sum (pua_cons (pu_ix (pu_var .z) pu_int) pua_nil))))
theorem sc_is_day : FnScope ["value"] ["value"] (defScope s_is_day) := ⟨rfl, rfl, rfl, by decide +kernel, rfl, by decide +kernel, by decide +kernel⟩
theorem ok_is_day (E : Facts K mg) : Fn P w K mg base 5 "is_day" s_is_day ["value"] m_is_day := fn_mk (N := ["value"]) 1 1 E.d_is_day sc_is_day (fun _ _ _ _ _ _ us hl => match us, hl with | [_], _ => rfl) fun f cdv A outer s H hg hr =>
  (puss_one (pus_ret (pu_and (pu_callF (ok_is_any_day E) (by decide) hg hr rfl (pua_cons (pu_var .z) pua_nil)) (pu_and (pu_callF (ok_is_right_by E) (by decide) hg hr rfl (pua_cons (pu_var .z) pua_nil)) (pu_one (pu_cmp od_gt (pu_callF (ok_people_of E) (by decide) hg hr rfl (pua_cons (pu_var .z) pua_nil)) pu_int))))))
theorem sc_check_day : FnScope ["value"] ["value"] (defScope s_check_day) := ⟨rfl, rfl, rfl, by decide +kernel, rfl, by decide +kernel, by decide +kernel⟩
theorem ok_check_day (E : Facts K mg) : Fn P w K mg base 6 "check_day" s_check_day ["value"] m_check_day := fn_mk (N := ["value"]) 1 1 E.d_check_day sc_check_day (fun _ _ _ _ _ _ us hl => match us, hl with | [_], _ => rfl) fun f cdv A outer s H hg hr =>
  (puss_one (pus_if (put_not (put_val (pu_callF (ok_is_day E) (by decide) hg hr rfl (pua_cons (pu_var .z) pua_nil))))
  (puss_one pus_never)
  puss_nil))
theorem sc_present_by : FnScope ["day", "tick"] ["day"] (defScope s_present_by) := ⟨rfl, rfl, rfl, by decide +kernel, rfl, by decide +kernel, by decide +kernel⟩
theorem ok_present_by (E : Facts K mg) : Fn P w K mg base 2 "present_by" s_present_by ["day"] m_present_by := fn_mk (N := ["day", "tick"]) 1 2 E.d_present_by sc_present_by (fun _ _ _ _ _ _ us hl => match us, hl with | [_], _ => rfl) fun f cdv A outer s H hg hr =>
  (puss_one (pus_ret (pu_callTy cd_tuple rfl E.n_tuple bt_tuple (pua_cons (pu_comp [(.s .z)] [("tick", 1)] rfl (by decide) rfl sc_present_by.nd (pui_range1 rfl E.n_range (pua_cons (pu_callF (ok_ticks_of E) (by decide) hg hr rfl (pua_cons (pu_var .z) pua_nil)) pua_nil)) (blkOk_by (by kernel_rfl)) (fun _ _ _ _ _ => (pug_name (.s .z) sc_present_by.nd rfl (Or.inl rfl))) (fun _ _ _ _ _ => puts_nil) (fun _ _ _ _ _ => (pu_bin od_add (pu_callF (ok_there_by E) (by decide) hg hr rfl (pua_cons (pu_var .z) (pua_cons (pu_var (.s .z)) pua_nil))) (pu_ix (pu_ix (pu_var .z) pu_int) (pu_var (.s .z)))))) pua_nil))))
theorem sc_rest_of : FnScope ["day", "first", "told", "here", "there", "own", "gone"] ["day", "first"] (defScope s_rest_of) := ⟨rfl, rfl, rfl, by decide +kernel, rfl, by decide +kernel, by decide +kernel⟩
theorem ok_rest_of (E : Facts K mg) : Fn P w K mg base 1 "rest_of" s_rest_of ["day", "first"] m_rest_of := fn_mk (N := ["day", "first", "told", "here", "there", "own", "gone"]) 2 7 E.d_rest_of sc_rest_of (fun _ _ _ _ _ _ us hl => match us, hl with | [_, _], _ => rfl) fun f cdv A outer s H hg hr =>
  (puss_cons (pus_setComp (.s (.s .z)) false [(.s (.s (.s .z))), (.s (.s (.s (.s .z))))] [("here", 3), ("there", 4)] rfl (by decide) rfl sc_rest_of.nd rfl rfl rfl (pui_zip rfl E.n_zip (pua_cons (pu_var .z) (pua_cons (pu_var (.s .z)) pua_nil))) (blkOk_by (by kernel_rfl)) (fun _ _ _ _ _ => (pug_tup rfl (pugs_cons (pug_name (.s (.s (.s .z))) sc_rest_of.nd rfl (Or.inl rfl)) (pugs_cons (pug_name (.s (.s (.s (.s .z)))) sc_rest_of.nd rfl (Or.inl rfl)) pugs_nil)) (pg_tup rfl (pugs_cons (pug_name (.s (.s (.s .z))) sc_rest_of.nd rfl (Or.inl rfl)) (pugs_cons (pug_name (.s (.s (.s (.s .z)))) sc_rest_of.nd rfl (Or.inl rfl)) pugs_nil))))) (fun _ _ _ _ _ => puts_nil) (fun _ _ _ _ _ => (pu_callTy cd_tuple rfl E.n_tuple bt_tuple (pua_cons (pu_comp [(.s (.s (.s (.s (.s .z))))), (.s (.s (.s (.s (.s (.s .z))))))] [("own", 5), ("gone", 6)] rfl (by decide) rfl sc_rest_of.nd (pui_zip rfl E.n_zip (pua_cons (pu_var (.s (.s (.s .z)))) (pua_cons (pu_var (.s (.s (.s (.s .z))))) pua_nil))) (blkOk_by (by kernel_rfl)) (fun _ _ _ _ _ => (pug_tup rfl (pugs_cons (pug_name (.s (.s (.s (.s (.s .z))))) sc_rest_of.nd rfl (Or.inl rfl)) (pugs_cons (pug_name (.s (.s (.s (.s (.s (.s .z)))))) sc_rest_of.nd rfl (Or.inl rfl)) pugs_nil)) (pg_tup rfl (pugs_cons (pug_name (.s (.s (.s (.s (.s .z))))) sc_rest_of.nd rfl (Or.inl rfl)) (pugs_cons (pug_name (.s (.s (.s (.s (.s (.s .z)))))) sc_rest_of.nd rfl (Or.inl rfl)) pugs_nil))))) (fun _ _ _ _ _ => puts_nil) (fun _ _ _ _ _ => (pu_bin od_sub (pu_var (.s (.s (.s (.s (.s .z)))))) (pu_var (.s (.s (.s (.s (.s (.s .z)))))))))) pua_nil))))
  (puss_one (pus_ret (pu_tup (pua_cons (pu_ix (pu_var (.s (.s .z))) pu_int) (pua_cons (pu_ix (pu_var (.s (.s .z))) pu_int) pua_nil))))))
theorem sc_crowd_by : FnScope ["day", "first"] ["day", "first"] (defScope s_crowd_by) := ⟨rfl, rfl, rfl, by decide +kernel, rfl, by decide +kernel, by decide +kernel⟩
theorem ok_crowd_by (E : Facts K mg) : Fn P w K mg base 3 "crowd_by" s_crowd_by ["day", "first"] m_crowd_by := fn_mk (N := ["day", "first"]) 2 2 E.d_crowd_by sc_crowd_by (fun _ _ _ _ _ _ us hl => match us, hl with | [_, _], _ => rfl) fun f cdv A outer s H hg hr =>
  (puss_one (pus_ret (pu_callB (cd_maxX rfl (room_u hr)) rfl E.n_max bt_max (pua_cons (pu_lst (pua_star (pu_callF (ok_present_by E) (by decide) hg hr rfl (pua_cons (pu_var (.s .z)) pua_nil)) (pua_star (pu_callF (ok_present_by E) (by decide) hg hr rfl (pua_cons (pu_callF (ok_rest_of E) (by decide) hg hr rfl (pua_cons (pu_var .z) (pua_cons (pu_var (.s .z)) pua_nil))) pua_nil)) pua_nil))) pua_nil))))
theorem sc_rows_below : FnScope ["row", "found", "most", "own", "many"] ["row"] (defScope s_rows_below) := ⟨rfl, rfl, rfl, by decide +kernel, rfl, by decide +kernel, by decide +kernel⟩
theorem ok_rows_below (E : Facts K mg) : Fn P w K mg base 1 "rows_below" s_rows_below ["row"] m_rows_below := fn_mk (N := ["row", "found", "most", "own", "many"]) 1 5 E.d_rows_below sc_rows_below (fun _ _ _ _ _ _ us hl => match us, hl with | [_], _ => rfl) fun f cdv A outer s H hg hr =>
  (puss_cons (pus_set (.s .z) sc_rows_below.nd rfl (Or.inl rfl) (pu_lst (pua_cons (pu_tup pua_nil) pua_nil)))
  (puss_cons (pus_for [(.s (.s .z))] PassesOwn.never rfl (pui_seq (pu_var .z)) (pug_name (.s (.s .z)) sc_rows_below.nd rfl (Or.inr rfl))
  (puss_one (pus_setComp2 (.s .z) false [(.s (.s (.s .z))), (.s (.s (.s (.s .z))))] [(.s (.s (.s (.s .z))))] [("own", 3), ("many", 4)] rfl (by decide) (by decide) (by decide) rfl sc_rows_below.nd rfl rfl rfl (pui_seq (pu_var (.s .z))) (blkOk_by (by kernel_rfl)) (fun _ _ _ _ _ => (pug_name (.s (.s (.s .z))) sc_rows_below.nd rfl (Or.inl rfl))) (fun _ _ _ _ _ => puts_nil) (fun _ _ _ _ _ => (pui_range1 rfl E.n_range (pua_cons (pu_bin od_add (pu_var (.s (.s .z))) pu_int) pua_nil))) (fun _ _ _ _ _ => (pug_name (.s (.s (.s (.s .z)))) sc_rows_below.nd rfl (Or.inl rfl))) (fun _ _ _ _ _ => puts_nil) (fun _ _ _ _ _ => (pu_tup (pua_star (pu_var (.s (.s (.s .z)))) (pua_cons (pu_var (.s (.s (.s (.s .z))))) pua_nil)))))))
  (puss_one (pus_ret (pu_var (.s .z))))))
theorem sc_is_part_by : FnScope ["day", "first"] ["day", "first"] (defScope s_is_part_by) := ⟨rfl, rfl, rfl, by decide +kernel, rfl, by decide +kernel, by decide +kernel⟩
theorem ok_is_part_by (E : Facts K mg) : Fn P w K mg base 5 "is_part_by" s_is_part_by ["day", "first"] m_is_part_by := fn_mk (N := ["day", "first"]) 2 2 E.d_is_part_by sc_is_part_by (fun _ _ _ _ _ _ us hl => match us, hl with | [_, _], _ => rfl) fun f cdv A outer s H hg hr =>
  (puss_one (pus_ret (pu_and (pu_callF (ok_is_right_by E) (by decide) hg hr rfl (pua_cons (pu_var (.s .z)) pua_nil)) (pu_one (pu_callF (ok_is_right_by E) (by decide) hg hr rfl (pua_cons (pu_callF (ok_rest_of E) (by decide) hg hr rfl (pua_cons (pu_var .z) (pua_cons (pu_var (.s .z)) pua_nil))) pua_nil))))))
theorem sc_parts_by : FnScope ["day", "goes", "found", "row", "own"] ["day"] (defScope s_parts_by) := ⟨rfl, rfl, rfl, by decide +kernel, rfl, by decide +kernel, by decide +kernel⟩
theorem ok_parts_by (E : Facts K mg) : Fn P w K mg base 6 "parts_by" s_parts_by ["day"] m_parts_by := fn_mk (N := ["day", "goes", "found", "row", "own"]) 1 5 E.d_parts_by sc_parts_by (fun _ _ _ _ _ _ us hl => match us, hl with | [_], _ => rfl) fun f cdv A outer s H hg hr =>
  (puss_cons (pus_set (.s .z) sc_parts_by.nd rfl (Or.inl rfl) (pu_callF (ok_rows_below E) (by decide) hg hr rfl (pua_cons (pu_ix (pu_var .z) pu_int) pua_nil)))
  (puss_cons (pus_setM (.s (.s .z)) sc_parts_by.nd rfl (Or.inl rfl) (pu_lst pua_nil))
  (puss_cons (pus_for [(.s (.s (.s .z)))] PassesOwn.never rfl (pui_seq (pu_callF (ok_rows_below E) (by decide) hg hr rfl (pua_cons (pu_ix (pu_var .z) pu_int) pua_nil))) (pug_name (.s (.s (.s .z))) sc_parts_by.nd rfl (Or.inr rfl))
  (puss_one (pus_expr (pu_extend (.s (.s .z)) (pu_var (.s (.s .z))) (pu_comp [(.s (.s (.s (.s .z))))] [("own", 4)] rfl (by decide) rfl sc_parts_by.nd (pui_seq (pu_var (.s .z))) (blkOk_by (by kernel_rfl)) (fun _ _ _ _ _ => (pug_name (.s (.s (.s (.s .z)))) sc_parts_by.nd rfl (Or.inl rfl))) (fun _ _ _ _ _ => (puts_one (put_w (puw_and (put_cmp (od_eq (room_e hr)) (pu_callB (cd_sum rfl) rfl E.n_sum bt_sum (pua_cons (pu_var (.s (.s (.s (.s .z))))) pua_nil)) (pu_callB (cd_sum rfl) rfl E.n_sum bt_sum (pua_cons (pu_var (.s (.s (.s .z)))) pua_nil))) (puw_and1 (put_val (pu_callF (ok_is_part_by E) (by decide) hg hr rfl (pua_cons (pu_var .z) (pua_cons (pu_tup (pua_cons (pu_var (.s (.s (.s .z)))) (pua_cons (pu_var (.s (.s (.s (.s .z))))) pua_nil))) pua_nil))))))))) (fun _ _ _ _ _ => (pu_tup (pua_cons (pu_var (.s (.s (.s .z)))) (pua_cons (pu_var (.s (.s (.s (.s .z))))) pua_nil)))))))))
  (puss_one (pus_ret (pu_var (.s (.s .z))))))))
theorem sc_least_by : FnScope ["day", "first"] ["day"] (defScope s_least_by) := ⟨rfl, rfl, rfl, by decide +kernel, rfl, by decide +kernel, by decide +kernel⟩
theorem ok_least_by (E : Facts K mg) : Fn P w K mg base 7 "least_by" s_least_by ["day"] m_least_by := fn_mk (N := ["day", "first"]) 1 2 E.d_least_by sc_least_by (fun _ _ _ _ _ _ us hl => match us, hl with | [_], _ => rfl) fun f cdv A outer s H hg hr =>
  (puss_one (pus_ret (pu_callB (cd_minX rfl (room_u hr)) rfl E.n_min bt_min (pua_cons (pu_comp [(.s .z)] [("first", 1)] rfl (by decide) rfl sc_least_by.nd (pui_seq (pu_callF (ok_parts_by E) (by decide) hg hr rfl (pua_cons (pu_var .z) pua_nil))) (blkOk_by (by kernel_rfl)) (fun _ _ _ _ _ => (pug_name (.s .z) sc_least_by.nd rfl (Or.inl rfl))) (fun _ _ _ _ _ => puts_nil) (fun _ _ _ _ _ => (pu_tup (pua_cons (pu_callF (ok_crowd_by E) (by decide) hg hr rfl (pua_cons (pu_var .z) (pua_cons (pu_var (.s .z)) pua_nil))) (pua_cons (pu_var (.s .z)) pua_nil))))) pua_nil))))
theorem sc_least_crowd : FnScope ["day"] ["day"] (defScope s_least_crowd) := ⟨rfl, rfl, rfl, by decide +kernel, rfl, by decide +kernel, by decide +kernel⟩
theorem ok_least_crowd (E : Facts K mg) : Fn P w K mg base 8 "least_crowd" s_least_crowd ["day"] m_least_crowd := fn_mk (N := ["day"]) 1 1 E.d_least_crowd sc_least_crowd (fun _ _ _ _ _ _ us hl => match us, hl with | [_], _ => rfl) fun f cdv A outer s H hg hr =>
  (puss_cons (pus_expr (pu_callF (ok_check_day E) (by decide) hg hr rfl (pua_cons (pu_var .z) pua_nil)))
  (puss_one (pus_ret (pu_callF (ok_least_by E) (by decide) hg hr rfl (pua_cons (pu_var .z) pua_nil)))))
theorem sc_apart_by : FnScope ["day", "first", "one", "two"] ["day", "first"] (defScope s_apart_by) := ⟨rfl, rfl, rfl, by decide +kernel, rfl, by decide +kernel, by decide +kernel⟩
theorem ok_apart_by (E : Facts K mg) : Fn P w K mg base 3 "apart_by" s_apart_by ["day", "first"] m_apart_by := fn_mk (N := ["day", "first", "one", "two"]) 2 4 E.d_apart_by sc_apart_by (fun _ _ _ _ _ _ us hl => match us, hl with | [_, _], _ => rfl) fun f cdv A outer s H hg hr =>
  (puss_one (pus_ret (pu_callB (cd_sum rfl) rfl E.n_sum bt_sum (pua_cons (pu_comp [(.s (.s .z)), (.s (.s (.s .z)))] [("one", 2), ("two", 3)] rfl (by decide) rfl sc_apart_by.nd (pui_zip rfl E.n_zip (pua_cons (pu_callF (ok_present_by E) (by decide) hg hr rfl (pua_cons (pu_var (.s .z)) pua_nil)) (pua_cons (pu_callF (ok_present_by E) (by decide) hg hr rfl (pua_cons (pu_callF (ok_rest_of E) (by decide) hg hr rfl (pua_cons (pu_var .z) (pua_cons (pu_var (.s .z)) pua_nil))) pua_nil)) pua_nil))) (blkOk_by (by kernel_rfl)) (fun _ _ _ _ _ => (pug_tup rfl (pugs_cons (pug_name (.s (.s .z)) sc_apart_by.nd rfl (Or.inl rfl)) (pugs_cons (pug_name (.s (.s (.s .z))) sc_apart_by.nd rfl (Or.inl rfl)) pugs_nil)) (pg_tup rfl (pugs_cons (pug_name (.s (.s .z)) sc_apart_by.nd rfl (Or.inl rfl)) (pugs_cons (pug_name (.s (.s (.s .z))) sc_apart_by.nd rfl (Or.inl rfl)) pugs_nil))))) (fun _ _ _ _ _ => puts_nil) (fun _ _ _ _ _ => (pu_callB cd_abs rfl E.n_abs bt_abs (pua_cons (pu_bin od_sub (pu_var (.s (.s .z))) (pu_var (.s (.s (.s .z))))) pua_nil)))) pua_nil))))
theorem sc_evenest_by : FnScope ["day", "first"] ["day"] (defScope s_evenest_by) := ⟨rfl, rfl, rfl, by decide +kernel, rfl, by decide +kernel, by decide +kernel⟩
theorem ok_evenest_by (E : Facts K mg) : Fn P w K mg base 7 "evenest_by" s_evenest_by ["day"] m_evenest_by := fn_mk (N := ["day", "first"]) 1 2 E.d_evenest_by sc_evenest_by (fun _ _ _ _ _ _ us hl => match us, hl with | [_], _ => rfl) fun f cdv A outer s H hg hr =>
  (puss_one (pus_ret (pu_callB (cd_minX rfl (room_u hr)) rfl E.n_min bt_min (pua_cons (pu_comp [(.s .z)] [("first", 1)] rfl (by decide) rfl sc_evenest_by.nd (pui_seq (pu_callF (ok_parts_by E) (by decide) hg hr rfl (pua_cons (pu_var .z) pua_nil))) (blkOk_by (by kernel_rfl)) (fun _ _ _ _ _ => (pug_name (.s .z) sc_evenest_by.nd rfl (Or.inl rfl))) (fun _ _ _ _ _ => puts_nil) (fun _ _ _ _ _ => (pu_tup (pua_cons (pu_callF (ok_apart_by E) (by decide) hg hr rfl (pua_cons (pu_var .z) (pua_cons (pu_var (.s .z)) pua_nil))) (pua_cons (pu_var (.s .z)) pua_nil))))) pua_nil))))
theorem sc_evenest_parts : FnScope ["day"] ["day"] (defScope s_evenest_parts) := ⟨rfl, rfl, rfl, by decide +kernel, rfl, by decide +kernel, by decide +kernel⟩
theorem ok_evenest_parts (E : Facts K mg) : Fn P w K mg base 8 "evenest_parts" s_evenest_parts ["day"] m_evenest_parts := fn_mk (N := ["day"]) 1 1 E.d_evenest_parts sc_evenest_parts (fun _ _ _ _ _ _ us hl => match us, hl with | [_], _ => rfl) fun f cdv A outer s H hg hr =>
  (puss_cons (pus_expr (pu_callF (ok_check_day E) (by decide) hg hr rfl (pua_cons (pu_var .z) pua_nil)))
  (puss_one (pus_ret (pu_callF (ok_evenest_by E) (by decide) hg hr rfl (pua_cons (pu_var .z) pua_nil)))))
theorem sc_is_crowd : FnScope ["value"] ["value"] (defScope s_is_crowd) := ⟨rfl, rfl, rfl, by decide +kernel, rfl, by decide +kernel, by decide +kernel⟩
theorem ok_is_crowd (E : Facts K mg) : Fn P w K mg base 3 "is_crowd" s_is_crowd ["value"] m_is_crowd := fn_mk (N := ["value"]) 1 1 E.d_is_crowd sc_is_crowd (fun _ _ _ _ _ _ us hl => match us, hl with | [_], _ => rfl) fun f cdv A outer s H hg hr =>
  (puss_one (pus_ret (pu_callF (ok_is_between E) (by decide) hg hr rfl (pua_cons (pu_var .z) (pua_cons pu_int (pua_cons (pu_gint rfl E.c_MOST_PEOPLE) pua_nil))))))
theorem sc_check_crowd : FnScope ["most"] ["most"] (defScope s_check_crowd) := ⟨rfl, rfl, rfl, by decide +kernel, rfl, by decide +kernel, by decide +kernel⟩
theorem ok_check_crowd (E : Facts K mg) : Fn P w K mg base 4 "check_crowd" s_check_crowd ["most"] m_check_crowd := fn_mk (N := ["most"]) 1 1 E.d_check_crowd sc_check_crowd (fun _ _ _ _ _ _ us hl => match us, hl with | [_], _ => rfl) fun f cdv A outer s H hg hr =>
  (puss_one (pus_if (put_not (put_val (pu_callF (ok_is_crowd E) (by decide) hg hr rfl (pua_cons (pu_var .z) pua_nil))))
  (puss_one pus_never)
  puss_nil))
theorem sc_within_by : FnScope ["day", "most", "first"] ["day", "most"] (defScope s_within_by) := ⟨rfl, rfl, rfl, by decide +kernel, rfl, by decide +kernel, by decide +kernel⟩
theorem ok_within_by (E : Facts K mg) : Fn P w K mg base 7 "within_by" s_within_by ["day", "most"] m_within_by := fn_mk (N := ["day", "most", "first"]) 2 3 E.d_within_by sc_within_by (fun _ _ _ _ _ _ us hl => match us, hl with | [_, _], _ => rfl) fun f cdv A outer s H hg hr =>
  (puss_one (pus_ret (pu_callB cd_len rfl E.n_len bt_len (pua_cons (pu_comp [(.s (.s .z))] [("first", 2)] rfl (by decide) rfl sc_within_by.nd (pui_seq (pu_callF (ok_parts_by E) (by decide) hg hr rfl (pua_cons (pu_var .z) pua_nil))) (blkOk_by (by kernel_rfl)) (fun _ _ _ _ _ => (pug_name (.s (.s .z)) sc_within_by.nd rfl (Or.inl rfl))) (fun _ _ _ _ _ => (puts_one (put_cmp od_le (pu_callF (ok_crowd_by E) (by decide) hg hr rfl (pua_cons (pu_var .z) (pua_cons (pu_var (.s (.s .z))) pua_nil))) (pu_var (.s .z))))) (fun _ _ _ _ _ => pu_int)) pua_nil))))
theorem sc_count_within : FnScope ["day", "most"] ["day", "most"] (defScope s_count_within) := ⟨rfl, rfl, rfl, by decide +kernel, rfl, by decide +kernel, by decide +kernel⟩
theorem ok_count_within (E : Facts K mg) : Fn P w K mg base 8 "count_within" s_count_within ["day", "most"] m_count_within := fn_mk (N := ["day", "most"]) 2 2 E.d_count_within sc_count_within (fun _ _ _ _ _ _ us hl => match us, hl with | [_, _], _ => rfl) fun f cdv A outer s H hg hr =>
  (puss_cons (pus_expr (pu_callF (ok_check_day E) (by decide) hg hr rfl (pua_cons (pu_var .z) pua_nil)))
  (puss_cons (pus_expr (pu_callF (ok_check_crowd E) (by decide) hg hr rfl (pua_cons (pu_var (.s .z)) pua_nil)))
  (puss_one (pus_ret (pu_callF (ok_within_by E) (by decide) hg hr rfl (pua_cons (pu_var .z) (pua_cons (pu_var (.s .z)) pua_nil)))))))
theorem sc__law_right : FnScope ["bag", "day", "most", "some", "crowds", "uneven", "due", "many", "peak", "odd", "own"] ["bag"] (defScope s__law_right) := ⟨rfl, rfl, rfl, by decide +kernel, rfl, by decide +kernel, by decide +kernel⟩
theorem ok__law_right (E : Facts K mg) : Fn P w K mg base 9 "_law_right" s__law_right ["bag"] m__law_right := fn_mk (N := ["bag", "day", "most", "some", "crowds", "uneven", "due", "many", "peak", "odd", "own"]) 1 11 E.d__law_right sc__law_right (fun _ _ _ _ _ _ us hl => match us, hl with | [_], _ => rfl) fun f cdv A outer s H hg hr =>
  (puss_cons (pus_asg (pu_tup (pua_cons (pu_callF (ok__law_day E) (by decide) hg hr rfl (pua_cons (pu_var .z) (pua_cons pu_int (pua_cons pu_int pua_nil)))) (pua_cons (pu_bin od_add pu_int (pu_callF (ok__law_take E) (by decide) hg hr rfl (pua_cons (pu_var .z) (pua_cons pu_int pua_nil)))) pua_nil))) (pug_tup rfl (pugs_cons (pug_name (.s .z) sc__law_right.nd rfl (Or.inr rfl)) (pugs_cons (pug_name (.s (.s .z)) sc__law_right.nd rfl (Or.inr rfl)) pugs_nil)) (pg_tup rfl (pugs_cons (pug_name (.s .z) sc__law_right.nd rfl (Or.inr rfl)) (pugs_cons (pug_name (.s (.s .z)) sc__law_right.nd rfl (Or.inr rfl)) pugs_nil)))))
  (puss_cons (pus_set (.s (.s (.s .z))) sc__law_right.nd rfl (Or.inl rfl) (pu_callF (ok__law_parts E) (by decide) hg hr rfl (pua_cons (pu_var (.s .z)) pua_nil)))
  (puss_cons (pus_setComp (.s (.s (.s (.s .z)))) false [(.s (.s (.s (.s (.s (.s (.s (.s (.s (.s .z))))))))))] [("own", 10)] rfl (by decide) rfl sc__law_right.nd rfl rfl rfl (pui_seq (pu_var (.s (.s (.s .z))))) (blkOk_by (by kernel_rfl)) (fun _ _ _ _ _ => (pug_name (.s (.s (.s (.s (.s (.s (.s (.s (.s (.s .z)))))))))) sc__law_right.nd rfl (Or.inl rfl))) (fun _ _ _ _ _ => puts_nil) (fun _ _ _ _ _ => (pu_callF (ok__law_crowd E) (by decide) hg hr rfl (pua_cons (pu_var (.s .z)) (pua_cons (pu_var (.s (.s (.s (.s (.s (.s (.s (.s (.s (.s .z))))))))))) pua_nil)))))
  (puss_cons (pus_setComp (.s (.s (.s (.s (.s .z))))) false [(.s (.s (.s (.s (.s (.s (.s (.s (.s (.s .z))))))))))] [("own", 10)] rfl (by decide) rfl sc__law_right.nd rfl rfl rfl (pui_seq (pu_var (.s (.s (.s .z))))) (blkOk_by (by kernel_rfl)) (fun _ _ _ _ _ => (pug_name (.s (.s (.s (.s (.s (.s (.s (.s (.s (.s .z)))))))))) sc__law_right.nd rfl (Or.inl rfl))) (fun _ _ _ _ _ => puts_nil) (fun _ _ _ _ _ => (pu_callF (ok__law_uneven E) (by decide) hg hr rfl (pua_cons (pu_var (.s .z)) (pua_cons (pu_var (.s (.s (.s (.s (.s (.s (.s (.s (.s (.s .z))))))))))) pua_nil)))))
  (puss_cons (pus_set (.s (.s (.s (.s (.s (.s .z)))))) sc__law_right.nd rfl (Or.inl rfl) (pu_lst (pua_cons (pu_tup (pua_cons (pu_callB (cd_minX rfl (room_u hr)) rfl E.n_min bt_min (pua_cons (pu_var (.s (.s (.s (.s .z))))) pua_nil)) (pua_cons (pu_ix (pu_var (.s (.s (.s .z)))) (pu_index (room_i hr) (pu_var (.s (.s (.s (.s .z))))) (pu_callB (cd_minX rfl (room_u hr)) rfl E.n_min bt_min (pua_cons (pu_var (.s (.s (.s (.s .z))))) pua_nil)))) pua_nil))) (pua_cons (pu_tup (pua_cons (pu_callB (cd_minX rfl (room_u hr)) rfl E.n_min bt_min (pua_cons (pu_var (.s (.s (.s (.s (.s .z)))))) pua_nil)) (pua_cons (pu_ix (pu_var (.s (.s (.s .z)))) (pu_index (room_i hr) (pu_var (.s (.s (.s (.s (.s .z)))))) (pu_callB (cd_minX rfl (room_u hr)) rfl E.n_min bt_min (pua_cons (pu_var (.s (.s (.s (.s (.s .z)))))) pua_nil)))) pua_nil))) pua_nil))))
  (puss_cons (pus_if (put_cmp (od_ne (room_e hr)) (pu_callB (cd_repr hg (room_u hr)) rfl E.n_repr bt_repr (pua_cons (pu_lst (pua_cons (pu_callF (ok_least_crowd E) (by decide) hg hr rfl (pua_cons (pu_var (.s .z)) pua_nil)) (pua_cons (pu_callF (ok_evenest_parts E) (by decide) hg hr rfl (pua_cons (pu_var (.s .z)) pua_nil)) pua_nil))) pua_nil)) (pu_callB (cd_repr hg (room_u hr)) rfl E.n_repr bt_repr (pua_cons (pu_var (.s (.s (.s (.s (.s (.s .z))))))) pua_nil)))
  (puss_one (pus_ret pu_bl))
  puss_nil)
  (puss_cons (pus_if (put_cmp (od_ne (room_e hr)) (pu_callB (cd_repr hg (room_u hr)) rfl E.n_repr bt_repr (pua_cons (pu_lst (pua_cons (pu_callFK0 [0] 1 (ok_least_crowd E) (by decide) hg hr rfl bw_least_crowd_0_day (puk_cons (pu_var (.s .z)) puk_nil)) (pua_cons (pu_callFK0 [0] 1 (ok_evenest_parts E) (by decide) hg hr rfl bw_evenest_parts_0_day (puk_cons (pu_var (.s .z)) puk_nil)) pua_nil))) pua_nil)) (pu_callB (cd_repr hg (room_u hr)) rfl E.n_repr bt_repr (pua_cons (pu_var (.s (.s (.s (.s (.s (.s .z))))))) pua_nil)))
  (puss_one (pus_ret pu_bl))
  puss_nil)
  (puss_cons (pus_set (.s (.s (.s (.s (.s (.s (.s .z))))))) sc__law_right.nd rfl (Or.inl rfl) (pu_callB cd_len rfl E.n_len bt_len (pua_cons (pu_comp [(.s (.s (.s (.s (.s (.s (.s (.s (.s (.s .z))))))))))] [("own", 10)] rfl (by decide) rfl sc__law_right.nd (pui_seq (pu_var (.s (.s (.s (.s .z)))))) (blkOk_by (by kernel_rfl)) (fun _ _ _ _ _ => (pug_name (.s (.s (.s (.s (.s (.s (.s (.s (.s (.s .z)))))))))) sc__law_right.nd rfl (Or.inl rfl))) (fun _ _ _ _ _ => (puts_one (put_cmp od_le (pu_var (.s (.s (.s (.s (.s (.s (.s (.s (.s (.s .z))))))))))) (pu_var (.s (.s .z)))))) (fun _ _ _ _ _ => (pu_var (.s (.s (.s (.s (.s (.s (.s (.s (.s (.s .z))))))))))))) pua_nil)))
  (puss_cons (pus_if (put_cmp (od_ne (room_e hr)) (pu_callB (cd_repr hg (room_u hr)) rfl E.n_repr bt_repr (pua_cons (pu_lst (pua_cons (pu_callF (ok_count_within E) (by decide) hg hr rfl (pua_cons (pu_var (.s .z)) (pua_cons (pu_var (.s (.s .z))) pua_nil))) (pua_cons (pu_callFK0 [1, 0] 2 (ok_count_within E) (by decide) hg hr rfl bw_count_within_0_most_day (puk_cons (pu_var (.s (.s .z))) (puk_cons (pu_var (.s .z)) puk_nil))) pua_nil))) pua_nil)) (pu_callB (cd_repr hg (room_u hr)) rfl E.n_repr bt_repr (pua_cons (pu_lst (pua_cons (pu_var (.s (.s (.s (.s (.s (.s (.s .z)))))))) (pua_cons (pu_var (.s (.s (.s (.s (.s (.s (.s .z)))))))) pua_nil))) pua_nil)))
  (puss_one (pus_ret pu_bl))
  puss_nil)
  (puss_cons (pus_set (.s (.s (.s (.s (.s (.s (.s (.s .z)))))))) sc__law_right.nd rfl (Or.inl rfl) (pu_callB (cd_maxX rfl (room_u hr)) rfl E.n_max bt_max (pua_cons (pu_callF (ok__law_present E) (by decide) hg hr rfl (pua_cons (pu_var (.s .z)) pua_nil)) pua_nil)))
  (puss_cons (pus_if (put_w (puw_or (put_cmp od_lt (pu_bin od_mul pu_int (pu_ix (pu_ix (pu_var (.s (.s (.s (.s (.s (.s .z))))))) pu_int) pu_int)) (pu_var (.s (.s (.s (.s (.s (.s (.s (.s .z)))))))))) (puw_or1 (put_cmp od_gt (pu_ix (pu_ix (pu_var (.s (.s (.s (.s (.s (.s .z))))))) pu_int) pu_int) (pu_var (.s (.s (.s (.s (.s (.s (.s (.s .z)))))))))))))
  (puss_one (pus_ret pu_bl))
  puss_nil)
  (puss_cons (pus_set (.s (.s (.s (.s (.s (.s (.s (.s (.s .z))))))))) sc__law_right.nd rfl (Or.inl rfl) (pu_callB cd_len rfl E.n_len bt_len (pua_cons (pu_comp [(.s (.s (.s (.s (.s (.s (.s (.s (.s (.s .z))))))))))] [("own", 10)] rfl (by decide) rfl sc__law_right.nd (pui_seq (pu_callF (ok__law_present E) (by decide) hg hr rfl (pua_cons (pu_var (.s .z)) pua_nil))) (blkOk_by (by kernel_rfl)) (fun _ _ _ _ _ => (pug_name (.s (.s (.s (.s (.s (.s (.s (.s (.s (.s .z)))))))))) sc__law_right.nd rfl (Or.inl rfl))) (fun _ _ _ _ _ => (puts_one (put_cmp (od_eq (room_e hr)) (pu_bin od_mod (pu_callTy cd_int rfl E.n_int bt_int (pua_cons (pu_var (.s (.s (.s (.s (.s (.s (.s (.s (.s (.s .z))))))))))) pua_nil)) pu_int) pu_int))) (fun _ _ _ _ _ => (pu_var (.s (.s (.s (.s (.s (.s (.s (.s (.s (.s .z))))))))))))) pua_nil)))
  (puss_one (pus_ret (pu_and (pu_cmp od_ge (pu_ix (pu_ix (pu_var (.s (.s (.s (.s (.s (.s .z))))))) pu_int) pu_int) (pu_var (.s (.s (.s (.s (.s (.s (.s (.s (.s .z))))))))))) (pu_one (pu_or (pu_cmp od_lt (pu_ix (pu_ix (pu_var (.s (.s (.s (.s (.s (.s .z))))))) pu_int) pu_int) pu_int) (pu_one (pu_cmp (od_eq (room_e hr)) (pu_callF (ok_count_within E) (by decide) hg hr rfl (pua_cons (pu_var (.s .z)) (pua_cons (pu_bin od_sub (pu_ix (pu_ix (pu_var (.s (.s (.s (.s (.s (.s .z))))))) pu_int) pu_int) pu_int) pua_nil))) pu_int)))))))))))))))))))
theorem sc_law : FnScope ["script", "lap", "bag", "turn"] ["script"] (defScope s_law) := ⟨rfl, rfl, rfl, by decide +kernel, rfl, by decide +kernel, by decide +kernel⟩
theorem ok_law (E : Facts K mg) : Fn P w K mg base 10 "law" s_law ["script"] m_law := fn_mk (N := ["script", "lap", "bag", "turn"]) 1 4 E.d_law sc_law (fun _ _ _ _ _ _ us hl => match us, hl with | [_], _ => rfl) fun f cdv A outer s H hg hr =>
  (puss_cons (pus_for [(.s .z), (.s (.s .z))] PassesOwn.never rfl (pui_range1 rfl E.n_range (pua_cons (pu_callB (cd_maxX rfl (room_u hr)) rfl E.n_max bt_max (pua_cons pu_int (pua_cons (pu_callB (cd_minX rfl (room_u hr)) rfl E.n_min bt_min (pua_cons (pu_callB cd_len rfl E.n_len bt_len (pua_cons (pu_var .z) pua_nil)) (pua_cons pu_int pua_nil))) pua_nil))) pua_nil)) (pug_name (.s .z) sc_law.nd rfl (Or.inl rfl))
  (puss_cons (pus_setM (.s (.s .z)) sc_law.nd rfl (Or.inr rfl) (pu_callF (ok__law_bag E) (by decide) hg hr rfl (pua_cons (pu_var .z) (pua_cons (pu_var (.s .z)) pua_nil))))
  (puss_one (pus_if (put_not (put_val (pu_callB (cd_all rfl) rfl E.n_all bt_all (pua_cons (pu_comp [(.s (.s (.s .z)))] [("turn", 3)] rfl (by decide) rfl sc_law.nd (pui_range1 rfl E.n_range (pua_cons pu_int pua_nil)) (blkOk_by (by kernel_rfl)) (fun _ _ _ _ _ => (pug_name (.s (.s (.s .z))) sc_law.nd rfl (Or.inl rfl))) (fun _ _ _ _ _ => puts_nil) (fun _ _ _ _ _ => (pu_callF (ok__law_right E) (by decide) hg hr rfl (pua_cons (pu_var (.s (.s .z))) pua_nil)))) pua_nil))))
  (puss_one (pus_ret pu_bl))
  puss_nil))))
  (puss_one (pus_ret pu_bl)))
end
def dd__law_bag : He.DefD := ⟨("_law_bag", none), "_law_bag", "_law_bag", defArgs s__law_bag, defBody s__law_bag, defScope s__law_bag, [], []⟩
def dd__law_is_right : He.DefD := ⟨("_law_is_right", none), "_law_is_right", "_law_is_right", defArgs s__law_is_right, defBody s__law_is_right, defScope s__law_is_right, [], []⟩
def dd__law_rest : He.DefD := ⟨("_law_rest", none), "_law_rest", "_law_rest", defArgs s__law_rest, defBody s__law_rest, defScope s__law_rest, [], []⟩
def dd__law_parts : He.DefD := ⟨("_law_parts", none), "_law_parts", "_law_parts", defArgs s__law_parts, defBody s__law_parts, defScope s__law_parts, [], []⟩
def dd__law_take : He.DefD := ⟨("_law_take", none), "_law_take", "_law_take", defArgs s__law_take, defBody s__law_take, defScope s__law_take, [], []⟩
def dd__law_day : He.DefD := ⟨("_law_day", none), "_law_day", "_law_day", defArgs s__law_day, defBody s__law_day, defScope s__law_day, [], []⟩
def dd__law_present : He.DefD := ⟨("_law_present", none), "_law_present", "_law_present", defArgs s__law_present, defBody s__law_present, defScope s__law_present, [], []⟩
def dd__law_crowd : He.DefD := ⟨("_law_crowd", none), "_law_crowd", "_law_crowd", defArgs s__law_crowd, defBody s__law_crowd, defScope s__law_crowd, [], []⟩
def dd__law_uneven : He.DefD := ⟨("_law_uneven", none), "_law_uneven", "_law_uneven", defArgs s__law_uneven, defBody s__law_uneven, defScope s__law_uneven, [], []⟩
def dd_is_tuple_of : He.DefD := ⟨("is_tuple_of", none), "is_tuple_of", "is_tuple_of", defArgs s_is_tuple_of, defBody s_is_tuple_of, defScope s_is_tuple_of, [], []⟩
def dd_is_row : He.DefD := ⟨("is_row", none), "is_row", "is_row", defArgs s_is_row, defBody s_is_row, defScope s_is_row, [], []⟩
def dd_is_whole : He.DefD := ⟨("is_whole", none), "is_whole", "is_whole", defArgs s_is_whole, defBody s_is_whole, defScope s_is_whole, [], []⟩
def dd_is_between : He.DefD := ⟨("is_between", none), "is_between", "is_between", defArgs s_is_between, defBody s_is_between, defScope s_is_between, [], []⟩
def dd_are_counts : He.DefD := ⟨("are_counts", none), "are_counts", "are_counts", defArgs s_are_counts, defBody s_are_counts, defScope s_are_counts, [], []⟩
def dd_is_any_day : He.DefD := ⟨("is_any_day", none), "is_any_day", "is_any_day", defArgs s_is_any_day, defBody s_is_any_day, defScope s_is_any_day, [], []⟩
def dd_have_one_sum : He.DefD := ⟨("have_one_sum", none), "have_one_sum", "have_one_sum", defArgs s_have_one_sum, defBody s_have_one_sum, defScope s_have_one_sum, [], []⟩
def dd_there_by : He.DefD := ⟨("there_by", none), "there_by", "there_by", defArgs s_there_by, defBody s_there_by, defScope s_there_by, [], []⟩
def dd_goes_too_many : He.DefD := ⟨("goes_too_many", none), "goes_too_many", "goes_too_many", defArgs s_goes_too_many, defBody s_goes_too_many, defScope s_goes_too_many, [], []⟩
def dd_ticks_of : He.DefD := ⟨("ticks_of", none), "ticks_of", "ticks_of", defArgs s_ticks_of, defBody s_ticks_of, defScope s_ticks_of, [], []⟩
def dd_bar_by : He.DefD := ⟨("bar_by", none), "bar_by", "bar_by", defArgs s_bar_by, defBody s_bar_by, defScope s_bar_by, [], []⟩
def dd_is_right_by : He.DefD := ⟨("is_right_by", none), "is_right_by", "is_right_by", defArgs s_is_right_by, defBody s_is_right_by, defScope s_is_right_by, [], []⟩
def dd_people_of : He.DefD := ⟨("people_of", none), "people_of", "people_of", defArgs s_people_of, defBody s_people_of, defScope s_people_of, [], []⟩
def dd_is_day : He.DefD := ⟨("is_day", none), "is_day", "is_day", defArgs s_is_day, defBody s_is_day, defScope s_is_day, [], []⟩
def dd_check_day : He.DefD := ⟨("check_day", none), "check_day", "check_day", defArgs s_check_day, defBody s_check_day, defScope s_check_day, [], []⟩
def dd_present_by : He.DefD := ⟨("present_by", none), "present_by", "present_by", defArgs s_present_by, defBody s_present_by, defScope s_present_by, [], []⟩
def dd_rest_of : He.DefD := ⟨("rest_of", none), "rest_of", "rest_of", defArgs s_rest_of, defBody s_rest_of, defScope s_rest_of, [], []⟩
def dd_crowd_by : He.DefD := ⟨("crowd_by", none), "crowd_by", "crowd_by", defArgs s_crowd_by, defBody s_crowd_by, defScope s_crowd_by, [], []⟩
def dd_rows_below : He.DefD := ⟨("rows_below", none), "rows_below", "rows_below", defArgs s_rows_below, defBody s_rows_below, defScope s_rows_below, [], []⟩
def dd_is_part_by : He.DefD := ⟨("is_part_by", none), "is_part_by", "is_part_by", defArgs s_is_part_by, defBody s_is_part_by, defScope s_is_part_by, [], []⟩
def dd_parts_by : He.DefD := ⟨("parts_by", none), "parts_by", "parts_by", defArgs s_parts_by, defBody s_parts_by, defScope s_parts_by, [], []⟩
def dd_least_by : He.DefD := ⟨("least_by", none), "least_by", "least_by", defArgs s_least_by, defBody s_least_by, defScope s_least_by, [], []⟩
def dd_least_crowd : He.DefD := ⟨("least_crowd", none), "least_crowd", "least_crowd", defArgs s_least_crowd, defBody s_least_crowd, defScope s_least_crowd, [], []⟩
def dd_apart_by : He.DefD := ⟨("apart_by", none), "apart_by", "apart_by", defArgs s_apart_by, defBody s_apart_by, defScope s_apart_by, [], []⟩
def dd_evenest_by : He.DefD := ⟨("evenest_by", none), "evenest_by", "evenest_by", defArgs s_evenest_by, defBody s_evenest_by, defScope s_evenest_by, [], []⟩
def dd_evenest_parts : He.DefD := ⟨("evenest_parts", none), "evenest_parts", "evenest_parts", defArgs s_evenest_parts, defBody s_evenest_parts, defScope s_evenest_parts, [], []⟩
def dd_is_crowd : He.DefD := ⟨("is_crowd", none), "is_crowd", "is_crowd", defArgs s_is_crowd, defBody s_is_crowd, defScope s_is_crowd, [], []⟩
def dd_check_crowd : He.DefD := ⟨("check_crowd", none), "check_crowd", "check_crowd", defArgs s_check_crowd, defBody s_check_crowd, defScope s_check_crowd, [], []⟩
def dd_within_by : He.DefD := ⟨("within_by", none), "within_by", "within_by", defArgs s_within_by, defBody s_within_by, defScope s_within_by, [], []⟩
def dd_count_within : He.DefD := ⟨("count_within", none), "count_within", "count_within", defArgs s_count_within, defBody s_count_within, defScope s_count_within, [], []⟩
def dd__law_right : He.DefD := ⟨("_law_right", none), "_law_right", "_law_right", defArgs s__law_right, defBody s__law_right, defScope s__law_right, [], []⟩
def dd_law : He.DefD := ⟨("law", none), "law", "law", defArgs s_law, defBody s_law, defScope s_law, [], []⟩
def fn : List He.DefD := [dd__law_bag, dd__law_is_right, dd__law_rest, dd__law_parts, dd__law_take, dd__law_day, dd__law_present, dd__law_crowd, dd__law_uneven, dd_is_tuple_of, dd_is_row, dd_is_whole, dd_is_between, dd_are_counts, dd_is_any_day, dd_have_one_sum, dd_there_by, dd_goes_too_many, dd_ticks_of, dd_bar_by, dd_is_right_by, dd_people_of, dd_is_day, dd_check_day, dd_present_by, dd_rest_of, dd_crowd_by, dd_rows_below, dd_is_part_by, dd_parts_by, dd_least_by, dd_least_crowd, dd_apart_by, dd_evenest_by, dd_evenest_parts, dd_is_crowd, dd_check_crowd, dd_within_by, dd_count_within, dd__law_right, dd_law]
def fa : List He.Fa := [.glo "_law_bag", .glo "_law_is_right", .glo "_law_rest", .glo "_law_parts", .glo "_law_take", .glo "_law_day", .glo "_law_present", .glo "_law_crowd", .glo "_law_uneven", .glo "is_tuple_of", .glo "is_row", .glo "is_whole", .glo "is_between", .glo "are_counts", .glo "is_any_day", .glo "have_one_sum", .glo "there_by", .glo "goes_too_many", .glo "ticks_of", .glo "bar_by", .glo "is_right_by", .glo "people_of", .glo "is_day", .glo "check_day", .glo "present_by", .glo "rest_of", .glo "crowd_by", .glo "rows_below", .glo "is_part_by", .glo "parts_by", .glo "least_by", .glo "least_crowd", .glo "apart_by", .glo "evenest_by", .glo "evenest_parts", .glo "is_crowd", .glo "check_crowd", .glo "within_by", .glo "count_within", .glo "_law_right", .glo "law", .free "abs", .free "all", .free "bool", .free "divmod", .free "int", .free "isinstance", .free "len", .free "max", .free "min", .free "range", .free "repr", .free "sorted", .free "sum", .free "tuple", .free "zip", .int "MOST_PEOPLE" 7, .int "MOST_TICKS" 6]
theorem facts {K : PySem.W.Frag} {h : Heap} {mg : Str → Option Value} (X : K.In h) (G : h.Ns mainGlobals mg) (c : He.SaysD fa fn K) : Facts K mg where
  n_abs := He.free_ok X G (c.fact 41 (f := .free "abs") rfl)
  n_all := He.free_ok X G (c.fact 42 (f := .free "all") rfl)
  n_bool := He.free_ok X G (c.fact 43 (f := .free "bool") rfl)
  n_divmod := He.free_ok X G (c.fact 44 (f := .free "divmod") rfl)
  n_int := He.free_ok X G (c.fact 45 (f := .free "int") rfl)
  n_isinstance := He.free_ok X G (c.fact 46 (f := .free "isinstance") rfl)
  n_len := He.free_ok X G (c.fact 47 (f := .free "len") rfl)
  n_max := He.free_ok X G (c.fact 48 (f := .free "max") rfl)
  n_min := He.free_ok X G (c.fact 49 (f := .free "min") rfl)
  n_range := He.free_ok X G (c.fact 50 (f := .free "range") rfl)
  n_repr := He.free_ok X G (c.fact 51 (f := .free "repr") rfl)
  n_sorted := He.free_ok X G (c.fact 52 (f := .free "sorted") rfl)
  n_sum := He.free_ok X G (c.fact 53 (f := .free "sum") rfl)
  n_tuple := He.free_ok X G (c.fact 54 (f := .free "tuple") rfl)
  n_zip := He.free_ok X G (c.fact 55 (f := .free "zip") rfl)
  c_MOST_PEOPLE := He.int_ok X G (c.fact 56 (f := .int "MOST_PEOPLE" 7) rfl)
  c_MOST_TICKS := He.int_ok X G (c.fact 57 (f := .int "MOST_TICKS" 6) rfl)
  d__law_bag := by
    obtain ⟨fd, F⟩ := c.def_ 0 (d := dd__law_bag) rfl
    exact ⟨_, fd, F, He.glo_ok X G (c.fact 0 (f := .glo "_law_bag") rfl)⟩
  d__law_is_right := by
    obtain ⟨fd, F⟩ := c.def_ 1 (d := dd__law_is_right) rfl
    exact ⟨_, fd, F, He.glo_ok X G (c.fact 1 (f := .glo "_law_is_right") rfl)⟩
  d__law_rest := by
    obtain ⟨fd, F⟩ := c.def_ 2 (d := dd__law_rest) rfl
    exact ⟨_, fd, F, He.glo_ok X G (c.fact 2 (f := .glo "_law_rest") rfl)⟩
  d__law_parts := by
    obtain ⟨fd, F⟩ := c.def_ 3 (d := dd__law_parts) rfl
    exact ⟨_, fd, F, He.glo_ok X G (c.fact 3 (f := .glo "_law_parts") rfl)⟩
  d__law_take := by
    obtain ⟨fd, F⟩ := c.def_ 4 (d := dd__law_take) rfl
    exact ⟨_, fd, F, He.glo_ok X G (c.fact 4 (f := .glo "_law_take") rfl)⟩
  d__law_day := by
    obtain ⟨fd, F⟩ := c.def_ 5 (d := dd__law_day) rfl
    exact ⟨_, fd, F, He.glo_ok X G (c.fact 5 (f := .glo "_law_day") rfl)⟩
  d__law_present := by
    obtain ⟨fd, F⟩ := c.def_ 6 (d := dd__law_present) rfl
    exact ⟨_, fd, F, He.glo_ok X G (c.fact 6 (f := .glo "_law_present") rfl)⟩
  d__law_crowd := by
    obtain ⟨fd, F⟩ := c.def_ 7 (d := dd__law_crowd) rfl
    exact ⟨_, fd, F, He.glo_ok X G (c.fact 7 (f := .glo "_law_crowd") rfl)⟩
  d__law_uneven := by
    obtain ⟨fd, F⟩ := c.def_ 8 (d := dd__law_uneven) rfl
    exact ⟨_, fd, F, He.glo_ok X G (c.fact 8 (f := .glo "_law_uneven") rfl)⟩
  d_is_tuple_of := by
    obtain ⟨fd, F⟩ := c.def_ 9 (d := dd_is_tuple_of) rfl
    exact ⟨_, fd, F, He.glo_ok X G (c.fact 9 (f := .glo "is_tuple_of") rfl)⟩
  d_is_row := by
    obtain ⟨fd, F⟩ := c.def_ 10 (d := dd_is_row) rfl
    exact ⟨_, fd, F, He.glo_ok X G (c.fact 10 (f := .glo "is_row") rfl)⟩
  d_is_whole := by
    obtain ⟨fd, F⟩ := c.def_ 11 (d := dd_is_whole) rfl
    exact ⟨_, fd, F, He.glo_ok X G (c.fact 11 (f := .glo "is_whole") rfl)⟩
  d_is_between := by
    obtain ⟨fd, F⟩ := c.def_ 12 (d := dd_is_between) rfl
    exact ⟨_, fd, F, He.glo_ok X G (c.fact 12 (f := .glo "is_between") rfl)⟩
  d_are_counts := by
    obtain ⟨fd, F⟩ := c.def_ 13 (d := dd_are_counts) rfl
    exact ⟨_, fd, F, He.glo_ok X G (c.fact 13 (f := .glo "are_counts") rfl)⟩
  d_is_any_day := by
    obtain ⟨fd, F⟩ := c.def_ 14 (d := dd_is_any_day) rfl
    exact ⟨_, fd, F, He.glo_ok X G (c.fact 14 (f := .glo "is_any_day") rfl)⟩
  d_have_one_sum := by
    obtain ⟨fd, F⟩ := c.def_ 15 (d := dd_have_one_sum) rfl
    exact ⟨_, fd, F, He.glo_ok X G (c.fact 15 (f := .glo "have_one_sum") rfl)⟩
  d_there_by := by
    obtain ⟨fd, F⟩ := c.def_ 16 (d := dd_there_by) rfl
    exact ⟨_, fd, F, He.glo_ok X G (c.fact 16 (f := .glo "there_by") rfl)⟩
  d_goes_too_many := by
    obtain ⟨fd, F⟩ := c.def_ 17 (d := dd_goes_too_many) rfl
    exact ⟨_, fd, F, He.glo_ok X G (c.fact 17 (f := .glo "goes_too_many") rfl)⟩
  d_ticks_of := by
    obtain ⟨fd, F⟩ := c.def_ 18 (d := dd_ticks_of) rfl
    exact ⟨_, fd, F, He.glo_ok X G (c.fact 18 (f := .glo "ticks_of") rfl)⟩
  d_bar_by := by
    obtain ⟨fd, F⟩ := c.def_ 19 (d := dd_bar_by) rfl
    exact ⟨_, fd, F, He.glo_ok X G (c.fact 19 (f := .glo "bar_by") rfl)⟩
  d_is_right_by := by
    obtain ⟨fd, F⟩ := c.def_ 20 (d := dd_is_right_by) rfl
    exact ⟨_, fd, F, He.glo_ok X G (c.fact 20 (f := .glo "is_right_by") rfl)⟩
  d_people_of := by
    obtain ⟨fd, F⟩ := c.def_ 21 (d := dd_people_of) rfl
    exact ⟨_, fd, F, He.glo_ok X G (c.fact 21 (f := .glo "people_of") rfl)⟩
  d_is_day := by
    obtain ⟨fd, F⟩ := c.def_ 22 (d := dd_is_day) rfl
    exact ⟨_, fd, F, He.glo_ok X G (c.fact 22 (f := .glo "is_day") rfl)⟩
  d_check_day := by
    obtain ⟨fd, F⟩ := c.def_ 23 (d := dd_check_day) rfl
    exact ⟨_, fd, F, He.glo_ok X G (c.fact 23 (f := .glo "check_day") rfl)⟩
  d_present_by := by
    obtain ⟨fd, F⟩ := c.def_ 24 (d := dd_present_by) rfl
    exact ⟨_, fd, F, He.glo_ok X G (c.fact 24 (f := .glo "present_by") rfl)⟩
  d_rest_of := by
    obtain ⟨fd, F⟩ := c.def_ 25 (d := dd_rest_of) rfl
    exact ⟨_, fd, F, He.glo_ok X G (c.fact 25 (f := .glo "rest_of") rfl)⟩
  d_crowd_by := by
    obtain ⟨fd, F⟩ := c.def_ 26 (d := dd_crowd_by) rfl
    exact ⟨_, fd, F, He.glo_ok X G (c.fact 26 (f := .glo "crowd_by") rfl)⟩
  d_rows_below := by
    obtain ⟨fd, F⟩ := c.def_ 27 (d := dd_rows_below) rfl
    exact ⟨_, fd, F, He.glo_ok X G (c.fact 27 (f := .glo "rows_below") rfl)⟩
  d_is_part_by := by
    obtain ⟨fd, F⟩ := c.def_ 28 (d := dd_is_part_by) rfl
    exact ⟨_, fd, F, He.glo_ok X G (c.fact 28 (f := .glo "is_part_by") rfl)⟩
  d_parts_by := by
    obtain ⟨fd, F⟩ := c.def_ 29 (d := dd_parts_by) rfl
    exact ⟨_, fd, F, He.glo_ok X G (c.fact 29 (f := .glo "parts_by") rfl)⟩
  d_least_by := by
    obtain ⟨fd, F⟩ := c.def_ 30 (d := dd_least_by) rfl
    exact ⟨_, fd, F, He.glo_ok X G (c.fact 30 (f := .glo "least_by") rfl)⟩
  d_least_crowd := by
    obtain ⟨fd, F⟩ := c.def_ 31 (d := dd_least_crowd) rfl
    exact ⟨_, fd, F, He.glo_ok X G (c.fact 31 (f := .glo "least_crowd") rfl)⟩
  d_apart_by := by
    obtain ⟨fd, F⟩ := c.def_ 32 (d := dd_apart_by) rfl
    exact ⟨_, fd, F, He.glo_ok X G (c.fact 32 (f := .glo "apart_by") rfl)⟩
  d_evenest_by := by
    obtain ⟨fd, F⟩ := c.def_ 33 (d := dd_evenest_by) rfl
    exact ⟨_, fd, F, He.glo_ok X G (c.fact 33 (f := .glo "evenest_by") rfl)⟩
  d_evenest_parts := by
    obtain ⟨fd, F⟩ := c.def_ 34 (d := dd_evenest_parts) rfl
    exact ⟨_, fd, F, He.glo_ok X G (c.fact 34 (f := .glo "evenest_parts") rfl)⟩
  d_is_crowd := by
    obtain ⟨fd, F⟩ := c.def_ 35 (d := dd_is_crowd) rfl
    exact ⟨_, fd, F, He.glo_ok X G (c.fact 35 (f := .glo "is_crowd") rfl)⟩
  d_check_crowd := by
    obtain ⟨fd, F⟩ := c.def_ 36 (d := dd_check_crowd) rfl
    exact ⟨_, fd, F, He.glo_ok X G (c.fact 36 (f := .glo "check_crowd") rfl)⟩
  d_within_by := by
    obtain ⟨fd, F⟩ := c.def_ 37 (d := dd_within_by) rfl
    exact ⟨_, fd, F, He.glo_ok X G (c.fact 37 (f := .glo "within_by") rfl)⟩
  d_count_within := by
    obtain ⟨fd, F⟩ := c.def_ 38 (d := dd_count_within) rfl
    exact ⟨_, fd, F, He.glo_ok X G (c.fact 38 (f := .glo "count_within") rfl)⟩
  d__law_right := by
    obtain ⟨fd, F⟩ := c.def_ 39 (d := dd__law_right) rfl
    exact ⟨_, fd, F, He.glo_ok X G (c.fact 39 (f := .glo "_law_right") rfl)⟩
  d_law := by
    obtain ⟨fd, F⟩ := c.def_ 40 (d := dd_law) rfl
    exact ⟨_, fd, F, He.glo_ok X G (c.fact 40 (f := .glo "law") rfl)⟩
end L_k69
set_option Elab.async false
set_option linter.all false
set_option autoImplicit false
set_option maxRecDepth 100000
set_option maxHeartbeats 4000000
/-! the end of countedstays_k69_whole_crowds, printed by gen.py -/
namespace L_k69
open PySem PySem.Spec PyProof.Rows L2 PV
abbrev R : PySem.W.OpenRow := PySem.W.OpenLaw.row PySem.Challenge.rw_countedstays_k69_whole_crowds
abbrev hk : PySem.W.Hook := He.hookD 4 fa fn
def ob (s : PySem.W.SharedT) : He.AlD := He.obsDG 4 fa fn (HandSHeadRun.getT s)
theorem ob_eq (s : PySem.W.SharedT) : ob s = hk.obs s.abs := He.obsDG_eq (HandSHeadRun.getT_eq s)
def ls0 : List PySem.Str := ["StayError", "InvalidDay", "InvalidNumber", "is_whole", "is_between", "is_tuple_of", "is_row", "MOST_TICKS", "MOST_PEOPLE", "are_counts", "is_any_day", "is_day", "check_day", "ticks_of", "people_of", "there_by", "goes_too_many", "have_one_sum", "bar_by", "is_right_by", "present_by", "rows_below", "rest_of", "is_part_by", "parts_by", "crowd_by", "least_by", "within_by", "apart_by", "evenest_by"]
def ls1 : List PySem.Str := ["is_crowd", "check_crowd", "least_crowd", "count_within", "evenest_parts", "_law_bag", "_law_take", "_law_is_right", "_law_present", "_law_day", "_law_parts", "_law_rest", "_law_crowd", "_law_uneven", "_law_right"]
def loose : List PySem.Str := ls0 ++ ls1
theorem run (w : World) : HandSHeadRun.RunEq R (PySem.W.view R.prog [50]) hk ob 4000 loose w := by
  intro os
  kernel_rfl
end L_k69
open PySem PySem.W PySem.Calls PyProof.Rows
theorem PySem.Challenge.cw_countedstays_k69_whole_crowds_holds : PySem.Challenge.rw_countedstays_k69_whole_crowds.Holds := by
  w_on; o_law
  refine HandSHeadRun.head_any (r := OpenLaw.row PySem.Challenge.rw_countedstays_k69_whole_crowds) (q := view (OpenLaw.row PySem.Challenge.rw_countedstays_k69_whole_crowds).prog [50]) (H := L_k69.hk) (ob := L_k69.ob) (M := 4000) (loose := L_k69.loose) (d := HandSHeadRun.topDef (OpenLaw.row PySem.Challenge.rw_countedstays_k69_whole_crowds).prog 50) (kwd := []) L_k69.ob_eq
    (by kernel_rfl) (fun s => by kernel_rfl) L_k69.run (by kernel_rfl) (by kernel_rfl) (by kernel_rfl) (by rfl) (by first | assumption | decide +kernel) (by decide +kernel) ⟨rfl, rfl, rfl, rfl, rfl, by decide +kernel⟩ ?hw ?hc
  case hw => w_witness2
  case hc =>
    refine PV.walkEnd (l := PySem.Challenge.rw_countedstays_k69_whole_crowds) (n := 63) (k := 10) (x := "script") rfl (by decide) (by kernel_rfl) ⟨rfl, by decide, by decide⟩ ?F
    intro w mg fa h Y G hmg0
    obtain ⟨K, KX, c⟩ := Y
    have hmg : mg ("law" : PySem.Str) = some (.ref fa) := by
      have e : (HandSHeadRun.topDef (OpenLaw.row PySem.Challenge.rw_countedstays_k69_whole_crowds).prog 50).name = ("law" : PySem.Str) := by kernel_rfl
      rw [← e]
      exact hmg0
    have E : L_k69.Facts K mg := L_k69.facts KX G c
    obtain ⟨fd, hb, hF⟩ := PV.Fn.law (P := (PySem.Challenge.rw_countedstays_k69_whole_crowds).prog) (w := w) E.d_law (fun _ _ _ _ _ _ us hl => match us, hl with | [_], _ => rfl) hmg (fun base => L_k69.ok_law E)
    exact ⟨K, fd, L_k69.m_law, KX, hb, L_k69.law_true, hF⟩
