import PyProof.Rows.All
import Wide.All
import OpenK.AllK
import Wide.FinOn
import HandS.ForMost
import HandS.ForExc
import HandS.Evl
import KE.SortData
import KE.KDictKeyed
import HandS.TupAny
import HandS.TupMul
import HandS.Deep
import HandS.RaiseMore
import HandS.IsInst
import KE.GoesEnum
import KE.GoesMore
import HandS.TryOnly
import HandS.Style
import HandS.Small
import HandS.WideMore
import HandS.TupLen
import HandS.More
import HandS.CallRecv
import HandS.Iter
import HandS.Exc
import PyProof.ReprRoads
import PyProof.ReprLen
import KE.KExcSuper
import HandS.ExcSuper
import HandS.ExcOwn
import HandS.Ends
import PySem.Challenge.RW_allorsome_k29_kinds_of_powers
set_option Elab.async false
set_option linter.all false
set_option maxRecDepth 100000
set_option maxHeartbeats 2000000
/-! The layer of values: data (PyData) in the place of heaps; a store of what may change; readings as big steps. -/
namespace DL
open PySem PySem.Spec PyProof.Rows L2

/-! ### what may change, and what a name may hold -/
inductive MO
  | lst (ds : List PyData)
  | dK (kvs : List (Key × PyData))
  | dT (kvs : List (NestedKey × PyData))
  | junk
inductive AV
  | dat (d : PyData)
  | loc (j : Nat)
  | ins (C : Addr) (f : Str) (j : Nat)
  | adr (a : Addr)
abbrev Gm := List (Option AV)
abbrev Sl := L2.St
abbrev Sto := List MO
abbrev Tmp := List (AV × V)

def Sub (F H : Hp) : Prop := ∀ a o, F a = some o → H a = some o
theorem Sub.refl (H : Hp) : Sub H H := fun _ _ h => h
theorem Sub.trans {A B C : Hp} (a : Sub A B) (b : Sub B C) : Sub A C := fun x o h => b x o (a x o h)
theorem Sub.upd {F : Hp} {p : Addr} {o : HO} (h : F p = none) : Sub F (upd F p o) := fun a u e => by
  rw [upd_ne (ne_of_none e h)]; exact e
theorem Sub.none {F H : Hp} (s : Sub F H) {p : Addr} (h : H p = none) : F p = none := by
  cases q : F p with
  | none => rfl
  | some o => rw [s p o q] at h; cases h
theorem Sub.rd {F H : Hp} (s : Sub F H) {a : Addr} {u : HO} (h : Rd F a u) : Rd H a u := by
  rcases h with h | ⟨o, h⟩
  · exact .inl (s _ _ h)
  · exact .inr ⟨o, s _ _ h⟩
theorem Sub.sqL {K : PySem.W.Frag} {F H : Hp} (s : Sub F H) {a : Addr} {xs : List V} (h : SqL K F a xs) : SqL K H a xs := h.imp s.rd id
theorem Sub.sqT {K : PySem.W.Frag} {F H : Hp} (s : Sub F H) {a : Addr} {xs : List V} (h : SqT K F a xs) : SqT K H a xs := h.imp s.rd id

section
variable {K : PySem.W.Frag} {F F' H : Hp}
mutual
theorem dp_mono (s : Sub F F') : ∀ (d : PyData) (v : V), Dp K F v d → Dp K F' v d
  | .none, _, h => by cases h; exact .non
  | .bool _, _, h => by cases h; exact .bl _
  | .int _, _, h => by cases h; exact .int _
  | .str _, _, h => by cases h; exact .str _
  | .list ds, _, h => by
    cases h with
    | lst h1 h2 => exact .lst (s.sqL h1) (dps_mono s ds _ h2)
  | .tuple ds, _, h => by
    cases h with
    | tup h1 h2 => exact .tup (s.sqT h1) (dps_mono s ds _ h2)
  | .dict _, _, h => by cases h
theorem dps_mono (s : Sub F F') : ∀ (ds : List PyData) (vs : List V), DpAll K F vs ds → DpAll K F' vs ds
  | [], _, h => by cases h; exact .nil
  | d :: ds, _, h => by
    cases h with
    | cons h1 h2 => exact .cons (dp_mono s d _ h1) (dps_mono s ds _ h2)
end
theorem dps_len : ∀ {ds : List PyData} {vs : List V}, DpAll K F vs ds → vs.length = ds.length
  | [], _, h => by cases h; rfl
  | _ :: _, _, h => by cases h with | cons h1 h2 => simp [dps_len h2]
theorem dps_get : ∀ {ds : List PyData} {vs : List V} {i : Nat} {d : PyData}, DpAll K F vs ds → ds[i]? = some d → ∃ v, vs[i]? = some v ∧ Dp K F v d
  | [], _, _, _, _, e => by simp at e
  | d :: ds, _, 0, _, h, e => by
    cases h with
    | cons h1 h2 => simp at e; subst e; exact ⟨_, rfl, h1⟩
  | d :: ds, _, i + 1, _, h, e => by
    cases h with
    | cons h1 h2 =>
      obtain ⟨v, q1, q2⟩ := dps_get (i := i) h2 (by simpa using e)
      exact ⟨v, by simpa using q1, q2⟩
theorem dps_get' : ∀ {ds : List PyData} {vs : List V} {i : Nat} {v : V}, DpAll K F vs ds → vs[i]? = some v → ∃ d, ds[i]? = some d ∧ Dp K F v d
  | [], _, _, _, h, e => by cases h; simp at e
  | d :: ds, _, 0, _, h, e => by
    cases h with
    | cons h1 h2 => simp at e; subst e; exact ⟨_, rfl, h1⟩
  | d :: ds, _, i + 1, _, h, e => by
    cases h with
    | cons h1 h2 =>
      obtain ⟨v, q1, q2⟩ := dps_get' (i := i) h2 (by simpa using e)
      exact ⟨v, by simpa using q1, q2⟩
theorem dps_app : ∀ {ds es : List PyData} {vs us : List V}, DpAll K F vs ds → DpAll K F us es → DpAll K F (vs ++ us) (ds ++ es)
  | [], _, _, _, h, g => by cases h; exact g
  | d :: ds, _, _, _, h, g => by
    cases h with
    | cons h1 h2 => exact .cons h1 (dps_app h2 g)
theorem dps_take : ∀ {ds : List PyData} {vs : List V} (n : Nat), DpAll K F vs ds → DpAll K F (vs.take n) (ds.take n)
  | _, _, 0, _ => by simp; exact .nil
  | [], _, _ + 1, h => by cases h; exact .nil
  | d :: ds, _, n + 1, h => by
    cases h with
    | cons h1 h2 => exact .cons h1 (dps_take n h2)
theorem dps_drop : ∀ {ds : List PyData} {vs : List V} (n : Nat), DpAll K F vs ds → DpAll K F (vs.drop n) (ds.drop n)
  | _, _, 0, h => by simpa using h
  | [], _, _ + 1, h => by cases h; exact .nil
  | d :: ds, _, n + 1, h => by
    cases h with
    | cons h1 h2 => simpa using dps_drop n h2
theorem dps_set : ∀ {ds : List PyData} {vs : List V} (n : Nat) {v : V} {d : PyData}, DpAll K F vs ds → Dp K F v d → DpAll K F (vs.set n v) (ds.set n d)
  | [], _, _, _, _, h, _ => by cases h; exact .nil
  | d :: ds, _, 0, _, _, h, g => by
    cases h with
    | cons h1 h2 => exact .cons g h2
  | d :: ds, _, n + 1, _, _, h, g => by
    cases h with
    | cons h1 h2 => exact .cons h1 (dps_set n h2 g)
end

/-- a dict by its own object alone: the keys' addresses and the values as they stand -/
def rawT (P : Program) (w : World) (xs : List (NestedKey × Addr × V)) (a : Addr) : HO := .ext fun h =>
  (a == sysModules) = false ∧ ∃ o es ep us, h.get? a = some o ∧ o.ExactDict ∧ o.data = .dict es ep ∧ Vals (xs.map (·.2.2)) us ∧
    es.toList = (List.zipWith (fun (x : NestedKey × Addr × V) u => entryOfKey (nestedKind P w) (x.1, x.2.1, u)) xs us)

/-- what stands at an address of the store -/
def RepM (P : Program) (w : World) (K : PySem.W.Frag) (F H : Hp) (a : Addr) : MO → Prop
  | .lst ds => ∃ vs, H a = some (.lst vs) ∧ DpAll K F vs ds
  | .dK kvs => ∃ ps, H a = some (.dK ps) ∧ Paired (fun (p : Key × PyData) (q : Key × V) => p.1 = q.1 ∧ Dp K F q.2 p.2) kvs ps
  | .dT kvs => ∃ xs, H a = some (rawT P w xs a) ∧ (kvs.map (·.1)).Nodup ∧ Paired (fun (p : NestedKey × PyData) (q : NestedKey × Addr × V) => p.1 = q.1 ∧ Dp K F (.ref q.2.1) p.1.data ∧ p.1.depth ≤ 8 ∧ Dp K F q.2.2 p.2) kvs xs
  | .junk => ∃ o, H a = some o
def RepA (K : PySem.W.Frag) (F : Hp) (A : List Addr) : AV → V → Prop
  | .dat d, v => Dp K F v d
  | .loc j, v => ∃ a, A[j]? = some a ∧ v = .ref a
  | .ins C f j, v => ∃ a dx p, v = .ref a ∧ F a = some (.ins C dx [(f, .ref p)]) ∧ F dx = some (.own a) ∧ A[j]? = some p
  | .adr a, v => v = .ref a

section
variable {P : Program} {w : World} {K : PySem.W.Frag} {F F' H H' : Hp} {a : Addr} {A B : List Addr}
theorem RepM.there {m : MO} (h : RepM P w K F H a m) : ∃ o, H a = some o := by
  cases m with
  | lst _ => obtain ⟨_, h, _⟩ := h; exact ⟨_, h⟩
  | dK _ => obtain ⟨_, h, _⟩ := h; exact ⟨_, h⟩
  | dT _ => obtain ⟨_, h, _⟩ := h; exact ⟨_, h⟩
  | junk => exact h
theorem RepM.mono {m : MO} (h : RepM P w K F H a m) (s : Sub F F') (k : ∀ o, H a = some o → H' a = some o) : RepM P w K F' H' a m := by
  cases m with
  | lst _ => obtain ⟨vs, h, q⟩ := h; exact ⟨vs, k _ h, dps_mono s _ _ q⟩
  | dK _ => obtain ⟨vs, h, q⟩ := h; exact ⟨vs, k _ h, Paired.mapP q fun p r z => ⟨z.1, dp_mono s _ _ z.2⟩⟩
  | dT _ => obtain ⟨vs, h, n, q⟩ := h; exact ⟨vs, k _ h, n, Paired.mapP q fun p r z => ⟨z.1, dp_mono s _ _ z.2.1, z.2.2.1, dp_mono s _ _ z.2.2.2⟩⟩
  | junk => obtain ⟨o, h⟩ := h; exact ⟨o, k _ h⟩
theorem RepM.junk {m : MO} (h : RepM P w K F H a m) : RepM P w K F H a .junk := h.there
theorem RepA.mono {r : AV} {v : V} (h : RepA K F A r v) (s : Sub F F') (k : ∀ (j : Nat) a, A[j]? = some a → B[j]? = some a) : RepA K F' B r v := by
  cases r with
  | dat d => exact dp_mono s _ _ h
  | loc j => obtain ⟨a, e, z⟩ := h; exact ⟨a, k _ _ e, z⟩
  | ins C f j => obtain ⟨a, dx, p, z, e1, e2, e3⟩ := h; exact ⟨a, dx, p, z, s _ _ e1, s _ _ e2, k _ _ e3⟩
  | adr a => exact h
end

/-- the locs of a value lie below n -/
def AV.below (n : Nat) : AV → Prop
  | .loc j => j < n
  | .ins _ _ j => j < n
  | _ => True
theorem RepA.below {K : PySem.W.Frag} {F : Hp} {A : List Addr} {r : AV} {v : V} (h : RepA K F A r v) : r.below A.length := by
  cases r with
  | dat d => trivial
  | loc j => obtain ⟨a, e, z⟩ := h; exact (List.getElem?_eq_some_iff.mp e).1
  | ins C f j => obtain ⟨a, dx, p, z, e1, e2, e3⟩ := h; exact (List.getElem?_eq_some_iff.mp e3).1
  | adr a => trivial

/-! ### the state -/
/-- F: what stays as it is; A: the addresses of the store. F0, H0, A0: the same at the entry -/
structure Sin (P : Program) (w : World) (K : PySem.W.Frag) (F0 H0 : Hp) (A0 : List Addr) (Γ : Gm) (μ : Sto) (T : Tmp) (σ : Sl) (H F : Hp) (A : List Addr) : Prop where
  frame : ∀ a o, H0 a = some o → a ∉ A0 → H a = some o
  f0 : Sub F0 F
  fh : Sub F H
  new : ∀ a o, F a = some o → F0 a = some o ∨ H0 a = none
  nd : A.Nodup
  fa : ∀ a ∈ A, F a = none
  pre : ∃ B, A = A0 ++ B ∧ ∀ a ∈ B, H0 a = none
  rep : Paired (RepM P w K F H) A μ
  slots : ∀ (i : Nat) av, Γ[i]? = some (some av) → ∃ v, σ[i]? = some (some v) ∧ RepA K F A av v
  len : σ.length = Γ.length
  temps : ∀ p ∈ T, RepA K F A p.1 p.2
/-- what stands, as a caller may know it -/
def Stt (X : Cx) (F0 H0 : Hp) (A0 : List Addr) (Γ : Gm) (μ : Sto) (T : Tmp) (σ : Sl) (H : Hp) : Prop := ∃ F A, Sin X.prog X.w X.K F0 H0 A0 Γ μ T σ H F A

theorem paired_get {α β : Type} {R : α → β → Prop} : ∀ {xs : List α} {ys : List β} {i : Nat} {y : β}, Paired R xs ys → ys[i]? = some y → ∃ x, xs[i]? = some x ∧ R x y
  | _, _, _, _, .nil, e => by simp at e
  | _, _, 0, y, .cons r _, e => by simp at e; subst e; exact ⟨_, rfl, r⟩
  | _, _, i + 1, y, .cons _ t, e => by
    obtain ⟨x, h1, h2⟩ := paired_get (i := i) (y := y) t (by simpa using e)
    exact ⟨x, by simpa using h1, h2⟩
theorem paired_get' {α β : Type} {R : α → β → Prop} : ∀ {xs : List α} {ys : List β} {i : Nat} {x : α}, Paired R xs ys → xs[i]? = some x → ∃ y, ys[i]? = some y ∧ R x y
  | _, _, _, _, .nil, e => by simp at e
  | _, _, 0, y, .cons r _, e => by simp at e; subst e; exact ⟨_, rfl, r⟩
  | _, _, i + 1, y, .cons _ t, e => by
    obtain ⟨x, h1, h2⟩ := paired_get' (i := i) (x := y) t (by simpa using e)
    exact ⟨x, by simpa using h1, h2⟩
theorem paired_len {α β : Type} {R : α → β → Prop} {xs : List α} {ys : List β} (h : Paired R xs ys) : xs.length = ys.length := Paired.length h
theorem paired_app {α β : Type} {R : α → β → Prop} : ∀ {xs us : List α} {ys ws : List β}, Paired R xs ys → Paired R us ws → Paired R (xs ++ us) (ys ++ ws)
  | _, _, _, _, .nil, g => g
  | _, _, _, _, .cons r t, g => .cons r (paired_app t g)
theorem paired_map {α β : Type} {R S : α → β → Prop} : ∀ {xs : List α} {ys : List β}, Paired R xs ys → (∀ x y, x ∈ xs → R x y → S x y) → Paired S xs ys
  | _, _, .nil, _ => .nil
  | _, _, .cons r t, f => .cons (f _ _ List.mem_cons_self r) (paired_map t fun x y hx => f x y (List.mem_cons_of_mem _ hx))
theorem paired_set {α β : Type} {R S : α → β → Prop} : ∀ {xs : List α} {ys : List β} {j : Nat} {a : α} {m : β}, xs.Nodup → Paired R xs ys → xs[j]? = some a → (∀ x y, x ≠ a → R x y → S x y) → S a m → Paired S xs (ys.set j m)
  | _, _, _, _, _, _, .nil, e, _, _ => by simp at e
  | x :: xs, _, 0, a, m, nd, .cons r t, e, f, g => by
    simp at e; subst e
    exact .cons g (paired_map t fun y z hy => f y z fun q => (List.nodup_cons.mp nd).1 (q ▸ hy))
  | x :: xs, _, j + 1, a, m, nd, .cons r t, e, f, g => by
    refine .cons (f _ _ (fun q => (List.nodup_cons.mp nd).1 ?_) r) (paired_set (List.nodup_cons.mp nd).2 t (by simpa using e) f g)
    rw [q]; exact List.mem_of_getElem? (by simpa using e)
theorem paired_take {α β : Type} {R : α → β → Prop} : ∀ {xs : List α} {ys : List β} (n : Nat), Paired R xs ys → Paired R (xs.take n) (ys.take n)
  | _, _, 0, _ => by simp; exact .nil
  | _, _, _ + 1, .nil => .nil
  | _, _, n + 1, .cons r t => .cons r (paired_take n t)

section
variable {P : Program} {w : World} {K : PySem.W.Frag} {F0 H0 F H : Hp} {A0 A : List Addr} {Γ : Gm} {μ : Sto} {T : Tmp} {σ : Sl} {p : Addr} {ho : HO}
theorem Sin.lenA (s : Sin P w K F0 H0 A0 Γ μ T σ H F A) : A.length = μ.length := paired_len s.rep
theorem Sin.there (s : Sin P w K F0 H0 A0 Γ μ T σ H F A) {a : Addr} (h : a ∈ A) : ∃ o, H a = some o := by
  obtain ⟨j, hj, e⟩ := List.getElem_of_mem h
  obtain ⟨m, h1, h2⟩ := paired_get' (i := j) (x := a) s.rep (by rw [List.getElem?_eq_getElem hj, e])
  exact h2.there
theorem Sin.fresh (s : Sin P w K F0 H0 A0 Γ μ T σ H F A) (h : H p = none) : p ∉ A := fun q => by
  obtain ⟨o, e⟩ := s.there q
  rw [h] at e; cases e
theorem Sin.fresh0 (s : Sin P w K F0 H0 A0 Γ μ T σ H F A) (h : H p = none) : H0 p = none := by
  cases q : H0 p with
  | none => rfl
  | some o =>
    by_cases hp : p ∈ A0
    · obtain ⟨B, e, _⟩ := s.pre
      exact absurd (show p ∈ A by rw [e]; exact List.mem_append_left _ hp) (s.fresh h)
    · rw [s.frame p o q hp] at h; cases h
theorem Sin.gamma (s : Sin P w K F0 H0 A0 Γ μ T σ H F A) : ∀ (i : Nat) av, Γ[i]? = some (some av) → av.below μ.length := fun i av e => by
  obtain ⟨v, _, h⟩ := s.slots i av e
  rw [← s.lenA]; exact h.below
theorem Sin.tbelow (s : Sin P w K F0 H0 A0 Γ μ T σ H F A) : ∀ p ∈ T, p.1.below μ.length := fun p e => by
  rw [← s.lenA]; exact (s.temps p e).below
/-- a further value -/
theorem Sin.val (s : Sin P w K F0 H0 A0 Γ μ T σ H F A) {r : AV} {v : V} (h : RepA K F A r v) : Sin P w K F0 H0 A0 Γ μ ((r, v) :: T) σ H F A :=
  { s with temps := fun p hp => by rcases List.mem_cons.mp hp with rfl | hp; exact h; exact s.temps p hp }
theorem Sin.tmp {T' : Tmp} (s : Sin P w K F0 H0 A0 Γ μ T σ H F A) (h : ∀ p ∈ T', p ∈ T) : Sin P w K F0 H0 A0 Γ μ T' σ H F A :=
  { s with temps := fun p hp => s.temps p (h p hp) }
theorem Sin.pop {q : AV × V} (s : Sin P w K F0 H0 A0 Γ μ (q :: T) σ H F A) : Sin P w K F0 H0 A0 Γ μ T σ H F A := s.tmp fun _ h => List.mem_cons_of_mem _ h
theorem Sin.top {q : AV × V} (s : Sin P w K F0 H0 A0 Γ μ (q :: T) σ H F A) : RepA K F A q.1 q.2 := s.temps q List.mem_cons_self
/-- a new object that stays as it is -/
theorem Sin.new_fix (s : Sin P w K F0 H0 A0 Γ μ T σ H F A) (h : H p = none) : Sin P w K F0 H0 A0 Γ μ T σ (upd H p ho) (upd F p ho) A := by
  have hF : F p = none := s.fh.none h
  have hA := s.fresh h
  have h0 := s.fresh0 h
  refine ⟨fun a o e n => ?_, s.f0.trans (Sub.upd hF), fun a o e => ?_, fun a o e => ?_, s.nd, fun a ha => ?_, s.pre, paired_map s.rep fun a m ha r => r.mono (Sub.upd hF) fun o e => ?_, fun i av e => ?_, s.len, fun q hq => ?_⟩
  · rw [upd_ne (ne_of_none e h0)]; exact s.frame a o e n
  · by_cases q : a = p
    · subst q; rw [upd_same] at e ⊢; exact e
    · rw [upd_ne q] at e ⊢; exact s.fh a o e
  · by_cases q : a = p
    · subst q; exact .inr h0
    · rw [upd_ne q] at e; exact s.new a o e
  · rw [upd_ne (fun q => hA (by rw [← q]; exact ha))]; exact s.fa a ha
  · rw [upd_ne (ne_of_none e h)]; exact e
  · obtain ⟨v, e1, r⟩ := s.slots i av e
    exact ⟨v, e1, RepA.mono r (Sub.upd hF) fun _ _ q => q⟩
  · exact RepA.mono (s.temps q hq) (Sub.upd hF) fun _ _ q => q
theorem get_app {α : Type} {A : List α} {j : Nat} {a : α} {B : List α} (e : A[j]? = some a) : (A ++ B)[j]? = some a := by
  rw [List.getElem?_append_left (List.getElem?_eq_some_iff.mp e).1]; exact e
/-- a new object that may change -/
theorem Sin.new_loc (s : Sin P w K F0 H0 A0 Γ μ T σ H F A) (h : H p = none) {m : MO} (hm : RepM P w K F (upd H p ho) p m) : Sin P w K F0 H0 A0 Γ (μ ++ [m]) T σ (upd H p ho) F (A ++ [p]) := by
  have hF : F p = none := s.fh.none h
  have hA := s.fresh h
  have h0 := s.fresh0 h
  have e1 : Sub H (upd H p ho) := Sub.upd h
  refine ⟨fun a o e n => e1 _ _ (s.frame a o e n), s.f0, s.fh.trans e1, s.new, ?_, fun a ha => ?_, ?_, paired_app (paired_map s.rep fun a m ha r => r.mono (Sub.refl _) (e1 a)) (.cons hm .nil), fun i av e => ?_, s.len, fun q hq => ?_⟩
  · rw [List.nodup_append]
    refine ⟨s.nd, by simp, fun a ha b hb => ?_⟩
    rw [List.mem_singleton] at hb; subst hb
    rintro rfl; exact hA ha
  · rcases List.mem_append.mp ha with ha | ha
    · exact s.fa a ha
    · rw [List.mem_singleton] at ha; subst ha; exact hF
  · obtain ⟨B, e, hB⟩ := s.pre
    refine ⟨B ++ [p], by rw [e, List.append_assoc], fun a ha => ?_⟩
    rcases List.mem_append.mp ha with ha | ha
    · exact hB a ha
    · rw [List.mem_singleton] at ha; subst ha; exact h0
  · obtain ⟨v, e1, r⟩ := s.slots i av e
    exact ⟨v, e1, RepA.mono r (Sub.refl _) fun j a q => get_app q⟩
  · exact RepA.mono (s.temps q hq) (Sub.refl _) fun j a q => get_app q
theorem Sin.last (s : Sin P w K F0 H0 A0 Γ μ T σ H F A) (h : H p = none) {m : MO} (hm : RepM P w K F (upd H p ho) p m) : Sin P w K F0 H0 A0 Γ (μ ++ [m]) ((.loc μ.length, .ref p) :: T) σ (upd H p ho) F (A ++ [p]) :=
  (s.new_loc h hm).val ⟨p, by rw [← s.lenA]; simp, rfl⟩
/-- an object of the store changes -/
theorem Sin.put (s : Sin P w K F0 H0 A0 Γ μ T σ H F A) {j : Nat} {m : MO} (e : A[j]? = some p) (hm : RepM P w K F (upd H p ho) p m) : Sin P w K F0 H0 A0 Γ (μ.set j m) T σ (upd H p ho) F A := by
  have hp : p ∈ A := List.mem_of_getElem? e
  have hF : F p = none := s.fa p hp
  refine ⟨fun a o e' n => ?_, s.f0, fun a o e' => ?_, s.new, s.nd, s.fa, s.pre, paired_set s.nd s.rep e (fun a m ha r => r.mono (Sub.refl _) fun o q => by rw [upd_ne ha]; exact q) hm, s.slots, s.len, s.temps⟩
  · have q : a ≠ p := fun q => by
      subst q
      obtain ⟨B, e1, hB⟩ := s.pre
      rw [e1] at hp
      rcases List.mem_append.mp hp with z | z
      · exact n z
      · rw [hB _ z] at e'; cases e'
    rw [upd_ne q]; exact s.frame a o e' n
  · rw [upd_ne (fun q => by rw [q, hF] at e'; cases e')]; exact s.fh a o e'
/-- the last object of the store is left to stay as it is -/
theorem Sin.fix {m : MO} {A : List Addr} (s : Sin P w K F0 H0 A0 Γ (μ ++ [m]) T σ H F A) (n : A0.length ≤ μ.length) (g : ∀ (i : Nat) av, Γ[i]? = some (some av) → av.below μ.length) (t : ∀ q ∈ T, q.1.below μ.length) :
    ∃ A' p o, A = A' ++ [p] ∧ A'.length = μ.length ∧ H p = some o ∧ RepM P w K F H p m ∧ F p = none ∧ Sin P w K F0 H0 A0 Γ μ T σ H (upd F p o) A' := by
  have hl : A.length = μ.length + 1 := by rw [s.lenA]; simp
  obtain ⟨A', p, rfl⟩ : ∃ A' p, A = A' ++ [p] := ⟨A.dropLast, A.getLast (by intro h; rw [h] at hl; simp at hl), (List.dropLast_concat_getLast _).symm⟩
  have hl' : A'.length = μ.length := by simpa using hl
  have hp : (A' ++ [p])[μ.length]? = some p := by rw [← hl']; simp
  obtain ⟨m', q1, q2⟩ := paired_get' s.rep hp
  obtain rfl : m = m' := by simpa using q1
  obtain ⟨o, ho⟩ := q2.there
  have hF : F p = none := s.fa p (by simp)
  have pn : p ∉ A' := fun q => by
    have := s.nd; rw [List.nodup_append] at this
    exact this.2.2 p q p (by simp) rfl
  have below : ∀ {r : AV} {v : V}, r.below μ.length → RepA K F (A' ++ [p]) r v → RepA K (upd F p o) A' r v := fun {r v} hb h => by
    cases r with
    | dat d => exact dp_mono (Sub.upd hF) _ _ h
    | loc j =>
      obtain ⟨a, e, z⟩ := h
      refine ⟨a, ?_, z⟩
      rw [List.getElem?_append_left (by rw [hl']; exact hb)] at e; exact e
    | ins C f j =>
      obtain ⟨a, dx, q, z, e1, e2, e3⟩ := h
      refine ⟨a, dx, q, z, Sub.upd hF _ _ e1, Sub.upd hF _ _ e2, ?_⟩
      rw [List.getElem?_append_left (by rw [hl']; exact hb)] at e3; exact e3
    | adr a => exact h
  refine ⟨A', p, o, rfl, hl', ho, q2, hF, ⟨s.frame, s.f0.trans (Sub.upd hF), fun a u e => ?_, fun a u e => ?_, ?_, fun a ha => ?_, ?_, ?_, fun i av e => ?_, s.len, fun q hq => below (t q hq) (s.temps q hq)⟩⟩
  · by_cases z : a = p
    · subst z; rw [upd_same] at e; cases e; exact ho
    · rw [upd_ne z] at e; exact s.fh a u e
  · by_cases z : a = p
    · subst z
      obtain ⟨B, e1, hB⟩ := s.pre
      have hb : a ∈ B := by
        have h1 : A0.length ≤ A'.length := by omega
        have h2 : (A' ++ [a])[μ.length]? = some a := hp
        rw [e1, List.getElem?_append_right n] at h2
        exact List.mem_of_getElem? h2
      exact .inr (hB a hb)
    · rw [upd_ne z] at e; exact s.new a u e
  · have := s.nd; rw [List.nodup_append] at this; exact this.1
  · rw [upd_ne (fun q => pn (by rw [← q]; exact ha))]; exact s.fa a (List.mem_append_left _ ha)
  · obtain ⟨B, e1, hB⟩ := s.pre
    have h1 : A0.length ≤ A'.length := by omega
    refine ⟨A'.drop A0.length, ?_, fun a ha => ?_⟩
    · have h2 : A0 = A'.take A0.length := by
        have := congrArg (List.take A0.length) e1
        rw [List.take_append_of_le_length h1] at this
        simpa using this.symm
      rw [h2] 
      rw [List.length_take, Nat.min_eq_left h1, List.take_append_drop]
    · have h3 : a ∈ (A' ++ [p]).drop A0.length := by rw [List.drop_append_of_le_length h1]; exact List.mem_append_left _ ha
      rw [e1] at h3
      exact hB a (by simpa using h3)
  · have := paired_take A'.length s.rep
    rw [List.take_left, hl', List.take_left] at this
    refine paired_map this fun a m ha r => r.mono (Sub.upd hF) fun _ q => q
  · obtain ⟨v, e1, r⟩ := s.slots i av e
    exact ⟨v, e1, below (g i av e) r⟩
/-- the last objects of the store are forgotten -/
theorem Sin.cut {m : MO} {A : List Addr} (s : Sin P w K F0 H0 A0 Γ (μ ++ [m]) T σ H F A) (n : A0.length ≤ μ.length) (g : ∀ (i : Nat) av, Γ[i]? = some (some av) → av.below μ.length) (t : ∀ q ∈ T, q.1.below μ.length) :
    ∃ F' A', Sin P w K F0 H0 A0 Γ μ T σ H F' A' := by
  obtain ⟨A', p, o, _, _, _, _, _, h⟩ := s.fix n g t
  exact ⟨_, _, h⟩
/-- slots and objects forgotten -/
theorem Sin.forget {Γ' : Gm} (s : Sin P w K F0 H0 A0 Γ μ T σ H F A) (l : Γ'.length = Γ.length) (h : ∀ (i : Nat) av, Γ'[i]? = some (some av) → Γ[i]? = some (some av)) : Sin P w K F0 H0 A0 Γ' μ T σ H F A :=
  { s with slots := fun i av e => s.slots i av (h i av e), len := s.len.trans l.symm }
theorem Sin.slot (s : Sin P w K F0 H0 A0 Γ μ T σ H F A) {i : Nat} {r : AV} {v : V} (h : RepA K F A r v) : Sin P w K F0 H0 A0 (Γ.set i (some r)) μ T (σ.set i (some v)) H F A :=
  { s with
    slots := fun j av e => by
      by_cases hj : j = i
      · subst hj
        have hlt : j < Γ.length := by
          have := (List.getElem?_eq_some_iff.mp e).1; simpa using this
        rw [List.getElem?_set_self hlt] at e
        cases e
        exact ⟨v, List.getElem?_set_self (by rw [s.len]; exact hlt), h⟩
      · rw [List.getElem?_set_ne (Ne.symm hj)] at e
        obtain ⟨u, e1, r1⟩ := s.slots j av e
        exact ⟨u, by rw [List.getElem?_set_ne (Ne.symm hj)]; exact e1, r1⟩
    len := by simpa using s.len }
end
end DL
set_option maxHeartbeats 2000000
/-! Readings as big steps over values. -/
namespace DL
open PySem PySem.Spec PyProof.Rows L2

/-! ### what a piece of syntax wants -/
def wE (X : Cx) (e : Expr) (σ : Sl) (H : Hp) (Q : VK) : Prop := ∀ (pins : List (Addr × Obj)) (s : Shared), Inv X pins σ H s → wpAny (model X.prog X.w) X.A (eval e X.env) (EP X pins σ Q) X.xe s
def wT (X : Cx) (e : Expr) (σ : Sl) (H : Hp) (Q : Bool → Hp → Prop) : Prop := ∀ (pins : List (Addr × Obj)) (s : Shared), Inv X pins σ H s → wpAny (model X.prog X.w) X.A (isTrue e X.env (eval e X.env)) (TP X pins σ Q) X.xe s
def wW (X : Cx) (e : Expr) (σ : Sl) (H : Hp) (Q : Bool → Hp → Prop) : Prop := ∀ (whole : Sem Value) (pins : List (Addr × Obj)) (s : Shared), Inv X pins σ H s → wpAny (model X.prog X.w) X.A (isTrue e X.env whole) (TP X pins σ Q) X.xe s
def wA (X : Cx) (es : List Expr) (σ : Sl) (H : Hp) (Q : List V → Hp → Prop) : Prop := ∀ (pos : Pos) (pins : List (Addr × Obj)) (s : Shared), Inv X pins σ H s → wpAny (model X.prog X.w) X.A (spliced (backTo pos (starEach es X.env))) (AP X pins σ Q) X.xe s
def wS (X : Cx) (st : Stmt) (D : Ends) (σ : Sl) (H : Hp) : Prop := ∀ (pins : List (Addr × Obj)) (s : Shared), Inv X pins σ H s → wpAny (model X.prog X.w) X.A (exec st X.env) (SP X pins D) X.xe s
def wSs (X : Cx) (sts : List Stmt) (D : Ends) (σ : Sl) (H : Hp) : Prop := ∀ (pins : List (Addr × Obj)) (s : Shared), Inv X pins σ H s → wpAny (model X.prog X.w) X.A (execs sts X.env) (SP X pins D) X.xe s
def wG (X : Cx) (tg : Expr) (v : V) (σ : Sl) (H : Hp) (Q : Sl → Hp → Prop) : Prop := ∀ (pins : List (Addr × Obj)) (s : Shared) (u : Value), Inv X pins σ H s → RelV v u →
  wpAny (model X.prog X.w) X.A (assign tg X.env u) (fun _ s' => ∃ σ' H', Inv X pins σ' H' s' ∧ Q σ' H') X.xe s
def wGs (X : Cx) (ts : List Expr) (vs : List V) (σ : Sl) (H : Hp) (Q : Sl → Hp → Prop) : Prop := ∀ (pins : List (Addr × Obj)) (s : Shared) (us : List Value), Inv X pins σ H s → Vals vs us →
  wpAny (model X.prog X.w) X.A (assignInOrder ((assignEach ts X.env).map (·.2)) us) (fun _ s' => ∃ σ' H', Inv X pins σ' H' s' ∧ Q σ' H') X.xe s
def wI (X : Cx) (tg iter : Expr) (σ : Sl) (H : Hp) (R : It → Hp → Prop) : Prop := ∀ (pins : List (Addr × Obj)) (s : Shared), Inv X pins σ H s →
  wpAny (model X.prog X.w) X.A (eval iter X.env) (fun v s1 => wpAny (model X.prog X.w) X.A (pyIter v) (PIE X pins σ tg R) X.xe s1) X.xe s
section
variable {X : Cx} {e : Expr} {es : List Expr} {st : Stmt} {sts : List Stmt} {tg iter : Expr} {ts : List Expr}
theorem pe_w : PE X e (wE X e) := ⟨fun pins s σ H Q I h => h pins s I⟩
theorem pt_w : PT X e (wT X e) := ⟨fun pins s σ H Q I h => h pins s I⟩
theorem pw_w : PW X e (wW X e) := ⟨fun wh pins s σ H Q I h => h wh pins s I⟩
theorem pa_w : PA X es (wA X es) := ⟨fun pos pins s σ H Q I h => h pos pins s I⟩
theorem ps_w : PS X st (fun D σ H => wS X st D σ H) := ⟨fun pins s σ H D I h => h pins s I⟩
theorem pss_w : PSs X sts (fun D σ H => wSs X sts D σ H) := ⟨fun pins s σ H D I h => h pins s I⟩
theorem pg_w : PG X tg (fun v σ H Q => wG X tg v σ H Q) := ⟨fun pins s σ H v u Q I r h => h pins s u I r⟩
theorem pgs_w : PGs X ts (fun vs σ H Q => wGs X ts vs σ H Q) := ⟨fun pins s σ H vs us Q I r h => h pins s us I r⟩
theorem pi_w : PI X tg iter (wI X tg iter) := ⟨fun pins s σ H R I h => h pins s I⟩
theorem wE_of {t : TE} {σ : Sl} {H : Hp} {Q : VK} (h : PE X e t) (q : t σ H Q) : wE X e σ H Q := fun pins s I => h.run pins s σ H Q I q
theorem wT_of {t : TT} {σ : Sl} {H : Hp} {Q : Bool → Hp → Prop} (h : PT X e t) (q : t σ H Q) : wT X e σ H Q := fun pins s I => h.run pins s σ H Q I q
theorem wW_of {t : TT} {σ : Sl} {H : Hp} {Q : Bool → Hp → Prop} (h : PW X e t) (q : t σ H Q) : wW X e σ H Q := fun wh pins s I => h.run wh pins s σ H Q I q
theorem wA_of {t : TA} {σ : Sl} {H : Hp} {Q : List V → Hp → Prop} (h : PA X es t) (q : t σ H Q) : wA X es σ H Q := fun pos pins s I => h.run pos pins s σ H Q I q
theorem wS_of {t : TS} {σ : Sl} {H : Hp} {D : Ends} (h : PS X st t) (q : t D σ H) : wS X st D σ H := fun pins s I => h.run pins s σ H D I q
theorem wSs_of {t : TS} {σ : Sl} {H : Hp} {D : Ends} (h : PSs X sts t) (q : t D σ H) : wSs X sts D σ H := fun pins s I => h.run pins s σ H D I q
theorem wG_of {t : TG} {v : V} {σ : Sl} {H : Hp} {Q : Sl → Hp → Prop} (h : PG X tg t) (q : t v σ H Q) : wG X tg v σ H Q := fun pins s u I r => h.run pins s σ H v u Q I r q
theorem wGs_of {t : TGs} {vs : List V} {σ : Sl} {H : Hp} {Q : Sl → Hp → Prop} (h : PGs X ts t) (q : t vs σ H Q) : wGs X ts vs σ H Q := fun pins s us I r => h.run pins s σ H vs us Q I r q
theorem wI_of {t : TI} {σ : Sl} {H : Hp} {R : It → Hp → Prop} (h : PI X tg iter t) (q : t σ H R) : wI X tg iter σ H R := fun pins s I => h.run pins s σ H R I q
end

/-! ### big steps -/
structure EvE (X : Cx) (Γ : Gm) (μ : Sto) (e : Expr) (r : AV) (μ' : Sto) : Prop where
  run : ∀ F0 H0 A0 T σ H, Stt X F0 H0 A0 Γ μ T σ H → ∀ Q : VK, (∀ v H', Stt X F0 H0 A0 Γ μ' ((r, v) :: T) σ H' → Q v H') → wE X e σ H Q
instance {X : Cx} {Γ : Gm} {μ : Sto} {e : Expr} {r : AV} {μ' : Sto} : CoeFun (EvE X Γ μ e r μ') fun _ => ∀ F0 H0 A0 T σ H, Stt X F0 H0 A0 Γ μ T σ H → ∀ Q : VK, (∀ v H', Stt X F0 H0 A0 Γ μ' ((r, v) :: T) σ H' → Q v H') → wE X e σ H Q := ⟨EvE.run⟩
structure EvA (X : Cx) (Γ : Gm) (μ : Sto) (es : List Expr) (rs : List AV) (μ' : Sto) : Prop where
  run : ∀ F0 H0 A0 T σ H, Stt X F0 H0 A0 Γ μ T σ H → ∀ Q : List V → Hp → Prop, (∀ vs H', vs.length = rs.length → Stt X F0 H0 A0 Γ μ' (rs.zip vs ++ T) σ H' → Q vs H') → wA X es σ H Q
instance {X : Cx} {Γ : Gm} {μ : Sto} {es : List Expr} {rs : List AV} {μ' : Sto} : CoeFun (EvA X Γ μ es rs μ') fun _ => ∀ F0 H0 A0 T σ H, Stt X F0 H0 A0 Γ μ T σ H → ∀ Q : List V → Hp → Prop, (∀ vs H', vs.length = rs.length → Stt X F0 H0 A0 Γ μ' (rs.zip vs ++ T) σ H' → Q vs H') → wA X es σ H Q := ⟨EvA.run⟩
structure EvT (X : Cx) (Γ : Gm) (μ : Sto) (e : Expr) (b : Bool) (μ' : Sto) : Prop where
  run : ∀ F0 H0 A0 T σ H, Stt X F0 H0 A0 Γ μ T σ H → ∀ Q : Bool → Hp → Prop, (∀ H', Stt X F0 H0 A0 Γ μ' T σ H' → Q b H') → wT X e σ H Q
instance {X : Cx} {Γ : Gm} {μ : Sto} {e : Expr} {b : Bool} {μ' : Sto} : CoeFun (EvT X Γ μ e b μ') fun _ => ∀ F0 H0 A0 T σ H, Stt X F0 H0 A0 Γ μ T σ H → ∀ Q : Bool → Hp → Prop, (∀ H', Stt X F0 H0 A0 Γ μ' T σ H' → Q b H') → wT X e σ H Q := ⟨EvT.run⟩
structure EvW (X : Cx) (Γ : Gm) (μ : Sto) (e : Expr) (b : Bool) (μ' : Sto) : Prop where
  run : ∀ F0 H0 A0 T σ H, Stt X F0 H0 A0 Γ μ T σ H → ∀ Q : Bool → Hp → Prop, (∀ H', Stt X F0 H0 A0 Γ μ' T σ H' → Q b H') → wW X e σ H Q
instance {X : Cx} {Γ : Gm} {μ : Sto} {e : Expr} {b : Bool} {μ' : Sto} : CoeFun (EvW X Γ μ e b μ') fun _ => ∀ F0 H0 A0 T σ H, Stt X F0 H0 A0 Γ μ T σ H → ∀ Q : Bool → Hp → Prop, (∀ H', Stt X F0 H0 A0 Γ μ' T σ H' → Q b H') → wW X e σ H Q := ⟨EvW.run⟩
/-- an operation on two values -/
structure OpE (X : Cx) (f : Value → Value → Sem Value) (Γ : Gm) (μ : Sto) (a b r : AV) (μ' : Sto) : Prop where
  run : ∀ F0 H0 A0 T σ H x y, Stt X F0 H0 A0 Γ μ ((b, y) :: (a, x) :: T) σ H → ∀ Q : VK, (∀ z H', Stt X F0 H0 A0 Γ μ' ((r, z) :: T) σ H' → Q z H') →
    ∀ (pins : List (Addr × Obj)) (s : Shared) (v u : Value), Inv X pins σ H s → RelV x v → RelV y u → wpAny (model X.prog X.w) X.A (f v u) (EP X pins σ Q) X.xe s
instance {X : Cx} {f : Value → Value → Sem Value} {Γ : Gm} {μ : Sto} {a b r : AV} {μ' : Sto} : CoeFun (OpE X f Γ μ a b r μ') fun _ => ∀ F0 H0 A0 T σ H x y, Stt X F0 H0 A0 Γ μ ((b, y) :: (a, x) :: T) σ H → ∀ Q : VK, (∀ z H', Stt X F0 H0 A0 Γ μ' ((r, z) :: T) σ H' → Q z H') →
    ∀ (pins : List (Addr × Obj)) (s : Shared) (v u : Value), Inv X pins σ H s → RelV x v → RelV y u → wpAny (model X.prog X.w) X.A (f v u) (EP X pins σ Q) X.xe s := ⟨OpE.run⟩
/-- an operation on one value -/
structure UnE (X : Cx) (f : Value → Sem Value) (Γ : Gm) (μ : Sto) (a r : AV) (μ' : Sto) : Prop where
  run : ∀ F0 H0 A0 T σ H x, Stt X F0 H0 A0 Γ μ ((a, x) :: T) σ H → ∀ Q : VK, (∀ z H', Stt X F0 H0 A0 Γ μ' ((r, z) :: T) σ H' → Q z H') →
    ∀ (pins : List (Addr × Obj)) (s : Shared) (v : Value), Inv X pins σ H s → RelV x v → wpAny (model X.prog X.w) X.A (f v) (EP X pins σ Q) X.xe s
instance {X : Cx} {f : Value → Sem Value} {Γ : Gm} {μ : Sto} {a r : AV} {μ' : Sto} : CoeFun (UnE X f Γ μ a r μ') fun _ => ∀ F0 H0 A0 T σ H x, Stt X F0 H0 A0 Γ μ ((a, x) :: T) σ H → ∀ Q : VK, (∀ z H', Stt X F0 H0 A0 Γ μ' ((r, z) :: T) σ H' → Q z H') →
    ∀ (pins : List (Addr × Obj)) (s : Shared) (v : Value), Inv X pins σ H s → RelV x v → wpAny (model X.prog X.w) X.A (f v) (EP X pins σ Q) X.xe s := ⟨UnE.run⟩
/-- a call of a value on values -/
structure ClE (X : Cx) (f : Value) (Γ : Gm) (μ : Sto) (as : List AV) (r : AV) (μ' : Sto) : Prop where
  run : ∀ F0 H0 A0 T σ H vs, vs.length = as.length → Stt X F0 H0 A0 Γ μ (as.zip vs ++ T) σ H → ∀ Q : VK, (∀ z H', Stt X F0 H0 A0 Γ μ' ((r, z) :: T) σ H' → Q z H') →
    ∀ (pins : List (Addr × Obj)) (s : Shared) (us : List Value), Inv X pins σ H s → Vals vs us → wpAny (model X.prog X.w) X.A (call f us) (EP X pins σ Q) X.xe s
instance {X : Cx} {f : Value} {Γ : Gm} {μ : Sto} {as : List AV} {r : AV} {μ' : Sto} : CoeFun (ClE X f Γ μ as r μ') fun _ => ∀ F0 H0 A0 T σ H vs, vs.length = as.length → Stt X F0 H0 A0 Γ μ (as.zip vs ++ T) σ H → ∀ Q : VK, (∀ z H', Stt X F0 H0 A0 Γ μ' ((r, z) :: T) σ H' → Q z H') →
    ∀ (pins : List (Addr × Obj)) (s : Shared) (us : List Value), Inv X pins σ H s → Vals vs us → wpAny (model X.prog X.w) X.A (call f us) (EP X pins σ Q) X.xe s := ⟨ClE.run⟩
/-- a target takes a value -/
structure GtE (X : Cx) (tg : Expr) (Γ : Gm) (μ : Sto) (r : AV) (Γ' : Gm) (W : List Nat) : Prop where
  run : ∀ F0 H0 A0 T σ H v, Stt X F0 H0 A0 Γ μ ((r, v) :: T) σ H → ∀ Q : Sl → Hp → Prop, (∀ σ' H', (∀ i : Nat, i ∉ W → σ'[i]? = σ[i]?) → σ'.length = σ.length → Stt X F0 H0 A0 Γ' μ T σ' H' → Q σ' H') → wG X tg v σ H Q
instance {X : Cx} {tg : Expr} {Γ : Gm} {μ : Sto} {r : AV} {Γ' : Gm} {W : List Nat} : CoeFun (GtE X tg Γ μ r Γ' W) fun _ => ∀ F0 H0 A0 T σ H v, Stt X F0 H0 A0 Γ μ ((r, v) :: T) σ H → ∀ Q : Sl → Hp → Prop, (∀ σ' H', (∀ i : Nat, i ∉ W → σ'[i]? = σ[i]?) → σ'.length = σ.length → Stt X F0 H0 A0 Γ' μ T σ' H' → Q σ' H') → wG X tg v σ H Q := ⟨GtE.run⟩
structure GtsE (X : Cx) (ts : List Expr) (Γ : Gm) (μ : Sto) (rs : List AV) (Γ' : Gm) (W : List Nat) : Prop where
  run : ∀ F0 H0 A0 T σ H vs, vs.length = rs.length → Stt X F0 H0 A0 Γ μ (rs.zip vs ++ T) σ H → ∀ Q : Sl → Hp → Prop, (∀ σ' H', (∀ i : Nat, i ∉ W → σ'[i]? = σ[i]?) → σ'.length = σ.length → Stt X F0 H0 A0 Γ' μ T σ' H' → Q σ' H') → wGs X ts vs σ H Q
instance {X : Cx} {ts : List Expr} {Γ : Gm} {μ : Sto} {rs : List AV} {Γ' : Gm} {W : List Nat} : CoeFun (GtsE X ts Γ μ rs Γ' W) fun _ => ∀ F0 H0 A0 T σ H vs, vs.length = rs.length → Stt X F0 H0 A0 Γ μ (rs.zip vs ++ T) σ H → ∀ Q : Sl → Hp → Prop, (∀ σ' H', (∀ i : Nat, i ∉ W → σ'[i]? = σ[i]?) → σ'.length = σ.length → Stt X F0 H0 A0 Γ' μ T σ' H' → Q σ' H') → wGs X ts vs σ H Q := ⟨GtsE.run⟩

structure Out where
  nx : Gm → Sto → Prop
  rt : AV → Sto → Prop
  bk : Gm → Sto → Prop := fun _ _ => False
  ct : Gm → Sto → Prop := fun _ _ => False
def endsOf (X : Cx) (F0 H0 : Hp) (A0 : List Addr) (T : Tmp) (O : Out) : Ends where
  nx := fun σ H => ∃ Γ μ, O.nx Γ μ ∧ Stt X F0 H0 A0 Γ μ T σ H
  rt := fun v H => ∃ r μ, O.rt r μ ∧ Stt X F0 H0 A0 [] μ [(r, v)] [] H
  bk := fun σ H => ∃ Γ μ, O.bk Γ μ ∧ Stt X F0 H0 A0 Γ μ T σ H
  ct := fun σ H => ∃ Γ μ, O.ct Γ μ ∧ Stt X F0 H0 A0 Γ μ T σ H
structure Ex1 (X : Cx) (Γ : Gm) (μ : Sto) (st : Stmt) (O : Out) : Prop where
  run : ∀ F0 H0 A0 T σ H, Stt X F0 H0 A0 Γ μ T σ H → wS X st (endsOf X F0 H0 A0 T O) σ H
instance {X : Cx} {Γ : Gm} {μ : Sto} {st : Stmt} {O : Out} : CoeFun (Ex1 X Γ μ st O) fun _ => ∀ F0 H0 A0 T σ H, Stt X F0 H0 A0 Γ μ T σ H → wS X st (endsOf X F0 H0 A0 T O) σ H := ⟨Ex1.run⟩
structure ExS (X : Cx) (Γ : Gm) (μ : Sto) (sts : List Stmt) (O : Out) : Prop where
  run : ∀ F0 H0 A0 T σ H, Stt X F0 H0 A0 Γ μ T σ H → wSs X sts (endsOf X F0 H0 A0 T O) σ H
instance {X : Cx} {Γ : Gm} {μ : Sto} {sts : List Stmt} {O : Out} : CoeFun (ExS X Γ μ sts O) fun _ => ∀ F0 H0 A0 T σ H, Stt X F0 H0 A0 Γ μ T σ H → wSs X sts (endsOf X F0 H0 A0 T O) σ H := ⟨ExS.run⟩

/-! ### the state, once more -/
section
variable {X : Cx} {F0 H0 H : Hp} {A0 : List Addr} {Γ : Gm} {μ μ' : Sto} {T T' : Tmp} {σ : Sl}
theorem Stt.tmp (h : Stt X F0 H0 A0 Γ μ T σ H) (k : ∀ p ∈ T', p ∈ T) : Stt X F0 H0 A0 Γ μ T' σ H := let ⟨F, A, s⟩ := h; ⟨F, A, s.tmp k⟩
theorem Stt.pop {q : AV × V} (h : Stt X F0 H0 A0 Γ μ (q :: T) σ H) : Stt X F0 H0 A0 Γ μ T σ H := let ⟨F, A, s⟩ := h; ⟨F, A, s.pop⟩
theorem Stt.nx (h : Stt X F0 H0 A0 Γ μ T σ H) {O : Out} (o : O.nx Γ μ) : (endsOf X F0 H0 A0 T O).nx σ H := ⟨Γ, μ, o, h⟩
theorem below_mono {r : AV} {m n : Nat} (h : r.below m) (l : m ≤ n) : r.below n := by
  cases r with
  | dat _ => trivial
  | loc j => exact Nat.lt_of_lt_of_le h l
  | ins _ _ j => exact Nat.lt_of_lt_of_le h l
  | adr _ => trivial
theorem Stt.a0 (h : Stt X F0 H0 A0 Γ μ T σ H) : A0.length ≤ μ.length := by
  obtain ⟨F, A, s⟩ := h
  obtain ⟨B, e, _⟩ := s.pre
  rw [← s.lenA, e, List.length_append]; omega
theorem Stt.gam (h : Stt X F0 H0 A0 Γ μ T σ H) : ∀ (i : Nat) av, Γ[i]? = some (some av) → av.below μ.length := let ⟨_, _, s⟩ := h; s.gamma
theorem Stt.tbl (h : Stt X F0 H0 A0 Γ μ T σ H) : ∀ p ∈ T, p.1.below μ.length := let ⟨_, _, s⟩ := h; s.tbelow
/-- the store's last objects are forgotten -/
theorem Stt.cut {ν : Sto} (h : Stt X F0 H0 A0 Γ (μ ++ ν) T σ H) (n : A0.length ≤ μ.length) (g : ∀ (i : Nat) av, Γ[i]? = some (some av) → av.below μ.length) (t : ∀ p ∈ T, p.1.below μ.length) : Stt X F0 H0 A0 Γ μ T σ H := by
  generalize hn : ν.length = n
  induction n generalizing ν with
  | zero =>
    have e : ν = [] := List.length_eq_zero_iff.mp hn
    subst e; simpa using h
  | succ n ih =>
    have ne : ν ≠ [] := by intro e; subst e; simp at hn
    obtain ⟨ν', m, rfl⟩ : ∃ ν' m, ν = ν' ++ [m] := ⟨ν.dropLast, ν.getLast ne, (List.dropLast_concat_getLast ne).symm⟩
    refine ih ?_ (by simpa using hn)
    obtain ⟨F, A, s⟩ := h
    rw [← List.append_assoc] at s
    have l : μ.length ≤ (μ ++ ν').length := by rw [List.length_append]; omega
    obtain ⟨F', A', s'⟩ := s.cut (by omega) (fun i av e => below_mono (g i av e) l) fun p hp => below_mono (t p hp) l
    exact ⟨F', A', s'⟩
theorem Stt.slots_nil (h : Stt X F0 H0 A0 Γ μ T σ H) : Stt X F0 H0 A0 [] μ T [] H := by
  obtain ⟨F, A, s⟩ := h
  exact ⟨F, A, { s with slots := fun i av e => by simp at e, len := rfl }⟩
end

section
variable {X : Cx} {Γ Γ' : Gm} {μ μ1 μ2 μ3 : Sto} {e a b : Expr} {es : List Expr} {r ra rb : AV} {pos : Pos} {O : Out}

/-! ### structure -/
/-- what was made on the way is forgotten -/
theorem EvE.dat {d : PyData} {ν : Sto} (h : EvE X Γ μ e (.dat d) (μ1 ++ ν)) (l : μ1.length = μ.length := by rfl) : EvE X Γ μ e (.dat d) μ1 := .mk fun F0 H0 A0 T σ H st Q q =>
  h F0 H0 A0 T σ H st Q fun v H' st' => q v H' (st'.cut (by rw [l]; exact st.a0) (by rw [l]; exact st.gam) fun p hp => by
    rcases List.mem_cons.mp hp with rfl | hp
    · trivial
    · rw [l]; exact st.tbl p hp)
theorem EvT.cut {b : Bool} {ν : Sto} (h : EvT X Γ μ e b (μ1 ++ ν)) (l : μ1.length = μ.length := by rfl) : EvT X Γ μ e b μ1 := .mk fun F0 H0 A0 T σ H st Q q =>
  h F0 H0 A0 T σ H st Q fun H' st' => q H' (st'.cut (by rw [l]; exact st.a0) (by rw [l]; exact st.gam) fun p hp => by rw [l]; exact st.tbl p hp)
/-- a new list is left as it is -/
theorem EvE.fix {ds : List PyData} (h : EvE X Γ μ e (.loc μ1.length) (μ1 ++ [.lst ds])) (l : μ1.length = μ.length := by rfl) : EvE X Γ μ e (.dat (.list ds)) μ1 := .mk fun F0 H0 A0 T σ H st Q q =>
  h F0 H0 A0 T σ H st Q fun v H' st' => q v H' (by
    obtain ⟨F, A, s⟩ := st'
    obtain ⟨p, ep, ev⟩ := s.top
    obtain ⟨A', p', o, rfl, la, ho, rm, hF, s'⟩ := s.pop.fix (by rw [l]; exact st.a0) (by rw [l]; exact st.gam) fun p hp => by rw [l]; exact st.tbl p hp
    have e1 : p' = p := by
      have : (A' ++ [p'])[μ1.length]? = some p' := by rw [← la]; simp
      rw [this] at ep; exact Option.some.inj ep
    subst e1
    obtain ⟨vs, hv, hd⟩ := rm
    have eo : HO.lst vs = o := by rw [ho] at hv; exact (Option.some.inj hv).symm
    subst eo
    refine ⟨_, _, s'.val ?_⟩
    have ev' : v = .ref p' := ev
    subst ev'
    exact Dp.lst (SqL.of upd_same) (dps_mono (Sub.upd hF) _ _ hd))

/-! ### names, constants -/
theorem RepA.var {P : Program} {w : World} {K : PySem.W.Frag} : True := trivial
theorem ev_var {i : Nat} {x : Str} (hG : Γ[i]? = some (some r)) (hN : X.N[i]? = some x) (hv : Vis X.env.scope x) (hd : (x == ("__debug__" : Str)) = false := by decide) (hcd : (x == ("__classdict__" : Str)) = false := by decide) : EvE X Γ μ (.Name x pos) r μ := .mk fun F0 H0 A0 T σ H st Q q => by
  obtain ⟨F, A, s⟩ := st
  obtain ⟨v, ev, rv⟩ := s.slots i r hG
  exact wE_of (pe_var hN hv hd hcd) ⟨v, ev, q v H ⟨F, A, s.val rv⟩⟩
theorem ev_const {v : V} {d : PyData} (h : PE X e (tC v)) (hd : ∀ F, Dp X.K F v d) : EvE X Γ μ e (.dat d) μ := .mk fun F0 H0 A0 T σ H st Q q => by
  obtain ⟨F, A, s⟩ := st
  exact wE_of h (q v H ⟨F, A, s.val (r := .dat d) (hd F)⟩)
theorem ev_int {i : Int} {j} : EvE X Γ μ (.Constant (.int i) j pos) (.dat (.int i)) μ := ev_const pe_int fun _ => .int i
theorem ev_bl {i : Bool} {j} : EvE X Γ μ (.Constant (.bool i) j pos) (.dat (.bool i)) μ := ev_const pe_bl fun _ => .bl i
theorem ev_non {j} : EvE X Γ μ (.Constant .none j pos) (.dat .none) μ := ev_const pe_non fun _ => .non
theorem ev_str {x : Str} {j} : EvE X Γ μ (.Constant (.str x) j pos) (.dat (.str x)) μ := ev_const pe_str fun _ => .str x
/-- a constant of the module -/
theorem ev_glob {x : Str} {v : V} {u : Value} {d : PyData} (hg : Gl X x) (hm : X.mg x = some u) (r : RelV v u) (hd : ∀ F, Dp X.K F v d) (hdb : (x == ("__debug__" : Str)) = false := by decide) : EvE X Γ μ (.Name x pos) (.dat d) μ := ev_const (pe_glob hg hm r hdb) hd

/-! ### argument lists, displays -/
theorem ea_nil : EvA X Γ μ [] [] μ := .mk fun F0 H0 A0 T σ H st Q q => wA_of pa_nil (q [] H rfl st)
theorem ea_cons {rs : List AV} (h : EvE X Γ μ e r μ1) (hr : EvA X Γ μ1 es rs μ2) (hs : starEach (e :: es) X.env = (false, eval e X.env) :: starEach es X.env := by rfl) : EvA X Γ μ (e :: es) (r :: rs) μ2 := .mk fun F0 H0 A0 T σ H st Q q =>
  wA_of (pa_cons pe_w pa_w hs) (h F0 H0 A0 T σ H st _ fun v H1 st1 => hr F0 H0 A0 _ σ H1 st1 _ fun vs H2 l st2 => q (v :: vs) H2 (by simp [l]) (st2.tmp fun p hp => by
    simp only [List.zip_cons_cons, List.cons_append, List.mem_cons, List.mem_append] at hp ⊢
    rcases hp with hp | hp | hp
    · exact .inr (.inl hp)
    · exact .inl hp
    · exact .inr (.inr hp)))
theorem zip_dats {K : PySem.W.Frag} {F : Hp} {A : List Addr} : ∀ {ds : List PyData} {vs : List V}, vs.length = ds.length → (∀ p ∈ (ds.map AV.dat).zip vs, RepA K F A p.1 p.2) → DpAll K F vs ds
  | [], [], _, _ => .nil
  | d :: ds, v :: vs, l, h => .cons (h (.dat d, v) (by simp)) (zip_dats (by simpa using l) fun p hp => h p (by simp at hp ⊢; exact .inr hp))
  | [], _ :: _, l, _ => by simp at l
  | _ :: _, [], l, _ => by simp at l
theorem ev_tup {ds : List PyData} {k : Nat} (h : EvA X Γ μ es (ds.map .dat) μ1) (hz : ds.length ≤ sizeLine := by first | decide | (rw [sizeLine_eq]; simp)) : EvE X Γ μ (.Tuple es k pos) (.dat (.tuple ds)) μ1 := .mk fun F0 H0 A0 T σ H st Q q =>
  wE_of (pe_tup pa_w) (h F0 H0 A0 T σ H st _ fun vs H1 l st1 => ⟨by rw [l, List.length_map]; exact hz, fun p hp => q _ _ (by
    obtain ⟨F, A, s⟩ := st1
    have hd : DpAll X.K F vs ds := zip_dats (A := A) (by simpa using l) fun p hp => s.temps p (List.mem_append_left _ hp)
    exact ⟨_, _, ((s.tmp (T' := T) fun p hp => List.mem_append_right _ hp).new_fix hp).val (r := .dat (.tuple ds)) (Dp.tup (SqT.of upd_same) (dps_mono (Sub.upd (s.fh.none hp)) _ _ hd))⟩)⟩)
theorem ev_lst {ds : List PyData} (h : EvA X Γ μ es (ds.map .dat) μ1) (hz : ds.length ≤ sizeLine := by first | decide | (rw [sizeLine_eq]; simp)) : EvE X Γ μ (.List es pos) (.loc μ1.length) (μ1 ++ [.lst ds]) := .mk fun F0 H0 A0 T σ H st Q q =>
  wE_of (pe_lst pa_w) (h F0 H0 A0 T σ H st _ fun vs H1 l st1 => ⟨by rw [l, List.length_map]; exact hz, fun p hp => q _ _ (by
    obtain ⟨F, A, s⟩ := st1
    have hd : DpAll X.K F vs ds := zip_dats (A := A) (by simpa using l) fun p hp => s.temps p (List.mem_append_left _ hp)
    exact ⟨_, _, (s.tmp (T' := T) fun p hp => List.mem_append_right _ hp).last hp ⟨vs, upd_same, hd⟩⟩)⟩)

/-! ### operators, comparisons -/
theorem ev_bin {op : Operator} (ha : EvE X Γ μ a ra μ1) (hb : EvE X Γ μ1 b rb μ2) (ho : OpE X (binaryOp op) Γ μ2 ra rb r μ3) : EvE X Γ μ (.BinOp a op b pos) r μ3 := .mk fun F0 H0 A0 T σ H st Q q =>
  fun pins s I => wpAny_BinOp (bin (R := fun x y H2 => Stt X F0 H0 A0 Γ μ2 ((rb, y) :: (ra, x) :: T) σ H2) pe_w pe_w I (ha F0 H0 A0 T σ H st _ fun v H1 st1 => hb F0 H0 A0 _ σ H1 st1 _ fun u H2 st2 => st2) fun v u s2 x y H2 I2 rx ry st2 => ho F0 H0 A0 T σ H2 x y st2 Q q pins s2 v u I2 rx ry)
theorem ev_un {op : UnaryOp} (ha : EvE X Γ μ a ra μ1) (ho : UnE X (unaryOp op) Γ μ1 ra r μ2) : EvE X Γ μ (.UnaryOp op a pos) r μ2 := .mk fun F0 H0 A0 T σ H st Q q =>
  fun pins s I => UnaryOp_ (thn (ha F0 H0 A0 T σ H st (fun x H1 => Stt X F0 H0 A0 Γ μ1 ((ra, x) :: T) σ H1) (fun _ _ z => z) pins s I) fun v s1 ⟨x, H1, I1, r1, q1⟩ => ho F0 H0 A0 T σ H1 x q1 Q q pins s1 v I1 r1)
theorem ev_cmp {op : CmpOp} (ha : EvE X Γ μ a ra μ1) (hb : EvE X Γ μ1 b rb μ2) (ho : OpE X (compareOp op) Γ μ2 ra rb r μ3) (hm : behindInMarks op b = false := by first | exact nobehind _ (by decide) (by decide) | rfl) : EvE X Γ μ (.Compare a [op] [b] pos) r μ3 := .mk fun F0 H0 A0 T σ H st Q q =>
  wE_of (pe_cmp (op := op) (t := fun σ H Q => ∃ R : V → V → Hp → Prop, (wE X a σ H fun x H1 => wE X b σ H1 fun y H2 => R x y H2) ∧ ∀ x y H2, R x y H2 → ∀ (pins : List (Addr × Obj)) (s : Shared) (v u : Value), Inv X pins σ H2 s → RelV x v → RelV y u → wpAny (model X.prog X.w) X.A (compareOp op v u) (EP X pins σ Q) X.xe s)
    ⟨fun pins s σ H Q I h => by
      obtain ⟨R, h1, h2⟩ := h
      exact bin (R := R) pe_w pe_w I h1 fun v u s2 x y H2 I2 rx ry z => h2 x y H2 z pins s2 v u I2 rx ry⟩ hm)
    ⟨fun x y H2 => Stt X F0 H0 A0 Γ μ2 ((rb, y) :: (ra, x) :: T) σ H2, ha F0 H0 A0 T σ H st _ fun v H1 st1 => hb F0 H0 A0 _ σ H1 st1 _ fun u H2 st2 => st2, fun x y H2 z pins s v u I rx ry => ho F0 H0 A0 T σ H2 x y z Q q pins s v u I rx ry⟩
theorem et_cmp {op : CmpOp} {k : Bool} (ha : EvE X Γ μ a ra μ1) (hb : EvE X Γ μ1 b rb μ2) (ho : OpE X (compareOp op) Γ μ2 ra rb (.dat (.bool k)) μ3) (hm : behindInMarks op b = false := by first | exact nobehind _ (by decide) (by decide) | rfl) : EvT X Γ μ (.Compare a [op] [b] pos) k μ3 := .mk fun F0 H0 A0 T σ H st Q q =>
  wT_of (pt_cmp (op := op) (t := fun σ H Q => ∃ R : V → V → Hp → Prop, (wE X a σ H fun x H1 => wE X b σ H1 fun y H2 => R x y H2) ∧ ∀ x y H2, R x y H2 → ∀ (pins : List (Addr × Obj)) (s : Shared) (v u : Value), Inv X pins σ H2 s → RelV x v → RelV y u → wpAny (model X.prog X.w) X.A (compareOp op v u) (EP X pins σ Q) X.xe s)
    ⟨fun pins s σ H Q I h => by
      obtain ⟨R, h1, h2⟩ := h
      exact bin (R := R) pe_w pe_w I h1 fun v u s2 x y H2 I2 rx ry z => h2 x y H2 z pins s2 v u I2 rx ry⟩ hm)
    ⟨fun x y H2 => Stt X F0 H0 A0 Γ μ2 ((rb, y) :: (ra, x) :: T) σ H2, ha F0 H0 A0 T σ H st _ fun v H1 st1 => hb F0 H0 A0 _ σ H1 st1 _ fun u H2 st2 => st2, fun x y H2 z pins s v u I rx ry => ho F0 H0 A0 T σ H2 x y z _ (fun z H' st3 => by
      obtain ⟨F, A, s3⟩ := st3
      have t := s3.top
      cases t
      exact ⟨k, rfl, q H' ⟨F, A, s3.pop⟩⟩) pins s v u I rx ry⟩

/-! ### tests -/
theorem et_val {k : Bool} (h : EvE X Γ μ e (.dat (.bool k)) μ1) (he : ∀ whole, isTrue e X.env whole = (do let v ← whole; standAt e.pos; holding [v] (truthy v)) := by intro _; rfl) : EvT X Γ μ e k μ1 := .mk fun F0 H0 A0 T σ H st Q q =>
  wT_of (pt_val pe_w he) (h F0 H0 A0 T σ H st _ fun v H1 st1 => by
    obtain ⟨F, A, s⟩ := st1
    have t := s.top
    cases t
    exact ⟨k, rfl, q H1 ⟨F, A, s.pop⟩⟩)
theorem et_not {k : Bool} (h : EvT X Γ μ e k μ1) : EvT X Γ μ (.UnaryOp .Not e pos) (!k) μ1 := .mk fun F0 H0 A0 T σ H st Q q => wT_of (pt_not pt_w) (h F0 H0 A0 T σ H st _ fun H1 st1 => q H1 st1)
theorem et_w {k : Bool} (h : EvW X Γ μ e k μ1) : EvT X Γ μ e k μ1 := .mk fun F0 H0 A0 T σ H st Q q => wT_of (PW.pt pw_w) (h F0 H0 A0 T σ H st Q q)
theorem ew_and1 {k : Bool} (h : EvT X Γ μ e k μ1) : EvW X Γ μ (.BoolOp .And [e] pos) k μ1 := .mk fun F0 H0 A0 T σ H st Q q => wW_of (pw_and1 pt_w) (h F0 H0 A0 T σ H st Q q)
theorem ew_or1 {k : Bool} (h : EvT X Γ μ e k μ1) : EvW X Γ μ (.BoolOp .Or [e] pos) k μ1 := .mk fun F0 H0 A0 T σ H st Q q => wW_of (pw_or1 pt_w) (h F0 H0 A0 T σ H st Q q)
theorem ew_andF (h : EvT X Γ μ a false μ1) : EvW X Γ μ (.BoolOp .And (a :: b :: es) pos) false μ1 := .mk fun F0 H0 A0 T σ H st Q q =>
  wW_of (pw_and pt_w pw_w) (h F0 H0 A0 T σ H st _ fun H1 st1 => iteF (q H1 st1))
theorem ew_andT {k : Bool} (h : EvT X Γ μ a true μ1) (h2 : EvW X Γ μ1 (.BoolOp .And (b :: es) pos) k μ2) : EvW X Γ μ (.BoolOp .And (a :: b :: es) pos) k μ2 := .mk fun F0 H0 A0 T σ H st Q q =>
  wW_of (pw_and pt_w pw_w) (h F0 H0 A0 T σ H st _ fun H1 st1 => iteT (h2 F0 H0 A0 T σ H1 st1 Q q))
theorem ew_orT (h : EvT X Γ μ a true μ1) : EvW X Γ μ (.BoolOp .Or (a :: b :: es) pos) true μ1 := .mk fun F0 H0 A0 T σ H st Q q =>
  wW_of (pw_or pt_w pw_w) (h F0 H0 A0 T σ H st _ fun H1 st1 => iteT (q H1 st1))
theorem ew_orF {k : Bool} (h : EvT X Γ μ a false μ1) (h2 : EvW X Γ μ1 (.BoolOp .Or (b :: es) pos) k μ2) : EvW X Γ μ (.BoolOp .Or (a :: b :: es) pos) k μ2 := .mk fun F0 H0 A0 T σ H st Q q =>
  wW_of (pw_or pt_w pw_w) (h F0 H0 A0 T σ H st _ fun H1 st1 => iteF (h2 F0 H0 A0 T σ H1 st1 Q q))
/-- of tests that change nothing -/
theorem ew_and {k m : Bool} (h : EvT X Γ μ a k μ) (h2 : k = true → EvW X Γ μ (.BoolOp .And (b :: es) pos) m μ) : EvW X Γ μ (.BoolOp .And (a :: b :: es) pos) (k && m) μ := by
  cases k with
  | true => exact ew_andT h (h2 rfl)
  | false => exact ew_andF h
theorem ew_or {k m : Bool} (h : EvT X Γ μ a k μ) (h2 : k = false → EvW X Γ μ (.BoolOp .Or (b :: es) pos) m μ) : EvW X Γ μ (.BoolOp .Or (a :: b :: es) pos) (k || m) μ := by
  cases k with
  | true => exact ew_orT h
  | false => exact ew_orF h (h2 rfl)
/-- and, or, not as values -/
theorem ev_one {op} (h : EvE X Γ μ e r μ1) : EvE X Γ μ (.BoolOp op [e] pos) r μ1 := .mk fun F0 H0 A0 T σ H st Q q => wE_of (pe_one pe_w) (h F0 H0 A0 T σ H st Q q)
theorem dpb {K : PySem.W.Frag} {F : Hp} {A : List Addr} {v : V} {k : Bool} (h : RepA K F A (.dat (.bool k)) v) : v = .bl k := by cases h; rfl
theorem dpi {K : PySem.W.Frag} {F : Hp} {A : List Addr} {v : V} {k : Int} (h : RepA K F A (.dat (.int k)) v) : v = .int k := by cases h; rfl
theorem dps {K : PySem.W.Frag} {F : Hp} {A : List Addr} {v : V} {k : Str} (h : RepA K F A (.dat (.str k)) v) : v = .str k := by cases h; rfl
theorem dpn {K : PySem.W.Frag} {F : Hp} {A : List Addr} {v : V} (h : RepA K F A (.dat .none) v) : v = .non := by cases h; rfl
theorem ev_andF (h : EvE X Γ μ a (.dat (.bool false)) μ1) : EvE X Γ μ (.BoolOp .And (a :: b :: es) pos) (.dat (.bool false)) μ1 := .mk fun F0 H0 A0 T σ H st Q q =>
  wE_of (pe_and pe_w pe_w) (h F0 H0 A0 T σ H st _ fun v H1 st1 => by
    have t : v = .bl false := by obtain ⟨F, A, s⟩ := st1; exact dpb s.top
    subst t; exact ⟨false, rfl, iteF (q _ H1 st1)⟩)
theorem ev_andT (h : EvE X Γ μ a (.dat (.bool true)) μ1) (h2 : EvE X Γ μ1 (.BoolOp .And (b :: es) pos) r μ2) : EvE X Γ μ (.BoolOp .And (a :: b :: es) pos) r μ2 := .mk fun F0 H0 A0 T σ H st Q q =>
  wE_of (pe_and pe_w pe_w) (h F0 H0 A0 T σ H st _ fun v H1 st1 => by
    have t : v = .bl true := by obtain ⟨F, A, s⟩ := st1; exact dpb s.top
    subst t; exact ⟨true, rfl, iteT (h2 F0 H0 A0 T σ H1 st1.pop Q q)⟩)
theorem ev_orT (h : EvE X Γ μ a (.dat (.bool true)) μ1) : EvE X Γ μ (.BoolOp .Or (a :: b :: es) pos) (.dat (.bool true)) μ1 := .mk fun F0 H0 A0 T σ H st Q q =>
  wE_of (pe_or pe_w pe_w) (h F0 H0 A0 T σ H st _ fun v H1 st1 => by
    have t : v = .bl true := by obtain ⟨F, A, s⟩ := st1; exact dpb s.top
    subst t; exact ⟨true, rfl, iteT (q _ H1 st1)⟩)
theorem ev_orF (h : EvE X Γ μ a (.dat (.bool false)) μ1) (h2 : EvE X Γ μ1 (.BoolOp .Or (b :: es) pos) r μ2) : EvE X Γ μ (.BoolOp .Or (a :: b :: es) pos) r μ2 := .mk fun F0 H0 A0 T σ H st Q q =>
  wE_of (pe_or pe_w pe_w) (h F0 H0 A0 T σ H st _ fun v H1 st1 => by
    have t : v = .bl false := by obtain ⟨F, A, s⟩ := st1; exact dpb s.top
    subst t; exact ⟨false, rfl, iteF (h2 F0 H0 A0 T σ H1 st1.pop Q q)⟩)
theorem ev_and {k m : Bool} (h : EvE X Γ μ a (.dat (.bool k)) μ) (h2 : k = true → EvE X Γ μ (.BoolOp .And (b :: es) pos) (.dat (.bool m)) μ) : EvE X Γ μ (.BoolOp .And (a :: b :: es) pos) (.dat (.bool (k && m))) μ := by
  cases k with
  | true => exact ev_andT h (h2 rfl)
  | false => exact ev_andF h
theorem ev_or {k m : Bool} (h : EvE X Γ μ a (.dat (.bool k)) μ) (h2 : k = false → EvE X Γ μ (.BoolOp .Or (b :: es) pos) (.dat (.bool m)) μ) : EvE X Γ μ (.BoolOp .Or (a :: b :: es) pos) (.dat (.bool (k || m))) μ := by
  cases k with
  | true => exact ev_orT h
  | false => exact ev_orF h (h2 rfl)
theorem ev_not {k : Bool} (h : EvE X Γ μ e (.dat (.bool k)) μ1) : EvE X Γ μ (.UnaryOp .Not e pos) (.dat (.bool (!k))) μ1 := .mk fun F0 H0 A0 T σ H st Q q =>
  wE_of (pe_not pe_w) (h F0 H0 A0 T σ H st _ fun v H1 st1 => by
    obtain ⟨F, A, s⟩ := st1
    have t : v = .bl k := dpb s.top
    subst t; exact ⟨k, rfl, q _ H1 ⟨F, A, s.pop.val (r := .dat (.bool (!k))) (.bl _)⟩⟩)
theorem ev_ifT {c : Expr} (hc : EvT X Γ μ c true μ1) (h : EvE X Γ μ1 a r μ2) : EvE X Γ μ (.IfExp c a b pos) r μ2 := .mk fun F0 H0 A0 T σ H st Q q =>
  wE_of (pe_ifExp pt_w pe_w pe_w) (hc F0 H0 A0 T σ H st _ fun H1 st1 => iteT (h F0 H0 A0 T σ H1 st1 Q q))
theorem ev_ifF {c : Expr} (hc : EvT X Γ μ c false μ1) (h : EvE X Γ μ1 b r μ2) : EvE X Γ μ (.IfExp c a b pos) r μ2 := .mk fun F0 H0 A0 T σ H st Q q =>
  wE_of (pe_ifExp pt_w pe_w pe_w) (hc F0 H0 A0 T σ H st _ fun H1 st1 => iteF (h F0 H0 A0 T σ H1 st1 Q q))
theorem ev_if {c : Expr} {k : Bool} (hc : EvT X Γ μ c k μ1) (h1 : k = true → EvE X Γ μ1 a r μ2) (h2 : k = false → EvE X Γ μ1 b r μ2) : EvE X Γ μ (.IfExp c a b pos) r μ2 := by
  cases k with
  | true => exact ev_ifT hc (h1 rfl)
  | false => exact ev_ifF hc (h2 rfl)

/-! ### statements -/
theorem ex_nil (h : O.nx Γ μ) : ExS X Γ μ [] O := .mk fun F0 H0 A0 T σ H st => wSs_of pss_nil ⟨Γ, μ, h, st⟩
theorem ex_cons {s : Stmt} {rest : List Stmt} (h : Ex1 X Γ μ s { O with nx := fun Γ' μ' => ExS X Γ' μ' rest O }) : ExS X Γ μ (s :: rest) O := .mk fun F0 H0 A0 T σ H st =>
  wSs_of (pss_cons ps_w pss_w) (by
    have q := h F0 H0 A0 T σ H st
    intro pins s1 I
    refine wpAny_mono (q pins s1 I) (fun f s' z => ?_) fun _ _ z => z
    cases f with
    | next =>
      obtain ⟨σ', H', I', Γ', μ', hr, st'⟩ := z
      exact ⟨σ', H', I', hr F0 H0 A0 T σ' H' st'⟩
    | ret v => exact z
    | brk => exact z
    | cont => exact z)
theorem ex_asg {i : Nat} {x : Str} {p : Pos} (h : EvE X Γ μ e r μ1) (k : O.nx (Γ.set i (some r)) μ1) (hN : X.N.Nodup) (hi : X.N[i]? = some x) (hx : Loc X.env.scope x) (hf : X.fn x = true ∨ X.env.scope.names.lookup x = some .local) (hs : swapsWith e (some (.Name x p)) pos.line X.env = pure false := by rfl) : Ex1 X Γ μ (.Assign [.Name x p] e pos) O := .mk fun F0 H0 A0 T σ H st =>
  wS_of (ps_asg pe_w (pg_name hN hi hx hf) hs (by rfl) (by rfl)) (h F0 H0 A0 T σ H st _ fun v H1 st1 => by
    obtain ⟨F, A, s⟩ := st1
    exact ⟨_, _, k, F, A, s.pop.slot s.top⟩)
theorem ex_expr (h : EvE X Γ μ e r μ1) (k : O.nx Γ μ1) (hs : swapsWith e none pos.line X.env = pure false := by rfl) : Ex1 X Γ μ (.Expr e pos) O := .mk fun F0 H0 A0 T σ H st =>
  wS_of (ps_expr pe_w hs) (h F0 H0 A0 T σ H st _ fun v H1 st1 => ⟨_, _, k, st1.pop⟩)
theorem ex_ret (h : EvE X Γ μ e r μ1) (k : O.rt r μ1) : Ex1 X Γ μ (.Return (some e) pos) O := .mk fun F0 H0 A0 T σ H st =>
  wS_of (ps_ret pe_w) (h F0 H0 A0 T σ H st _ fun v H1 st1 => ⟨_, _, k, (st1.tmp fun p hp => by rw [List.mem_singleton] at hp; subst hp; exact List.mem_cons_self).slots_nil⟩)
theorem ex_retN (k : O.rt (.dat .none) μ) : Ex1 X Γ μ (.Return none pos) O := .mk fun F0 H0 A0 T σ H st =>
  wS_of ps_retN ⟨_, _, k, by
    obtain ⟨F, A, s⟩ := st
    exact Stt.slots_nil ⟨F, A, (s.tmp (T' := []) fun p hp => by simp at hp).val (r := .dat .none) .non⟩⟩
theorem ex_pass (k : O.nx Γ μ) : Ex1 X Γ μ (.Pass pos) O := .mk fun F0 H0 A0 T σ H st => wS_of ps_pass ⟨_, _, k, st⟩
theorem ex_break (k : O.bk Γ μ) : Ex1 X Γ μ (.Break pos) O := .mk fun F0 H0 A0 T σ H st => wS_of ps_break ⟨_, _, k, st⟩
theorem ex_cont (k : O.ct Γ μ) : Ex1 X Γ μ (.Continue pos) O := .mk fun F0 H0 A0 T σ H st => wS_of ps_continue ⟨_, _, k, st⟩
theorem ex_if {c : Expr} {s1 s2 : List Stmt} {k : Bool} (hc : EvT X Γ μ c k μ1) (h1 : k = true → ExS X Γ μ1 s1 O) (h2 : k = false → ExS X Γ μ1 s2 O) : Ex1 X Γ μ (.If c s1 s2 pos) O := .mk fun F0 H0 A0 T σ H st =>
  wS_of (ps_if pt_w pss_w pss_w) (hc F0 H0 A0 T σ H st _ fun H1 st1 => by
    cases k with
    | true => exact iteT (h1 rfl F0 H0 A0 T σ H1 st1)
    | false => exact iteF (h2 rfl F0 H0 A0 T σ H1 st1))
theorem ex_ifT {c : Expr} {s1 s2 : List Stmt} (hc : EvT X Γ μ c true μ1) (h1 : ExS X Γ μ1 s1 O) : Ex1 X Γ μ (.If c s1 s2 pos) O := ex_if hc (fun _ => h1) fun h => by cases h
theorem ex_ifF {c : Expr} {s1 s2 : List Stmt} (hc : EvT X Γ μ c false μ1) (h2 : ExS X Γ μ1 s2 O) : Ex1 X Γ μ (.If c s1 s2 pos) O := ex_if hc (fun h => by cases h) fun _ => h2
theorem Stt.weak {F0 H0 H : Hp} {A0 : List Addr} {T : Tmp} {σ : Sl} {n : Nat} (st : Stt X F0 H0 A0 Γ μ T σ H) (l : Γ'.length = Γ.length) (h : ∀ (i : Nat) av, Γ'[i]? = some (some av) → Γ[i]? = some (some av)) : Stt X F0 H0 A0 Γ' μ T σ H := by
  obtain ⟨F, A, s⟩ := st
  exact ⟨F, A, s.forget l h⟩
end
end DL
set_option maxHeartbeats 2000000
/-! Operators, built-ins and methods over values. -/
namespace DL
open PySem PySem.Spec PyProof.Rows L2

/-- a list's items: frozen, or in the store -/
inductive LsA (μ : Sto) : AV → List PyData → Prop
  | dat (ds : List PyData) : LsA μ (.dat (.list ds)) ds
  | loc {j : Nat} {ds : List PyData} : μ[j]? = some (.lst ds) → LsA μ (.loc j) ds
inductive SqA (μ : Sto) : AV → List PyData → Prop
  | lst {r : AV} {ds : List PyData} : LsA μ r ds → SqA μ r ds
  | tup (ds : List PyData) : SqA μ (.dat (.tuple ds)) ds
section
variable {P : Program} {w : World} {K : PySem.W.Frag} {F0 H0 F H : Hp} {A0 A : List Addr} {Γ : Gm} {μ : Sto} {T : Tmp} {σ : Sl} {r : AV} {v : V} {ds : List PyData}
theorem LsA.read (h : LsA μ r ds) (s : Sin P w K F0 H0 A0 Γ μ T σ H F A) (rv : RepA K F A r v) : ∃ a vs, v = .ref a ∧ SqL K H a vs ∧ DpAll K F vs ds := by
  cases h with
  | dat _ =>
    cases rv with
    | lst h1 h2 => exact ⟨_, _, rfl, s.fh.sqL h1, h2⟩
  | loc e =>
    obtain ⟨a, ea, rfl⟩ := rv
    obtain ⟨m, h1, h2⟩ := paired_get' s.rep ea
    rw [e] at h1; cases h1
    obtain ⟨vs, hv, hd⟩ := h2
    exact ⟨a, vs, rfl, SqL.of hv, hd⟩
theorem SqA.read (h : SqA μ r ds) (s : Sin P w K F0 H0 A0 Γ μ T σ H F A) (rv : RepA K F A r v) : ∃ a vs, v = .ref a ∧ (SqL K H a vs ∨ SqT K H a vs) ∧ DpAll K F vs ds := by
  cases h with
  | lst h =>
    obtain ⟨a, vs, e, h1, h2⟩ := h.read s rv
    exact ⟨a, vs, e, .inl h1, h2⟩
  | tup _ =>
    cases rv with
    | tup h1 h2 => exact ⟨_, _, rfl, .inr (s.fh.sqT h1), h2⟩
/-- a list of the store, to be changed -/
theorem Sin.lstAt (s : Sin P w K F0 H0 A0 Γ μ T σ H F A) {j : Nat} (e : μ[j]? = some (.lst ds)) : ∃ a vs, A[j]? = some a ∧ H a = some (.lst vs) ∧ DpAll K F vs ds := by
  obtain ⟨a, h1, h2⟩ := paired_get s.rep e
  obtain ⟨vs, hv, hd⟩ := h2
  exact ⟨a, vs, h1, hv, hd⟩
end

section
variable {X : Cx} {Γ : Gm} {μ μ1 μ2 μ3 : Sto} {r ra rb : AV} {f : Value → Value → Sem Value} {r2 : R2} {d e c : PyData} {ds es : List PyData}

/-! ### two values give a value -/
theorem op_dd (ho : OpR X f r2) (h : ∀ (F H : Hp) (x y : V), Sub F H → Dp X.K F x d → Dp X.K F y e → ∀ Q : VK, (∀ z, Dp X.K F z c → Q z H) → r2 x y H Q) : OpE X f Γ μ (.dat d) (.dat e) (.dat c) μ := .mk fun F0 H0 A0 T σ H x y st Q q pins s v u I rx ry => by
  obtain ⟨F, A, si⟩ := st
  exact ho pins s σ H x y v u Q I rx ry (h F H x y si.fh si.pop.top si.top Q fun z hz => q z H ⟨F, A, si.pop.pop.val (r := .dat c) hz⟩)
theorem op_ii {g : Int → Int → Int} {i j : Int} (ho : OpR X f (rI0 fun i j => .int (g i j))) : OpE X f Γ μ (.dat (.int i)) (.dat (.int j)) (.dat (.int (g i j))) μ := op_dd ho fun F H x y _ hx hy Q q => by
  cases hx; cases hy; exact ⟨i, j, rfl, rfl, q _ (.int _)⟩
theorem op_iiC {C : Int → Int → Prop} {g : Int → Int → Int} {i j : Int} (ho : OpR X f (rI C fun i j => .int (g i j))) (hc : C i j) : OpE X f Γ μ (.dat (.int i)) (.dat (.int j)) (.dat (.int (g i j))) μ := op_dd ho fun F H x y _ hx hy Q q => by
  cases hx; cases hy; exact ⟨i, j, rfl, rfl, hc, q _ (.int _)⟩
theorem op_iib {g : Int → Int → Bool} {i j : Int} (ho : OpR X f (rI0 fun i j => .bl (g i j))) : OpE X f Γ μ (.dat (.int i)) (.dat (.int j)) (.dat (.bool (g i j))) μ := op_dd ho fun F H x y _ hx hy Q q => by
  cases hx; cases hy; exact ⟨i, j, rfl, rfl, q _ (.bl _)⟩
theorem o_add {i j : Int} : OpE X (binaryOp .Add) Γ μ (.dat (.int i)) (.dat (.int j)) (.dat (.int (i + j))) μ := op_ii op_add
theorem o_sub {i j : Int} : OpE X (binaryOp .Sub) Γ μ (.dat (.int i)) (.dat (.int j)) (.dat (.int (i - j))) μ := op_ii op_sub
theorem o_mul {i j : Int} (h : CMul i j) : OpE X (binaryOp .Mult) Γ μ (.dat (.int i)) (.dat (.int j)) (.dat (.int (i * j))) μ := op_iiC op_mul h
theorem o_mod {i j : Int} (h : 0 < j) : OpE X (binaryOp .Mod) Γ μ (.dat (.int i)) (.dat (.int j)) (.dat (.int (i % j))) μ := op_iiC op_mod h
theorem o_div {i j : Int} (h : CDiv i j) : OpE X (binaryOp .FloorDiv) Γ μ (.dat (.int i)) (.dat (.int j)) (.dat (.int (i / j))) μ := op_iiC op_fdiv h
theorem o_pow {i j : Int} (h : CPow i j) : OpE X (binaryOp .Pow) Γ μ (.dat (.int i)) (.dat (.int j)) (.dat (.int (i ^ j.toNat))) μ := op_iiC op_pow h
theorem o_addb {i : Int} {k : Bool} : OpE X (binaryOp .Add) Γ μ (.dat (.int i)) (.dat (.bool k)) (.dat (.int (i + b2i k))) μ := op_dd op_add_ib fun F H x y _ hx hy Q q => by
  cases hx; cases hy; exact ⟨i, k, rfl, rfl, q _ (.int _)⟩
theorem o_adds {i j : Str} (h : i.length + j.length ≤ sizeLine) : OpE X (binaryOp .Add) Γ μ (.dat (.str i)) (.dat (.str j)) (.dat (.str (i ++ j))) μ := op_dd op_add_str fun F H x y _ hx hy Q q => by
  cases hx; cases hy; exact ⟨i, j, rfl, rfl, h, q _ (.str _)⟩
theorem o_lt {i j : Int} : OpE X (compareOp .Lt) Γ μ (.dat (.int i)) (.dat (.int j)) (.dat (.bool (decide (i < j)))) μ := op_iib op_lt
theorem o_le {i j : Int} : OpE X (compareOp .LtE) Γ μ (.dat (.int i)) (.dat (.int j)) (.dat (.bool (decide (i ≤ j)))) μ := op_iib op_le
theorem o_gt {i j : Int} : OpE X (compareOp .Gt) Γ μ (.dat (.int i)) (.dat (.int j)) (.dat (.bool (decide (j < i)))) μ := op_iib op_gt
theorem o_ge {i j : Int} : OpE X (compareOp .GtE) Γ μ (.dat (.int i)) (.dat (.int j)) (.dat (.bool (decide (j ≤ i)))) μ := op_iib op_ge
theorem o_eq (hu : X.A.units + 64 < cLine) (h1 : SeqAt.shaped d = true) (h2 : SeqAt.shaped e = true) : OpE X (compareOp .Eq) Γ μ (.dat d) (.dat e) (.dat (.bool (PyData.eqv d e))) μ := op_dd (op_eqD hu) fun F H x y s hx hy Q q =>
  ⟨d, e, dp_mono s _ _ hx, dp_mono s _ _ hy, h1, h2, q _ (.bl _)⟩
theorem o_ne (hu : X.A.units + 64 < cLine) (h1 : SeqAt.shaped d = true) (h2 : SeqAt.shaped e = true) : OpE X (compareOp .NotEq) Γ μ (.dat d) (.dat e) (.dat (.bool (!PyData.eqv d e))) μ := op_dd (op_neD hu) fun F H x y s hx hy Q q =>
  ⟨d, e, dp_mono s _ _ hx, dp_mono s _ _ hy, h1, h2, q _ (.bl _)⟩
def isNone : PyData → Bool
  | .none => true
  | _ => false
theorem isNone_dp {K : PySem.W.Frag} {F : Hp} {x : V} (h : Dp K F x d) : decide (x = .non) = isNone d := by
  cases h <;> rfl
theorem o_isN : OpE X (compareOp .Is) Γ μ (.dat d) (.dat .none) (.dat (.bool (isNone d))) μ := op_dd op_isN fun F H x y s hx hy Q q => by
  cases hy; exact ⟨rfl, by rw [isNone_dp hx]; exact q _ (.bl _)⟩
theorem o_notN : OpE X (compareOp .IsNot) Γ μ (.dat d) (.dat .none) (.dat (.bool (!isNone d))) μ := op_dd op_notN fun F H x y s hx hy Q q => by
  cases hy; exact ⟨rfl, by rw [isNone_dp hx]; exact q _ (.bl _)⟩
/-- one sign within a text, a text within a text -/
theorem o_ins {i j : Str} : OpE X (compareOp .In) Γ μ (.dat (.str i)) (.dat (.str j)) (.dat (.bool (!(Builtin.Str.occurrences j i 0 j.length 1).isEmpty))) μ := op_dd op_in_str fun F H x y _ hx hy Q q => by
  cases hx; cases hy; exact ⟨i, j, rfl, rfl, q _ (.bl _)⟩
theorem o_nins {i j : Str} : OpE X (compareOp .NotIn) Γ μ (.dat (.str i)) (.dat (.str j)) (.dat (.bool (!(!(Builtin.Str.occurrences j i 0 j.length 1).isEmpty)))) μ := op_dd op_notin_str fun F H x y _ hx hy Q q => by
  cases hx; cases hy; exact ⟨i, j, rfl, rfl, q _ (.bl _)⟩

/-! ### in, not in: lists and tuples of data -/
def inD (d : PyData) (ds : List PyData) : Bool := ds.any fun z => PyData.eqv z d
theorem seq_reads {pins : List (Addr × Obj)} {σ : Sl} {H F : Hp} {s : Shared} {a : Addr} {vs : List V} (I : Inv X pins σ H s) (hs : Sub F H) (h : SqL X.K H a vs ∨ SqT X.K H a vs) (hd : DpAll X.K F vs ds) :
    (∃ as, Reads s.heap (.ref a) (.list ds) as) ∨ ∃ as, Reads s.heap (.ref a) (.tuple ds) as := by
  rcases h with h | h
  · exact .inl (Dp.reads I (.list ds) (.ref a) (.ref a) (.lst h (dps_mono hs _ _ hd)) rfl)
  · exact .inr (Dp.reads I (.tuple ds) (.ref a) (.ref a) (.tup h (dps_mono hs _ _ hd)) rfl)
theorem o_in (hu : X.A.units + 65 < cLine) (hs : SqA μ r ds) (h1 : SeqAt.shaped d = true) (h2 : PyData.canLayAll0 ds = true) : OpE X (compareOp .In) Γ μ (.dat d) r (.dat (.bool (inD d ds))) μ := .mk fun F0 H0 A0 T σ H x y st Q q pins s v u I rx ry => by
  obtain ⟨F, A, si⟩ := st
  obtain ⟨a, vs, rfl, hq, hd⟩ := hs.read si si.top
  obtain ⟨as, r1⟩ := Dp.reads I d x v (dp_mono si.fh _ _ si.pop.top) rx
  cases ry
  have fin : EP X pins σ Q (.bool (inD d ds)) s := ⟨.bl _, H, I, rfl, q _ H ⟨F, A, si.pop.pop.val (r := .dat (.bool _)) (.bl _)⟩⟩
  rcases seq_reads I si.fh hq hd with ⟨bs, r2⟩ | ⟨bs, r2⟩
  · exact SeqAt.in_list_reads r2 r1 h2 (SeqAt.canLay_of_shaped h1) (room_in_shaped h1 hu) fin
  · exact SeqAt.in_tuple_reads r2 r1 h2 (SeqAt.canLay_of_shaped h1) (room_in_shaped h1 hu) fin
theorem o_nin (hu : X.A.units + 65 < cLine) (hs : SqA μ r ds) (h1 : SeqAt.shaped d = true) (h2 : PyData.canLayAll0 ds = true) : OpE X (compareOp .NotIn) Γ μ (.dat d) r (.dat (.bool (!inD d ds))) μ := .mk fun F0 H0 A0 T σ H x y st Q q pins s v u I rx ry => by
  obtain ⟨F, A, si⟩ := st
  obtain ⟨a, vs, rfl, hq, hd⟩ := hs.read si si.top
  obtain ⟨as, r1⟩ := Dp.reads I d x v (dp_mono si.fh _ _ si.pop.top) rx
  cases ry
  have fin : EP X pins σ Q (.bool (!inD d ds)) s := ⟨.bl _, H, I, rfl, q _ H ⟨F, A, si.pop.pop.val (r := .dat (.bool _)) (.bl _)⟩⟩
  rcases seq_reads I si.fh hq hd with ⟨bs, r2⟩ | ⟨bs, r2⟩
  · exact SeqAt.notIn_list_reads r2 r1 h2 (SeqAt.canLay_of_shaped h1) (room_in_shaped h1 hu) fin
  · exact SeqAt.notIn_tuple_reads r2 r1 h2 (SeqAt.canLay_of_shaped h1) (room_in_shaped h1 hu) fin

/-! ### tuples and lists joined, repeated -/
theorem o_catT (hz : ds.length + es.length ≤ sizeLine) : OpE X (binaryOp .Add) Γ μ (.dat (.tuple ds)) (.dat (.tuple es)) (.dat (.tuple (ds ++ es))) μ := .mk fun F0 H0 A0 T σ H x y st Q q pins s v u I rx ry => by
  obtain ⟨F, A, si⟩ := st
  have h1 : Dp X.K F x (.tuple ds) := si.pop.top
  have h2 : Dp X.K F y (.tuple es) := si.top
  cases h1 with
  | tup a1 b1 =>
    cases h2 with
    | tup a2 b2 =>
      refine op_catA pins s σ H _ _ v u Q I rx ry ⟨_, _, _, _, rfl, rfl, si.fh.sqT a1, si.fh.sqT a2, by rw [dps_len b1, dps_len b2]; exact hz, fun e => ?_, fun _ e => ?_, fun _ _ p hp => ?_⟩
      · subst e
        cases b1
        exact q _ H ⟨F, A, si.pop.pop.val (r := .dat _) (.tup a2 b2)⟩
      · subst e
        cases b2
        refine q _ H ⟨F, A, si.pop.pop.val (r := .dat _) ?_⟩
        rw [List.append_nil]; exact .tup a1 b1
      · exact q _ _ ⟨_, _, (si.pop.pop.new_fix hp).val (r := .dat _) (Dp.tup (SqT.of upd_same) (dps_mono (Sub.upd (si.fh.none hp)) _ _ (dps_app b1 b2)))⟩
/-- where the left list or the right one may be frozen, or in the store -/
theorem Inv.listH {pins : List (Addr × Obj)} {σ : Sl} {H : Hp} {s : Shared} {a : Addr} {xs : List V} (I : Inv X pins σ H s) (h : SqL X.K H a xs) : ∃ its : List Value, Vals xs its ∧ PlainL s.heap a its.toArray ∧ xs.length ≤ sizeLine := I.list h
end
end DL
set_option maxHeartbeats 2000000
namespace DL
open PySem PySem.Spec PyProof.Rows L2
/-! a tuple times 1, times 0 -/
theorem mul_same_meets (l : Addr) (items : Array Value) (n : Nat) (sl : Array (Option Value)) (dd : Option Addr) (x : Int) (u : Tok) (c0 : (decide (x < -(2 ^ 63)) || decide (x ≥ 2 ^ 63)) = false) (c1 : (items.isEmpty || x == 1) = true) :
    Meets (Builtin.«tuple.__mul__» ⟨[.ref l, .int x u], []⟩) (fun _ R s => s.heap.get? l = some { cls := .type "tuple", dict := dd, data := .seq items n, slots := sl } ∧ R (.ok (.ret (Value.ref l))) s) :=
  .of_wp fun prog w A R s h => by
    obtain ⟨hp, g, d, tk, os⟩ := s
    obtain ⟨hl, h⟩ := h
    have f1 := AutoSeq1.idx_int
    wp_walk using wpAny_loadPart' hl
    repeat (first
      | (refine wpAny_ite_false (decide_eq_false (by rw [c0]; decide)) ?_; wp_walk using wpAny_loadPart' hl)
      | (refine wpAny_ite_true (decide_eq_true c1) ?_; wp_walk using wpAny_loadPart' hl))
    exact ⟨_, rfl, h⟩
theorem mul_nil_meets (l : Addr) (items : Array Value) (n : Nat) (sl : Array (Option Value)) (dd : Option Addr) (x : Int) (u : Tok) (c0 : (decide (x < -(2 ^ 63)) || decide (x ≥ 2 ^ 63)) = false) (c1 : (items.isEmpty || x == 1) = false) (c2 : (decide (x ≤ 0) || items.isEmpty) = true) :
    Meets (Builtin.«tuple.__mul__» ⟨[.ref l, .int x u], []⟩) (fun _ R s => s.heap.get? l = some { cls := .type "tuple", dict := dd, data := .seq items n, slots := sl } ∧
      R (.ok (.ret (Value.ref s.heap.objs.size))) { s with heap := s.heap.push { cls := Value.type "tuple", data := Data.seq #[] }, toks := s.toks }) :=
  .of_wp fun prog w A R s h => by
    obtain ⟨hp, g, d, tk, os⟩ := s
    obtain ⟨hl, h⟩ := h
    have f1 := AutoSeq1.idx_int
    wp_walk using wpAny_loadPart' hl
    repeat (first
      | (refine wpAny_ite_false (decide_eq_false (by rw [c0]; decide)) ?_; wp_walk using wpAny_loadPart' hl)
      | (refine wpAny_ite_false (decide_eq_false (by rw [c1]; decide)) ?_; wp_walk using wpAny_loadPart' hl)
      | (refine wpAny_ite_true (decide_eq_true c2) ?_; wp_walk using wpAny_loadPart' hl))
    exact ⟨_, rfl, h⟩
section
variable {X : Cx} {Γ : Gm} {μ : Sto} {ds : List PyData}
theorem small_k {k : Int} (h0 : 0 ≤ k) (h1 : k ≤ 1000) : (decide (k < -(2 ^ 63)) || decide (k ≥ 2 ^ 63)) = false := by
  rw [decide_eq_false (by omega), decide_eq_false (by omega)] <;> rfl
theorem o_mulT {k : Int} (h0 : 0 ≤ k) (h1 : k ≤ 1000) (hz : ds.length ≤ 1000) : OpE X (binaryOp .Mult) Γ μ (.dat (.tuple ds)) (.dat (.int k)) (.dat (.tuple (List.replicate k.toNat ds).flatten)) μ := .mk fun F0 H0 A0 T σ H x y st Q q pins s v u I rx ry => by
  obtain ⟨F, A, si⟩ := st
  have hx : Dp X.K F x (.tuple ds) := si.pop.top
  have hy : Dp X.K F y (.int k) := si.top
  cases hy
  cases hx with
  | @tup a xs _ a1 b1 =>
    have hl := dps_len b1
    by_cases hsame : ds = [] ∨ k = 1
    · cases rx
      obtain ⟨t, rfl⟩ := ry
      obtain ⟨its, r, ⟨⟨cls, dd, data, sl⟩, ho, hc, n, hd⟩, hs⟩ := I.tuple (si.fh.sqT a1)
      simp only at hc hd
      subst hc hd
      have il := r.length
      have e : (List.replicate k.toNat ds).flatten = ds := by
        rcases hsame with e | e
        · subst e; simp
        · subst e; simp
      have c1 : (its.toArray.isEmpty || k == 1) = true := by
        rcases hsame with e | e
        · subst e
          have : its = [] := List.length_eq_zero_iff.mp (by rw [← il, hl]; rfl)
          subst this; rfl
        · subst e; simp
      refine wpAny_binaryOp_repeat_ref (T := "tuple") (U := "int") (by decide) ⟨_, ho, rfl⟩ (fun s' => typeIs_int s' k t) noFill_tuple_mul PySem.F.fills_int_mul PySem.F.slot_int_rmul repeat_tuple PySem.F.slot_int_index.lookup
        (call_meets PySem.F.slot_int_rmul (typeIs_int s k t) PySem.F.entry_int_rmul (PySem.F.args_int_rmul_2 _ _) (int_rmul_tuple k t a its.toArray n dd sl)
          ⟨ho, rfl, ⟨_, ho, rfl⟩, call_meets PySem.F.slot_tuple_mul ⟨_, ho, rfl⟩ PySem.F.entry_tuple_mul (PySem.F.args_tuple_mul_2 _ _) (mul_same_meets a its.toArray n sl dd k t (small_k h0 h1) c1) ⟨ho, ?_⟩⟩)
      refine ⟨.ref a, H, I, rfl, q _ H ⟨F, A, si.pop.pop.val (r := .dat _) ?_⟩⟩
      rw [e]; exact .tup a1 b1
    · have hne : ds ≠ [] := fun e => hsame (.inl e)
      have hk1 : k ≠ 1 := fun e => hsame (.inr e)
      by_cases hk : 2 ≤ k
      · refine op_repT pins s σ H _ _ v u Q I rx ry ⟨_, k, xs, rfl, rfl, si.fh.sqT a1, fun e => hne (List.length_eq_zero_iff.mp (by rw [← hl, e]; rfl)), hk, h1, by omega, fun p hp => q _ _ ⟨_, _, (si.pop.pop.new_fix hp).val (r := .dat _) (Dp.tup (SqT.of upd_same) (dps_mono (Sub.upd (si.fh.none hp)) _ _ ?_))⟩⟩
        have rep : ∀ m : Nat, DpAll X.K F (List.replicate m xs).flatten (List.replicate m ds).flatten := fun m => by
          induction m with
          | zero => exact .nil
          | succ m ih => rw [List.replicate_succ, List.replicate_succ, List.flatten_cons, List.flatten_cons]; exact dps_app b1 ih
        exact rep _
      · have e0 : k = 0 := by omega
        subst e0
        cases rx
        obtain ⟨t, rfl⟩ := ry
        obtain ⟨its, r, ⟨⟨cls, dd, data, sl⟩, ho, hc, n, hd⟩, hs⟩ := I.tuple (si.fh.sqT a1)
        simp only at hc hd
        subst hc hd
        have il := r.length
        have hi : its.toArray.isEmpty = false := by
          cases its with
          | nil => exact absurd (List.length_eq_zero_iff.mp (by rw [← hl, il]; rfl)) hne
          | cons _ _ => rfl
        refine wpAny_binaryOp_repeat_ref (T := "tuple") (U := "int") (by decide) ⟨_, ho, rfl⟩ (fun s' => typeIs_int s' 0 t) noFill_tuple_mul PySem.F.fills_int_mul PySem.F.slot_int_rmul repeat_tuple PySem.F.slot_int_index.lookup
          (call_meets PySem.F.slot_int_rmul (typeIs_int s 0 t) PySem.F.entry_int_rmul (PySem.F.args_int_rmul_2 _ _) (int_rmul_tuple 0 t a its.toArray n dd sl)
            ⟨ho, rfl, ⟨_, ho, rfl⟩, call_meets PySem.F.slot_tuple_mul ⟨_, ho, rfl⟩ PySem.F.entry_tuple_mul (PySem.F.args_tuple_mul_2 _ _) (mul_nil_meets a its.toArray n sl dd 0 t (small_k (by decide) (by decide)) (by rw [hi]; rfl) (by rfl)) ⟨ho, ?_⟩⟩)
        have hf : H s.heap.objs.size = none := I.hok.fresh (Nat.le_refl _)
        refine ⟨.ref s.heap.objs.size, upd H s.heap.objs.size (.tup []), I.laid (t' := s.toks) (o := .tup []) (fun b ob q => Heap.get?_push_of_some _ q) (Nat.le_refl _) ⟨Nat.zero_le _, [], .nil, IsTup.new _ _⟩, rfl, q _ _ ⟨_, _, (si.pop.pop.new_fix hf).val (r := .dat _) (Dp.tup (SqT.of upd_same) .nil)⟩⟩
end
end DL
set_option maxHeartbeats 2000000
/-! Subscripts, slices, built-ins called, methods, truth. -/
namespace DL
open PySem PySem.Spec PyProof.Rows L2
section
variable {X : Cx} {Γ : Gm} {μ μ1 μ2 μ3 : Sto} {a b e : Expr} {es : List Expr} {r ra rb : AV} {ds cs : List PyData} {d : PyData} {pos apos p2 p : Pos} {x : Str} {rs : List AV}

/-! ### a[i] -/
theorem ev_ixA {r2 : R2} {c : AV} (hr : IxR X r2) (ha : EvE X Γ μ a ra μ1) (hb : EvE X Γ μ1 b rb μ2) (hs : PlainIx b)
    (h : ∀ F0 H0 A0 T σ H x y, Stt X F0 H0 A0 Γ μ2 ((rb, y) :: (ra, x) :: T) σ H → ∀ Q : VK, (∀ z H', Stt X F0 H0 A0 Γ μ3 ((c, z) :: T) σ H' → Q z H') → r2 x y H Q) : EvE X Γ μ (.Subscript a b pos) c μ3 := .mk fun F0 H0 A0 T σ H st Q q =>
  wE_of (pe_ix hr pe_w pe_w hs) (ha F0 H0 A0 T σ H st _ fun v H1 st1 => hb F0 H0 A0 _ σ H1 st1 _ fun u H2 st2 => h F0 H0 A0 T σ H2 v u st2 Q q)
theorem atI_dps {K : PySem.W.Frag} {F : Hp} {vs : List V} {i : Int} (h : DpAll K F vs ds) (e : atI ds i = some d) : ∃ v, atI vs i = some v ∧ Dp K F v d := by
  unfold atI at e ⊢
  rw [dps_len h]
  cases q : ixN ds.length i with
  | none => rw [q] at e; cases e
  | some j =>
    rw [q] at e
    obtain ⟨v, h1, h2⟩ := dps_get h (show ds[j]? = some d from e)
    exact ⟨v, h1, h2⟩
/-- an item of a list or a tuple -/
theorem ev_ix {i : Int} (ha : EvE X Γ μ a ra μ1) (hb : EvE X Γ μ1 b (.dat (.int i)) μ2) (hs : PlainIx b) (hq : SqA μ2 ra ds) (hi : atI ds i = some d) : EvE X Γ μ (.Subscript a b pos) (.dat d) μ2 :=
  ev_ixA ix_seq ha hb hs fun F0 H0 A0 T σ H x y st Q q => by
    obtain ⟨F, A, si⟩ := st
    obtain ⟨a, vs, rfl, hv, hd⟩ := hq.read si si.pop.top
    obtain rfl : y = .int i := dpi si.top
    obtain ⟨v, h1, h2⟩ := atI_dps hd hi
    have fin : Q v H := q v H ⟨F, A, si.pop.pop.val (r := .dat d) h2⟩
    rcases hv with hv | hv
    · exact .inl ⟨_, _, _, _, rfl, rfl, hv, h1, fin⟩
    · exact .inr (.inl ⟨_, _, _, _, rfl, rfl, hv, h1, fin⟩)
theorem ev_ixS {i : Int} {z : Str} {c : Nat} (ha : EvE X Γ μ a (.dat (.str z)) μ1) (hb : EvE X Γ μ1 b (.dat (.int i)) μ2) (hs : PlainIx b) (hz : z.length ≤ sizeLine) (hi : atI z.cps.toList i = some c) : EvE X Γ μ (.Subscript a b pos) (.dat (.str ⟨#[c]⟩)) μ2 :=
  ev_ixA ix_seq ha hb hs fun F0 H0 A0 T σ H x y st Q q => by
    obtain ⟨F, A, si⟩ := st
    obtain rfl : y = .int i := dpi si.top
    obtain rfl : x = .str z := DL.dps si.pop.top
    exact .inr (.inr ⟨_, _, _, rfl, rfl, hz, hi, q _ H ⟨F, A, si.pop.pop.val (r := .dat _) (.str _)⟩⟩)

/-! ### slices -/
def cutD (xs : List PyData) (lo hi : Option Int) : List PyData := (xs.drop (HT.sIx xs.length 0 lo)).take (HT.sIx xs.length xs.length hi - HT.sIx xs.length 0 lo)
theorem cutD_len (xs : List PyData) (lo hi : Option Int) : (cutD xs lo hi).length ≤ xs.length := by
  unfold cutD; rw [List.length_take, List.length_drop]; omega
theorem cut_dps {K : PySem.W.Frag} {F : Hp} {vs : List V} (h : DpAll K F vs ds) (lo hi : Option Int) : DpAll K F (cutV vs lo hi) (cutD ds lo hi) := by
  unfold cutV cutD
  rw [dps_len h]
  exact dps_take _ (dps_drop _ h)
theorem cutD_all {lo hi : Option Int} (h : HT.sIx ds.length 0 lo = 0 ∧ HT.sIx ds.length ds.length hi = ds.length) : cutD ds lo hi = ds := by
  unfold cutD; rw [h.1, h.2]; simp
/-- a part of a slice -/
structure EvO (X : Cx) (Γ : Gm) (μ : Sto) (e : Option Expr) (o : Option Int) (μ' : Sto) : Prop where
  run : ∀ F0 H0 A0 T σ H, Stt X F0 H0 A0 Γ μ T σ H → ∀ Q : Option Int → Hp → Prop, (∀ H', Stt X F0 H0 A0 Γ μ' T σ H' → Q o H') →
    ∀ (pins : List (Addr × Obj)) (s : Shared), Inv X pins σ H s → wpAny (model X.prog X.w) X.A (evalPart e X.env) (fun u s' => ∃ o H', Inv X pins σ H' s' ∧ IsPart u o ∧ Q o H') X.xe s
instance {X : Cx} {Γ : Gm} {μ : Sto} {e : Option Expr} {o : Option Int} {μ' : Sto} : CoeFun (EvO X Γ μ e o μ') fun _ => ∀ F0 H0 A0 T σ H, Stt X F0 H0 A0 Γ μ T σ H → ∀ Q : Option Int → Hp → Prop, (∀ H', Stt X F0 H0 A0 Γ μ' T σ H' → Q o H') →
    ∀ (pins : List (Addr × Obj)) (s : Shared), Inv X pins σ H s → wpAny (model X.prog X.w) X.A (evalPart e X.env) (fun u s' => ∃ o H', Inv X pins σ H' s' ∧ IsPart u o ∧ Q o H') X.xe s := ⟨EvO.run⟩
theorem eo_none : EvO X Γ μ none none μ := .mk fun F0 H0 A0 T σ H st Q q pins s I => po_none.run pins s σ H Q I (q H st)
theorem eo_some {i : Int} (h : EvE X Γ μ e (.dat (.int i)) μ1) : EvO X Γ μ (some e) (some i) μ1 := .mk fun F0 H0 A0 T σ H st Q q pins s I =>
  (po_some pe_w).run pins s σ H Q I (h F0 H0 A0 T σ H st _ fun v H1 st1 => by
    obtain ⟨F, A, si⟩ := st1
    exact ⟨i, dpi si.top, q H1 ⟨F, A, si.pop⟩⟩)
theorem po_w {X : Cx} {e : Option Expr} : PO X e (fun σ H Q => ∀ (pins : List (Addr × Obj)) (s : Shared), Inv X pins σ H s → wpAny (model X.prog X.w) X.A (evalPart e X.env) (fun u s' => ∃ o H', Inv X pins σ H' s' ∧ IsPart u o ∧ Q o H') X.xe s) :=
  ⟨fun pins s σ H Q I h => h pins s I⟩
variable {lo hi : Option Expr} {i j : Option Int}
theorem ev_slT (he : EvE X Γ μ e (.dat (.tuple ds)) μ1) (hl : EvO X Γ μ1 lo i μ2) (hu : EvO X Γ μ2 hi j μ3) : EvE X Γ μ (.Subscript e (.Slice lo hi none p2) pos) (.dat (.tuple (cutD ds i j))) μ3 := .mk fun F0 H0 A0 T σ H st Q q =>
  wE_of (pe_slice sl_tupA pe_w po_w po_w) (he F0 H0 A0 T σ H st _ fun v H1 st1 => hl F0 H0 A0 _ σ H1 st1 _ fun H2 st2 => hu F0 H0 A0 _ σ H2 st2 _ fun H3 st3 => by
    obtain ⟨F, A, si⟩ := st3
    have h1 : Dp X.K F v (.tuple ds) := si.top
    cases h1 with
    | @tup a xs _ a1 b1 =>
      have l := dps_len b1
      refine ⟨a, xs, rfl, si.fh.sqT a1, fun hall => q _ H3 ⟨F, A, si.pop.val (r := .dat _) ?_⟩, fun _ p hp => q _ _ ⟨_, _, (si.pop.new_fix hp).val (r := .dat _) (Dp.tup (SqT.of upd_same) (dps_mono (Sub.upd (si.fh.none hp)) _ _ (cut_dps b1 i j)))⟩⟩
      rw [cutD_all (by rw [← l]; exact hall)]
      exact .tup a1 b1)
theorem ev_slL (he : EvE X Γ μ e r μ1) (hl : EvO X Γ μ1 lo i μ2) (hu : EvO X Γ μ2 hi j μ3) (hq : LsA μ3 r ds) : EvE X Γ μ (.Subscript e (.Slice lo hi none p2) pos) (.loc μ3.length) (μ3 ++ [.lst (cutD ds i j)]) := .mk fun F0 H0 A0 T σ H st Q q =>
  wE_of (pe_slice sl_list pe_w po_w po_w) (he F0 H0 A0 T σ H st _ fun v H1 st1 => hl F0 H0 A0 _ σ H1 st1 _ fun H2 st2 => hu F0 H0 A0 _ σ H2 st2 _ fun H3 st3 => by
    obtain ⟨F, A, si⟩ := st3
    obtain ⟨a, vs, rfl, h1, h2⟩ := hq.read si si.top
    exact ⟨a, vs, rfl, h1, fun p hp => q _ _ ⟨_, _, si.pop.last hp ⟨_, upd_same, cut_dps h2 i j⟩⟩⟩)

/-! ### a list and a list -/
theorem SqL.obj {pins : List (Addr × Obj)} {σ : Sl} {H : Hp} {s : Shared} {a : Addr} {vs : List V} (I : Inv X pins σ H s) (h : SqL X.K H a vs) : ∃ (its : List Value) (o : Obj) (n : Nat), Vals vs its ∧ s.heap.get? a = some o ∧ o.cls = .type "list" ∧ o.dict = none ∧ o.data = .seq its.toArray n ∧ vs.length ≤ sizeLine := by
  obtain ⟨its, r, ⟨o, n, ho, hc, hd, hdt⟩, hz⟩ := I.list h
  exact ⟨its, o, n, r, ho, hc, hd, hdt, hz⟩

/-! ### calls of what is built in -/
theorem ev_callB {id : String} (ha : EvA X Γ μ (e :: es) rs μ1) (hc : ClE X (.builtin id) Γ μ1 rs r μ2) (hg : Gl X x) (hm : X.mg x = none) (hv : bootBuiltins x = some (.builtin id)) (hn : x ≠ "__name__" := by decide) (hdb : (x == ("__debug__" : Str)) = false := by decide)
    (he : starEach (e :: es) X.env = (false, eval e X.env) :: starEach es X.env := by rfl) (hpl : (backTo pos (starEach es X.env)).any (·.1) = false := by rfl) : EvE X Γ μ (.Call (.Name x p) (e :: es) [] pos) r μ2 := .mk fun F0 H0 A0 T σ H st Q q pins s I =>
  wpAny_Call_Name_kw (ld_blt I hg hm hv (PyProof.Rows.callWith_builtin1 (thn (ha F0 H0 A0 T σ H st (fun vs H1 => vs.length = rs.length ∧ Stt X F0 H0 A0 Γ μ1 (rs.zip vs ++ T) σ H1) (fun _ _ l st1 => ⟨l, st1⟩) pos pins s I) fun us s1 ⟨vs, H1, I1, r1, l, st1⟩ => hc F0 H0 A0 T σ H1 vs l st1 Q q pins s1 us I1 r1) he hpl) hn hdb)
theorem ev_callTy {id : String} (ha : EvA X Γ μ (e :: es) rs μ1) (hc : ClE X (.type id) Γ μ1 rs r μ2) (hg : Gl X x) (hm : X.mg x = none) (hv : bootBuiltins x = some (.type id)) (hn : x ≠ "__name__" := by decide) (hdb : (x == ("__debug__" : Str)) = false := by decide)
    (he : starEach (e :: es) X.env = (false, eval e X.env) :: starEach es X.env := by rfl) (hpl : (backTo pos (starEach es X.env)).any (·.1) = false := by rfl) : EvE X Γ μ (.Call (.Name x p) (e :: es) [] pos) r μ2 := .mk fun F0 H0 A0 T σ H st Q q pins s I =>
  wpAny_Call_Name_kw (ld_blt I hg hm hv (PyProof.Rows.callWith_type1 (thn (ha F0 H0 A0 T σ H st (fun vs H1 => vs.length = rs.length ∧ Stt X F0 H0 A0 Γ μ1 (rs.zip vs ++ T) σ H1) (fun _ _ l st1 => ⟨l, st1⟩) pos pins s I) fun us s1 ⟨vs, H1, I1, r1, l, st1⟩ => hc F0 H0 A0 T σ H1 vs l st1 Q q pins s1 us I1 r1) he hpl) hn hdb)
/-- a call by the layer's rule -/
theorem cl_of {f : Value} {r2 : List V → Hp → VK → Prop} (hc : CallR X f r2) (h : ∀ F0 H0 A0 T σ H vs, vs.length = rs.length → Stt X F0 H0 A0 Γ μ (rs.zip vs ++ T) σ H → ∀ Q : VK, (∀ z H', Stt X F0 H0 A0 Γ μ1 ((r, z) :: T) σ H' → Q z H') → r2 vs H Q) : ClE X f Γ μ rs r μ1 :=
  .mk fun F0 H0 A0 T σ H vs l st Q q pins s us I rv => hc pins s σ H vs us Q I rv (h F0 H0 A0 T σ H vs l st Q q)
theorem one_v {vs : List V} (l : vs.length = [r].length) : ∃ v, vs = [v] := by
  match vs, l with
  | [v], _ => exact ⟨v, rfl⟩
theorem two_v {r' : AV} {vs : List V} (l : vs.length = [r, r'].length) : ∃ v u, vs = [v, u] := by
  match vs, l with
  | [v, u], _ => exact ⟨v, u, rfl⟩
/-- of one value -/
theorem cl_one {f : Value} {r2 : List V → Hp → VK → Prop} {c : AV} (hc : CallR X f r2) (h : ∀ F0 H0 A0 T σ H F A v, Sin X.prog X.w X.K F0 H0 A0 Γ μ T σ H F A → RepA X.K F A r v → ∀ Q : VK, (∀ z H', Stt X F0 H0 A0 Γ μ1 ((c, z) :: T) σ H' → Q z H') → r2 [v] H Q) : ClE X f Γ μ [r] c μ1 :=
  cl_of hc fun F0 H0 A0 T σ H vs l st Q q => by
    obtain ⟨v, rfl⟩ := one_v l
    obtain ⟨F, A, si⟩ := st
    exact h F0 H0 A0 T σ H F A v (si.pop (q := (r, v))) (si.top (q := (r, v))) Q q
theorem c_len (hq : SqA μ r ds) : ClE X (.builtin "len") Γ μ [r] (.dat (.int ds.length)) μ := cl_one call_len_seq fun F0 H0 A0 T σ H F A v si rv Q q => by
  obtain ⟨a, vs, rfl, h1, h2⟩ := hq.read si rv
  exact ⟨a, vs, rfl, h1, by rw [dps_len h2]; exact q _ H ⟨F, A, si.val (r := .dat _) (.int _)⟩⟩
theorem c_lenS {z : Str} (hz : z.length ≤ sizeLine) : ClE X (.builtin "len") Γ μ [.dat (.str z)] (.dat (.int z.length)) μ := cl_one call_len_str fun F0 H0 A0 T σ H F A v si rv Q q => by
  obtain rfl : v = .str z := DL.dps rv
  exact ⟨z, rfl, hz, q _ H ⟨F, A, si.val (r := .dat _) (.int _)⟩⟩
/-- tuple(a list): a new one; tuple(a tuple): itself -/
theorem c_tuple (hq : SqA μ r ds) : ClE X (.type "tuple") Γ μ [r] (.dat (.tuple ds)) μ := cl_one call_tuple_of fun F0 H0 A0 T σ H F A v si rv Q q => by
  cases hq with
  | lst h =>
    obtain ⟨a, vs, rfl, h1, h2⟩ := h.read si rv
    exact ⟨a, vs, rfl, .inl ⟨h1, fun p hp => q _ _ ⟨_, _, (si.new_fix hp).val (r := .dat _) (Dp.tup (SqT.of upd_same) (dps_mono (Sub.upd (si.fh.none hp)) _ _ h2))⟩⟩⟩
  | tup _ =>
    have rv' := rv
    cases rv' with
    | tup h1 h2 => exact ⟨_, _, rfl, .inr ⟨si.fh.sqT h1, q _ H ⟨F, A, si.val rv⟩⟩⟩
theorem c_list (hq : SqA μ r ds) : ClE X (.type "list") Γ μ [r] (.loc μ.length) (μ ++ [.lst ds]) := cl_one call_list_of fun F0 H0 A0 T σ H F A v si rv Q q => by
  obtain ⟨a, vs, rfl, h1, h2⟩ := hq.read si rv
  exact ⟨a, vs, rfl, h1, fun p hp => q _ _ ⟨_, _, si.last hp ⟨_, upd_same, h2⟩⟩⟩
theorem bools_of {K : PySem.W.Frag} {F : Hp} : ∀ {bs : List Bool} {vs : List V}, DpAll K F vs (bs.map .bool) → vs = bs.map V.bl
  | [], _, h => by cases h; rfl
  | b :: bs, _, h => by
    cases h with
    | cons h1 h2 => cases h1; rw [bools_of h2]; rfl
theorem ints_of {K : PySem.W.Frag} {F : Hp} : ∀ {bs : List Int} {vs : List V}, DpAll K F vs (bs.map .int) → vs = bs.map V.int
  | [], _, h => by cases h; rfl
  | b :: bs, _, h => by
    cases h with
    | cons h1 h2 => cases h1; rw [ints_of h2]; rfl
theorem c_any {bs : List Bool} (hc : X.calm = true) (hq : LsA μ r (bs.map .bool)) : ClE X (.builtin "any") Γ μ [r] (.dat (.bool (bs.any id))) μ := cl_one (cr_any hc) fun F0 H0 A0 T σ H F A v si rv Q q => by
  obtain ⟨a, vs, rfl, h1, h2⟩ := hq.read si rv
  exact ⟨a, bs, rfl, by rw [← bools_of h2]; exact h1, q _ H ⟨F, A, si.val (r := .dat _) (.bl _)⟩⟩
theorem c_all {bs : List Bool} (hc : X.calm = true) (hq : LsA μ r (bs.map .bool)) : ClE X (.builtin "all") Γ μ [r] (.dat (.bool (bs.all id))) μ := cl_one (cr_all hc) fun F0 H0 A0 T σ H F A v si rv Q q => by
  obtain ⟨a, vs, rfl, h1, h2⟩ := hq.read si rv
  exact ⟨a, bs, rfl, by rw [← bools_of h2]; exact h1, q _ H ⟨F, A, si.val (r := .dat _) (.bl _)⟩⟩
theorem c_sum {ns : List Int} (hc : X.calm = true) (hq : LsA μ r (ns.map .int)) : ClE X (.builtin "sum") Γ μ [r] (.dat (.int ns.sum)) μ := cl_one (cr_sum hc) fun F0 H0 A0 T σ H F A v si rv Q q => by
  obtain ⟨a, vs, rfl, h1, h2⟩ := hq.read si rv
  exact ⟨a, ns, rfl, by rw [← ints_of h2]; exact h1, q _ H ⟨F, A, si.val (r := .dat _) (.int _)⟩⟩
def maxL : List Int → Int
  | [] => 0
  | x :: xs => xs.foldl max x
theorem foldl_max_ge : ∀ (xs : List Int) (x : Int), x ≤ xs.foldl max x ∧ ∀ y ∈ xs, y ≤ xs.foldl max x
  | [], x => ⟨Int.le_refl _, fun _ h => by simp at h⟩
  | z :: xs, x => by
    obtain ⟨h1, h2⟩ := foldl_max_ge xs (max x z)
    refine ⟨Int.le_trans (Int.le_max_left _ _) h1, fun y hy => ?_⟩
    rcases List.mem_cons.mp hy with rfl | hy
    · exact Int.le_trans (Int.le_max_right _ _) h1
    · exact h2 y hy
theorem foldl_max_mem : ∀ (xs : List Int) (x : Int), xs.foldl max x = x ∨ xs.foldl max x ∈ xs
  | [], x => .inl rfl
  | z :: xs, x => by
    rcases foldl_max_mem xs (max x z) with h | h
    · show xs.foldl max (max x z) = x ∨ xs.foldl max (max x z) ∈ z :: xs
      rw [h]
      by_cases q : x ≤ z
      · right; rw [Int.max_eq_right q]; exact List.mem_cons_self
      · left; rw [Int.max_eq_left (by omega)]
    · exact .inr (List.mem_cons_of_mem _ h)
theorem maxL_is {ns : List Int} {m : Int} (hm : m ∈ ns) (h : ∀ y ∈ ns, y ≤ m) : m = maxL ns := by
  cases ns with
  | nil => simp at hm
  | cons x xs =>
    obtain ⟨h1, h2⟩ := foldl_max_ge xs x
    have a : m ≤ maxL (x :: xs) := by
      rcases List.mem_cons.mp hm with rfl | hm
      · exact h1
      · exact h2 m hm
    have b : maxL (x :: xs) ≤ m := by
      rcases foldl_max_mem xs x with e | e
      · show xs.foldl max x ≤ m
        rw [e]; exact h x List.mem_cons_self
      · exact h _ (List.mem_cons_of_mem _ e)
    omega
theorem c_max {ns : List Int} (hc : X.calm = true) (hq : LsA μ r (ns.map .int)) (hn : 0 < ns.length) : ClE X (.builtin "max") Γ μ [r] (.dat (.int (maxL ns))) μ := cl_one (cr_max hc) fun F0 H0 A0 T σ H F A v si rv Q q => by
  obtain ⟨a, vs, rfl, h1, h2⟩ := hq.read si rv
  exact ⟨a, ns, rfl, by rw [← ints_of h2]; exact h1, hn, fun m hm hle => by rw [maxL_is hm hle]; exact q _ H ⟨F, A, si.val (r := .dat _) (.int _)⟩⟩
theorem c_int {i : Int} : ClE X (.type "int") Γ μ [.dat (.int i)] (.dat (.int i)) μ := cl_one call_int1 fun F0 H0 A0 T σ H F A v si rv Q q => by
  obtain rfl : v = .int i := dpi rv
  exact .inl ⟨i, rfl, q _ H ⟨F, A, si.val (r := .dat _) (.int _)⟩⟩
theorem c_intB {k : Bool} : ClE X (.type "int") Γ μ [.dat (.bool k)] (.dat (.int (if k then 1 else 0))) μ := cl_one call_int1 fun F0 H0 A0 T σ H F A v si rv Q q => by
  obtain rfl : v = .bl k := dpb rv
  exact .inr ⟨k, rfl, q _ H ⟨F, A, si.val (r := .dat _) (.int _)⟩⟩
theorem c_strI {i : Int} (hi : i.natAbs.log2 < 1920) : ClE X (.type "str") Γ μ [.dat (.int i)] (.dat (.str (toString i))) μ := cl_one call_str_int fun F0 H0 A0 T σ H F A v si rv Q q => by
  obtain rfl : v = .int i := dpi rv
  exact ⟨i, rfl, hi, q _ H ⟨F, A, si.val (r := .dat _) (.str _)⟩⟩
/-- what kind of thing a value is -/
def tyN : PyData → String
  | .none => "NoneType"
  | .bool _ => "bool"
  | .int _ => "int"
  | .str _ => "str"
  | .list _ => "list"
  | .tuple _ => "tuple"
  | .dict _ => "dict"
theorem ty_of {K : PySem.W.Frag} {F H : Hp} {v : V} (s : Sub F H) (h : Dp K F v d) : TyX K H v (.type (tyN d)) := by
  cases h with
  | non => exact .base .non
  | bl _ => exact .base (.bl _)
  | int _ => exact .base (.int _)
  | str _ => exact .base (.str _)
  | lst h _ =>
    rcases s.sqL h with (h | ⟨o, h⟩) | ⟨o, its, n, h, hc, _⟩
    · exact .base (.lst h)
    · exact .base (.frz h)
    · exact .kList h hc
  | tup h _ =>
    rcases s.sqT h with (h | ⟨o, h⟩) | ⟨o, its, n, h, hc, _⟩
    · exact .base (.tup h)
    · exact .fTuple h
    · exact .kTuple h hc
theorem ev_isi {c : Str} {t : String} {k : Bool} (ha : EvE X Γ μ e (.dat d) μ1) (hg : Gl X "isinstance") (hm : X.mg "isinstance" = none) (hgc : Gl X c) (hmc : X.mg c = none) (hv : bootBuiltins c = some (.type t)) (hk : kitB (tyN d) t = some k) (hn : c ≠ "__name__" := by decide) (hdb : (c == ("__debug__" : Str)) = false := by decide)
    (he : starEach [e, .Name c p2] X.env = (false, eval e X.env) :: starEach [.Name c p2] X.env := by rfl) (hpl : (backTo pos (starEach [Expr.Name c p2] X.env)).any (·.1) = false := by rfl) : EvE X Γ μ (.Call (.Name "isinstance" p) [e, .Name c p2] [] pos) (.dat (.bool k)) μ1 := .mk fun F0 H0 A0 T σ H st Q q =>
  wE_of (pe_callB call_isi hg hm (by decide +kernel) (pa_cons pe_w (pa_cons (pe_bltn (v := .ty t) hgc hmc hv rfl hn hdb) pa_nil (by rfl)) he) (by decide) (by decide) he hpl) (ha F0 H0 A0 T σ H st _ fun v H1 st1 => by
    obtain ⟨F, A, si⟩ := st1
    exact ⟨v, .ty t, _, _, k, rfl, .ty t, ty_of si.fh si.top, kit_ty hk, q _ H1 ⟨F, A, si.pop.val (r := .dat _) (.bl _)⟩⟩)

/-! ### sorted -/
def sortD (ds : List PyData) : List PyData := ds.mergeSort (PySem.W.dataLe false id)
theorem each_of {pins : List (Addr × Obj)} {σ : Sl} {H F : Hp} {s : Shared} (I : Inv X pins σ H s) (hs : Sub F H) : ∀ {ds : List PyData} {vs : List V} {us : List Value}, DpAll X.K F vs ds → Vals vs us →
    PySem.W.EachIs (fun u d => ∃ v, RelV v u ∧ Dp X.K F v d) us ds ∧ PySem.W.EachIs (fun u d => ∃ as, Reads s.heap u d as) us ds
  | [], _, _, h, r => by cases h; cases r; exact ⟨.nil, .nil⟩
  | d :: ds, _, _, h, r => by
    cases h with
    | cons h1 h2 =>
      cases r with
      | cons r1 r2 =>
        obtain ⟨q1, q2⟩ := each_of I hs h2 r2
        exact ⟨.cons ⟨_, r1, h1⟩ q1, .cons (Dp.reads I d _ _ (dp_mono hs _ _ h1) r1) q2⟩
theorem of_each {K : PySem.W.Frag} {F : Hp} : ∀ {ds : List PyData} {us : List Value}, PySem.W.EachIs (fun u d => ∃ v, RelV v u ∧ Dp K F v d) us ds → ∃ vs, DpAll K F vs ds ∧ Vals vs us
  | [], _, h => by cases h; exact ⟨[], .nil, .nil⟩
  | d :: ds, _, h => by
    cases h with
    | cons h1 h2 =>
      obtain ⟨v, r, hd⟩ := h1
      obtain ⟨vs, q1, q2⟩ := of_each h2
      exact ⟨v :: vs, .cons hd q1, .cons r q2⟩
theorem c_sorted (hq : LsA μ r ds) (hal : PySem.W.AllAlike ds) (hk : PySem.W.Sortable ds) (hu : ∀ d ∈ ds, X.A.units + 2 + d.depth < cLine) : ClE X (.builtin "sorted") Γ μ [r] (.loc μ.length) (μ ++ [.lst (sortD ds)]) :=
  .mk fun F0 H0 A0 T σ H vs l st Q q pins s us I rv => by
    obtain ⟨v, rfl⟩ := one_v l
    obtain ⟨F, A, si⟩ := st
    obtain ⟨a, xs, rfl, h1, h2⟩ := hq.read (si.pop (q := (r, v))) (si.top (q := (r, v)))
    obtain ⟨its, rl, hl, hz⟩ := I.list h1
    obtain ⟨e1, e2⟩ := each_of I si.fh h2 rl
    rw [Vals.ref1 rv]
    have hL : ds.length ≤ sizeLine := by rw [← dps_len h2]; exact hz
    refine PySem.W.sorted_data (enc := id) (bs := ds) (R := fun u d => ∃ v, RelV v u ∧ Dp X.K F v d) hl.isList e1 e2 (by simpa using hal) (by simpa using hk) hL hu fun out ho eo => ?_
    obtain ⟨ys, y1, y2⟩ := of_each eo
    obtain ⟨ep, he'⟩ := PyProof.Rows.sortedAll_at s.heap its out.toArray
    have hf : H (s.heap.objs.size + 1) = none := I.hok.fresh (Nat.le_succ _)
    have yl : ys.length ≤ sizeLine := by
      rw [dps_len y1, List.length_mergeSort]; exact hL
    exact ⟨.ref _, upd H (s.heap.objs.size + 1) (.lst ys), I.laid (t' := s.toks) (fun _ _ => PyProof.Rows.sortedAll_old) (Nat.le_succ _) ⟨yl, out, ep, y2, he'⟩, rfl, q _ _ ⟨_, _, (si.pop (q := (r, .ref a))).last hf ⟨ys, upd_same, y1⟩⟩⟩

/-! ### xs.append(e) -/
theorem ex_app {y : Expr} {O : Out} {k : Nat} {cpos spos : Pos} (ho : EvE X Γ μ e (.loc k) μ1) (hy : EvE X Γ μ1 y (.dat d) μ2) (hm : μ2[k]? = some (.lst ds)) (hz : ds.length < sizeLine) (kk : O.nx Γ (μ2.set k (.lst (ds ++ [d])))) (hm1 : ∃ es, μ1[k]? = some (.lst es))
    (hbase : attributeBase e "append" X.env (eval e X.env) = eval e X.env := by rfl) (hline : (apos.endLine == cpos.line) = true := by rfl) (hse : starEach [y] X.env = (false, eval y X.env) :: starEach [] X.env := by rfl)
    (hfew : ((backTo cpos (starEach [y] X.env)).all (fun x => !x.1) && (backToKw cpos (keywordEach [] X.env)).all (fun x => x.1.isSome)
      && decide ([y].length + ([] : List Keyword).length + (if ([] : List Keyword).isEmpty then 0 else 1) < 30)) = true := by rfl) :
    Ex1 X Γ μ (.Expr (.Call (.Attribute e "append" apos) [y] [] cpos) spos) O := .mk fun F0 H0 A0 T σ H st =>
  wS_of (ps_expr (pe_bm PySem.F.plainAttrs_list PySem.F.slot_list_append PySem.F.type_list_append mt_append pe_w (pa_cons pe_w pa_nil hse) hbase hfew hline hse (by rfl)) (by rfl)) (ho F0 H0 A0 T σ H st _ fun v H1 st1 => by
    have st1' := st1
    obtain ⟨F, A, si⟩ := st1
    obtain ⟨es, h1⟩ := hm1
    obtain ⟨a, ea, rfl⟩ := si.top
    obtain ⟨a', vs, ea', hv, hd⟩ := si.lstAt h1
    obtain rfl : a' = a := by rw [ea] at ea'; exact (Option.some.inj ea').symm
    refine ⟨.inl ⟨rfl, vs, SqL.of hv⟩, hy F0 H0 A0 _ σ H1 st1' _ fun u H2 st2 => ?_⟩
    obtain ⟨F2, A2, s2⟩ := st2
    obtain ⟨a2, ea2, e2⟩ := s2.pop.top
    cases e2
    obtain ⟨a3, ws, ea3, hw, hd3⟩ := s2.lstAt hm
    obtain rfl : a3 = a' := by
      have : A2[k]? = some a' := ea2
      rw [this] at ea3; exact (Option.some.inj ea3).symm
    refine ⟨a3, ws, u, rfl, rfl, hw, by rw [dps_len hd3]; exact hz, ⟨_, _, kk, _, _, s2.pop.pop.put ea2 ⟨_, upd_same, dps_app hd3 (.cons s2.top .nil)⟩⟩⟩)

/-! ### truth -/
def truD : PyData → Bool
  | .none => false
  | .bool b => b
  | .int i => i != 0
  | .str x => (x.length : Int) != 0
  | .list xs => !xs.isEmpty
  | .tuple xs => !xs.isEmpty
  | .dict _ => false
def short : PyData → Prop
  | .str x => x.length ≤ sizeLine
  | _ => True
theorem emp_of {K : PySem.W.Frag} {F : Hp} {vs : List V} (h : DpAll K F vs ds) : vs.isEmpty = ds.isEmpty := by
  cases h <;> rfl
theorem et_tru (h : EvE X Γ μ e (.dat d) μ1) (hs : short d := by first | trivial | decide) (he : ∀ whole, isTrue e X.env whole = (do let v ← whole; standAt e.pos; holding [v] (truthy v)) := by intro _; rfl) : EvT X Γ μ e (truD d) μ1 := .mk fun F0 H0 A0 T σ H st Q q =>
  wT_of (pt_truth pe_w he) (h F0 H0 A0 T σ H st _ fun v H1 st1 => by
    obtain ⟨F, A, si⟩ := st1
    refine ⟨truD d, ?_, q H1 ⟨F, A, si.pop⟩⟩
    have t : Dp X.K F v d := si.top
    cases t with
    | non => rfl
    | bl _ => rfl
    | int _ => rfl
    | str _ => exact ⟨hs, rfl⟩
    | lst h1 h2 => exact .inl ⟨_, si.fh.sqL h1, by rw [emp_of h2]; rfl⟩
    | tup h1 h2 => exact .inr (.inl ⟨_, si.fh.sqT h1, by rw [emp_of h2]; rfl⟩))
theorem et_truL (h : EvE X Γ μ e r μ1) (hq : LsA μ1 r ds) (he : ∀ whole, isTrue e X.env whole = (do let v ← whole; standAt e.pos; holding [v] (truthy v)) := by intro _; rfl) : EvT X Γ μ e (!ds.isEmpty) μ1 := .mk fun F0 H0 A0 T σ H st Q q =>
  wT_of (pt_truth pe_w he) (h F0 H0 A0 T σ H st _ fun v H1 st1 => by
    obtain ⟨F, A, si⟩ := st1
    obtain ⟨a, vs, rfl, h1, h2⟩ := hq.read si si.top
    exact ⟨_, .inl ⟨_, h1, by rw [emp_of h2]⟩, q H1 ⟨F, A, si.pop⟩⟩)
end
end DL
set_option maxHeartbeats 2000000
/-! enumerate(a tuple). -/
namespace DL
open PySem PySem.Spec PyProof.Rows L2
open AutoSeq1 (wpAny_loadPart')

theorem enum_new_meets {v : Value} {o : Obj} {H : Heap → Prop} (B : Begins v o H) :
    Meets (Builtin.«enumerate.__new__» ⟨[.type "enumerate", v], []⟩) (fun _ R s => H s.heap ∧
      R (.ok (.ret (.ref (s.heap.push o).objs.size))) { s with heap := (s.heap.push o).push { cls := .type "enumerate", data := .fields #[.none, .bool false, .ref s.heap.objs.size, rawInt 0, .none, .none] } }) :=
  .of_wp fun prog w A R s h => by
    obtain ⟨hq, gq, dq, tq, oq⟩ := s
    obtain ⟨b1, b2⟩ := h
    have subq := sub_enumerate
    have itq : ∀ {A' : Around} {E : Value → Shared → Prop} {Q : Value → Shared → Prop}, Q (.ref hq.objs.size) ⟨hq.push o, gq, dq, tq, oq⟩ → wpAny (model prog w) A' (pyIter v) Q E ⟨hq, gq, dq, tq, oq⟩ := fun z => B.iter prog w _ _ _ _ b1 z
    wp_walk using itq
    refine wpAny_stack_any fun stq => wpAny_pure ?_
    split
    · rename_i cq _ _ _ _ _
      cases (cq == Value.type "enumerate") <;> (wp_walk using itq; exact ⟨_, rfl, b2⟩)
    · wp_walk using itq
      exact ⟨_, rfl, b2⟩
theorem enum_call {prog : Program} {w : World} {A : Around} {E : Value → Shared → Prop} {s : Shared} {v : Value} {o : Obj} {H : Heap → Prop} {Q : Value → Shared → Prop} (B : Begins v o H) (b1 : H s.heap)
    (h : ∀ h', IsEnum h' (s.heap.objs.size + 1) s.heap.objs.size 0 .none → h'.get? s.heap.objs.size = some o → (∀ b u, s.heap.get? b = some u → h'.get? b = some u) → Q (.ref (s.heap.objs.size + 1)) { s with heap := h' }) :
    wpAny (model prog w) A (call (.type "enumerate") [v]) Q E s := by
  refine callType_new F.called_enumerate (by decide) (F.typeCall_enumerate_1 _) (F.newCall_enumerate_1 _) (fun ob => F.args_object_init_2 ob _) F.entry_enumerate_new (enum_new_meets B) ⟨b1, ?_⟩
  have sz : (s.heap.push o).objs.size = s.heap.objs.size + 1 := Heap.size_push ..
  show _ ∧ _
  rw [sz]
  have isE : IsEnum ((s.heap.push o).push { cls := .type "enumerate", data := .fields #[.none, .bool false, .ref s.heap.objs.size, rawInt 0, .none, .none] }) (s.heap.objs.size + 1) s.heap.objs.size 0 .none := by
    have q := Heap.get?_push_size (s.heap.push o) (o := { cls := .type "enumerate", data := .fields #[.none, .bool false, .ref s.heap.objs.size, rawInt 0, .none, .none] }) rfl
    rw [sz] at q; exact q
  exact ⟨⟨_, isE, rfl⟩, h _ isE (Heap.get?_push_of_some _ (Heap.get?_push_size _ B.free)) fun b u z => Heap.get?_push_of_some _ (Heap.get?_push_of_some _ z)⟩

/-- the tuple at a, each item in a new pair -/
def Iet (K : PySem.W.Frag) (a : Addr) : It :=
  ⟨fun i H => ∃ (xs : List V) (x : V), SqT K H a xs ∧ xs[i]? = some x, fun i H v H' => ∃ T x, v = .ref T ∧ H T = none ∧ H' = upd H T (.tup [.int (i : Nat), x]) ∧ ∀ xs, SqT K H a xs → xs[i]? = some x, fun i H => ∃ xs : List V, SqT K H a xs ∧ xs.length ≤ i⟩
theorem turn_enumT {P : Program} {w : World} {K : PySem.W.Frag} {elts : List Expr} {kk : Nat} {tpos : Pos} (a e it : Addr) (hae : a ≠ e) (hai : a ≠ it) :
    Turn P w K (.Tuple elts kk tpos) (Iet K a) [e, it] e (fun i h => (∃ old, IsEnum h e it ((i : Nat) : Int) old) ∧ h.IsTupleIter it a i ∧ e ≠ it) where
  mem := by simp
  obj := fun i h st b hb => by
    obtain ⟨⟨old, e1⟩, ⟨o, o1, _, o2⟩, _⟩ := st
    simp only [List.mem_cons, List.not_mem_nil, or_false] at hb
    rcases hb with z | z
    · rw [z]; exact ⟨_, e1, fun v q => nomatch q⟩
    · rw [z]; exact ⟨o, o1, fun v q => by rw [o2] at q; cases q⟩
  keep := fun i h h' st k => let ⟨⟨old, e1⟩, ti, ne⟩ := st; ⟨⟨old, k e (by simp) _ e1⟩, ti.at fun o q => k it (by simp) o q, ne⟩
  item := by
    intro X hP hw hK hc i pins s σ H E I hf st hg
    subst hP hw hK
    obtain ⟨⟨old, e1⟩, ti, ne⟩ := st
    obtain ⟨xs, x, hq, hx⟩ := hg
    obtain ⟨its, rv, tp, tz⟩ := I.tuple hq
    obtain ⟨u, hu, ru⟩ := rv.get hx
    have le : e < s.heap.objs.size := Heap.lt_size e1
    have li : it < s.heap.objs.size := by obtain ⟨_, q, _⟩ := ti; exact Heap.lt_size q
    have dr := Draws.tuple (prog := X.prog) (w := X.w) (A := X.A.in1) (I.ok.hd hc) it a hai its.toArray
    have hsz : i < its.toArray.size := by
      have := (List.getElem?_eq_some_iff.mp hu).1; simpa using this
    refine wpAny_pyNext_enum_itemD dr e1 ⟨ti, tp⟩ hsz ne (by simp [ne, Ne.symm hae]) fun y h1 tk py oe st1 hT hs1 hk => ?_
    have ey : y = u := by
      have q : its.toArray[i]? = some y := py
      simp only [List.getElem?_toArray] at q
      rw [hu] at q; exact (Option.some.inj q).symm
    subst ey
    refine ⟨_, rfl, wpAny_letOwnedTupleGo_enum (s := { s with heap := h1, toks := tk + 1 }) oe fun h2 e2 sb => ?_⟩
    have hT2 : h2.get? s.heap.objs.size = some { cls := .type "tuple", data := .seq #[.int i tk, y] } := (sb.2 _ (Nat.ne_of_gt le)).trans hT
    have ob : ObjOk X.prog X.w (upd H s.heap.objs.size (.tup [.int (i : Nat), x])) h2 s.heap.objs.size (.tup [.int (i : Nat), x]) :=
      ⟨by show 2 ≤ sizeLine; decide, [.int i tk, y], .cons ⟨_, rfl⟩ (.cons ru .nil), ⟨_, hT2, rfl, _, rfl⟩⟩
    have J : Inv X pins σ (upd H s.heap.objs.size (.tup [.int (i : Nat), x])) { s with heap := h2, toks := tk + 1 } :=
      I.turnedNew (ch := [e, it]) (fun b ob hb q => (sb.2 b (fun z => hb (by simp [z]))).trans (hk b ob (fun z => hb (by simp [z])) (fun z => hb (by simp [z])) q)) hf (Nat.le_refl _) ob
    refine ⟨.ref s.heap.objs.size, _, J, rfl, ⟨_, x, rfl, I.hok.fresh (Nat.le_refl _), rfl, fun ys hy => by rw [I.tuple_inj hy hq]; exact hx⟩, ⟨⟨y, ?_⟩, st1.1.at fun o q => (sb.2 it (Ne.symm ne)).trans q, ne⟩, fun b hb => ?_⟩
    · have e3 : ((i + 1 : Nat) : Int) = (i : Int) + 1 := by omega
      rw [e3]; exact e2
    · have lb : b < s.heap.objs.size := by
        have hb2 := hb
        simp only [List.mem_cons, List.not_mem_nil, or_false] at hb2
        rcases hb2 with z | z
        · rw [z]; exact le
        · rw [z]; exact li
      rw [upd_ne (Nat.ne_of_lt lb)]
      exact (hf b hb).1
  done := by
    intro X hP hw hK hc i pins s σ H E I hf st hg
    subst hP hw hK
    obtain ⟨⟨old, e1⟩, ti, ne⟩ := st
    obtain ⟨xs, hq, hx⟩ := hg
    obtain ⟨its, rv, tp, tz⟩ := I.tuple hq
    obtain ⟨f0, f1, f2, f3, f4, f5⟩ := hf it (by simp)
    have hl := rv.length
    have tyE : s.TypeIs (.ref e) "enumerate" := ⟨_, e1, rfl⟩
    unfold pyNext
    refine wpAny_bind (wpAny_attempt (wpAny_callSpecial?_slot (name := Str.ofString "__next__") tyE F.slot_enumerate_next (wpAny_call_entry F.slot_enumerate_next tyE F.entry_enumerate_next ?_ (F.args_enumerate_next_1 _))))
    show wpAny _ _ (field (.ref e) 2 >>= _) _ _ _
    refine wpAny_bind (wpAny_field e1 rfl (x := .ref it) rfl (wpAny_bind (wpAny_nextOf_tuple_end (I.ok.hd hc) ti tp (by simp; omega) fun h2 xq eb ⟨oq, o1, o2⟩ => ?_)))
    exact wpAny_bind (wpAny_isInstance (T := "StopIteration") (b := true) ⟨oq, o1, o2⟩ isSubtype_stop (wpAny_pure ⟨rfl, I.turned (t' := s.toks) (fun b o hb q => eb b o hb q) f0 f1 f3 f4 f5⟩))
  self := fun A i s Q E st h => let ⟨⟨_, e1⟩, _⟩ := st; wpAny_pyIter_enum e1 h
def iEnumT (K : PySem.W.Frag) (ta : TA) : TI := fun σ H R => ta σ H fun vs H1 => ∃ a xs, vs = [.ref a] ∧ SqT K H1 a xs ∧ R (Iet K a) H1
theorem pi_enumT {X : Cx} {e : Expr} {ta : TA} {p pos tpos : Pos} {elts : List Expr} {kk : Nat} (hg : Gl X "enumerate") (hm : X.mg "enumerate" = none) (ha : PA X [e] ta) (hs : starEach [e] X.env = [(false, eval e X.env)] := by rfl) :
    PI X (.Tuple elts kk tpos) (.Call (.Name "enumerate" p) [e] [] pos) (iEnumT X.K ta) := by
  refine ⟨fun pins s σ H R I h => Call_ (ld_blt I hg hm boot_enumerate (PyProof.Rows.callWith_type1 (thn (ha.run pos pins s σ H _ I h) fun us s1 ⟨vs, H1, I1, r1, q1⟩ => ?_) hs rfl))⟩
  obtain ⟨a, xs, rfl, hq, q⟩ := q1
  rw [Vals.ref1 r1]
  obtain ⟨its, rv, tp, tz⟩ := I1.tuple hq
  have la : a < s1.heap.objs.size := by obtain ⟨o, ho, _⟩ := tp; exact Heap.lt_size ho
  refine enum_call (begins_tuple a its.toArray) tp fun h1 e1 e2 hk => wpAny_pyIter_enum e1 ?_
  have J : Inv X pins σ H1 { s1 with heap := h1 } := I1.kept (t' := s1.toks) hk
  refine ⟨s1.heap.objs.size + 1, [s1.heap.objs.size + 1, s1.heap.objs.size], _, _, H1, rfl, J, turn_enumT a (s1.heap.objs.size + 1) s1.heap.objs.size (Nat.ne_of_lt (Nat.lt_succ_of_lt la)) (Nat.ne_of_lt la), ⟨⟨.none, e1⟩, ⟨_, e2, rfl, rfl⟩, Nat.succ_ne_self _⟩, fun b hb => ?_, q⟩
  have hle : s1.heap.objs.size ≤ b := by
    simp only [List.mem_cons, List.not_mem_nil, or_false] at hb
    rcases hb with z | z
    · rw [z]; exact Nat.le_add_right _ _
    · rw [z]; exact Nat.le_refl _
  exact I1.fpOk hle (I1.hok.fresh hle)
end DL
set_option maxHeartbeats 2000000
/-! Targets, what is walked, loops, comprehensions. -/
namespace DL
open PySem PySem.Spec PyProof.Rows L2
section
variable {X : Cx} {Γ Γ' Γ1 : Gm} {μ μ1 μ2 μ3 : Sto} {a b e tg iter : Expr} {es ts : List Expr} {r ra rb : AV} {ds cs : List PyData} {d : PyData} {pos apos p2 p tpos : Pos} {x : Str} {rs : List AV} {k kk : Nat} {O : Out}

/-! ### targets -/
theorem gt_name {i : Nat} (hN : X.N.Nodup) (hi : X.N[i]? = some x) (hx : Loc X.env.scope x) (hf : X.fn x = true ∨ X.env.scope.names.lookup x = some .local) : GtE X (.Name x pos) Γ μ r (Γ.set i (some r)) [i] := .mk fun F0 H0 A0 T σ H v st Q q =>
  wG_of (pg_name hN hi hx hf) (q _ H (fun j hj => by rw [List.getElem?_set_ne (fun e => hj (by rw [e]; exact List.mem_singleton_self _))]) (by simp) (by
    obtain ⟨F, A, s⟩ := st
    exact ⟨F, A, s.pop.slot s.top⟩))
theorem gts_nil : GtsE X [] Γ μ [] Γ [] := .mk fun F0 H0 A0 T σ H vs l st Q q => wGs_of pgs_nil ⟨by simpa using l, q σ H (fun _ _ => rfl) rfl (by
  have e : vs = [] := by simpa using l
  subst e; exact st)⟩
theorem gts_cons {W1 W2 : List Nat} (h : GtE X e Γ μ r Γ1 W1) (hr : GtsE X es Γ1 μ rs Γ' W2) (hs : (assignEach (e :: es) X.env).map (·.2) = assign e X.env :: (assignEach es X.env).map (·.2) := by rfl) : GtsE X (e :: es) Γ μ (r :: rs) Γ' (W1 ++ W2) := .mk fun F0 H0 A0 T σ H vs l st Q q => by
  match vs, l with
  | v :: vr, l =>
    refine wGs_of (pgs_cons pg_w pgs_w hs) ⟨v, vr, rfl, h F0 H0 A0 (rs.zip vr ++ T) σ H v st _ fun σ1 H1 k1 l1 st1 => hr F0 H0 A0 T σ1 H1 vr (by simpa using l) st1 Q fun σ2 H2 k2 l2 st2 => q σ2 H2 (fun j hj => (k2 j fun z => hj (List.mem_append_right _ z)).trans (k1 j fun z => hj (List.mem_append_left _ z))) (l2.trans l1) st2⟩
theorem zip_mem {K : PySem.W.Frag} {F : Hp} {A : List Addr} : ∀ {ds : List PyData} {vs : List V}, DpAll K F vs ds → ∀ p ∈ (ds.map AV.dat).zip vs, RepA K F A p.1 p.2
  | [], _, _, p, hp => by simp at hp
  | d :: ds, _, h, p, hp => by
    cases h with
    | cons h1 h2 =>
      simp only [List.map_cons, List.zip_cons_cons, List.mem_cons] at hp
      rcases hp with rfl | hp
      · exact h1
      · exact zip_mem h2 p hp
theorem gt_tup {W : List Nat} (hc : X.calm = true) (h : GtsE X es Γ μ (ds.map .dat) Γ' W) (hn : (assignEach es X.env).length = ds.length := by rfl) (hst : (assignEach es X.env).findIdx? (·.1) = none := by rfl) : GtE X (.Tuple es k pos) Γ μ (.dat (.tuple ds)) Γ' W := .mk fun F0 H0 A0 T σ H v st Q q =>
  wG_of (pg_tup (n := ds.length) hc pgs_w hn hst) (by
    obtain ⟨F, A, s⟩ := st
    have t : Dp X.K F v (.tuple ds) := s.top
    cases t with
    | @tup a xs _ h1 h2 =>
      have l := dps_len h2
      refine ⟨a, xs, rfl, s.fh.sqT h1, l, h F0 H0 A0 T σ H xs (by simpa using l) ⟨F, A, { s.pop with temps := fun p hp => ?_ }⟩ Q q⟩
      rcases List.mem_append.mp hp with hp | hp
      · exact zip_mem h2 p hp
      · exact s.pop.temps p hp)

/-! ### what is walked -/
/-- the i-th turn of an iterator gives the i-th datum, as long as the store is as C says -/
structure ItOk (X : Cx) (J : It) (T' : Tmp) (C : Sto → Prop) (ds : List PyData) : Prop where
  stop : ∀ (i : Nat) Γ μ T σ F0 H0 A0 H, C μ → Stt X F0 H0 A0 Γ μ (T' ++ T) σ H → ds.length ≤ i → J.stop i H
  go : ∀ (i : Nat) d Γ μ T σ F0 H0 A0 H, C μ → Stt X F0 H0 A0 Γ μ (T' ++ T) σ H → ds[i]? = some d → J.go i H
  yld : ∀ (i : Nat) d Γ μ T σ F0 H0 A0 H x H2, C μ → Stt X F0 H0 A0 Γ μ (T' ++ T) σ H → ds[i]? = some d → J.yld i H x H2 → Stt X F0 H0 A0 Γ μ ((.dat d, x) :: (T' ++ T)) σ H2
structure ItE (X : Cx) (tg iter : Expr) (Γ : Gm) (μ : Sto) (ds : List PyData) (μ1 : Sto) (C : Sto → Prop) : Prop where
  run : ∀ F0 H0 A0 T σ H, Stt X F0 H0 A0 Γ μ T σ H → ∀ R : It → Hp → Prop, (∀ J H1 T', Stt X F0 H0 A0 Γ μ1 (T' ++ T) σ H1 → ItOk X J T' C ds → R J H1) → wI X tg iter σ H R
instance {X : Cx} {tg iter : Expr} {Γ : Gm} {μ : Sto} {ds : List PyData} {μ1 : Sto} {C : Sto → Prop} : CoeFun (ItE X tg iter Γ μ ds μ1 C) fun _ => ∀ F0 H0 A0 T σ H, Stt X F0 H0 A0 Γ μ T σ H → ∀ R : It → Hp → Prop, (∀ J H1 T', Stt X F0 H0 A0 Γ μ1 (T' ++ T) σ H1 → ItOk X J T' C ds → R J H1) → wI X tg iter σ H R := ⟨ItE.run⟩
/-- how an iterated list stays: a frozen one always -/
def Stays (r : AV) (ds : List PyData) (μ : Sto) : Prop := LsA μ r ds
theorem stays_dat {ds : List PyData} {μ : Sto} : Stays (.dat (.list ds)) ds μ := .dat ds
theorem itok_list {v : V} {a : Addr} (ha : v = .ref a) : ItOk X (Itl X.K a) [(r, v)] (Stays r ds) ds where
  stop := fun i Γ μ T σ F0 H0 A0 H c st h => by
    obtain ⟨F, A, s⟩ := st
    obtain ⟨a', vs, e, h1, h2⟩ := LsA.read c s (s.temps (r, v) (by simp))
    rw [ha] at e; cases e
    exact ⟨vs, h1, by rw [dps_len h2]; exact h⟩
  go := fun i d Γ μ T σ F0 H0 A0 H c st h => by
    obtain ⟨F, A, s⟩ := st
    obtain ⟨a', vs, e, h1, h2⟩ := LsA.read c s (s.temps (r, v) (by simp))
    rw [ha] at e; cases e
    obtain ⟨u, q1, q2⟩ := dps_get h2 h
    exact ⟨vs, u, h1, q1⟩
  yld := fun i d Γ μ T σ F0 H0 A0 H x H2 c st h y => by
    obtain ⟨F, A, s⟩ := st
    obtain ⟨a', vs, e, h1, h2⟩ := LsA.read c s (s.temps (r, v) (by simp))
    rw [ha] at e; cases e
    obtain ⟨u, q1, q2⟩ := dps_get h2 h
    obtain ⟨rfl, y⟩ := y
    have : x = u := by have := y vs h1; rw [q1] at this; exact (Option.some.inj this).symm
    subst this
    exact ⟨F, A, s.val (r := .dat d) q2⟩
theorem itok_tup {v : V} {a : Addr} (ha : v = .ref a) : ItOk X (Itt X.K a) [(.dat (.tuple ds), v)] (fun _ => True) ds where
  stop := fun i Γ μ T σ F0 H0 A0 H c st h => by
    obtain ⟨F, A, s⟩ := st
    have t : Dp X.K F v (.tuple ds) := s.temps (.dat (.tuple ds), v) (by simp)
    subst ha
    cases t with
    | tup h1 h2 => exact ⟨_, s.fh.sqT h1, by rw [dps_len h2]; exact h⟩
  go := fun i d Γ μ T σ F0 H0 A0 H c st h => by
    obtain ⟨F, A, s⟩ := st
    have t : Dp X.K F v (.tuple ds) := s.temps (.dat (.tuple ds), v) (by simp)
    subst ha
    cases t with
    | tup h1 h2 =>
      obtain ⟨u, q1, q2⟩ := dps_get h2 h
      exact ⟨_, u, s.fh.sqT h1, q1⟩
  yld := fun i d Γ μ T σ F0 H0 A0 H x H2 c st h y => by
    obtain ⟨F, A, s⟩ := st
    have t : Dp X.K F v (.tuple ds) := s.temps (.dat (.tuple ds), v) (by simp)
    subst ha
    cases t with
    | tup h1 h2 =>
      obtain ⟨u, q1, q2⟩ := dps_get h2 h
      obtain ⟨rfl, y⟩ := y
      have : x = u := by have := y _ (s.fh.sqT h1); rw [q1] at this; exact (Option.some.inj this).symm
      subst this
      exact ⟨F, A, s.val (r := .dat d) q2⟩
theorem it_list (h : EvE X Γ μ iter r μ1) (hq : LsA μ1 r ds) : ItE X tg iter Γ μ ds μ1 (Stays r ds) := .mk fun F0 H0 A0 T σ H st R q =>
  wI_of (pi_list pe_w) (h F0 H0 A0 T σ H st _ fun v H1 st1 => by
    have st1' := st1
    obtain ⟨F, A, s⟩ := st1
    obtain ⟨a, vs, rfl, h1, h2⟩ := hq.read s s.top
    exact ⟨a, rfl, ⟨vs, h1⟩, q _ H1 [(r, .ref a)] st1' (itok_list rfl)⟩)
theorem it_tup (h : EvE X Γ μ iter (.dat (.tuple ds)) μ1) : ItE X tg iter Γ μ ds μ1 (fun _ => True) := .mk fun F0 H0 A0 T σ H st R q =>
  wI_of (pi_tup pe_w) (h F0 H0 A0 T σ H st _ fun v H1 st1 => by
    have st1' := st1
    obtain ⟨F, A, s⟩ := st1
    have t : Dp X.K F v (.tuple ds) := s.top
    cases t with
    | tup h1 h2 => exact ⟨_, rfl, ⟨_, s.fh.sqT h1⟩, q _ H1 [(.dat (.tuple ds), _)] st1' (itok_tup rfl)⟩)
def rangeD (lo : Int) (n : Nat) : List PyData := (List.range n).map fun i => PyData.int (lo + (i : Nat))
theorem rangeD_get {lo : Int} {n i : Nat} (h : i < n) : (rangeD lo n)[i]? = some (.int (lo + (i : Nat))) := by simp [rangeD, h]
theorem rangeD_len {lo : Int} {n : Nat} : (rangeD lo n).length = n := by simp [rangeD]
theorem itok_range {lo : Int} {n : Nat} : ItOk X (Itr lo n) [] (fun _ => True) (rangeD lo n) where
  stop := fun i Γ μ T σ F0 H0 A0 H c st h => by rw [rangeD_len] at h; exact h
  go := fun i d Γ μ T σ F0 H0 A0 H c st h => by have := (List.getElem?_eq_some_iff.mp h).1; rw [rangeD_len] at this; exact this
  yld := fun i d Γ μ T σ F0 H0 A0 H x H2 c st h y => by
    have hi := (List.getElem?_eq_some_iff.mp h).1
    rw [rangeD_len] at hi
    rw [rangeD_get hi] at h; cases h
    obtain ⟨rfl, rfl⟩ := y
    obtain ⟨F, A, s⟩ := st
    exact ⟨F, A, s.val (r := .dat _) (.int _)⟩
theorem it_range1 {n : Int} (h : EvE X Γ μ a (.dat (.int n)) μ1) (h1 : -(2 ^ 62) ≤ n) (h2 : n < 2 ^ 62) (hg : Gl X "range") (hm : X.mg "range" = none) (hs : starEach [a] X.env = [(false, eval a X.env)] := by rfl) : ItE X tg (.Call (.Name "range" p) [a] [] pos) Γ μ (rangeD 0 n.toNat) μ1 (fun _ => True) := .mk fun F0 H0 A0 T σ H st R q =>
  wI_of (pi_range1 hg hm (pa_cons pe_w pa_nil hs) hs) (h F0 H0 A0 T σ H st _ fun v H1 st1 => by
    have e : v = .int n := by obtain ⟨F, A, s⟩ := st1; exact dpi s.top
    subst e
    exact ⟨n, rfl, h1, h2, q _ H1 [] st1.pop itok_range⟩)
theorem it_range2 {lo hi : Int} (h : EvE X Γ μ a (.dat (.int lo)) μ1) (hb : EvE X Γ μ1 b (.dat (.int hi)) μ2) (hz : -(2 ^ 62) ≤ lo ∧ lo < 2 ^ 62 ∧ -(2 ^ 62) ≤ hi ∧ hi < 2 ^ 62) (hg : Gl X "range") (hm : X.mg "range" = none)
    (hs : starEach [a, b] X.env = [(false, eval a X.env), (false, eval b X.env)] := by rfl) (hs2 : starEach [b] X.env = [(false, eval b X.env)] := by rfl) : ItE X tg (.Call (.Name "range" p) [a, b] [] pos) Γ μ (rangeD lo (hi - lo).toNat) μ2 (fun _ => True) := .mk fun F0 H0 A0 T σ H st R q =>
  wI_of (pi_range2 hg hm (pa_cons pe_w (pa_cons pe_w pa_nil hs2) (by rw [hs, hs2])) hs hs2) (h F0 H0 A0 T σ H st _ fun v H1 st1 => hb F0 H0 A0 _ σ H1 st1 _ fun u H2 st2 => by
    have e : u = .int hi ∧ v = .int lo := by obtain ⟨F, A, s⟩ := st2; exact ⟨dpi s.top, dpi s.pop.top⟩
    obtain ⟨rfl, rfl⟩ := e
    exact ⟨lo, hi, rfl, hz, q _ H2 [] st2.pop.pop itok_range⟩)
def enumD : Nat → List PyData → List PyData
  | _, [] => []
  | i, d :: ds => .tuple [.int (i : Nat), d] :: enumD (i + 1) ds
theorem enumD_len : ∀ {ds : List PyData} {k : Nat}, (enumD k ds).length = ds.length
  | [], _ => rfl
  | _ :: ds, k => by simp [enumD, enumD_len (ds := ds)]
theorem enumD_get : ∀ {ds : List PyData} {k i : Nat} {c : PyData}, (enumD k ds)[i]? = some c → ∃ d, ds[i]? = some d ∧ c = .tuple [.int ((k + i : Nat)), d]
  | [], _, _, _, h => by simp [enumD] at h
  | d :: ds, k, 0, c, h => by simp [enumD] at h; exact ⟨d, rfl, by rw [← h]; simp⟩
  | d :: ds, k, i + 1, c, h => by
    obtain ⟨d', h1, h2⟩ := enumD_get (ds := ds) (k := k + 1) (i := i) (c := c) (by simpa [enumD] using h)
    refine ⟨d', by simpa using h1, ?_⟩
    rw [h2]
    have : k + 1 + i = k + (i + 1) := by omega
    rw [this]
theorem new_pair {F0 H0 H F : Hp} {A0 A : List Addr} {T : Tmp} {σ : Sl} {i : Nat} {u : V} {q : Addr} (s : Sin X.prog X.w X.K F0 H0 A0 Γ μ T σ H F A) (hd : Dp X.K F u d) (hq : H q = none) : Stt X F0 H0 A0 Γ μ ((.dat (.tuple [.int (i : Nat), d]), .ref q) :: T) σ (upd H q (.tup [.int (i : Nat), u])) :=
  ⟨_, _, (s.new_fix hq).val (r := .dat _) (Dp.tup (SqT.of upd_same) (.cons (.int _) (.cons (dp_mono (Sub.upd (s.fh.none hq)) _ _ hd) .nil)))⟩
theorem itok_enumL {v : V} {a : Addr} (ha : v = .ref a) : ItOk X (Ite X.K a) [(r, v)] (Stays r ds) (enumD 0 ds) where
  stop := fun i Γ μ T σ F0 H0 A0 H c st h => by
    obtain ⟨F, A, s⟩ := st
    obtain ⟨a', vs, e, h1, h2⟩ := LsA.read c s (s.temps (r, v) (by simp))
    rw [ha] at e; cases e
    exact ⟨vs, h1, by rw [dps_len h2]; rw [enumD_len] at h; exact h⟩
  go := fun i d Γ μ T σ F0 H0 A0 H c st h => by
    obtain ⟨F, A, s⟩ := st
    obtain ⟨a', vs, e, h1, h2⟩ := LsA.read c s (s.temps (r, v) (by simp))
    rw [ha] at e; cases e
    obtain ⟨d', q1, _⟩ := enumD_get h
    obtain ⟨u, q3, q4⟩ := dps_get h2 q1
    exact ⟨vs, u, h1, q3⟩
  yld := fun i d Γ μ T σ F0 H0 A0 H x H2 c st h y => by
    obtain ⟨F, A, s⟩ := st
    obtain ⟨a', vs, e, h1, h2⟩ := LsA.read c s (s.temps (r, v) (by simp))
    rw [ha] at e; cases e
    obtain ⟨d', q1, rfl⟩ := enumD_get h
    obtain ⟨u, q3, q4⟩ := dps_get h2 q1
    obtain ⟨Tn, x', rfl, hn, rfl, y⟩ := y
    have : x' = u := by have := y vs h1; rw [q3] at this; exact (Option.some.inj this).symm
    subst this
    rw [Nat.zero_add]
    exact new_pair s q4 hn
theorem itok_enumT {v : V} {a : Addr} (ha : v = .ref a) : ItOk X (Iet X.K a) [(.dat (.tuple ds), v)] (fun _ => True) (enumD 0 ds) where
  stop := fun i Γ μ T σ F0 H0 A0 H c st h => by
    obtain ⟨F, A, s⟩ := st
    have t : Dp X.K F v (.tuple ds) := s.temps (.dat (.tuple ds), v) (by simp)
    subst ha
    cases t with
    | tup h1 h2 => exact ⟨_, s.fh.sqT h1, by rw [dps_len h2]; rw [enumD_len] at h; exact h⟩
  go := fun i d Γ μ T σ F0 H0 A0 H c st h => by
    obtain ⟨F, A, s⟩ := st
    have t : Dp X.K F v (.tuple ds) := s.temps (.dat (.tuple ds), v) (by simp)
    subst ha
    cases t with
    | tup h1 h2 =>
      obtain ⟨d', q1, _⟩ := enumD_get h
      obtain ⟨u, q3, q4⟩ := dps_get h2 q1
      exact ⟨_, u, s.fh.sqT h1, q3⟩
  yld := fun i d Γ μ T σ F0 H0 A0 H x H2 c st h y => by
    obtain ⟨F, A, s⟩ := st
    have t : Dp X.K F v (.tuple ds) := s.temps (.dat (.tuple ds), v) (by simp)
    subst ha
    cases t with
    | tup h1 h2 =>
      obtain ⟨d', q1, rfl⟩ := enumD_get h
      obtain ⟨u, q3, q4⟩ := dps_get h2 q1
      obtain ⟨Tn, x', rfl, hn, rfl, y⟩ := y
      have : x' = u := by have := y _ (s.fh.sqT h1); rw [q3] at this; exact (Option.some.inj this).symm
      subst this
      rw [Nat.zero_add]
      exact new_pair s q4 hn
theorem it_enumL (h : EvE X Γ μ e r μ1) (hq : LsA μ1 r ds) (hg : Gl X "enumerate") (hm : X.mg "enumerate" = none) (hs : starEach [e] X.env = [(false, eval e X.env)] := by rfl) : ItE X (.Tuple es kk tpos) (.Call (.Name "enumerate" p) [e] [] pos) Γ μ (enumD 0 ds) μ1 (Stays r ds) := .mk fun F0 H0 A0 T σ H st R q =>
  wI_of (pi_enum hg hm (pa_cons pe_w pa_nil hs) hs) (h F0 H0 A0 T σ H st _ fun v H1 st1 => by
    have st1' := st1
    obtain ⟨F, A, s⟩ := st1
    obtain ⟨a, vs, rfl, h1, h2⟩ := hq.read s s.top
    exact ⟨a, vs, rfl, h1, q _ H1 [(r, .ref a)] st1' (itok_enumL rfl)⟩)
theorem it_enumT (h : EvE X Γ μ e (.dat (.tuple ds)) μ1) (hg : Gl X "enumerate") (hm : X.mg "enumerate" = none) (hs : starEach [e] X.env = [(false, eval e X.env)] := by rfl) : ItE X (.Tuple es kk tpos) (.Call (.Name "enumerate" p) [e] [] pos) Γ μ (enumD 0 ds) μ1 (fun _ => True) := .mk fun F0 H0 A0 T σ H st R q =>
  wI_of (pi_enumT hg hm (pa_cons pe_w pa_nil hs) hs) (h F0 H0 A0 T σ H st _ fun v H1 st1 => by
    have st1' := st1
    obtain ⟨F, A, s⟩ := st1
    have t : Dp X.K F v (.tuple ds) := s.top
    cases t with
    | tup h1 h2 => exact ⟨_, _, rfl, s.fh.sqT h1, q _ H1 [(.dat (.tuple ds), _)] st1' (itok_enumT rfl)⟩)

/-! ### for -/
theorem ex_for {body : List Stmt} {C : Sto → Prop} (hp : PassesOwn (model X.prog X.w) X.A X.env X.xe) (hc : X.calm = true) (hi : ItE X tg iter Γ μ ds μ1 C) (Iv : Nat → Gm → Sto → Prop) (h0 : Iv 0 Γ μ1) (hC : ∀ i Γ' μ', Iv i Γ' μ' → C μ')
    (hs : ∀ (i : Nat) d Γ' μ', ds[i]? = some d → Iv i Γ' μ' → ∃ Γ'' W, GtE X tg Γ' μ' (.dat d) Γ'' W ∧ ExS X Γ'' μ' body { O with nx := Iv (i + 1), ct := Iv (i + 1), bk := O.nx })
    (hd : ∀ Γ' μ', Iv ds.length Γ' μ' → O.nx Γ' μ') (hf : ∀ x, foldedSetIterable iter X.env x = pure x := by intro _; rfl) : Ex1 X Γ μ (.For tg iter body [] pos) O := .mk fun F0 H0 A0 T σ H st =>
  wS_of (ps_for hp hc pi_w pg_w pss_w hf) (hi F0 H0 A0 T σ H st _ fun J H1 T' st1 ok => by
    refine ⟨fun i m σ' H' => m = ds.length - i ∧ i ≤ ds.length ∧ ∃ Γ' μ', Iv i Γ' μ' ∧ Stt X F0 H0 A0 Γ' μ' (T' ++ T) σ' H', ⟨ds.length, by simp, Nat.zero_le _, Γ, μ1, h0, st1⟩, ?_⟩
    rintro i m σ' H' ⟨rfl, hle, Γ', μ', iv, st2⟩
    by_cases hlt : i < ds.length
    · have hd' : ds[i]? = some ds[i] := by simp [hlt]
      refine .inr ⟨ok.go i _ Γ' μ' T σ' F0 H0 A0 H' (hC _ _ _ iv) st2 hd', fun σ2 H2 => ∃ Γ2 μ2, Iv (i + 1) Γ2 μ2 ∧ Stt X F0 H0 A0 Γ2 μ2 (T' ++ T) σ2 H2, fun σ2 H2 ⟨Γ2, μ2, iv2, st3⟩ => ⟨ds.length - (i + 1), by omega, rfl, hlt, Γ2, μ2, iv2, st3⟩, fun x H2 y => ?_⟩
      have st3 := ok.yld i _ Γ' μ' T σ' F0 H0 A0 H' x H2 (hC _ _ _ iv) st2 hd' y
      obtain ⟨Γ'', Wt, hg, hb⟩ := hs i _ Γ' μ' hd' iv
      refine hg F0 H0 A0 _ σ' H2 x st3 _ fun σ3 H3 _ _ st4 => ?_
      intro pins s1 I
      refine wpAny_mono (hb F0 H0 A0 _ σ3 H3 st4 pins s1 I) (fun f s' z => ?_) fun _ _ z => z
      have tm : ∀ p ∈ T, p ∈ T' ++ T := fun p hp => List.mem_append_right _ hp
      cases f with
      | next => exact z
      | cont => exact z
      | brk =>
        obtain ⟨σ4, H4, I4, Γ4, μ4, o4, st5⟩ := z
        exact ⟨σ4, H4, I4, Γ4, μ4, o4, st5.tmp tm⟩
      | ret v => exact z
    · have e : i = ds.length := by omega
      subst e
      refine .inl ⟨ok.stop _ Γ' μ' T σ' F0 H0 A0 H' (hC _ _ _ iv) st2 (Nat.le_refl _), Γ', μ', hd _ _ iv, st2.tmp fun p hp => List.mem_append_right _ hp⟩)

/-! ### while -/
theorem ex_while {c : Expr} {body : List Stmt} (hp : PassesOwn (model X.prog X.w) X.A X.env X.xe) (Iv : Nat → Gm → Sto → Prop) (m0 : Nat) (h0 : Iv m0 Γ μ)
    (hs : ∀ m Γ' μ', Iv m Γ' μ' → ∃ b μ'', EvT X Γ' μ' c b μ'' ∧ (b = true → ExS X Γ' μ'' body { O with nx := fun Γ2 μ2 => ∃ m', m' < m ∧ Iv m' Γ2 μ2, ct := fun Γ2 μ2 => ∃ m', m' < m ∧ Iv m' Γ2 μ2, bk := O.nx }) ∧ (b = false → O.nx Γ' μ'')) : Ex1 X Γ μ (.While c body [] pos) O := .mk fun F0 H0 A0 T σ H st =>
  wS_of (ps_while hp pt_w pss_w) (by
    refine ⟨fun m σ' H' => ∃ Γ' μ', Iv m Γ' μ' ∧ Stt X F0 H0 A0 Γ' μ' T σ' H', ⟨m0, Γ, μ, h0, st⟩, ?_⟩
    rintro m σ' H' ⟨Γ', μ', iv, st2⟩
    obtain ⟨b, μ'', ht, h1, h2⟩ := hs m Γ' μ' iv
    refine ht F0 H0 A0 T σ' H' st2 _ fun H1 st3 => ?_
    cases b with
    | false => exact iteF ⟨Γ', μ'', h2 rfl, st3⟩
    | true =>
      refine iteT ⟨fun σ2 H2 => ∃ Γ2 μ2, (∃ m', m' < m ∧ Iv m' Γ2 μ2) ∧ Stt X F0 H0 A0 Γ2 μ2 T σ2 H2, fun σ2 H2 ⟨Γ2, μ2, ⟨m', hm, iv2⟩, st4⟩ => ⟨m', hm, Γ2, μ2, iv2, st4⟩, ?_⟩
      intro pins s1 I
      refine wpAny_mono (h1 rfl F0 H0 A0 T σ' H1 st3 pins s1 I) (fun f s' z => ?_) fun _ _ z => z
      cases f with
      | next => exact z
      | cont => exact z
      | brk => exact z
      | ret v => exact z)
end
end DL
set_option maxHeartbeats 2000000
/-! Comprehensions. -/
namespace DL
open PySem PySem.Spec PyProof.Rows L2

section
variable {P : Program} {w : World} {K : PySem.W.Frag} {F0 H0 F H F' H' : Hp} {A0 A A' : List Addr} {Γ Γ' : Gm} {μ μ' : Sto} {T T' : Tmp} {σ σ' : Sl}
/-- the state as it is, as an entry -/
theorem Sin.base (s : Sin P w K F0 H0 A0 Γ μ T σ H F A) : Sin P w K F H A Γ μ T σ H F A :=
  { s with frame := fun _ _ h _ => h, f0 := Sub.refl _, new := fun _ _ h => .inl h, pre := ⟨[], by simp, fun _ h => by simp at h⟩ }
/-- .. and back -/
theorem Sin.comp (s : Sin P w K F0 H0 A0 Γ μ T σ H F A) (t : Sin P w K F H A Γ' μ' T' σ' H' F' A') : Sin P w K F0 H0 A0 Γ' μ' T' σ' H' F' A' :=
  { t with
    frame := fun a o e n => t.frame a o (s.frame a o e n) fun ha => by
      obtain ⟨B, e1, hB⟩ := s.pre
      rw [e1] at ha
      rcases List.mem_append.mp ha with z | z
      · exact n z
      · rw [hB a z] at e; cases e
    f0 := s.f0.trans t.f0
    new := fun a o e => by
      rcases t.new a o e with h | h
      · exact s.new a o h
      · exact .inr (s.fresh0 h)
    pre := by
      obtain ⟨B, e1, hB⟩ := s.pre
      obtain ⟨B', e2, hB'⟩ := t.pre
      refine ⟨B ++ B', by rw [e2, e1, List.append_assoc], fun a ha => ?_⟩
      rcases List.mem_append.mp ha with h | h
      · exact hB a h
      · exact s.fresh0 (hB' a h) }
/-- an object that the state does not know changes -/
theorem Sin.else {D : Addr} {o : HO} (s : Sin P w K F0 H0 A0 Γ μ T σ H F A) (hA : D ∉ A) (hF : F D = none) (h0 : H0 D = none) : Sin P w K F0 H0 A0 Γ μ T σ (upd H D o) F A :=
  { s with
    frame := fun a u e n => by rw [upd_ne (fun q => by rw [q, h0] at e; cases e)]; exact s.frame a u e n
    fh := fun a u e => by rw [upd_ne (fun q => by rw [q, hF] at e; cases e)]; exact s.fh a u e
    rep := paired_map s.rep fun a m ha r => r.mono (Sub.refl _) fun u e => by rw [upd_ne (fun q => hA (by rw [← q]; exact ha))]; exact e }
/-- .. and is known from here on -/
theorem Sin.take {D : Addr} {m : MO} (s : Sin P w K F0 H0 A0 Γ μ T σ H F A) (hA : D ∉ A) (hF : F D = none) (h0 : H0 D = none) (hm : RepM P w K F H D m) : Sin P w K F0 H0 A0 Γ (μ ++ [m]) ((.loc μ.length, .ref D) :: T) σ H F (A ++ [D]) := by
  refine ⟨s.frame, s.f0, s.fh, s.new, ?_, fun a ha => ?_, ?_, paired_app s.rep (.cons hm .nil), fun i av e => ?_, s.len, fun q hq => ?_⟩
  · rw [List.nodup_append]
    refine ⟨s.nd, by simp, fun a ha b hb => ?_⟩
    rw [List.mem_singleton] at hb; subst hb
    rintro rfl; exact hA ha
  · rcases List.mem_append.mp ha with ha | ha
    · exact s.fa a ha
    · rw [List.mem_singleton] at ha; subst ha; exact hF
  · obtain ⟨B, e, hB⟩ := s.pre
    refine ⟨B ++ [D], by rw [e, List.append_assoc], fun a ha => ?_⟩
    rcases List.mem_append.mp ha with ha | ha
    · exact hB a ha
    · rw [List.mem_singleton] at ha; subst ha; exact h0
  · obtain ⟨v, e1, r⟩ := s.slots i av e
    exact ⟨v, e1, RepA.mono r (Sub.refl _) fun j a q => get_app q⟩
  · rcases List.mem_cons.mp hq with rfl | hq
    · exact ⟨D, by rw [← s.lenA]; simp, rfl⟩
    · exact RepA.mono (s.temps q hq) (Sub.refl _) fun j a q => get_app q
end

def wipeG (Γ : Gm) : List Nat → Gm
  | [] => Γ
  | v :: vs => (wipeG Γ vs).set v none
theorem wipeG_len (Γ : Gm) : ∀ vs, (wipeG Γ vs).length = Γ.length
  | [] => rfl
  | v :: vs => by unfold wipeG; rw [List.length_set, wipeG_len Γ vs]
theorem wipeG_some {Γ : Gm} {i : Nat} {r : AV} : ∀ {vs : List Nat}, (wipeG Γ vs)[i]? = some (some r) → Γ[i]? = some (some r) ∧ i ∉ vs
  | [], h => ⟨h, by simp⟩
  | v :: vs, h => by
    unfold wipeG at h
    by_cases hi : v = i
    · subst hi
      by_cases hv : v < (wipeG Γ vs).length
      · rw [List.getElem?_set_self hv] at h; cases h
      · rw [List.getElem?_eq_none (by simpa using hv)] at h; cases h
    · rw [List.getElem?_set_ne hi] at h
      obtain ⟨h1, h2⟩ := wipeG_some h
      exact ⟨h1, by simp only [List.mem_cons, not_or]; exact ⟨fun e => hi e.symm, h2⟩⟩
theorem wipe_get {σ : Sl} {i : Nat} : ∀ {vs : List Nat}, (wipe σ vs)[i]? = if i ∈ vs then (if i < σ.length then some none else none) else σ[i]?
  | [] => by simp [wipe]
  | v :: vs => by
    unfold wipe
    by_cases hi : v = i
    · subst hi
      by_cases hv : v < σ.length
      · rw [List.getElem?_set_self (by rw [wipe_length]; exact hv)]; simp [hv]
      · rw [List.getElem?_eq_none (by simp [wipe_length]; omega)]; simp [hv]
    · rw [List.getElem?_set_ne hi, wipe_get]
      have : (i ∈ v :: vs) ↔ i ∈ vs := by
        simp only [List.mem_cons]
        exact ⟨fun h => h.elim (fun e => absurd e.symm hi) id, .inr⟩
      simp only [this]
theorem wipe_eq {σ σ' : Sl} {vs W : List Nat} (h : ∀ i : Nat, i ∉ W → σ'[i]? = (wipe σ vs)[i]?) (l : σ'.length = (wipe σ vs).length) (s : ∀ i ∈ W, i ∈ vs) : wipe σ' vs = wipe σ vs := by
  rw [wipe_length] at l
  refine List.ext_getElem? fun i => ?_
  rw [wipe_get, wipe_get, l]
  by_cases hi : i ∈ vs
  · simp [hi]
  · simp only [hi, if_false]
    rw [h i (fun z => hi (s i z)), wipe_get]; simp [hi]
theorem Sin.wipe {P : Program} {w : World} {K : PySem.W.Frag} {F0 H0 F H : Hp} {A0 A : List Addr} {Γ : Gm} {μ : Sto} {T : Tmp} {σ : Sl} (s : Sin P w K F0 H0 A0 Γ μ T σ H F A) (vs : List Nat) : Sin P w K F0 H0 A0 (wipeG Γ vs) μ T (L2.wipe σ vs) H F A :=
  { s with
    slots := fun i av e => by
      obtain ⟨h1, h2⟩ := wipeG_some e
      obtain ⟨v, e1, r⟩ := s.slots i av h1
      exact ⟨v, by rw [wipe_get]; simp only [h2, if_false]; exact e1, r⟩
    len := by rw [wipe_length, wipeG_len]; exact s.len }

/-- a clause's tests -/
def wTs (X : Cx) (ifs : List Expr) (σ : Sl) (H : Hp) (Q : Bool → Hp → Prop) : Prop := ∀ (pins : List (Addr × Obj)) (s : Shared), Inv X pins σ H s →
  wpAny (model X.prog X.w) X.A (forIn ifs true fun c r => if r = true then do let ok ← isTrue c X.env (eval c X.env); pure (ForInStep.yield ok) else pure (ForInStep.yield r)) (TP X pins σ Q) X.xe s
theorem wTs_of {X : Cx} {ifs : List Expr} {t : TT} {σ : Sl} {H : Hp} {Q : Bool → Hp → Prop} (h : PTs X ifs t) (q : t σ H Q) : wTs X ifs σ H Q := fun pins s I => h.run pins s σ H Q I q
structure EvTs (X : Cx) (Γ : Gm) (μ : Sto) (ifs : List Expr) (b : Bool) (μ' : Sto) : Prop where
  run : ∀ F0 H0 A0 T σ H, Stt X F0 H0 A0 Γ μ T σ H → ∀ Q : Bool → Hp → Prop, (∀ H', Stt X F0 H0 A0 Γ μ' T σ H' → Q b H') → wTs X ifs σ H Q
instance {X : Cx} {Γ : Gm} {μ : Sto} {ifs : List Expr} {b : Bool} {μ' : Sto} : CoeFun (EvTs X Γ μ ifs b μ') fun _ => ∀ F0 H0 A0 T σ H, Stt X F0 H0 A0 Γ μ T σ H → ∀ Q : Bool → Hp → Prop, (∀ H', Stt X F0 H0 A0 Γ μ' T σ H' → Q b H') → wTs X ifs σ H Q := ⟨EvTs.run⟩
theorem ets_nil {X : Cx} {Γ : Gm} {μ : Sto} : EvTs X Γ μ [] true μ := .mk fun F0 H0 A0 T σ H st Q q => wTs_of pts_nil (q H st)
theorem ets_one {X : Cx} {Γ : Gm} {μ μ1 : Sto} {c : Expr} {b : Bool} (h : EvT X Γ μ c b μ1) : EvTs X Γ μ [c] b μ1 := .mk fun F0 H0 A0 T σ H st Q q => wTs_of (pts_one pt_w) (h F0 H0 A0 T σ H st Q q)

/-- a block of a comprehension -/
abbrev blkOf (X : Cx) (scope : Scope) (z : Shared × Hp × Addr × List (Str × Addr) × List Addr) : Cx := X.blk z.1 z.2.1 scope (compEnvC scope z.2.2.2.1 z.2.2.1 X.env) z.2.2.2.2
section
variable {X : Cx} {Γ : Gm} {μ μ1 : Sto} {elt tg iter : Expr} {ifs : List Expr} {scope : Scope} {own : List (Str × Nat)} {pos : Pos} {ds : List PyData} {C : Sto → Prop}
/-- one turn: from the store before to the store behind, giving an item or none -/
def TurnE (X : Cx) (scope : Scope) (own : List (Str × Nat)) (Γ : Gm) (tg : Expr) (ifs : List Expr) (elt : Expr) (d : PyData) (μ μ' : Sto) (y : Option PyData) : Prop :=
  ∃ Γ2 W b μt, (∀ z, GtE (blkOf X scope z) tg (wipeG Γ (own.map (·.2))) μ (.dat d) Γ2 W) ∧ (∀ i ∈ W, i ∈ own.map (·.2)) ∧ (∀ z, EvTs (blkOf X scope z) Γ2 μ ifs b μt) ∧
    ((b = true ∧ ∃ e, y = some e ∧ ∀ z, EvE (blkOf X scope z) Γ2 μt elt (.dat e) μ') ∨ (b = false ∧ y = none ∧ μt = μ'))
def accOf (L : Nat → Option PyData) : Nat → List PyData
  | 0 => []
  | i + 1 => accOf L i ++ (L i).toList
theorem accOf_len (L : Nat → Option PyData) : ∀ i, (accOf L i).length ≤ i
  | 0 => Nat.le_refl _
  | i + 1 => by
    unfold accOf
    rw [List.length_append]
    have := accOf_len L i
    cases L i <;> simp <;> omega
theorem lc_run (hi : ItE X tg iter Γ μ ds μ1 C) (M : Nat → Sto) (L : Nat → Option PyData) (h0 : M 0 = μ1) (hC : ∀ i, i ≤ ds.length → C (M i)) (hz : ds.length < sizeLine)
    (hs : ∀ (i : Nat) d, ds[i]? = some d → TurnE X scope own Γ tg ifs elt d (M i) (M (i + 1)) (L i))
    {F0 H0 : Hp} {A0 : List Addr} {T : Tmp} {σ : Sl} {H : Hp} (st : Stt X F0 H0 A0 Γ μ T σ H) {Q : VK} (q : ∀ v H', Stt X F0 H0 A0 Γ (M ds.length ++ [.lst (accOf L ds.length)]) ((.loc (M ds.length).length, v) :: T) σ H' → Q v H') :
    tLc (wI X tg iter) (fun v σ H Q => ∀ z, wG (blkOf X scope z) tg v σ H Q) (fun σ H Q => ∀ z, wTs (blkOf X scope z) ifs σ H Q) (fun σ H Q => ∀ z, wE (blkOf X scope z) elt σ H Q) (own.map (·.2)) σ H Q :=
  hi F0 H0 A0 T σ H st _ fun J H1 T' st1 ok D hD => by
    obtain ⟨F1, A1, s1⟩ := st1
    have D0 := s1.fresh0 hD
    subst h0
    refine ⟨fun i m H' => m = ds.length - i ∧ i ≤ ds.length ∧ ∃ F A vs, Sin X.prog X.w X.K F0 H0 A0 Γ (M i) (T' ++ T) σ H' F A ∧ H' D = some (.lst vs) ∧ DpAll X.K F vs (accOf L i) ∧ F D = none ∧ D ∉ A,
      ⟨ds.length, by simp, Nat.zero_le _, F1, A1, [], s1.else (s1.fresh hD) (s1.fh.none hD) D0, upd_same, .nil, s1.fh.none hD, s1.fresh hD⟩, ?_⟩
    rintro i m H' ⟨rfl, hle, F, A, vs, s, hD1, hvs, hF, hA⟩
    by_cases hlt : i < ds.length
    · have hd : ds[i]? = some ds[i] := by simp [hlt]
      have sw := (s.wipe (own.map (·.2))).base
      refine .inr ⟨ok.go i _ _ _ T _ F H' A H' (hC i hle) ⟨F, A, sw⟩ hd, fun H2 => i + 1 ≤ ds.length ∧ ∃ F A vs, Sin X.prog X.w X.K F0 H0 A0 Γ (M (i + 1)) (T' ++ T) σ H2 F A ∧ H2 D = some (.lst vs) ∧ DpAll X.K F vs (accOf L (i + 1)) ∧ F D = none ∧ D ∉ A,
        fun H2 h => ⟨ds.length - (i + 1), by omega, rfl, h.1, h.2⟩, fun x H2 y => ?_⟩
      have st2 := ok.yld i _ _ _ T _ F H' A H' x H2 (hC i hle) ⟨F, A, sw⟩ hd y
      have turn := hs i _ hd
      -- what holds of a state behind the entry (F, H', A)
      have back : ∀ {Γ2 μ2 T2 σ2 H3 F3 A3}, Sin X.prog X.w X.K F H' A Γ2 μ2 T2 σ2 H3 F3 A3 → H3 D = some (.lst vs) ∧ F3 D = none ∧ D ∉ A3 ∧ Sub F F3 := fun {Γ2 μ2 T2 σ2 H3 F3 A3} t => by
        refine ⟨t.frame D _ hD1 hA, ?_, fun z => ?_, t.f0⟩
        · cases e : F3 D with
          | none => rfl
          | some u =>
            rcases t.new D u e with z | z
            · rw [hF] at z; cases z
            · rw [hD1] at z; cases z
        · obtain ⟨B, e1, hB⟩ := t.pre
          rw [e1] at z
          rcases List.mem_append.mp z with z | z
          · exact hA z
          · rw [hB D z] at hD1; cases hD1
      -- the store and the rest as they were, in the outer slots
      have out : ∀ {μ2 σ2 Γ2 H3 F3 A3}, Sin X.prog X.w X.K F H' A Γ2 μ2 (T' ++ T) σ2 H3 F3 A3 → Sin X.prog X.w X.K F0 H0 A0 Γ μ2 (T' ++ T) σ H3 F3 A3 := fun {μ2 σ2 Γ2 H3 F3 A3} t => by
        have c := s.comp (Γ' := Γ2) (μ' := μ2) (T' := T' ++ T) (σ' := σ2) t
        refine { c with slots := fun j av e => ?_, len := s.len }
        obtain ⟨v, e1, r⟩ := s.slots j av e
        refine ⟨v, e1, RepA.mono r t.f0 fun k a h => ?_⟩
        obtain ⟨B, e2, _⟩ := t.pre
        rw [e2]; exact get_app h
      obtain ⟨Γ2, W, b, μt, g1, g2, g3, g4⟩ := turn
      intro z
      refine g1 z F H' A (T' ++ T) _ H2 x st2 _ fun σ3 H3 k3 l3 st3 => ⟨wipe_eq k3 l3 g2, fun z' => ?_⟩
      refine g3 z' F H' A _ σ3 H3 st3 _ fun H4 st4 => ?_
      rcases g4 with ⟨rfl, e, hy, g5⟩ | ⟨rfl, hy, rfl⟩
      · refine iteT fun z'' => g5 z'' F H' A _ σ3 H4 st4 _ fun v H5 st5 => ?_
        obtain ⟨F5, A5, s5⟩ := st5
        obtain ⟨b1, b2, b3, b4⟩ := back s5
        have hv : Dp X.K F5 v e := s5.top
        have hl : vs.length = (accOf L i).length := dps_len hvs
        have hl2 := accOf_len L i
        refine ⟨vs, b1, by omega, hlt, F5, A5, vs ++ [v], (out s5.pop).else b3 b2 D0, upd_same, ?_, b2, b3⟩
        have : accOf L (i + 1) = accOf L i ++ [e] := by show accOf L i ++ (L i).toList = _; rw [hy]; rfl
        rw [this]
        exact dps_app (dps_mono b4 _ _ hvs) (.cons hv .nil)
      · obtain ⟨F4, A4, s4⟩ := st4
        obtain ⟨b1, b2, b3, b4⟩ := back s4
        refine iteF ⟨hlt, F4, A4, vs, out s4, b1, ?_, b2, b3⟩
        have : accOf L (i + 1) = accOf L i := by show accOf L i ++ (L i).toList = _; rw [hy]; simp
        rw [this]
        exact dps_mono b4 _ _ hvs
    · have e : i = ds.length := by omega
      subst e
      have sw := (s.wipe (own.map (·.2))).base
      refine .inl ⟨ok.stop _ _ _ T _ F H' A H' (hC _ hle) ⟨F, A, sw⟩ (Nat.le_refl _), q _ _ ⟨F, A ++ [D], ?_⟩⟩
      have s2 := s.tmp (T' := T) fun p hp => List.mem_append_right _ hp
      exact s2.take hA hF D0 ⟨vs, hD1, hvs⟩
theorem ev_lc (hc : X.calm = true) (hN : X.N.Nodup) (ok : BlkOk X.N X.env.scope scope own) (hi : ItE X tg iter Γ μ ds μ1 C) (M : Nat → Sto) (L : Nat → Option PyData) (h0 : M 0 = μ1) (hC : ∀ i, i ≤ ds.length → C (M i)) (hz : ds.length < sizeLine)
    (hs : ∀ (i : Nat) d, ds[i]? = some d → TurnE X scope own Γ tg ifs elt d (M i) (M (i + 1)) (L i)) (hf : ∀ x, foldedSetIterable iter X.env x = pure x := by intro _; rfl) :
    EvE X Γ μ (.ListComp elt [⟨tg, iter, ifs, 0⟩] scope pos) (.loc (M ds.length).length) (M ds.length ++ [.lst (accOf L ds.length)]) := .mk fun F0 H0 A0 T σ H st Q q =>
  wE_of (pe_lc hc hN pi_w ok (fun s H C cl fp => ⟨fun pins s' σ H' v u Q I r h => h (s, H, C, cl, fp) pins s' u I r⟩) (fun s H C cl fp => ⟨fun pins s' σ H' Q I h => h (s, H, C, cl, fp) pins s' I⟩) (fun s H C cl fp => ⟨fun pins s' σ H' Q I h => h (s, H, C, cl, fp) pins s' I⟩) hf)
    (lc_run hi M L h0 hC hz hs st q)
theorem ex_setLc {i : Nat} {y : Str} {py spos : Pos} {O : Out} (hc : X.calm = true) (hN : X.N.Nodup) (hy : X.N[i]? = some y) (hyl : X.env.scope.names.lookup y = some .local) (hk : X.env.scope.kind = .function) (hl : (py.line == pos.line) = true) (hsc : (scope.names.any fun (n, k) => n == y && (k == .local || k == .cell)) = false)
    (ok : BlkOk X.N X.env.scope scope own) (hi : ItE X tg iter Γ μ ds μ1 C) (M : Nat → Sto) (L : Nat → Option PyData) (h0 : M 0 = μ1) (hC : ∀ i, i ≤ ds.length → C (M i)) (hz : ds.length < sizeLine)
    (hs : ∀ (i : Nat) d, ds[i]? = some d → TurnE X scope own Γ tg ifs elt d (M i) (M (i + 1)) (L i)) (k : O.nx (Γ.set i (some (.loc (M ds.length).length))) (M ds.length ++ [.lst (accOf L ds.length)])) (hf : ∀ x, foldedSetIterable iter X.env x = pure x := by intro _; rfl) :
    Ex1 X Γ μ (.Assign [.Name y py] (.ListComp elt [⟨tg, iter, ifs, 0⟩] scope pos) spos) O := .mk fun F0 H0 A0 T σ H st =>
  wS_of (ps_setLc hc hN hy hyl (sw_true hk hyl hl hsc) pi_w ok (fun s H C cl fp => ⟨fun pins s' σ H' v u Q I r h => h (s, H, C, cl, fp) pins s' u I r⟩) (fun s H C cl fp => ⟨fun pins s' σ H' Q I h => h (s, H, C, cl, fp) pins s' I⟩) (fun s H C cl fp => ⟨fun pins s' σ H' Q I h => h (s, H, C, cl, fp) pins s' I⟩) hf)
    (lc_run hi M L h0 hC hz hs st fun v H' st' => by
      obtain ⟨F, A, s⟩ := st'
      exact ⟨_, _, k, F, A, s.pop.slot s.top⟩)
end
end DL
set_option maxHeartbeats 2000000
/-! Functions: what they are worth, and their calls. -/
namespace DL
open PySem PySem.Spec PyProof.Rows L2

/-- the module behind its top -/
structure Mc where
  P : Program
  w : World
  K : PySem.W.Frag
  mg : Str → Option Value
  base : Heap
def mcOf (X : Cx) : Mc := ⟨X.prog, X.w, X.K, X.mg, X.base⟩

/-- a def's promise where, if g says so, no repr runs around it -/
structure Fg (g : Bool) (M : Mc) (CX : CXT) (k : Nat) (f : Addr) (fd : FuncData) (ps : List Str) (sp : Sp) : Prop where
  len : ∀ vs H Q E, sp vs H Q E → vs.length = ps.length
  run : ∀ (A : Around) (outer : List PySem.Env) (s : Shared) (H : Hp) (args : Args) (us : List Value) (vs : List V) (Q : VK) (E : XK), (g = true → A.guards = some []) → Room k A → Env0 M.P M.w M.K M.mg M.base A outer s H → BindsTo s fd args (ps.zip us) → Vals vs us → sp vs H Q E →
    codeAny (model M.P M.w) A (.call (.ref f) args) (CR CX outer M.P M.w H s Q E) s
theorem Fg.fnOk {M : Mc} {CX : CXT} {k : Nat} {f : Addr} {fd : FuncData} {ps : List Str} {sp : Sp} (h : Fg false M CX k f fd ps sp) : FnOk M.P M.w M.K M.mg M.base CX k f fd ps sp :=
  ⟨h.len, fun A outer s H args us vs Q E => h.run A outer s H args us vs Q E (fun z => nomatch z)⟩
theorem Fg.mono {g : Bool} {M : Mc} {CX : CXT} {j k : Nat} {f : Addr} {fd : FuncData} {ps : List Str} {sp : Sp} (F : Fg g M CX j f fd ps sp) (h : j ≤ k) : Fg g M CX k f fd ps sp :=
  ⟨F.len, fun A outer s H args us vs Q E hg hr => F.run A outer s H args us vs Q E hg (hr.mono h)⟩

/-- the def at f, by its body, run at the parameters' values -/
theorem fg_of {g : Bool} {M : Mc} {CX : CXT} {k : Nat} {x qual : Str} {st : Stmt} {f : Addr} {fd : FuncData} {N ps : List Str} {sp : Sp} (Fn : Fun M.K x qual st f fd) (S : FnScope N ps (defScope st)) (len : ∀ vs H Q E, sp vs H Q E → vs.length = ps.length)
    (body : ∀ (cdv : Value) (A : Around) (outer : List PySem.Env) (s : Shared) (H : Hp) (vs : List V) (Q : VK) (E : XK), (g = true → A.guards = some []) → Room k (A.deeper (envOfC qual (defScope st) s.heap.objs.size f cdv)) → sp vs H Q E →
      ∃ t, PSs (cxOf CX M.P M.w M.K M.mg M.base N qual (defScope st) f cdv A outer s H E) (defBody st) t ∧ t { nx := fun _ H' => Q .non H', rt := Q } (start N vs) H) : Fg g M CX (k + 1) f fd ps sp := by
  obtain ⟨oc, od, kV, doc, pm, an, cdv, ct, osl, rfl, lk, hcode⟩ := Fn.ex
  refine ⟨len, fun A outer s H args us vs Q E hg hr en hbind rv hs => ?_⟩
  have hlen := len _ _ _ _ hs
  have inK : M.K.In s.heap := en.mod.kin.keeps fun b o e => (en.bs b o e).1
  have nolim : s.heap.NoLimit := en.mod.nolimit.keeps fun b o e => (en.bs b o e).1
  have kinds : ∀ y ∈ ps.zip us, (defScope st).names.lookup y.1 = some .local ∨ ((defScope st).names.lookup y.1 = some .cell ∧ ((cellsFrom (s.heap.objs.size + 1) (defScope st).names []).lookup y.1).isSome = true) := fun ⟨n, v⟩ hy =>
    (S.par n (List.of_mem_zip hy).1).imp id fun q => ⟨q, PySem.W.cellsFrom_some _ _ _ (.inl q)⟩
  refine codeAny_call_function hr.depth (inK _ _ lk) rfl S.co S.gen rfl (PySem.W.codeRec_of inK hcode) (hbind _ _ _ _ (wpAny_newFunctionEnv_cells S.kind kinds fun env henv s1 x1 => ?_))
  subst henv
  refine ⟨nolim.keeps x1.toInCall.keep, codeAny_func ?_⟩
  obtain ⟨t, tbody, tq⟩ := body cdv A outer s H vs Q E hg (hr.deeper _) hs
  have I0 : Inv (cxOf CX M.P M.w M.K M.mg M.base N qual (defScope st) f cdv A outer s H E) [] (start N vs) H s1 := inv_start S hr.hd en hlen rv x1
  refine wpAny_mono (tbody.run [] s1 (start N vs) H _ I0 tq) (fun fl s' z => ?_) fun e s' z => z
  cases fl with
  | ret u =>
    obtain ⟨v, σ', H', J, r1, q1⟩ := z
    exact ⟨v, H', J.os, J.bare, J.base, J.hok, r1, q1⟩
  | next =>
    obtain ⟨σ', H', J, q1⟩ := z
    exact ⟨.non, H', J.os, J.bare, J.base, J.hok, rfl, q1⟩
  | brk => obtain ⟨_, _, _, q1⟩ := z; exact q1.elim
  | cont => obtain ⟨_, _, _, q1⟩ := z; exact q1.elim

section
variable {X : Cx} {CX : CXT} {g : Bool} {k : Nat} {f : Addr} {fd : FuncData} {ps : List Str} {sp : Sp} {E : XK}
/-- the callee runs -/
theorem run_fg {pins : List (Addr × Obj)} {σ : Sl} {H : Hp} {s : Shared} {Q : VK} {us : List Value} {vs : List V} (F : Fg g (mcOf X) CX k f fd ps sp) (hg : g = true → X.A.guards = some []) (hr : Room k X.A) (hb : Binds X.K fd ps []) (hx : Passes CX X E)
    (I : Inv X pins σ H s) (r : Vals vs us) (h : sp vs H Q E) : wpAny (model X.prog X.w) X.A (call (.ref f) us) (EP X pins σ Q) X.xe s := by
  have hl : (us ++ []).length = ps.length := by rw [List.append_nil, ← r.length]; exact F.len _ _ _ _ h
  have hb' := hb s us I.kIn hl
  rw [List.append_nil] at hb'
  refine wpAny_call (codeAny_mono (F.run X.A X.stack s H ⟨us, []⟩ us vs Q E hg hr I.env0 hb' r h) fun res s' z => ?_)
  cases res with
  | error e => exact hx pins σ H s e s' I z
  | ok fl =>
    cases fl with
    | ret u => exact I.after z
    | next => exact z.elim
    | brk => exact z.elim
    | cont => exact z.elim
end

/-! ### what a def gives: from values to a value -/
def spOf (P : Program) (w : World) (K : PySem.W.Frag) (as : List AV) (μ : Sto) (r : AV) (μ' : Sto) : Sp := fun vs H Q _ => vs.length = as.length ∧ ∃ F A, Sin P w K F H A [] μ (as.zip vs) [] H F A ∧
  ∀ v H' F' A', Sin P w K F H A [] μ' [(r, v)] [] H' F' A' → Q v H'
/-- the def that the module knows as x gives r of as; what it may change goes from μ to μ' -/
def Cal (g : Bool) (M : Mc) (k : Nat) (x : Str) (as : List AV) (μ : Sto) (r : AV) (μ' : Sto) : Prop :=
  ∃ f fd ps, M.mg x = some (.ref f) ∧ PySem.W.keepIn M.K (.ref f) = true ∧ Binds M.K fd ps [] ∧ Fg g M CX0 k f fd ps (spOf M.P M.w M.K as μ r μ')
/-- .. the method m of the class at C -/
def CalM (g : Bool) (M : Mc) (k : Nat) (C : Addr) (m : Str) (as : List AV) (μ : Sto) (r : AV) (μ' : Sto) : Prop :=
  ∃ f fd ps, Cls M.K C ∧ Meth M.K C m f ∧ Binds M.K fd ps [] ∧ Fg g M CX0 k f fd ps (spOf M.P M.w M.K as μ r μ')
theorem Cal.mono {g : Bool} {M : Mc} {j k : Nat} {x : Str} {as : List AV} {μ μ' : Sto} {r : AV} (h : Cal g M j x as μ r μ') (l : j ≤ k) : Cal g M k x as μ r μ' :=
  let ⟨f, fd, ps, a, b, c, d⟩ := h; ⟨f, fd, ps, a, b, c, d.mono l⟩
theorem CalM.mono {g : Bool} {M : Mc} {j k : Nat} {C : Addr} {x : Str} {as : List AV} {μ μ' : Sto} {r : AV} (h : CalM g M j C x as μ r μ') (l : j ≤ k) : CalM g M k C x as μ r μ' :=
  let ⟨f, fd, ps, a, b, c, d⟩ := h; ⟨f, fd, ps, a, b, c, d.mono l⟩

/-! ### where one stands -/
structure Bd (X : Cx) (M : Mc) (N : List Str) (sc : Scope) (k : Nat) (g : Bool) : Prop where
  mc : mcOf X = M
  nn : X.N = N
  ss : X.env.scope = sc
  nd : N.Nodup
  kind : sc.kind = .function
  calm : X.calm = true
  room : Room k X.A
  gd : g = true → X.A.guards = some []
  nox : X.xe = fun _ _ => False

/-- the names at the entry -/
def startG (as : List AV) (N : List Str) : Gm := as.map some ++ List.replicate (N.length - as.length) none
theorem startG_get {as : List AV} {N : List Str} {i : Nat} {r : AV} (h : (startG as N)[i]? = some (some r)) : as[i]? = some r := by
  unfold startG at h
  by_cases hi : i < as.length
  · rw [List.getElem?_append_left (by simpa using hi), List.getElem?_map] at h
    cases e : as[i]? with
    | none => rw [e] at h; cases h
    | some a => rw [e] at h; cases h; rfl
  · rw [List.getElem?_append_right (by simpa using hi), List.getElem?_replicate] at h
    split at h <;> cases h
theorem start_get {N : List Str} {vs : List V} {i : Nat} {v : V} (h : vs[i]? = some v) : (start N vs)[i]? = some (some v) := by
  unfold L2.start
  rw [List.getElem?_append_left (by simpa using (List.getElem?_eq_some_iff.mp h).1), List.getElem?_map, h]; rfl
theorem zip_get {α β : Type} : ∀ {as : List α} {vs : List β} {i : Nat} {a : α}, vs.length = as.length → as[i]? = some a → ∃ v, vs[i]? = some v ∧ (a, v) ∈ as.zip vs
  | [], _, _, _, _, h => by simp at h
  | _ :: _, [], _, _, l, _ => by simp at l
  | a :: as, v :: vs, 0, _, l, h => by simp at h; subst h; exact ⟨v, rfl, by simp⟩
  | a :: as, v :: vs, i + 1, _, l, h => by
    obtain ⟨u, h1, h2⟩ := zip_get (as := as) (vs := vs) (i := i) (by simpa using l) (by simpa using h)
    exact ⟨u, by simpa using h1, by simp [h2]⟩
/-- what a def's body must do -/
def outOf (r : AV) (μ' : Sto) : Out where
  nx := fun _ μ'' => r = .dat .none ∧ ∃ ν, μ'' = μ' ++ ν ∧ r.below μ'.length
  rt := fun r'' μ'' => r'' = r ∧ ∃ ν, μ'' = μ' ++ ν ∧ r.below μ'.length
def Runs (g : Bool) (M : Mc) (k : Nat) (N : List Str) (st : Stmt) (as : List AV) (μ : Sto) (r : AV) (μ' : Sto) : Prop :=
  ∀ X, Bd X M N (defScope st) k g → (∀ y, X.fn y = true) → ExS X (startG as N) μ (defBody st) (outOf r μ')
theorem sp_len {P : Program} {w : World} {K : PySem.W.Frag} {as : List AV} {μ μ' : Sto} {r : AV} {vs : List V} {H : Hp} {Q : VK} {E : XK} (h : spOf P w K as μ r μ' vs H Q E) : vs.length = as.length := h.1
theorem fg_runs {g : Bool} {M : Mc} {k : Nat} {x qual : Str} {st : Stmt} {f : Addr} {fd : FuncData} {N ps : List Str} {as : List AV} {μ μ' : Sto} {r : AV} (Fn : Fun M.K x qual st f fd) (S : FnScope N ps (defScope st)) (hl : as.length = ps.length) (hm : μ.length ≤ μ'.length)
    (h : Runs g M k N st as μ r μ') : Fg g M CX0 (k + 1) f fd ps (spOf M.P M.w M.K as μ r μ') :=
  fg_of Fn S (fun vs H Q E z => z.1.trans hl) fun cdv A outer s H vs Q E hg hr ⟨l, F, Ad, si, q⟩ => by
    have hpl : ps.length ≤ N.length := by have := congrArg List.length S.pre; rw [List.length_take] at this; omega
    have hN : as.length ≤ N.length := by omega
    have ex := h (cxOf CX0 M.P M.w M.K M.mg M.base N qual (defScope st) f cdv A outer s H E).nox ⟨rfl, rfl, rfl, S.nd, S.kind, rfl, hr, hg, rfl⟩ (fun _ => rfl)
    have st0 : Stt (cxOf CX0 M.P M.w M.K M.mg M.base N qual (defScope st) f cdv A outer s H E).nox F H Ad (startG as N) μ [] (start N vs) H := ⟨F, Ad, { si with
      slots := fun i av e => by
        obtain ⟨v, h1, h2⟩ := zip_get l (startG_get e)
        exact ⟨v, start_get h1, si.temps _ h2⟩
      len := by unfold startG L2.start; simp [l]
      temps := fun p hp => by simp at hp }⟩
    have w := ex F H Ad [] _ H st0
    refine ⟨_, PSs.nox pss_w, ?_⟩
    intro pins s1 I
    have fin : ∀ {r'' : AV} {μ'' : Sto} {σ' : Sl} {Γ' : Gm} {v : V} {H' : Hp}, r'' = r → (∃ ν, μ'' = μ' ++ ν ∧ r.below μ'.length) → Stt (cxOf CX0 M.P M.w M.K M.mg M.base N qual (defScope st) f cdv A outer s H E).nox F H Ad [] μ'' [(r'', v)] [] H' → Q v H' := fun {r'' μ'' σ' Γ' v H'} e1 ⟨ν, e2, e3⟩ z => by
      subst e1; subst e2
      have z' := z.cut (by have := si.lenA; omega) (fun i av e => by simp at e) fun p hp => by
        rw [List.mem_singleton] at hp; subst hp; exact e3
      obtain ⟨F', A', t⟩ := z'
      exact q v H' F' A' t
    refine wpAny_mono (w pins s1 I) (fun fl s' z => ?_) fun _ _ z => z
    cases fl with
    | next =>
      obtain ⟨σ', H', J, Γ', μ'', ⟨e1, e2⟩, st2⟩ := z
      subst e1
      refine ⟨σ', H', J, fin (σ' := []) (Γ' := []) (r'' := .dat .none) rfl e2 ?_⟩
      obtain ⟨F2, A2, s2⟩ := st2
      exact Stt.slots_nil (σ := σ') (Γ := Γ') ⟨F2, A2, s2.val (r := .dat .none) .non⟩
    | ret u =>
      obtain ⟨v, σ', H', J, rv, r'', μ'', ⟨e1, e2⟩, st2⟩ := z
      exact ⟨v, σ', H', J, rv, fin (σ' := []) (Γ' := []) e1 e2 st2⟩
    | brk => obtain ⟨_, _, _, _, _, z, _⟩ := z; exact z.elim
    | cont => obtain ⟨_, _, _, _, _, z, _⟩ := z; exact z.elim
end DL
set_option maxHeartbeats 2000000
/-! Calls of the module's defs and methods. -/
namespace DL
open PySem PySem.Spec PyProof.Rows L2

def sh0 (n : Nat) : AV → AV
  | .loc j => .loc (n + j)
  | .ins C f j => .ins C f (n + j)
  | r => r
def sh1 (j n : Nat) : AV → AV
  | .loc 0 => .loc j
  | .loc (k + 1) => .loc (n + k)
  | .ins C f 0 => .ins C f j
  | .ins C f (k + 1) => .ins C f (n + k)
  | r => r
theorem repA_app {K : PySem.W.Frag} {F : Hp} {A B : List Addr} {r : AV} {v : V} (h : RepA K F A r v) : RepA K F (A ++ B) r v := RepA.mono h (Sub.refl _) fun j a e => get_app e
section
variable {P : Program} {w : World} {K : PySem.W.Frag} {F0 H0 F H F' H' : Hp} {A0 A B : List Addr} {Γ : Gm} {μ μ' ν : Sto} {T : Tmp} {σ : Sl} {v : V} {r : AV} {m m' : MO} {a : Addr} {j : Nat} {as : List AV} {vs : List V}
/-- values that stand by themselves, for a callee -/
theorem Sin.enter0 (s : Sin P w K F0 H0 A0 Γ μ (as.zip vs ++ T) σ H F A) (h : ∀ r ∈ as, r.below 0) : Sin P w K F H [] [] [] (as.zip vs) [] H F [] where
  frame := fun _ _ e _ => e
  f0 := Sub.refl _
  fh := s.fh
  new := fun _ _ e => .inl e
  nd := List.nodup_nil
  fa := fun _ h => by simp at h
  pre := ⟨[], rfl, fun _ h => by simp at h⟩
  rep := .nil
  slots := fun i av e => by simp at e
  len := rfl
  temps := fun p hp => by
    have b := h p.1 (List.of_mem_zip (a := p.1) (b := p.2) hp).1
    have q := s.temps p (List.mem_append_left _ hp)
    obtain ⟨r, v⟩ := p
    cases r with
    | dat d => exact q
    | adr _ => exact q
    | loc j => exact absurd b (Nat.not_lt_zero _)
    | ins _ _ j => exact absurd b (Nat.not_lt_zero _)
theorem get_shift {α : Type} {A B : List α} {n j : Nat} {a : α} (l : A.length = n) (e : B[j]? = some a) : (A ++ B)[n + j]? = some a := by
  rw [← l, List.getElem?_append_right (by omega), Nat.add_sub_cancel_left]; exact e
/-- behind such a call -/
theorem Sin.leave0 (s : Sin P w K F0 H0 A0 Γ μ T σ H F A) (t : Sin P w K F H [] [] ν [(r, v)] [] H' F' B) : Sin P w K F0 H0 A0 Γ (μ ++ ν) ((sh0 μ.length r, v) :: T) σ H' F' (A ++ B) := by
  have keep : ∀ a o, H a = some o → H' a = some o := fun a o e => t.frame a o e (by simp)
  obtain ⟨B0, e0, hB⟩ := t.pre
  have hB' : ∀ b ∈ B, H b = none := fun b hb => hB b (by rw [e0] at hb; simpa using hb)
  have hAB : ∀ a ∈ A, a ∉ B := fun a ha hb => by
    obtain ⟨o, e⟩ := s.there ha
    rw [hB' a hb] at e; cases e
  refine ⟨fun a o e n => keep a o (s.frame a o e n), s.f0.trans t.f0, t.fh, fun a o e => ?_, ?_, fun a ha => ?_, ?_, ?_, fun i av e => ?_, s.len, fun p hp => ?_⟩
  · rcases t.new a o e with h | h
    · exact s.new a o h
    · exact .inr (s.fresh0 h)
  · rw [List.nodup_append]
    exact ⟨s.nd, t.nd, fun a ha b hb e => hAB a ha (e ▸ hb)⟩
  · rcases List.mem_append.mp ha with ha | ha
    · cases e : F' a with
      | none => rfl
      | some o =>
        rcases t.new a o e with h | h
        · rw [s.fa a ha] at h; cases h
        · obtain ⟨o', e'⟩ := s.there ha
          rw [h] at e'; cases e'
    · exact t.fa a ha
  · obtain ⟨C, e1, hC⟩ := s.pre
    refine ⟨C ++ B, by rw [e1, List.append_assoc], fun a ha => ?_⟩
    rcases List.mem_append.mp ha with ha | ha
    · exact hC a ha
    · exact s.fresh0 (hB' a ha)
  · exact paired_app (paired_map s.rep fun a m ha h => h.mono t.f0 (keep a)) t.rep
  · obtain ⟨u, e1, h⟩ := s.slots i av e
    exact ⟨u, e1, repA_app (RepA.mono h t.f0 fun _ _ q => q)⟩
  · rcases List.mem_cons.mp hp with rfl | hp
    · have q : RepA K F' B r v := t.top
      cases r with
      | dat d => exact q
      | adr _ => exact q
      | loc j => obtain ⟨a, e, z⟩ := q; exact ⟨a, get_shift s.lenA e, z⟩
      | ins C f j => obtain ⟨a, dx, c, z, z1, z2, e⟩ := q; exact ⟨a, dx, c, z, z1, z2, get_shift s.lenA e⟩
    · exact repA_app (RepA.mono (s.temps p hp) t.f0 fun _ _ q => q)
theorem zip_map_mem {f : AV → AV} : ∀ {as : List AV} {vs : List V} {p : AV × V}, p ∈ as.zip vs → (f p.1, p.2) ∈ (as.map f).zip vs
  | [], _, _, h => by simp at h
  | _ :: _, [], _, h => by simp at h
  | a :: as, v :: vs, p, h => by
    simp only [List.zip_cons_cons, List.mem_cons, List.map_cons] at h ⊢
    rcases h with rfl | h
    · exact .inl rfl
    · exact .inr (zip_map_mem h)
/-- .. one of which may change -/
theorem Sin.enter1 (s : Sin P w K F0 H0 A0 Γ μ ((as.map (sh1 j μ.length)).zip vs ++ T) σ H F A) (e : A[j]? = some a) (em : μ[j]? = some m) (h : ∀ r ∈ as, r.below 1) : Sin P w K F H [a] [] [m] (as.zip vs) [] H F [a] where
  frame := fun _ _ e _ => e
  f0 := Sub.refl _
  fh := s.fh
  new := fun _ _ e => .inl e
  nd := by simp
  fa := fun b h => by rw [List.mem_singleton] at h; subst h; exact s.fa _ (List.mem_of_getElem? e)
  pre := ⟨[], rfl, fun _ h => by simp at h⟩
  rep := by
    obtain ⟨m', q1, q2⟩ := paired_get' s.rep e
    rw [em] at q1; cases q1
    exact .cons q2 .nil
  slots := fun i av e => by simp at e
  len := rfl
  temps := fun p hp => by
    have b := h p.1 (List.of_mem_zip (a := p.1) (b := p.2) hp).1
    have q := s.temps _ (List.mem_append_left _ (zip_map_mem (f := sh1 j μ.length) hp))
    obtain ⟨r, v⟩ := p
    cases r with
    | dat d => exact q
    | adr _ => exact q
    | loc k =>
      have b' : k < 1 := b
      obtain rfl : k = 0 := by omega
      obtain ⟨a', e', z⟩ := q
      rw [e] at e'; cases e'
      exact ⟨a, rfl, z⟩
    | ins C f k =>
      have b' : k < 1 := b
      obtain rfl : k = 0 := by omega
      obtain ⟨a', dx, c, z, z1, z2, e'⟩ := q
      rw [e] at e'; cases e'
      exact ⟨a', dx, a, z, z1, z2, rfl⟩
theorem Sin.leave1 (s : Sin P w K F0 H0 A0 Γ μ T σ H F A) (e : A[j]? = some a) (t : Sin P w K F H [a] [] (m' :: ν) [(r, v)] [] H' F' B) : ∃ C, Sin P w K F0 H0 A0 Γ (μ.set j m' ++ ν) ((sh1 j μ.length r, v) :: T) σ H' F' (A ++ C) := by
  obtain ⟨B0, e0, hB⟩ := t.pre
  have eB : B = a :: B0 := by simpa using e0
  subst eB
  have ha : a ∈ A := List.mem_of_getElem? e
  have keep : ∀ b o, H b = some o → b ≠ a → H' b = some o := fun b o e n => t.frame b o e (by simpa using n)
  have hAB : ∀ b ∈ A, b ∉ B0 := fun b hb hc => by
    obtain ⟨o, e⟩ := s.there hb
    rw [hB b hc] at e; cases e
  refine ⟨B0, fun b o q n => ?_, s.f0.trans t.f0, t.fh, fun b o e => ?_, ?_, fun b hb => ?_, ?_, ?_, fun i av e => ?_, s.len, fun p hp => ?_⟩
  · refine keep b o (s.frame b o q n) fun z => ?_
    subst z
    obtain ⟨C, e1, hC⟩ := s.pre
    rw [e1] at ha
    rcases List.mem_append.mp ha with z | z
    · exact n z
    · rw [hC b z] at q; cases q
  · rcases t.new b o e with h | h
    · exact s.new b o h
    · exact .inr (s.fresh0 h)
  · rw [List.nodup_append]
    exact ⟨s.nd, (List.nodup_cons.mp t.nd).2, fun b hb c hc e => hAB b hb (e ▸ hc)⟩
  · rcases List.mem_append.mp hb with hb | hb
    · cases e : F' b with
      | none => rfl
      | some o =>
        rcases t.new b o e with h | h
        · rw [s.fa b hb] at h; cases h
        · obtain ⟨o', e'⟩ := s.there hb
          rw [h] at e'; cases e'
    · exact t.fa b (List.mem_cons_of_mem _ hb)
  · obtain ⟨C, e1, hC⟩ := s.pre
    refine ⟨C ++ B0, by rw [e1, List.append_assoc], fun b hb => ?_⟩
    rcases List.mem_append.mp hb with hb | hb
    · exact hC b hb
    · exact s.fresh0 (hB b hb)
  · cases t.rep with
    | cons h1 h2 => exact paired_app (paired_set s.nd s.rep e (fun b m n h => h.mono t.f0 fun o q => keep b o q n) h1) h2
  · obtain ⟨u, e1, h⟩ := s.slots i av e
    exact ⟨u, e1, repA_app (RepA.mono h t.f0 fun _ _ q => q)⟩
  · rcases List.mem_cons.mp hp with rfl | hp
    · have q : RepA K F' (a :: B0) r v := t.top
      cases r with
      | dat d => exact q
      | adr _ => exact q
      | loc k =>
        cases k with
        | zero => obtain ⟨c, e', z⟩ := q; cases e'; exact ⟨a, get_app e, z⟩
        | succ k => obtain ⟨c, e', z⟩ := q; exact ⟨c, get_shift s.lenA (by simpa using e'), z⟩
      | ins C f k =>
        cases k with
        | zero => obtain ⟨c, dx, b, z, z1, z2, e'⟩ := q; cases e'; exact ⟨c, dx, a, z, z1, z2, get_app e⟩
        | succ k => obtain ⟨c, dx, b, z, z1, z2, e'⟩ := q; exact ⟨c, dx, b, z, z1, z2, get_shift s.lenA (by simpa using e')⟩
    · exact repA_app (RepA.mono (s.temps p hp) t.f0 fun _ _ q => q)
end

section
variable {X : Cx} {M : Mc} {N : List Str} {sc : Scope} {k k' j : Nat} {g g' : Bool} {Γ : Gm} {μ μ1 ν : Sto} {e : Expr} {es : List Expr} {as : List AV} {r : AV} {m m' : MO} {x : Str} {p pos apos : Pos}
theorem pass_nox (b : Bd X M N sc k g) : Passes CX0 X E0 := fun _ _ _ _ _ _ _ h => h.elim
theorem Bd.gl (b : Bd X M N sc k g) (h : sc.names.lookup x = some .globalImplicit) : Gl X x := by
  show X.env.scope.names.lookup x = _
  rw [b.ss]; exact h
theorem Bd.hp (b : Bd X M N sc k g) : PassesOwn (model X.prog X.w) X.A X.env X.xe := by rw [b.nox]; exact PassesOwn.never
/-- f(..), of values that stand by themselves -/
theorem ev_call (b : Bd X M N sc k g) (ha : EvA X Γ μ (e :: es) as μ1) (h : Cal g' M k' x as [] r ν) (hk : k' ≤ k) (hg : sc.names.lookup x = some .globalImplicit) (hb : ∀ r ∈ as, r.below 0) (hgg : g' = true → g = true := by decide) (hdb : (x == ("__debug__" : Str)) = false := by decide)
    (he : starEach (e :: es) X.env = (false, eval e X.env) :: starEach es X.env := by rfl) (hpl : (backTo pos (starEach es X.env)).any (·.1) = false := by rfl) : EvE X Γ μ (.Call (.Name x p) (e :: es) [] pos) (sh0 μ1.length r) (μ1 ++ ν) := .mk fun F0 H0 A0 T σ H st Q q pins s I => by
  have gl := b.gl hg
  have nox := b.nox
  have calm := b.gd
  have room := b.room
  obtain ⟨f, fd, ps, h1, h2, h3, h4⟩ := h
  obtain rfl := b.mc
  refine wpAny_Call_Name_kw (ld_glob I gl h1 ?_ hdb)
  refine PySem.W.callWith_K (h₀ := X.base) I.ok.mod.kin h2 (thn (ha F0 H0 A0 T σ H st (fun vs H1 => vs.length = as.length ∧ Stt X F0 H0 A0 Γ μ1 (as.zip vs ++ T) σ H1) (fun _ _ l st1 => ⟨l, st1⟩) pos pins s I) fun us s1 ⟨vs, H1, I1, r1, l, st1⟩ => ⟨I1.kIn, ?_⟩) he hpl
  obtain ⟨F, A, si⟩ := st1
  refine run_fg (h4.mono hk) (fun z => calm (hgg z)) room h3 (pass0 (X := X)) I1 r1 ⟨l, F, [], si.enter0 hb, fun v H' F' A' t => q v H' ⟨F', _, (si.tmp (T' := T) fun p hp => List.mem_append_right _ hp).leave0 t⟩⟩
/-- f(..), where one of the values may change -/
theorem ev_callM (b : Bd X M N sc k g) (ha : EvA X Γ μ (e :: es) (as.map (sh1 j μ1.length)) μ1) (h : Cal g' M k' x as [m] r (m' :: ν)) (hj : μ1[j]? = some m) (hk : k' ≤ k) (hg : sc.names.lookup x = some .globalImplicit) (hb : ∀ r ∈ as, r.below 1) (hgg : g' = true → g = true := by decide) (hdb : (x == ("__debug__" : Str)) = false := by decide)
    (he : starEach (e :: es) X.env = (false, eval e X.env) :: starEach es X.env := by rfl) (hpl : (backTo pos (starEach es X.env)).any (·.1) = false := by rfl) : EvE X Γ μ (.Call (.Name x p) (e :: es) [] pos) (sh1 j μ1.length r) (μ1.set j m' ++ ν) := .mk fun F0 H0 A0 T σ H st Q q pins s I => by
  have gl := b.gl hg
  have nox := b.nox
  have calm := b.gd
  have room := b.room
  obtain ⟨f, fd, ps, h1, h2, h3, h4⟩ := h
  obtain rfl := b.mc
  refine wpAny_Call_Name_kw (ld_glob I gl h1 ?_ hdb)
  refine PySem.W.callWith_K (h₀ := X.base) I.ok.mod.kin h2 (thn (ha F0 H0 A0 T σ H st (fun vs H1 => vs.length = (as.map (sh1 j μ1.length)).length ∧ Stt X F0 H0 A0 Γ μ1 ((as.map (sh1 j μ1.length)).zip vs ++ T) σ H1) (fun _ _ l st1 => ⟨l, st1⟩) pos pins s I) fun us s1 ⟨vs, H1, I1, r1, l, st1⟩ => ⟨I1.kIn, ?_⟩) he hpl
  obtain ⟨F, A, si⟩ := st1
  obtain ⟨a, ea, _⟩ := paired_get si.rep hj
  refine run_fg (h4.mono hk) (fun z => calm (hgg z)) room h3 (pass0 (X := X)) I1 r1 ⟨by simpa using l, F, [a], si.enter1 ea hj hb, fun v H' F' A' t => ?_⟩
  obtain ⟨C, t'⟩ := (si.tmp (T' := T) fun p hp => List.mem_append_right _ hp).leave1 ea t
  exact q v H' ⟨F', _, t'⟩
end
end DL
set_option maxHeartbeats 2000000
/-! list + list; freezing; pair stores; op= ; stores into a list; chains of comparisons; is of bools. -/
namespace DL
open PySem PySem.Spec PyProof.Rows L2
section
variable {X : Cx} {Γ Γ' : Gm} {μ μ1 μ2 μ3 ν : Sto} {a b c e tg : Expr} {es : List Expr} {r ra rb rc : AV} {ds cs : List PyData} {d : PyData} {pos p q2 : Pos} {O : Out}

/-! ### freezing -/
theorem EvE.fixG {ds : List PyData} (h : EvE X Γ μ e (.loc μ1.length) (μ1 ++ [.lst ds])) (l : μ.length ≤ μ1.length) : EvE X Γ μ e (.dat (.list ds)) μ1 := .mk fun F0 H0 A0 T σ H st Q q =>
  h F0 H0 A0 T σ H st Q fun v H' st' => q v H' (by
    obtain ⟨F, A, s⟩ := st'
    obtain ⟨p, ep, ev⟩ := s.top
    obtain ⟨A', p', o, rfl, la, ho, rm, hF, s'⟩ := s.pop.fix (Nat.le_trans st.a0 l) (fun i av e => below_mono (st.gam i av e) l) fun p hp => below_mono (st.tbl p hp) l
    have e1 : p' = p := by
      have : (A' ++ [p'])[μ1.length]? = some p' := by rw [← la]; simp
      rw [this] at ep; exact Option.some.inj ep
    subst e1
    obtain ⟨vs, hv, hd⟩ := rm
    have eo : HO.lst vs = o := by rw [ho] at hv; exact (Option.some.inj hv).symm
    subst eo
    refine ⟨_, _, s'.val ?_⟩
    have ev' : v = .ref p' := ev
    subst ev'
    exact Dp.lst (SqL.of upd_same) (dps_mono (Sub.upd hF) _ _ hd))
/-- .. and what was made on the way forgotten -/
theorem EvE.frz {ds : List PyData} {n : Nat} (h : EvE X Γ μ e (.loc n) (μ ++ ν ++ [.lst ds])) (hn : n = (μ ++ ν).length := by simp [Nat.add_assoc]) : EvE X Γ μ e (.dat (.list ds)) μ := by
  subst hn
  exact (EvE.fixG h (by rw [List.length_append]; omega)).dat

/-! ### list + list, both in the store -/
theorem o_catL {i j : Nat} (h1 : μ[i]? = some (.lst ds)) (h2 : μ[j]? = some (.lst cs)) (hz : ds.length + cs.length ≤ sizeLine) : OpE X (binaryOp .Add) Γ μ (.loc i) (.loc j) (.loc μ.length) (μ ++ [.lst (ds ++ cs)]) := .mk fun F0 H0 A0 T σ H x y st Q q pins s v u I rx ry => by
  obtain ⟨F, A, si⟩ := st
  obtain ⟨p, ep, rfl⟩ := si.pop.top
  obtain ⟨p', ep', rfl⟩ := si.top
  obtain ⟨q1, xs, e1, hx, dx⟩ := si.lstAt h1
  obtain ⟨q2, ys, e2, hy, dy⟩ := si.lstAt h2
  obtain rfl : q1 = p := by rw [show A[i]? = some p from ep] at e1; exact (Option.some.inj e1).symm
  obtain rfl : q2 = p' := by rw [show A[j]? = some p' from ep'] at e2; exact (Option.some.inj e2).symm
  refine op_cat pins s σ H _ _ v u Q I rx ry ⟨_, _, xs, ys, rfl, rfl, hx, hy, by rw [dps_len dx, dps_len dy]; exact hz, fun p hp => ?_⟩
  exact q _ _ ⟨_, _, si.pop.pop.last hp ⟨_, upd_same, dps_app dx dy⟩⟩

/-! ### stores -/
theorem ex_asgG {W : List Nat} (h : EvE X Γ μ e r μ1) (g : GtE X tg Γ μ1 r Γ' W) (k : O.nx Γ' μ1) (hs : swapsWithSole [tg] e pos.line X.env = pure false := by rfl) (hw : swappedStores [tg] e X.env = pure none := by rfl)
    (h1 : (assignEach [tg] X.env).map (·.2) = [assign tg X.env] := by rfl) : Ex1 X Γ μ (.Assign [tg] e pos) O := .mk fun F0 H0 A0 T σ H st =>
  wS_of (ps_asg pe_w pg_w hs hw h1) (h F0 H0 A0 T σ H st _ fun v H1 st1 => g F0 H0 A0 T σ H1 v st1 _ fun σ' H' _ _ st2 => ⟨_, _, k, st2⟩)
/-- a, b, .. = a list of the store -/
theorem gt_lst {W : List Nat} {j n : Nat} (hc : X.calm = true) (hj : μ[j]? = some (.lst ds)) (h : GtsE X es Γ μ (ds.map .dat) Γ' W) (hn : (assignEach es X.env).length = ds.length := by rfl) (hst : (assignEach es X.env).findIdx? (·.1) = none := by rfl) : GtE X (.Tuple es n pos) Γ μ (.loc j) Γ' W := .mk fun F0 H0 A0 T σ H v st Q q =>
  wG_of (pg_lst hc pgs_w hn hst) (by
    obtain ⟨F, A, si⟩ := st
    obtain ⟨p, vs, rfl, hv, hd⟩ := (LsA.loc hj).read si si.top
    refine ⟨p, vs, rfl, hv, dps_len hd, h F0 H0 A0 T σ H vs (by rw [List.length_map]; exact dps_len hd) ⟨F, A, { si.pop with temps := fun p hp => ?_ }⟩ Q q⟩
    rcases List.mem_append.mp hp with hp | hp
    · exact zip_mem hd p hp
    · exact si.pop.temps p hp)
/-- a, b = x, y -/
theorem ex_par {i j : Nat} {x y : Str} {px py pt : Pos} {kt k2 : Nat} {pt2 : Pos} (ha : EvA X Γ μ [a, b] [ra, rb] μ1) (k : O.nx ((Γ.set i (some ra)).set j (some rb)) μ1) (hc : X.calm = true) (hN : X.N.Nodup) (hi : X.N[i]? = some x) (hj : X.N[j]? = some y)
    (hx : X.env.scope.names.lookup x = some .local) (hy : X.env.scope.names.lookup y = some .local)
    (hw : swappedStores [.Tuple [.Name x px, .Name y py] kt pt] (.Tuple [a, b] k2 pt2) X.env = pure (some [x, y])) (hij : i ≠ j := by decide)
    (hs : swapsWithSole [.Tuple [.Name x px, .Name y py] kt pt] (.Tuple [a, b] k2 pt2) pos.line X.env = pure false := by rfl) :
    Ex1 X Γ μ (.Assign [.Tuple [.Name x px, .Name y py] kt pt] (.Tuple [a, b] k2 pt2) pos) O := .mk fun F0 H0 A0 T σ H st =>
  wS_of (ps_par hc hN hi hj hij hx hy pa_w hw hs) (ha F0 H0 A0 T σ H st _ fun vs H1 l st1 => by
    match vs, l with
    | [v, w], _ =>
      obtain ⟨F, A, si⟩ := st1
      refine ⟨v, w, rfl, _, _, k, F, A, ?_⟩
      have h1 : RepA X.K F A ra v := si.temps (ra, v) (by simp)
      have h2 : RepA X.K F A rb w := si.temps (rb, w) (by simp)
      exact ((si.tmp (T' := T) fun p hp => by simp [hp]).slot h1).slot h2)
/-- x //= n -/
theorem ex_augDiv {i : Nat} {x : Str} {px : Pos} {n m : Int} (h : EvE X Γ μ e (.dat (.int m)) μ1) (hG : Γ[i]? = some (some (.dat (.int n)))) (hc : CDivW n m) (k : O.nx (Γ.set i (some (.dat (.int (n / m))))) μ1) (hN : X.N.Nodup) (hi : X.N[i]? = some x) (hx : Loc X.env.scope x) (hf : X.fn x = true ∨ X.env.scope.names.lookup x = some .local) :
    Ex1 X Γ μ (.AugAssign (.Name x px) .FloorDiv e pos) O := .mk fun F0 H0 A0 T σ H st =>
  wS_of (ps_aug hN hi hx pe_w iop_fdivW hf) (by
    obtain ⟨F, A, si⟩ := st
    obtain ⟨v, ev, rv⟩ := si.slots i _ hG
    obtain rfl : v = .int n := dpi rv
    refine ⟨_, ev, h F0 H0 A0 T σ H ⟨F, A, si⟩ _ fun u H1 st1 => ?_⟩
    obtain ⟨F1, A1, s1⟩ := st1
    obtain rfl : u = .int m := dpi s1.top
    exact ⟨n, m, rfl, rfl, hc, _, _, k, F1, A1, s1.pop.slot (r := .dat (.int (n / m))) (.int _)⟩)

/-! ### o[i] = v, o a list of the store -/
theorem ex_setL {i : Int} {k j : Nat} {o ix : Expr} (he : EvE X Γ μ e (.dat d) μ1) (ho : EvE X Γ μ1 o (.loc k) μ2) (hi : EvE X Γ μ2 ix (.dat (.int i)) μ3) (hm : μ3[k]? = some (.lst ds)) (hj : ixN ds.length i = some j) (kk : O.nx Γ (μ3.set k (.lst (ds.set j d))))
    (ha : ∀ v, assign (.Subscript o ix p) X.env v = (do
      let ov ← holding [v] (eval o X.env)
      let iv ← holding [v, ov] (eval ix X.env)
      standAt p
      holding [v, ov, iv] (setItem ov iv v)
      release [v, ov, iv] []) := by intro _; rfl) (hs : swapsWithSole [.Subscript o ix p] e pos.line X.env = pure false := by rfl) (hw : swappedStores [.Subscript o ix p] e X.env = pure none := by rfl)
    (h1 : (assignEach [.Subscript o ix p] X.env).map (·.2) = [assign (.Subscript o ix p) X.env] := by rfl) : Ex1 X Γ μ (.Assign [.Subscript o ix p] e pos) O := .mk fun F0 H0 A0 T σ H st =>
  wS_of (ps_asg pe_w (pg_sub pe_w pe_w set_list ha) hs hw h1) (he F0 H0 A0 T σ H st _ fun v H1 st1 => ho F0 H0 A0 _ σ H1 st1 _ fun ov H2 st2 => hi F0 H0 A0 _ σ H2 st2 _ fun iv H3 st3 => by
    obtain ⟨F, A, si⟩ := st3
    obtain rfl : iv = .int i := dpi si.top
    obtain ⟨q, eq, rfl⟩ := si.pop.top
    obtain ⟨q', vs, eq', hv, hd⟩ := si.lstAt hm
    obtain rfl : q' = q := by rw [show A[k]? = some q from eq] at eq'; exact (Option.some.inj eq').symm
    refine ⟨_, vs, i, j, rfl, rfl, hv, by rw [dps_len hd]; exact hj, _, _, kk, F, A, si.pop.pop.pop.put eq' ⟨_, upd_same, dps_set _ hd si.pop.pop.top⟩⟩)

/-! ### a < b < c; is of bools -/
theorem et_chain {op op' : CmpOp} {k m : Bool} {r1 r2 : R2} (o1 : OpR X (compareOp op) r1) (o2 : OpR X (compareOp op') r2) (ha : EvE X Γ μ a ra μ) (hb : EvE X Γ μ b rb μ) (hc : EvE X Γ μ c rc μ)
    (h1 : ∀ F0 H0 A0 T σ H x y, Stt X F0 H0 A0 Γ μ ((rb, y) :: (ra, x) :: T) σ H → ∀ Q : VK, Q (.bl k) H → r1 x y H Q)
    (h2 : ∀ F0 H0 A0 T σ H x y, Stt X F0 H0 A0 Γ μ ((rc, y) :: (rb, x) :: T) σ H → ∀ Q : VK, Q (.bl m) H → r2 x y H Q)
    (hm : lastMarks [op, op'] [b, c] = false := by with_unfolding_all rfl) : EvT X Γ μ (.Compare a [op, op'] [b, c] pos) (k && m) μ := .mk fun F0 H0 A0 T σ H st Q q =>
  wT_of (pt_chain o1 o2 pe_w pe_w pe_w hm) (ha F0 H0 A0 T σ H st _ fun v H1 st1 => hb F0 H0 A0 _ σ H1 st1 _ fun u H2 st2 => h1 F0 H0 A0 T σ H2 v u st2 _ (by
    refine ⟨k, rfl, ?_⟩
    cases k with
    | false => exact iteF ⟨false, rfl, q H2 st2.pop.pop⟩
    | true =>
      refine iteT (hc F0 H0 A0 _ σ H2 (st2.tmp (T' := (rb, u) :: T) fun p hp => by simp at hp ⊢; rcases hp with h | h; exact .inl h; exact .inr (.inr h)) _ fun w H3 st3 => h2 F0 H0 A0 T σ H3 u w st3 _ ⟨m, rfl, q H3 st3.pop.pop⟩)))
theorem et_lele {i j l : Int} (ha : EvE X Γ μ a (.dat (.int i)) μ) (hb : EvE X Γ μ b (.dat (.int j)) μ) (hc : EvE X Γ μ c (.dat (.int l)) μ) (hm : lastMarks [.LtE, .LtE] [b, c] = false := by with_unfolding_all rfl) : EvT X Γ μ (.Compare a [.LtE, .LtE] [b, c] pos) (decide (i ≤ j) && decide (j ≤ l)) μ :=
  et_chain op_le op_le ha hb hc (fun F0 H0 A0 T σ H x y ⟨F, A, si⟩ Q q => ⟨i, j, dpi si.pop.top, dpi si.top, q⟩) (fun F0 H0 A0 T σ H x y ⟨F, A, si⟩ Q q => ⟨j, l, dpi si.pop.top, dpi si.top, q⟩) hm
theorem o_isB {k m : Bool} : OpE X (compareOp .Is) Γ μ (.dat (.bool k)) (.dat (.bool m)) (.dat (.bool (decide (k = m)))) μ := op_dd op_isBl fun F H x y _ hx hy Q q => by
  cases hx; cases hy; exact ⟨_, _, rfl, rfl, q _ (.bl _)⟩
theorem o_isnB {k m : Bool} : OpE X (compareOp .IsNot) Γ μ (.dat (.bool k)) (.dat (.bool m)) (.dat (.bool (!decide (k = m)))) μ := op_dd op_notBl fun F H x y _ hx hy Q q => by
  cases hx; cases hy; exact ⟨_, _, rfl, rfl, q _ (.bl _)⟩
/-- one sign within a text -/
theorem o_sgn {ch : Nat} {z : Str} : OpE X (compareOp .In) Γ μ (.dat (.str ⟨#[ch]⟩)) (.dat (.str z)) (.dat (.bool (decide (ch ∈ z.cps.toList)))) μ := op_dd op_in_sign fun F H x y _ hx hy Q q => by
  cases hx; cases hy; exact ⟨ch, z, rfl, rfl, q _ (.bl _)⟩
theorem o_nsgn {ch : Nat} {z : Str} : OpE X (compareOp .NotIn) Γ μ (.dat (.str ⟨#[ch]⟩)) (.dat (.str z)) (.dat (.bool (!decide (ch ∈ z.cps.toList)))) μ := op_dd op_notIn_sign fun F H x y _ hx hy Q q => by
  cases hx; cases hy; exact ⟨ch, z, rfl, rfl, q _ (.bl _)⟩
end
end DL
set_option maxHeartbeats 2000000
/-! Dicts whose keys are nested tuples. -/
namespace DL
open PySem PySem.Spec PyProof.Rows L2

/-! ### data as keys -/
mutual
def nk : PyData → NestedKey
  | .int i => .num i
  | .str x => .text x
  | .tuple ds => .tup (nks ds)
  | _ => .none
def nks : List PyData → List NestedKey
  | [] => []
  | d :: ds => nk d :: nks ds
end
mutual
def nkOk : PyData → Bool
  | .none => true
  | .int _ => true
  | .str _ => true
  | .tuple ds => nkOks ds
  | _ => false
def nkOks : List PyData → Bool
  | [] => true
  | d :: ds => nkOk d && nkOks ds
end
mutual
theorem nk_data : ∀ d : PyData, nkOk d = true → (nk d).data = d
  | .none, _ => rfl
  | .int _, _ => rfl
  | .str _, _ => rfl
  | .tuple ds, h => by simp only [nk, NestedKey.data]; rw [nks_datas ds h]
  | .bool _, h => by cases h
  | .list _, h => by cases h
  | .dict _, h => by cases h
theorem nks_datas : ∀ ds : List PyData, nkOks ds = true → NestedKey.datas (nks ds) = ds
  | [], _ => rfl
  | d :: ds, h => by
    simp only [nkOks, Bool.and_eq_true] at h
    simp only [nks, NestedKey.datas]
    rw [nk_data d h.1, nks_datas ds h.2]
end
theorem nk_inj {a b : PyData} (ha : nkOk a = true) (hb : nkOk b = true) (h : nk a = nk b) : a = b := by
  rw [← nk_data a ha, ← nk_data b hb, h]
section
variable {X : Cx} {pins : List (Addr × Obj)} {σ : Sl} {H F : Hp} {s : Shared}
mutual
theorem nested_of (I : Inv X pins σ H s) : ∀ (k : NestedKey) (v : V) (u : Value), Dp X.K H v k.data → RelV v u → NestedIs s.heap k u
  | .none, v, u, h, r => by cases h; cases r; exact .none
  | .num i, v, u, h, r => by cases h; obtain ⟨t, rfl⟩ := r; exact .int _ _
  | .text x, v, u, h, r => by cases h; obtain ⟨t, rfl⟩ := r; exact .text _ _
  | .tup ks, v, u, h, r => by
    rw [NestedKey.data] at h
    cases h with
    | tup h1 h2 =>
      cases r
      obtain ⟨its, rv, ⟨o, ho, hc, n, hd⟩, _⟩ := I.tuple h1
      exact .tup ho hc hd (nested_all I ks _ _ h2 rv)
theorem nested_all (I : Inv X pins σ H s) : ∀ (ks : List NestedKey) (vs : List V) (us : List Value), DpAll X.K H vs (NestedKey.datas ks) → Vals vs us → NestedAll s.heap ks us
  | [], _, _, h, r => by cases h; cases r; exact .nil
  | k :: ks, vs, us, h, r => by
    rw [NestedKey.datas] at h
    cases h with
    | cons h1 h2 =>
      cases r with
      | cons r1 r2 => exact .cons (nested_of I k _ _ h1 r1) (nested_all I ks _ _ h2 r2)
end
end

/-! ### the dict -/
def valD (kvs : List (NestedKey × PyData)) (k : NestedKey) : Option PyData := (kvs.find? fun x => decide (x.1 = k)).map (·.2)
def ents (xs : List (NestedKey × Addr × V)) (us : List Value) : List (NestedKey × Addr × Value) := List.zipWith (fun x u => (x.1, x.2.1, u)) xs us
theorem ents_keys : ∀ (xs : List (NestedKey × Addr × V)) (us : List Value), us.length = xs.length → (ents xs us).map (·.1) = xs.map (·.1)
  | [], _, _ => by simp [ents]
  | x :: xs, [], h => by simp at h
  | x :: xs, u :: us, h => by
    show x.1 :: (ents xs us).map (·.1) = _
    rw [ents_keys xs us (by simpa using h)]; rfl
theorem ents_len (xs : List (NestedKey × Addr × V)) (us : List Value) (h : us.length = xs.length) : (ents xs us).length = xs.length := by
  unfold ents; rw [List.length_zipWith, h, Nat.min_self]
def RK (K : PySem.W.Frag) (F : Hp) (p : NestedKey × PyData) (q : NestedKey × Addr × V) : Prop := p.1 = q.1 ∧ Dp K F (.ref q.2.1) p.1.data ∧ p.1.depth ≤ 8 ∧ Dp K F q.2.2 p.2
theorem keys_of {K : PySem.W.Frag} {F : Hp} : ∀ {kvs : List (NestedKey × PyData)} {xs : List (NestedKey × Addr × V)}, Paired (RK K F) kvs xs → xs.map (·.1) = kvs.map (·.1)
  | _, _, .nil => rfl
  | _, _, .cons r t => by simp [keys_of t, r.1]
theorem at_key {K : PySem.W.Frag} {F : Hp} {k : NestedKey} : ∀ {kvs : List (NestedKey × PyData)} {xs : List (NestedKey × Addr × V)} {us : List Value}, Paired (RK K F) kvs xs → Vals (xs.map (·.2.2)) us →
    match valD kvs k with
    | none => atKey (ents xs us) k = none
    | some d => ∃ b u v, atKey (ents xs us) k = some (b, u) ∧ RelV v u ∧ Dp K F v d
  | _, _, _, .nil, .nil => by simp [valD, atKey, ents]
  | (k', d) :: kvs, (kx, b, v) :: xs, u :: us, .cons r t, .cons r1 r2 => by
    obtain ⟨e1, _, _, e4⟩ := r
    simp only at e1
    subst e1
    by_cases e : k' = k
    · simp only [valD, List.find?_cons, decide_eq_true e, Option.map_some]
      refine ⟨b, u, v, ?_, r1, e4⟩
      show (List.find? _ ((k', b, u) :: ents xs us)).map _ = _
      rw [List.find?_cons, decide_eq_true e]; rfl
    · have ih := at_key (k := k) t r2
      have q1 : valD ((k', d) :: kvs) k = valD kvs k := by simp [valD, List.find?_cons, e]
      have q2 : atKey (ents ((k', b, v) :: xs) (u :: us)) k = atKey (ents xs us) k := by
        show (List.find? _ ((k', b, u) :: ents xs us)).map _ = _
        rw [List.find?_cons, decide_eq_false e]; rfl
      rw [q1, q2]; exact ih
section
variable {X : Cx} {pins : List (Addr × Obj)} {σ : Sl} {H F : Hp} {s : Shared} {a : Addr} {kvs : List (NestedKey × PyData)}
abbrev kn (X : Cx) : HeapKind X.prog X.w NestedKey := nestedKind X.prog X.w
theorem dt_open (I : Inv X pins σ H s) (hs : Sub F H) (h : RepM X.prog X.w X.K F H a (.dT kvs)) : ∃ xs us, H a = some (rawT X.prog X.w xs a) ∧ (kvs.map (·.1)).Nodup ∧ Paired (RK X.K F) kvs xs ∧ Vals (xs.map (·.2.2)) us ∧ (a == sysModules) = false ∧ s.heap.DictOfH (kn X) a (ents xs us) := by
  obtain ⟨xs, h1, h2, h3⟩ := h
  obtain ⟨⟨hd, o, es, ep, us, ho, hx, hdat, rv, he⟩, _, _⟩ : ObjOk X.prog X.w H s.heap a (rawT X.prog X.w xs a) := I.hok a _ h1
  have hl : us.length = xs.length := by rw [← rv.length, List.length_map]
  refine ⟨xs, us, h1, h2, h3, rv, hd, o, es, ep, ho, hx, hdat, ?_, fun y hy => ?_, ?_⟩
  · rw [he]; unfold ents; rw [List.map_zipWith]
  · have : ∀ {kvs : List (NestedKey × PyData)} {xs : List (NestedKey × Addr × V)} {us : List Value}, Paired (RK X.K F) kvs xs → y ∈ ents xs us → (kn X).is s.heap y.1 y.2.1 := by
      intro kvs xs us t
      induction t generalizing us with
      | nil => intro q; simp [ents] at q
      | cons r t ih =>
        intro q
        cases us with
        | nil => simp [ents] at q
        | cons u us =>
          rcases List.mem_cons.mp (show y ∈ _ :: ents _ us from q) with rfl | q
          · obtain ⟨e1, e2, e3, _⟩ := r
            rw [← e1]
            exact ⟨nested_of I _ _ _ (dp_mono hs _ _ e2) rfl, e3⟩
          · exact ih q
    exact this h3 hy
  · rw [ents_keys xs us hl, keys_of h3]; exact h2
end

section
variable {X : Cx} {Γ : Gm} {μ μ1 μ2 μ3 : Sto} {a b e : Expr} {d kd : PyData} {kvs : List (NestedKey × PyData)} {k : NestedKey} {j : Nat} {pos p : Pos} {r : AV} {O : Out}
theorem Sin.dtAt {P : Program} {w : World} {K : PySem.W.Frag} {F0 H0 F H : Hp} {A0 A : List Addr} {T : Tmp} {σ : Sl} (s : Sin P w K F0 H0 A0 Γ μ T σ H F A) (e : μ[j]? = some (.dT kvs)) {v : V} (h : RepA K F A (.loc j) v) : ∃ a, v = .ref a ∧ A[j]? = some a ∧ RepM P w K F H a (.dT kvs) := by
  obtain ⟨a, ea, rfl⟩ := h
  obtain ⟨m, h1, h2⟩ := paired_get' s.rep ea
  rw [e] at h1; cases h1
  exact ⟨a, rfl, ea, h2⟩
theorem valD_none (h : valD kvs k = none) : k ∉ kvs.map (·.1) := fun hm => by
  obtain ⟨p, hp, e⟩ := List.mem_map.mp hm
  simp only [valD, Option.map_eq_none_iff, List.find?_eq_none, decide_eq_true_eq] at h
  exact h p hp e
theorem o_inT (hu : X.A.units + 64 < cLine) (hm : μ[j]? = some (.dT kvs)) (hk : nkOk kd = true) (hd : (nk kd).depth ≤ 8) (hT : ∃ ds, kd = .tuple ds) : OpE X (compareOp .In) Γ μ (.dat kd) (.loc j) (.dat (.bool (valD kvs (nk kd)).isSome)) μ := .mk fun F0 H0 A0 T σ H x y st Q q pins s v u I rx ry => by
  obtain ⟨F, A, si⟩ := st
  obtain ⟨a, rfl, ea, rm⟩ := si.dtAt hm si.top
  obtain ⟨ds, rfl⟩ := hT
  have hx : Dp X.K F x (.tuple ds) := si.pop.top
  obtain ⟨xs, us, h1, h2, h3, h4, h5, h6⟩ := dt_open I si.fh rm
  cases hx with
  | @tup p vs _ hq hd' =>
    cases rx; cases ry
    have key : (kn X).is s.heap (nk (.tuple ds)) p := ⟨nested_of I _ (.ref p) (.ref p) (by rw [nk_data _ hk]; exact dp_mono si.fh _ _ (.tup hq hd')) rfl, hd⟩
    refine wpAny_in_heap (knd := kn X) (by show X.A.units + 1 + 8 < cLine; omega) key h5 h6 ?_
    have z := at_key (k := nk (.tuple ds)) h3 h4
    have e : (atKey (ents xs us) (nk (.tuple ds))).isSome = (valD kvs (nk (.tuple ds))).isSome := by
      cases q : valD kvs (nk (.tuple ds)) with
      | none => rw [q] at z; rw [z]; rfl
      | some d => rw [q] at z; obtain ⟨b, u, v, z, _⟩ := z; rw [z]; rfl
    rw [e]
    exact ⟨.bl _, H, I.tok _, rfl, q _ H ⟨F, A, si.pop.pop.val (r := .dat (.bool _)) (.bl _)⟩⟩
theorem o_ninT (hu : X.A.units + 64 < cLine) (hm : μ[j]? = some (.dT kvs)) (hk : nkOk kd = true) (hd : (nk kd).depth ≤ 8) (hT : ∃ ds, kd = .tuple ds) : OpE X (compareOp .NotIn) Γ μ (.dat kd) (.loc j) (.dat (.bool (!(valD kvs (nk kd)).isSome))) μ := .mk fun F0 H0 A0 T σ H x y st Q q pins s v u I rx ry => by
  obtain ⟨F, A, si⟩ := st
  obtain ⟨a, rfl, ea, rm⟩ := si.dtAt hm si.top
  obtain ⟨ds, rfl⟩ := hT
  have hx : Dp X.K F x (.tuple ds) := si.pop.top
  obtain ⟨xs, us, h1, h2, h3, h4, h5, h6⟩ := dt_open I si.fh rm
  cases hx with
  | @tup p vs _ hq hd' =>
    cases rx; cases ry
    have key : (kn X).is s.heap (nk (.tuple ds)) p := ⟨nested_of I _ (.ref p) (.ref p) (by rw [nk_data _ hk]; exact dp_mono si.fh _ _ (.tup hq hd')) rfl, hd⟩
    have z := at_key (k := nk (.tuple ds)) h3 h4
    have e : (atKey (ents xs us) (nk (.tuple ds))).isSome = (valD kvs (nk (.tuple ds))).isSome := by
      cases q : valD kvs (nk (.tuple ds)) with
      | none => rw [q] at z; rw [z]; rfl
      | some d => rw [q] at z; obtain ⟨b, u, v, z, _⟩ := z; rw [z]; rfl
    refine notIn_keyed (knd := kn X) (by show X.A.units + 1 + 8 < cLine; omega) key h5 ⟨_, h6, rfl⟩ ?_
    rw [valueAt_pairsH, Option.isSome_map, e]
    exact ⟨.bl _, H, I.tok _, rfl, q _ H ⟨F, A, si.pop.pop.val (r := .dat (.bool _)) (.bl _)⟩⟩
/-- d[key] -/
theorem ev_getT (hu : X.A.units + 64 < cLine) (ha : EvE X Γ μ a (.loc j) μ1) (hb : EvE X Γ μ1 b (.dat kd) μ2) (hs : NoSl b) (hm : μ2[j]? = some (.dT kvs)) (hk : nkOk kd = true) (hd : (nk kd).depth ≤ 8) (hT : ∃ ds, kd = .tuple ds) (hv : valD kvs (nk kd) = some d) : EvE X Γ μ (.Subscript a b pos) (.dat d) μ2 := .mk fun F0 H0 A0 T σ H st Q q pins s I => by
  refine subD_of PySem.F.slot_dict_getitem.lookup hs (thn (ha F0 H0 A0 T σ H st _ (fun v H1 st1 => show Stt X F0 H0 A0 Γ μ1 ((.loc j, v) :: T) σ H1 from st1) pins s I) fun ov s1 ⟨x, H1, I1, rx, st1⟩ => thn (hb F0 H0 A0 _ σ H1 st1 _ (fun v H2 st2 => show Stt X F0 H0 A0 Γ μ2 ((.dat kd, v) :: (.loc j, x) :: T) σ H2 from st2) pins s1 I1) fun iv s2 ⟨y, H2, I2, ry, st2⟩ => ?_)
  obtain ⟨F, A, si⟩ := st2
  obtain ⟨p, rfl, ea, rm⟩ := si.dtAt hm si.pop.top
  obtain ⟨ds, rfl⟩ := hT
  have hy : Dp X.K F y (.tuple ds) := si.top
  obtain ⟨xs, us, h1, h2, h3, h4, h5, h6⟩ := dt_open I2 si.fh rm
  cases hy with
  | @tup kp vs _ hq hd' =>
    cases rx; cases ry
    have key : (kn X).is s2.heap (nk (.tuple ds)) kp := ⟨nested_of I2 _ (.ref kp) (.ref kp) (by rw [nk_data _ hk]; exact dp_mono si.fh _ _ (.tup hq hd')) rfl, hd⟩
    have z := at_key (k := nk (.tuple ds)) h3 h4
    rw [hv] at z
    obtain ⟨b, u, v, z, rv, dv⟩ := z
    refine ⟨h6.typeIs, ?_⟩
    exact wpAny_getItem_heap (knd := kn X) (by show X.A.units + 1 + 8 < cLine; omega) key h6 z ⟨v, H2, I2.tok _, rv, q _ H2 ⟨F, A, si.pop.pop.val (r := .dat d) dv⟩⟩
theorem vals_app {xs ys : List V} {us ws : List Value} (h : Vals xs us) (g : Vals ys ws) : Vals (xs ++ ys) (us ++ ws) := h.append g
/-- d[key] = v, the key new -/
theorem ex_putT (hu : X.A.units + 64 < cLine) {o ix : Expr} (he : EvE X Γ μ e (.dat d) μ1) (ho : EvE X Γ μ1 o (.loc j) μ2) (hi : EvE X Γ μ2 ix (.dat kd) μ3) (hm : μ3[j]? = some (.dT kvs)) (hk : nkOk kd = true) (hd : (nk kd).depth ≤ 8) (hT : ∃ ds, kd = .tuple ds) (hv : valD kvs (nk kd) = none) (hz : kvs.length ≤ sizeLine)
    (kk : O.nx Γ (μ3.set j (.dT (kvs ++ [(nk kd, d)])))) (hs : swapsWith e (some (.Subscript o ix p)) pos.line X.env = pure false := by rfl) : Ex1 X Γ μ (.Assign [.Subscript o ix p] e pos) O := .mk fun F0 H0 A0 T σ H st pins s I => by
  refine wpAny_Assign_Subscript (thn (he F0 H0 A0 T σ H st _ (fun v H1 st1 => show Stt X F0 H0 A0 Γ μ1 ((.dat d, v) :: T) σ H1 from st1) pins s I) fun r s1 ⟨v, H1, I1, rv, st1⟩ => thn (ho F0 H0 A0 _ σ H1 st1 _ (fun ov H2 st2 => show Stt X F0 H0 A0 Γ μ2 ((.loc j, ov) :: (.dat d, v) :: T) σ H2 from st2) pins s1 I1) fun u s2 ⟨x, H2, I2, rx, st2⟩ => thn (hi F0 H0 A0 _ σ H2 st2 _ (fun iv H3 st3 => show Stt X F0 H0 A0 Γ μ3 ((.dat kd, iv) :: (.loc j, x) :: (.dat d, v) :: T) σ H3 from st3) pins s2 I2) fun iv s3 ⟨y, H3, I3, ry, st3⟩ => ?_) hs
  obtain ⟨F, A, si⟩ := st3
  obtain ⟨q, rfl, ea, rm⟩ := si.dtAt hm si.pop.top
  obtain ⟨ds, rfl⟩ := hT
  have hy : Dp X.K F y (.tuple ds) := si.top
  obtain ⟨xs, us, h1, h2, h3, h4, h5, h6⟩ := dt_open I3 si.fh rm
  cases hy with
  | @tup kp vs _ hq hd' =>
    cases rx; cases ry
    have hl : us.length = xs.length := by rw [← h4.length, List.length_map]
    have key : (kn X).is s3.heap (nk (.tuple ds)) kp := ⟨nested_of I3 _ (.ref kp) (.ref kp) (by rw [nk_data _ hk]; exact dp_mono si.fh _ _ (.tup hq hd')) rfl, hd⟩
    have z := at_key (k := nk (.tuple ds)) h3 h4
    rw [hv] at z
    refine wpAny_setItem_heap (knd := kn X) (by show X.A.units + 1 + 8 < cLine; omega) key h6 (fun h' dd' hs => ?_) (hsz := by rw [ents_len xs us hl, ← paired_len h3]; exact hz)
    rw [storedH_new z] at dd'
    obtain ⟨o', es, ep, ho', hx', hdat', he', his', hnd'⟩ := dd'
    have hF : F q = none := si.fa q (List.mem_of_getElem? ea)
    have e1 : upd H3 q (rawT X.prog X.w (xs ++ [(nk (.tuple ds), kp, v)]) q) q = some (rawT X.prog X.w (xs ++ [(nk (.tuple ds), kp, v)]) q) := upd_same
    refine ⟨σ, upd H3 q (rawT X.prog X.w (xs ++ [(nk (.tuple ds), kp, v)]) q), d_write I3 (by rw [h1]; trivial) hs ⟨_, ho'⟩ ⟨⟨h5, o', es, ep, us ++ [r], ho', hx', hdat', ?_, ?_⟩, ⟨_, ho'⟩, ?_⟩, _, _, kk, F, A, si.pop.pop.pop.put ea ⟨xs ++ [(nk (.tuple ds), kp, v)], e1, ?_, ?_⟩⟩
    · rw [List.map_append]; exact vals_app h4 (.cons rv .nil)
    · rw [he']
      unfold ents
      rw [List.map_append, List.map_zipWith, List.zipWith_append hl.symm]; rfl
    · rintro g1 g2 ⟨a1, o1, es1, ep1, us1, a2, a3⟩ k
      exact ⟨a1, o1, es1, ep1, us1, k _ a2, a3⟩
    · rw [List.map_append]
      rw [List.nodup_append]
      refine ⟨h2, by simp, fun a ha b hb e => ?_⟩
      simp at hb; subst hb; subst e
      exact valD_none hv ha
    · exact paired_app h3 (.cons ⟨rfl, by rw [nk_data _ hk]; exact .tup hq hd', hd, si.pop.pop.top⟩ .nil)
/-- len(d) -/
theorem c_lenT (hm : μ[j]? = some (.dT kvs)) (hz : kvs.length ≤ sizeLine) : ClE X (.builtin "len") Γ μ [.loc j] (.dat (.int kvs.length)) μ := .mk fun F0 H0 A0 T σ H vs l st Q q pins s us' I r => by
  match vs, l with
  | [v], _ =>
    obtain ⟨u, rfl, r1⟩ := vals1 r
    obtain ⟨F, A, si⟩ := st
    obtain ⟨a, rfl, ea, rm⟩ := si.dtAt hm (si.temps (.loc j, v) (by simp))
    obtain ⟨xs, us, h1, h2, h3, h4, h5, h6⟩ := dt_open I si.fh rm
    have hl : us.length = xs.length := by rw [← h4.length, List.length_map]
    cases r1
    have hs : sizeLine = 16777216 := sizeLine_eq
    refine call_len_dictH h5 h6 (by rw [ents_len xs us hl, ← paired_len h3]; omega) ?_
    rw [ents_len xs us hl, ← paired_len h3]
    exact ⟨.int _, H, I.tok _, ⟨_, rfl⟩, q _ H ⟨F, A, (si.tmp (T' := T) fun p hp => List.mem_append_right _ hp).val (r := .dat _) (.int _)⟩⟩
/-- {} -/
theorem ev_newT : EvE X Γ μ (.Dict [] [] pos) (.loc μ.length) (μ ++ [.dT []]) := .mk fun F0 H0 A0 T σ H st Q q pins s I => by
  obtain ⟨F, A, si⟩ := st
  have hf : H s.heap.objs.size = none := I.hok.fresh (Nat.le_refl _)
  have hm : (s.heap.objs.size == sysModules) = false := beq_eq_false_iff_ne.mpr (Nat.ne_of_gt I.big)
  refine wpAny_Dict_empty ⟨.ref s.heap.objs.size, upd H s.heap.objs.size (rawT X.prog X.w [] s.heap.objs.size), I.laid (t' := s.toks) (fun _ _ q => Heap.get?_push_of_some _ q) (Nat.le_refl _) ⟨⟨hm, _, #[], 0, [], Heap.get?_push_size _ rfl, ⟨rfl, rfl, rfl⟩, rfl, .nil, rfl⟩, ⟨_, Heap.get?_push_size _ rfl⟩, ?_⟩, rfl, q _ _ ⟨_, _, si.last hf ⟨[], upd_same, by simp, .nil⟩⟩⟩
  rintro g1 g2 ⟨a1, o1, es1, ep1, us1, a2, a3⟩ k
  exact ⟨a1, o1, es1, ep1, us1, k _ a2, a3⟩
end
end DL
set_option maxHeartbeats 2000000
/-! Dicts whose keys are texts and ints. -/
namespace DL
open PySem PySem.Spec PyProof.Rows L2
abbrev KP := List (Key × PyData)
def valP (kvs : KP) (k : Key) : Option PyData := (kvs.find? fun kv => decide (kv.1 = k)).map (·.2)
def putP (kvs : KP) (k : Key) (v : PyData) : KP :=
  if (kvs.any fun kv => decide (kv.1 = k)) = true then kvs.map (fun kv => if kv.1 = k then (kv.1, v) else kv) else kvs ++ [(k, v)]
theorem putP_len (kvs : KP) (k : Key) (v : PyData) : (putP kvs k v).length ≤ kvs.length + 1 := by
  unfold putP; split <;> simp
def RP (K : PySem.W.Frag) (F : Hp) (p : Key × PyData) (q : Key × V) : Prop := p.1 = q.1 ∧ Dp K F q.2 p.2
theorem valP_of {K : PySem.W.Frag} {F : Hp} {k : Key} : ∀ {kvs : KP} {ps : List (Key × V)}, Paired (RP K F) kvs ps →
    match valP kvs k with
    | none => valV ps k = none
    | some d => ∃ v, valV ps k = some v ∧ Dp K F v d
  | _, _, .nil => by simp [valP, valV]
  | (k', d) :: kvs, (kx, v) :: ps, .cons r t => by
    obtain ⟨e1, e2⟩ := r
    simp only at e1; subst e1
    by_cases e : k' = k
    · simp only [valP, List.find?_cons, decide_eq_true e, Option.map_some]
      exact ⟨v, by rw [valV_pos e], e2⟩
    · have ih := valP_of (k := k) t
      have q1 : valP ((k', d) :: kvs) k = valP kvs k := by simp [valP, List.find?_cons, e]
      rw [q1, valV_neg (p := (k', v)) e]; exact ih
theorem putP_of {K : PySem.W.Frag} {F : Hp} {k : Key} {v : V} {d : PyData} (hd : Dp K F v d) {kvs : KP} {ps : List (Key × V)} (h : Paired (RP K F) kvs ps) : Paired (RP K F) (putP kvs k d) (putK ps k v) := by
  have a : ∀ {kvs : KP} {ps : List (Key × V)}, Paired (RP K F) kvs ps → (kvs.any fun kv => decide (kv.1 = k)) = (ps.any fun kv => decide (kv.1 = k)) := by
    intro kvs ps h
    induction h with
    | nil => rfl
    | cons r t ih => rw [List.any_cons, List.any_cons, ih, r.1]
  have b : ∀ {kvs : KP} {ps : List (Key × V)}, Paired (RP K F) kvs ps → Paired (RP K F) (kvs.map fun kv => if kv.1 = k then (kv.1, d) else kv) (ps.map fun kv => if kv.1 = k then (kv.1, v) else kv) := by
    intro kvs ps h
    induction h with
    | nil => exact .nil
    | @cons p q _ _ r t ih =>
      rw [List.map_cons, List.map_cons]
      refine .cons ?_ ih
      by_cases e : p.1 = k
      · rw [if_pos e, if_pos (r.1 ▸ e)]; exact ⟨r.1, hd⟩
      · rw [if_neg e, if_neg (fun z => e (r.1.trans z))]; exact r
  unfold putP putK
  rw [a h]
  split
  · exact b h
  · exact paired_app h (.cons ⟨rfl, hd⟩ .nil)
section
variable {X : Cx} {Γ : Gm} {μ μ1 μ2 μ3 : Sto} {a b e f : Expr} {d dk : PyData} {kvs : KP} {k : Key} {j : Nat} {pos p apos : Pos} {r : AV} {O : Out}
inductive KeyD : PyData → Key → Prop
  | int (i : Int) : KeyD (.int i) (.inl i)
  | str (x : Str) : KeyD (.str x) (.inr x)
theorem KeyD.v {K : PySem.W.Frag} {F : Hp} {v : V} (h : KeyD dk k) (g : Dp K F v dk) : v = kV k := by
  cases h <;> cases g <;> rfl
theorem Sin.dkAt {P : Program} {w : World} {K : PySem.W.Frag} {F0 H0 F H : Hp} {A0 A : List Addr} {T : Tmp} {σ : Sl} (s : Sin P w K F0 H0 A0 Γ μ T σ H F A) (e : μ[j]? = some (.dK kvs)) {v : V} (h : RepA K F A (.loc j) v) : ∃ a ps, v = .ref a ∧ A[j]? = some a ∧ H a = some (.dK ps) ∧ Paired (RP K F) kvs ps := by
  obtain ⟨a, ea, rfl⟩ := h
  obtain ⟨m, h1, h2⟩ := paired_get' s.rep ea
  rw [e] at h1; cases h1
  obtain ⟨ps, h3, h4⟩ := h2
  exact ⟨a, ps, rfl, ea, h3, h4⟩
theorem ev_getK (hu : X.A.units + 64 < cLine) (ha : EvE X Γ μ a (.loc j) μ1) (hb : EvE X Γ μ1 b (.dat dk) μ2) (hs : NoSl b) (hm : μ2[j]? = some (.dK kvs)) (hk : KeyD dk k) (hv : valP kvs k = some d) : EvE X Γ μ (.Subscript a b pos) (.dat d) μ2 := .mk fun F0 H0 A0 T σ H st Q q =>
  wE_of (pe_dget (by omega) pe_w pe_w hs) (ha F0 H0 A0 T σ H st _ fun v H1 st1 => hb F0 H0 A0 _ σ H1 st1 _ fun y H2 st2 => by
    obtain ⟨F, A, si⟩ := st2
    obtain ⟨q', ps, rfl, ea, hp, hr⟩ := si.dkAt hm si.pop.top
    have z := valP_of (k := k) hr
    rw [hv] at z
    obtain ⟨v, z1, z2⟩ := z
    obtain rfl := hk.v si.top
    exact ⟨q', v, rfl, by rw [← z1]; exact DGet.k hp, q _ H2 ⟨F, A, si.pop.pop.val (r := .dat d) z2⟩⟩)
theorem ex_putK (hu : X.A.units + 64 < cLine) {o ix : Expr} (he : EvE X Γ μ e (.dat d) μ1) (ho : EvE X Γ μ1 o (.loc j) μ2) (hi : EvE X Γ μ2 ix (.dat dk) μ3) (hm : μ3[j]? = some (.dK kvs)) (hk : KeyD dk k) (hz : kvs.length < sizeLine)
    (kk : O.nx Γ (μ3.set j (.dK (putP kvs k d)))) (hs : swapsWith e (some (.Subscript o ix p)) pos.line X.env = pure false := by rfl) : Ex1 X Γ μ (.Assign [.Subscript o ix p] e pos) O := .mk fun F0 H0 A0 T σ H st =>
  wS_of (ps_dput (by omega) pe_w pe_w pe_w hs) (he F0 H0 A0 T σ H st _ fun v H1 st1 => ho F0 H0 A0 _ σ H1 st1 _ fun x H2 st2 => hi F0 H0 A0 _ σ H2 st2 _ fun y H3 st3 => by
    obtain ⟨F, A, si⟩ := st3
    obtain ⟨q', ps, rfl, ea, hp, hr⟩ := si.dkAt hm si.pop.top
    obtain rfl := hk.v si.top
    exact ⟨q', _, rfl, DPut.k hp (by rw [← paired_len hr]; exact hz), _, _, kk, F, A, si.pop.pop.pop.put ea ⟨_, upd_same, putP_of si.pop.pop.top hr⟩⟩)
theorem ev_newK : EvE X Γ μ (.Dict [] [] pos) (.loc μ.length) (μ ++ [.dK []]) := .mk fun F0 H0 A0 T σ H st Q q =>
  wE_of pe_dnewK fun p hp => q _ _ (by
    obtain ⟨F, A, si⟩ := st
    exact ⟨_, _, si.last hp ⟨[], upd_same, .nil⟩⟩)
/-- dict(d) -/
theorem c_dictK (hm : μ[j]? = some (.dK kvs)) : ClE X (.type "dict") Γ μ [.loc j] (.loc μ.length) (μ ++ [.dK kvs]) := cl_one call_dictD fun F0 H0 A0 T σ H F A v si rv Q q => by
  obtain ⟨a, ps, rfl, ea, hp, hr⟩ := si.dkAt hm rv
  exact ⟨a, ps, rfl, .inl hp, fun p hf => q _ _ ⟨_, _, si.last hf ⟨ps, upd_same, hr⟩⟩⟩
/-- {'a': 1, ..} -/
theorem ev_disp {keys : List (Option Expr)} {values : List Expr} {cs : List (Str × Int)} (h : PPs X pos keys values (cs.map fun c => (tC (.str c.1), tC (.int c.2)))) (hall : keys.all (·.isSome) = true) (hl : keys.length = values.length) (h0 : keys ≠ []) (h15 : keys.length ≤ 15) (hc : cs.length ≤ 15) (hn : (cs.map fun c => (Sum.inr c.1 : Key)).Nodup) :
    EvE X Γ μ (.Dict keys values pos) (.loc μ.length) (μ ++ [.dK (cs.map fun c => (.inr c.1, .int c.2))]) := .mk fun F0 H0 A0 T σ H st Q q =>
  wE_of (pe_disp h hall hl h0 h15) fun p hp => by
    have tp : ∀ (cs : List (Str × Int)) (H : Hp) (Q : List (V × V) → Hp → Prop), Q (cs.map fun c => (V.str c.1, V.int c.2)) H → tPairs (cs.map fun c => (tC (.str c.1), tC (.int c.2))) σ H Q := by
      intro cs
      induction cs with
      | nil => intro H Q h; exact h
      | cons c cs ih => intro H Q h; exact ih H _ h
    refine tp cs _ _ ⟨upd_same, cs.map (fun c => (.inr c.1, .int c.2)), by rw [List.map_map]; rfl, by simpa using hc, ?_⟩
    rw [upd_upd]
    have mk : ∀ (cs : List (Str × Int)) (acc : List (Key × V)), (acc.map (·.1) ++ cs.map fun c => (Sum.inr c.1 : Key)).Nodup → mergeK acc (cs.map fun c => (.inr c.1, V.int c.2)) = acc ++ cs.map fun c => (.inr c.1, V.int c.2) := by
      intro cs
      induction cs with
      | nil => intro acc _; simp [mergeK]
      | cons c cs ih =>
        intro acc hn
        have e : putK acc (.inr c.1) (.int c.2) = acc ++ [(.inr c.1, .int c.2)] := by
          unfold putK
          rw [if_neg]
          intro z
          rw [List.any_eq_true] at z
          obtain ⟨y, hy, ey⟩ := z
          rw [decide_eq_true_eq] at ey
          rw [List.nodup_append] at hn
          exact hn.2.2 y.1 (List.mem_map_of_mem hy) (.inr c.1) (by simp) ey
        show mergeK (putK acc (.inr c.1) (.int c.2)) _ = _
        rw [e, ih _ (by simpa using hn)]
        simp
    rw [mk cs [] (by simpa using hn), List.nil_append]
    refine q _ _ ?_
    obtain ⟨F, A, si⟩ := st
    refine ⟨_, _, si.last hp ⟨_, upd_same, ?_⟩⟩
    clear h hc hn mk tp q
    induction cs with
    | nil => exact .nil
    | cons c cs ih => exact .cons ⟨rfl, .int _⟩ ih
/-- d.get(key, x) -/
theorem ev_get2 {cpos : Pos} {o : Expr} {dx : PyData} (hu : X.A.units + 64 < cLine) (ho : EvE X Γ μ o (.loc j) μ1) (he : EvE X Γ μ1 e (.dat dk) μ1) (hf : EvE X Γ μ1 f (.dat dx) μ1) (hm : μ1[j]? = some (.dK kvs)) (hk : KeyD dk k) (m : M2 X o "get" apos e f cpos) : EvE X Γ μ (.Call (.Attribute o "get" apos) [e, f] [] cpos) (.dat ((valP kvs k).getD dx)) μ1 := .mk fun F0 H0 A0 T σ H st Q q =>
  wE_of (pe_dget2 (by omega) pe_w pe_w pe_w m) (ho F0 H0 A0 T σ H st _ fun v H1 st1 => by
    have st1' := st1
    obtain ⟨F, A, si⟩ := st1
    obtain ⟨q', ps, rfl, ea, hp, hr⟩ := si.dkAt hm si.top
    refine ⟨q', rfl, .inl ⟨_, .inl hp⟩, he F0 H0 A0 _ σ H1 st1' _ fun y H2 st2 => hf F0 H0 A0 _ σ H2 st2 _ fun z H3 st3 => ?_⟩
    obtain ⟨F, A, si⟩ := st3
    obtain ⟨q2, ps, e2, ea, hp, hr⟩ := si.dkAt hm si.pop.pop.top
    cases e2
    obtain rfl := hk.v si.pop.top
    have z := valP_of (k := k) hr
    refine ⟨_, DGet.k hp, q _ H3 ⟨F, A, si.pop.pop.pop.val (r := .dat _) ?_⟩⟩
    cases w : valP kvs k with
    | none => rw [w] at z; rw [z]; exact si.top
    | some d => rw [w] at z; obtain ⟨v, z1, z2⟩ := z; rw [z1]; exact z2)
end
end DL
set_option maxHeartbeats 2000000
/-! An object with one field that holds a dict: made, asked, called. -/
namespace DL
open PySem PySem.Spec PyProof.Rows L2
section
variable {X : Cx} {M : Mc} {N : List Str} {sc : Scope} {k k' j : Nat} {g g' : Bool} {Γ : Gm} {μ μ1 μ2 ν : Sto} {e o : Expr} {es : List Expr} {as rs : List AV} {r : AV} {m0 m0' : MO} {x f m : Str} {p pos apos : Pos} {C : Addr}
theorem ev_fld (ho : EvE X Γ μ o (.ins C f j) μ1) (c : Cls X.K C) (n : NoAttr X.K C f) (hb : attributeBase o f X.env (eval o X.env) = eval o X.env := by rfl) : EvE X Γ μ (.Attribute o f pos) (.loc j) μ1 := .mk fun F0 H0 A0 T σ H st Q q =>
  wE_of (pe_fld pe_w hb) (ho F0 H0 A0 T σ H st _ fun v H1 st1 => by
    obtain ⟨F, A, si⟩ := st1
    obtain ⟨a, dx, p, rfl, e1, e2, e3⟩ := si.top
    refine ⟨a, C, dx, [(f, .ref p)], .ref p, rfl, si.fh _ _ e1, c, n, ?_, q _ H1 ⟨F, A, si.pop.val (r := .loc j) ⟨p, e3, rfl⟩⟩⟩
    show List.lookup f [(f, V.ref p)] = _
    simp [List.lookup])
theorem pe_newT' : PE X (.Dict [] [] pos) (fun _ H Q => ∀ p, H p = none → Q (.ref p) (upd H p (rawT X.prog X.w [] p))) := ⟨fun pins s σ H Q I h => by
  have hf : H s.heap.objs.size = none := I.hok.fresh (Nat.le_refl _)
  have hm : (s.heap.objs.size == sysModules) = false := beq_eq_false_iff_ne.mpr (Nat.ne_of_gt I.big)
  refine wpAny_Dict_empty ⟨.ref s.heap.objs.size, upd H s.heap.objs.size (rawT X.prog X.w [] s.heap.objs.size), I.laid (t' := s.toks) (fun _ _ q => Heap.get?_push_of_some _ q) (Nat.le_refl _) ⟨⟨hm, _, #[], 0, [], Heap.get?_push_size _ rfl, ⟨rfl, rfl, rfl⟩, rfl, .nil, rfl⟩, ⟨_, Heap.get?_push_size _ rfl⟩, ?_⟩, rfl, h _ hf⟩
  rintro g1 g2 ⟨a1, o1, es1, ep1, us1, a2, a3⟩ k
  exact ⟨a1, o1, es1, ep1, us1, k _ a2, a3⟩⟩
/-- what __init__ promises: the field holds a new empty dict -/
def spMk (P : Program) (w : World) (C : Addr) (f : Str) : Sp := fun vs H Q _ => ∃ x dx, vs = [.ref x] ∧ H x = some (.ins C dx []) ∧ ∀ l, H l = none → Q .non (upd (upd H l (rawT P w [] l)) x (.ins C dx [(f, .ref l)]))
theorem upd_comm {H : Hp} {a b : Addr} {o u : HO} (h : a ≠ b) : upd (upd H a o) b u = upd (upd H b u) a o := by
  funext c; unfold upd
  by_cases h1 : c = a
  · have h2 : ¬ c = b := fun z => h (h1.symm.trans z)
    rw [if_neg h2, if_pos h1, if_pos h1]
  · by_cases h2 : c = b
    · rw [if_pos h2, if_neg h1, if_pos h2]
    · rw [if_neg h2, if_neg h1, if_neg h1, if_neg h2]
theorem ev_make {fI : Addr} {fd : FuncData} (b : Bd X M N sc k g) (Mm : Mk X.K C fI) (F : FnOk X.prog X.w X.K X.mg X.base CX0 k' fI fd ["self"] (spMk X.prog X.w C f)) (hk : k' + 1 ≤ k) (hg : sc.names.lookup x = some .globalImplicit) (hm : X.mg x = some (.ref C)) (hb : Binds X.K fd ["self"] [])
    (hdb : (x == ("__debug__" : Str)) = false := by decide) : EvE X Γ μ (.Call (.Name x p) [] [] pos) (.ins C f μ.length) (μ ++ [.dT []]) := .mk fun F0 H0 A0 T σ H st Q q =>
  wE_of (pe_make0 Mm F (b.room.mono hk) (b.gl hg) hm hb .nil (pass_nox b) hdb) (by
    intro x dx nx ndx nex
    refine ⟨x, dx, rfl, upd_same, fun l hl => ⟨rfl, ?_⟩⟩
    obtain ⟨Fz, A, si⟩ := st
    have nxl : x ≠ l := fun z => by subst z; rw [upd_same] at hl; cases hl
    have hl1 : upd H dx (.own x) l = none := by rw [upd_ne nxl.symm] at hl; exact hl
    have e : upd (upd (upd (upd H dx (.own x)) x (.ins C dx [])) l (rawT X.prog X.w [] l)) x (.ins C dx [(f, .ref l)]) = upd (upd (upd H dx (.own x)) l (rawT X.prog X.w [] l)) x (.ins C dx [(f, .ref l)]) := by
      rw [upd_comm (H := upd H dx (.own x)) nxl, upd_upd]
    rw [e]
    have s1 := si.new_fix (ho := .own x) ndx
    have s2 := s1.new_loc (ho := rawT X.prog X.w [] l) (m := .dT []) hl1 ⟨[], upd_same, by simp, .nil⟩
    have hx2 : upd (upd H dx (.own x)) l (rawT X.prog X.w [] l) x = none := by rw [upd_ne nxl, upd_ne nex.symm]; exact nx
    have s3 := s2.new_fix (ho := .ins C dx [(f, .ref l)]) hx2
    refine q _ _ ⟨_, _, s3.val (r := .ins C f μ.length) ⟨x, dx, l, rfl, upd_same, ?_, ?_⟩⟩
    · rw [upd_ne nex, upd_same]
    · rw [← si.lenA]; simp)
/-- o.m(..), o such an object -/
theorem ev_meth {pl : Sem Bool} (b : Bd X M N sc k g) (ho : EvE X Γ μ o (.ins C f j) μ1) (ha : EvA X Γ μ1 (e :: es) (rs.map (sh1 j μ2.length)) μ2) (h : CalM g' M k' C m (.ins C f 0 :: rs) [m0] r (m0' :: ν)) (hj : μ2[j]? = some m0) (hk : k' ≤ k) (hb : ∀ r ∈ rs, r.below 1) (hmf : (m == f) = false := by decide) (hgg : g' = true → g = true := by decide)
    (hst : starEach (e :: es) X.env = (false, eval e X.env) :: starEach es X.env := by rfl) (hpl : (backTo pos (starEach es X.env)).any (·.1) = false := by rfl)
    (ht : eval (.Call (.Attribute o m apos) (e :: es) [] pos) X.env = (do
      let ov ← eval o X.env
      standAt apos.atName
      let (f, first) ← holding [ov] (getMethod ov m pl)
      callWith pos f first (backTo pos (starEach (e :: es) X.env)) (backToKw pos (keywordEach [] X.env))) := by rfl) :
    EvE X Γ μ (.Call (.Attribute o m apos) (e :: es) [] pos) (sh1 j μ2.length r) (μ2.set j m0' ++ ν) := .mk fun F0 H0 A0 T σ H st Q q pins s I => by
  have nox := b.nox
  have calm := b.gd
  have room := b.room
  obtain ⟨fA, fd, ps, c, hm, h3, h4⟩ := h
  obtain rfl := b.mc
  refine PySem.W.methodCall_KW (pl := pl) (thn (ho F0 H0 A0 T σ H st _ (fun v H1 st1 => show Stt X F0 H0 A0 Γ μ1 ((.ins C f j, v) :: T) σ H1 from st1) pins s I) fun u s1 ⟨x, H1, I1, rx, st1⟩ => ?_) ht
  have st1' := st1
  obtain ⟨F1, A1, si1⟩ := st1
  obtain ⟨a, dx, p, rfl, e1, e2, e3⟩ := si1.top
  obtain rfl : u = Value.ref a := rx
  refine getmeth_ok I1 (si1.fh _ _ e1) c hm (by simp [List.lookup, hmf]) ?_
  refine PySem.W.callWith_K (first := [.ref a]) (h₀ := X.base) I1.ok.mod.kin hm.kp (thn (ha F0 H0 A0 _ σ H1 st1' _ (fun vs H2 l st2 => show vs.length = (rs.map (sh1 j μ2.length)).length ∧ Stt X F0 H0 A0 Γ μ2 ((rs.map (sh1 j μ2.length)).zip vs ++ (.ins C f j, .ref a) :: T) σ H2 from ⟨l, st2⟩) pos pins s1 I1) fun us s2 ⟨vs, H2, I2, r2, l, st2⟩ => ⟨I2.kIn, ?_⟩) hst hpl
  obtain ⟨F, A, si⟩ := st2
  obtain ⟨pm, ea, _⟩ := paired_get si.rep hj
  have si' : Sin X.prog X.w X.K F0 H0 A0 Γ μ2 (((AV.ins C f 0 :: rs).map (sh1 j μ2.length)).zip (V.ref a :: vs) ++ T) σ H2 F A := si.tmp fun p hp => by
    simp only [List.map_cons, List.zip_cons_cons, List.cons_append, List.mem_cons, List.mem_append, sh1] at hp ⊢
    rcases hp with h | h | h
    · exact .inr (.inl h)
    · exact .inl h
    · exact .inr (.inr h)
  refine run_fg (us := .ref a :: us) (vs := .ref a :: vs) (h4.mono hk) (fun z => calm (hgg z)) room h3 (pass0 (X := X)) I2 (.cons rfl r2) ⟨by simpa using l, F, [pm], si'.enter1 ea hj (fun r hr => ?_), fun v H' F' A' t => ?_⟩
  · rcases List.mem_cons.mp hr with rfl | hr
    · exact Nat.zero_lt_one
    · exact hb r hr
  · obtain ⟨Cx, t'⟩ := (si'.tmp (T' := T) fun p hp => List.mem_append_right _ hp).leave1 ea t
    exact q v H' ⟨F', _, t'⟩
end
end DL
set_option maxHeartbeats 2000000
/-! The rules where one stands: names by places, what is built in by name. -/
namespace DL
open PySem PySem.Spec PyProof.Rows L2
def visB (sc : Scope) (x : Str) : Bool := sc.names.lookup x == some .local || sc.names.lookup x == some .cell || sc.names.lookup x == some .free
def lclB (sc : Scope) (x : Str) : Bool := sc.names.lookup x == some .local
def celB (sc : Scope) (x : Str) : Bool := sc.names.lookup x == some .cell
def gloB (sc : Scope) (x : Str) : Bool := sc.names.lookup x == some .globalImplicit
theorem nk_eq {o : Option NameKind} {k : NameKind} (h : (o == some k) = true) : o = some k := by
  cases o with
  | none => cases k <;> cases h
  | some j => cases j <;> cases k <;> first | rfl | cases h
theorem visB_ok {sc : Scope} {x : Str} (h : visB sc x = true) : Vis sc x := by
  simp only [visB, Bool.or_eq_true] at h
  rcases h with (h | h) | h
  · exact .inl (nk_eq h)
  · exact .inr (.inl (nk_eq h))
  · exact .inr (.inr (nk_eq h))
def rlab (scope sc : Scope) : Scope :=
  { scope with names := scope.names.map fun (n, k) => if (k == .free && sc.kind == .function && sc.names.lookup n == some .cell) then (n, .cell) else (n, k) }
section
variable {X : Cx} {M : Mc} {N : List Str} {sc : Scope} {k k' j : Nat} {g g' : Bool} {Γ : Gm} {μ μ1 μ2 ν : Sto} {e o : Expr} {es : List Expr} {as rs : List AV} {r : AV} {d : PyData} {ds : List PyData} {x : Str} {p pos apos : Pos} {O : Out}
theorem Bd.un (b : Bd X M N sc k g) : X.A.units + 65 < cLine := by have := b.room.un; omega
theorem Bd.un4 (b : Bd X M N sc k g) : X.A.units + 64 < cLine := by have := b.room.un; omega
theorem Bd.mg (b : Bd X M N sc k g) (x : Str) : X.mg x = M.mg x := by rw [← b.mc]; rfl
theorem Bd.K (b : Bd X M N sc k g) : X.K = M.K := by rw [← b.mc]; rfl
theorem Bd.mono (b : Bd X M N sc k g) (h : k' ≤ k) : Bd X M N sc k' g := { b with room := b.room.mono h }
theorem Bd.blk (b : Bd X M N sc k g) {scope : Scope} (z : Shared × Hp × Addr × List (Str × Addr) × List Addr) (hk : scope.kind = .function := by rfl) : Bd (blkOf X scope z) M N (rlab scope sc) k g where
  mc := b.mc
  nn := b.nn
  ss := by
    show relabel scope X.env = _
    have : relabel scope X.env = rlab scope X.env.scope := rfl
    rw [this, b.ss]
  nd := b.nd
  kind := hk
  calm := b.calm
  room := b.room
  gd := b.gd
  nox := rfl
/-- a name -/
theorem Bd.v (b : Bd X M N sc k g) (i : Nat) (hG : Γ[i]? = some (some r) := by rfl) (hN : N[i]? = some x := by rfl) (hv : visB sc x = true := by decide +kernel) (hd : (x == ("__debug__" : Str)) = false := by decide +kernel) (hcd : (x == ("__classdict__" : Str)) = false := by decide +kernel) : EvE X Γ μ (.Name x pos) r μ :=
  ev_var hG (by rw [b.nn]; exact hN) (by rw [b.ss]; exact visB_ok hv) hd hcd
theorem Bd.glo (b : Bd X M N sc k g) (h : gloB sc x = true) : Gl X x := b.gl (nk_eq h)
/-- a constant of the module -/
theorem Bd.c (b : Bd X M N sc k g) {v : V} {u : Value} (hm : M.mg x = some u) (r : RelV v u) (hd : ∀ F, Dp M.K F v d) (hv : gloB sc x = true := by decide +kernel) (hdb : (x == ("__debug__" : Str)) = false := by decide +kernel) : EvE X Γ μ (.Name x pos) (.dat d) μ :=
  ev_glob (b.glo hv) (by rw [b.mg]; exact hm) r (by rw [b.K]; exact hd) hdb
theorem Bd.lc (b : Bd X M N sc k g) (h : lclB sc x = true) : X.env.scope.names.lookup x = some .local := by rw [b.ss]; exact nk_eq h
/-- name = e -/
theorem Bd.asg (b : Bd X M N sc k g) (i : Nat) {p : Pos} (h : EvE X Γ μ e r μ1) (kk : O.nx (Γ.set i (some r)) μ1) (hi : N[i]? = some x := by rfl) (hv : lclB sc x = true := by decide +kernel) (hs : swapsWith e (some (.Name x p)) pos.line X.env = pure false := by rfl) : Ex1 X Γ μ (.Assign [.Name x p] e pos) O :=
  ex_asg h kk (by rw [b.nn]; exact b.nd) (by rw [b.nn]; exact hi) (.inl (b.lc hv)) (.inr (b.lc hv)) hs
/-- .. of a cell -/
theorem Bd.asgC (b : Bd X M N sc k g) (i : Nat) {p : Pos} (hfn : ∀ y, X.fn y = true) (h : EvE X Γ μ e r μ1) (kk : O.nx (Γ.set i (some r)) μ1) (hi : N[i]? = some x := by rfl) (hv : celB sc x = true := by decide +kernel) (hs : swapsWith e (some (.Name x p)) pos.line X.env = pure false := by rfl) : Ex1 X Γ μ (.Assign [.Name x p] e pos) O :=
  ex_asg h kk (by rw [b.nn]; exact b.nd) (by rw [b.nn]; exact hi) (.inr (by rw [b.ss]; exact nk_eq hv)) (.inl (hfn x)) hs
theorem Bd.tg (b : Bd X M N sc k g) (i : Nat) (hi : N[i]? = some x := by rfl) (hv : lclB sc x = true := by decide +kernel) : GtE X (.Name x pos) Γ μ r (Γ.set i (some r)) [i] :=
  gt_name (by rw [b.nn]; exact b.nd) (by rw [b.nn]; exact hi) (.inl (b.lc hv)) (.inr (b.lc hv))
/-- a, b = x, y -/
theorem Bd.par (b : Bd X M N sc k g) (i j : Nat) {x y : Str} {px py pt : Pos} {kt k2 : Nat} {pt2 : Pos} {a c : Expr} {ra rb : AV} (ha : EvA X Γ μ [a, c] [ra, rb] μ1) (kk : O.nx ((Γ.set i (some ra)).set j (some rb)) μ1)
    (hw : swappedStores [.Tuple [.Name x px, .Name y py] kt pt] (.Tuple [a, c] k2 pt2) X.env = pure (some [x, y])) (hi : N[i]? = some x := by rfl) (hj : N[j]? = some y := by rfl) (hx : lclB sc x = true := by decide +kernel) (hy : lclB sc y = true := by decide +kernel) (hij : i ≠ j := by decide)
    (hs : swapsWithSole [.Tuple [.Name x px, .Name y py] kt pt] (.Tuple [a, c] k2 pt2) pos.line X.env = pure false := by rfl) :
    Ex1 X Γ μ (.Assign [.Tuple [.Name x px, .Name y py] kt pt] (.Tuple [a, c] k2 pt2) pos) O :=
  ex_par ha kk b.calm (by rw [b.nn]; exact b.nd) (by rw [b.nn]; exact hi) (by rw [b.nn]; exact hj) (b.lc hx) (b.lc hy) hw hij hs

/-! ### one argument -/
theorem ea_one (h : EvE X Γ μ e r μ1) (hs : starEach [e] X.env = (false, eval e X.env) :: starEach [] X.env := by rfl) : EvA X Γ μ [e] [r] μ1 := ea_cons h ea_nil hs
theorem Bd.len (b : Bd X M N sc k g) (hm : M.mg "len" = none) (h : EvE X Γ μ e r μ1) (hq : SqA μ1 r ds) (hv : gloB sc "len" = true := by decide +kernel) (hs : starEach [e] X.env = (false, eval e X.env) :: starEach [] X.env := by rfl) (hpl : (backTo pos (starEach [] X.env)).any (·.1) = false := by rfl) :
    EvE X Γ μ (.Call (.Name "len" p) [e] [] pos) (.dat (.int ds.length)) μ1 := ev_callB (ea_one h hs) (c_len hq) (b.glo hv) (by rw [b.mg]; exact hm) PySem.boot_len (by decide) (by decide) hs hpl
theorem Bd.lenS (b : Bd X M N sc k g) (hm : M.mg "len" = none) {z : Str} (h : EvE X Γ μ e (.dat (.str z)) μ1) (hz : z.length ≤ sizeLine) (hv : gloB sc "len" = true := by decide +kernel) (hs : starEach [e] X.env = (false, eval e X.env) :: starEach [] X.env := by rfl) (hpl : (backTo pos (starEach [] X.env)).any (·.1) = false := by rfl) :
    EvE X Γ μ (.Call (.Name "len" p) [e] [] pos) (.dat (.int z.length)) μ1 := ev_callB (ea_one h hs) (c_lenS hz) (b.glo hv) (by rw [b.mg]; exact hm) PySem.boot_len (by decide) (by decide) hs hpl
theorem Bd.lenT (b : Bd X M N sc k g) (hm : M.mg "len" = none) {kvs : List (NestedKey × PyData)} (h : EvE X Γ μ e (.loc j) μ1) (hq : μ1[j]? = some (.dT kvs)) (hz : kvs.length ≤ sizeLine) (hv : gloB sc "len" = true := by decide +kernel) (hs : starEach [e] X.env = (false, eval e X.env) :: starEach [] X.env := by rfl) (hpl : (backTo pos (starEach [] X.env)).any (·.1) = false := by rfl) :
    EvE X Γ μ (.Call (.Name "len" p) [e] [] pos) (.dat (.int kvs.length)) μ1 := ev_callB (ea_one h hs) (c_lenT hq hz) (b.glo hv) (by rw [b.mg]; exact hm) PySem.boot_len (by decide) (by decide) hs hpl
theorem Bd.tup (b : Bd X M N sc k g) (hm : M.mg "tuple" = none) (h : EvE X Γ μ e r μ1) (hq : SqA μ1 r ds) (hv : gloB sc "tuple" = true := by decide +kernel) (hs : starEach [e] X.env = (false, eval e X.env) :: starEach [] X.env := by rfl) (hpl : (backTo pos (starEach [] X.env)).any (·.1) = false := by rfl) :
    EvE X Γ μ (.Call (.Name "tuple" p) [e] [] pos) (.dat (.tuple ds)) μ1 := ev_callTy (ea_one h hs) (c_tuple hq) (b.glo hv) (by rw [b.mg]; exact hm) (by rfl) (by decide) (by decide) hs hpl
theorem Bd.sorted (b : Bd X M N sc k g) (hm : M.mg "sorted" = none) (h : EvE X Γ μ e r μ1) (hq : LsA μ1 r ds) (hal : PySem.W.AllAlike ds) (hk : PySem.W.Sortable ds) (hd : ∀ d ∈ ds, d.depth ≤ 60) (hv : gloB sc "sorted" = true := by decide +kernel) (hs : starEach [e] X.env = (false, eval e X.env) :: starEach [] X.env := by rfl) (hpl : (backTo pos (starEach [] X.env)).any (·.1) = false := by rfl) :
    EvE X Γ μ (.Call (.Name "sorted" p) [e] [] pos) (.loc μ1.length) (μ1 ++ [.lst (sortD ds)]) := ev_callB (ea_one h hs) (c_sorted hq hal hk fun d hz => by have := hd d hz; have := b.un; omega) (b.glo hv) (by rw [b.mg]; exact hm) (by rfl) (by decide) (by decide) hs hpl
theorem Bd.any (b : Bd X M N sc k g) (hm : M.mg "any" = none) {bs : List Bool} (h : EvE X Γ μ e r μ1) (hq : LsA μ1 r (bs.map .bool)) (hv : gloB sc "any" = true := by decide +kernel) (hs : starEach [e] X.env = (false, eval e X.env) :: starEach [] X.env := by rfl) (hpl : (backTo pos (starEach [] X.env)).any (·.1) = false := by rfl) :
    EvE X Γ μ (.Call (.Name "any" p) [e] [] pos) (.dat (.bool (bs.any id))) μ1 := ev_callB (ea_one h hs) (c_any b.calm hq) (b.glo hv) (by rw [b.mg]; exact hm) (by rfl) (by decide) (by decide) hs hpl
theorem Bd.all (b : Bd X M N sc k g) (hm : M.mg "all" = none) {bs : List Bool} (h : EvE X Γ μ e r μ1) (hq : LsA μ1 r (bs.map .bool)) (hv : gloB sc "all" = true := by decide +kernel) (hs : starEach [e] X.env = (false, eval e X.env) :: starEach [] X.env := by rfl) (hpl : (backTo pos (starEach [] X.env)).any (·.1) = false := by rfl) :
    EvE X Γ μ (.Call (.Name "all" p) [e] [] pos) (.dat (.bool (bs.all id))) μ1 := ev_callB (ea_one h hs) (c_all b.calm hq) (b.glo hv) (by rw [b.mg]; exact hm) (by rfl) (by decide) (by decide) hs hpl
theorem Bd.max (b : Bd X M N sc k g) (hm : M.mg "max" = none) {ns : List Int} (h : EvE X Γ μ e r μ1) (hq : LsA μ1 r (ns.map .int)) (hn : 0 < ns.length) (hv : gloB sc "max" = true := by decide +kernel) (hs : starEach [e] X.env = (false, eval e X.env) :: starEach [] X.env := by rfl) (hpl : (backTo pos (starEach [] X.env)).any (·.1) = false := by rfl) :
    EvE X Γ μ (.Call (.Name "max" p) [e] [] pos) (.dat (.int (maxL ns))) μ1 := ev_callB (ea_one h hs) (c_max b.calm hq hn) (b.glo hv) (by rw [b.mg]; exact hm) (by rfl) (by decide) (by decide) hs hpl
theorem Bd.strI (b : Bd X M N sc k g) (hm : M.mg "str" = none) {i : Int} (h : EvE X Γ μ e (.dat (.int i)) μ1) (hi : i.natAbs.log2 < 1920) (hv : gloB sc "str" = true := by decide +kernel) (hs : starEach [e] X.env = (false, eval e X.env) :: starEach [] X.env := by rfl) (hpl : (backTo pos (starEach [] X.env)).any (·.1) = false := by rfl) :
    EvE X Γ μ (.Call (.Name "str" p) [e] [] pos) (.dat (.str (toString i))) μ1 := ev_callTy (ea_one h hs) (c_strI hi) (b.glo hv) (by rw [b.mg]; exact hm) (by rfl) (by decide) (by decide) hs hpl
theorem Bd.int (b : Bd X M N sc k g) (hm : M.mg "int" = none) {i : Int} (h : EvE X Γ μ e (.dat (.int i)) μ1) (hv : gloB sc "int" = true := by decide +kernel) (hs : starEach [e] X.env = (false, eval e X.env) :: starEach [] X.env := by rfl) (hpl : (backTo pos (starEach [] X.env)).any (·.1) = false := by rfl) :
    EvE X Γ μ (.Call (.Name "int" p) [e] [] pos) (.dat (.int i)) μ1 := ev_callTy (ea_one h hs) c_int (b.glo hv) (by rw [b.mg]; exact hm) (by rfl) (by decide) (by decide) hs hpl
theorem Bd.dict (b : Bd X M N sc k g) (hm : M.mg "dict" = none) {kvs : KP} (h : EvE X Γ μ e (.loc j) μ1) (hq : μ1[j]? = some (.dK kvs)) (hv : gloB sc "dict" = true := by decide +kernel) (hs : starEach [e] X.env = (false, eval e X.env) :: starEach [] X.env := by rfl) (hpl : (backTo pos (starEach [] X.env)).any (·.1) = false := by rfl) :
    EvE X Γ μ (.Call (.Name "dict" p) [e] [] pos) (.loc μ1.length) (μ1 ++ [.dK kvs]) := ev_callTy (ea_one h hs) (c_dictK hq) (b.glo hv) (by rw [b.mg]; exact hm) (by rfl) (by decide) (by decide) hs hpl

/-! ### the module -/
/-- the module's def x -/
def Df (M : Mc) (x qual : Str) (st : Stmt) (ps : List Str) : Prop := ∃ f fd, Fun M.K x qual st f fd ∧ M.mg x = some (.ref f) ∧ PySem.W.keepIn M.K (.ref f) = true ∧ Binds M.K fd ps []
/-- the method x of the class at C -/
def DfM (M : Mc) (C : Addr) (x qual : Str) (st : Stmt) (ps : List Str) : Prop := ∃ f fd, Fun M.K x qual st f fd ∧ Cls M.K C ∧ Meth M.K C x f ∧ Binds M.K fd ps []
theorem cal_of {qual : Str} {st : Stmt} {ps : List Str} {μ' : Sto} (D : Df M x qual st ps) (S : FnScope N ps (defScope st)) (hl : as.length = ps.length) (hm : μ.length ≤ μ'.length) (h : Runs g M k N st as μ r μ') : Cal g M (k + 1) x as μ r μ' :=
  let ⟨f, fd, h1, h2, h3, h4⟩ := D
  ⟨f, fd, ps, h2, h3, h4, fg_runs h1 S hl hm h⟩
theorem calM_of {qual : Str} {C : Addr} {st : Stmt} {ps : List Str} {μ' : Sto} (D : DfM M C x qual st ps) (S : FnScope N ps (defScope st)) (hl : as.length = ps.length) (hm : μ.length ≤ μ'.length) (h : Runs g M k N st as μ r μ') : CalM g M (k + 1) C x as μ r μ' :=
  let ⟨f, fd, h1, h2, h3, h4⟩ := D
  ⟨f, fd, ps, h2, h3, h4, fg_runs h1 S hl hm h⟩
def allDat : List AV → Bool
  | [] => true
  | .dat _ :: as => allDat as
  | _ :: _ => false
theorem allDat_below : ∀ {as : List AV}, allDat as = true → ∀ r ∈ as, r.below 0
  | [], _, r, hr => by simp at hr
  | .dat d :: as, h, r, hr => by
    rcases List.mem_cons.mp hr with rfl | hr
    · trivial
    · exact allDat_below (as := as) h r hr
  | .loc _ :: _, h, _, _ => by cases h
  | .ins _ _ _ :: _, h, _, _ => by cases h
  | .adr _ :: _, h, _, _ => by cases h
/-- a call that leaves nothing behind -/
theorem Bd.call (b : Bd X M N sc k g) {d : PyData} (ha : EvA X Γ μ (e :: es) as μ1) (h : Cal g' M k' x as [] (.dat d) []) (hk : k' ≤ k) (hb : allDat as = true := by rfl) (hg : gloB sc x = true := by decide +kernel) (hgg : g' = true → g = true := by decide) (hdb : (x == ("__debug__" : Str)) = false := by decide +kernel)
    (he : starEach (e :: es) X.env = (false, eval e X.env) :: starEach es X.env := by rfl) (hpl : (backTo pos (starEach es X.env)).any (·.1) = false := by rfl) : EvE X Γ μ (.Call (.Name x p) (e :: es) [] pos) (.dat d) μ1 := by
  have := ev_call (pos := pos) (p := p) b ha h hk (nk_eq hg) (allDat_below hb) hgg hdb he hpl
  simpa [sh0] using this
/-- a return -/
theorem rt_dat {d d' : PyData} {μ' μ2 : Sto} (h : d' = d) {ν : Sto} (hμ : μ2 = μ' ++ ν := by simp) : (outOf (.dat d) μ').rt (.dat d') μ2 := ⟨by rw [h], ν, hμ, trivial⟩
end
end DL
set_option maxHeartbeats 2000000
/-! Equality of atoms; small changes of what a judgement says. -/
namespace DL
open PySem PySem.Spec PyProof.Rows L2
section
variable {X : Cx} {Γ : Gm} {μ μ1 : Sto} {e : Expr} {r r' : AV} {k k' : Bool}
theorem EvE.to (h : EvE X Γ μ e r μ1) (q : r = r') : EvE X Γ μ e r' μ1 := q ▸ h
theorem EvT.to (h : EvT X Γ μ e k μ1) (q : k = k') : EvT X Γ μ e k' μ1 := q ▸ h
theorem ev_pred {a : Expr} {n : Nat} {j pos p} (h : EvE X Γ μ a (.dat (.int ((n + 1 : Nat) : Int))) μ1) : EvE X Γ μ (.BinOp a .Sub (.Constant (.int 1) j p) pos) (.dat (.int (n : Int))) μ1 :=
  (ev_bin h ev_int o_sub).to (by congr 2; omega)
theorem o_eqI {i j : Int} : OpE X (compareOp .Eq) Γ μ (.dat (.int i)) (.dat (.int j)) (.dat (.bool (decide (i = j)))) μ := op_dd op_eq fun F H x y _ hx hy Q q => by
  cases hx; cases hy
  exact ⟨rfl, by rw [show decide (V.int i = V.int j) = decide (i = j) by simp]; exact q _ (.bl _)⟩
theorem o_neI {i j : Int} : OpE X (compareOp .NotEq) Γ μ (.dat (.int i)) (.dat (.int j)) (.dat (.bool (!decide (i = j)))) μ := op_dd op_ne fun F H x y _ hx hy Q q => by
  cases hx; cases hy
  exact ⟨rfl, by rw [show decide (V.int i = V.int j) = decide (i = j) by simp]; exact q _ (.bl _)⟩
theorem o_eqS {i j : Str} : OpE X (compareOp .Eq) Γ μ (.dat (.str i)) (.dat (.str j)) (.dat (.bool (decide (i = j)))) μ := op_dd op_eq fun F H x y _ hx hy Q q => by
  cases hx; cases hy
  exact ⟨rfl, by rw [show decide (V.str i = V.str j) = decide (i = j) by simp]; exact q _ (.bl _)⟩
theorem o_neS {i j : Str} : OpE X (compareOp .NotEq) Γ μ (.dat (.str i)) (.dat (.str j)) (.dat (.bool (!decide (i = j)))) μ := op_dd op_ne fun F H x y _ hx hy Q q => by
  cases hx; cases hy
  exact ⟨rfl, by rw [show decide (V.str i = V.str j) = decide (i = j) by simp]; exact q _ (.bl _)⟩
theorem o_eqB {i j : Bool} : OpE X (compareOp .Eq) Γ μ (.dat (.bool i)) (.dat (.bool j)) (.dat (.bool (decide (i = j)))) μ := op_dd op_eq fun F H x y _ hx hy Q q => by
  cases hx; cases hy
  exact ⟨rfl, by rw [show decide (V.bl i = V.bl j) = decide (i = j) by simp]; exact q _ (.bl _)⟩
theorem o_neB {i j : Bool} : OpE X (compareOp .NotEq) Γ μ (.dat (.bool i)) (.dat (.bool j)) (.dat (.bool (!decide (i = j)))) μ := op_dd op_ne fun F H x y _ hx hy Q q => by
  cases hx; cases hy
  exact ⟨rfl, by rw [show decide (V.bl i = V.bl j) = decide (i = j) by simp]; exact q _ (.bl _)⟩
end
end DL
set_option maxHeartbeats 2000000
/-! Walking a text; isinstance by name; comprehensions where one stands. -/
namespace DL
open PySem PySem.Spec PyProof.Rows L2
def sgnD (z : Str) : List PyData := z.cps.toList.map fun c => .str ⟨#[c]⟩
theorem sgnD_get {z : Str} {i : Nat} {d : PyData} (h : (sgnD z)[i]? = some d) : ∃ c, z.cps[i]? = some c ∧ d = .str ⟨#[c]⟩ := by
  unfold sgnD at h
  rw [List.getElem?_map] at h
  cases e : z.cps.toList[i]? with
  | none => rw [e] at h; cases h
  | some c =>
    rw [e] at h
    refine ⟨c, ?_, (Option.some.inj h).symm⟩
    rw [← Array.getElem?_toList]; exact e
section
variable {X : Cx} {M : Mc} {N : List Str} {sc : Scope} {k k' j : Nat} {g g' : Bool} {Γ : Gm} {μ μ1 μ2 ν : Sto} {e o tg iter elt : Expr} {es ifs : List Expr} {as rs : List AV} {r : AV} {d : PyData} {ds : List PyData} {x : Str} {p pos apos p2 : Pos} {O : Out} {C : Sto → Prop}
theorem itok_str {z : Str} : ItOk X (Its z) [] (fun _ => True) (sgnD z) where
  stop := fun i Γ μ T σ F0 H0 A0 H c st h => by
    have : (sgnD z).length = z.cps.size := by simp [sgnD]
    rw [this] at h; exact h
  go := fun i d Γ μ T σ F0 H0 A0 H c st h => by
    obtain ⟨c, e, _⟩ := sgnD_get h
    exact (Array.getElem?_eq_some_iff.mp e).1
  yld := fun i d Γ μ T σ F0 H0 A0 H x H2 c st h y => by
    obtain ⟨c, e, rfl⟩ := sgnD_get h
    obtain ⟨rfl, c', e', rfl⟩ := y
    rw [e] at e'; cases e'
    obtain ⟨F, A, s⟩ := st
    exact ⟨F, A, s.val (r := .dat _) (.str _)⟩
theorem it_str {z : Str} (h : EvE X Γ μ iter (.dat (.str z)) μ1) : ItE X tg iter Γ μ (sgnD z) μ1 (fun _ => True) := .mk fun F0 H0 A0 T σ H st R q =>
  wI_of (pi_str pe_w) (h F0 H0 A0 T σ H st _ fun v H1 st1 => by
    obtain ⟨F, A, s⟩ := st1
    exact ⟨z, DL.dps s.top, q _ H1 [] ⟨F, A, s.pop⟩ itok_str⟩)
/-- isinstance(e, c) -/
theorem Bd.isi (b : Bd X M N sc k g) {c : Str} {t : String} {m : Bool} (h1 : M.mg "isinstance" = none) (h2 : M.mg c = none) (ha : EvE X Γ μ e (.dat d) μ1) (hk : kitB (tyN d) t = some m) (hv : bootBuiltins c = some (.type t) := by rfl) (g1 : gloB sc "isinstance" = true := by decide +kernel) (g2 : gloB sc c = true := by decide +kernel) (hn : c ≠ "__name__" := by decide +kernel) (hdb : (c == ("__debug__" : Str)) = false := by decide +kernel)
    (he : starEach [e, .Name c p2] X.env = (false, eval e X.env) :: starEach [.Name c p2] X.env := by rfl) (hpl : (backTo pos (starEach [Expr.Name c p2] X.env)).any (·.1) = false := by rfl) : EvE X Γ μ (.Call (.Name "isinstance" p) [e, .Name c p2] [] pos) (.dat (.bool m)) μ1 :=
  ev_isi ha (b.glo g1) (by rw [b.mg]; exact h1) (b.glo g2) (by rw [b.mg]; exact h2) hv hk hn hdb he hpl
/-- [elt for tg in iter ..], of turns that change nothing -/
theorem Bd.comp (b : Bd X M N sc k g) {scope : Scope} {own : List (Str × Nat)} (hi : ItE X tg iter Γ μ ds μ1 C) (ok : blkC N sc scope own = true) (hC : C μ1) (hz : ds.length ≤ 10000) (L : Nat → Option PyData)
    (hs : ∀ (i : Nat) d, ds[i]? = some d → TurnE X scope own Γ tg ifs elt d μ1 μ1 (L i)) (hf : ∀ x, foldedSetIterable iter X.env x = pure x := by intro _; rfl) : EvE X Γ μ (.ListComp elt [⟨tg, iter, ifs, 0⟩] scope pos) (.loc μ1.length) (μ1 ++ [.lst (accOf L ds.length)]) :=
  ev_lc b.calm (by rw [b.nn]; exact b.nd) (by rw [b.nn, b.ss]; exact blkOk_by ok) hi (fun _ => μ1) L rfl (fun _ _ => hC) (by rw [sizeLine_eq]; omega) hs hf
/-- .. without a test -/
theorem accOf_map {f : Nat → PyData} {L : Nat → Option PyData} : ∀ n, (∀ i, i < n → L i = some (f i)) → accOf L n = (List.range n).map f
  | 0, _ => rfl
  | n + 1, h => by
    unfold accOf
    rw [accOf_map n fun i hi => h i (by omega), h n (by omega), List.range_succ, List.map_append]; rfl
theorem accOf_list {L : Nat → Option PyData} {ys : List PyData} : ∀ n, n ≤ ys.length → (∀ i, i < n → L i = ys[i]?) → accOf L n = ys.take n
  | 0, _, _ => by simp [accOf]
  | n + 1, hn, h => by
    unfold accOf
    rw [accOf_list n (by omega) fun i hi => h i (by omega), h n (by omega), List.take_succ]
theorem Bd.map (b : Bd X M N sc k g) {scope : Scope} {own : List (Str × Nat)} {ys : List PyData} (hi : ItE X tg iter Γ μ ds μ1 C) (ok : blkC N sc scope own = true) (hC : C μ1) (hz : ds.length ≤ 10000) (hl : ys.length = ds.length)
    (hs : ∀ (i : Nat) d y, ds[i]? = some d → ys[i]? = some y → TurnE X scope own Γ tg ifs elt d μ1 μ1 (some y)) (hf : ∀ x, foldedSetIterable iter X.env x = pure x := by intro _; rfl) : EvE X Γ μ (.ListComp elt [⟨tg, iter, ifs, 0⟩] scope pos) (.loc μ1.length) (μ1 ++ [.lst ys]) := by
  have e : accOf (fun i => ys[i]?) ds.length = ys := by
    rw [accOf_list (ys := ys) ds.length (by omega) (fun _ _ => rfl), ← hl, List.take_length]
  have := b.comp (pos := pos) hi ok hC hz (fun i => ys[i]?) (fun i d hd => by
    have hlt : i < ys.length := by rw [hl]; exact (List.getElem?_eq_some_iff.mp hd).1
    have hy : ys[i]? = some ys[i] := List.getElem?_eq_getElem hlt
    simp only [hy]
    exact hs i d _ hd hy) hf
  rwa [e] at this
/-- a turn without tests -/
theorem turn_one {scope : Scope} {own : List (Str × Nat)} {Γ2 : Gm} {W : List Nat} {y : PyData} (hg : ∀ z, GtE (blkOf X scope z) tg (wipeG Γ (own.map (·.2))) μ (.dat d) Γ2 W) (he : ∀ z, EvE (blkOf X scope z) Γ2 μ elt (.dat y) μ1) (hW : ∀ i ∈ W, i ∈ own.map (·.2) := by decide) : TurnE X scope own Γ tg [] elt d μ μ1 (some y) :=
  ⟨Γ2, W, true, μ, hg, hW, fun _ => ets_nil, .inl ⟨rfl, y, rfl, he⟩⟩
theorem turn_if {scope : Scope} {own : List (Str × Nat)} {Γ2 : Gm} {W : List Nat} {c : Expr} {y : PyData} {m : Bool} (hg : ∀ z, GtE (blkOf X scope z) tg (wipeG Γ (own.map (·.2))) μ (.dat d) Γ2 W) (ht : ∀ z, EvT (blkOf X scope z) Γ2 μ c m μ) (he : m = true → ∀ z, EvE (blkOf X scope z) Γ2 μ elt (.dat y) μ) (hW : ∀ i ∈ W, i ∈ own.map (·.2) := by decide) : TurnE X scope own Γ tg [c] elt d μ μ (if m then some y else none) := by
  refine ⟨Γ2, W, m, μ, hg, hW, fun z => ets_one (ht z), ?_⟩
  cases m with
  | true => exact .inl ⟨rfl, y, rfl, he rfl⟩
  | false => exact .inr ⟨rfl, rfl, rfl⟩
theorem Bd.itr1 (b : Bd X M N sc k g) {n : Int} (hm : M.mg "range" = none) (h : EvE X Γ μ e (.dat (.int n)) μ1) (h1 : -1000000 ≤ n) (h2 : n < 1000000) (hg : gloB sc "range" = true := by decide +kernel) (hs : starEach [e] X.env = [(false, eval e X.env)] := by rfl) : ItE X tg (.Call (.Name "range" p) [e] [] pos) Γ μ (rangeD 0 n.toNat) μ1 (fun _ => True) :=
  it_range1 h (by omega) (by omega) (b.glo hg) (by rw [b.mg]; exact hm) hs
theorem Bd.itr2 (b : Bd X M N sc k g) {e2 : Expr} {lo hi : Int} (hm : M.mg "range" = none) (h : EvE X Γ μ e (.dat (.int lo)) μ1) (h' : EvE X Γ μ1 e2 (.dat (.int hi)) μ2) (h1 : -1000000 ≤ lo ∧ lo < 1000000 ∧ -1000000 ≤ hi ∧ hi < 1000000) (hg : gloB sc "range" = true := by decide +kernel) (hs : starEach [e, e2] X.env = [(false, eval e X.env), (false, eval e2 X.env)] := by rfl) (hs2 : starEach [e2] X.env = [(false, eval e2 X.env)] := by rfl) :
    ItE X tg (.Call (.Name "range" p) [e, e2] [] pos) Γ μ (rangeD lo (hi - lo).toNat) μ2 (fun _ => True) :=
  it_range2 h h' (by omega) (b.glo hg) (by rw [b.mg]; exact hm) hs hs2
theorem Bd.itEL (b : Bd X M N sc k g) {kk : Nat} {tpos : Pos} (hm : M.mg "enumerate" = none) (h : EvE X Γ μ e r μ1) (hq : LsA μ1 r ds) (hg : gloB sc "enumerate" = true := by decide +kernel) (hs : starEach [e] X.env = [(false, eval e X.env)] := by rfl) : ItE X (.Tuple es kk tpos) (.Call (.Name "enumerate" p) [e] [] pos) Γ μ (enumD 0 ds) μ1 (Stays r ds) :=
  it_enumL h hq (b.glo hg) (by rw [b.mg]; exact hm) hs
theorem Bd.itET (b : Bd X M N sc k g) {kk : Nat} {tpos : Pos} (hm : M.mg "enumerate" = none) (h : EvE X Γ μ e (.dat (.tuple ds)) μ1) (hg : gloB sc "enumerate" = true := by decide +kernel) (hs : starEach [e] X.env = [(false, eval e X.env)] := by rfl) : ItE X (.Tuple es kk tpos) (.Call (.Name "enumerate" p) [e] [] pos) Γ μ (enumD 0 ds) μ1 (fun _ => True) :=
  it_enumT h (b.glo hg) (by rw [b.mg]; exact hm) hs
end
end DL
set_option maxHeartbeats 2000000
/-! Calls with one value that may change; lists by comprehension under a name. -/
namespace DL
open PySem PySem.Spec PyProof.Rows L2
def allB1 : List AV → Bool
  | [] => true
  | .dat _ :: as => allB1 as
  | .loc 0 :: as => allB1 as
  | .ins _ _ 0 :: as => allB1 as
  | _ :: _ => false
theorem allB1_below : ∀ {as : List AV}, allB1 as = true → ∀ r ∈ as, r.below 1
  | [], _, r, hr => by simp at hr
  | .dat d :: as, h, r, hr => by
    rcases List.mem_cons.mp hr with rfl | hr
    · trivial
    · exact allB1_below (as := as) h r hr
  | .loc 0 :: as, h, r, hr => by
    rcases List.mem_cons.mp hr with rfl | hr
    · exact Nat.zero_lt_one
    · exact allB1_below (as := as) h r hr
  | .ins _ _ 0 :: as, h, r, hr => by
    rcases List.mem_cons.mp hr with rfl | hr
    · exact Nat.zero_lt_one
    · exact allB1_below (as := as) h r hr
  | .loc (_ + 1) :: _, h, _, _ => by cases h
  | .ins _ _ (_ + 1) :: _, h, _, _ => by cases h
  | .adr _ :: _, h, _, _ => by cases h
section
variable {X : Cx} {M : Mc} {N : List Str} {sc : Scope} {k k' j : Nat} {g g' : Bool} {Γ : Gm} {μ μ1 μ2 ν : Sto} {e o tg iter elt : Expr} {es ifs : List Expr} {as rs : List AV} {r : AV} {d : PyData} {ds : List PyData} {x : Str} {p pos apos p2 : Pos} {O : Out} {C : Sto → Prop} {m m' : MO}
theorem set_self {μ : Sto} {j : Nat} {m : MO} (h : μ[j]? = some m) : μ.set j m = μ := by
  apply List.ext_getElem?
  intro i
  by_cases e : j = i
  · subst e
    rw [List.getElem?_set_self (List.getElem?_eq_some_iff.mp h).1, h]
  · rw [List.getElem?_set_ne e]
theorem Bd.callM (b : Bd X M N sc k g) (h : Cal g' M k' x as [m] r (m' :: ν)) (ha : EvA X Γ μ (e :: es) (as.map (sh1 j μ1.length)) μ1) (hj : μ1[j]? = some m) (hk : k' ≤ k) (hb : allB1 as = true := by rfl) (hg : gloB sc x = true := by decide +kernel) (hgg : g' = true → g = true := by decide) (hdb : (x == ("__debug__" : Str)) = false := by decide +kernel)
    (he : starEach (e :: es) X.env = (false, eval e X.env) :: starEach es X.env := by rfl) (hpl : (backTo pos (starEach es X.env)).any (·.1) = false := by rfl) : EvE X Γ μ (.Call (.Name x p) (e :: es) [] pos) (sh1 j μ1.length r) (μ1.set j m' ++ ν) :=
  ev_callM b ha h hj hk (nk_eq hg) (allB1_below hb) hgg hdb he hpl
/-- .. that stays as it is -/
theorem Bd.callR (b : Bd X M N sc k g) {d : PyData} (h : Cal g' M k' x as [m] (.dat d) [m]) (ha : EvA X Γ μ (e :: es) (as.map (sh1 j μ1.length)) μ1) (hj : μ1[j]? = some m) (hk : k' ≤ k) (hb : allB1 as = true := by rfl) (hg : gloB sc x = true := by decide +kernel) (hgg : g' = true → g = true := by decide) (hdb : (x == ("__debug__" : Str)) = false := by decide +kernel)
    (he : starEach (e :: es) X.env = (false, eval e X.env) :: starEach es X.env := by rfl) (hpl : (backTo pos (starEach es X.env)).any (·.1) = false := by rfl) : EvE X Γ μ (.Call (.Name x p) (e :: es) [] pos) (.dat d) μ1 := by
  have := b.callM (p := p) (pos := pos) h ha hj hk hb hg hgg hdb he hpl
  rw [set_self hj, List.append_nil] at this
  exact this
theorem Stt.fixTop {F0 H0 H : Hp} {A0 : List Addr} {T : Tmp} {σ : Sl} {v : V} (h : Stt X F0 H0 A0 Γ (μ1 ++ [.lst ds]) ((.loc μ1.length, v) :: T) σ H) (n : A0.length ≤ μ1.length) (gm : ∀ (i : Nat) av, Γ[i]? = some (some av) → av.below μ1.length) (tb : ∀ p ∈ T, p.1.below μ1.length) : Stt X F0 H0 A0 Γ μ1 ((.dat (.list ds), v) :: T) σ H := by
  obtain ⟨F, A, s⟩ := h
  obtain ⟨p, ep, ev⟩ := s.top
  obtain ⟨A', p', o, rfl, la, ho, rm, hF, s'⟩ := s.pop.fix n gm tb
  have e1 : p' = p := by
    have : (A' ++ [p'])[μ1.length]? = some p' := by rw [← la]; simp
    rw [this] at ep; exact Option.some.inj ep
  subst e1
  obtain ⟨vs, hv, hd⟩ := rm
  have eo : HO.lst vs = o := by rw [ho] at hv; exact (Option.some.inj hv).symm
  subst eo
  refine ⟨_, _, s'.val ?_⟩
  have ev' : v = .ref p' := ev
  subst ev'
  exact Dp.lst (SqL.of upd_same) (dps_mono (Sub.upd hF) _ _ hd)
/-- name = [..], where no turn changes anything; the list is left as it is -/
theorem Bd.setMap (b : Bd X M N sc k g) (i : Nat) {y : Str} {py spos : Pos} {scope : Scope} {own : List (Str × Nat)} {ys : List PyData} (hi : ItE X tg iter Γ μ ds μ1 C) (ok : blkC N sc scope own = true) (hC : C μ1) (hz : ds.length ≤ 10000) (hlen : ys.length = ds.length) (hm : μ.length ≤ μ1.length)
    (hs : ∀ (i : Nat) d y, ds[i]? = some d → ys[i]? = some y → TurnE X scope own Γ tg ifs elt d μ1 μ1 (some y)) (kk : O.nx (Γ.set i (some (.dat (.list ys)))) μ1) (hy : N[i]? = some y := by rfl) (hyl : lclB sc y = true := by decide +kernel) (hl : (py.line == pos.line) = true := by rfl)
    (hsc : (scope.names.any fun (n, k) => n == y && (k == .local || k == .cell)) = false := by decide +kernel) (hf : ∀ x, foldedSetIterable iter X.env x = pure x := by intro _; rfl) : Ex1 X Γ μ (.Assign [.Name y py] (.ListComp elt [⟨tg, iter, ifs, 0⟩] scope pos) spos) O := .mk fun F0 H0 A0 T σ H st => by
  have hN : X.N.Nodup := by rw [b.nn]; exact b.nd
  have hy' : X.N[i]? = some y := by rw [b.nn]; exact hy
  have e : accOf (fun i => ys[i]?) ds.length = ys := by
    rw [accOf_list (ys := ys) ds.length (by omega) (fun _ _ => rfl), ← hlen, List.take_length]
  refine wS_of (ps_setLc b.calm hN hy' (b.lc hyl) (sw_true (by rw [b.ss]; exact b.kind) (b.lc hyl) hl hsc) pi_w (blkOk_by (by rw [b.nn, b.ss]; exact ok)) (fun s H C cl fp => ⟨fun pins s' σ H' v u Q I r h => h (s, H, C, cl, fp) pins s' u I r⟩) (fun s H C cl fp => ⟨fun pins s' σ H' Q I h => h (s, H, C, cl, fp) pins s' I⟩) (fun s H C cl fp => ⟨fun pins s' σ H' Q I h => h (s, H, C, cl, fp) pins s' I⟩) hf)
    (lc_run hi (fun _ => μ1) (fun i => ys[i]?) rfl (fun _ _ => hC) (by rw [sizeLine_eq]; omega) (fun i d hd => by
      have hlt : i < ys.length := by rw [hlen]; exact (List.getElem?_eq_some_iff.mp hd).1
      have hy : ys[i]? = some ys[i] := List.getElem?_eq_getElem hlt
      simp only [hy]
      exact hs i d _ hd hy) st fun v H' st' => ?_)
  rw [e] at st'
  have st2 := st'.fixTop (Nat.le_trans st.a0 hm) (fun i av e => below_mono (st.gam i av e) hm) fun p hp => below_mono (st.tbl p hp) hm
  obtain ⟨F, A, s⟩ := st2
  exact ⟨_, _, kk, F, A, s.pop.slot s.top⟩
end
end DL
set_option maxHeartbeats 400000
/-! a, b = x, y where one stands. -/
namespace DL
open PySem PySem.Spec PyProof.Rows L2
theorem sw2 {env : Env} {x y : Str} {px py pt : Pos} {kt k2 : Nat} {pt2 : Pos} {a c : Expr} (hk : (env.blockKind != .function) = false) (hx : (env.kindOf x == some .local) = true) (hy : (env.kindOf y == some .local) = true) (hl : (py.line == px.line) = true) (hxy : [x, y].eraseDups = [x, y])
    (hs : ([a, c].any fun | .Starred .. => true | _ => false) = false) (hf : ([a, c].all (foldedForSure 8)) = false) (hc : ([a, c].all (constantsAlone 8)) = false) : swappedStores [.Tuple [.Name x px, .Name y py] kt pt] (.Tuple [a, c] k2 pt2) env = pure (some [x, y]) := by
  unfold swappedStores
  have h1 : (Expr.Name y py).pos = py := rfl
  simp only [List.length_cons, List.length_nil, hk, hs, hf, hc, List.filterMap_cons, List.filterMap_nil, List.head?_cons, Option.map_some, Option.getD_some, hx, hy, hl, Bool.and_self, Expr.pos, beq_self_eq_true, if_true, Bool.and_true, hxy, bne_self_eq_false, Bool.or_self, Bool.false_eq_true, if_false, Bool.not_true, Bool.or_false, Nat.zero_add]
  rw [if_neg (by decide), if_neg (by rw [Bool.not_eq_true]; exact hs)]
section
variable {X : Cx} {M : Mc} {N : List Str} {sc : Scope} {k : Nat} {g : Bool} {Γ : Gm} {μ μ1 : Sto} {O : Out} {pos : Pos}
theorem Bd.pair (b : Bd X M N sc k g) (i j : Nat) {x y : Str} {px py pt : Pos} {kt k2 : Nat} {pt2 : Pos} {a c : Expr} {ra rb : AV} (ha : EvA X Γ μ [a, c] [ra, rb] μ1) (kk : O.nx ((Γ.set i (some ra)).set j (some rb)) μ1)
    (hl : (py.line == px.line) = true := by rfl) (hxy : [x, y].eraseDups = [x, y] := by decide +kernel) (hst : ([a, c].any fun | .Starred .. => true | _ => false) = false := by rfl) (hf : ([a, c].all (foldedForSure 8)) = false := by rfl) (hc : ([a, c].all (constantsAlone 8)) = false := by rfl)
    (hi : N[i]? = some x := by rfl) (hj : N[j]? = some y := by rfl) (hx : lclB sc x = true := by decide +kernel) (hy : lclB sc y = true := by decide +kernel) (hij : i ≠ j := by decide)
    (hs : swapsWithSole [.Tuple [.Name x px, .Name y py] kt pt] (.Tuple [a, c] k2 pt2) pos.line X.env = pure false := by rfl) :
    Ex1 X Γ μ (.Assign [.Tuple [.Name x px, .Name y py] kt pt] (.Tuple [a, c] k2 pt2) pos) O :=
  b.par i j ha kk (sw2 (by unfold Env.blockKind; rw [b.ss, b.kind]; rfl) (by show (X.env.scope.names.lookup x == _) = true; rw [b.ss]; exact hx) (by show (X.env.scope.names.lookup y == _) = true; rw [b.ss]; exact hy) hl hxy hst hf hc) hi hj hx hy hij hs
/-- a call with a new object that is dropped behind it -/
theorem Bd.callN (b : Bd X M N sc k g) {k' : Nat} {g' : Bool} {d : PyData} {m m' : MO} {x : Str} {as : List AV} {e : Expr} {es : List Expr} {p : Pos} (h : Cal g' M k' x as [m] (.dat d) [m']) (ha : EvA X Γ μ (e :: es) (as.map (sh1 μ.length (μ ++ [m]).length)) (μ ++ [m])) (hk : k' ≤ k) (hb : allB1 as = true := by rfl) (hg : gloB sc x = true := by decide +kernel) (hgg : g' = true → g = true := by decide) (hdb : (x == ("__debug__" : Str)) = false := by decide +kernel)
    (he : starEach (e :: es) X.env = (false, eval e X.env) :: starEach es X.env := by rfl) (hpl : (backTo pos (starEach es X.env)).any (·.1) = false := by rfl) : EvE X Γ μ (.Call (.Name x p) (e :: es) [] pos) (.dat d) μ := by
  have := b.callM (p := p) (pos := pos) (j := μ.length) h ha (by simp) hk hb hg hgg hdb he hpl
  rw [List.append_nil, show (μ ++ [m]).set μ.length m' = μ ++ [m'] by simp] at this
  exact this.dat
end
end DL
set_option maxHeartbeats 2000000
/-! try: body / except c as n: suite / else: .. where the body is known to end in such an exception. -/
namespace DL
open PySem PySem.Spec PyProof.Rows L2
section
variable {X : Cx} {x n : Str} {c : Value} {i : Nat} {body suite orelse : List Stmt} {s1 : Stmt} {np pos pos' : Pos} {tb : WX → TS} {ts : Addr → Value → Option Addr → TS}
/-- the ends of the suite, seen from behind the try: the name is gone -/
def goneD (i : Nat) (D : Ends) : Ends where
  nx := fun σ H => D.nx (σ.set i none) H
  rt := D.rt
  bk := fun σ H => D.bk (σ.set i none) H
  ct := fun σ H => D.ct (σ.set i none) H
def caughtW (K : PySem.W.Frag) (c : Value) (i : Nat) (ts : Addr → Value → Option Addr → TS) (D : Ends) : WX := fun cls d σ H =>
  PySem.W.exmOne K cls c = some true ∧ ∀ a, H a = none → ts a cls d (goneD i D) (σ.set i (some (.ref a))) H
theorem ps_tryE (stk : X.stack = X.env :: X.outer) (frm : X.env.frame = some X.env.locals) (nodup : X.N.Nodup) (at_i : X.N[i]? = some n) (lcl : X.env.kindOf n = some .local) (nm : Names X x c)
    (hbody : ∀ (W : WX) (pn : List (Addr × Obj)) (xe : Value → Shared → Prop), Takes (X.tr pn xe) W → PassesOwn (model X.prog X.w) X.A X.env xe → PSs (X.tr pn xe) body (tb W))
    (hsuite : ∀ (a : Addr) (oe : Obj) (cls : Value) (d : Option Addr) (pn : List (Addr × Obj)), Zc cls d oe → (∃ vs, oe.data = .fields vs) → PSs (X.suite a ((a, oe) :: pn)) (s1 :: suite) (ts a cls d)) :
    PS X (.Try body [.ExceptHandler (some (.Name x np)) (some n) (s1 :: suite) pos'] orelse [] pos) (fun D σ H => tb (caughtW X.K c i ts D) { nx := fun _ _ => False, rt := D.rt, bk := fun _ _ => False, ct := fun _ _ => False } σ H) := by
  refine ⟨fun pins s σ H D I wish => wpAny_Try_except ?_⟩
  have okX := I.ok
  have frs_ : X.A.frames = some (X.env :: X.outer) := okX.frames.trans (congrArg some stk)
  have run := (hbody (caughtW X.K c i ts D) (X.pn ++ pins) (fun e z => wpAny (model X.prog X.w) X.A (noteFrame e X.env) (fun _ z1 => wpAny (model X.prog X.w) X.A (setFlight e none) (fun _ z2 => wpAny (model X.prog X.w) X.A (handleBy e X.env [.ExceptHandler (some (.Name x np)) (some n) (s1 :: suite) pos']) (SP X pins D) X.xe z2) X.xe z1) X.xe z) (fun u z air => ?caught) PassesOwn.looking).run [] s σ H _ (I.toTry _) wish
  case caught =>
    obtain ⟨ea, B, sI, ps', τ, G, cls, d, rfl, J0, grd, up1, fly, gn, os1, bare1, hmatch, hgo⟩ := air
    have J : Inv X pins τ G sI := J0.ofTry okX
    rw [stk] at fly
    refine Sky.land Zc.steady frs_ frm fly fun h3 fl up2 => ?_
    have upA := up1.trans up2
    have J3 : Inv X pins τ G { z with heap := h3 } := J.landed grd fl.1 upA os1 bare1
    obtain ⟨o3, f3, at3, zc3, dat3⟩ := fl.there
    have apart : ea ∉ frs (X.env :: X.outer) := fun hm => by
      obtain ⟨_, o', e', no⟩ := fl.2.2.1.mem hm
      rw [at3] at e'
      obtain rfl := Option.some.inj e'
      exact no _ dat3
    have apartL : ea ≠ X.env.locals := fun q => apart (List.mem_filterMap.mpr ⟨X.env, .head _, by rw [frm, q]⟩)
    have apartF : ea ∉ X.fs := fun hm => by
      obtain ⟨v, hv, q⟩ := List.mem_filterMap.mp hm
      exact apart (List.mem_filterMap.mpr ⟨v, .tail _ hv, q⟩)
    have T3 := J3.suite at3 dat3 gn apartL apartF
    refine wpAny_handleBy_cons (codeAny_handlers_test ?_) (by intro q; cases q)
    have isT : PySem.W.Looks (model X.prog X.w) h3 (typeOf (.ref ea)) cls := fun A Q E t k q => wpAny_typeOf_ref (k _ _ at3) (by rw [zc3.1]; exact q)
    have yes := PySem.W.exm_one (M := model X.prog X.w) (J3.kIn) isT hmatch
    have named : ∀ {Q : Value → Shared → Prop} {E : Value → Shared → Prop}, Q c { z with heap := h3 } → wpAny (model X.prog X.w) (X.A.mark (some (.ref ea))) (eval (.Name x np) X.env) Q E { z with heap := h3 } := fun q => by
      obtain ⟨glob, db, there | ⟨none_, boot, notn⟩⟩ := nm
      · exact ld_glob (X := X.suite ea ((ea, o3) :: (X.pn ++ pins))) T3 glob there q db
      · exact ld_blt (X := X.suite ea ((ea, o3) :: (X.pn ++ pins))) T3 glob none_ boot q notn db
    refine named (yes.here (codeAny_handlers_suite_as (HandSPX.lands_againZ fl fun h4 fl4 up4 => ?_)))
    have J4 : Inv X pins τ G { z with heap := h4 } := J.landed grd fl4.1 (upA.trans up4) os1 bare1
    obtain ⟨o4, f4, at4, zc4, dat4⟩ := fl4.there
    have T4 := J4.suite at4 dat4 gn apartL apartF
    refine store_ok (X := X.suite ea ((ea, o4) :: (X.pn ++ pins))) (v := .ref ea) T4 nodup at_i (.inl lcl) rfl (fun z5 T5 => ?_) (.inr lcl)
    refine wpAny_mono ((hsuite ea o4 cls d (X.pn ++ pins) zc4 ⟨_, dat4⟩).run [] z5 _ G _ T5 (hgo ea gn)) (fun f z6 done => ?_) fun _ _ q => False.elim q
    have leave : ∀ {τ6 : Sl} {G6 : Hp} {Q : Shared → Prop}, Inv (X.suite ea ((ea, o4) :: (X.pn ++ pins))) [] τ6 G6 z6 → (∀ z7, Inv X pins (τ6.set i none) G6 z7 → Q z7) → wpAny (model X.prog X.w) X.A (do bindName X.env n .none; unbindBehindTheSuite X.env n pos') (fun _ z7 => Q z7) X.xe z6 := fun T6 q => gone_ok (T6.unsuite okX) nodup at_i lcl q
    cases f with
    | next => exact leave done.choose_spec.choose_spec.1 fun z7 J7 => ⟨_, _, J7, done.choose_spec.choose_spec.2⟩
    | brk => exact leave done.choose_spec.choose_spec.1 fun z7 J7 => ⟨_, _, J7, done.choose_spec.choose_spec.2⟩
    | cont => exact leave done.choose_spec.choose_spec.1 fun z7 J7 => ⟨_, _, J7, done.choose_spec.choose_spec.2⟩
    | ret u =>
      obtain ⟨v6, τ6, G6, T6, r6, q6⟩ := done
      exact leave T6 fun z7 J7 => ⟨_, _, _, J7, r6, q6⟩
  refine wpAny_mono run (fun f z done => ?_) fun _ _ q => q
  cases f with
  | next => obtain ⟨_, _, _, q⟩ := done; exact q.elim
  | brk => obtain ⟨_, _, _, q⟩ := done; exact q.elim
  | cont => obtain ⟨_, _, _, q⟩ := done; exact q.elim
  | ret u =>
    obtain ⟨v, τ, G, J', r, q⟩ := done
    exact ⟨v, τ, G, J'.ofTry okX, r, q⟩
end
end DL
set_option maxHeartbeats 2000000
/-! repr. -/
namespace DL
open PySem PySem.Spec PyProof.Rows L2
section
variable {X : Cx} {M : Mc} {N : List Str} {sc : Scope} {k : Nat} {g : Bool} {Γ : Gm} {μ μ1 : Sto} {e : Expr} {p pos : Pos} {d : PyData}
theorem c_reprT {ds : List PyData} (hg : X.A.guards = some []) (hu : X.A.units + 65 < cLine) (hl : PyData.canLay0 (.tuple ds) = true) (hs : PyData.showable (.tuple ds) = true) (hd : (PyData.tuple ds).depth ≤ 60) (hz : (PyData.tuple ds).shown.length ≤ sizeLine) : ClE X (.builtin "repr") Γ μ [.dat (.tuple ds)] (.dat (.str (PyData.tuple ds).shown)) μ := .mk fun F0 H0 A0 T σ H vs l st Q q pins s us I r => by
  match vs, l with
  | [v], _ =>
    obtain ⟨u, rfl, r1⟩ := vals1 r
    obtain ⟨F, A, si⟩ := st
    have hv : Dp X.K F v (.tuple ds) := si.temps (.dat (.tuple ds), v) (by simp)
    obtain ⟨as, rd⟩ := Dp.reads I (.tuple ds) v u (dp_mono si.fh _ _ hv) r1
    cases hv with
    | @tup a xs _ h1 h2 =>
      cases r1
      refine repr_of_reads' rd hs (PyData.noDict_hsm (PyData.hasDict_of_canLay _ hl)) hg (by omega) (fun _ _ h => h) (fun h' tk t hk => ?_) hz
      exact ⟨.str _, H, I.kept (t' := t) hk, ⟨_, rfl⟩, q _ H ⟨F, A, (si.tmp (T' := T) fun p hp => List.mem_append_right _ hp).val (r := .dat _) (.str _)⟩⟩
def reprB (b : Bool) : Str := if b then "True" else "False"
theorem call_repr_bl {X : Cx} : CallR X (.builtin "repr") (fun xs H Q => ∃ b, xs = [.bl b] ∧ Q (.str (reprB b)) H) := by
  intro pins s σ H xs us Q I r h
  obtain ⟨b, rfl, q⟩ := h
  obtain ⟨u, rfl, ru⟩ := vals1 r
  cases (show u = Value.bool b from ru)
  exact PySem.P.repr_of_bool ⟨.str (reprB b), H, I.tok _, ⟨s.toks, by cases b <;> rfl⟩, q⟩
theorem c_reprB {b : Bool} : ClE X (.builtin "repr") Γ μ [.dat (.bool b)] (.dat (.str (reprB b))) μ := cl_one call_repr_bl fun F0 H0 A0 T σ H F A v si rv Q q => by
  obtain rfl := dpb rv
  exact ⟨b, rfl, q _ H ⟨F, A, si.val (r := .dat _) (.str _)⟩⟩
theorem Bd.reprT (b : Bd X M N sc k true) (hm : M.mg "repr" = none) {ds : List PyData} (h : EvE X Γ μ e (.dat (.tuple ds)) μ1) (hl : PyData.canLay0 (.tuple ds) = true) (hs : PyData.showable (.tuple ds) = true) (hd : (PyData.tuple ds).depth ≤ 60) (hz : (PyData.tuple ds).shown.length ≤ sizeLine) (hv : gloB sc "repr" = true := by decide +kernel) (hst : starEach [e] X.env = (false, eval e X.env) :: starEach [] X.env := by rfl) (hpl : (backTo pos (starEach [] X.env)).any (·.1) = false := by rfl) :
    EvE X Γ μ (.Call (.Name "repr" p) [e] [] pos) (.dat (.str (PyData.tuple ds).shown)) μ1 := ev_callB (ea_one h hst) (c_reprT (b.gd rfl) b.un hl hs hd hz) (b.glo hv) (by rw [b.mg]; exact hm) (by rfl) (by decide) (by decide) hst hpl
theorem Bd.reprB (b : Bd X M N sc k g) (hm : M.mg "repr" = none) {v : Bool} (h : EvE X Γ μ e (.dat (.bool v)) μ1) (hv : gloB sc "repr" = true := by decide +kernel) (hst : starEach [e] X.env = (false, eval e X.env) :: starEach [] X.env := by rfl) (hpl : (backTo pos (starEach [] X.env)).any (·.1) = false := by rfl) :
    EvE X Γ μ (.Call (.Name "repr" p) [e] [] pos) (.dat (.str (reprB v))) μ1 := ev_callB (ea_one h hst) c_reprB (b.glo hv) (by rw [b.mg]; exact hm) (by rfl) (by decide) (by decide) hst hpl
end
end DL
set_option maxHeartbeats 2000000
/-! An own exception whose __init__ says super().__init__(what); self.what = what, its base an own class over ValueError: made, raised, caught, read. -/
namespace DL
namespace Tm
open PySem PySem.Spec PySem.W PySem.Calls PyProof.Rows PySem.HandSPX
def iA : Arguments := { posonlyargs := [], args := [{ arg := "self", annotation := none, pos := ⟨11, 17, 11, 21⟩ }, { arg := "what", annotation := none, pos := ⟨11, 23, 11, 27⟩ }], vararg := none, kwonlyargs := [], kw_defaults := [], kwarg := none, defaults := [] }
def iB : List Stmt := [.Expr (.Call (.Attribute (.Call (.Name "super" ⟨12, 8, 12, 13⟩) [] [] ⟨12, 8, 12, 15⟩) "__init__" ⟨12, 8, 12, 24⟩) [.Name "what" ⟨12, 25, 12, 29⟩] [] ⟨12, 8, 12, 30⟩) ⟨12, 8, 12, 30⟩, .Assign [.Attribute (.Name "self" ⟨13, 8, 13, 12⟩) "what" ⟨13, 8, 13, 17⟩] (.Name "what" ⟨13, 20, 13, 24⟩) ⟨13, 8, 13, 24⟩]
def iS : Scope := { kind := .function, names := [(PySem.Str.ofString "self", .local), (PySem.Str.ofString "what", .local), (PySem.Str.ofString "__class__", .free), (PySem.Str.ofString "super", .globalImplicit)], isGenerator := false, isCoroutine := false, more := [] }
/-- what the top has written of the class at C, of its __init__ at fI, the cell of __class__ at cc, the code at cda -/
structure Txt (P : Program) (K : Frag) (mg : Str → Option Value) (C fI cc cda : Addr) : Prop where
  gC : mg "TooMany" = some (.ref C)
  cls : ∃ nm q N bs bm sn sub ab col dd k0 k1 k2 k3 k5, K.lookup C = some (excClassObj nm q C N bs bm true sn sub ab col dd k0 k1 k2 k3 k5 "ValueError.__new__") ∧ refsVE bm = true
  sa : findIn K (.ref C) "__setattr__" = some (some (.builtin "object.__setattr__"))
  ga : findIn K (.ref C) "__getattribute__" = some (some (.builtin "BaseException.__getattribute__"))
  gg : findIn K (.ref C) "__getattr__" = some none
  noN : findIn K (.ref C) "what" = some none
  iC : findIn K (.ref C) "__init__" = some (some (.ref fI))
  tC : typeIn K (.ref fI) = some (.type "function")
  kC : keepIn K (.ref C) = true
  exC : subIn K (.ref C) (.type "BaseException") = some true
  tyC : typeIn K (.ref C) = some (.type "type")
  hdC : hasDictIn K C = true
  te : exmOne K (.ref C) (.ref C) = some true
  su : ks_superIn K C C "__init__" = some (some (.builtin "ValueError.__init__"))
  vb : subIn K (.ref C) (.type "ValueError") = some true
  mo : mroIn K C (.ref C) = some true
  th : nsIn K cStatics "thirdparty.any" = some none
  gs : mg "super" = none
  ht : (P.main.scope.names.lookup ("super" : Str)).isSome = false
  fn : ∃ (oc : Value) (od : Option Addr) (doc pm : Value) (an : Option Addr) (ct : Value) (osl : Array (Option Value)),
    K.lookup fI = some ⟨oc, od, .func (ksFn "__init__" "TooMany.__init__" iA iB iS .none .none doc pm an (.ref cda) ct cc), osl⟩ ∧ codeIn K (.ref cda) "TooMany.__init__" = true
  code : ∃ (ccl : Value) (cdd : Option Addr) (vs : Array Value) (ccs : Array (Option Value)) (file : Str) (tf : Tok), K.lookup cda = some ⟨ccl, cdd, .fields vs, ccs⟩ ∧ vs[2]? = some (.str file tf) ∧ ((P.main.file : Str) == file) = true
  cell : ∃ (cl : Value) (cld : Option Addr) (csl : Array (Option Value)), K.lookup cc = some ⟨cl, cld, .cell (some (.ref C)), csl⟩
structure InitEnd (h h' : Heap) (x C dx t1 : Addr) (v : Value) : Prop where
  keep : ∀ b o, b ≠ x → h.get? b = some o → h'.get? b = some o
  obj : h'.get? x = some { cls := .ref C, dict := some dx, data := .fields #[.ref t1, .none, .none, .none, .bool false, .none] }
  dbig : h.objs.size ≤ dx
  dne : dx ≠ x
  ns : h'.Ns1 dx (fun y => if y = "what" then some v else none)
structure OwnMade (h h' : Heap) (e C d : Addr) (v : Value) : Prop where
  keep : ∀ b o, h.get? b = some o → h'.get? b = some o
  new : h.objs.size ≤ e
  obj : ∃ oe vs, h'.get? e = some oe ∧ oe.cls = .ref C ∧ oe.dict = some d ∧ oe.data = .fields vs ∧ vs[1]? = some .none
  dbig : h.objs.size ≤ d
  dne : d ≠ e
  ns : h'.Ns1 d (fun y => if y = "what" then some v else none)
theorem one_sz (v : Value) : [v].length ≤ sizeLine := by rw [sizeLine_eq]; exact (by decide : 1 ≤ 16777216)
section
variable {prog : Program} {w : World} {A : Around} {E : Value → Shared → Prop} {R : Result → Shared → Prop} {h : Heap} {g : Array GenState} {d : Drawn} {t : Nat} {os : OsState}
variable {nm q : Str} {C N : Addr} {bs bm bmB : List Value} {hdct : Bool} {sn : List Str} {sub : List Value} {ab : Bool} {col : Option Bool} {dd : Option Addr} {k0 k1 k2 k3 k5 : Option Value} {newId i B : String}
/-- the bound built-in __init__ called -/
theorem call_mw {u e t0 : Addr} {rest : List Value} {Q : Value → Shared → Prop} (FB : ExcBaseFacts B newId i bmB)
    (hC : h.get? C = some (excClassObj nm q C N bs bm hdct sn sub ab col dd k0 k1 k2 k3 k5 newId)) (he : h.get? e = some (excO C t0)) (hu : h.get? u = some (kxs_mw i e)) (hrest : rest.length ≤ sizeLine)
    (hq : ∀ h' t1, (∀ b o, b ≠ e → h.get? b = some o → h'.get? b = some o) → h'.get? e = some (excO C t1) → Q .none ⟨h', g, d, t, os⟩) :
    wpAny (model prog w) A (call (.ref u) rest) Q E ⟨h, g, d, t, os⟩ := by
  refine wpAny_call (codeAny_of_tree (show wpAny _ A.in1 (callAny (.ref u) ⟨rest, []⟩) _ _ _ from ?_))
  simp only [callAny]
  refine wpAny_bind (wpAny_load hu ?_)
  have c1 : (Value.type "method-wrapper" == Value.type "method" || Value.type "method-wrapper" == Value.type "builtin_function_or_method" || Value.type "method-wrapper" == Value.type "method-wrapper") = true := by decide
  simp only [kxs_mw, c1, if_true]
  refine KFB.if_so (by decide) (wpAny_bind (check_bound_init FB.toExcCallFacts hC he rfl (wpAny_bind (wpAny_pure (wpAny_pure ⟨plainId_quiet FB.init.plain _, codeAny_builtin FB.initEntry ?_⟩)))))
  exact exc_init_tree (cls := .ref C) (t0 := t0) (dv := none) (c2 := .none) (c3 := .none) (b4 := .bool false) he hrest fun h' k e' _ => hq h' _ k e'
end
section
variable {prog : Program} {w : World} {A : Around} {E : Value → Shared → Prop} {R : Result → Shared → Prop} {s : Shared} {K : Frag} {mg : Str → Option Value} {base : Heap} {C fI cc cda : Addr}
theorem tm_init (T : Txt prog K mg C fI cc cda) (Mo : L2.Mod K mg base) {x t0 : Addr} {v : Value} (bk : ∀ b o, base.get? b = some o → s.heap.get? b = some o) (hlim : s.heap.NoLimit) (hx : s.heap.get? x = some (excO C t0)) (hnx : K.lookup x = none) (hroom : A.depth < recursionLimit)
    (hq : ∀ h' tk dx t1, InitEnd s.heap h' x C dx t1 v → R (.ok (.ret .none)) { s with heap := h', toks := tk }) :
    codeAny (model prog w) A (.call (.ref fI) ⟨[.ref x, v], []⟩) R s := by
  obtain ⟨oc, od, doc, pm, an, ct, osl, ho, hcd⟩ := T.fn
  obtain ⟨nm, q, N, bs, bm, sn, sub, ab, col, dd, k0, k1, k2, k3, k5, hC, hbm⟩ := T.cls
  obtain ⟨ccl, cdd, vs, ccs, file, tf, hcode, hvs, hfile⟩ := T.code
  obtain ⟨cl, cld, csl, hcell⟩ := T.cell
  have hcl : clsIn K C = some { name := nm, bases := bs, mro := .ref C :: bm, ns := N, qualname := q, hasDict := true, slotNames := sn, subclasses := sub, abstract := ab, collection := col, hasDel := false } := by unfold clsIn; rw [hC] <;> rfl
  obtain ⟨mb, hb, hbb⟩ := Mo.blt
  obtain ⟨hp, g, dr, tk, os⟩ := s
  have X : K.In hp := Mo.kin.keeps bk
  have hxC : x ≠ C := fun z => by rw [z, hC] at hnx; cases hnx
  have hboot : bootBuiltins "super" = some (.type "super") := by first | boot_by_name | rfl | kernel_rfl
  refine ks_codeAny_call_defAt (fd := ksFn "__init__" "TooMany.__init__" iA iB iS .none .none doc pm an (.ref cda) ct cc) (body := iB) (binds := [("self", .ref x), ("what", v)]) hroom (X _ _ ho) rfl hlim (codeRec_of X hcd) rfl (BindsTo.of_eq rfl) (show ∀ x ∈ iS.names, x.2 ≠ .cell by decide) (by intro y hy; simp only [List.mem_cons, List.not_mem_nil, or_false] at hy; rcases hy with rfl | rfl <;> rfl) (fun h1 hns kk1 => ?_) rfl rfl rfl
  have X1 : K.In h1 := X.keeps kk1
  have bk1 : ∀ b o, base.get? b = some o → h1.get? b = some o := fun b o e => kk1 b o (bk b o e)
  have hx1 := kk1 _ _ hx
  refine ks_wpAt_execs_cons (ks_wpAt_Expr_any (ks_wpAt_MethodCall ?_))
  refine ks_wpAt_super_base (env := ksEnv "TooMany.__init__" iS hp.objs.size fI (.ref cda) cc) rfl rfl rfl rfl (X1 _ _ ho) rfl rfl rfl (X1 _ _ hcode) rfl hvs hfile T.ht ?_
  refine ks_loadName_global rfl rfl (loadGlobal_builtin (env := ksEnv "TooMany.__init__" iS hp.objs.size fI (.ref cda) cc) (Mo.glob.keeps bk1) T.gs (hb.keeps bk1) ((hbb _ (by decide +kernel)).trans hboot) ⟨rfl, ?_⟩)
  refine wpAny_loadName_free rfl rfl rfl ⟨_, X1 _ _ hcell, rfl⟩ ?_
  refine wpAny_loadName_local rfl rfl hns (v := .ref x) (by rfl) ?_
  refine ks_wpAny_isType_cls (X1 _ _ hC) rfl ⟨rfl, ?_⟩
  refine ks_wpAny_call_super (X1 _ _ hC) rfl hx1 rfl (fun c e => by cases e) (looks_mroIn X1 T.mo) (fun h2 e2 kk2 => ?_)
  have X2 : K.In h2 := X1.keeps kk2
  have hsu := T.su
  unfold ks_superIn at hsu
  rw [hcl] at hsu
  have hx2 := kk2 _ _ hx1
  have I2 : W.InstAt h2 x (excO C t0) C none := ⟨hx2, rfl, rfl, trivial⟩
  refine kxs_getMethod kxs_ValueError e2 (looks_opaque X2 T.th) (l₀ := .ref C :: bm) ((looks_clsIn X2 hcl).andThen .now) rfl X2 hsu (I2.type.andThen (looks_subIn X2 T.vb)) hxC (by decide) ?_
  have kk3 : ∀ b o, h2.get? b = some o → (h2.push (kxs_mw "ValueError.__init__" x)).get? b = some o := fun b o e => Heap.get?_push_of_some _ e
  have hu3 : (h2.push (kxs_mw "ValueError.__init__" x)).get? h2.objs.size = some (kxs_mw "ValueError.__init__" x) := Heap.get?_push_at rfl rfl
  have hx3 := kk3 _ _ hx2
  have hns3 : (h2.push (kxs_mw "ValueError.__init__" x)).Ns hp.objs.size (fun y => ([("self", Value.ref x), ("what", v)] : List (Str × Value)).reverse.lookup y) := hns.keeps fun b o e => kk3 _ _ (kk2 _ _ e)
  have hC3 := kk3 _ _ (kk2 _ _ (X1 _ _ hC))
  refine kxs_callWith1 (h₀ := Att.noObjs h2) (L := h2.objs.size + 1) (news := [(h2.objs.size, kxs_mw "ValueError.__init__" x)]) (i := "ValueError.__init__") (x := x)
    (fun p hp => by rw [List.mem_singleton] at hp; subst hp; exact ⟨hu3, by show h2.objs.size ≠ h2.objs.size + 1; omega, Att.noObjs_get _ _⟩) List.mem_cons_self ?_
  refine spliced_more (ESX.ldL hns3 (v := v) (by rfl) (spliced_none ⟨hu3, ?_⟩))
  refine call_mw F.excBase_ValueError hC3 hx3 hu3 (one_sz v) fun h4 t1 kk4 hx4 => ?_
  show _root_.PySem.wpAt _ _ _ _ _ _ _
  have up4 : ∀ b o, b ≠ x → h1.get? b = some o → h4.get? b = some o := fun b o n e => kk4 b o n (kk3 _ _ (kk2 _ _ e))
  have nK : ∀ b o, K.lookup b = some o → b ≠ x := fun b o e z => by rw [z, hnx] at e; cases e
  have X4 : K.In h4 := fun b o e => up4 b o (nK b o e) (X1 b o e)
  have xL : hp.objs.size ≠ x := Nat.ne_of_gt (Heap.lt_size hx)
  have hns4 : h4.Ns hp.objs.size (fun y => ([("self", Value.ref x), ("what", v)] : List (Str × Value)).reverse.lookup y) := by
    obtain ⟨oL, es, ep, hL, r⟩ := hns
    exact ⟨oL, es, ep, up4 _ _ xL hL, r⟩
  refine wpAt_of_wpAny (wpAny_execs_cons (plainObj_wpAny_Assign_Attribute ?_))
  refine ESX.ldL hns4 (v := v) (by rfl) (ESX.ldL hns4 (v := .ref x) (by rfl) ?_)
  refine set_plain X4 (ox := excO C t1) (od := none) ⟨hx4, rfl, rfl, trivial⟩ T.sa ?_
  refine exc_osa X4 hx4 hcl (show refsVE (.ref C :: bm) = true from hbm) rfl T.noN (fun h5 tk5 dx kk5 dn dne hx5 hn5 => ?_)
  show wpAny _ _ (execs _ _) _ _ _
  have z : hp.objs.size ≤ h4.objs.size := by
    obtain ⟨oL, es, ep, hL, r⟩ := hns4
    exact Nat.le_of_lt (Heap.lt_size hL)
  exact wpAny_execs_nil (hq h5 tk5 dx t1 ⟨fun b o n e => kk5 b o n (up4 b o n (kk1 b o e)), hx5, Nat.le_trans z dn, dne, hn5⟩)
theorem tm_made (T : Txt prog K mg C fI cc cda) (Mo : L2.Mod K mg base) {v : Value} (bk : ∀ b o, base.get? b = some o → s.heap.get? b = some o) (hlim : s.heap.NoLimit) (hroom : A.depth + 1 < recursionLimit)
    (hq : ∀ h' tk e d, OwnMade s.heap h' e C d v → R (.ok (.ret (.ref e))) { s with heap := h', toks := tk }) :
    codeAny (model prog w) A (.call (.ref C) ⟨[v], []⟩) R s := by
  obtain ⟨nm, q, N, bs, bm, sn, sub, ab, col, dd, k0, k1, k2, k3, k5, hC, hbm⟩ := T.cls
  obtain ⟨hp, g, dr, tk, os⟩ := s
  have X : K.In hp := Mo.kin.keeps bk
  have up : ∀ b o, hp.get? b = some o → ((hp.push (kdv_tup [v])).push (excO C hp.objs.size)).get? b = some o := fun b o e => Heap.get?_push_of_some _ (Heap.get?_push_of_some _ e)
  have new : ((hp.push (kdv_tup [v])).push (excO C hp.objs.size)).get? (hp.objs.size + 1) = some (excO C hp.objs.size) := by heap_get
  have far : K.lookup (hp.objs.size + 1) = none := by
    cases e : K.lookup (hp.objs.size + 1) with
    | none => rfl
    | some o => exact absurd (Nat.lt_of_succ_lt (Heap.lt_size (show hp.get? (hp.objs.size + 1) = some o from X _ _ e))) (Nat.lt_irrefl _)
  refine call_own F.excBase_ValueError (fun X => refsVE_contains X bm hbm) (X _ _ hC) (looks_findIn X T.iC) (fun self => bind_fn X self T.tC) (one_sz v) ?_
  refine tm_init (s := ⟨(hp.push (kdv_tup [v])).push (excO C hp.objs.size), g, dr, tk, os⟩) T Mo (fun b o e => up b o (bk b o e)) (hlim.keeps up) new far (show A.depth + 1 < recursionLimit from hroom) fun h' tk' dx t1 ⟨k', hx, dn, dne, hns⟩ => ?_
  have old : ∀ b o, hp.get? b = some o → h'.get? b = some o := fun b o e => k' b o (Nat.ne_of_lt (Nat.lt_succ_of_lt (Heap.lt_size e))) (up b o e)
  have z : hp.objs.size + 1 + 1 ≤ dx := by
    have q : ((hp.push (kdv_tup [v])).push (excO C hp.objs.size)).objs.size ≤ dx := dn
    rw [Heap.size_push, Heap.size_push] at q
    exact q
  exact ⟨rfl, hq h' tk' (hp.objs.size + 1) dx ⟨old, Nat.le_succ _, ⟨_, _, hx, rfl, rfl, rfl, rfl⟩, Nat.le_trans (Nat.le_trans (Nat.le_succ _) (Nat.le_succ _)) z, dne, hns⟩⟩
end
end Tm
open PySem PySem.Spec PyProof.Rows L2
theorem relO_what {v : V} {v' : Value} (r : RelV v v') (f : Str) : RelO (List.lookup f [(("what" : Str), v)]) (if f = "what" then some v' else none) := by
  by_cases hw : f = "what"
  · subst hw
    rw [if_pos rfl]
    have q : List.lookup ("what" : Str) [(("what" : Str), v)] = some v := by simp [List.lookup]
    rw [q]
    exact r
  · rw [if_neg hw]
    have qw : (f == ("what" : Str)) = false := by simpa using hw
    have q2 : List.lookup f [(("what" : Str), v)] = none := by simp [List.lookup, qw]
    rw [q2]
    trivial
section
variable {X : Cx} {C fI cc cda : Addr}
/-- TooMany(m) -/
theorem pmk_tm {m : Str} {p pos p2 : Pos} {k j : Nat} (T : Tm.Txt X.prog X.K X.mg C fI cc cda) (hr : Room k X.A) (hg : Gl X "TooMany") :
    PMk X (.Call (.Name "TooMany" p) [.Constant (.str m) j p2] [] pos) (fun _ H Q => ∀ d, H d = none → Q (.ref C) (some d) (upd H d (.xd [(("what" : Str), .str m)]))) := by
  intro pins s σ H Q I h
  refine wpAny_Call_Name_kw (ld_glob I hg T.gC ?_)
  have ha : PA X [.Constant (.str m) j p2] (tCons (tC (.str m)) tNil) := pa_cons pe_str pa_nil
  refine PySem.W.callWith_K (h₀ := X.base) I.ok.mod.kin T.kC (thn (ha.run pos pins s σ H (fun vs H1 => vs = [V.str m] ∧ H = H1) I ⟨rfl, rfl⟩) fun us s1 hh => ?_)
  obtain ⟨vs, H1, I1, r1, ev, eH⟩ := hh
  subst ev
  rw [← eH] at I1
  refine ⟨I1.kIn, ?_⟩
  cases r1 with
  | cons rv rn =>
    rename_i v' us'
    cases rn
    have hlim := I1.nolimit
    have bk := I1.bk
    obtain ⟨hp, g, dr, tk, os⟩ := s1
    show wpAny _ _ (call (.ref C) [v']) _ _ _
    refine wpAny_call (Tm.tm_made T I1.ok.mod bk hlim (by have := hr.dp; omega) fun h' tk' e d M => ?_)
    show MkP X pins σ Q (.ref e) ⟨h', g, dr, tk', os⟩
    obtain ⟨oe, fv, hoe, hc, hd, hdat, h1⟩ := M.obj
    have hns := M.ns
    obtain ⟨G', g1, g2⟩ := restrict h' fun b => decide (b ≠ e)
    have gk : ∀ b, b ≠ e → G'.get? b = h'.get? b := fun b hb => g1 b (decide_eq_true hb)
    have ge : G'.get? e = none := g2 e (by simp)
    have old : ∀ b o, hp.get? b = some o → G'.get? b = some o := fun b o q => (gk b (Nat.ne_of_lt (Nat.lt_of_lt_of_le (Heap.lt_size q) M.new))).trans (M.keep b o q)
    have ob : ObjOk X.prog X.w (upd H d (.xd [(("what" : Str), .str m)])) G' d (.xd [(("what" : Str), .str m)]) :=
      ⟨_, hns.at (fun o q => (gk d M.dne).trans q), fun f => relO_what rv f⟩
    have J : Inv X pins σ (upd H d (.xd [(("what" : Str), .str m)])) ⟨G', g, dr, tk', os⟩ := I1.laid (t' := tk') old M.dbig ob
    refine ⟨e, oe, fv, ⟨G', g, dr, tk', os⟩, _, .ref C, some d, rfl, J, fun b o q => ?_, ge, hoe, ⟨hc, hd⟩, hdat, h1, ?_, rfl, I1.bare, raises_own T.exC T.tyC, h d (I1.hok.fresh M.dbig)⟩
    · by_cases hb : b = e
      · have q' : G'.get? b = some o := q
        rw [hb, ge] at q'; cases q'
      · exact (gk b hb).symm.trans q
    · rw [upd_ne (Ne.symm M.dne)]
      exact I1.hok.fresh M.new
/-- e.what, e the exception that the suite holds -/
theorem pe_what {a : Addr} {oe : Obj} {cls : Value} {d : Option Addr} {pn : List (Addr × Obj)} {e : Expr} {te : TE} {pos : Pos} (T : Tm.Txt X.prog X.K X.mg C fI cc cda) (hz : Zc cls d oe) (hf : ∃ vs, oe.data = .fields vs) (he : PE (X.suite a ((a, oe) :: pn)) e te)
    (hb : attributeBase e "what" X.env (eval e X.env) = eval e X.env := by rfl) :
    PE (X.suite a ((a, oe) :: pn)) (.Attribute e "what" pos) (fun σ H Q => te σ H fun x H1 => x = .ref a ∧ cls = .ref C ∧ ∃ (dd : Addr) (v : V), d = some dd ∧ H1 dd = some (.xd [(("what" : Str), v)]) ∧ Q v H1) := by
  refine ⟨fun pins s σ H Q I h => attr_of hb (thn (he.run pins s σ H _ I h) fun u s1 hh => ?_)⟩
  obtain ⟨x, H1, I1, rx, ex, ec, dd, v, ed, ea, q⟩ := hh
  subst ex
  obtain rfl : u = Value.ref a := rx
  subst ec
  subst ed
  obtain ⟨ha, _⟩ := I1.pin (a, oe) (List.mem_append_left _ List.mem_cons_self)
  obtain ⟨vs, hd⟩ := hf
  obtain ⟨mA, hns, hr⟩ := (show ObjOk X.prog X.w H1 s1.heap dd (.xd [(("what" : Str), v)]) from I1.hok dd _ ea)
  obtain ⟨od, ho, hl⟩ := lookIn_ns hns
  have l : List.lookup ("what" : Str) [(("what" : Str), v)] = some v := by simp [List.lookup]
  obtain ⟨u, hu, ru⟩ := RelO.some_of (v := v) (o := mA "what") (by rw [← l]; exact hr "what")
  have J : PySem.W.InstAt s1.heap a oe C (some od) := ⟨ha, hz.1, by unfold PySem.W.notCls; rw [hd] <;> rfl, by rw [hz.2]; exact ho⟩
  exact HandSPX.exc_get I1.kIn J T.ga T.gg T.exC (PySem.W.findObj_own T.hdC T.noN rfl (by rw [hl, hu])) (handed_of ru) ⟨v, H1, I1.tok _, ru, q⟩
end
end DL
set_option maxHeartbeats 2000000
/-! A def that ends in an exception; its call within a try. -/
namespace DL
open PySem PySem.Spec PyProof.Rows L2
section
variable {X : Cx} {F0 H0 H : Hp} {A0 : List Addr} {Γ Γ' : Gm} {μ μ' : Sto} {T : Tmp} {σ : Sl} {D : Ends} {s : Stmt} {rest : List Stmt} {O : Out}
theorem wS_nox (h : wS X.nox s D σ H) : wS X s D σ H := fun pins s1 I => wpAny_mono (h pins s1 (I.wish _)) (fun _ _ q => q.unwish) fun _ _ z => False.elim z
theorem wT_nox {e : Expr} {Q : Bool → Hp → Prop} (h : wT X.nox e σ H Q) : wT X e σ H Q := fun pins s1 I => wpAny_mono (h pins s1 (I.wish _)) (fun _ _ ⟨H', I', q⟩ => ⟨H', I'.unwish, q⟩) fun _ _ z => False.elim z
/-- a statement ahead of others, read off for one state -/
theorem seq_nox (h : Ex1 X.nox Γ μ s O) (st : Stt X F0 H0 A0 Γ μ T σ H) (n1 : ∀ r μ, ¬ O.rt r μ) (n2 : ∀ Γ μ, ¬ O.bk Γ μ) (n3 : ∀ Γ μ, ¬ O.ct Γ μ)
    (k : ∀ Γ' μ' σ' H', O.nx Γ' μ' → Stt X F0 H0 A0 Γ' μ' T σ' H' → wSs X rest D σ' H') : wSs X (s :: rest) D σ H := by
  refine wSs_of (pss_cons ps_w pss_w) ?_
  have q : wS X s (endsOf X.nox F0 H0 A0 T O) σ H := wS_nox (h.run F0 H0 A0 T σ H st)
  intro pins s1 I
  refine wpAny_mono (q pins s1 I) (fun f s' z => ?_) fun _ _ z => z
  cases f with
  | next =>
    obtain ⟨σ', H', I', Γ', μ', hr, st'⟩ := z
    exact ⟨σ', H', I', k Γ' μ' σ' H' hr st'⟩
  | ret v => obtain ⟨_, _, _, _, _, r, μ, z, _⟩ := z; exact (n1 _ _ z).elim
  | brk => obtain ⟨_, _, _, _, _, z, _⟩ := z; exact (n2 _ _ z).elim
  | cont => obtain ⟨_, _, _, _, _, z, _⟩ := z; exact (n3 _ _ z).elim
theorem Stt.xd {d : Addr} {o : HO} (h : Stt X F0 H0 A0 Γ μ T σ H) (hd : H d = none) : Stt X F0 H0 A0 Γ μ T σ (upd H d o) := let ⟨F, A, s⟩ := h; ⟨_, A, s.new_fix hd⟩
/-- one slot is not known -/
theorem Stt.wipe {i : Nat} {v : Option V} (h : Stt X F0 H0 A0 Γ μ T σ H) (hi : Γ[i]? = some none) : Stt X F0 H0 A0 Γ μ T (σ.set i v) H := by
  obtain ⟨F, A, s⟩ := h
  refine ⟨F, A, { s with slots := fun j av e => ?_, len := by simpa using s.len }⟩
  have hj : i ≠ j := fun z => by subst z; rw [hi] at e; cases e
  obtain ⟨u, e1, r⟩ := s.slots j av e
  exact ⟨u, by rw [List.getElem?_set_ne hj]; exact e1, r⟩
end
/-- what a def lets out: an exception of the class at C, whose own dict holds what = m -/
def spX (P : Program) (w : World) (K : PySem.W.Frag) (as : List AV) (C : Addr) (m : Str) : Sp := fun vs H _ E => vs.length = as.length ∧ ∃ F, Sin P w K F H [] [] [] (as.zip vs) [] H F [] ∧
  ∀ d H', (∃ F' A', Sin P w K F H [] [] [] [] [] H' F' A') → H' d = some (.xd [(("what" : Str), .str m)]) → E (.ref C) (some d) H'
def CalX (M : Mc) (k : Nat) (x : Str) (as : List AV) (C : Addr) (m : Str) : Prop :=
  ∃ f fd ps, M.mg x = some (.ref f) ∧ PySem.W.keepIn M.K (.ref f) = true ∧ Binds M.K fd ps [] ∧ Fg false M (L2.CX M.P M.w) k f fd ps (spX M.P M.w M.K as C m)
theorem calX_of {M : Mc} {x qual : Str} {st : Stmt} {ps N : List Str} {as : List AV} {C : Addr} {m : Str} {k : Nat} (Df_ : Df M x qual st ps) (S : FnScope N ps (defScope st)) (hl : as.length = ps.length)
    (h : ∀ X, Bd X.nox M N (defScope st) k false → (∀ y, X.fn y = true) → ∀ F0 H0 σ H (W : WX), Takes X W → Stt X F0 H0 [] (startG as N) [] [] σ H → (∀ d σ' H', Stt X F0 H0 [] [] [] [] [] H' → H' d = some (.xd [(("what" : Str), .str m)]) → W (.ref C) (some d) σ' H') → ∀ D, wSs X (defBody st) D σ H) :
    CalX M (k + 1) x as C m := by
  obtain ⟨f, fd, Fn, h2, h3, h4⟩ := Df_
  refine ⟨f, fd, ps, h2, h3, h4, fg_of Fn S (fun vs H Q E z => z.1.trans hl) fun cdv A outer s H vs Q E hg hr ⟨l, F, si, q⟩ => ?_⟩
  have st0 : Stt (cxOf (L2.CX M.P M.w) M.P M.w M.K M.mg M.base N qual (defScope st) f cdv A outer s H E) F H [] (startG as N) [] [] (start N vs) H := ⟨F, [], { si with
    slots := fun i av e => by
      obtain ⟨v, h1, h2⟩ := zip_get l (startG_get e)
      exact ⟨v, start_get h1, si.temps _ h2⟩
    len := by
      have hpl : ps.length ≤ N.length := by have := congrArg List.length S.pre; rw [List.length_take] at this; omega
      unfold startG L2.start; simp [l]
    temps := fun p hp => by simp at hp }⟩
  refine ⟨_, pss_w, h _ ⟨rfl, rfl, rfl, S.nd, S.kind, rfl, hr, (fun z => by cases z), rfl⟩ (fun _ => rfl) F H _ H (fun cls d _ H => E cls d H) (takes_of rfl rfl rfl rfl) st0 (fun d σ' H' ⟨F', A', z⟩ hd => q d H' ⟨F', A', z⟩ hd) _⟩
section
variable {X : Cx} {M : Mc} {N : List Str} {sc : Scope} {k k' : Nat} {g : Bool} {Γ : Gm} {μ : Sto} {T : Tmp} {σ : Sl} {H H0 F0 : Hp} {A0 : List Addr} {C fI cc cda : Addr} {m : Str} {D : Ends} {rest : List Stmt}
/-- raise TooMany(m) -/
theorem w_raise {W : WX} {j : Nat} {p pos p2 pos2 : Pos} (hc : X.calm = true) (Tm_ : Tm.Txt X.prog X.K X.mg C fI cc cda) (hr : Room k X.A) (hg : Gl X "TooMany") (tk : Takes X W) (st : Stt X F0 H0 A0 Γ μ T σ H)
    (h : ∀ d σ' H', Stt X F0 H0 A0 Γ μ T σ H' → H' d = some (.xd [(("what" : Str), .str m)]) → W (.ref C) (some d) σ' H') : wSs X (.Raise (some (.Call (.Name "TooMany" p) [.Constant (.str m) j p2] [] pos)) none pos2 :: rest) D σ H :=
  wSs_of (pss_cons (ps_raise hc tk (pmk_tm Tm_ hr hg)) pss_w) fun d hd => h d _ _ (st.xd hd) upd_same
/-- within a try: f(..) that lets such an exception out; except TooMany as n: if n.what != m: .. -/
theorem Bd.tryX (b : Bd X M N sc k g) (i : Nat) {x n : Str} {as : List AV} {es : List Expr} {e : Expr} {sb orelse : List Stmt} {p pos p2 p3 p4 p5 p6 p7 p8 np pos' : Pos} {j : Nat} {O : Out} (Tm_ : Tm.Txt M.P M.K M.mg C fI cc cda) (h : CalX M k' x as C m) (hk : k' ≤ k) (hb : allDat as = true) (hstk : X.stack = X.env :: X.outer) (hfr : X.env.frame = some X.env.locals)
    (ha : ∀ X', Bd X' M N sc k g → X'.env = X.env → EvA X' Γ μ (e :: es) as μ) (hi : Γ[i]? = some none) (kk : O.nx Γ μ) (hN : N[i]? = some n := by rfl) (hv : lclB sc n = true := by decide +kernel) (hx : gloB sc x = true := by decide +kernel) (hTM : gloB sc "TooMany" = true := by decide +kernel)
    (hd : (n == ("__debug__" : Str)) = false := by decide +kernel) (hcd : (n == ("__classdict__" : Str)) = false := by decide +kernel) (hdx : (x == ("__debug__" : Str)) = false := by decide +kernel)
    (he : starEach (e :: es) X.env = (false, eval e X.env) :: starEach es X.env := by rfl) (hpl : (backTo pos (starEach es X.env)).any (·.1) = false := by rfl) (hsw : swapsWith (.Call (.Name x p) (e :: es) [] pos) none p2.line X.env = pure false := by rfl)
    (hbs : attributeBase (.Name n p4) "what" X.env (eval (.Name n p4) X.env) = eval (.Name n p4) X.env := by rfl) :
    Ex1 X Γ μ (.Try [.Expr (.Call (.Name x p) (e :: es) [] pos) p2] [.ExceptHandler (some (.Name "TooMany" np)) (some n) [.If (.Compare (.Attribute (.Name n p4) "what" p5) [.NotEq] [.Constant (.str m) j p6] p7) sb [] p8] pos'] orelse [] p3) O := .mk fun F0 H0 A0 T σ H st => by
  obtain ⟨f, fd, ps, h1, h2, h3, h4⟩ := h
  have nox := b.nox
  have hXN := b.nn
  have hXs := b.ss
  obtain rfl := b.mc
  have T_ : Tm.Txt X.prog X.K X.mg C fI cc cda := Tm_
  have F := (h4.mono hk).fnOk
  have hr := b.room
  have lcl := b.lc hv
  have glx := b.glo hx
  have gtm := b.glo hTM
  have hNn : X.N[i]? = some n := by rw [hXN]; exact hN
  refine wS_of (ps_tryE (i := i) (c := .ref C) (tb := fun W => tDrop (tCallS (spX X.prog X.w X.K as C m) (WE W) (fun σ H Q => ∀ pn, wA (X.tr pn fun _ _ => False) (e :: es) σ H Q)))
    (ts := fun a cls d => tIfS (fun σ H Q => ∀ oe pn, Zc cls d oe → (∃ vs, oe.data = .fields vs) → wT (X.suite a ((a, oe) :: pn)) (.Compare (.Attribute (.Name n p4) "what" p5) [.NotEq] [.Constant (.str m) j p6] p7) σ H Q) (fun D σ H => ∀ X', wSs X' sb D σ H) tNext)
    hstk hfr (by rw [hXN]; exact b.nd) hNn lcl ⟨gtm, by decide, .inl T_.gC⟩ ?_ ?_) ?_
  · intro W pn xe tk _
    refine pss_one (ps_expr (pe_callS (X := X.tr pn xe) (f := f) F hr glx h1 h2 h3 (fun σ => passAt tk σ) ⟨fun pos pins s σ H Q I h => ?_⟩ hdx he hpl) hsw)
    exact wpAny_mono (h pn pos pins s (I.wish _)) (fun _ _ ⟨vs, H', I', r, q⟩ => ⟨vs, H', I'.unwish, r, q⟩) fun _ _ z => False.elim z
  · intro a oe cls d pn hz hf
    exact pss_one (ps_if ⟨fun pins s σ H Q I h => h oe pn hz hf pins s I⟩ ⟨fun pins s σ H D I h => h _ pins s I⟩ pss_nil)
  · intro pn
    refine (ha (X.tr pn fun _ _ => False) ⟨rfl, b.nn, b.ss, b.nd, b.kind, b.calm, b.room, b.gd, rfl⟩ rfl).run F0 H0 A0 T σ H st _ fun vs H1 l st1 => ?_
    obtain ⟨F1, A1, s1⟩ := st1
    refine ⟨l, F1, Sin.enter0 (T := T) s1 (allDat_below hb), fun d H' ⟨F', A', t⟩ hd' => ⟨T_.te, fun a ha' => ?_⟩⟩
    have z := (s1.tmp (T' := T) fun p hp => List.mem_append_right _ hp).leave0 (v := .non) (r := .dat .none) (t.val (r := .dat .none) .non)
    have stE : Stt X F0 H0 A0 Γ μ T σ H' := ⟨F', _, by simpa using z.pop⟩
    show ∀ oe pn, _ → _ → wT _ _ _ _ _
    intro oe pn2 hz hf
    have e0 : σ.length = Γ.length := by obtain ⟨_, _, s0⟩ := st; exact s0.len
    have il : i < σ.length := by rw [e0]; exact (List.getElem?_eq_some_iff.mp hi).1
    have st2 : Stt (X.suite a ((a, oe) :: pn2)) F0 H0 A0 Γ μ ((.dat (.str m), .str m) :: (.dat (.str m), .str m) :: T) (σ.set i (some (.ref a))) H' := by
      obtain ⟨F2, A2, s2⟩ := stE.wipe (v := some (.ref a)) hi
      exact ⟨F2, A2, (s2.val (r := .dat (.str m)) (v := .str m) (.str _)).val (r := .dat (.str m)) (v := .str m) (.str _)⟩
    refine wT_of (pt_cmp (X := X.suite a ((a, oe) :: pn2)) (op := .NotEq) (t := fun σ H Q => ∃ R : V → V → Hp → Prop, (wE (X.suite a ((a, oe) :: pn2)) (.Attribute (.Name n p4) "what" p5) σ H fun x H1 => wE (X.suite a ((a, oe) :: pn2)) (.Constant (.str m) j p6) σ H1 fun y H2 => R x y H2) ∧ ∀ x y H2, R x y H2 → ∀ (pins : List (Addr × Obj)) (s : Shared) (v u : Value), Inv (X.suite a ((a, oe) :: pn2)) pins σ H2 s → RelV x v → RelV y u → wpAny (model X.prog X.w) (X.suite a ((a, oe) :: pn2)).A (compareOp .NotEq v u) (EP (X.suite a ((a, oe) :: pn2)) pins σ Q) (X.suite a ((a, oe) :: pn2)).xe s)
      ⟨fun pins s σ H Q I h => by
        obtain ⟨R, h1, h2⟩ := h
        exact bin (R := R) pe_w pe_w I h1 fun v u s2 x y H2 I2 rx ry z => h2 x y H2 z pins s2 v u I2 rx ry⟩) ⟨fun x y H2 => x = .str m ∧ y = .str m ∧ H2 = H', ?_, ?_⟩
    · refine wE_of (pe_what T_ hz hf (pe_var (X := X.suite a ((a, oe) :: pn2)) hNn (.inl lcl) hd hcd) hbs) ⟨.ref a, List.getElem?_set_self il, rfl, rfl, d, .str m, rfl, hd', ?_⟩
      exact wE_of pe_str ⟨rfl, rfl, rfl⟩
    · rintro x y H2 ⟨rfl, rfl, rfl⟩ pins s v u I rx ry
      refine (o_neS (X := X.suite a ((a, oe) :: pn2)) (Γ := Γ) (μ := μ) (i := m) (j := m)).run F0 H0 A0 T _ _ _ _ st2 _ (fun z H3 st3 => ?_) pins s v u I rx ry
      obtain ⟨F3, A3, s3⟩ := st3
      obtain rfl := dpb s3.top
      refine ⟨_, rfl, ?_⟩
      have z := (show Stt X F0 H0 A0 Γ μ T _ H3 from ⟨F3, A3, s3.pop⟩).wipe (v := none) hi
      rw [decide_eq_true rfl]
      exact iteF ⟨Γ, μ, kk, z⟩
end
/-! ### a def's body, which knows its own frame -/
def RunsT (g : Bool) (M : Mc) (k : Nat) (N : List Str) (st : Stmt) (as : List AV) (μ : Sto) (r : AV) (μ' : Sto) : Prop :=
  ∀ X, Bd X M N (defScope st) k g → (∀ y, X.fn y = true) → X.stack = X.env :: X.outer → X.env.frame = some X.env.locals → ExS X (startG as N) μ (defBody st) (outOf r μ')
theorem fg_runsT {g : Bool} {M : Mc} {k : Nat} {x qual : Str} {st : Stmt} {f : Addr} {fd : FuncData} {N ps : List Str} {as : List AV} {μ μ' : Sto} {r : AV} (Fn : Fun M.K x qual st f fd) (S : FnScope N ps (defScope st)) (hl : as.length = ps.length) (hm : μ.length ≤ μ'.length)
    (h : RunsT g M k N st as μ r μ') : Fg g M CX0 (k + 1) f fd ps (spOf M.P M.w M.K as μ r μ') :=
  fg_of Fn S (fun vs H Q E z => z.1.trans hl) fun cdv A outer s H vs Q E hg hr ⟨l, F, Ad, si, q⟩ => by
    have hpl : ps.length ≤ N.length := by have := congrArg List.length S.pre; rw [List.length_take] at this; omega
    have hN : as.length ≤ N.length := by omega
    have ex := h (cxOf CX0 M.P M.w M.K M.mg M.base N qual (defScope st) f cdv A outer s H E).nox ⟨rfl, rfl, rfl, S.nd, S.kind, rfl, hr, hg, rfl⟩ (fun _ => rfl) rfl rfl
    have st0 : Stt (cxOf CX0 M.P M.w M.K M.mg M.base N qual (defScope st) f cdv A outer s H E).nox F H Ad (startG as N) μ [] (start N vs) H := ⟨F, Ad, { si with
      slots := fun i av e => by
        obtain ⟨v, h1, h2⟩ := zip_get l (startG_get e)
        exact ⟨v, start_get h1, si.temps _ h2⟩
      len := by unfold startG L2.start; simp [l]
      temps := fun p hp => by simp at hp }⟩
    have w := ex F H Ad [] _ H st0
    refine ⟨_, PSs.nox pss_w, ?_⟩
    intro pins s1 I
    have fin : ∀ {r'' : AV} {μ'' : Sto} {σ' : Sl} {Γ' : Gm} {v : V} {H' : Hp}, r'' = r → (∃ ν, μ'' = μ' ++ ν ∧ r.below μ'.length) → Stt (cxOf CX0 M.P M.w M.K M.mg M.base N qual (defScope st) f cdv A outer s H E).nox F H Ad [] μ'' [(r'', v)] [] H' → Q v H' := fun {r'' μ'' σ' Γ' v H'} e1 ⟨ν, e2, e3⟩ z => by
      subst e1; subst e2
      have z' := z.cut (by have := si.lenA; omega) (fun i av e => by simp at e) fun p hp => by
        rw [List.mem_singleton] at hp; subst hp; exact e3
      obtain ⟨F', A', t⟩ := z'
      exact q v H' F' A' t
    refine wpAny_mono (w pins s1 I) (fun fl s' z => ?_) fun _ _ z => z
    cases fl with
    | next =>
      obtain ⟨σ', H', J, Γ', μ'', ⟨e1, e2⟩, st2⟩ := z
      subst e1
      refine ⟨σ', H', J, fin (σ' := []) (Γ' := []) (r'' := .dat .none) rfl e2 ?_⟩
      obtain ⟨F2, A2, s2⟩ := st2
      exact Stt.slots_nil (σ := σ') (Γ := Γ') ⟨F2, A2, s2.val (r := .dat .none) .non⟩
    | ret u =>
      obtain ⟨v, σ', H', J, rv, r'', μ'', ⟨e1, e2⟩, st2⟩ := z
      exact ⟨v, σ', H', J, rv, fin (σ' := []) (Γ' := []) e1 e2 st2⟩
    | brk => obtain ⟨_, _, _, _, _, z, _⟩ := z; exact z.elim
    | cont => obtain ⟨_, _, _, _, _, z, _⟩ := z; exact z.elim
end DL
namespace DL
open PySem PySem.Spec PyProof.Rows L2
/-- nothing is changed -/
abbrev oSame (Γ : Gm) (μ : Sto) : Out := { nx := fun Γ' μ' => Γ' = Γ ∧ μ' = μ, rt := fun _ _ => False }
section
variable {X : Cx} {F0 H0 H : Hp} {A0 : List Addr} {Γ Γ' : Gm} {μ μ' : Sto} {T : Tmp} {σ : Sl} {D : Ends} {s : Stmt} {rest : List Stmt}
theorem seq_same (h : Ex1 X.nox Γ μ s (oSame Γ μ)) (st : Stt X F0 H0 A0 Γ μ T σ H) (k : ∀ σ' H', Stt X F0 H0 A0 Γ μ T σ' H' → wSs X rest D σ' H') : wSs X (s :: rest) D σ H :=
  seq_nox h st (fun _ _ z => z) (fun _ _ z => z) (fun _ _ z => z) fun Γ' μ' σ' H' ⟨e1, e2⟩ st' => by subst e1; subst e2; exact k σ' H' st'
/-- an if that is taken -/
theorem ifT_w {c : Expr} {s1 s2 : List Stmt} {pos : Pos} (h : EvT X.nox Γ μ c true μ) (st : Stt X F0 H0 A0 Γ μ T σ H) (k : ∀ H', Stt X F0 H0 A0 Γ μ T σ H' → wSs X s1 { D with nx := fun σ H => wSs X rest D σ H } σ H') : wSs X (.If c s1 s2 pos :: rest) D σ H :=
  wSs_of (pss_cons (ps_if pt_w pss_w pss_w) pss_w) (wT_nox (h.run F0 H0 A0 T σ H st _ fun H1 st1 => iteT (k H1 st1)))
end
end DL
set_option maxHeartbeats 2000000
/-! Kinds of words, in plain Lean. -/
namespace DL
open PySem PySem.Spec PyProof.Rows L2
/-! ### equality of data that are texts, tuples -/
mutual
def plD : PyData → Bool
  | .str x => PyData.canLay0 (.str x)
  | .tuple ds => plDs ds
  | _ => false
def plDs : List PyData → Bool
  | [] => true
  | d :: ds => plD d && plDs ds
end
theorem plDs_mem : ∀ {ds : List PyData}, plDs ds = true ↔ ∀ d ∈ ds, plD d = true
  | [] => by simp [plDs]
  | d :: ds => by simp [plDs, plDs_mem (ds := ds)]
mutual
theorem eqv_pl : ∀ d e : PyData, plD d = true → plD e = true → (PyData.eqv d e = true ↔ d = e)
  | .str x, e, _, he => by
    cases e with
    | str y => simp [PyData.eqv]
    | tuple _ => simp [PyData.eqv]
    | _ => simp [plD] at he
  | .tuple xs, e, hd, he => by
    cases e with
    | str y => simp [PyData.eqv]
    | tuple ys =>
      simp only [PyData.eqv, PyData.tuple.injEq]
      exact eqvs_pl xs ys (by simpa [plD] using hd) (by simpa [plD] using he)
    | _ => simp [plD] at he
  | .none, _, h, _ => by simp [plD] at h
  | .bool _, _, h, _ => by simp [plD] at h
  | .int _, _, h, _ => by simp [plD] at h
  | .list _, _, h, _ => by simp [plD] at h
  | .dict _, _, h, _ => by simp [plD] at h
theorem eqvs_pl : ∀ ds es : List PyData, plDs ds = true → plDs es = true → (PyData.eqvAll ds es = true ↔ ds = es)
  | [], [], _, _ => by simp [PyData.eqvAll]
  | [], _ :: _, _, _ => by simp [PyData.eqvAll]
  | _ :: _, [], _, _ => by simp [PyData.eqvAll]
  | d :: ds, e :: es, hd, he => by
    simp only [plDs, Bool.and_eq_true] at hd he
    simp only [PyData.eqvAll, Bool.and_eq_true, List.cons.injEq]
    rw [eqv_pl d e hd.1 he.1, eqvs_pl ds es hd.2 he.2]
end
theorem eqv_bool {d e : PyData} (hd : plD d = true) (he : plD e = true) {P : Prop} [Decidable P] (h : P ↔ d = e) : PyData.eqv d e = decide P := by
  by_cases p : P
  · rw [decide_eq_true p, (eqv_pl d e hd he).mpr (h.mp p)]
  · rw [decide_eq_false p]
    cases q : PyData.eqv d e with
    | false => rfl
    | true => exact absurd (h.mpr ((eqv_pl d e hd he).mp q)) p
theorem inD_mem {d : PyData} {ds : List PyData} (hd : plD d = true) (hs : plDs ds = true) : inD d ds = true ↔ d ∈ ds := by
  unfold inD
  rw [List.any_eq_true]
  constructor
  · rintro ⟨z, hz, e⟩
    rw [eqv_pl z d (plDs_mem.mp hs z hz) hd] at e
    exact e ▸ hz
  · intro h
    exact ⟨d, h, (eqv_pl d d hd hd).mpr rfl⟩
mutual
theorem pl_lay : ∀ d : PyData, plD d = true → PyData.canLay0 d = true
  | .str x, h => by simpa [plD] using h
  | .tuple xs, h => by simp only [PyData.canLay0]; exact pls_lay xs (by simpa [plD] using h)
  | .none, h => by simp [plD] at h
  | .bool _, h => by simp [plD] at h
  | .int _, h => by simp [plD] at h
  | .list _, h => by simp [plD] at h
  | .dict _, h => by simp [plD] at h
theorem pls_lay : ∀ ds : List PyData, plDs ds = true → PyData.canLayAll0 ds = true
  | [], _ => by simp [PyData.canLayAll0]
  | d :: ds, h => by
    simp only [plDs, Bool.and_eq_true] at h
    simp only [PyData.canLayAll0, Bool.and_eq_true]
    exact ⟨pl_lay d h.1, pls_lay ds h.2⟩
end
mutual
theorem pl_nk : ∀ d : PyData, plD d = true → nkOk d = true
  | .str x, h => by simp [nkOk]
  | .tuple xs, h => by simp only [nkOk]; exact pls_nk xs (by simpa [plD] using h)
  | .none, h => by simp [plD] at h
  | .bool _, h => by simp [plD] at h
  | .int _, h => by simp [plD] at h
  | .list _, h => by simp [plD] at h
  | .dict _, h => by simp [plD] at h
theorem pls_nk : ∀ ds : List PyData, plDs ds = true → nkOks ds = true
  | [], _ => by simp [nkOks]
  | d :: ds, h => by
    simp only [plDs, Bool.and_eq_true] at h
    simp only [nkOks, Bool.and_eq_true]
    exact ⟨pl_nk d h.1, pls_nk ds h.2⟩
end
mutual
theorem nk_depth : ∀ d : PyData, nkOk d = true → (nk d).depth = d.depth
  | .none, _ => by simp [nk, NestedKey.depth, PyData.depth]
  | .int _, _ => by simp [nk, NestedKey.depth, PyData.depth]
  | .str _, _ => by simp [nk, NestedKey.depth, PyData.depth]
  | .tuple xs, h => by simp only [nk, NestedKey.depth, PyData.depth]; rw [nks_depth xs (by simpa [nkOk] using h)]
  | .bool _, h => by simp [nkOk] at h
  | .list _, h => by simp [nkOk] at h
  | .dict _, h => by simp [nkOk] at h
theorem nks_depth : ∀ ds : List PyData, nkOks ds = true → NestedKey.depthAll (nks ds) = PyData.depthAll ds
  | [], _ => by simp [nks, NestedKey.depthAll, PyData.depthAll]
  | d :: ds, h => by
    simp only [nkOks, Bool.and_eq_true] at h
    simp only [nks, NestedKey.depthAll, PyData.depthAll]
    rw [nk_depth d h.1, nks_depth ds h.2]
end

/-! ### each once, ascending -/
def addN (acc : List PyData) (d : PyData) : List PyData := if inD d acc then acc else acc ++ [d]
def dedup (ds : List PyData) : List PyData := ds.foldl addN []
theorem addN_pl {acc : List PyData} {d : PyData} (ha : plDs acc = true) (hd : plD d = true) : plDs (addN acc d) = true := by
  unfold addN
  split
  · exact ha
  · rw [plDs_mem] at ha ⊢
    intro e he
    rcases List.mem_append.mp he with he | he
    · exact ha e he
    · rw [List.mem_singleton] at he; exact he ▸ hd
theorem addN_mem {acc : List PyData} {d e : PyData} (ha : plDs acc = true) (hd : plD d = true) : e ∈ addN acc d ↔ e ∈ acc ∨ e = d := by
  unfold addN
  split
  · rename_i h
    rw [inD_mem hd ha] at h
    constructor
    · exact .inl
    · rintro (h1 | rfl)
      · exact h1
      · exact h
  · simp
theorem addN_nodup {acc : List PyData} {d : PyData} (ha : plDs acc = true) (hd : plD d = true) (n : acc.Nodup) : (addN acc d).Nodup := by
  unfold addN
  split
  · exact n
  · rename_i h
    rw [inD_mem hd ha] at h
    rw [List.nodup_append]
    exact ⟨n, by simp, fun a h1 b h2 e => h (by simp at h2; rw [← h2, ← e]; exact h1)⟩
theorem fold_all : ∀ (ds acc : List PyData), plDs acc = true → plDs ds = true → acc.Nodup → plDs (ds.foldl addN acc) = true ∧ (ds.foldl addN acc).Nodup ∧ ∀ e, e ∈ ds.foldl addN acc ↔ e ∈ acc ∨ e ∈ ds
  | [], acc, ha, _, n => ⟨ha, n, by simp⟩
  | d :: ds, acc, ha, hd, n => by
    simp only [plDs, Bool.and_eq_true] at hd
    obtain ⟨h1, h2, h3⟩ := fold_all ds (addN acc d) (addN_pl ha hd.1) hd.2 (addN_nodup ha hd.1 n)
    refine ⟨h1, h2, fun e => ?_⟩
    rw [List.foldl_cons, h3, addN_mem ha hd.1]
    simp [or_assoc]
theorem dedup_pl {ds : List PyData} (h : plDs ds = true) : plDs (dedup ds) = true := (fold_all ds [] rfl h (by simp)).1
theorem dedup_nodup {ds : List PyData} (h : plDs ds = true) : (dedup ds).Nodup := (fold_all ds [] rfl h (by simp)).2.1
theorem dedup_mem {ds : List PyData} (h : plDs ds = true) {e : PyData} : e ∈ dedup ds ↔ e ∈ ds := by
  show e ∈ ds.foldl addN [] ↔ _
  rw [(fold_all ds [] rfl h (by simp)).2.2 e]; simp
def canon (ds : List PyData) : List PyData := sortD (dedup ds)
theorem sortD_mem {ds : List PyData} {e : PyData} : e ∈ sortD ds ↔ e ∈ ds := (List.mergeSort_perm ds _).mem_iff
theorem canon_mem {ds : List PyData} (h : plDs ds = true) {e : PyData} : e ∈ canon ds ↔ e ∈ ds := by unfold canon; rw [sortD_mem, dedup_mem h]
theorem canon_pl {ds : List PyData} (h : plDs ds = true) : plDs (canon ds) = true := plDs_mem.mpr fun e he => plDs_mem.mp h e ((canon_mem h).mp he)
theorem canon_nodup {ds : List PyData} (h : plDs ds = true) : (canon ds).Nodup := (List.mergeSort_perm _ _).nodup_iff.mpr (dedup_nodup h)
theorem le_anti {d e : PyData} (ha : PySem.W.alike d e = true) (hd : plD d = true) (he : plD e = true) (h1 : PySem.W.dataLe false id d e = true) (h2 : PySem.W.dataLe false id e d = true) : d = e := by
  rw [PySem.W.dataLe_eq] at h1 h2
  simp only [cond_false, id_eq, Bool.not_eq_true'] at h1 h2
  rw [← eqv_pl d e hd he]
  cases q : PyData.eqv d e with
  | true => rfl
  | false =>
    exfalso
    obtain ⟨_, t2⟩ := PySem.W.toks_eqv d e ha
    have hk : PySem.W.keyToks d = PySem.W.keyToks e := (PyProof.Rows.listOrd itemOrd).total _ _ h2 h1
    have z := t2 q [] [.inl 0]
    have z' := t2 q [.inl 0] []
    rw [hk, PySem.W.lex_pre] at z
    rw [show PyProof.Rows.lexLt itemOrd (PySem.W.keyToks e) (PySem.W.keyToks e) = false from (PyProof.Rows.listOrd itemOrd).irrefl _] at z
    exact absurd z (by decide)
theorem sortD_eq {ds es : List PyData} (hal : ∀ a ∈ ds, ∀ b ∈ ds, PySem.W.alike a b = true) (hp : plDs ds = true) (h : ds.Perm es) : sortD ds = sortD es := by
  have T := PySem.W.sortLe_total (PyProof.Rows.listOrd itemOrd) false fun b : PyData => PySem.W.keyToks (id b)
  refine List.Perm.eq_of_pairwise (le := fun a b => PySem.W.dataLe false id a b = true) (fun a b ha hb h1 h2 => ?_) (List.pairwise_mergeSort T.trans (fun a b => by rw [Bool.or_eq_true]; exact T.total a b) ds) (List.pairwise_mergeSort T.trans (fun a b => by rw [Bool.or_eq_true]; exact T.total a b) es) (((List.mergeSort_perm ds _).trans h).trans (List.mergeSort_perm es _).symm)
  have ha' : a ∈ ds := sortD_mem.mp ha
  have hb' : b ∈ ds := h.mem_iff.mpr (sortD_mem.mp hb)
  exact le_anti (hal a ha' b hb') (plDs_mem.mp hp a ha') (plDs_mem.mp hp b hb') h1 h2
theorem canon_eq {ds es : List PyData} (hal : ∀ a ∈ ds, ∀ b ∈ ds, PySem.W.alike a b = true) (hd : plDs ds = true) (he : plDs es = true) (h : ∀ x, x ∈ ds ↔ x ∈ es) : canon ds = canon es :=
  sortD_eq (fun a ha b hb => hal a ((dedup_mem hd).mp ha) b ((dedup_mem hd).mp hb)) (dedup_pl hd) ((List.perm_ext_iff_of_nodup (dedup_nodup hd) (dedup_nodup he)).mpr fun x => by rw [dedup_mem hd, dedup_mem he, h])
end DL
set_option maxHeartbeats 2000000
/-! Kinds of words: sums, powers. -/
namespace DL
open PySem PySem.Spec PyProof.Rows L2
abbrev Wo := List Str
def abc : List Str := ["a", "b", "c"]
def Wd (w : Wo) : Prop := ∀ c ∈ w, c ∈ abc
theorem Wd.nil : Wd [] := fun _ h => by simp at h
theorem Wd.app {u v : Wo} : Wd (u ++ v) ↔ Wd u ∧ Wd v := by
  unfold Wd
  exact ⟨fun h => ⟨fun c hc => h c (List.mem_append_left _ hc), fun c hc => h c (List.mem_append_right _ hc)⟩, fun ⟨h, g⟩ c hc => (List.mem_append.mp hc).elim (h c) (g c)⟩
theorem Wd.cons {c : Str} {v : Wo} : Wd (c :: v) ↔ c ∈ abc ∧ Wd v := by
  unfold Wd
  simp
def rowD (l : PyData) (c : Str) (r : PyData) : PyData := .tuple [l, .str c, r]
def splits : Wo → List (Wo × Str × Wo)
  | [] => []
  | c :: w => ([], c, w) :: (splits w).map fun s => (c :: s.1, s.2.1, s.2.2)
theorem mem_splits : ∀ {w u v : Wo} {c : Str}, (u, c, v) ∈ splits w ↔ w = u ++ c :: v
  | [], u, v, c => by simp [splits]
  | d :: w, u, v, c => by
    simp only [splits, List.mem_cons, List.mem_map, Prod.mk.injEq, Prod.exists]
    constructor
    · rintro (⟨rfl, rfl, rfl⟩ | ⟨a, b, e, h, rfl, rfl, rfl⟩)
      · rfl
      · rw [mem_splits.mp h]; rfl
    · intro h
      cases u with
      | nil => simp at h; exact .inl ⟨rfl, h.1.symm, h.2.symm⟩
      | cons x u =>
        simp at h
        exact .inr ⟨u, c, v, mem_splits.mpr h.2, by rw [h.1], rfl, rfl⟩
/-- the kind of a word -/
def kd : Nat → Wo → PyData
  | 0, _ => .tuple []
  | r + 1, w => .tuple (canon ((splits w).map fun s => rowD (kd r s.1) s.2.1 (kd r s.2.2)))
def rowsD (r : Nat) (w : Wo) : List PyData := (splits w).map fun s => rowD (kd r s.1) s.2.1 (kd r s.2.2)
theorem kd_succ (r : Nat) (w : Wo) : kd (r + 1) w = .tuple (canon (rowsD r w)) := rfl
theorem abc_pl {c : Str} (h : c ∈ abc) : plD (.str c) = true := by
  simp only [abc, List.mem_cons, List.not_mem_nil, or_false] at h
  rcases h with rfl | rfl | rfl <;> decide +kernel
theorem mem_rowsD {r : Nat} {w : Wo} {x : PyData} : x ∈ rowsD r w ↔ ∃ u c v, w = u ++ c :: v ∧ x = rowD (kd r u) c (kd r v) := by
  unfold rowsD
  rw [List.mem_map]
  constructor
  · rintro ⟨⟨u, c, v⟩, h, rfl⟩
    exact ⟨u, c, v, mem_splits.mp h, rfl⟩
  · rintro ⟨u, c, v, h, rfl⟩
    exact ⟨(u, c, v), mem_splits.mpr h, rfl⟩
theorem Wd.split {w u v : Wo} {c : Str} (h : Wd w) (e : w = u ++ c :: v) : Wd u ∧ c ∈ abc ∧ Wd v := by
  rw [e, Wd.app, Wd.cons] at h
  exact ⟨h.1, h.2.1, h.2.2⟩
theorem kd_pl : ∀ (r : Nat) {w : Wo}, Wd w → plD (kd r w) = true
  | 0, _, _ => rfl
  | r + 1, w, h => by
    have : plDs (rowsD r w) = true := plDs_mem.mpr fun x hx => by
      obtain ⟨u, c, v, e, rfl⟩ := mem_rowsD.mp hx
      obtain ⟨h1, h2, h3⟩ := h.split e
      simp only [rowD, plD, plDs, Bool.and_eq_true]
      exact ⟨kd_pl r h1, abc_pl h2, kd_pl r h3, trivial⟩
    rw [kd_succ]
    simp only [plD]
    exact canon_pl this
theorem rows_pl {r : Nat} {w : Wo} (h : Wd w) : plDs (rowsD r w) = true := plDs_mem.mpr fun x hx => by
  obtain ⟨u, c, v, e, rfl⟩ := mem_rowsD.mp hx
  obtain ⟨h1, h2, h3⟩ := h.split e
  simp only [rowD, plD, plDs, Bool.and_eq_true]
  exact ⟨kd_pl r h1, abc_pl h2, kd_pl r h3, trivial⟩
theorem alikeAll_of {xs ys : List PyData} (h : ∀ x ∈ xs, ∀ y ∈ ys, PySem.W.alike x y = true) : PySem.W.alikeAll xs ys = true := by
  induction xs generalizing ys with
  | nil => simp [PySem.W.alikeAll]
  | cons x xs ih =>
    cases ys with
    | nil => simp [PySem.W.alikeAll]
    | cons y ys =>
      simp only [PySem.W.alikeAll, Bool.and_eq_true]
      exact ⟨h x List.mem_cons_self y List.mem_cons_self, ih fun a ha b hb => h a (List.mem_cons_of_mem _ ha) b (List.mem_cons_of_mem _ hb)⟩
theorem kd_alike : ∀ (r : Nat) {w w' : Wo}, Wd w → Wd w' → PySem.W.alike (kd r w) (kd r w') = true
  | 0, _, _, _, _ => by simp [kd, PySem.W.alike, PySem.W.alikeAll]
  | r + 1, w, w', h, h' => by
    rw [kd_succ, kd_succ]
    simp only [PySem.W.alike]
    refine alikeAll_of fun x hx y hy => ?_
    rw [canon_mem (rows_pl h)] at hx
    rw [canon_mem (rows_pl h')] at hy
    obtain ⟨u, c, v, e, rfl⟩ := mem_rowsD.mp hx
    obtain ⟨u', c', v', e', rfl⟩ := mem_rowsD.mp hy
    obtain ⟨h1, h2, h3⟩ := h.split e
    obtain ⟨h1', h2', h3'⟩ := h'.split e'
    simp only [rowD, PySem.W.alike, PySem.W.alikeAll, Bool.and_eq_true]
    exact ⟨kd_alike r h1 h1', trivial, kd_alike r h3 h3', trivial⟩
theorem row_alike {r : Nat} {u v u' v' : Wo} {c c' : Str} (h1 : Wd u) (h3 : Wd v) (h1' : Wd u') (h3' : Wd v') : PySem.W.alike (rowD (kd r u) c (kd r v)) (rowD (kd r u') c' (kd r v')) = true := by
  simp only [rowD, PySem.W.alike, PySem.W.alikeAll, Bool.and_eq_true]
  exact ⟨kd_alike r h1 h1', trivial, kd_alike r h3 h3', trivial⟩
theorem rows_alike {r : Nat} {w w' : Wo} (h : Wd w) (h' : Wd w') : ∀ a ∈ rowsD r w, ∀ b ∈ rowsD r w', PySem.W.alike a b = true := fun a ha b hb => by
  obtain ⟨u, c, v, e, rfl⟩ := mem_rowsD.mp ha
  obtain ⟨u', c', v', e', rfl⟩ := mem_rowsD.mp hb
  obtain ⟨h1, h2, h3⟩ := h.split e
  obtain ⟨h1', h2', h3'⟩ := h'.split e'
  exact row_alike h1 h3 h1' h3'
theorem kd_depth : ∀ (r : Nat) {w : Wo}, Wd w → (kd r w).depth ≤ 2 * r + 1
  | 0, _, _ => by simp [kd, PyData.depth, PyData.depthAll]
  | r + 1, w, h => by
    have all : ∀ (ds : List PyData) (n : Nat), (∀ d ∈ ds, d.depth ≤ n) → PyData.depthAll ds ≤ n := by
      intro ds n
      induction ds with
      | nil => intro _; simp [PyData.depthAll]
      | cons d ds ih =>
        intro h
        simp only [PyData.depthAll]
        exact Nat.max_le.mpr ⟨h d List.mem_cons_self, ih fun e he => h e (List.mem_cons_of_mem _ he)⟩
    rw [kd_succ]
    simp only [PyData.depth]
    have : PyData.depthAll (canon (rowsD r w)) ≤ 2 * r + 2 := all _ _ fun d hd => by
      rw [canon_mem (rows_pl h)] at hd
      obtain ⟨u, c, v, e, rfl⟩ := mem_rowsD.mp hd
      obtain ⟨h1, h2, h3⟩ := h.split e
      have e1 := kd_depth r h1
      have e3 := kd_depth r h3
      simp only [rowD, PyData.depth, PyData.depthAll]
      omega
    omega
theorem row_depth {r : Nat} {u v : Wo} {c : Str} (h1 : Wd u) (h3 : Wd v) : (rowD (kd r u) c (kd r v)).depth ≤ 2 * r + 2 := by
  have e1 := kd_depth r h1
  have e3 := kd_depth r h3
  simp only [rowD, PyData.depth, PyData.depthAll]
  omega
/-- two words are of one kind if they have the same rows -/
theorem kd_ext {r : Nat} {w w' : Wo} (h : Wd w) (h' : Wd w') (e : ∀ x, x ∈ rowsD r w ↔ x ∈ rowsD r w') : kd (r + 1) w = kd (r + 1) w' := by
  rw [kd_succ, kd_succ, canon_eq (rows_alike h h) (rows_pl h) (rows_pl h') e]
theorem kd_rows {r : Nat} {w w' : Wo} (h : Wd w) (h' : Wd w') (e : kd (r + 1) w = kd (r + 1) w') (x : PyData) : x ∈ rowsD r w ↔ x ∈ rowsD r w' := by
  rw [kd_succ, kd_succ, PyData.tuple.injEq] at e
  rw [← canon_mem (rows_pl h), e, canon_mem (rows_pl h')]
theorem rowD_inj {l l' r r' : PyData} {c c' : Str} : rowD l c r = rowD l' c' r' ↔ l = l' ∧ c = c' ∧ r = r' := by simp [rowD]
/-- a place and its answer -/
theorem kd_ans {r : Nat} {w w' u v : Wo} {c : Str} (h : Wd w) (h' : Wd w') (e : kd (r + 1) w = kd (r + 1) w') (s : w = u ++ c :: v) : ∃ u' v', w' = u' ++ c :: v' ∧ kd r u = kd r u' ∧ kd r v = kd r v' := by
  have := (kd_rows h h' e (rowD (kd r u) c (kd r v))).mp (mem_rowsD.mpr ⟨u, c, v, s, rfl⟩)
  obtain ⟨u', c', v', s', q⟩ := mem_rowsD.mp this
  rw [rowD_inj] at q
  obtain ⟨q1, rfl, q3⟩ := q
  exact ⟨u', v', s', q1, q3⟩
/-- .. shown by answers both ways -/
theorem kd_game {r : Nat} {w w' : Wo} (h : Wd w) (h' : Wd w') (a : ∀ u c v, w = u ++ c :: v → ∃ u' v', w' = u' ++ c :: v' ∧ kd r u = kd r u' ∧ kd r v = kd r v')
    (b : ∀ u c v, w' = u ++ c :: v → ∃ u' v', w = u' ++ c :: v' ∧ kd r u = kd r u' ∧ kd r v = kd r v') : kd (r + 1) w = kd (r + 1) w' := kd_ext h h' fun x => by
  rw [mem_rowsD, mem_rowsD]
  constructor
  · rintro ⟨u, c, v, s, rfl⟩
    obtain ⟨u', v', s', e1, e2⟩ := a u c v s
    exact ⟨u', c, v', s', by rw [e1, e2]⟩
  · rintro ⟨u, c, v, s, rfl⟩
    obtain ⟨u', v', s', e1, e2⟩ := b u c v s
    exact ⟨u', c, v', s', by rw [e1, e2]⟩
/-- .. and then for a round less -/
theorem kd_less : ∀ (r : Nat) {w w' : Wo}, Wd w → Wd w' → kd (r + 1) w = kd (r + 1) w' → kd r w = kd r w'
  | 0, _, _, _, _, _ => rfl
  | r + 1, w, w', h, h', e => by
    refine kd_game h h' (fun u c v s => ?_) fun u c v s => ?_
    · obtain ⟨u', v', s', e1, e2⟩ := kd_ans h h' e s
      exact ⟨u', v', s', kd_less r (h.split s).1 (h'.split s').1 e1, kd_less r (h.split s).2.2 (h'.split s').2.2 e2⟩
    · obtain ⟨u', v', s', e1, e2⟩ := kd_ans h' h e.symm s
      exact ⟨u', v', s', kd_less r (h'.split s).1 (h.split s').1 e1, kd_less r (h'.split s).2.2 (h.split s').2.2 e2⟩
/-- a place of u ++ v is one of u or one of v -/
theorem app_split {u v a b : Wo} {c : Str} (e : u ++ v = a ++ c :: b) : (∃ t, u = a ++ c :: t ∧ b = t ++ v) ∨ ∃ s, v = s ++ c :: b ∧ a = u ++ s := by
  rw [List.append_eq_append_iff] at e
  rcases e with ⟨s, h1, h2⟩ | ⟨s, h1, h2⟩
  · exact .inr ⟨s, h2, h1⟩
  · cases s with
    | nil => exact .inr ⟨[], by simpa using h2.symm, by simpa using h1.symm⟩
    | cons x s =>
      simp at h2
      obtain ⟨rfl, rfl⟩ := h2
      exact .inl ⟨s, h1, rfl⟩
/-- sums -/
theorem kd_sum : ∀ (r : Nat) {u u' v v' : Wo}, Wd u → Wd u' → Wd v → Wd v' → kd r u = kd r u' → kd r v = kd r v' → kd r (u ++ v) = kd r (u' ++ v')
  | 0, _, _, _, _, _, _, _, _, _, _ => rfl
  | r + 1, u, u', v, v', hu, hu', hv, hv', e1, e2 => by
    have one : ∀ {u u' v v' : Wo}, Wd u → Wd u' → Wd v → Wd v' → kd (r + 1) u = kd (r + 1) u' → kd (r + 1) v = kd (r + 1) v' → ∀ a c b, u ++ v = a ++ c :: b → ∃ a' b', u' ++ v' = a' ++ c :: b' ∧ kd r a = kd r a' ∧ kd r b = kd r b' := by
      intro u u' v v' hu hu' hv hv' e1 e2 a c b s
      rcases app_split s with ⟨t, s1, rfl⟩ | ⟨t, s1, rfl⟩
      · obtain ⟨a', t', s', q1, q2⟩ := kd_ans hu hu' e1 s1
        exact ⟨a', t' ++ v', by rw [s']; simp, q1, kd_sum r (hu.split s1).2.2 (hu'.split s').2.2 hv hv' q2 (kd_less r hv hv' e2)⟩
      · obtain ⟨t', b', s', q1, q2⟩ := kd_ans hv hv' e2 s1
        exact ⟨u' ++ t', b', by rw [s']; simp, kd_sum r hu hu' (hv.split s1).1 (hv'.split s').1 (kd_less r hu hu' e1) q1, q2⟩
    exact kd_game (Wd.app.mpr ⟨hu, hv⟩) (Wd.app.mpr ⟨hu', hv'⟩) (one hu hu' hv hv' e1 e2) (one hu' hu hv' hv e1.symm e2.symm)

/-! ### what a loop finds -/
theorem foldl_len : ∀ (ds acc : List PyData), (ds.foldl addN acc).length ≤ acc.length + ds.length
  | [], acc => by simp
  | d :: ds, acc => by
    have h1 := foldl_len ds (addN acc d)
    have h2 : (addN acc d).length ≤ acc.length + 1 := by unfold addN; split <;> simp
    rw [List.foldl_cons, List.length_cons]; omega
theorem dedup_len (ds : List PyData) : (dedup ds).length ≤ ds.length := by
  have := foldl_len ds []
  simpa [dedup] using this
theorem canon_len (ds : List PyData) : (canon ds).length ≤ ds.length := by
  unfold canon sortD; rw [List.length_mergeSort]; exact dedup_len ds
theorem dedup_step {L : List PyData} {i : Nat} {d : PyData} (h : L[i]? = some d) : dedup (L.take (i + 1)) = addN (dedup (L.take i)) d := by
  have hi := (List.getElem?_eq_some_iff.mp h).1
  have e : L.take (i + 1) = L.take i ++ [d] := by
    rw [List.take_succ, h]; rfl
  rw [e]; unfold dedup; rw [List.foldl_append]; rfl
theorem list_choose {α β : Type} {P : α → β → Prop} : ∀ {xs : List α}, (∀ x ∈ xs, ∃ y, P x y) → ∃ ys, Paired P xs ys
  | [], _ => ⟨[], .nil⟩
  | x :: xs, h => by
    obtain ⟨y, hy⟩ := h x List.mem_cons_self
    obtain ⟨ys, hys⟩ := list_choose fun z hz => h z (List.mem_cons_of_mem _ hz)
    exact ⟨y :: ys, .cons hy hys⟩
theorem splits_len : ∀ (w : Wo), (splits w).length = w.length
  | [] => rfl
  | c :: w => by simp [splits, splits_len w]
theorem rowsD_len (r : Nat) (w : Wo) : (rowsD r w).length = w.length := by unfold rowsD; rw [List.length_map, splits_len]
theorem split_len {w u v : Wo} {c : Str} (e : w = u ++ c :: v) : u.length + v.length + 1 = w.length := by rw [e]; simp; omega

/-! ### powers -/
def pw (w : Wo) (n : Nat) : Wo := (List.replicate n w).flatten
theorem pw_zero (w : Wo) : pw w 0 = [] := by simp [pw]
theorem pw_succ (w : Wo) (n : Nat) : pw w (n + 1) = w ++ pw w n := by simp [pw, List.replicate_succ]
theorem pw_add (w : Wo) (m n : Nat) : pw w (m + n) = pw w m ++ pw w n := by
  induction m with
  | zero => simp [pw_zero]
  | succ m ih => rw [Nat.succ_add, pw_succ, pw_succ, ih, List.append_assoc]
theorem pw_one (w : Wo) : pw w 1 = w := by rw [pw_succ, pw_zero, List.append_nil]
theorem Wd.pw {w : Wo} (h : Wd w) (n : Nat) : Wd (pw w n) := by
  induction n with
  | zero => rw [pw_zero]; exact .nil
  | succ n ih => rw [pw_succ]; exact Wd.app.mpr ⟨h, ih⟩
/-- a place of a power -/
theorem pw_split {w a b : Wo} {c : Str} : ∀ {n : Nat}, DL.pw w n = a ++ c :: b → ∃ i j u v, i + j + 1 = n ∧ w = u ++ c :: v ∧ a = DL.pw w i ++ u ∧ b = v ++ DL.pw w j
  | 0, e => by rw [pw_zero] at e; simp at e
  | n + 1, e => by
    rw [pw_succ] at e
    rcases app_split e with ⟨t, h1, h2⟩ | ⟨s, h1, h2⟩
    · exact ⟨0, n, a, t, by omega, h1, by rw [pw_zero]; rfl, h2⟩
    · obtain ⟨i, j, u, v, e1, e2, e3, e4⟩ := pw_split h1
      exact ⟨i + 1, j, u, v, by omega, e2, by rw [h2, e3, pw_succ, List.append_assoc], e4⟩
/-- long powers are of one kind -/
theorem kd_long {w : Wo} (h : Wd w) : ∀ (r : Nat) {n m : Nat}, 2 ^ r - 1 ≤ n → 2 ^ r - 1 ≤ m → kd r (DL.pw w n) = kd r (DL.pw w m)
  | 0, _, _, _, _ => rfl
  | r + 1, n, m, hn, hm => by
    have p : 2 ^ (r + 1) = 2 * 2 ^ r := by rw [Nat.pow_succ]; omega
    have p1 : 1 ≤ 2 ^ r := Nat.one_le_two_pow
    have one : ∀ {n m : Nat}, 2 ^ (r + 1) - 1 ≤ n → 2 ^ (r + 1) - 1 ≤ m → ∀ a c b, DL.pw w n = a ++ c :: b → ∃ a' b', DL.pw w m = a' ++ c :: b' ∧ kd r a = kd r a' ∧ kd r b = kd r b' := by
      intro n m hn hm a c b s
      obtain ⟨i, j, u, v, e1, e2, rfl, rfl⟩ := pw_split s
      obtain ⟨hu, hc, hv⟩ := h.split e2
      have fin : ∀ i' j', i' + j' + 1 = m → kd r (DL.pw w i) = kd r (DL.pw w i') → kd r (DL.pw w j) = kd r (DL.pw w j') → ∃ a' b', DL.pw w m = a' ++ c :: b' ∧ kd r (DL.pw w i ++ u) = kd r a' ∧ kd r (v ++ DL.pw w j) = kd r b' := by
        intro i' j' em q1 q2
        refine ⟨DL.pw w i' ++ u, v ++ DL.pw w j', ?_, kd_sum r (h.pw _) (h.pw _) hu hu q1 rfl, kd_sum r hv hv (h.pw _) (h.pw _) rfl q2⟩
        rw [← em, show i' + j' + 1 = i' + (1 + j') by omega, pw_add, pw_add, pw_one]
        conv => lhs; rw [e2]
        simp
        rw [← e2]
      by_cases hi : 2 ^ r - 1 ≤ i
      · by_cases hj : 2 ^ r - 1 ≤ j
        · exact fin (2 ^ r - 1) (m - 1 - (2 ^ r - 1)) (by omega) (kd_long h r hi (Nat.le_refl _)) (kd_long h r hj (by omega))
        · exact fin (m - 1 - j) j (by omega) (kd_long h r hi (by omega)) rfl
      · exact fin i (m - 1 - i) (by omega) rfl (kd_long h r (by omega) (by omega))
    exact kd_game (h.pw _) (h.pw _) (one hn hm) (one hm hn)
end DL
set_option maxHeartbeats 2000000
/-! The words that come up when powers of one word are added; how many kinds they have. -/
namespace DL
open PySem PySem.Spec PyProof.Rows L2
/-- a part of a power of w -/
def Fc (w x : Wo) : Prop := (∃ a s i p b, w = a ++ s ∧ a ≠ [] ∧ w = p ++ b ∧ b ≠ [] ∧ x = s ++ pw w i ++ p) ∨ ∃ a b, w = a ++ x ++ b
theorem Fc.pw {w : Wo} (hw : w ≠ []) (i : Nat) : Fc w (DL.pw w i) := .inl ⟨w, [], i, [], w, by simp, hw, rfl, hw, by simp⟩
theorem Fc.split {w x u v : Wo} {c : Str} (h : Fc w x) (e : x = u ++ c :: v) : Fc w u ∧ Fc w v := by
  rcases h with ⟨a, s, i, p, b, e1, ha, e2, hb, rfl⟩ | ⟨a, b, e1⟩
  · rcases app_split e with ⟨t, f1, f2⟩ | ⟨t, f1, f2⟩
    · rcases app_split f1 with ⟨t', g1, g2⟩ | ⟨t', g1, g2⟩
      · -- within s
        refine ⟨.inr ⟨a, c :: t', by rw [e1, g1]; simp⟩, .inl ⟨a ++ (u ++ [c]), t', i, p, b, by rw [e1, g1]; simp, by simp, e2, hb, by rw [f2, g2]⟩⟩
      · obtain ⟨i', j', u', v', h1, h2, h3, h4⟩ := pw_split g1
        exact ⟨.inl ⟨a, s, i', u', c :: v', e1, ha, h2, by simp, by rw [g2, h3, List.append_assoc]⟩, .inl ⟨u' ++ [c], v', j', p, b, by rw [h2]; simp, by simp, e2, hb, by rw [f2, h4]⟩⟩
    · refine ⟨.inl ⟨a, s, i, t, c :: v ++ b, e1, ha, by rw [e2, f1]; simp, by simp, f2⟩, .inr ⟨t ++ [c], b, by rw [e2, f1]; simp⟩⟩
  · exact ⟨.inr ⟨a, c :: v ++ b, by rw [e1, e]; simp⟩, .inr ⟨a ++ u ++ [c], b, by rw [e1, e]; simp⟩⟩
theorem Fc.wd {w x : Wo} (h : Fc w x) (hw : Wd w) : Wd x := by
  rcases h with ⟨a, s, i, p, b, e1, ha, e2, hb, rfl⟩ | ⟨a, b, e1⟩
  · have h1 : Wd (a ++ s) := e1 ▸ hw
    have h2 : Wd (p ++ b) := e2 ▸ hw
    exact Wd.app.mpr ⟨Wd.app.mpr ⟨(Wd.app.mp h1).2, hw.pw i⟩, (Wd.app.mp h2).1⟩
  · have h1 : Wd (a ++ x ++ b) := e1 ▸ hw
    exact (Wd.app.mp (Wd.app.mp h1).1).2
/-- the short ones -/
def fac (w : Wo) : List Wo :=
  (w.drop 1).take 1 :: (List.range 3).flatMap fun j => (List.range 3).flatMap fun k => (List.range 8).map fun i => w.drop (j + 1) ++ pw w i ++ w.take k
theorem pw_len (w : Wo) (i : Nat) : (pw w i).length = i * w.length := by
  induction i with
  | zero => simp [pw_zero]
  | succ i ih => rw [pw_succ, List.length_append, ih, Nat.add_mul, Nat.one_mul]; omega
theorem fac_len {w x : Wo} (hw : w.length ≤ 3) (h : x ∈ fac w) : x.length ≤ 30 := by
  simp only [fac, List.mem_cons, List.mem_flatMap, List.mem_map, List.mem_range] at h
  rcases h with rfl | ⟨j, hj, k, hk, i, hi, rfl⟩
  · rw [List.length_take]; omega
  · rw [List.length_append, List.length_append, pw_len, List.length_drop, List.length_take]
    have : i * w.length ≤ 7 * 3 := Nat.mul_le_mul (by omega) hw
    omega
theorem fac_count (w : Wo) : (fac w).length = 73 := by
  simp [fac, List.length_flatMap, List.range_succ]
theorem fac_main {w a s p b : Wo} {i : Nat} (hw : w.length ≤ 3) (hi : i ≤ 7) (e1 : w = a ++ s) (ha : a ≠ []) (e2 : w = p ++ b) (hb : b ≠ []) : s ++ pw w i ++ p ∈ fac w := by
  have la : a.length ≠ 0 := fun z => ha (List.length_eq_zero_iff.mp z)
  have lb : b.length ≠ 0 := fun z => hb (List.length_eq_zero_iff.mp z)
  have l1 := congrArg List.length e1
  have l2 := congrArg List.length e2
  rw [List.length_append] at l1 l2
  simp only [fac, List.mem_cons, List.mem_flatMap, List.mem_map, List.mem_range]
  refine .inr ⟨a.length - 1, by omega, p.length, by omega, i, by omega, ?_⟩
  have e3 : w.drop (a.length - 1 + 1) = s := by
    rw [show a.length - 1 + 1 = a.length by omega]
    conv => lhs; rw [e1]
    simp
  have e4 : w.take p.length = p := by
    conv => lhs; rw [e2]
    simp
  rw [e3, e4]
/-- each part is of the kinds of a short one -/
theorem Fc.rep {w x : Wo} (h : Fc w x) (hw : Wd w) (h0 : w ≠ []) (hl : w.length ≤ 3) : ∃ y ∈ fac w, Fc w y ∧ y.length ≤ 30 ∧ ∀ r, r ≤ 3 → kd r x = kd r y := by
  suffices ∃ y ∈ fac w, Fc w y ∧ ∀ r, r ≤ 3 → kd r x = kd r y by
    obtain ⟨y, h1, h2, h3⟩ := this
    exact ⟨y, h1, h2, fac_len hl h1, h3⟩
  rcases h with ⟨a, s, i, p, b, e1, ha, e2, hb, rfl⟩ | ⟨a, b, e1⟩
  · have hs : Wd s := (Wd.app.mp (e1 ▸ hw : Wd (a ++ s))).2
    have hp : Wd p := (Wd.app.mp (e2 ▸ hw : Wd (p ++ b))).1
    by_cases hi : i ≤ 7
    · exact ⟨_, fac_main hl hi e1 ha e2 hb, .inl ⟨a, s, i, p, b, e1, ha, e2, hb, rfl⟩, fun _ _ => rfl⟩
    · refine ⟨_, fac_main hl (Nat.le_refl 7) e1 ha e2 hb, .inl ⟨a, s, 7, p, b, e1, ha, e2, hb, rfl⟩, fun r hr => ?_⟩
      have hp2 : 2 ^ r ≤ 2 ^ 3 := Nat.pow_le_pow_right (by decide) hr
      refine kd_sum r (Wd.app.mpr ⟨hs, hw.pw _⟩) (Wd.app.mpr ⟨hs, hw.pw _⟩) hp hp (kd_sum r hs hs (hw.pw _) (hw.pw _) rfl (kd_long hw r (by omega) (by omega))) rfl
  · have lw : w.length = a.length + x.length + b.length := by rw [e1]; simp; omega
    refine ⟨x, ?_, .inr ⟨a, b, e1⟩, fun _ _ => rfl⟩
    by_cases ha : a = []
    · subst ha
      by_cases hb : b = []
      · subst hb
        have : x = [] ++ DL.pw w 1 ++ [] := by rw [pw_one]; simpa using e1.symm
        rw [this]
        exact fac_main (a := w) (b := w) hl (by omega) (by simp) h0 rfl h0
      · have : x = [] ++ DL.pw w 0 ++ x := by rw [pw_zero]; rfl
        rw [this]
        exact fac_main (a := w) hl (by omega) (by simp) h0 (by simpa using e1) hb
    · by_cases hb : b = []
      · subst hb
        have : x = x ++ DL.pw w 0 ++ [] := by rw [pw_zero]; simp
        rw [this]
        exact fac_main (b := w) hl (by omega) (by simpa using e1) ha rfl h0
      · have la : a.length ≠ 0 := fun z => ha (List.length_eq_zero_iff.mp z)
        have lb : b.length ≠ 0 := fun z => hb (List.length_eq_zero_iff.mp z)
        cases x with
        | nil =>
          have : ([] : Wo) = [] ++ DL.pw w 0 ++ [] := by rw [pw_zero]; rfl
          rw [this]
          exact fac_main (a := w) (b := w) hl (by omega) (by simp) h0 rfl h0
        | cons c x =>
          have hx : x = [] := List.length_eq_zero_iff.mp (by simp at lw; omega)
          subst hx
          have la1 : a.length = 1 := by simp at lw; omega
          obtain ⟨d, rfl⟩ : ∃ d, a = [d] := by
            match a, la1 with
            | [d], _ => exact ⟨d, rfl⟩
          simp only [fac, List.mem_cons]
          left
          rw [e1]; rfl

/-! ### keys -/
def keyA (a b : PyData) (r : Nat) : PyData := .tuple [a, b, .int (r : Nat)]
theorem keyA_ok {r : Nat} {x y : Wo} (hx : Wd x) (hy : Wd y) : nkOk (keyA (kd r x) (kd r y) r) = true := by
  simp only [keyA, nkOk, nkOks, Bool.and_eq_true]
  exact ⟨pl_nk _ (kd_pl r hx), pl_nk _ (kd_pl r hy), trivial, trivial⟩
theorem keyA_depth {r : Nat} {x y : Wo} (hx : Wd x) (hy : Wd y) (hr : r ≤ 3) : (nk (keyA (kd r x) (kd r y) r)).depth ≤ 8 := by
  rw [nk_depth _ (keyA_ok hx hy)]
  have h1 := kd_depth r hx
  have h2 := kd_depth r hy
  simp only [keyA, PyData.depth, PyData.depthAll]
  omega
theorem keyA_inj {r s : Nat} {x y u v : Wo} (hx : Wd x) (hy : Wd y) (hu : Wd u) (hv : Wd v) (h : nk (keyA (kd r x) (kd r y) r) = nk (keyA (kd s u) (kd s v) s)) : r = s ∧ kd r x = kd s u ∧ kd r y = kd s v := by
  have := nk_inj (keyA_ok hx hy) (keyA_ok hu hv) h
  simp only [keyA, PyData.tuple.injEq, List.cons.injEq, PyData.int.injEq, and_true] at this
  exact ⟨by omega, this.1, this.2.1⟩
def keysA (w : Wo) : List NestedKey := (List.range 3).flatMap fun r => (fac w).flatMap fun x => (fac w).map fun y => nk (keyA (kd (r + 1) x) (kd (r + 1) y) (r + 1))
theorem flatMap_len {α β : Type} {f : α → List β} {n : Nat} : ∀ {xs : List α}, (∀ x ∈ xs, (f x).length = n) → (xs.flatMap f).length = xs.length * n
  | [], _ => by simp
  | x :: xs, h => by
    rw [List.flatMap_cons, List.length_append, h x List.mem_cons_self, flatMap_len fun y hy => h y (List.mem_cons_of_mem _ hy), List.length_cons, Nat.add_mul, Nat.one_mul]; omega
theorem keysA_len (w : Wo) : (keysA w).length = 15987 := by
  unfold keysA
  rw [flatMap_len (n := 73 * 73) fun r _ => by
    rw [flatMap_len (n := 73) fun x _ => by rw [List.length_map, fac_count], fac_count]]
  simp
theorem nodup_le {α : Type} : ∀ {xs ys : List α}, xs.Nodup → (∀ x ∈ xs, x ∈ ys) → xs.length ≤ ys.length
  | [], _, _, _ => Nat.zero_le _
  | x :: xs, ys, hn, hs => by
    obtain ⟨a, b, e⟩ := List.append_of_mem (hs x List.mem_cons_self)
    have h1 := (List.nodup_cons.mp hn)
    have := nodup_le (xs := xs) (ys := a ++ b) h1.2 fun z hz => by
      have := hs z (List.mem_cons_of_mem _ hz)
      rw [e] at this
      rcases List.mem_append.mp this with q | q
      · exact List.mem_append_left _ q
      · rcases List.mem_cons.mp q with rfl | q
        · exact absurd hz h1.1
        · exact List.mem_append_right _ q
    rw [e]
    simp only [List.length_append, List.length_cons] at this ⊢
    omega
theorem keysA_mem {w x y : Wo} {r : Nat} (hw : Wd w) (h0 : w ≠ []) (hl : w.length ≤ 3) (hx : Fc w x) (hy : Fc w y) (h1 : 1 ≤ r) (h3 : r ≤ 3) : nk (keyA (kd r x) (kd r y) r) ∈ keysA w := by
  obtain ⟨x', mx, _, _, ex⟩ := hx.rep hw h0 hl
  obtain ⟨y', my, _, _, ey⟩ := hy.rep hw h0 hl
  rw [ex r h3, ey r h3]
  simp only [keysA, List.mem_flatMap, List.mem_map, List.mem_range]
  refine ⟨r - 1, by omega, x', mx, y', my, ?_⟩
  rw [show r - 1 + 1 = r by omega]
end DL
set_option maxHeartbeats 2000000
namespace DL
open PySem PySem.Spec PyProof.Rows L2
def top (i : Nat) : Stmt := PySem.Challenge.pw_allorsome_k29_kinds_of_powers.main.body.getD i (.Pass ⟨0, 0, 0, 0⟩)
abbrev sIsName : Stmt := top 9
abbrev sChkWord : Stmt := top 14
abbrev sChkRounds : Stmt := top 15
abbrev sChkForm : Stmt := top 16
abbrev sRoundsOf : Stmt := top 17
abbrev sWTruth : Stmt := top 18
abbrev sWithP : Stmt := top 19
abbrev sJoined : Stmt := top 20
abbrev sHoldsW : Stmt := top 21
abbrev sKindOf : Stmt := top 22
abbrev sKnown : Stmt := top 23
abbrev sLess : Stmt := top 24
abbrev sInit : Stmt := inClass (top 25) 0
abbrev sAdded : Stmt := inClass (top 25) 1
abbrev sSum : Stmt := top 26
abbrev sPower : Stmt := top 27
abbrev sKTruth : Stmt := top 28
abbrev sPlaceOf : Stmt := top 29
abbrev sFreed : Stmt := top 30
abbrev sChoices : Stmt := top 31
abbrev sHoldsK : Stmt := top 32
abbrev sAll : Stmt := top 33
abbrev sWithin : Stmt := top 34
abbrev sTelling : Stmt := top 35
abbrev sPlaceS : Stmt := top 36
abbrev sSame : Stmt := top 37
abbrev sCell : Stmt := top 39
abbrev sDigits : Stmt := top 40
abbrev sDraw : Stmt := top 41
abbrev sPick : Stmt := top 42
abbrev sLSame : Stmt := top 43
abbrev sTwo : Stmt := top 44
abbrev sSent : Stmt := top 45
abbrev sLaw : Stmt := top 46
theorem scChkRounds : FnScope ["rounds"] ["rounds"] (defScope sChkRounds) := ⟨rfl, rfl, rfl, by decide +kernel, rfl, by decide +kernel, by decide +kernel⟩
end DL
set_option maxHeartbeats 2000000
namespace DL
open PySem PySem.Spec PyProof.Rows L2
def nLess : List Str := ["kind", "rounds", "found", "left", "colour", "right", "one"]
theorem scLess : FnScope nLess ["kind", "rounds"] (defScope sLess) := ⟨rfl, rfl, rfl, by decide +kernel, rfl, by decide +kernel, by decide +kernel⟩
structure Tx0 (M : Mc) : Prop where
  sorted : M.mg "sorted" = none
  tuple : M.mg "tuple" = none
theorem kd_shaped {r : Nat} {w : Wo} (h : Wd w) (hr : r ≤ 20) : SeqAt.shaped (kd r w) = true := by
  unfold SeqAt.shaped
  rw [pl_lay _ (kd_pl r h), Bool.true_and, decide_eq_true_iff]
  have := kd_depth r h
  omega
theorem row_plD {r : Nat} {u v : Wo} {c : Str} (h1 : Wd u) (hc : c ∈ abc) (h3 : Wd v) : plD (rowD (kd r u) c (kd r v)) = true := by
  simp only [rowD, plD, plDs, Bool.and_eq_true]
  exact ⟨kd_pl r h1, abc_pl hc, kd_pl r h3, trivial⟩
theorem row_shaped {r : Nat} {u v : Wo} {c : Str} (h1 : Wd u) (hc : c ∈ abc) (h3 : Wd v) (hr : r ≤ 20) : SeqAt.shaped (rowD (kd r u) c (kd r v)) = true := by
  unfold SeqAt.shaped
  rw [pl_lay _ (row_plD h1 hc h3), Bool.true_and, decide_eq_true_iff]
  have := row_depth (r := r) (c := c) h1 h3
  omega
/-- rows of a level: what a list of them needs to be sorted and searched -/
def RowsOk (r : Nat) (ds : List PyData) : Prop := ∀ d ∈ ds, ∃ u c v, Wd u ∧ c ∈ abc ∧ Wd v ∧ d = rowD (kd r u) c (kd r v)
theorem RowsOk.pl {r : Nat} {ds : List PyData} (h : RowsOk r ds) : plDs ds = true := plDs_mem.mpr fun d hd => by
  obtain ⟨u, c, v, h1, h2, h3, rfl⟩ := h d hd
  exact row_plD h1 h2 h3
theorem RowsOk.alike {r : Nat} {ds : List PyData} (h : RowsOk r ds) : PySem.W.AllAlike ds := fun d hd e he => by
  obtain ⟨u, c, v, h1, h2, h3, rfl⟩ := h d hd
  obtain ⟨u', c', v', h1', h2', h3', rfl⟩ := h e he
  exact row_alike h1 h3 h1' h3'
theorem RowsOk.sortable {r : Nat} {ds : List PyData} (h : RowsOk r ds) : PySem.W.Sortable ds := .inl fun d hd => by
  obtain ⟨u, c, v, h1, h2, h3, rfl⟩ := h d hd
  exact ⟨_, _, rfl⟩
theorem RowsOk.deep {r : Nat} {ds : List PyData} (h : RowsOk r ds) (hr : r ≤ 20) : ∀ d ∈ ds, d.depth ≤ 60 := fun d hd => by
  obtain ⟨u, c, v, h1, h2, h3, rfl⟩ := h d hd
  have := row_depth (r := r) (c := c) h1 h3
  omega
theorem rows_ok {r : Nat} {w : Wo} (h : Wd w) : RowsOk r (rowsD r w) := fun d hd => by
  obtain ⟨u, c, v, e, rfl⟩ := mem_rowsD.mp hd
  obtain ⟨h1, h2, h3⟩ := h.split e
  exact ⟨u, c, v, h1, h2, h3, rfl⟩
theorem canon_ok {r : Nat} {ds : List PyData} (h : RowsOk r ds) : RowsOk r (canon ds) := fun d hd => h d ((canon_mem h.pl).mp hd)
theorem dedup_ok {r : Nat} {ds : List PyData} (h : RowsOk r ds) : RowsOk r (dedup ds) := fun d hd => h d ((dedup_mem h.pl).mp hd)
section
variable {M : Mc}
theorem cal_less (T : Tx0 M) (D : Df M "lessened" "lessened" sLess ["kind", "rounds"]) : ∀ (r : Nat) {w : Wo}, r ≤ 10 → Wd w → w.length ≤ 1000 → Cal false M (r + 1) "lessened" [.dat (kd (r + 1) w), .dat (.int ((r + 1 : Nat) : Int))] [] (.dat (kd r w)) []
  | 0, w, _, h, _ => cal_of D scLess rfl (Nat.le_refl _) fun X b fn => by
    refine ex_cons ?_
    refine ex_ifT ((et_cmp (b.v 1) ev_int o_eqI).to (k' := true) (by decide)) ?_
    refine ex_cons ?_
    refine ex_ret (ev_tup (ds := []) ea_nil) ⟨rfl, _, rfl, trivial⟩
  | r + 1, w, hr, h, hl => by
    have ih := @cal_less T D r
    refine cal_of D scLess rfl (Nat.le_refl _) fun X b fn => ?_
    refine ex_cons (ex_ifF ((et_cmp (b.v 1) ev_int o_eqI).to (k' := false) (by simp; omega)) (ex_nil ?_))
    refine ex_cons (b.asg 2 (ev_lst (ds := []) ea_nil) ?_)
    refine ex_cons ?_
    rw [kd_succ (r + 1) w]
    have hrok : RowsOk (r + 1) (canon (rowsD (r + 1) w)) := canon_ok (rows_ok h)
    obtain ⟨L, hL⟩ : ∃ L, Paired (fun d y => ∃ u c v, w = u ++ c :: v ∧ d = rowD (kd (r + 1) u) c (kd (r + 1) v) ∧ y = rowD (kd r u) c (kd r v)) (canon (rowsD (r + 1) w)) L := list_choose fun d hd => by
      rw [canon_mem (rows_pl h)] at hd
      obtain ⟨u, c, v, e, rfl⟩ := mem_rowsD.mp hd
      exact ⟨_, u, c, v, e, rfl, rfl⟩
    have hlen : (canon (rowsD (r + 1) w)).length ≤ 1000 := Nat.le_trans (canon_len _) (by rw [rowsD_len]; exact hl)
    have hok : RowsOk r L := fun y hy => by
      obtain ⟨i, hi, e⟩ := List.getElem_of_mem hy
      obtain ⟨d, h1, u, c, v, e1, e2, e3⟩ := paired_get hL (i := i) (y := y) (by rw [List.getElem?_eq_getElem hi, e])
      obtain ⟨w1, w2, w3⟩ := h.split e1
      exact ⟨u, c, v, w1, w2, w3, e3⟩
    have tok : ∀ i, RowsOk r (L.take i) := fun i d hd => hok d (List.mem_of_mem_take hd)
    refine ex_for b.hp b.calm (it_tup (b.v 0)) (fun i Γ μ => ∃ x3 x4 x5 x6, Γ = [some (.dat (.tuple (canon (rowsD (r + 1) w)))), some (.dat (.int ((r + 1 + 1 : Nat) : Int))), some (.loc 0), x3, x4, x5, x6] ∧ μ = [.lst (dedup (L.take i))]) ⟨_, _, _, _, rfl, rfl⟩ (fun _ _ _ _ => trivial) ?_ ?_
    · rintro i d Γ μ hi ⟨x3, x4, x5, x6, rfl, rfl⟩
      obtain ⟨y, hy, u, c, v, e, rfl, rfl⟩ := paired_get' hL hi
      obtain ⟨hu, hc, hv⟩ := h.split e
      have hz := split_len e
      refine ⟨_, _, gt_tup b.calm (ds := [_, _, _]) (gts_cons (b.tg 3) (gts_cons (b.tg 4) (gts_cons (b.tg 5) gts_nil))), ?_⟩
      refine ex_cons (b.asg 6 (ev_tup (ds := [kd r u, .str c, kd r v]) (ea_cons (b.call (ea_cons (b.v 3) (ea_cons (ev_pred (b.v 1)) ea_nil)) (ih (by omega) hu (by omega)) (by omega)) (ea_cons (b.v 4) (ea_cons (b.call (ea_cons (b.v 5) (ea_cons (ev_pred (b.v 1)) ea_nil)) (ih (by omega) hv (by omega)) (by omega)) ea_nil)))) ?_)
      refine ex_cons (ex_if (et_cmp (b.v 6) (b.v 2) (o_nin (ds := dedup (L.take i)) b.un (.lst (.loc rfl)) (row_shaped hu hc hv (by omega)) (pls_lay _ (dedup_ok (tok i)).pl))) (fun q => ?_) fun q => ?_)
      · refine ex_cons (ex_app (b.v 2) (b.v 6) rfl ?_ (ex_nil (ex_nil ⟨_, _, _, _, rfl, ?_⟩)) ⟨_, rfl⟩)
        · have := dedup_len (L.take i)
          rw [List.length_take] at this
          have := paired_len hL
          rw [sizeLine_eq]; omega
        · rw [dedup_step hy]; unfold addN; rw [if_neg (by simpa [rowD] using q)]; rfl
      · refine ex_nil (ex_nil ⟨_, _, _, _, rfl, ?_⟩)
        rw [dedup_step hy]; unfold addN; rw [if_pos (by simpa [rowD] using q)]
    · rintro Γ μ ⟨x3, x4, x5, x6, rfl, rfl⟩
      refine ex_cons ?_
      refine ex_ret (b.tup T.tuple (b.sorted T.sorted (b.v 2) (.loc rfl) (dedup_ok (tok _)).alike (dedup_ok (tok _)).sortable ((dedup_ok (tok _)).deep (by omega))) (.lst (.loc rfl))) ⟨?_, _, rfl, trivial⟩
      rw [paired_len hL, List.take_length, kd_succ]
      refine congrArg (fun z => AV.dat (.tuple z)) (canon_eq hok.alike hok.pl (rows_pl h) fun x => ?_)
      rw [mem_rowsD]
      constructor
      · intro hx
        obtain ⟨i, hi, e⟩ := List.getElem_of_mem hx
        obtain ⟨d, h1, u, c, v, e1, e2, e3⟩ := paired_get hL (i := i) (y := x) (by rw [List.getElem?_eq_getElem hi, e])
        exact ⟨u, c, v, e1, e3⟩
      · rintro ⟨u, c, v, e, rfl⟩
        have hm : rowD (kd (r + 1) u) c (kd (r + 1) v) ∈ canon (rowsD (r + 1) w) := (canon_mem (rows_pl h)).mpr (mem_rowsD.mpr ⟨u, c, v, e, rfl⟩)
        obtain ⟨i, hi, e0⟩ := List.getElem_of_mem hm
        obtain ⟨y, h1, u', c', v', e1, e2, e3⟩ := paired_get' hL (i := i) (by rw [List.getElem?_eq_getElem hi, e0])
        obtain ⟨q1, rfl, q3⟩ := rowD_inj.mp e2
        obtain ⟨w1, w2, w3⟩ := h.split e
        obtain ⟨w1', w2', w3'⟩ := h.split e1
        rw [kd_less r w1 w1' q1, kd_less r w3 w3' q3, ← e3]
        exact List.mem_of_getElem? h1
end
end DL
set_option maxHeartbeats 2000000
/-! is_name, check_word, check_rounds. -/
namespace DL
open PySem PySem.Spec PyProof.Rows L2
/-- a constant of the module -/
def Cst (M : Mc) (x : Str) (d : PyData) : Prop := ∃ v u, M.mg x = some u ∧ RelV v u ∧ ∀ F, Dp M.K F v d
structure Tx (M : Mc) : Prop extends Tx0 M where
  isinstance : M.mg "isinstance" = none
  str : M.mg "str" = none
  len : M.mg "len" = none
  all : M.mg "all" = none
  any : M.mg "any" = none
  max : M.mg "max" = none
  int : M.mg "int" = none
  dict : M.mg "dict" = none
  range : M.mg "range" = none
  enumerate : M.mg "enumerate" = none
  repr : M.mg "repr" = none
  super : M.mg "super" = none
  turns : Cst M "TURNS" (.tuple [.str "every", .str "some"])
  words : Cst M "WORDS" (.tuple [.str "true", .str "false", .str "not", .str "and", .str "or", .str "implies", .str "every", .str "some", .str "by"])
  small : Cst M "SMALL" (.str "abcdefghijklmnopqrstuvwxyz")
  figures : Cst M "FIGURES" (.str "0123456789")
  roundsMost : Cst M "ROUNDS_MOST" (.int 4)
  long : Cst M "LONG" (.int 12)
  kindsMost : Cst M "KINDS_MOST" (.int 20000)
section
variable {X : Cx} {M : Mc} {N : List Str} {sc : Scope} {k k' j : Nat} {g g' : Bool} {Γ : Gm} {μ : Sto} {d : PyData} {x : Str} {pos : Pos}
theorem Bd.kc (b : Bd X M N sc k g) (h : Cst M x d) (hv : gloB sc x = true := by decide +kernel) (hdb : (x == ("__debug__" : Str)) = false := by decide +kernel) : EvE X Γ μ (.Name x pos) (.dat d) μ :=
  let ⟨_, _, h1, h2, h3⟩ := h; b.c h1 h2 h3 hv hdb
end
def nIsName : List Str := ["text", "sign"]
theorem scIsName : FnScope nIsName ["text"] (defScope sIsName) := ⟨rfl, rfl, rfl, by decide +kernel, rfl, by decide +kernel, by decide +kernel⟩
/-- a name of one small sign -/
def Nm (x : Str) : Prop := ∃ c, x = ⟨#[c]⟩ ∧ 97 ≤ c ∧ c ≤ 122
section
variable {M : Mc}
theorem cal_isName (T : Tx M) (D : Df M "is_name" "is_name" sIsName ["text"]) {x : Str} (hx : Nm x) : Cal false M 1 "is_name" [.dat (.str x)] [] (.dat (.bool true)) [] := by
  obtain ⟨c, rfl, h1, h2⟩ := hx
  have hsm : c ∈ ("abcdefghijklmnopqrstuvwxyz" : Str).cps.toList := by
    have : ("abcdefghijklmnopqrstuvwxyz" : Str).cps.toList = List.range' 97 26 := by decide +kernel
    rw [this, List.mem_range']
    exact ⟨c - 97, by omega, by omega⟩
  refine cal_of D scIsName rfl (Nat.le_refl _) fun X b fn => ?_
  refine ex_cons ?_
  refine ex_ifF (et_w (ew_orF ((et_not (et_val (b.isi (t := "str") (m := true) T.isinstance T.str (b.v 0) (by rfl)))).to (k' := false) rfl) (ew_orF ((et_not (et_lele ev_int (b.lenS T.len (b.v 0) ?_) ev_int)).to (k' := false) ?_) (ew_orF ((et_cmp (b.v 0) (b.kc T.words) (o_in b.un (.tup _) ?_ ?_)).to (k' := false) ?_) (ew_or1 ((et_cmp (ev_ixS (c := c) (b.v 0) ev_int (fun _ _ => rfl) ?_ ?_) (b.kc T.small) o_nsgn).to (k' := false) ?_)))))) (ex_nil ?_)
  · rw [sizeLine_eq]; show (1 : Nat) ≤ _; decide
  · show (!(decide ((1 : Int) ≤ ((1 : Nat) : Int)) && decide (((1 : Nat) : Int) ≤ 6))) = false
    decide
  · show ((#[c] : Array Nat).all (· < 0x110000) && decide (0 ≤ 64)) = true
    simp; omega
  · decide +kernel
  · simp only [inD, List.any_cons, List.any_nil, PyData.eqv, Bool.or_false]
    have ne : ∀ z : Str, z.cps.size ≠ 1 → (z == (⟨#[c]⟩ : Str)) = false := fun z hz => by
      rw [beq_eq_false_iff_ne]; rintro rfl; exact hz rfl
    simp only [Bool.or_eq_false_iff]
    refine ⟨ne _ (by decide +kernel), ne _ (by decide +kernel), ne _ (by decide +kernel), ne _ (by decide +kernel), ne _ (by decide +kernel), ne _ (by decide +kernel), ne _ (by decide +kernel), ne _ (by decide +kernel), ne _ (by decide +kernel)⟩
  · rw [sizeLine_eq]; show (1 : Nat) ≤ _; decide
  · rfl
  · simp [hsm]
  · refine ex_cons ?_
    refine ex_ret (b.all T.all (bs := [true]) (b.map (ys := [.bool true]) (own := [("sign", 1)]) (it_str (b.v 0)) (by decide +kernel) trivial ?_ rfl ?_) (.loc rfl)) ⟨rfl, _, rfl, trivial⟩
    · show (1 : Nat) ≤ 10000; decide
    · intro i d y hd hy
      match i with
      | 0 =>
        cases hd; cases hy
        refine turn_one (fun z => (b.blk z).tg 1) (fun z => ev_orT ((ev_cmp ((b.blk z).v 1) ((b.blk z).kc T.small) o_sgn).to ?_))
        rw [decide_eq_true hsm]
      | i + 1 => cases hy
def wD (w : Wo) : PyData := .tuple (w.map .str)
theorem abc_nm {c : Str} (h : c ∈ abc) : Nm c := by
  simp only [abc, List.mem_cons, List.not_mem_nil, or_false] at h
  rcases h with rfl | rfl | rfl
  · exact ⟨97, rfl, by decide, by decide⟩
  · exact ⟨98, rfl, by decide, by decide⟩
  · exact ⟨99, rfl, by decide, by decide⟩
def nChkWord : List Str := ["word", "colour"]
theorem scChkWord : FnScope nChkWord ["word"] (defScope sChkWord) := ⟨rfl, rfl, rfl, by decide +kernel, rfl, by decide +kernel, by decide +kernel⟩
theorem all_true {bs : List Bool} (h : ∀ b ∈ bs, b = true) : bs.all id = true := by
  rw [List.all_eq_true]; exact h
theorem cal_chkWord (T : Tx M) (D : Df M "check_word" "check_word" sChkWord ["word"]) (DI : Df M "is_name" "is_name" sIsName ["text"]) {w : Wo} (h : Wd w) (hl : w.length ≤ 12) : Cal false M 2 "check_word" [.dat (wD w)] [] (.dat .none) [] := by
  refine cal_of D scChkWord rfl (Nat.le_refl _) fun X b fn => ?_
  refine ex_cons ?_
  refine ex_ifF (et_w (ew_orF ((et_not (et_val (b.isi (t := "tuple") (m := true) T.isinstance T.tuple (b.v 0) (by rfl)))).to (k' := false) rfl) (ew_orF ((et_cmp (b.len T.len (ds := w.map .str) (b.v 0) (.tup _)) (b.kc T.long) o_gt).to (k' := false) ?_) (ew_or1 (et_not (k := true) ((et_val (b.all T.all (bs := List.replicate w.length true) (b.map (ys := List.replicate w.length (.bool true)) (own := [("colour", 1)]) (it_tup (ds := w.map .str) (b.v 0)) (by decide +kernel) trivial ?_ ?_ ?_) (.loc ?_))).cut.to ?_)))))) (ex_nil (ex_nil ⟨rfl, _, rfl, trivial⟩))
  · simp; omega
  · simp; omega
  · simp
  · intro i d y hd hy
    rw [List.getElem?_map] at hd
    cases e : w[i]? with
    | none => rw [e] at hd; cases hd
    | some c =>
      rw [e] at hd; cases hd
      have hy' : y = .bool true := by
        have := List.mem_of_getElem? hy
        exact List.eq_of_mem_replicate this
      subst hy'
      exact turn_one (fun z => (b.blk z).tg 1) (fun z => (b.blk z).call (ea_one ((b.blk z).v 1)) (cal_isName T DI (abc_nm (h c (List.mem_of_getElem? e)))) (by decide))
  · simp
  · rw [List.all_eq_true]; intro x hx; exact List.eq_of_mem_replicate hx
def nChkRounds : List Str := ["rounds"]
theorem cal_chkRounds (T : Tx M) (D : Df M "check_rounds" "check_rounds" sChkRounds ["rounds"]) {r : Nat} (hr : r ≤ 4) : Cal false M 1 "check_rounds" [.dat (.int r)] [] (.dat .none) [] := by
  refine cal_of D scChkRounds rfl (Nat.le_refl _) fun X b fn => ?_
  refine ex_cons ?_
  refine ex_ifF ((et_cmp (b.v 0) (b.kc T.roundsMost) o_gt).to (k' := false) ?_) (ex_nil (ex_nil ⟨rfl, _, rfl, trivial⟩))
  simp; omega
end
end DL
set_option maxHeartbeats 2000000
namespace DL
open PySem PySem.Spec PyProof.Rows L2
def mnK : List (Str × Int) := [("true", 1), ("false", 1), ("not", 2), ("and", 3), ("or", 3), ("implies", 3)]
theorem mn1 : mnK.length ≤ 15 := by decide
theorem mn2 : (mnK.map fun c => (Sum.inr c.1 : Key)).Nodup := by decide +kernel
section
variable {X : Cx} {M : Mc} {N : List Str} {sc : Scope} {k k' j : Nat} {g g' : Bool} {Γ : Gm} {μ : Sto} {w : Str} {n : Int} {a1 a2 b1 b2 c1 c2 d1 d2 e1 e2 f1 f2 dpos apos wpos zpos cpos : Pos} {i1 i2 i3 i4 i5 i6 j1 j2 j3 j4 j5 j6 z : Nat} {x : Str} {e : Expr}
theorem pps_mn : PPs X dpos [some (.Constant (.str "true") i1 a1), some (.Constant (.str "false") i2 b1), some (.Constant (.str "not") i3 c1), some (.Constant (.str "and") i4 d1), some (.Constant (.str "or") i5 e1), some (.Constant (.str "implies") i6 f1)]
    [.Constant (.int 1) j1 a2, .Constant (.int 1) j2 b2, .Constant (.int 2) j3 c2, .Constant (.int 3) j4 d2, .Constant (.int 3) j5 e2, .Constant (.int 3) j6 f2] (mnK.map fun c => (tC (.str c.1), tC (.int c.2))) :=
  pps_cons pe_str pe_int (pps_cons pe_str pe_int (pps_cons pe_str pe_int (pps_cons pe_str pe_int (pps_cons pe_str pe_int (pps_cons pe_str pe_int pps_nil)))))
theorem ev_mn (b : Bd X M N sc k g) (hline : (apos.endLine == cpos.line) = true) (he : EvE X (Γ) (μ ++ [.dK (mnK.map fun c => (.inr c.1, .int c.2))]) (.Name x wpos) (.dat (.str w)) (μ ++ [.dK (mnK.map fun c => (.inr c.1, .int c.2))])) (hn : (valP (mnK.map fun c => (.inr c.1, .int c.2)) (.inr w)).getD (.int 0) = .int n) :
    EvE X Γ μ (.Call (.Attribute (.Dict [some (.Constant (.str "true") i1 a1), some (.Constant (.str "false") i2 b1), some (.Constant (.str "not") i3 c1), some (.Constant (.str "and") i4 d1), some (.Constant (.str "or") i5 e1), some (.Constant (.str "implies") i6 f1)]
    [.Constant (.int 1) j1 a2, .Constant (.int 1) j2 b2, .Constant (.int 2) j3 c2, .Constant (.int 3) j4 d2, .Constant (.int 3) j5 e2, .Constant (.int 3) j6 f2] dpos) "get" apos) [.Name x wpos, .Constant (.int 0) z zpos] [] cpos) (.dat (.int n)) μ := by
  have h0 := pps_mn (X := X) (dpos := dpos) (i1 := i1) (i2 := i2) (i3 := i3) (i4 := i4) (i5 := i5) (i6 := i6) (j1 := j1) (j2 := j2) (j3 := j3) (j4 := j4) (j5 := j5) (j6 := j6) (a1 := a1) (b1 := b1) (c1 := c1) (d1 := d1) (e1 := e1) (f1 := f1) (a2 := a2) (b2 := b2) (c2 := c2) (d2 := d2) (e2 := e2) (f2 := f2)
  have h1 := @ev_disp X Γ μ dpos _ _ mnK h0 rfl rfl (List.cons_ne_nil _ _) (by show (6 : Nat) ≤ 15; decide) mn1 mn2
  have m : M2 X (.Dict [some (.Constant (.str "true") i1 a1), some (.Constant (.str "false") i2 b1), some (.Constant (.str "not") i3 c1), some (.Constant (.str "and") i4 d1), some (.Constant (.str "or") i5 e1), some (.Constant (.str "implies") i6 f1)]
    [.Constant (.int 1) j1 a2, .Constant (.int 1) j2 b2, .Constant (.int 2) j3 c2, .Constant (.int 3) j4 d2, .Constant (.int 3) j5 e2, .Constant (.int 3) j6 f2] dpos) "get" apos (.Name x wpos) (.Constant (.int 0) z zpos) cpos := ⟨rfl, rfl, hline, rfl⟩
  have hm : (μ ++ [MO.dK (mnK.map fun c => (.inr c.1, .int c.2))])[μ.length]? = some (.dK (mnK.map fun c => (.inr c.1, .int c.2))) := by simp
  have hz : EvE X Γ (μ ++ [.dK (mnK.map fun c => (.inr c.1, .int c.2))]) (.Constant (.int 0) z zpos) (.dat (.int 0)) (μ ++ [.dK (mnK.map fun c => (.inr c.1, .int c.2))]) := ev_int
  have h2 := ev_get2 b.un4 h1 he hz hm (KeyD.str w) m
  exact EvE.dat (ν := [.dK (mnK.map fun c => (.inr c.1, .int c.2))]) (EvE.to h2 (congrArg AV.dat hn))
end
end DL
set_option maxHeartbeats 2000000
/-! Formulas about orders: checked, their rounds. -/
namespace DL
open PySem PySem.Spec PyProof.Rows L2
inductive Fo
  | bf (x y : Str)
  | cl (c x : Str)
  | nt (f : Fo)
  | an (f g : Fo)
  | im (f g : Fo)
  | sm (x : Str) (f : Fo)
  | ev (x : Str) (f : Fo)
def fD : Fo → PyData
  | .bf x y => .tuple [.str "before", .str x, .str y]
  | .cl c x => .tuple [.str "colour", .str c, .str x]
  | .nt f => .tuple [.str "not", fD f]
  | .an f g => .tuple [.str "and", fD f, fD g]
  | .im f g => .tuple [.str "implies", fD f, fD g]
  | .sm x f => .tuple [.str "some", .str x, fD f]
  | .ev x f => .tuple [.str "every", .str x, fD f]
def Fo.ht : Fo → Nat
  | .bf _ _ | .cl _ _ => 0
  | .nt f => f.ht + 1
  | .an f g | .im f g => max f.ht g.ht + 1
  | .sm _ f | .ev _ f => f.ht + 1
def Fo.qd : Fo → Nat
  | .bf _ _ | .cl _ _ => 0
  | .nt f => f.qd
  | .an f g | .im f g => max f.qd g.qd
  | .sm _ f | .ev _ f => f.qd + 1
def Fo.wf : List Str → Fo → Prop
  | kn, .bf x y => x ∈ kn ∧ y ∈ kn
  | kn, .cl c x => Nm c ∧ x ∈ kn
  | kn, .nt f => f.wf kn
  | kn, .an f g | kn, .im f g => f.wf kn ∧ g.wf kn
  | kn, .sm x f | kn, .ev x f => Nm x ∧ f.wf (kn ++ [x])
theorem Nm.lay {x : Str} (h : Nm x) : PyData.canLay0 (.str x) = true := by
  obtain ⟨c, rfl, h1, h2⟩ := h
  show ((#[c] : Array Nat).all (· < 0x110000)) = true
  simp; omega
theorem nms_lay : ∀ {kn : List Str}, (∀ x ∈ kn, Nm x) → PyData.canLayAll0 (kn.map .str) = true
  | [], _ => by simp [PyData.canLayAll0]
  | x :: kn, h => by
    rw [List.map_cons]
    simp only [PyData.canLayAll0, Bool.and_eq_true]
    exact ⟨(h x List.mem_cons_self).lay, nms_lay fun y hy => h y (List.mem_cons_of_mem _ hy)⟩
theorem Nm.shaped {x : Str} (h : Nm x) : SeqAt.shaped (.str x) = true := by
  unfold SeqAt.shaped
  rw [h.lay]; rfl
theorem inD_str {x : Str} {kn : List Str} : inD (.str x) (kn.map .str) = decide (x ∈ kn) := by
  unfold inD
  rw [List.any_map, Bool.eq_iff_iff, List.any_eq_true, decide_eq_true_iff]
  constructor
  · rintro ⟨z, hz, e⟩
    have : z = x := by simpa [PyData.eqv] using e
    exact this ▸ hz
  · intro h
    exact ⟨x, h, by simp [PyData.eqv]⟩
def nChkForm : List Str := ["formula", "known", "word", "fits", "many", "part"]
theorem scChkForm : FnScope nChkForm ["formula", "known"] (defScope sChkForm) := ⟨rfl, rfl, rfl, by decide +kernel, rfl, by decide +kernel, by decide +kernel⟩
def knD (kn : List Str) : PyData := .tuple (kn.map .str)
section
variable {M : Mc}
theorem cal_chkForm (T : Tx M) (D : Df M "check_order_formula" "check_order_formula" sChkForm ["formula", "known"]) (DI : Df M "is_name" "is_name" sIsName ["text"]) : ∀ (f : Fo) {kn : List Str}, f.wf kn → (∀ x ∈ kn, Nm x) → kn.length + f.ht ≤ 1000 → Cal false M (f.ht + 2) "check_order_formula" [.dat (fD f), .dat (knD kn)] [] (.dat .none) []
  | .bf x y, kn, h, hn, hk => by
    refine cal_of D scChkForm rfl (Nat.le_refl _) fun X b fn => ?_
    refine ex_cons ?_
    refine ex_ifF (et_w (ew_orF ((et_not (et_val (b.isi (t := "tuple") (m := true) T.isinstance T.tuple (b.v 0) (by rfl)))).to (k' := false) rfl) (ew_or1 ((et_not (et_tru (b.v 0) (by exact trivial))).to (k' := false) rfl)))) (ex_nil ?_)
    refine ex_cons (b.asg 2 (ev_ix (b.v 0) ev_int (fun _ _ => rfl) (.tup _) rfl) ?_)
    refine ex_cons ?_
    refine ex_ifT ((et_cmp (b.v 2) (ev_tup (ds := [.str "before", .str "same"]) (ea_cons ev_str (ea_cons ev_str ea_nil))) (o_in b.un (.tup _) (by decide +kernel) (by decide +kernel))).to (k' := true) (by decide +kernel)) ?_
    refine ex_cons (b.asg 3 (r := .dat (.bool true)) (ev_andT ((ev_cmp (b.len T.len (b.v 0) (.tup _)) ev_int o_eqI).to rfl) (ev_andT ((ev_cmp (ev_ix (b.v 0) ev_int (fun _ _ => rfl) (.tup _) rfl) (b.v 1) (o_in b.un (.tup _) (hn x h.1).shaped (nms_lay hn))).to ?_) (ev_one ((ev_cmp (ev_ix (b.v 0) ev_int (fun _ _ => rfl) (.tup _) rfl) (b.v 1) (o_in b.un (.tup _) (hn y h.2).shaped (nms_lay hn))).to ?_)))) ?_)
    · rw [inD_str, decide_eq_true h.1]
    · rw [inD_str, decide_eq_true h.2]
    refine ex_nil (ex_cons ?_)
    exact ex_ifF (et_not (k := true) (et_val (b.v 3))) (ex_nil (ex_nil ⟨rfl, _, rfl, trivial⟩))
  | .cl c x, kn, h, hn, hk => by
    refine cal_of D scChkForm rfl (Nat.le_refl _) fun X b fn => ?_
    refine ex_cons ?_
    refine ex_ifF (et_w (ew_orF ((et_not (et_val (b.isi (t := "tuple") (m := true) T.isinstance T.tuple (b.v 0) (by rfl)))).to (k' := false) rfl) (ew_or1 ((et_not (et_tru (b.v 0) (by exact trivial))).to (k' := false) rfl)))) (ex_nil ?_)
    refine ex_cons (b.asg 2 (ev_ix (b.v 0) ev_int (fun _ _ => rfl) (.tup _) rfl) ?_)
    refine ex_cons ?_
    refine ex_ifF ((et_cmp (b.v 2) (ev_tup (ds := [.str "before", .str "same"]) (ea_cons ev_str (ea_cons ev_str ea_nil))) (o_in b.un (.tup _) (by decide +kernel) (by decide +kernel))).to (k' := false) (by decide +kernel)) (ex_cons ?_)
    refine ex_ifT ((et_cmp (b.v 2) ev_str o_eqS).to (k' := true) (by decide +kernel)) ?_
    refine ex_cons (b.asg 3 (r := .dat (.bool true)) (ev_andT ((ev_cmp (b.len T.len (b.v 0) (.tup _)) ev_int o_eqI).to rfl) (ev_andT (b.call (ea_one (ev_ix (b.v 0) ev_int (fun _ _ => rfl) (.tup _) rfl)) (cal_isName T DI h.1) (by simp)) (ev_one ((ev_cmp (ev_ix (b.v 0) ev_int (fun _ _ => rfl) (.tup _) rfl) (b.v 1) (o_in b.un (.tup _) (hn x h.2).shaped (nms_lay hn))).to ?_)))) ?_)
    · rw [inD_str, decide_eq_true h.2]
    refine ex_nil (ex_nil (ex_cons ?_))
    exact ex_ifF (et_not (k := true) (et_val (b.v 3))) (ex_nil (ex_nil ⟨rfl, _, rfl, trivial⟩))
  | .nt f, kn, h, hn, hk => by
    simp only [Fo.ht] at hk
    have ih := @cal_chkForm T D DI f
    refine cal_of D scChkForm rfl (Nat.le_refl _) fun X b fn => ?_
    refine ex_cons ?_
    refine ex_ifF (et_w (ew_orF ((et_not (et_val (b.isi (t := "tuple") (m := true) T.isinstance T.tuple (b.v 0) (by rfl)))).to (k' := false) rfl) (ew_or1 ((et_not (et_tru (b.v 0) (by exact trivial))).to (k' := false) rfl)))) (ex_nil ?_)
    refine ex_cons (b.asg 2 (ev_ix (b.v 0) ev_int (fun _ _ => rfl) (.tup _) rfl) ?_)
    refine ex_cons ?_
    refine ex_ifF ((et_cmp (b.v 2) (ev_tup (ds := [.str "before", .str "same"]) (ea_cons ev_str (ea_cons ev_str ea_nil))) (o_in b.un (.tup _) (by decide +kernel) (by decide +kernel))).to (k' := false) (by decide +kernel)) (ex_cons ?_)
    refine ex_ifF ((et_cmp (b.v 2) ev_str o_eqS).to (k' := false) (by decide +kernel)) (ex_cons ?_)
    refine ex_ifF ((et_cmp (b.v 2) (b.kc T.turns) (o_in b.un (.tup _) (by decide +kernel) (by decide +kernel))).to (k' := false) (by decide +kernel)) ?_
    refine ex_cons (b.asg 4 (r := .dat (.int 2)) (ev_mn b rfl (b.v 2) (by rfl)) ?_)
    refine ex_cons (b.asg 3 (r := .dat (.bool true)) ((ev_cmp (b.len T.len (b.v 0) (.tup _)) (b.v 4) o_eqI).to rfl) ?_)
    refine ex_cons (ex_ifT (et_val (b.v 3)) (ex_cons ?_))
    refine ex_for b.hp b.calm (it_tup (ev_slT (b.v 0) (eo_some ev_int) eo_none)) (fun i Γ μ => ∃ x5, Γ = [some (.dat (fD (.nt f))), some (.dat (knD kn)), some (.dat (.str "not")), some (.dat (.bool true)), some (.dat (.int 2)), x5] ∧ μ = []) ⟨_, rfl, rfl⟩ (fun _ _ _ _ => trivial) ?_ ?_
    · rintro i d Γ μ hi ⟨x5, rfl, rfl⟩
      have hi' : ([fD f] : List PyData)[i]? = some d := hi
      refine ⟨_, _, b.tg 5, ?_⟩
      have hc : Cal false M ((.nt f : Fo).ht + 1) "check_order_formula" [.dat d, .dat (knD kn)] [] (.dat .none) [] := by
        match i, hi' with
        | 0, hi' => cases hi'; exact (ih h hn (by omega)).mono (by simp [Fo.ht])
      exact ex_cons (ex_expr (b.call (ea_cons (b.v 5) (ea_one (b.v 1))) hc (Nat.le_refl _)) (ex_nil ⟨_, rfl, rfl⟩))
    · rintro Γ μ ⟨x5, rfl, rfl⟩
      refine ex_nil (ex_nil (ex_nil (ex_nil (ex_cons ?_))))
      exact ex_ifF (et_not (k := true) (et_val (b.v 3))) (ex_nil (ex_nil ⟨rfl, _, rfl, trivial⟩))
  | .an f g, kn, h, hn, hk => by
    simp only [Fo.ht] at hk
    have ih := @cal_chkForm T D DI f
    have ih2 := @cal_chkForm T D DI g
    refine cal_of D scChkForm rfl (Nat.le_refl _) fun X b fn => ?_
    refine ex_cons ?_
    refine ex_ifF (et_w (ew_orF ((et_not (et_val (b.isi (t := "tuple") (m := true) T.isinstance T.tuple (b.v 0) (by rfl)))).to (k' := false) rfl) (ew_or1 ((et_not (et_tru (b.v 0) (by exact trivial))).to (k' := false) rfl)))) (ex_nil ?_)
    refine ex_cons (b.asg 2 (ev_ix (b.v 0) ev_int (fun _ _ => rfl) (.tup _) rfl) ?_)
    refine ex_cons ?_
    refine ex_ifF ((et_cmp (b.v 2) (ev_tup (ds := [.str "before", .str "same"]) (ea_cons ev_str (ea_cons ev_str ea_nil))) (o_in b.un (.tup _) (by decide +kernel) (by decide +kernel))).to (k' := false) (by decide +kernel)) (ex_cons ?_)
    refine ex_ifF ((et_cmp (b.v 2) ev_str o_eqS).to (k' := false) (by decide +kernel)) (ex_cons ?_)
    refine ex_ifF ((et_cmp (b.v 2) (b.kc T.turns) (o_in b.un (.tup _) (by decide +kernel) (by decide +kernel))).to (k' := false) (by decide +kernel)) ?_
    refine ex_cons (b.asg 4 (r := .dat (.int 3)) (ev_mn b rfl (b.v 2) (by rfl)) ?_)
    refine ex_cons (b.asg 3 (r := .dat (.bool true)) ((ev_cmp (b.len T.len (b.v 0) (.tup _)) (b.v 4) o_eqI).to rfl) ?_)
    refine ex_cons (ex_ifT (et_val (b.v 3)) (ex_cons ?_))
    refine ex_for b.hp b.calm (it_tup (ev_slT (b.v 0) (eo_some ev_int) eo_none)) (fun i Γ μ => ∃ x5, Γ = [some (.dat (fD (.an f g))), some (.dat (knD kn)), some (.dat (.str "and")), some (.dat (.bool true)), some (.dat (.int 3)), x5] ∧ μ = []) ⟨_, rfl, rfl⟩ (fun _ _ _ _ => trivial) ?_ ?_
    · rintro i d Γ μ hi ⟨x5, rfl, rfl⟩
      have hi' : ([fD f, fD g] : List PyData)[i]? = some d := hi
      refine ⟨_, _, b.tg 5, ?_⟩
      have hc : Cal false M ((.an f g : Fo).ht + 1) "check_order_formula" [.dat d, .dat (knD kn)] [] (.dat .none) [] := by
        match i, hi' with
        | 0, hi' => cases hi'; exact (ih h.1 hn (by omega)).mono (by simp [Fo.ht]; omega)
        | 1, hi' => cases hi'; exact (ih2 h.2 hn (by omega)).mono (by simp [Fo.ht]; omega)
      exact ex_cons (ex_expr (b.call (ea_cons (b.v 5) (ea_one (b.v 1))) hc (Nat.le_refl _)) (ex_nil ⟨_, rfl, rfl⟩))
    · rintro Γ μ ⟨x5, rfl, rfl⟩
      refine ex_nil (ex_nil (ex_nil (ex_nil (ex_cons ?_))))
      exact ex_ifF (et_not (k := true) (et_val (b.v 3))) (ex_nil (ex_nil ⟨rfl, _, rfl, trivial⟩))
  | .im f g, kn, h, hn, hk => by
    simp only [Fo.ht] at hk
    have ih := @cal_chkForm T D DI f
    have ih2 := @cal_chkForm T D DI g
    refine cal_of D scChkForm rfl (Nat.le_refl _) fun X b fn => ?_
    refine ex_cons ?_
    refine ex_ifF (et_w (ew_orF ((et_not (et_val (b.isi (t := "tuple") (m := true) T.isinstance T.tuple (b.v 0) (by rfl)))).to (k' := false) rfl) (ew_or1 ((et_not (et_tru (b.v 0) (by exact trivial))).to (k' := false) rfl)))) (ex_nil ?_)
    refine ex_cons (b.asg 2 (ev_ix (b.v 0) ev_int (fun _ _ => rfl) (.tup _) rfl) ?_)
    refine ex_cons ?_
    refine ex_ifF ((et_cmp (b.v 2) (ev_tup (ds := [.str "before", .str "same"]) (ea_cons ev_str (ea_cons ev_str ea_nil))) (o_in b.un (.tup _) (by decide +kernel) (by decide +kernel))).to (k' := false) (by decide +kernel)) (ex_cons ?_)
    refine ex_ifF ((et_cmp (b.v 2) ev_str o_eqS).to (k' := false) (by decide +kernel)) (ex_cons ?_)
    refine ex_ifF ((et_cmp (b.v 2) (b.kc T.turns) (o_in b.un (.tup _) (by decide +kernel) (by decide +kernel))).to (k' := false) (by decide +kernel)) ?_
    refine ex_cons (b.asg 4 (r := .dat (.int 3)) (ev_mn b rfl (b.v 2) (by rfl)) ?_)
    refine ex_cons (b.asg 3 (r := .dat (.bool true)) ((ev_cmp (b.len T.len (b.v 0) (.tup _)) (b.v 4) o_eqI).to rfl) ?_)
    refine ex_cons (ex_ifT (et_val (b.v 3)) (ex_cons ?_))
    refine ex_for b.hp b.calm (it_tup (ev_slT (b.v 0) (eo_some ev_int) eo_none)) (fun i Γ μ => ∃ x5, Γ = [some (.dat (fD (.im f g))), some (.dat (knD kn)), some (.dat (.str "implies")), some (.dat (.bool true)), some (.dat (.int 3)), x5] ∧ μ = []) ⟨_, rfl, rfl⟩ (fun _ _ _ _ => trivial) ?_ ?_
    · rintro i d Γ μ hi ⟨x5, rfl, rfl⟩
      have hi' : ([fD f, fD g] : List PyData)[i]? = some d := hi
      refine ⟨_, _, b.tg 5, ?_⟩
      have hc : Cal false M ((.im f g : Fo).ht + 1) "check_order_formula" [.dat d, .dat (knD kn)] [] (.dat .none) [] := by
        match i, hi' with
        | 0, hi' => cases hi'; exact (ih h.1 hn (by omega)).mono (by simp [Fo.ht]; omega)
        | 1, hi' => cases hi'; exact (ih2 h.2 hn (by omega)).mono (by simp [Fo.ht]; omega)
      exact ex_cons (ex_expr (b.call (ea_cons (b.v 5) (ea_one (b.v 1))) hc (Nat.le_refl _)) (ex_nil ⟨_, rfl, rfl⟩))
    · rintro Γ μ ⟨x5, rfl, rfl⟩
      refine ex_nil (ex_nil (ex_nil (ex_nil (ex_cons ?_))))
      exact ex_ifF (et_not (k := true) (et_val (b.v 3))) (ex_nil (ex_nil ⟨rfl, _, rfl, trivial⟩))
  | .sm x f, kn, h, hn, hk => by
    have ih := @cal_chkForm T D DI f
    refine cal_of D scChkForm rfl (Nat.le_refl _) fun X b fn => ?_
    refine ex_cons ?_
    refine ex_ifF (et_w (ew_orF ((et_not (et_val (b.isi (t := "tuple") (m := true) T.isinstance T.tuple (b.v 0) (by rfl)))).to (k' := false) rfl) (ew_or1 ((et_not (et_tru (b.v 0) (by exact trivial))).to (k' := false) rfl)))) (ex_nil ?_)
    refine ex_cons (b.asg 2 (ev_ix (b.v 0) ev_int (fun _ _ => rfl) (.tup _) rfl) ?_)
    refine ex_cons ?_
    refine ex_ifF ((et_cmp (b.v 2) (ev_tup (ds := [.str "before", .str "same"]) (ea_cons ev_str (ea_cons ev_str ea_nil))) (o_in b.un (.tup _) (by decide +kernel) (by decide +kernel))).to (k' := false) (by decide +kernel)) (ex_cons ?_)
    refine ex_ifF ((et_cmp (b.v 2) ev_str o_eqS).to (k' := false) (by decide +kernel)) (ex_cons ?_)
    refine ex_ifT ((et_cmp (b.v 2) (b.kc T.turns) (o_in b.un (.tup _) (by decide +kernel) (by decide +kernel))).to (k' := true) (by decide +kernel)) ?_
    refine ex_cons (b.asg 3 (r := .dat (.bool true)) (ev_andT ((ev_cmp (b.len T.len (b.v 0) (.tup _)) ev_int o_eqI).to rfl) (ev_one (b.call (ea_one (ev_ix (b.v 0) ev_int (fun _ _ => rfl) (.tup _) rfl)) (cal_isName T DI h.1) (by simp)))) ?_)
    simp only [Fo.ht] at hk
    have e : kn.map PyData.str ++ [.str x] = (kn ++ [x]).map .str := by simp
    refine ex_cons (ex_ifT (et_val (b.v 3)) (ex_cons (ex_expr (b.call (d := .none) (as := [.dat (fD f), .dat (knD (kn ++ [x]))]) (ea_cons (ev_ix (b.v 0) ev_int (fun _ _ => rfl) (.tup _) rfl) (ea_one ((ev_bin (b.v 1) (ev_tup (ds := [.str x]) (ea_one (ev_ix (b.v 0) ev_int (fun _ _ => rfl) (.tup _) rfl))) (o_catT ?_)).to (by rw [e]; rfl)))) (ih h.2 ?_ ?_) (by simp [Fo.ht])) (ex_nil ?_))))
    · rw [sizeLine_eq]; simp; omega
    · intro y hy
      rcases List.mem_append.mp hy with hy | hy
      · exact hn y hy
      · rw [List.mem_singleton] at hy; exact hy ▸ h.1
    · rw [List.length_append]; simp; omega
    refine ex_nil (ex_nil (ex_nil (ex_cons ?_)))
    exact ex_ifF (et_not (k := true) (et_val (b.v 3))) (ex_nil (ex_nil ⟨rfl, _, rfl, trivial⟩))
  | .ev x f, kn, h, hn, hk => by
    have ih := @cal_chkForm T D DI f
    refine cal_of D scChkForm rfl (Nat.le_refl _) fun X b fn => ?_
    refine ex_cons ?_
    refine ex_ifF (et_w (ew_orF ((et_not (et_val (b.isi (t := "tuple") (m := true) T.isinstance T.tuple (b.v 0) (by rfl)))).to (k' := false) rfl) (ew_or1 ((et_not (et_tru (b.v 0) (by exact trivial))).to (k' := false) rfl)))) (ex_nil ?_)
    refine ex_cons (b.asg 2 (ev_ix (b.v 0) ev_int (fun _ _ => rfl) (.tup _) rfl) ?_)
    refine ex_cons ?_
    refine ex_ifF ((et_cmp (b.v 2) (ev_tup (ds := [.str "before", .str "same"]) (ea_cons ev_str (ea_cons ev_str ea_nil))) (o_in b.un (.tup _) (by decide +kernel) (by decide +kernel))).to (k' := false) (by decide +kernel)) (ex_cons ?_)
    refine ex_ifF ((et_cmp (b.v 2) ev_str o_eqS).to (k' := false) (by decide +kernel)) (ex_cons ?_)
    refine ex_ifT ((et_cmp (b.v 2) (b.kc T.turns) (o_in b.un (.tup _) (by decide +kernel) (by decide +kernel))).to (k' := true) (by decide +kernel)) ?_
    refine ex_cons (b.asg 3 (r := .dat (.bool true)) (ev_andT ((ev_cmp (b.len T.len (b.v 0) (.tup _)) ev_int o_eqI).to rfl) (ev_one (b.call (ea_one (ev_ix (b.v 0) ev_int (fun _ _ => rfl) (.tup _) rfl)) (cal_isName T DI h.1) (by simp)))) ?_)
    simp only [Fo.ht] at hk
    have e : kn.map PyData.str ++ [.str x] = (kn ++ [x]).map .str := by simp
    refine ex_cons (ex_ifT (et_val (b.v 3)) (ex_cons (ex_expr (b.call (d := .none) (as := [.dat (fD f), .dat (knD (kn ++ [x]))]) (ea_cons (ev_ix (b.v 0) ev_int (fun _ _ => rfl) (.tup _) rfl) (ea_one ((ev_bin (b.v 1) (ev_tup (ds := [.str x]) (ea_one (ev_ix (b.v 0) ev_int (fun _ _ => rfl) (.tup _) rfl))) (o_catT ?_)).to (by rw [e]; rfl)))) (ih h.2 ?_ ?_) (by simp [Fo.ht])) (ex_nil ?_))))
    · rw [sizeLine_eq]; simp; omega
    · intro y hy
      rcases List.mem_append.mp hy with hy | hy
      · exact hn y hy
      · rw [List.mem_singleton] at hy; exact hy ▸ h.1
    · rw [List.length_append]; simp; omega
    refine ex_nil (ex_nil (ex_nil (ex_cons ?_)))
    exact ex_ifF (et_not (k := true) (et_val (b.v 3))) (ex_nil (ex_nil ⟨rfl, _, rfl, trivial⟩))
end
end DL
set_option maxHeartbeats 2000000
/-! rounds_of, joined_truth, with_place. -/
namespace DL
open PySem PySem.Spec PyProof.Rows L2
def nRounds : List Str := ["formula", "inner", "part"]
theorem scRounds : FnScope nRounds ["formula"] (defScope sRoundsOf) := ⟨rfl, rfl, rfl, by decide +kernel, rfl, by decide +kernel, by decide +kernel⟩
def nWithP : List Str := ["places", "name", "place", "found"]
theorem scWithP : FnScope nWithP ["places", "name", "place"] (defScope sWithP) := ⟨rfl, rfl, rfl, by decide +kernel, rfl, by decide +kernel, by decide +kernel⟩
def nJoined : List Str := ["word", "truths"]
theorem scJoined : FnScope nJoined ["word", "truths"] (defScope sJoined) := ⟨rfl, rfl, rfl, by decide +kernel, rfl, by decide +kernel, by decide +kernel⟩
section
variable {M : Mc}
theorem cal_withP (T : Tx M) (D : Df M "with_place" "with_place" sWithP ["places", "name", "place"]) {kvs : KP} {x : Str} {d : PyData} (hz : kvs.length ≤ 1000) : Cal false M 1 "with_place" [.loc 0, .dat (.str x), .dat d] [.dK kvs] (.loc 1) [.dK kvs, .dK (putP kvs (.inr x) d)] := by
  refine cal_of D scWithP rfl (by simp) fun X b fn => ?_
  refine ex_cons (b.asg 3 (b.dict T.dict (b.v 0) rfl) ?_)
  refine ex_cons (ex_putK b.un4 (b.v 2) (b.v 3) (b.v 1) rfl (.str x) (by rw [sizeLine_eq]; omega) ?_)
  refine ex_cons (ex_ret (b.v 3) ⟨rfl, [], rfl, ?_⟩)
  show 1 < 2
  decide
theorem cal_jNot (T : Tx M) (D : Df M "joined_truth" "joined_truth" sJoined ["word", "truths"]) {p : Bool} : Cal false M 1 "joined_truth" [.dat (.str "not"), .dat (.list [.bool p])] [] (.dat (.bool (!p))) [] := by
  refine cal_of D scJoined rfl (by simp) fun X b fn => ?_
  refine ex_cons (ex_ifT ((et_cmp (b.v 0) ev_str o_eqS).to (k' := true) (by decide +kernel)) ?_)
  exact ex_cons (ex_ret (ev_not (ev_ix (b.v 1) ev_int (fun _ _ => rfl) (.lst (.dat _)) rfl)) ⟨rfl, _, rfl, trivial⟩)
theorem cal_jAnd (T : Tx M) (D : Df M "joined_truth" "joined_truth" sJoined ["word", "truths"]) {p q : Bool} : Cal false M 1 "joined_truth" [.dat (.str "and"), .dat (.list [.bool p, .bool q])] [] (.dat (.bool (p && q))) [] := by
  refine cal_of D scJoined rfl (by simp) fun X b fn => ?_
  refine ex_cons (ex_ifF ((et_cmp (b.v 0) ev_str o_eqS).to (k' := false) (by decide +kernel)) (ex_nil ?_))
  refine ex_cons (ex_ifT ((et_cmp (b.v 0) ev_str o_eqS).to (k' := true) (by decide +kernel)) ?_)
  exact ex_cons (ex_ret (ev_and (ev_ix (b.v 1) ev_int (fun _ _ => rfl) (.lst (.dat _)) rfl) (fun _ => ev_one (ev_ix (b.v 1) ev_int (fun _ _ => rfl) (.lst (.dat _)) rfl))) ⟨rfl, _, rfl, trivial⟩)
theorem cal_jImp (T : Tx M) (D : Df M "joined_truth" "joined_truth" sJoined ["word", "truths"]) {p q : Bool} : Cal false M 1 "joined_truth" [.dat (.str "implies"), .dat (.list [.bool p, .bool q])] [] (.dat (.bool (!p || q))) [] := by
  refine cal_of D scJoined rfl (by simp) fun X b fn => ?_
  refine ex_cons (ex_ifF ((et_cmp (b.v 0) ev_str o_eqS).to (k' := false) (by decide +kernel)) (ex_nil ?_))
  refine ex_cons (ex_ifF ((et_cmp (b.v 0) ev_str o_eqS).to (k' := false) (by decide +kernel)) (ex_nil ?_))
  exact ex_cons (ex_ret (ev_ifF ((et_cmp (b.v 0) ev_str o_eqS).to (k' := false) (by decide +kernel)) (ev_or (ev_not (ev_ix (b.v 1) ev_int (fun _ _ => rfl) (.lst (.dat _)) rfl)) (fun _ => ev_one (ev_ix (b.v 1) ev_int (fun _ _ => rfl) (.lst (.dat _)) rfl)))) ⟨rfl, _, rfl, trivial⟩)
theorem cal_rounds (T : Tx M) (D : Df M "rounds_of" "rounds_of" sRoundsOf ["formula"]) : ∀ (f : Fo), Cal false M (f.ht + 1) "rounds_of" [.dat (fD f)] [] (.dat (.int (f.qd : Nat))) []
  | .bf x y => by
    refine cal_of D scRounds rfl (by simp) fun X b fn => ?_
    refine ex_cons (ex_ifT ((et_cmp (ev_ix (d := .str "before") (b.v 0) ev_int (fun _ _ => rfl) (.tup _) rfl) (ev_tup (ds := [.str "before", .str "same", .str "colour", .str "true", .str "false"]) (ea_cons ev_str (ea_cons ev_str (ea_cons ev_str (ea_cons ev_str (ea_cons ev_str ea_nil)))))) (o_in b.un (.tup _) (by decide +kernel) (by decide +kernel))).to (k' := true) (by decide +kernel)) ?_)
    exact ex_cons (ex_ret ev_int ⟨rfl, _, rfl, trivial⟩)
  | .cl c x => by
    refine cal_of D scRounds rfl (by simp) fun X b fn => ?_
    refine ex_cons (ex_ifT ((et_cmp (ev_ix (d := .str "colour") (b.v 0) ev_int (fun _ _ => rfl) (.tup _) rfl) (ev_tup (ds := [.str "before", .str "same", .str "colour", .str "true", .str "false"]) (ea_cons ev_str (ea_cons ev_str (ea_cons ev_str (ea_cons ev_str (ea_cons ev_str ea_nil)))))) (o_in b.un (.tup _) (by decide +kernel) (by decide +kernel))).to (k' := true) (by decide +kernel)) ?_)
    exact ex_cons (ex_ret ev_int ⟨rfl, _, rfl, trivial⟩)
  | .nt f => by
    have ih0 := cal_rounds T D f
    refine cal_of D scRounds rfl (by simp) fun X b fn => ?_
    refine ex_cons (ex_ifF ((et_cmp (ev_ix (d := .str "not") (b.v 0) ev_int (fun _ _ => rfl) (.tup _) rfl) (ev_tup (ds := [.str "before", .str "same", .str "colour", .str "true", .str "false"]) (ea_cons ev_str (ea_cons ev_str (ea_cons ev_str (ea_cons ev_str (ea_cons ev_str ea_nil)))))) (o_in b.un (.tup _) (by decide +kernel) (by decide +kernel))).to (k' := false) (by decide +kernel)) (ex_nil ?_))
    refine ex_cons (b.asg 1 (EvE.dat (ν := [_]) (b.max T.max (ns := [(f.qd : Nat)]) (b.map (ys := [.int (f.qd : Nat)]) (own := [("part", 2)]) (it_tup (ev_slT (b.v 0) (eo_some (ev_ifF ((et_cmp (ev_ix (d := .str "not") (b.v 0) ev_int (fun _ _ => rfl) (.tup _) rfl) (b.kc T.turns) (o_in b.un (.tup _) (by decide +kernel) (by decide +kernel))).to (k' := false) (by decide +kernel)) (ev_int (i := 1)))) eo_none)) (by decide +kernel) trivial (by first | (show (1 : Nat) ≤ 10000; decide) | (show (2 : Nat) ≤ 10000; decide)) rfl ?_) (.loc rfl) (Nat.succ_pos _))) ?_)
    · intro i d y hd hy
      have hd' : ([fD f] : List PyData)[i]? = some d := hd
      clear hd
      match i, hd', hy with
      | 0, hd, hy => cases hd; cases hy; exact turn_one (fun z => (b.blk z).tg 2) (fun z => (b.blk z).call (ea_one ((b.blk z).v 2)) ih0 (by simp [Fo.ht]))
      | i + 1, hd, hy => cases hy
    refine ex_cons (ex_ret (ev_bin (b.v 1) (ev_cmp (ev_ix (d := .str "not") (b.v 0) ev_int (fun _ _ => rfl) (.tup _) rfl) (b.kc T.turns) (o_in b.un (.tup _) (by decide +kernel) (by decide +kernel))) o_addb) ⟨congrArg (fun z => AV.dat (.int z)) ?_, _, rfl, trivial⟩)
    rw [show inD (.str "not") [.str "every", .str "some"] = false from by decide +kernel]
    simp [maxL, Fo.qd, b2i]
  | .an f g => by
    have ih0 := cal_rounds T D f
    have ih1 := cal_rounds T D g
    refine cal_of D scRounds rfl (by simp) fun X b fn => ?_
    refine ex_cons (ex_ifF ((et_cmp (ev_ix (d := .str "and") (b.v 0) ev_int (fun _ _ => rfl) (.tup _) rfl) (ev_tup (ds := [.str "before", .str "same", .str "colour", .str "true", .str "false"]) (ea_cons ev_str (ea_cons ev_str (ea_cons ev_str (ea_cons ev_str (ea_cons ev_str ea_nil)))))) (o_in b.un (.tup _) (by decide +kernel) (by decide +kernel))).to (k' := false) (by decide +kernel)) (ex_nil ?_))
    refine ex_cons (b.asg 1 (EvE.dat (ν := [_]) (b.max T.max (ns := [(f.qd : Nat), (g.qd : Nat)]) (b.map (ys := [.int (f.qd : Nat), .int (g.qd : Nat)]) (own := [("part", 2)]) (it_tup (ev_slT (b.v 0) (eo_some (ev_ifF ((et_cmp (ev_ix (d := .str "and") (b.v 0) ev_int (fun _ _ => rfl) (.tup _) rfl) (b.kc T.turns) (o_in b.un (.tup _) (by decide +kernel) (by decide +kernel))).to (k' := false) (by decide +kernel)) (ev_int (i := 1)))) eo_none)) (by decide +kernel) trivial (by first | (show (1 : Nat) ≤ 10000; decide) | (show (2 : Nat) ≤ 10000; decide)) rfl ?_) (.loc rfl) (Nat.succ_pos _))) ?_)
    · intro i d y hd hy
      have hd' : ([fD f, fD g] : List PyData)[i]? = some d := hd
      clear hd
      match i, hd', hy with
      | 0, hd, hy => cases hd; cases hy; exact turn_one (fun z => (b.blk z).tg 2) (fun z => (b.blk z).call (ea_one ((b.blk z).v 2)) ih0 (by simp [Fo.ht]; omega))
      | 1, hd, hy => cases hd; cases hy; exact turn_one (fun z => (b.blk z).tg 2) (fun z => (b.blk z).call (ea_one ((b.blk z).v 2)) ih1 (by simp [Fo.ht]; omega))
      | i + 2, hd, hy => cases hy
    refine ex_cons (ex_ret (ev_bin (b.v 1) (ev_cmp (ev_ix (d := .str "and") (b.v 0) ev_int (fun _ _ => rfl) (.tup _) rfl) (b.kc T.turns) (o_in b.un (.tup _) (by decide +kernel) (by decide +kernel))) o_addb) ⟨congrArg (fun z => AV.dat (.int z)) ?_, _, rfl, trivial⟩)
    rw [show inD (.str "and") [.str "every", .str "some"] = false from by decide +kernel]
    simp [maxL, Fo.qd, b2i]
    try omega
  | .im f g => by
    have ih0 := cal_rounds T D f
    have ih1 := cal_rounds T D g
    refine cal_of D scRounds rfl (by simp) fun X b fn => ?_
    refine ex_cons (ex_ifF ((et_cmp (ev_ix (d := .str "implies") (b.v 0) ev_int (fun _ _ => rfl) (.tup _) rfl) (ev_tup (ds := [.str "before", .str "same", .str "colour", .str "true", .str "false"]) (ea_cons ev_str (ea_cons ev_str (ea_cons ev_str (ea_cons ev_str (ea_cons ev_str ea_nil)))))) (o_in b.un (.tup _) (by decide +kernel) (by decide +kernel))).to (k' := false) (by decide +kernel)) (ex_nil ?_))
    refine ex_cons (b.asg 1 (EvE.dat (ν := [_]) (b.max T.max (ns := [(f.qd : Nat), (g.qd : Nat)]) (b.map (ys := [.int (f.qd : Nat), .int (g.qd : Nat)]) (own := [("part", 2)]) (it_tup (ev_slT (b.v 0) (eo_some (ev_ifF ((et_cmp (ev_ix (d := .str "implies") (b.v 0) ev_int (fun _ _ => rfl) (.tup _) rfl) (b.kc T.turns) (o_in b.un (.tup _) (by decide +kernel) (by decide +kernel))).to (k' := false) (by decide +kernel)) (ev_int (i := 1)))) eo_none)) (by decide +kernel) trivial (by first | (show (1 : Nat) ≤ 10000; decide) | (show (2 : Nat) ≤ 10000; decide)) rfl ?_) (.loc rfl) (Nat.succ_pos _))) ?_)
    · intro i d y hd hy
      have hd' : ([fD f, fD g] : List PyData)[i]? = some d := hd
      clear hd
      match i, hd', hy with
      | 0, hd, hy => cases hd; cases hy; exact turn_one (fun z => (b.blk z).tg 2) (fun z => (b.blk z).call (ea_one ((b.blk z).v 2)) ih0 (by simp [Fo.ht]; omega))
      | 1, hd, hy => cases hd; cases hy; exact turn_one (fun z => (b.blk z).tg 2) (fun z => (b.blk z).call (ea_one ((b.blk z).v 2)) ih1 (by simp [Fo.ht]; omega))
      | i + 2, hd, hy => cases hy
    refine ex_cons (ex_ret (ev_bin (b.v 1) (ev_cmp (ev_ix (d := .str "implies") (b.v 0) ev_int (fun _ _ => rfl) (.tup _) rfl) (b.kc T.turns) (o_in b.un (.tup _) (by decide +kernel) (by decide +kernel))) o_addb) ⟨congrArg (fun z => AV.dat (.int z)) ?_, _, rfl, trivial⟩)
    rw [show inD (.str "implies") [.str "every", .str "some"] = false from by decide +kernel]
    simp [maxL, Fo.qd, b2i]
    try omega
  | .sm x f => by
    have ih0 := cal_rounds T D f
    refine cal_of D scRounds rfl (by simp) fun X b fn => ?_
    refine ex_cons (ex_ifF ((et_cmp (ev_ix (d := .str "some") (b.v 0) ev_int (fun _ _ => rfl) (.tup _) rfl) (ev_tup (ds := [.str "before", .str "same", .str "colour", .str "true", .str "false"]) (ea_cons ev_str (ea_cons ev_str (ea_cons ev_str (ea_cons ev_str (ea_cons ev_str ea_nil)))))) (o_in b.un (.tup _) (by decide +kernel) (by decide +kernel))).to (k' := false) (by decide +kernel)) (ex_nil ?_))
    refine ex_cons (b.asg 1 (EvE.dat (ν := [_]) (b.max T.max (ns := [(f.qd : Nat)]) (b.map (ys := [.int (f.qd : Nat)]) (own := [("part", 2)]) (it_tup (ev_slT (b.v 0) (eo_some (ev_ifT ((et_cmp (ev_ix (d := .str "some") (b.v 0) ev_int (fun _ _ => rfl) (.tup _) rfl) (b.kc T.turns) (o_in b.un (.tup _) (by decide +kernel) (by decide +kernel))).to (k' := true) (by decide +kernel)) (ev_int (i := 2)))) eo_none)) (by decide +kernel) trivial (by first | (show (1 : Nat) ≤ 10000; decide) | (show (2 : Nat) ≤ 10000; decide)) rfl ?_) (.loc rfl) (Nat.succ_pos _))) ?_)
    · intro i d y hd hy
      have hd' : ([fD f] : List PyData)[i]? = some d := hd
      clear hd
      match i, hd', hy with
      | 0, hd, hy => cases hd; cases hy; exact turn_one (fun z => (b.blk z).tg 2) (fun z => (b.blk z).call (ea_one ((b.blk z).v 2)) ih0 (by simp [Fo.ht]))
      | i + 1, hd, hy => cases hy
    refine ex_cons (ex_ret (ev_bin (b.v 1) (ev_cmp (ev_ix (d := .str "some") (b.v 0) ev_int (fun _ _ => rfl) (.tup _) rfl) (b.kc T.turns) (o_in b.un (.tup _) (by decide +kernel) (by decide +kernel))) o_addb) ⟨congrArg (fun z => AV.dat (.int z)) ?_, _, rfl, trivial⟩)
    rw [show inD (.str "some") [.str "every", .str "some"] = true from by decide +kernel]
    simp [maxL, Fo.qd, b2i]
  | .ev x f => by
    have ih0 := cal_rounds T D f
    refine cal_of D scRounds rfl (by simp) fun X b fn => ?_
    refine ex_cons (ex_ifF ((et_cmp (ev_ix (d := .str "every") (b.v 0) ev_int (fun _ _ => rfl) (.tup _) rfl) (ev_tup (ds := [.str "before", .str "same", .str "colour", .str "true", .str "false"]) (ea_cons ev_str (ea_cons ev_str (ea_cons ev_str (ea_cons ev_str (ea_cons ev_str ea_nil)))))) (o_in b.un (.tup _) (by decide +kernel) (by decide +kernel))).to (k' := false) (by decide +kernel)) (ex_nil ?_))
    refine ex_cons (b.asg 1 (EvE.dat (ν := [_]) (b.max T.max (ns := [(f.qd : Nat)]) (b.map (ys := [.int (f.qd : Nat)]) (own := [("part", 2)]) (it_tup (ev_slT (b.v 0) (eo_some (ev_ifT ((et_cmp (ev_ix (d := .str "every") (b.v 0) ev_int (fun _ _ => rfl) (.tup _) rfl) (b.kc T.turns) (o_in b.un (.tup _) (by decide +kernel) (by decide +kernel))).to (k' := true) (by decide +kernel)) (ev_int (i := 2)))) eo_none)) (by decide +kernel) trivial (by first | (show (1 : Nat) ≤ 10000; decide) | (show (2 : Nat) ≤ 10000; decide)) rfl ?_) (.loc rfl) (Nat.succ_pos _))) ?_)
    · intro i d y hd hy
      have hd' : ([fD f] : List PyData)[i]? = some d := hd
      clear hd
      match i, hd', hy with
      | 0, hd, hy => cases hd; cases hy; exact turn_one (fun z => (b.blk z).tg 2) (fun z => (b.blk z).call (ea_one ((b.blk z).v 2)) ih0 (by simp [Fo.ht]))
      | i + 1, hd, hy => cases hy
    refine ex_cons (ex_ret (ev_bin (b.v 1) (ev_cmp (ev_ix (d := .str "every") (b.v 0) ev_int (fun _ _ => rfl) (.tup _) rfl) (b.kc T.turns) (o_in b.un (.tup _) (by decide +kernel) (by decide +kernel))) o_addb) ⟨congrArg (fun z => AV.dat (.int z)) ?_, _, rfl, trivial⟩)
    rw [show inD (.str "every") [.str "every", .str "some"] = true from by decide +kernel]
    simp [maxL, Fo.qd, b2i]
end
end DL
set_option maxHeartbeats 2000000
/-! word_truth, holds_of_word. -/
namespace DL
open PySem PySem.Spec PyProof.Rows L2
def up (ρ : Str → Nat) (x : Str) (i : Nat) : Str → Nat := fun y => if y = x then i else ρ y
/-- the truth of a formula about a word -/
def Fo.tr (w : Wo) : (Str → Nat) → Fo → Bool
  | ρ, .bf x y => decide (ρ x < ρ y)
  | ρ, .cl c x => decide (w[ρ x]? = some c)
  | ρ, .nt f => !f.tr w ρ
  | ρ, .an f g => f.tr w ρ && g.tr w ρ
  | ρ, .im f g => !f.tr w ρ || g.tr w ρ
  | ρ, .sm x f => (List.range w.length).any fun i => f.tr w (up ρ x i)
  | ρ, .ev x f => (List.range w.length).all fun i => f.tr w (up ρ x i)
structure En (w : Wo) (kn : List Str) (ρ : Str → Nat) (kvs : KP) : Prop where
  get : ∀ x ∈ kn, valP kvs (.inr x) = some (.int (ρ x : Nat))
  lt : ∀ x ∈ kn, ρ x < w.length
  len : kvs.length ≤ kn.length
theorem valP_cons (p : Key × PyData) (kvs : KP) (k : Key) : valP (p :: kvs) k = if p.1 = k then some p.2 else valP kvs k := by
  by_cases e : p.1 = k
  · rw [if_pos e]; simp only [valP, List.find?_cons, decide_eq_true e, Option.map_some]
  · rw [if_neg e]; simp only [valP, List.find?_cons, decide_eq_false e]
theorem valP_put (kvs : KP) (k k' : Key) (v : PyData) : valP (putP kvs k v) k' = if k = k' then some v else valP kvs k' := by
  have a1 : ∀ kvs : KP, valP (kvs.map fun kv => if kv.1 = k then (kv.1, v) else kv) k' = if k = k' then (if (kvs.any fun kv => decide (kv.1 = k)) = true then some v else none) else valP kvs k' := by
    intro kvs
    induction kvs with
    | nil => simp [valP]
    | cons p kvs ih =>
      rw [List.map_cons, valP_cons, ih, valP_cons, List.any_cons]
      by_cases q : p.1 = k
      · rw [if_pos q, decide_eq_true q, Bool.true_or, if_pos rfl]
        by_cases e : k = k'
        · rw [if_pos (q.trans e), if_pos e]
        · rw [if_neg (fun z => e (q.symm.trans z)), if_neg e, if_neg e, if_neg (fun z => e (q.symm.trans z))]
      · rw [if_neg q, decide_eq_false q, Bool.false_or]
        by_cases e : k = k'
        · rw [if_neg (fun z => q (z.trans e.symm)), if_pos e, if_pos e]
        · rw [if_neg e, if_neg e]
  have a2 : ∀ kvs : KP, (kvs.any fun kv => decide (kv.1 = k)) = false → valP (kvs ++ [(k, v)]) k' = if k = k' then some v else valP kvs k' := by
    intro kvs
    induction kvs with
    | nil => intro _; rw [List.nil_append, valP_cons]
    | cons p kvs ih =>
      intro h
      rw [List.any_cons, Bool.or_eq_false_iff] at h
      have q : ¬ p.1 = k := of_decide_eq_false h.1
      rw [List.cons_append, valP_cons, ih h.2, valP_cons]
      by_cases e : k = k'
      · rw [if_neg (fun z => q (z.trans e.symm)), if_pos e, if_pos e]
      · rw [if_neg e, if_neg e]
  unfold putP
  by_cases h : (kvs.any fun kv => decide (kv.1 = k)) = true
  · rw [if_pos h, a1, if_pos h]
  · rw [if_neg h, a2 kvs (Bool.eq_false_iff.mpr h)]
theorem En.put {w : Wo} {kn : List Str} {ρ : Str → Nat} {kvs : KP} (h : En w kn ρ kvs) (x : Str) {i : Nat} (hi : i < w.length) : En w (kn ++ [x]) (up ρ x i) (putP kvs (.inr x) (.int (i : Nat))) where
  get := fun y hy => by
    rw [valP_put]
    unfold up
    by_cases e : x = y
    · subst e; simp
    · have e' : ¬ y = x := fun z => e z.symm
      have : ¬ (Sum.inr x : Key) = .inr y := fun z => e (Sum.inr.inj z)
      rw [if_neg this, if_neg e']
      rcases List.mem_append.mp hy with hy | hy
      · exact h.get y hy
      · rw [List.mem_singleton] at hy; exact absurd hy.symm e
  lt := fun y hy => by
    unfold up
    by_cases e : y = x
    · rw [if_pos e]; exact hi
    · rw [if_neg e]
      rcases List.mem_append.mp hy with hy | hy
      · exact h.lt y hy
      · rw [List.mem_singleton] at hy; exact absurd hy e
  len := by
    have := putP_len kvs (.inr x) (.int (i : Nat))
    have := h.len
    rw [List.length_append, List.length_singleton]; omega
theorem atI_nat {α : Type} {xs : List α} {i : Nat} {x : α} (h : xs[i]? = some x) : atI xs (i : Int) = some x := by
  have hi := (List.getElem?_eq_some_iff.mp h).1
  unfold atI ixN
  rw [if_pos (by omega), if_pos (by omega)]
  exact h
def nWTruth : List Str := ["word", "formula", "places", "head", "found", "place", "part"]
theorem scWTruth : FnScope nWTruth ["word", "formula", "places"] (defScope sWTruth) := ⟨rfl, rfl, rfl, by decide +kernel, rfl, by decide +kernel, by decide +kernel⟩
section
variable {M : Mc}
theorem cal_wTruth (T : Tx M) (D : Df M "word_truth" "word_truth" sWTruth ["word", "formula", "places"]) (DP : Df M "with_place" "with_place" sWithP ["places", "name", "place"]) (DJ : Df M "joined_truth" "joined_truth" sJoined ["word", "truths"]) {w : Wo} (hw : w.length ≤ 1000) :
    ∀ (f : Fo) {kn : List Str} {ρ : Str → Nat} {kvs : KP}, f.wf kn → En w kn ρ kvs → kn.length + f.ht ≤ 1000 → Cal false M (f.ht + 2) "word_truth" [.dat (wD w), .dat (fD f), .loc 0] [.dK kvs] (.dat (.bool (f.tr w ρ))) [.dK kvs]
  | .bf x y, kn, ρ, kvs, h, hE, hk => by
    refine cal_of D scWTruth rfl (by simp) fun X b fn => ?_
    refine ex_cons (b.asg 3 (r := .dat (.str "before")) (ev_ix (b.v 1) ev_int (fun _ _ => rfl) (.tup _) rfl) ?_)
    refine ex_cons (ex_ifT ((et_cmp (b.v 3) ev_str o_eqS).to (k' := true) (by decide +kernel)) ?_)
    refine ex_cons (ex_ret (ev_cmp (ev_getK b.un4 (b.v 2) (ev_ix (b.v 1) ev_int (fun _ _ => rfl) (.tup _) rfl) (fun _ _ => rfl) rfl (.str x) (hE.get x h.1)) (ev_getK b.un4 (b.v 2) (ev_ix (b.v 1) ev_int (fun _ _ => rfl) (.tup _) rfl) (fun _ _ => rfl) rfl (.str y) (hE.get y h.2)) o_lt) ⟨?_, _, rfl, trivial⟩)
    simp [Fo.tr]
  | .cl c x, kn, ρ, kvs, h, hE, hk => by
    refine cal_of D scWTruth rfl (by simp) fun X b fn => ?_
    refine ex_cons (b.asg 3 (r := .dat (.str "colour")) (ev_ix (b.v 1) ev_int (fun _ _ => rfl) (.tup _) rfl) ?_)
    refine ex_cons (ex_ifF ((et_cmp (b.v 3) ev_str o_eqS).to (k' := false) (by decide +kernel)) (ex_nil ?_))
    refine ex_cons (ex_ifF ((et_cmp (b.v 3) ev_str o_eqS).to (k' := false) (by decide +kernel)) (ex_nil ?_))
    refine ex_cons (ex_ifT ((et_cmp (b.v 3) ev_str o_eqS).to (k' := true) (by decide +kernel)) ?_)
    have hlt := hE.lt x h.2
    refine ex_cons (ex_ret (ev_cmp (ev_ix (d := .str w[ρ x]) (ds := w.map .str) (b.v 0) (ev_getK b.un4 (b.v 2) (ev_ix (b.v 1) ev_int (fun _ _ => rfl) (.tup _) rfl) (fun _ _ => rfl) rfl (.str x) (hE.get x h.2)) (fun _ _ => rfl) (.tup _) ?_) (ev_ix (b.v 1) ev_int (fun _ _ => rfl) (.tup _) rfl) o_eqS) ⟨?_, _, rfl, trivial⟩)
    · exact atI_nat (by rw [List.getElem?_map, List.getElem?_eq_getElem hlt]; rfl)
    · simp [Fo.tr, hlt]
  | .nt f, kn, ρ, kvs, h, hE, hk => by
    simp only [Fo.ht] at hk
    have ih0 := cal_wTruth T D DP DJ hw f h hE (by omega)
    refine cal_of D scWTruth rfl (by simp) fun X b fn => ?_
    refine ex_cons (b.asg 3 (r := .dat (.str "not")) (ev_ix (b.v 1) ev_int (fun _ _ => rfl) (.tup _) rfl) ?_)
    refine ex_cons (ex_ifF ((et_cmp (b.v 3) ev_str o_eqS).to (k' := false) (by decide +kernel)) (ex_nil ?_))
    refine ex_cons (ex_ifF ((et_cmp (b.v 3) ev_str o_eqS).to (k' := false) (by decide +kernel)) (ex_nil ?_))
    refine ex_cons (ex_ifF ((et_cmp (b.v 3) ev_str o_eqS).to (k' := false) (by decide +kernel)) (ex_nil ?_))
    refine ex_cons (ex_ifF ((et_cmp (b.v 3) (ev_tup (ds := [.str "true", .str "false"]) (ea_cons ev_str (ea_cons ev_str ea_nil))) (o_in b.un (.tup _) (by decide +kernel) (by decide +kernel))).to (k' := false) (by decide +kernel)) (ex_nil ?_))
    refine ex_cons (ex_ifF ((et_cmp (b.v 3) (b.kc T.turns) (o_in b.un (.tup _) (by decide +kernel) (by decide +kernel))).to (k' := false) (by decide +kernel)) (ex_nil ?_))
    refine ex_cons (ex_ret (b.call (as := [.dat (.str "not"), .dat (.list [.bool (f.tr w ρ)])]) (ea_cons (b.v 3) (ea_one (EvE.fixG (b.map (ys := [.bool (f.tr w ρ)]) (own := [("part", 6)]) (it_tup (ev_slT (b.v 1) (eo_some (ev_int (i := 1))) eo_none)) (by decide +kernel) trivial (by show (1 : Nat) ≤ 10000; decide) rfl ?_) (Nat.le_refl _)))) (cal_jNot T DJ) (by simp [Fo.ht])) ⟨rfl, _, rfl, trivial⟩)
    intro i d y hd hy
    have hd' : ([fD f] : List PyData)[i]? = some d := hd
    clear hd
    match i, hd', hy with
    | 0, hd, hy => cases hd; cases hy; exact turn_one (fun z => (b.blk z).tg 6) (fun z => (b.blk z).callR ih0 (ea_cons ((b.blk z).v 0) (ea_cons ((b.blk z).v 6) (ea_one ((b.blk z).v 2)))) rfl (by simp [Fo.ht]))
    | i + 1, hd, hy => cases hy
  | .an f g, kn, ρ, kvs, h, hE, hk => by
    simp only [Fo.ht] at hk
    have ih0 := cal_wTruth T D DP DJ hw f h.1 hE (by omega)
    have ih1 := cal_wTruth T D DP DJ hw g h.2 hE (by omega)
    refine cal_of D scWTruth rfl (by simp) fun X b fn => ?_
    refine ex_cons (b.asg 3 (r := .dat (.str "and")) (ev_ix (b.v 1) ev_int (fun _ _ => rfl) (.tup _) rfl) ?_)
    refine ex_cons (ex_ifF ((et_cmp (b.v 3) ev_str o_eqS).to (k' := false) (by decide +kernel)) (ex_nil ?_))
    refine ex_cons (ex_ifF ((et_cmp (b.v 3) ev_str o_eqS).to (k' := false) (by decide +kernel)) (ex_nil ?_))
    refine ex_cons (ex_ifF ((et_cmp (b.v 3) ev_str o_eqS).to (k' := false) (by decide +kernel)) (ex_nil ?_))
    refine ex_cons (ex_ifF ((et_cmp (b.v 3) (ev_tup (ds := [.str "true", .str "false"]) (ea_cons ev_str (ea_cons ev_str ea_nil))) (o_in b.un (.tup _) (by decide +kernel) (by decide +kernel))).to (k' := false) (by decide +kernel)) (ex_nil ?_))
    refine ex_cons (ex_ifF ((et_cmp (b.v 3) (b.kc T.turns) (o_in b.un (.tup _) (by decide +kernel) (by decide +kernel))).to (k' := false) (by decide +kernel)) (ex_nil ?_))
    refine ex_cons (ex_ret (b.call (as := [.dat (.str "and"), .dat (.list [.bool (f.tr w ρ), .bool (g.tr w ρ)])]) (ea_cons (b.v 3) (ea_one (EvE.fixG (b.map (ys := [.bool (f.tr w ρ), .bool (g.tr w ρ)]) (own := [("part", 6)]) (it_tup (ev_slT (b.v 1) (eo_some (ev_int (i := 1))) eo_none)) (by decide +kernel) trivial (by show (2 : Nat) ≤ 10000; decide) rfl ?_) (Nat.le_refl _)))) (cal_jAnd T DJ) (by simp [Fo.ht])) ⟨rfl, _, rfl, trivial⟩)
    intro i d y hd hy
    have hd' : ([fD f, fD g] : List PyData)[i]? = some d := hd
    clear hd
    match i, hd', hy with
    | 0, hd, hy => cases hd; cases hy; exact turn_one (fun z => (b.blk z).tg 6) (fun z => (b.blk z).callR ih0 (ea_cons ((b.blk z).v 0) (ea_cons ((b.blk z).v 6) (ea_one ((b.blk z).v 2)))) rfl (by simp [Fo.ht] <;> omega))
    | 1, hd, hy => cases hd; cases hy; exact turn_one (fun z => (b.blk z).tg 6) (fun z => (b.blk z).callR ih1 (ea_cons ((b.blk z).v 0) (ea_cons ((b.blk z).v 6) (ea_one ((b.blk z).v 2)))) rfl (by simp [Fo.ht] <;> omega))
    | i + 2, hd, hy => cases hy
  | .im f g, kn, ρ, kvs, h, hE, hk => by
    simp only [Fo.ht] at hk
    have ih0 := cal_wTruth T D DP DJ hw f h.1 hE (by omega)
    have ih1 := cal_wTruth T D DP DJ hw g h.2 hE (by omega)
    refine cal_of D scWTruth rfl (by simp) fun X b fn => ?_
    refine ex_cons (b.asg 3 (r := .dat (.str "implies")) (ev_ix (b.v 1) ev_int (fun _ _ => rfl) (.tup _) rfl) ?_)
    refine ex_cons (ex_ifF ((et_cmp (b.v 3) ev_str o_eqS).to (k' := false) (by decide +kernel)) (ex_nil ?_))
    refine ex_cons (ex_ifF ((et_cmp (b.v 3) ev_str o_eqS).to (k' := false) (by decide +kernel)) (ex_nil ?_))
    refine ex_cons (ex_ifF ((et_cmp (b.v 3) ev_str o_eqS).to (k' := false) (by decide +kernel)) (ex_nil ?_))
    refine ex_cons (ex_ifF ((et_cmp (b.v 3) (ev_tup (ds := [.str "true", .str "false"]) (ea_cons ev_str (ea_cons ev_str ea_nil))) (o_in b.un (.tup _) (by decide +kernel) (by decide +kernel))).to (k' := false) (by decide +kernel)) (ex_nil ?_))
    refine ex_cons (ex_ifF ((et_cmp (b.v 3) (b.kc T.turns) (o_in b.un (.tup _) (by decide +kernel) (by decide +kernel))).to (k' := false) (by decide +kernel)) (ex_nil ?_))
    refine ex_cons (ex_ret (b.call (as := [.dat (.str "implies"), .dat (.list [.bool (f.tr w ρ), .bool (g.tr w ρ)])]) (ea_cons (b.v 3) (ea_one (EvE.fixG (b.map (ys := [.bool (f.tr w ρ), .bool (g.tr w ρ)]) (own := [("part", 6)]) (it_tup (ev_slT (b.v 1) (eo_some (ev_int (i := 1))) eo_none)) (by decide +kernel) trivial (by show (2 : Nat) ≤ 10000; decide) rfl ?_) (Nat.le_refl _)))) (cal_jImp T DJ) (by simp [Fo.ht])) ⟨rfl, _, rfl, trivial⟩)
    intro i d y hd hy
    have hd' : ([fD f, fD g] : List PyData)[i]? = some d := hd
    clear hd
    match i, hd', hy with
    | 0, hd, hy => cases hd; cases hy; exact turn_one (fun z => (b.blk z).tg 6) (fun z => (b.blk z).callR ih0 (ea_cons ((b.blk z).v 0) (ea_cons ((b.blk z).v 6) (ea_one ((b.blk z).v 2)))) rfl (by simp [Fo.ht] <;> omega))
    | 1, hd, hy => cases hd; cases hy; exact turn_one (fun z => (b.blk z).tg 6) (fun z => (b.blk z).callR ih1 (ea_cons ((b.blk z).v 0) (ea_cons ((b.blk z).v 6) (ea_one ((b.blk z).v 2)))) rfl (by simp [Fo.ht] <;> omega))
    | i + 2, hd, hy => cases hy
  | .sm x f, kn, ρ, kvs, h, hE, hk => by
    simp only [Fo.ht] at hk
    have ih : ∀ i, i < w.length → Cal false M (f.ht + 2) "word_truth" [.dat (wD w), .dat (fD f), .loc 0] [.dK (putP kvs (.inr x) (.int (i : Nat)))] (.dat (.bool (f.tr w (up ρ x i)))) [.dK (putP kvs (.inr x) (.int (i : Nat)))] := fun i hi => cal_wTruth T D DP DJ hw f h.2 (hE.put x hi) (by rw [List.length_append]; simp; omega)
    refine cal_of D scWTruth rfl (by simp) fun X b fn => ?_
    refine ex_cons (b.asg 3 (r := .dat (.str "some")) (ev_ix (b.v 1) ev_int (fun _ _ => rfl) (.tup _) rfl) ?_)
    refine ex_cons (ex_ifF ((et_cmp (b.v 3) ev_str o_eqS).to (k' := false) (by decide +kernel)) (ex_nil ?_))
    refine ex_cons (ex_ifF ((et_cmp (b.v 3) ev_str o_eqS).to (k' := false) (by decide +kernel)) (ex_nil ?_))
    refine ex_cons (ex_ifF ((et_cmp (b.v 3) ev_str o_eqS).to (k' := false) (by decide +kernel)) (ex_nil ?_))
    refine ex_cons (ex_ifF ((et_cmp (b.v 3) (ev_tup (ds := [.str "true", .str "false"]) (ea_cons ev_str (ea_cons ev_str ea_nil))) (o_in b.un (.tup _) (by decide +kernel) (by decide +kernel))).to (k' := false) (by decide +kernel)) (ex_nil ?_))
    have hkl := hE.len
    have hys : ((List.range w.length).map fun i => PyData.bool (f.tr w (up ρ x i))) = ((List.range w.length).map fun i => f.tr w (up ρ x i)).map .bool := by rw [List.map_map]; rfl
    refine ex_cons (ex_ifT ((et_cmp (b.v 3) (b.kc T.turns) (o_in b.un (.tup _) (by decide +kernel) (by decide +kernel))).to (k' := true) (by decide +kernel)) ?_)
    refine ex_cons (b.setMap 4 (ys := ((List.range w.length).map fun i => f.tr w (up ρ x i)).map .bool) (own := [("place", 5)]) (b.itr1 T.range (b.len T.len (ds := w.map .str) (b.v 0) (.tup _)) (by simp <;> omega) (by simp <;> omega)) (by decide +kernel) trivial (by rw [rangeD_len]; simp <;> omega) (by rw [rangeD_len]; simp) (Nat.le_refl _) ?_ ?_)
    · intro i d y hd hy
      have hi : i < w.length := by
        have := (List.getElem?_eq_some_iff.mp hd).1
        rw [rangeD_len] at this; simpa using this
      rw [rangeD_get (by simpa using hi)] at hd
      cases hd
      rw [← hys, List.getElem?_map, List.getElem?_range hi] at hy
      cases hy
      have ez : (0 : Int) + (i : Nat) = (i : Nat) := by omega
      rw [ez]
      refine turn_one (fun z => (b.blk z).tg 5) (fun z => EvE.dat (ν := [.dK (putP kvs (.inr x) (.int (i : Nat)))]) ?_)
      exact (b.blk z).callR (j := 1) (ih i hi) (ea_cons ((b.blk z).v 0) (ea_cons (ev_ix ((b.blk z).v 1) ev_int (fun _ _ => rfl) (.tup _) rfl) (ea_one ((b.blk z).callM (j := 0) (cal_withP (M := M) T DP (kvs := kvs) (x := x) (d := .int (i : Nat)) (by omega)) (ea_cons ((b.blk z).v 2) (ea_cons (ev_ix ((b.blk z).v 1) ev_int (fun _ _ => rfl) (.tup _) rfl) (ea_one ((b.blk z).v 5)))) rfl (by simp [Fo.ht]))))) rfl (by simp [Fo.ht])
    · refine ex_cons (ex_ret (ev_ifT ((et_cmp (b.v 3) ev_str o_eqS).to (k' := true) (by decide +kernel)) (b.any T.any (bs := (List.range w.length).map fun i => f.tr w (up ρ x i)) (b.v 4) (.dat _))) ⟨?_, _, rfl, trivial⟩)
      simp [Fo.tr]
  | .ev x f, kn, ρ, kvs, h, hE, hk => by
    simp only [Fo.ht] at hk
    have ih : ∀ i, i < w.length → Cal false M (f.ht + 2) "word_truth" [.dat (wD w), .dat (fD f), .loc 0] [.dK (putP kvs (.inr x) (.int (i : Nat)))] (.dat (.bool (f.tr w (up ρ x i)))) [.dK (putP kvs (.inr x) (.int (i : Nat)))] := fun i hi => cal_wTruth T D DP DJ hw f h.2 (hE.put x hi) (by rw [List.length_append]; simp; omega)
    refine cal_of D scWTruth rfl (by simp) fun X b fn => ?_
    refine ex_cons (b.asg 3 (r := .dat (.str "every")) (ev_ix (b.v 1) ev_int (fun _ _ => rfl) (.tup _) rfl) ?_)
    refine ex_cons (ex_ifF ((et_cmp (b.v 3) ev_str o_eqS).to (k' := false) (by decide +kernel)) (ex_nil ?_))
    refine ex_cons (ex_ifF ((et_cmp (b.v 3) ev_str o_eqS).to (k' := false) (by decide +kernel)) (ex_nil ?_))
    refine ex_cons (ex_ifF ((et_cmp (b.v 3) ev_str o_eqS).to (k' := false) (by decide +kernel)) (ex_nil ?_))
    refine ex_cons (ex_ifF ((et_cmp (b.v 3) (ev_tup (ds := [.str "true", .str "false"]) (ea_cons ev_str (ea_cons ev_str ea_nil))) (o_in b.un (.tup _) (by decide +kernel) (by decide +kernel))).to (k' := false) (by decide +kernel)) (ex_nil ?_))
    have hkl := hE.len
    have hys : ((List.range w.length).map fun i => PyData.bool (f.tr w (up ρ x i))) = ((List.range w.length).map fun i => f.tr w (up ρ x i)).map .bool := by rw [List.map_map]; rfl
    refine ex_cons (ex_ifT ((et_cmp (b.v 3) (b.kc T.turns) (o_in b.un (.tup _) (by decide +kernel) (by decide +kernel))).to (k' := true) (by decide +kernel)) ?_)
    refine ex_cons (b.setMap 4 (ys := ((List.range w.length).map fun i => f.tr w (up ρ x i)).map .bool) (own := [("place", 5)]) (b.itr1 T.range (b.len T.len (ds := w.map .str) (b.v 0) (.tup _)) (by simp <;> omega) (by simp <;> omega)) (by decide +kernel) trivial (by rw [rangeD_len]; simp <;> omega) (by rw [rangeD_len]; simp) (Nat.le_refl _) ?_ ?_)
    · intro i d y hd hy
      have hi : i < w.length := by
        have := (List.getElem?_eq_some_iff.mp hd).1
        rw [rangeD_len] at this; simpa using this
      rw [rangeD_get (by simpa using hi)] at hd
      cases hd
      rw [← hys, List.getElem?_map, List.getElem?_range hi] at hy
      cases hy
      have ez : (0 : Int) + (i : Nat) = (i : Nat) := by omega
      rw [ez]
      refine turn_one (fun z => (b.blk z).tg 5) (fun z => EvE.dat (ν := [.dK (putP kvs (.inr x) (.int (i : Nat)))]) ?_)
      exact (b.blk z).callR (j := 1) (ih i hi) (ea_cons ((b.blk z).v 0) (ea_cons (ev_ix ((b.blk z).v 1) ev_int (fun _ _ => rfl) (.tup _) rfl) (ea_one ((b.blk z).callM (j := 0) (cal_withP (M := M) T DP (kvs := kvs) (x := x) (d := .int (i : Nat)) (by omega)) (ea_cons ((b.blk z).v 2) (ea_cons (ev_ix ((b.blk z).v 1) ev_int (fun _ _ => rfl) (.tup _) rfl) (ea_one ((b.blk z).v 5)))) rfl (by simp [Fo.ht]))))) rfl (by simp [Fo.ht])
    · refine ex_cons (ex_ret (ev_ifF ((et_cmp (b.v 3) ev_str o_eqS).to (k' := false) (by decide +kernel)) (b.all T.all (bs := (List.range w.length).map fun i => f.tr w (up ρ x i)) (b.v 4) (.dat _))) ⟨?_, _, rfl, trivial⟩)
      simp [Fo.tr]
theorem scHoldsW : FnScope ["word", "formula"] ["word", "formula"] (defScope sHoldsW) := ⟨rfl, rfl, rfl, by decide +kernel, rfl, by decide +kernel, by decide +kernel⟩
theorem cal_holdsW (T : Tx M) (D : Df M "holds_of_word" "holds_of_word" sHoldsW ["word", "formula"]) (DC : Df M "check_word" "check_word" sChkWord ["word"]) (DI : Df M "is_name" "is_name" sIsName ["text"]) (DF : Df M "check_order_formula" "check_order_formula" sChkForm ["formula", "known"]) (DT : Df M "word_truth" "word_truth" sWTruth ["word", "formula", "places"]) (DP : Df M "with_place" "with_place" sWithP ["places", "name", "place"]) (DJ : Df M "joined_truth" "joined_truth" sJoined ["word", "truths"])
    {w : Wo} (h : Wd w) (hw : w.length ≤ 12) {f : Fo} (hf : f.wf []) (ht : f.ht ≤ 100) (ρ : Str → Nat) : Cal false M (f.ht + 4) "holds_of_word" [.dat (wD w), .dat (fD f)] [] (.dat (.bool (f.tr w ρ))) [] := by
  refine cal_of D scHoldsW rfl (by simp) fun X b fn => ?_
  refine ex_cons (ex_expr (b.call (ea_one (b.v 0)) (cal_chkWord T DC DI h hw) (by omega)) ?_)
  refine ex_cons (ex_expr (b.call (as := [.dat (fD f), .dat (knD [])]) (ea_cons (b.v 1) (ea_one (ev_tup (ds := []) ea_nil))) (cal_chkForm T DF DI f hf (fun x hx => by simp at hx) (by simp; omega)) (by omega)) ?_)
  refine ex_cons (ex_ret (EvE.dat (ν := [.dK []]) (b.callR (j := 0) (cal_wTruth T DT DP DJ (by omega) f (kn := []) (ρ := ρ) (kvs := []) hf ⟨fun x hx => by simp at hx, fun x hx => by simp at hx, Nat.le_refl _⟩ (by simp; omega)) (ea_cons (b.v 0) (ea_cons (b.v 1) (ea_one ev_newK))) rfl (by omega))) ⟨rfl, _, rfl, trivial⟩)
end
end DL
set_option maxHeartbeats 2000000
/-! known_kind, kind_of. -/
namespace DL
open PySem PySem.Spec PyProof.Rows L2
abbrev KT' := List (NestedKey × PyData)
def keyW (w : Wo) (r : Nat) : PyData := .tuple [wD w, .int (r : Nat)]
theorem strs_nk : ∀ w : Wo, nkOks (w.map .str) = true
  | [] => rfl
  | c :: w => by simp only [List.map_cons, nkOks, nkOk, Bool.true_and]; exact strs_nk w
theorem keyW_ok (w : Wo) (r : Nat) : nkOk (keyW w r) = true := by
  simp only [keyW, wD, nkOk, nkOks, Bool.and_eq_true]
  exact ⟨strs_nk w, trivial, trivial⟩
theorem strs_depth : ∀ w : Wo, PyData.depthAll (w.map .str) = 0
  | [] => by simp [PyData.depthAll]
  | c :: w => by
    rw [List.map_cons]; simp only [PyData.depthAll, PyData.depth]
    rw [strs_depth w]; rfl
theorem keyW_depth (w : Wo) (r : Nat) : (nk (keyW w r)).depth ≤ 8 := by
  rw [nk_depth _ (keyW_ok w r)]
  simp only [keyW, wD, PyData.depth, PyData.depthAll]
  rw [strs_depth w]; simp
theorem map_str_inj : ∀ {u v : Wo}, u.map PyData.str = v.map PyData.str → u = v
  | [], [], _ => rfl
  | [], _ :: _, h => by simp at h
  | _ :: _, [], h => by simp at h
  | a :: u, b :: v, h => by
    simp only [List.map_cons, List.cons.injEq, PyData.str.injEq] at h
    rw [h.1, map_str_inj h.2]
theorem keyW_inj {u v : Wo} {i j : Nat} (h : nk (keyW u i) = nk (keyW v j)) : u = v ∧ i = j := by
  have := nk_inj (keyW_ok u i) (keyW_ok v j) h
  simp only [keyW, wD, PyData.tuple.injEq, List.cons.injEq, PyData.int.injEq, and_true] at this
  exact ⟨map_str_inj this.1, by omega⟩
theorem valD_app {kvs new : KT'} {k : NestedKey} : valD (kvs ++ new) k = match valD kvs k with | some d => some d | none => valD new k := by
  simp only [valD, List.find?_append]
  cases kvs.find? (fun x => decide (x.1 = k)) with
  | some z => simp
  | none => simp
theorem valD_one {k k' : NestedKey} {d : PyData} : valD [(k, d)] k' = if k = k' then some d else none := by
  by_cases h : k = k'
  · simp [valD, h]
  · simp [valD, h]
/-- what is known is right -/
def KW (kvs : KT') : Prop := ∀ (w : Wo) (r : Nat) d, valD kvs (nk (keyW w r)) = some d → d = kd r w
/-- more is known, of at most r rounds -/
def More (r : Nat) (kvs kvs' : KT') : Prop := ∃ new : KT', kvs' = kvs ++ new ∧ ∀ p ∈ new, ∃ w j, j ≤ r ∧ p.1 = nk (keyW w j)
theorem More.refl {r : Nat} (kvs : KT') : More r kvs kvs := ⟨[], by simp, fun p hp => by simp at hp⟩
theorem More.trans {r : Nat} {a b c : KT'} (h : More r a b) (g : More r b c) : More r a c := by
  obtain ⟨n, rfl, hn⟩ := h
  obtain ⟨m, rfl, hm⟩ := g
  exact ⟨n ++ m, by simp, fun p hp => (List.mem_append.mp hp).elim (hn p) (hm p)⟩
theorem More.up {r s : Nat} {a b : KT'} (h : More r a b) (l : r ≤ s) : More s a b := by
  obtain ⟨n, e, hn⟩ := h
  exact ⟨n, e, fun p hp => let ⟨w, j, h1, h2⟩ := hn p hp; ⟨w, j, by omega, h2⟩⟩
theorem More.new {r : Nat} {kvs kvs' : KT'} (h : More r kvs kvs') {w : Wo} {s : Nat} (hs : r < s) (hn : valD kvs (nk (keyW w s)) = none) : valD kvs' (nk (keyW w s)) = none := by
  obtain ⟨n, rfl, hm⟩ := h
  rw [valD_app, hn]
  simp only [valD, Option.map_eq_none_iff, List.find?_eq_none, decide_eq_true_eq]
  intro p hp e
  obtain ⟨w', j, h1, h2⟩ := hm p hp
  rw [h2] at e
  have := (keyW_inj e).2
  omega
theorem KW.put {kvs : KT'} (h : KW kvs) (w : Wo) (r : Nat) : KW (kvs ++ [(nk (keyW w r), kd r w)]) := fun w' r' d e => by
  rw [valD_app] at e
  cases q : valD kvs (nk (keyW w' r')) with
  | some d' => rw [q] at e; cases e; exact h w' r' d q
  | none =>
    rw [q, valD_one] at e
    by_cases z : nk (keyW w r) = nk (keyW w' r')
    · rw [if_pos z] at e; cases e
      obtain ⟨rfl, rfl⟩ := keyW_inj z
      rfl
    · rw [if_neg z] at e; cases e
theorem cut_to {ds : List PyData} {i : Nat} (h : i ≤ ds.length) : cutD ds none (some (i : Int)) = ds.take i := by
  unfold cutD
  rw [HT.sIx_none, HT.sIx_nat, List.drop_zero, Nat.min_eq_left h, Nat.sub_zero]
theorem cut_from {ds : List PyData} {i : Nat} (h : i ≤ ds.length) : cutD ds (some (i : Int)) none = ds.drop i := by
  unfold cutD
  rw [HT.sIx_none, HT.sIx_nat, Nat.min_eq_left h, List.take_of_length_le]
  rw [List.length_drop]; exact Nat.le_refl _
theorem chain {α : Type} {P : Nat → α → α → Prop} {I : Nat → α → Prop} {a0 : α} {n : Nat} (h0 : I 0 a0) (hs : ∀ i a, i < n → I i a → ∃ b, P i a b ∧ I (i + 1) b) : ∃ S : Nat → α, S 0 = a0 ∧ (∀ i, i ≤ n → I i (S i)) ∧ ∀ i, i < n → P i (S i) (S (i + 1)) := by
  classical
  let S : Nat → α := fun i => Nat.rec a0 (fun i a => if h : i < n ∧ I i a then Classical.choose (hs i a h.1 h.2) else a) i
  have hS : ∀ i, S (i + 1) = if h : i < n ∧ I i (S i) then Classical.choose (hs i (S i) h.1 h.2) else S i := fun i => rfl
  have hI : ∀ i, i ≤ n → I i (S i) := by
    intro i
    induction i with
    | zero => intro _; exact h0
    | succ i ih =>
      intro hi
      have q : i < n ∧ I i (S i) := ⟨by omega, ih (by omega)⟩
      rw [hS, dif_pos q]
      exact (Classical.choose_spec (hs i (S i) q.1 q.2)).2
  refine ⟨S, rfl, hI, fun i hi => ?_⟩
  have q : i < n ∧ I i (S i) := ⟨hi, hI i (by omega)⟩
  rw [hS, dif_pos q]
  exact (Classical.choose_spec (hs i (S i) q.1 q.2)).1
theorem splits_get : ∀ {w : Wo} {i : Nat} {c : Str}, w[i]? = some c → (splits w)[i]? = some (w.take i, c, w.drop (i + 1))
  | [], _, _, h => by simp at h
  | d :: w, 0, c, h => by simp at h; subst h; rfl
  | d :: w, i + 1, c, h => by
    simp only [List.getElem?_cons_succ] at h
    have := splits_get h
    simp only [splits, List.getElem?_cons_succ, List.getElem?_map, this, Option.map_some, List.take_succ_cons, List.drop_succ_cons]
theorem rowsD_get {r : Nat} {w : Wo} {i : Nat} {c : Str} (h : w[i]? = some c) : (rowsD r w)[i]? = some (rowD (kd r (w.take i)) c (kd r (w.drop (i + 1)))) := by
  unfold rowsD
  rw [List.getElem?_map, splits_get h]; rfl
theorem split_at {w : Wo} {i : Nat} {c : Str} (h : w[i]? = some c) : w = w.take i ++ c :: w.drop (i + 1) ∧ (w.take i).length = i := by
  have hi := (List.getElem?_eq_some_iff.mp h).1
  have e := (List.getElem?_eq_some_iff.mp h).2
  refine ⟨?_, by rw [List.length_take]; omega⟩
  rw [← e, ← List.drop_eq_getElem_cons hi, List.take_append_drop]
def nKnown : List Str := ["word", "rounds", "known", "found", "at", "colour", "left", "right"]
theorem scKnown : FnScope nKnown ["word", "rounds", "known"] (defScope sKnown) := ⟨rfl, rfl, rfl, by decide +kernel, rfl, by decide +kernel, by decide +kernel⟩
section
variable {M : Mc}
theorem cal_known (T : Tx M) (D : Df M "known_kind" "known_kind" sKnown ["word", "rounds", "known"]) : ∀ (r : Nat) {w : Wo} {kvs : KT'}, r ≤ 4 → Wd w → w.length ≤ 12 → KW kvs → kvs.length + 30 ^ r ≤ 10 ^ 7 →
    ∃ kvs', KW kvs' ∧ More r kvs kvs' ∧ kvs'.length ≤ kvs.length + 30 ^ r ∧ Cal false M (r + 1) "known_kind" [.dat (wD w), .dat (.int (r : Nat)), .loc 0] [.dT kvs] (.dat (kd r w)) [.dT kvs']
  | 0, w, kvs, hr, h, hw, hk, hl => ⟨kvs, hk, .refl _, by omega, by
    refine cal_of D scKnown rfl (by simp) fun X b fn => ?_
    refine ex_cons (ex_ifT ((et_cmp (b.v 1) ev_int o_eqI).to (k' := true) (by decide)) ?_)
    exact ex_cons (ex_ret (ev_tup (ds := []) ea_nil) ⟨rfl, _, rfl, trivial⟩)⟩
  | r + 1, w, kvs, hr, h, hw, hk, hl => by
    have ih := @cal_known T D r
    have hp : 30 ^ (r + 1) = 30 * 30 ^ r := by rw [Nat.pow_succ]; omega
    have hp1 : 1 ≤ 30 ^ r := Nat.one_le_pow _ _ (by decide)
    cases hv : valD kvs (nk (keyW w (r + 1))) with
    | some d =>
      obtain rfl := hk w (r + 1) d hv
      refine ⟨kvs, hk, .refl _, by omega, cal_of D scKnown rfl (by simp) fun X b fn => ?_⟩
      refine ex_cons (ex_ifF ((et_cmp (b.v 1) ev_int o_eqI).to (k' := false) (by simp; omega)) (ex_nil ?_))
      refine ex_cons (ex_ifF ((et_cmp (ev_tup (ds := [wD w, .int ((r + 1 : Nat) : Int)]) (ea_cons (b.v 0) (ea_one (b.v 1)))) (b.v 2) (o_ninT b.un4 rfl (keyW_ok w (r + 1)) (keyW_depth w (r + 1)) ⟨_, rfl⟩)).to (k' := false) ?_) (ex_nil ?_))
      · show (!(valD kvs (nk (keyW w (r + 1)))).isSome) = false
        rw [hv]; rfl
      · exact ex_cons (ex_ret (ev_getT b.un4 (b.v 2) (ev_tup (ds := [wD w, .int ((r + 1 : Nat) : Int)]) (ea_cons (b.v 0) (ea_one (b.v 1)))) (fun _ _ => rfl) rfl (keyW_ok w (r + 1)) (keyW_depth w (r + 1)) ⟨_, rfl⟩ hv) ⟨rfl, _, rfl, trivial⟩)
    | none =>
      -- the store behind each turn
      obtain ⟨S, S0, SI, SP⟩ := chain (n := w.length) (a0 := kvs) (I := fun i a => KW a ∧ More r kvs a ∧ a.length ≤ kvs.length + i * (2 * 30 ^ r))
        (P := fun i a c => ∃ mid, Cal false M (r + 1) "known_kind" [.dat (wD (w.take i)), .dat (.int (r : Nat)), .loc 0] [.dT a] (.dat (kd r (w.take i))) [.dT mid] ∧ Cal false M (r + 1) "known_kind" [.dat (wD (w.drop (i + 1))), .dat (.int (r : Nat)), .loc 0] [.dT mid] (.dat (kd r (w.drop (i + 1)))) [.dT c])
        ⟨hk, .refl _, by omega⟩ (fun i a hi ⟨a1, a2, a3⟩ => by
          obtain ⟨c, hc⟩ : ∃ c, w[i]? = some c := ⟨_, List.getElem?_eq_getElem hi⟩
          obtain ⟨e1, e2⟩ := split_at hc
          obtain ⟨w1, w2, w3⟩ := h.split e1
          have l1 := split_len e1
          have li : i * (2 * 30 ^ r) ≤ 11 * (2 * 30 ^ r) := Nat.mul_le_mul_right _ (by omega)
          obtain ⟨m1, b1, b2, b3, b4⟩ := ih (kvs := a) (by omega) w1 (by omega) a1 (by omega)
          obtain ⟨m2, c1, c2, c3, c4⟩ := ih (kvs := m1) (by omega) w3 (by omega) b1 (by omega)
          have lj : (i + 1) * (2 * 30 ^ r) = i * (2 * 30 ^ r) + 2 * 30 ^ r := by rw [Nat.add_mul, Nat.one_mul]
          exact ⟨m2, ⟨m1, b4, c4⟩, c1, a2.trans (b2.trans c2), by omega⟩)
      obtain ⟨f1, f2, f3⟩ := SI w.length (Nat.le_refl _)
      have hnew := f2.new (s := r + 1) (by omega) hv
      have lw : w.length * (2 * 30 ^ r) ≤ 12 * (2 * 30 ^ r) := Nat.mul_le_mul_right _ hw
      refine ⟨S w.length ++ [(nk (keyW w (r + 1)), kd (r + 1) w)], f1.put w (r + 1), (f2.up (by omega)).trans ⟨_, rfl, fun p hp => ⟨w, r + 1, Nat.le_refl _, by rw [List.mem_singleton] at hp; rw [hp]⟩⟩, by rw [List.length_append, List.length_singleton]; omega, cal_of D scKnown rfl (by simp) fun X b fn => ?_⟩
      refine ex_cons (ex_ifF ((et_cmp (b.v 1) ev_int o_eqI).to (k' := false) (by simp; omega)) (ex_nil ?_))
      refine ex_cons (ex_ifT ((et_cmp (ev_tup (ds := [wD w, .int ((r + 1 : Nat) : Int)]) (ea_cons (b.v 0) (ea_one (b.v 1)))) (b.v 2) (o_ninT b.un4 rfl (keyW_ok w (r + 1)) (keyW_depth w (r + 1)) ⟨_, rfl⟩)).to (k' := true) ?_) ?_)
      · show (!(valD kvs (nk (keyW w (r + 1)))).isSome) = true
        rw [hv]; rfl
      refine ex_cons (b.asg 3 (ev_lst (ds := []) ea_nil) ?_)
      have rok : RowsOk r (rowsD r w) := rows_ok h
      have tok : ∀ i, RowsOk r ((rowsD r w).take i) := fun i d hd => rok d (List.mem_of_mem_take hd)
      refine ex_cons (ex_for b.hp b.calm (b.itET T.enumerate (ds := w.map .str) (b.v 0)) (fun i Γ μ => ∃ x4 x5 x6 x7, Γ = [some (.dat (wD w)), some (.dat (.int ((r + 1 : Nat) : Int))), some (.loc 0), some (.loc 1), x4, x5, x6, x7] ∧ μ = [.dT (S i), .lst (dedup ((rowsD r w).take i))]) ⟨_, _, _, _, rfl, by rw [S0]; rfl⟩ (fun _ _ _ _ => trivial) ?_ ?_)
      · rintro i d Γ μ hi ⟨x4, x5, x6, x7, rfl, rfl⟩
        obtain ⟨d', hd', rfl⟩ := enumD_get hi
        rw [List.getElem?_map] at hd'
        cases hc : w[i]? with
        | none => rw [hc] at hd'; cases hd'
        | some c =>
          rw [hc] at hd'; cases hd'
          have hi' := (List.getElem?_eq_some_iff.mp hc).1
          obtain ⟨e1, e2⟩ := split_at hc
          obtain ⟨w1, w2, w3⟩ := h.split e1
          obtain ⟨mid, p1, p2⟩ := SP i hi'
          refine ⟨_, _, gt_tup b.calm (ds := [_, _]) (gts_cons (b.tg 4) (gts_cons (b.tg 5) gts_nil)), ?_⟩
          have a1 : AV.dat (.tuple (cutD (w.map .str) none (some ((0 + i : Nat) : Int)))) = .dat (wD (w.take i)) := by
            rw [Nat.zero_add, cut_to (by simp; omega), ← List.map_take]; rfl
          have a2 : AV.dat (.tuple (cutD (w.map .str) (some (((0 + i : Nat) : Int) + 1)) none)) = .dat (wD (w.drop (i + 1))) := by
            rw [Nat.zero_add, show (i : Int) + 1 = ((i + 1 : Nat) : Int) by omega, cut_from (by simp; omega), ← List.map_drop]; rfl
          refine ex_cons (b.pair 6 7 (ea_cons (b.callM p1 (ea_cons ((ev_slT (ds := w.map .str) (b.v 0) eo_none (eo_some (b.v 4))).to a1) (ea_cons (ev_pred (b.v 1)) (ea_one (b.v 2)))) rfl (Nat.le_refl _)) (ea_one (b.callM p2 (ea_cons ((ev_slT (ds := w.map .str) (b.v 0) (eo_some (ev_bin (b.v 4) ev_int o_add)) eo_none).to a2) (ea_cons (ev_pred (b.v 1)) (ea_one (b.v 2)))) rfl (Nat.le_refl _)))) ?_)
          have hy := rowsD_get (r := r) hc
          refine ex_cons (ex_if (et_cmp (ev_tup (ds := [kd r (w.take i), .str c, kd r (w.drop (i + 1))]) (ea_cons (b.v 6) (ea_cons (b.v 5) (ea_one (b.v 7))))) (b.v 3) (o_nin (ds := dedup ((rowsD r w).take i)) b.un (.lst (.loc rfl)) (row_shaped w1 w2 w3 (by omega)) (pls_lay _ (dedup_ok (tok i)).pl))) (fun q => ?_) fun q => ?_)
          · refine ex_cons (ex_app (b.v 3) (ev_tup (ds := [kd r (w.take i), .str c, kd r (w.drop (i + 1))]) (ea_cons (b.v 6) (ea_cons (b.v 5) (ea_one (b.v 7))))) rfl ?_ (ex_nil (ex_nil ⟨_, _, _, _, rfl, ?_⟩)) ⟨_, rfl⟩)
            · have := dedup_len ((rowsD r w).take i)
              rw [List.length_take] at this
              rw [sizeLine_eq]; omega
            · rw [dedup_step hy]; unfold addN; rw [if_neg (by simpa [rowD] using q)]; rfl
          · refine ex_nil (ex_nil ⟨_, _, _, _, rfl, ?_⟩)
            rw [dedup_step hy]; unfold addN; rw [if_pos (by simpa [rowD] using q)]; rfl
      · rintro Γ μ ⟨x4, x5, x6, x7, rfl, rfl⟩
        have el : (enumD 0 (w.map PyData.str)).length = w.length := by rw [enumD_len, List.length_map]
        rw [el]
        refine ex_cons (ex_putT b.un4 (b.tup T.tuple (b.sorted T.sorted (b.v 3) (.loc rfl) (dedup_ok (tok _)).alike (dedup_ok (tok _)).sortable ((dedup_ok (tok _)).deep (by omega))) (.lst (.loc rfl))) (b.v 2) (ev_tup (ds := [wD w, .int ((r + 1 : Nat) : Int)]) (ea_cons (b.v 0) (ea_one (b.v 1)))) rfl (keyW_ok w (r + 1)) (keyW_depth w (r + 1)) ⟨_, rfl⟩ hnew (by rw [sizeLine_eq]; omega) (ex_nil ?_))
        have ek : (PyData.tuple (sortD (dedup ((rowsD r w).take w.length)))) = kd (r + 1) w := by
          rw [List.take_of_length_le (by rw [rowsD_len]; exact Nat.le_refl _)]; rfl
        rw [ek]
        refine ex_cons (ex_ret (ev_getT (d := kd (r + 1) w) (kvs := S w.length ++ [(nk (keyW w (r + 1)), kd (r + 1) w)]) b.un4 (b.v 2) (ev_tup (ds := [wD w, .int ((r + 1 : Nat) : Int)]) (ea_cons (b.v 0) (ea_one (b.v 1)))) (fun _ _ => rfl) rfl (keyW_ok w (r + 1)) (keyW_depth w (r + 1)) ⟨_, rfl⟩ ?_) ⟨rfl, _, rfl, trivial⟩)
        show valD _ (nk (keyW w (r + 1))) = _
        rw [valD_app, hnew]
        show valD _ _ = _
        rw [valD_one, if_pos rfl]
theorem scKindOf : FnScope ["word", "rounds"] ["word", "rounds"] (defScope sKindOf) := ⟨rfl, rfl, rfl, by decide +kernel, rfl, by decide +kernel, by decide +kernel⟩
theorem cal_kindOf (T : Tx M) (D : Df M "kind_of" "kind_of" sKindOf ["word", "rounds"]) (DC : Df M "check_word" "check_word" sChkWord ["word"]) (DI : Df M "is_name" "is_name" sIsName ["text"]) (DR : Df M "check_rounds" "check_rounds" sChkRounds ["rounds"]) (DK : Df M "known_kind" "known_kind" sKnown ["word", "rounds", "known"])
    {r : Nat} {w : Wo} (hr : r ≤ 4) (h : Wd w) (hw : w.length ≤ 12) : Cal false M 6 "kind_of" [.dat (wD w), .dat (.int (r : Nat))] [] (.dat (kd r w)) [] := by
  obtain ⟨kvs', _, _, _, hc⟩ := cal_known T DK r (kvs := []) hr h hw (fun w r d e => by cases e) (by
    have : 30 ^ r ≤ 30 ^ 4 := Nat.pow_le_pow_right (by decide) hr
    simp; omega)
  refine cal_of D scKindOf rfl (by simp) fun X b fn => ?_
  refine ex_cons (ex_expr (b.call (ea_one (b.v 0)) (cal_chkWord T DC DI h hw) (by omega)) ?_)
  refine ex_cons (ex_expr (b.call (ea_one (b.v 1)) (cal_chkRounds T DR hr) (by omega)) ?_)
  exact ex_cons (ex_ret (b.callN hc (ea_cons (b.v 0) (ea_cons (b.v 1) (ea_one ev_newT))) (by omega)) ⟨rfl, _, rfl, trivial⟩)
end
end DL
set_option maxHeartbeats 2000000
/-! Adder. -/
namespace DL
open PySem PySem.Spec PyProof.Rows L2
structure Ad (M : Mc) (C : Addr) : Prop where
  mg : M.mg "Adder" = some (.ref C)
  cls : Cls M.K C
  no : NoAttr M.K C "known"
  init : ∃ fI fdI, Mk M.K C fI ∧ Fun M.K "__init__" "Adder.__init__" sInit fI fdI ∧ Binds M.K fdI ["self"] []
  added : DfM M C "added" "Adder.added" sAdded ["self", "one", "other", "rounds"]
theorem scInit : FnScope ["self"] ["self"] (defScope sInit) := ⟨rfl, rfl, rfl, by decide +kernel, rfl, by decide +kernel, by decide +kernel⟩
section
variable {P : Program} {w : World} {K : PySem.W.Frag} {mg : Str → Option Value} {base : Heap}
theorem ok_init {f C : Addr} {fd : FuncData} (F : Fun K "__init__" "Adder.__init__" sInit f fd) (c : Cls K C) (n : NoAttr K C "known") : FnOk P w K mg base CX0 1 f fd ["self"] (spMk P w C "known") := by
  refine F.ok scInit (fun vs H Q E h => ?_) (fun cdv A outer s H vs Q E hr h => ?_)
  · obtain ⟨x, dx, rfl, _⟩ := h
    rfl
  · obtain ⟨x, dx, rfl, hx, k⟩ := h
    refine ⟨_, pss_one (ps_fld (pv 0) pe_newT' rfl), ?_⟩
    intro l hl
    have nxl : x ≠ l := ne_of_none hx hl
    refine ⟨_, rfl, x, C, dx, [], rfl, (by rw [upd_ne nxl]; exact hx), c, n, (by show 0 < 1000; decide), ?_⟩
    exact k l hl
end
section
variable {X : Cx} {M : Mc} {N : List Str} {sc : Scope} {k k' j : Nat} {g g' : Bool} {Γ : Gm} {μ μ1 μ2 ν : Sto} {e o : Expr} {es : List Expr} {rs : List AV} {r : AV} {m0 m0' : MO} {p pos apos : Pos} {C : Addr} {f m : Str}
theorem Bd.make (b : Bd X M N sc k g) (A : Ad M C) (hk : 2 ≤ k) (hg : gloB sc "Adder" = true := by decide +kernel) : EvE X Γ μ (.Call (.Name "Adder" p) [] [] pos) (.ins C "known" μ.length) (μ ++ [.dT []]) := by
  obtain ⟨fI, fdI, h1, h2, h3⟩ := A.init
  have mc := b.mc
  subst mc
  exact ev_make (k' := 1) b h1 (ok_init h2 A.cls A.no) hk (nk_eq hg) A.mg h3
theorem Bd.fld (b : Bd X M N sc k g) (A : Ad M C) (ho : EvE X Γ μ o (.ins C "known" j) μ1) (hb : attributeBase o "known" X.env (eval o X.env) = eval o X.env := by rfl) : EvE X Γ μ (.Attribute o "known" pos) (.loc j) μ1 := by
  have mc := b.mc
  subst mc
  exact ev_fld ho A.cls A.no hb
end
def nAdded : List Str := ["self", "one", "other", "rounds", "key", "less_one", "less_other", "found", "left", "colour", "right", "at", "row"]
theorem scAdded : FnScope nAdded ["self", "one", "other", "rounds"] (defScope sAdded) := ⟨rfl, rfl, rfl, by decide +kernel, rfl, by decide +kernel, by decide +kernel⟩
/-- what an adder of parts of w knows -/
structure KA (w : Wo) (kvs : KT') : Prop where
  nd : (kvs.map (·.1)).Nodup
  key : ∀ p ∈ kvs, p.1 ∈ keysA w
  val : ∀ (r : Nat) (x y : Wo) d, Wd x → Wd y → valD kvs (nk (keyA (kd r x) (kd r y) r)) = some d → d = kd r (x ++ y)
theorem KA.len {w : Wo} {kvs : KT'} (h : KA w kvs) : kvs.length ≤ 15987 := by
  have := nodup_le h.nd (ys := keysA w) fun x hx => by
    obtain ⟨p, hp, rfl⟩ := List.mem_map.mp hx
    exact h.key p hp
  rw [keysA_len, List.length_map] at this
  exact this
theorem KA.nil (w : Wo) : KA w [] := ⟨by simp, fun p hp => by simp at hp, fun r x y d _ _ h => by cases h⟩
theorem KA.put {w : Wo} {kvs : KT'} (h : KA w kvs) (hw : Wd w) (h0 : w ≠ []) (hl : w.length ≤ 3) {x y : Wo} {r : Nat} (hx : Fc w x) (hy : Fc w y) (h1 : 1 ≤ r) (h3 : r ≤ 3) (hn : valD kvs (nk (keyA (kd r x) (kd r y) r)) = none) : KA w (kvs ++ [(nk (keyA (kd r x) (kd r y) r), kd r (x ++ y))]) where
  nd := by
    rw [List.map_append, List.nodup_append]
    refine ⟨h.nd, by simp, fun a ha b hb e => ?_⟩
    simp at hb; subst hb; subst e
    exact valD_none hn ha
  key := fun p hp => by
    rcases List.mem_append.mp hp with hp | hp
    · exact h.key p hp
    · rw [List.mem_singleton] at hp; subst hp
      exact keysA_mem hw h0 hl hx hy h1 h3
  val := fun r' x' y' d hx' hy' e => by
    rw [valD_app] at e
    cases q : valD kvs (nk (keyA (kd r' x') (kd r' y') r')) with
    | some d' => rw [q] at e; cases e; exact h.val r' x' y' d hx' hy' q
    | none =>
      rw [q, valD_one] at e
      by_cases z : nk (keyA (kd r x) (kd r y) r) = nk (keyA (kd r' x') (kd r' y') r')
      · rw [if_pos z] at e; cases e
        obtain ⟨rfl, e1, e2⟩ := keyA_inj (hx.wd hw) (hy.wd hw) hx' hy' z
        exact kd_sum r (hx.wd hw) hx' (hy.wd hw) hy' e1 e2
      · rw [if_neg z] at e; cases e
/-- more is known, of at most r rounds -/
def MoreA (r : Nat) (kvs kvs' : KT') : Prop := ∃ new : KT', kvs' = kvs ++ new ∧ ∀ p ∈ new, ∃ x y j, Wd x ∧ Wd y ∧ j ≤ r ∧ p.1 = nk (keyA (kd j x) (kd j y) j)
theorem MoreA.refl {r : Nat} (kvs : KT') : MoreA r kvs kvs := ⟨[], by simp, fun p hp => by simp at hp⟩
theorem MoreA.trans {r : Nat} {a b c : KT'} (h : MoreA r a b) (g : MoreA r b c) : MoreA r a c := by
  obtain ⟨n, rfl, hn⟩ := h
  obtain ⟨m, rfl, hm⟩ := g
  exact ⟨n ++ m, by simp, fun p hp => (List.mem_append.mp hp).elim (hn p) (hm p)⟩
theorem MoreA.up {r s : Nat} {a b : KT'} (h : MoreA r a b) (l : r ≤ s) : MoreA s a b := by
  obtain ⟨n, e, hn⟩ := h
  exact ⟨n, e, fun p hp => let ⟨x, y, j, h0, h0', h1, h2⟩ := hn p hp; ⟨x, y, j, h0, h0', by omega, h2⟩⟩
theorem MoreA.new {r : Nat} {kvs kvs' : KT'} (h : MoreA r kvs kvs') {x y : Wo} {s : Nat} (hx : Wd x) (hy : Wd y) (hs : r < s) (hn : valD kvs (nk (keyA (kd s x) (kd s y) s)) = none) : valD kvs' (nk (keyA (kd s x) (kd s y) s)) = none := by
  obtain ⟨n, rfl, hm⟩ := h
  rw [valD_app, hn]
  simp only [valD, Option.map_eq_none_iff, List.find?_eq_none, decide_eq_true_eq]
  intro p hp e
  obtain ⟨x', y', j, h0, h0', h1, h2⟩ := hm p hp
  rw [h2] at e
  have := (keyA_inj h0 h0' hx hy e).1
  omega
end DL
set_option maxHeartbeats 2000000
/-! Adder.added. -/
namespace DL
open PySem PySem.Spec PyProof.Rows L2
section
variable {X : Cx} {M : Mc} {N : List Str} {sc : Scope} {k k' j : Nat} {g g' : Bool} {Γ : Gm} {μ μ1 μ2 ν : Sto} {e o : Expr} {es : List Expr} {rs : List AV} {r : AV} {m0 m0' : MO} {p pos apos : Pos} {C : Addr} {m : Str}
theorem Bd.meth {pl : Sem Bool} (b : Bd X M N sc k g) (h : CalM g' M k' C m (.ins C "known" 0 :: rs) [m0] r (m0' :: ν)) (ho : EvE X Γ μ o (.ins C "known" j) μ1) (ha : EvA X Γ μ1 (e :: es) (rs.map (sh1 j μ2.length)) μ2) (hj : μ2[j]? = some m0) (hk : k' ≤ k) (hb : allB1 rs = true := by rfl) (hmf : (m == ("known" : Str)) = false := by decide +kernel) (hgg : g' = true → g = true := by decide)
    (hst : starEach (e :: es) X.env = (false, eval e X.env) :: starEach es X.env := by rfl) (hpl : (backTo pos (starEach es X.env)).any (·.1) = false := by rfl)
    (ht : eval (.Call (.Attribute o m apos) (e :: es) [] pos) X.env = (do
      let ov ← eval o X.env
      standAt apos.atName
      let (f, first) ← holding [ov] (getMethod ov m pl)
      callWith pos f first (backTo pos (starEach (e :: es) X.env)) (backToKw pos (keywordEach [] X.env))) := by rfl) :
    EvE X Γ μ (.Call (.Attribute o m apos) (e :: es) [] pos) (sh1 j μ2.length r) (μ2.set j m0' ++ ν) :=
  ev_meth b ho ha h hj hk (allB1_below hb) hmf hgg hst hpl ht
end
theorem firsts_is {ds : List PyData} (hp : plDs ds = true) {L : Nat → Option PyData} : ∀ n, n ≤ ds.length → (∀ (i : Nat) d, ds[i]? = some d → L i = if !inD d (ds.take i) then some d else none) → accOf L n = dedup (ds.take n)
  | 0, _, _ => by simp [accOf, dedup]
  | n + 1, hn, h => by
    have hd : ds[n]? = some ds[n] := List.getElem?_eq_getElem (by omega)
    have ht : plDs (ds.take n) = true := plDs_mem.mpr fun e he => plDs_mem.mp hp e (List.mem_of_mem_take he)
    have hdn : plD ds[n] = true := plDs_mem.mp hp _ (List.mem_of_getElem? hd)
    unfold accOf
    rw [firsts_is hp n (by omega) h, h n _ hd, dedup_step hd]
    unfold addN
    have e : inD ds[n] (dedup (ds.take n)) = inD ds[n] (ds.take n) := by
      rw [Bool.eq_iff_iff, inD_mem hdn (dedup_pl ht), inD_mem hdn ht, dedup_mem ht]
    rw [e]
    cases q : inD ds[n] (ds.take n) <;> simp
theorem EvE.to2 {X : Cx} {Γ : Gm} {μ μ1 μ2 : Sto} {e : Expr} {r r' : AV} (h : EvE X Γ μ e r μ1) (q : r = r') (q2 : μ1 = μ2) : EvE X Γ μ e r' μ2 := q ▸ q2 ▸ h
section
variable {M : Mc} {C : Addr}
theorem cal_added (T : Tx M) (A : Ad M C) (DL : Df M "lessened" "lessened" sLess ["kind", "rounds"]) {w : Wo} (hw : Wd w) (h0 : w ≠ []) (hl : w.length ≤ 3) : ∀ (r : Nat) {x y : Wo} {kvs : KT'}, r ≤ 3 → Fc w x → Fc w y → x.length ≤ 30 → y.length ≤ 30 → KA w kvs →
    ∃ kvs', KA w kvs' ∧ MoreA r kvs kvs' ∧ CalM false M (r + 2) C "added" [.ins C "known" 0, .dat (kd r x), .dat (kd r y), .dat (.int (r : Nat))] [.dT kvs] (.dat (kd r (x ++ y))) [.dT kvs']
  | 0, x, y, kvs, hr, hx, hy, lx, ly, hk => ⟨kvs, hk, .refl _, by
    refine calM_of A.added scAdded rfl (by simp) fun X b fn => ?_
    refine ex_cons (ex_ifT ((et_cmp (b.v 3) ev_int o_eqI).to (k' := true) (by decide)) ?_)
    exact ex_cons (ex_ret (ev_tup (ds := []) ea_nil) ⟨rfl, _, rfl, trivial⟩)⟩
  | r + 1, x, y, kvs, hr, hx, hy, lx, ly, hk => by
    have ih := @cal_added T A DL w hw h0 hl r
    have wx := hx.wd hw
    have wy := hy.wd hw
    have hok := keyA_ok (r := r + 1) wx wy
    have hdp := keyA_depth (r := r + 1) wx wy hr
    cases hv : valD kvs (nk (keyA (kd (r + 1) x) (kd (r + 1) y) (r + 1))) with
    | some d =>
      obtain rfl := hk.val (r + 1) x y d wx wy hv
      refine ⟨kvs, hk, .refl _, calM_of A.added scAdded rfl (by simp) fun X b fn => ?_⟩
      refine ex_cons (ex_ifF ((et_cmp (b.v 3) ev_int o_eqI).to (k' := false) (by simp; omega)) (ex_nil ?_))
      refine ex_cons (b.asg 4 (ev_tup (ds := [kd (r + 1) x, kd (r + 1) y, .int ((r + 1 : Nat) : Int)]) (ea_cons (b.v 1) (ea_cons (b.v 2) (ea_one (b.v 3))))) ?_)
      refine ex_cons (ex_ifF ((et_cmp (b.v 4) (b.fld A (b.v 0)) (o_ninT b.un4 rfl hok hdp ⟨_, rfl⟩)).to (k' := false) ?_) (ex_nil ?_))
      · show (!(valD kvs (nk (keyA (kd (r + 1) x) (kd (r + 1) y) (r + 1)))).isSome) = false
        rw [hv]; rfl
      · exact ex_cons (ex_ret (ev_getT b.un4 (b.fld A (b.v 0)) (b.v 4) (fun _ _ => rfl) rfl hok hdp ⟨_, rfl⟩ hv) ⟨rfl, _, rfl, trivial⟩)
    | none =>
      obtain ⟨L1, hL1⟩ : ∃ L, Paired (fun d z => ∃ u c v, x = u ++ c :: v ∧ d = rowD (kd r u) c (kd r v) ∧ z = rowD (kd r u) c (kd r (v ++ y))) (canon (rowsD r x)) L := list_choose fun d hd => by
        rw [canon_mem (rows_pl wx)] at hd
        obtain ⟨u, c, v, e, rfl⟩ := mem_rowsD.mp hd
        exact ⟨_, u, c, v, e, rfl, rfl⟩
      obtain ⟨L2, hL2⟩ : ∃ L, Paired (fun d z => ∃ u c v, y = u ++ c :: v ∧ d = rowD (kd r u) c (kd r v) ∧ z = rowD (kd r (x ++ u)) c (kd r v)) (canon (rowsD r y)) L := list_choose fun d hd => by
        rw [canon_mem (rows_pl wy)] at hd
        obtain ⟨u, c, v, e, rfl⟩ := mem_rowsD.mp hd
        exact ⟨_, u, c, v, e, rfl, rfl⟩
      have n1 : (canon (rowsD r x)).length ≤ 30 := Nat.le_trans (canon_len _) (by rw [rowsD_len]; exact lx)
      have n2 : (canon (rowsD r y)).length ≤ 30 := Nat.le_trans (canon_len _) (by rw [rowsD_len]; exact ly)
      have l1 := paired_len hL1
      have l2 := paired_len hL2
      obtain ⟨S, S0, SI, SP⟩ := chain (n := (canon (rowsD r x)).length) (a0 := kvs) (I := fun _ a => KA w a ∧ MoreA r kvs a)
        (P := fun i a a' => ∃ u c v, (canon (rowsD r x))[i]? = some (rowD (kd r u) c (kd r v)) ∧ L1[i]? = some (rowD (kd r u) c (kd r (v ++ y))) ∧ CalM false M (r + 2) C "added" [.ins C "known" 0, .dat (kd r v), .dat (kd r y), .dat (.int (r : Nat))] [.dT a] (.dat (kd r (v ++ y))) [.dT a'])
        ⟨hk, .refl _⟩ (fun i a hi ⟨a1, a2⟩ => by
          obtain ⟨z, hz, u, c, v, e, q1, q2⟩ := paired_get' hL1 (List.getElem?_eq_getElem hi)
          obtain ⟨fu, fv⟩ := hx.split e
          have := split_len e
          obtain ⟨m, b1, b2, b3⟩ := ih (kvs := a) (by omega) fv hy (by omega) ly a1
          exact ⟨m, ⟨u, c, v, by rw [← q1]; exact List.getElem?_eq_getElem hi, by rw [← q2]; exact hz, b3⟩, b1, a2.trans b2⟩)
      obtain ⟨f1, f2⟩ := SI _ (Nat.le_refl _)
      obtain ⟨S', S0', SI', SP'⟩ := chain (n := (canon (rowsD r y)).length) (a0 := S (canon (rowsD r x)).length) (I := fun _ a => KA w a ∧ MoreA r kvs a)
        (P := fun i a a' => ∃ u c v, (canon (rowsD r y))[i]? = some (rowD (kd r u) c (kd r v)) ∧ L2[i]? = some (rowD (kd r (x ++ u)) c (kd r v)) ∧ CalM false M (r + 2) C "added" [.ins C "known" 0, .dat (kd r x), .dat (kd r u), .dat (.int (r : Nat))] [.dT a] (.dat (kd r (x ++ u))) [.dT a'])
        ⟨f1, f2⟩ (fun i a hi ⟨a1, a2⟩ => by
          obtain ⟨z, hz, u, c, v, e, q1, q2⟩ := paired_get' hL2 (List.getElem?_eq_getElem hi)
          obtain ⟨fu, fv⟩ := hy.split e
          have := split_len e
          obtain ⟨m, b1, b2, b3⟩ := ih (kvs := a) (by omega) hx fu lx (by omega) a1
          exact ⟨m, ⟨u, c, v, by rw [← q1]; exact List.getElem?_eq_getElem hi, by rw [← q2]; exact hz, b3⟩, b1, a2.trans b2⟩)
      obtain ⟨g1, g2⟩ := SI' _ (Nat.le_refl _)
      have hnew := g2.new (s := r + 1) wx wy (by omega) hv
      refine ⟨S' (canon (rowsD r y)).length ++ [(nk (keyA (kd (r + 1) x) (kd (r + 1) y) (r + 1)), kd (r + 1) (x ++ y))], g1.put hw h0 hl hx hy (by omega) hr hnew, (g2.up (by omega)).trans ⟨_, rfl, fun p hp => ⟨x, y, r + 1, wx, wy, Nat.le_refl _, by rw [List.mem_singleton] at hp; rw [hp]⟩⟩, calM_of A.added scAdded rfl (by simp) fun X b fn => ?_⟩
      refine ex_cons (ex_ifF ((et_cmp (b.v 3) ev_int o_eqI).to (k' := false) (by simp; omega)) (ex_nil ?_))
      refine ex_cons (b.asg 4 (ev_tup (ds := [kd (r + 1) x, kd (r + 1) y, .int ((r + 1 : Nat) : Int)]) (ea_cons (b.v 1) (ea_cons (b.v 2) (ea_one (b.v 3))))) ?_)
      refine ex_cons (ex_ifT ((et_cmp (b.v 4) (b.fld A (b.v 0)) (o_ninT b.un4 rfl hok hdp ⟨_, rfl⟩)).to (k' := true) ?_) ?_)
      · show (!(valD kvs (nk (keyA (kd (r + 1) x) (kd (r + 1) y) (r + 1)))).isSome) = true
        rw [hv]; rfl
      have hlen := hk.len
      refine ex_cons (ex_ifF ((et_cmp (b.lenT T.len (b.fld A (b.v 0)) rfl (by rw [sizeLine_eq]; omega)) (b.kc T.kindsMost) o_gt).to (k' := false) (by simp; omega)) (ex_nil ?_))
      refine ex_cons (b.pair 5 6 (ea_cons (b.call (ea_cons (b.v 1) (ea_one (b.v 3))) (cal_less T.toTx0 DL r (by omega) wx (by omega)) (by omega)) (ea_one (b.call (ea_cons (b.v 2) (ea_one (b.v 3))) (cal_less T.toTx0 DL r (by omega) wy (by omega)) (by omega)))) ?_)
      refine ex_cons (b.asgC 7 fn (ev_lst (ds := []) ea_nil) ?_)
      refine ex_cons (ex_for b.hp b.calm (it_tup (ds := canon (rowsD r x)) (b.v 1)) (fun i Γ μ => ∃ x8 x9 x10 x11 x12, Γ = [some (.ins C "known" 0), some (.dat (kd (r + 1) x)), some (.dat (kd (r + 1) y)), some (.dat (.int ((r + 1 : Nat) : Int))), some (.dat (.tuple [kd (r + 1) x, kd (r + 1) y, .int ((r + 1 : Nat) : Int)])), some (.dat (kd r x)), some (.dat (kd r y)), some (.loc 1), x8, x9, x10, x11, x12] ∧ μ = [.dT (S i), .lst (L1.take i)]) ⟨_, _, _, _, _, rfl, by rw [S0]; rfl⟩ (fun _ _ _ _ => trivial) ?_ ?_)
      · rintro i d Γ μ hi ⟨x8, x9, x10, x11, x12, rfl, rfl⟩
        have hi' := (List.getElem?_eq_some_iff.mp hi).1
        obtain ⟨u, c, v, q1, q2, q3⟩ := SP i hi'
        rw [q1] at hi; cases hi
        refine ⟨_, _, gt_tup b.calm (ds := [_, _, _]) (gts_cons (b.tg 8) (gts_cons (b.tg 9) (gts_cons (b.tg 10) gts_nil))), ?_⟩
        refine ex_cons (ex_app (b.v 7) (ev_tup (ds := [kd r u, .str c, kd r (v ++ y)]) (ea_cons (b.v 8) (ea_cons (b.v 9) (ea_one (b.meth (j := 0) q3 (b.v 0) (ea_cons (b.v 10) (ea_cons (b.v 6) (ea_one (ev_pred (b.v 3))))) rfl (by omega)))))) rfl ?_ (ex_nil ⟨_, _, _, _, _, rfl, ?_⟩) ⟨_, rfl⟩)
        · rw [sizeLine_eq, List.length_take]; omega
        · rw [List.take_succ, q2]; rfl
      rintro Γ μ ⟨x8, x9, x10, x11, x12, rfl, rfl⟩
      refine ex_cons (ex_for b.hp b.calm (it_tup (ds := canon (rowsD r y)) (b.v 2)) (fun i Γ μ => ∃ x8 x9 x10 x11 x12, Γ = [some (.ins C "known" 0), some (.dat (kd (r + 1) x)), some (.dat (kd (r + 1) y)), some (.dat (.int ((r + 1 : Nat) : Int))), some (.dat (.tuple [kd (r + 1) x, kd (r + 1) y, .int ((r + 1 : Nat) : Int)])), some (.dat (kd r x)), some (.dat (kd r y)), some (.loc 1), x8, x9, x10, x11, x12] ∧ μ = [.dT (S' i), .lst (L1 ++ L2.take i)]) ⟨_, _, _, _, _, rfl, by rw [S0', List.take_zero, List.append_nil, List.take_of_length_le (by omega)]⟩ (fun _ _ _ _ => trivial) ?_ ?_)
      · rintro i d Γ μ hi ⟨x8, x9, x10, x11, x12, rfl, rfl⟩
        have hi' := (List.getElem?_eq_some_iff.mp hi).1
        obtain ⟨u, c, v, q1, q2, q3⟩ := SP' i hi'
        rw [q1] at hi; cases hi
        refine ⟨_, _, gt_tup b.calm (ds := [_, _, _]) (gts_cons (b.tg 8) (gts_cons (b.tg 9) (gts_cons (b.tg 10) gts_nil))), ?_⟩
        refine ex_cons (ex_app (b.v 7) (ev_tup (ds := [kd r (x ++ u), .str c, kd r v]) (ea_cons (b.meth (j := 0) q3 (b.v 0) (ea_cons (b.v 5) (ea_cons (b.v 8) (ea_one (ev_pred (b.v 3))))) rfl (by omega)) (ea_cons (b.v 9) (ea_one (b.v 10))))) rfl ?_ (ex_nil ⟨_, _, _, _, _, rfl, ?_⟩) ⟨_, rfl⟩)
        · rw [sizeLine_eq, List.length_append, List.length_take]; omega
        · rw [List.take_succ, q2, ← List.append_assoc]; rfl
      rintro Γ μ ⟨x8, x9, x10, x11, x12, rfl, rfl⟩
      have e0 : L1 ++ L2.take (canon (rowsD r y)).length = L1 ++ L2 := by rw [List.take_of_length_le (by omega)]
      rw [e0]
      have okF : RowsOk r (L1 ++ L2) := fun z hz => by
        rcases List.mem_append.mp hz with hz | hz
        · obtain ⟨i, hi, e⟩ := List.getElem_of_mem hz
          obtain ⟨d, h1, u, c, v, e1, e2, e3⟩ := paired_get hL1 (i := i) (y := z) (by rw [List.getElem?_eq_getElem hi, e])
          obtain ⟨w1, w2, w3⟩ := wx.split e1
          exact ⟨u, c, v ++ y, w1, w2, Wd.app.mpr ⟨w3, wy⟩, e3⟩
        · obtain ⟨i, hi, e⟩ := List.getElem_of_mem hz
          obtain ⟨d, h1, u, c, v, e1, e2, e3⟩ := paired_get hL2 (i := i) (y := z) (by rw [List.getElem?_eq_getElem hi, e])
          obtain ⟨w1, w2, w3⟩ := wy.split e1
          exact ⟨x ++ u, c, v, Wd.app.mpr ⟨wx, w1⟩, w2, w3, e3⟩
      have eF : PyData.tuple (canon (L1 ++ L2)) = kd (r + 1) (x ++ y) := by
        rw [kd_succ]
        refine congrArg PyData.tuple (canon_eq okF.alike okF.pl (rows_pl (Wd.app.mpr ⟨wx, wy⟩)) fun z => ?_)
        rw [mem_rowsD, List.mem_append]
        constructor
        · rintro (hz | hz)
          · obtain ⟨i, hi, e⟩ := List.getElem_of_mem hz
            obtain ⟨d, h1, u, c, v, e1, e2, e3⟩ := paired_get hL1 (i := i) (y := z) (by rw [List.getElem?_eq_getElem hi, e])
            exact ⟨u, c, v ++ y, by rw [e1]; simp, e3⟩
          · obtain ⟨i, hi, e⟩ := List.getElem_of_mem hz
            obtain ⟨d, h1, u, c, v, e1, e2, e3⟩ := paired_get hL2 (i := i) (y := z) (by rw [List.getElem?_eq_getElem hi, e])
            exact ⟨x ++ u, c, v, by rw [e1]; simp, e3⟩
        · rintro ⟨u, c, v, e, rfl⟩
          rcases app_split e with ⟨t, f1, rfl⟩ | ⟨t, f1, rfl⟩
          · left
            have hm : rowD (kd r u) c (kd r t) ∈ canon (rowsD r x) := (canon_mem (rows_pl wx)).mpr (mem_rowsD.mpr ⟨u, c, t, f1, rfl⟩)
            obtain ⟨i, hi, e0⟩ := List.getElem_of_mem hm
            obtain ⟨z, h1, u', c', v', e1, e2, e3⟩ := paired_get' hL1 (i := i) (by rw [List.getElem?_eq_getElem hi, e0])
            obtain ⟨q1, rfl, q3⟩ := rowD_inj.mp e2
            obtain ⟨w1, w2, w3⟩ := wx.split f1
            obtain ⟨w1', w2', w3'⟩ := wx.split e1
            rw [q1, kd_sum r w3 w3' wy wy q3 rfl, ← e3]
            exact List.mem_of_getElem? h1
          · right
            have hm : rowD (kd r t) c (kd r v) ∈ canon (rowsD r y) := (canon_mem (rows_pl wy)).mpr (mem_rowsD.mpr ⟨t, c, v, f1, rfl⟩)
            obtain ⟨i, hi, e0⟩ := List.getElem_of_mem hm
            obtain ⟨z, h1, u', c', v', e1, e2, e3⟩ := paired_get' hL2 (i := i) (by rw [List.getElem?_eq_getElem hi, e0])
            obtain ⟨q1, rfl, q3⟩ := rowD_inj.mp e2
            obtain ⟨w1, w2, w3⟩ := wy.split f1
            obtain ⟨w1', w2', w3'⟩ := wy.split e1
            rw [kd_sum r wx wx w1 w1' rfl q1, q3, ← e3]
            exact List.mem_of_getElem? h1
      have nF : (L1 ++ L2).length ≤ 60 := by rw [List.length_append]; omega
      generalize L1 ++ L2 = fd at okF eF nF
      have eA : accOf (fun i => match fd[i]? with | some d => if !inD d (fd.take i) then some d else none | none => none) fd.length = dedup fd := by
        rw [firsts_is okF.pl fd.length (Nat.le_refl _) fun i d hd => by simp only [hd], List.take_length]
      refine ex_cons (ex_putT b.un4 (b.tup T.tuple (b.sorted T.sorted (ds := dedup fd) (r := .loc 2) (μ1 := [.dT (S' (canon (rowsD r y)).length), .lst fd, .lst (dedup fd)]) ?lst (.loc rfl) (dedup_ok okF).alike (dedup_ok okF).sortable ((dedup_ok okF).deep (by omega))) (.lst (.loc rfl))) (b.fld A (b.v 0)) (b.v 4) rfl hok hdp ⟨_, rfl⟩ hnew (by have := g1.len; rw [sizeLine_eq]; omega) (ex_nil ?rest))
      case lst =>
        refine EvE.to2 (b.comp (own := [("at", 11), ("row", 12)]) (b.itEL T.enumerate (ds := fd) (b.v 7) (.loc rfl)) (by decide +kernel) (.loc rfl) (by rw [enumD_len]; omega) (fun i => match fd[i]? with | some d => if !inD d (fd.take i) then some d else none | none => none) (fun i d hd => by
          obtain ⟨d', hd', rfl⟩ := enumD_get hd
          obtain ⟨u, c, v, z1, z2, z3, z4⟩ := okF d' (List.mem_of_getElem? hd')
          simp only [hd']
          have tk : RowsOk r (fd.take i) := fun e he => okF e (List.mem_of_mem_take he)
          have hi' := (List.getElem?_eq_some_iff.mp hd').1
          refine turn_if (fun z => gt_tup (b.blk z).calm (ds := [_, _]) (gts_cons ((b.blk z).tg 11) (gts_cons ((b.blk z).tg 12) gts_nil))) (fun z => EvT.cut (ν := [_]) (et_cmp ((b.blk z).v 12) (ev_slL (ds := fd) ((b.blk z).v 7) eo_none (eo_some ((b.blk z).v 11)) (.loc rfl)) (o_nin (ds := fd.take i) b.un (.lst (.loc ?_)) (by rw [z4]; exact row_shaped z1 z2 z3 (by omega)) (pls_lay _ tk.pl)))) (fun _ z => (b.blk z).v 12)
          show some (MO.lst (cutD fd none (some ((0 + i : Nat) : Int)))) = _
          rw [Nat.zero_add, cut_to (by omega)])) rfl (by rw [enumD_len, eA]; rfl)
      have eF' : PyData.tuple (sortD (dedup fd)) = kd (r + 1) (x ++ y) := eF
      rw [eF']
      refine ex_cons (ex_ret (ev_getT (d := kd (r + 1) (x ++ y)) (kvs := S' (canon (rowsD r y)).length ++ [(nk (keyA (kd (r + 1) x) (kd (r + 1) y) (r + 1)), kd (r + 1) (x ++ y))]) b.un4 (b.fld A (b.v 0)) (b.v 4) (fun _ _ => rfl) rfl hok hdp ⟨_, rfl⟩ ?_) ⟨rfl, _, rfl, trivial⟩)
      show valD _ (nk (keyA (kd (r + 1) x) (kd (r + 1) y) (r + 1))) = _
      rw [valD_app, hnew]
      show valD _ _ = _
      rw [valD_one, if_pos rfl]
end
end DL
set_option maxHeartbeats 2000000
/-! kind_sum, kind_power. -/
namespace DL
open PySem PySem.Spec PyProof.Rows L2
theorem kd_nil (r : Nat) : kd r [] = .tuple [] := by
  cases r with
  | zero => rfl
  | succ r => rw [kd_succ]; simp [canon, dedup, sortD, rowsD, splits]
theorem scSum : FnScope ["one", "other", "rounds"] ["one", "other", "rounds"] (defScope sSum) := ⟨rfl, rfl, rfl, by decide +kernel, rfl, by decide +kernel, by decide +kernel⟩
def nPower : List Str := ["kind", "rounds", "times", "adder", "found"]
theorem scPower : FnScope nPower ["kind", "rounds", "times"] (defScope sPower) := ⟨rfl, rfl, rfl, by decide +kernel, rfl, by decide +kernel, by decide +kernel⟩
section
variable {M : Mc} {C : Addr}
theorem cal_added' (T : Tx M) (A : Ad M C) (DL : Df M "lessened" "lessened" sLess ["kind", "rounds"]) {w : Wo} (hw : Wd w) (h0 : w ≠ []) (hl : w.length ≤ 3) {r : Nat} {x y : Wo} {kvs : KT'} (hr : r ≤ 3) (hx : Fc w x) (hy : Fc w y) (hk : KA w kvs) :
    ∃ kvs', KA w kvs' ∧ CalM false M 5 C "added" [.ins C "known" 0, .dat (kd r x), .dat (kd r y), .dat (.int (r : Nat))] [.dT kvs] (.dat (kd r (x ++ y))) [.dT kvs'] := by
  obtain ⟨x', _, fx, lx, ex⟩ := hx.rep hw h0 hl
  obtain ⟨y', _, fy, ly, ey⟩ := hy.rep hw h0 hl
  obtain ⟨kvs', h1, _, h2⟩ := cal_added T A DL hw h0 hl r hr fx fy lx ly hk
  refine ⟨kvs', h1, ?_⟩
  rw [ex r hr, ey r hr, kd_sum r (hx.wd hw) (fx.wd hw) (hy.wd hw) (fy.wd hw) (ex r hr) (ey r hr)]
  exact h2.mono (by omega)
theorem cal_sum (T : Tx M) (A : Ad M C) (D : Df M "kind_sum" "kind_sum" sSum ["one", "other", "rounds"]) (DL : Df M "lessened" "lessened" sLess ["kind", "rounds"]) (DR : Df M "check_rounds" "check_rounds" sChkRounds ["rounds"]) {w : Wo} (hw : Wd w) (h0 : w ≠ []) (hl : w.length ≤ 3) {r : Nat} {x y : Wo} (hr : r ≤ 3) (hx : Fc w x) (hy : Fc w y) :
    Cal false M 6 "kind_sum" [.dat (kd r x), .dat (kd r y), .dat (.int (r : Nat))] [] (.dat (kd r (x ++ y))) [] := by
  obtain ⟨kvs', _, hc⟩ := cal_added' T A DL hw h0 hl hr hx hy (KA.nil w)
  refine cal_of D scSum rfl (by simp) fun X b fn => ?_
  refine ex_cons (ex_expr (b.call (ea_one (b.v 2)) (cal_chkRounds T DR (by omega)) (by omega)) ?_)
  refine ex_cons (ex_ret (b.meth (j := 0) hc (b.make A (by omega)) (ea_cons (b.v 0) (ea_cons (b.v 1) (ea_one (b.v 2)))) rfl (by omega) (ht := mcall_of (abase_call (by decide +kernel)) (fun _ => rfl))) ⟨rfl, _, rfl, trivial⟩)
theorem cal_power (T : Tx M) (A : Ad M C) (D : Df M "kind_power" "kind_power" sPower ["kind", "rounds", "times"]) (DL : Df M "lessened" "lessened" sLess ["kind", "rounds"]) (DR : Df M "check_rounds" "check_rounds" sChkRounds ["rounds"]) {w : Wo} (hw : Wd w) (h0 : w ≠ []) (hl : w.length ≤ 3) {r n : Nat} (hr : r ≤ 3) :
    Cal false M 6 "kind_power" [.dat (kd r w), .dat (.int (r : Nat)), .dat (.int (n : Nat))] [] (.dat (kd r (pw w n))) [] := by
  refine cal_of D scPower rfl (by simp) fun X b fn => ?_
  refine ex_cons (ex_expr (b.call (ea_one (b.v 1)) (cal_chkRounds T DR (by omega)) (by omega)) ?_)
  refine ex_cons (b.asg 3 (b.make A (by omega)) ?_)
  refine ex_cons (b.asg 4 (ev_tup (ds := []) ea_nil) ?_)
  refine ex_cons (ex_while b.hp (fun m Γ μ => ∃ a q kvs, Γ = [some (.dat (kd r (pw w q))), some (.dat (.int (r : Nat))), some (.dat (.int (m : Nat))), some (.ins C "known" 0), some (.dat (kd r (pw w a)))] ∧ μ = [.dT kvs] ∧ KA w kvs ∧ a + q * m = n) n ⟨0, 1, [], by rw [pw_one, pw_zero, kd_nil]; rfl, rfl, KA.nil w, by omega⟩ ?_)
  rintro m Γ μ ⟨a, q, kvs, rfl, rfl, hk, e⟩
  refine ⟨_, _, et_cmp (b.v 2) ev_int o_gt, fun hm => ?_, fun hm => ?_⟩
  · have hm' : 0 < m := by simpa using hm
    have hz := Nat.div_add_mod m 2
    have hh : q * m = q * (2 * (m / 2)) + q * (m % 2) := by rw [← Nat.mul_add, hz]
    have hq2 : (q + q) * (m / 2) = q * (2 * (m / 2)) := by rw [← Nat.two_mul, Nat.mul_comm 2 q, Nat.mul_assoc]
    refine ex_cons (ex_if (et_tru (ev_bin (b.v 2) ev_int (o_mod (by decide)))) (fun odd => ?_) fun odd => ?_)
    · have ho : m % 2 = 1 := by
        have : ((m : Int) % 2 != 0) = true := odd
        simp at this; omega
      obtain ⟨kvs1, hk1, hc1⟩ := cal_added' T A DL hw h0 hl hr (Fc.pw h0 a) (Fc.pw h0 q) hk
      rw [← pw_add] at hc1
      refine ex_cons (b.asg 4 (b.meth (j := 0) hc1 (b.v 3) (ea_cons (b.v 4) (ea_cons (b.v 0) (ea_one (b.v 1)))) rfl (by omega)) (ex_nil ?_))
      obtain ⟨kvs2, hk2, hc2⟩ := cal_added' T A DL hw h0 hl hr (Fc.pw h0 q) (Fc.pw h0 q) hk1
      rw [← pw_add] at hc2
      refine ex_cons (b.asg 0 (b.meth (j := 0) hc2 (b.v 3) (ea_cons (b.v 0) (ea_cons (b.v 0) (ea_one (b.v 1)))) rfl (by omega)) ?_)
      refine ex_cons (ex_augDiv (i := 2) (n := (m : Nat)) (m := 2) ev_int rfl ⟨by decide, by decide⟩ (ex_nil ⟨m / 2, by omega, a + q, q + q, kvs2, ?_, rfl, hk2, ?_⟩) (by rw [b.nn]; exact b.nd) (by rw [b.nn]; rfl) (.inl (b.lc (by decide +kernel))) (.inr (b.lc (by decide +kernel))))
      · rfl
      · rw [ho, Nat.mul_one] at hh; omega
    · have ho : m % 2 = 0 := by
        have : ((m : Int) % 2 != 0) = false := odd
        simp at this; omega
      refine ex_nil ?_
      obtain ⟨kvs2, hk2, hc2⟩ := cal_added' T A DL hw h0 hl hr (Fc.pw h0 q) (Fc.pw h0 q) hk
      rw [← pw_add] at hc2
      refine ex_cons (b.asg 0 (b.meth (j := 0) hc2 (b.v 3) (ea_cons (b.v 0) (ea_cons (b.v 0) (ea_one (b.v 1)))) rfl (by omega)) ?_)
      refine ex_cons (ex_augDiv (i := 2) (n := (m : Nat)) (m := 2) ev_int rfl ⟨by decide, by decide⟩ (ex_nil ⟨m / 2, by omega, a, q + q, kvs2, ?_, rfl, hk2, ?_⟩) (by rw [b.nn]; exact b.nd) (by rw [b.nn]; rfl) (.inl (b.lc (by decide +kernel))) (.inr (b.lc (by decide +kernel))))
      · rfl
      · rw [ho, Nat.mul_zero] at hh; omega
  · have hm' : m = 0 := by
      have : ¬ ((0 : Int) < (m : Nat)) := by simpa using hm
      omega
    subst hm'
    exact ex_cons (ex_ret (b.v 4) ⟨by rw [show n = a by omega], _, rfl, trivial⟩)
end
end DL
set_option maxHeartbeats 2000000
/-! Words with chosen places; what a formula says of them, by the kinds of what lies between. -/
namespace DL
open PySem PySem.Spec PyProof.Rows L2
/-- behind each chosen place: its colour, its names, what follows it -/
abbrev Pl := List (Str × List Str × Wo)
def wordP : Wo → Pl → Wo
  | p, [] => p
  | p, (c, _, q) :: l => p ++ c :: wordP q l
/-- where the place lies that bears a name -/
def locP (x : Str) : Wo → Pl → Option Nat
  | _, [] => none
  | p, (_, ns, q) :: l => if x ∈ ns then some p.length else (locP x q l).map fun n => p.length + 1 + n
/-- which of the places it is -/
def idxP (x : Str) : Pl → Option Nat
  | [] => none
  | (_, ns, _) :: l => if x ∈ ns then some 0 else (idxP x l).map (· + 1)
/-- every choice of a further place, in order -/
def optsP (x : Str) : Wo → Pl → List (Wo × Pl)
  | p, [] => (splits p).map fun s => (s.1, [(s.2.1, [x], s.2.2)])
  | p, (c, ns, q) :: l => ((splits p).map fun s => (s.1, (s.2.1, [x], s.2.2) :: (c, ns, q) :: l)) ++ (p, (c, ns ++ [x], q) :: l) :: (optsP x q l).map fun t => (p, (c, ns, t.1) :: t.2)
def noneP (x : Str) (l : Pl) : Prop := ∀ t ∈ l, x ∉ t.2.1
theorem splits_at {p : Wo} {j : Nat} (h : j < p.length) : ∃ u c v, (splits p)[j]? = some (u, c, v) ∧ p = u ++ c :: v ∧ u.length = j := by
  have hc : p[j]? = some p[j] := List.getElem?_eq_getElem h
  obtain ⟨e1, e2⟩ := (show p = p.take j ++ p[j] :: p.drop (j + 1) ∧ (p.take j).length = j from ⟨by rw [← List.drop_eq_getElem_cons h, List.take_append_drop], by rw [List.length_take]; omega⟩)
  refine ⟨_, _, _, ?_, e1, e2⟩
  have : ∀ {w : Wo} {i : Nat} {c : Str}, w[i]? = some c → (splits w)[i]? = some (w.take i, c, w.drop (i + 1)) := by
    intro w
    induction w with
    | nil => intro i c h; simp at h
    | cons d w ih =>
      intro i c h
      cases i with
      | zero => simp at h; subst h; rfl
      | succ i =>
        simp only [List.getElem?_cons_succ] at h
        simp only [splits, List.getElem?_cons_succ, List.getElem?_map, ih h, Option.map_some, List.take_succ_cons, List.drop_succ_cons]
  exact this hc
theorem wordP_cut {u v : Wo} {c : Str} {ns : List Str} : ∀ (l : Pl), wordP (u ++ c :: v) l = wordP u ((c, ns, v) :: l)
  | [] => rfl
  | (d, ms, q) :: l => by simp [wordP]
theorem locP_cut {y : Str} {u v : Wo} {c : Str} {ns : List Str} (h : y ∉ ns) : ∀ (l : Pl), locP y (u ++ c :: v) l = locP y u ((c, ns, v) :: l)
  | [] => by simp [locP, h]
  | (d, ms, q) :: l => by
    simp only [locP, if_neg h]
    by_cases hy : y ∈ ms
    · simp [hy]; omega
    · simp only [if_neg hy]
      cases locP y q l with
      | none => rfl
      | some n => simp; omega
theorem optsP_len (x : Str) : ∀ (l : Pl) (p : Wo), (optsP x p l).length = (wordP p l).length
  | [], p => by simp [optsP, wordP, splits_len]
  | (c, ns, q) :: l, p => by
    simp only [optsP, wordP, List.length_append, List.length_map, List.length_cons, splits_len, optsP_len x l q]
/-- the j-th choice is the j-th place -/
theorem optsP_get (x : Str) : ∀ (l : Pl) (p : Wo) (j : Nat), noneP x l → j < (wordP p l).length → ∃ t, (optsP x p l)[j]? = some t ∧ wordP t.1 t.2 = wordP p l ∧ locP x t.1 t.2 = some j ∧ ∀ y, y ≠ x → locP y t.1 t.2 = locP y p l
  | [], p, j, hn, hj => by
    have hj' : j < p.length := hj
    obtain ⟨u, c, v, h1, h2, h3⟩ := splits_at hj'
    refine ⟨(u, [(c, [x], v)]), by simp only [optsP, List.getElem?_map, h1, Option.map_some], ?_, ?_, fun y hy => ?_⟩
    · show wordP u [(c, [x], v)] = p
      rw [h2]; rfl
    · show locP x u [(c, [x], v)] = some j
      simp [locP, h3]
    · show locP y u [(c, [x], v)] = locP y p []
      simp [locP, hy]
  | (c, ns, q) :: l, p, j, hn, hj => by
    have hx : x ∉ ns := hn (c, ns, q) List.mem_cons_self
    have hn' : noneP x l := fun t ht => hn t (List.mem_cons_of_mem _ ht)
    rw [wordP, List.length_append, List.length_cons] at hj
    by_cases h1 : j < p.length
    · obtain ⟨u, d, v, g1, g2, g3⟩ := splits_at h1
      refine ⟨(u, (d, [x], v) :: (c, ns, q) :: l), ?_, ?_, ?_, fun y hy => ?_⟩
      · rw [optsP, List.getElem?_append_left (by rw [List.length_map, splits_len]; exact h1), List.getElem?_map, g1]; rfl
      · show wordP u ((d, [x], v) :: (c, ns, q) :: l) = _
        rw [g2, ← wordP_cut]
      · show locP x u ((d, [x], v) :: (c, ns, q) :: l) = _
        simp [locP, g3]
      · show locP y u ((d, [x], v) :: (c, ns, q) :: l) = _
        rw [g2, ← locP_cut (by simpa using hy)]
    · by_cases h2 : j = p.length
      · refine ⟨(p, (c, ns ++ [x], q) :: l), ?_, rfl, ?_, fun y hy => ?_⟩
        · rw [optsP, List.getElem?_append_right (by rw [List.length_map, splits_len]; omega), List.length_map, splits_len, h2, Nat.sub_self]; rfl
        · show locP x p ((c, ns ++ [x], q) :: l) = _
          simp [locP, h2]
        · show locP y p ((c, ns ++ [x], q) :: l) = _
          simp [locP, hy]
      · obtain ⟨k, rfl⟩ : ∃ k, j = p.length + 1 + k := ⟨j - p.length - 1, by omega⟩
        obtain ⟨t, g1, g2, g3, g4⟩ := optsP_get x l q k hn' (by omega)
        refine ⟨(p, (c, ns, t.1) :: t.2), ?_, ?_, ?_, fun y hy => ?_⟩
        · rw [optsP, List.getElem?_append_right (by rw [List.length_map, splits_len]; omega), List.length_map, splits_len, show p.length + 1 + k - p.length = k + 1 by omega, List.getElem?_cons_succ, List.getElem?_map, g1]; rfl
        · show wordP p ((c, ns, t.1) :: t.2) = _
          simp only [wordP, g2]
        · show locP x p ((c, ns, t.1) :: t.2) = _
          simp only [locP, if_neg hx, g3]; rfl
        · show locP y p ((c, ns, t.1) :: t.2) = _
          simp only [locP, g4 y hy]
/-- the order of places is the order of their indices; colours -/
theorem idx_loc {x : Str} : ∀ {l : Pl} {p : Wo} {a : Nat}, locP x p l = some a → ∃ i c ns q, idxP x l = some i ∧ l[i]? = some (c, ns, q) ∧ (wordP p l)[a]? = some c
  | [], p, a, h => by simp [locP] at h
  | (c, ns, q) :: l, p, a, h => by
    by_cases hx : x ∈ ns
    · simp only [locP, if_pos hx, Option.some.injEq] at h
      subst h
      exact ⟨0, c, ns, q, by simp [idxP, hx], rfl, by simp [wordP]⟩
    · simp only [locP, if_neg hx] at h
      cases e : locP x q l with
      | none => rw [e] at h; cases h
      | some b =>
        rw [e] at h
        simp only [Option.map_some, Option.some.injEq] at h
        subst h
        obtain ⟨i, c', ns', q', h1, h2, h3⟩ := idx_loc e
        refine ⟨i + 1, c', ns', q', by simp [idxP, hx, h1], h2, ?_⟩
        rw [wordP, List.getElem?_append_right (by omega), show p.length + 1 + b - p.length = b + 1 by omega, List.getElem?_cons_succ, h3]
theorem idx_lt {x y : Str} : ∀ {l : Pl} {p : Wo} {a b i j : Nat}, locP x p l = some a → locP y p l = some b → idxP x l = some i → idxP y l = some j → (a < b ↔ i < j)
  | [], p, a, b, i, j, h, _, _, _ => by simp [locP] at h
  | (c, ns, q) :: l, p, a, b, i, j, h1, h2, h3, h4 => by
    by_cases hx : x ∈ ns
    · simp only [locP, idxP, if_pos hx, Option.some.injEq] at h1 h3
      by_cases hy : y ∈ ns
      · simp only [locP, idxP, if_pos hy, Option.some.injEq] at h2 h4
        omega
      · simp only [locP, idxP, if_neg hy] at h2 h4
        cases e : locP y q l with
        | none => rw [e] at h2; cases h2
        | some b' =>
          cases e' : idxP y l with
          | none => rw [e'] at h4; cases h4
          | some j' =>
            rw [e] at h2; rw [e'] at h4
            simp at h2 h4
            omega
    · simp only [locP, idxP, if_neg hx] at h1 h3
      cases e : locP x q l with
      | none => rw [e] at h1; cases h1
      | some a' =>
        cases e' : idxP x l with
        | none => rw [e'] at h3; cases h3
        | some i' =>
          rw [e] at h1; rw [e'] at h3
          simp at h1 h3
          by_cases hy : y ∈ ns
          · simp only [locP, idxP, if_pos hy, Option.some.injEq] at h2 h4
            omega
          · simp only [locP, idxP, if_neg hy] at h2 h4
            cases f : locP y q l with
            | none => rw [f] at h2; cases h2
            | some b' =>
              cases f' : idxP y l with
              | none => rw [f'] at h4; cases h4
              | some j' =>
                rw [f] at h2; rw [f'] at h4
                simp at h2 h4
                have := idx_lt e f e' f'
                omega
end DL
set_option maxHeartbeats 2000000
namespace DL
open PySem PySem.Spec PyProof.Rows L2
/-- alike for r rounds -/
def EqP (r : Nat) : Wo → Pl → Wo → Pl → Prop
  | p, [], p', [] => kd r p = kd r p'
  | p, (c, ns, q) :: l, p', (c', ns', q') :: l' => kd r p = kd r p' ∧ c = c' ∧ ns = ns' ∧ EqP r q l q' l'
  | _, _, _, _ => False
theorem EqP.symm {r : Nat} : ∀ {l l' : Pl} {p p' : Wo}, EqP r p l p' l' → EqP r p' l' p l
  | [], [], _, _, h => Eq.symm h
  | (c, ns, q) :: l, (c', ns', q') :: l', p, p', h => ⟨h.1.symm, h.2.1.symm, h.2.2.1.symm, EqP.symm h.2.2.2⟩
  | [], _ :: _, _, _, h => h.elim
  | _ :: _, [], _, _, h => h.elim
theorem wd_word {p : Wo} {c : Str} {ns : List Str} {q : Wo} {l : Pl} (h : Wd (wordP p ((c, ns, q) :: l))) : Wd p ∧ c ∈ abc ∧ Wd (wordP q l) := by
  rw [wordP, Wd.app, Wd.cons] at h
  exact ⟨h.1, h.2.1, h.2.2⟩
theorem wd_piece {l : Pl} {p : Wo} (h : Wd (wordP p l)) : Wd p := by
  cases l with
  | nil => exact h
  | cons t l => obtain ⟨c, ns, q⟩ := t; exact (wd_word h).1
theorem EqP.less {r : Nat} : ∀ {l l' : Pl} {p p' : Wo}, Wd (wordP p l) → Wd (wordP p' l') → EqP (r + 1) p l p' l' → EqP r p l p' l'
  | [], [], p, p', h, h', e => kd_less r h h' e
  | (c, ns, q) :: l, (c', ns', q') :: l', p, p', h, h', e => ⟨kd_less r (wd_word h).1 (wd_word h').1 e.1, e.2.1, e.2.2.1, EqP.less (wd_word h).2.2 (wd_word h').2.2 e.2.2.2⟩
  | [], _ :: _, _, _, _, _, h => h.elim
  | _ :: _, [], _, _, _, _, h => h.elim
theorem EqP.head {r : Nat} {l l' : Pl} {p p' : Wo} (h : EqP r p l p' l') : kd r p = kd r p' := by
  cases l with
  | nil => cases l' with
    | nil => exact h
    | cons t l' => exact h.elim
  | cons t l => cases l' with
    | nil => exact h.elim
    | cons t' l' => obtain ⟨c, ns, q⟩ := t; obtain ⟨c', ns', q'⟩ := t'; exact h.1
/-- the head changed -/
theorem EqP.sub {r : Nat} {l l' : Pl} {p p' v v' : Wo} (h : EqP r p l p' l') (e : kd r v = kd r v') : EqP r v l v' l' := by
  cases l with
  | nil => cases l' with
    | nil => exact e
    | cons t l' => exact h.elim
  | cons t l => cases l' with
    | nil => exact h.elim
    | cons t' l' => obtain ⟨c, ns, q⟩ := t; obtain ⟨c', ns', q'⟩ := t'; exact ⟨e, h.2⟩
theorem EqP.idx {r : Nat} {x : Str} : ∀ {l l' : Pl} {p p' : Wo}, EqP r p l p' l' → idxP x l = idxP x l' ∧ ∀ i : Nat, (l[i]?).map (·.1) = (l'[i]?).map (·.1)
  | [], [], _, _, _ => ⟨rfl, fun _ => rfl⟩
  | (c, ns, q) :: l, (c', ns', q') :: l', p, p', h => by
    obtain ⟨_, e1, e2, e3⟩ := h
    subst e1 e2
    obtain ⟨h1, h2⟩ := EqP.idx (x := x) e3
    refine ⟨by simp only [idxP, h1], fun i => ?_⟩
    cases i with
    | zero => rfl
    | succ i => exact h2 i
  | [], _ :: _, _, _, h => h.elim
  | _ :: _, [], _, _, h => h.elim
/-- a choice is answered -/
theorem EqP.ans {r : Nat} {x : Str} : ∀ {l l' : Pl} {p p' : Wo} {t : Wo × Pl}, Wd (wordP p l) → Wd (wordP p' l') → EqP (r + 1) p l p' l' → t ∈ optsP x p l → ∃ t' ∈ optsP x p' l', EqP r t.1 t.2 t'.1 t'.2
  | [], [], p, p', t, h, h', e, ht => by
    simp only [optsP, List.mem_map] at ht
    obtain ⟨⟨u, c, v⟩, hs, rfl⟩ := ht
    obtain ⟨u', v', s', e1, e2⟩ := kd_ans h h' e (mem_splits.mp hs)
    refine ⟨(u', [(c, [x], v')]), ?_, e1, rfl, rfl, e2⟩
    simp only [optsP, List.mem_map]
    exact ⟨(u', c, v'), mem_splits.mpr s', rfl⟩
  | (c, ns, q) :: l, (c', ns', q') :: l', p, p', t, h, h', e, ht => by
    have e0 := EqP.less h h' e
    obtain ⟨w1, w2, w3⟩ := wd_word h
    obtain ⟨w1', w2', w3'⟩ := wd_word h'
    obtain ⟨f1, f2, f3, f4⟩ := e
    subst f2 f3
    simp only [optsP, List.mem_append, List.mem_cons, List.mem_map] at ht
    rcases ht with ⟨⟨u, d, v⟩, hs, rfl⟩ | rfl | ⟨s, hs, rfl⟩
    · obtain ⟨u', v', s', g1, g2⟩ := kd_ans w1 w1' f1 (mem_splits.mp hs)
      refine ⟨(u', (d, [x], v') :: (c, ns, q') :: l'), ?_, g1, rfl, rfl, g2, rfl, rfl, e0.2.2.2⟩
      simp only [optsP, List.mem_append, List.mem_cons, List.mem_map]
      exact .inl ⟨(u', d, v'), mem_splits.mpr s', rfl⟩
    · refine ⟨(p', (c, ns ++ [x], q') :: l'), ?_, e0.1, rfl, rfl, e0.2.2.2⟩
      simp only [optsP, List.mem_append, List.mem_cons, List.mem_map]
      exact .inr (.inl trivial)
    · obtain ⟨s', h1, h2⟩ := EqP.ans w3 w3' f4 hs
      refine ⟨(p', (c, ns, s'.1) :: s'.2), ?_, e0.1, rfl, rfl, h2⟩
      simp only [optsP, List.mem_append, List.mem_cons, List.mem_map]
      exact .inr (.inr ⟨s', h1, rfl⟩)
  | [], _ :: _, _, _, _, _, _, h, _ => h.elim
  | _ :: _, [], _, _, _, _, _, h, _ => h.elim
theorem optsP_names {x y : Str} (hy : y ≠ x) : ∀ {l : Pl} {p : Wo} {t : Wo × Pl}, noneP y l → t ∈ optsP x p l → noneP y t.2
  | [], p, t, h, ht => by
    simp only [optsP, List.mem_map] at ht
    obtain ⟨s, hs, rfl⟩ := ht
    intro z hz
    rw [List.mem_singleton] at hz; subst hz
    simpa using hy
  | (c, ns, q) :: l, p, t, h, ht => by
    have hn : y ∉ ns := h (c, ns, q) List.mem_cons_self
    have hl : noneP y l := fun z hz => h z (List.mem_cons_of_mem _ hz)
    simp only [optsP, List.mem_append, List.mem_cons, List.mem_map] at ht
    rcases ht with ⟨s, hs, rfl⟩ | rfl | ⟨s, hs, rfl⟩
    · intro z hz
      rcases List.mem_cons.mp hz with rfl | hz
      · simpa using hy
      · exact h z hz
    · intro z hz
      rcases List.mem_cons.mp hz with rfl | hz
      · simp [hn, hy]
      · exact hl z hz
    · intro z hz
      rcases List.mem_cons.mp hz with rfl | hz
      · exact hn
      · exact optsP_names hy hl hs z hz
/-- no name is bound twice -/
def Fo.nb : List Str → Fo → Prop
  | _, .bf _ _ | _, .cl _ _ => True
  | kn, .nt f => f.nb kn
  | kn, .an f g | kn, .im f g => f.nb kn ∧ g.nb kn
  | kn, .sm x f | kn, .ev x f => x ∉ kn ∧ f.nb (kn ++ [x])
/-- the places know just the names of kn, which lie where ρ says -/
structure At (kn : List Str) (ρ : Str → Nat) (p : Wo) (l : Pl) : Prop where
  loc : ∀ x ∈ kn, locP x p l = some (ρ x)
  out : ∀ x, x ∉ kn → noneP x l
theorem At.opt {kn : List Str} {ρ : Str → Nat} {p : Wo} {l : Pl} (h : At kn ρ p l) {x : Str} (hx : x ∉ kn) {j : Nat} {t : Wo × Pl} (ht : t ∈ optsP x p l) (h1 : locP x t.1 t.2 = some j) (h2 : ∀ y, y ≠ x → locP y t.1 t.2 = locP y p l) : At (kn ++ [x]) (up ρ x j) t.1 t.2 where
  loc := fun y hy => by
    unfold up
    by_cases e : y = x
    · subst e; rw [if_pos rfl]; exact h1
    · rw [if_neg e, h2 y e]
      rcases List.mem_append.mp hy with hy | hy
      · exact h.loc y hy
      · rw [List.mem_singleton] at hy; exact absurd hy e
  out := fun y hy => by
    rw [List.mem_append, not_or, List.mem_singleton] at hy
    exact optsP_names hy.2 (h.out y hy.1) ht
/-- every place is a choice, every choice a place -/
theorem At.place {kn : List Str} {ρ : Str → Nat} {p : Wo} {l : Pl} (h : At kn ρ p l) {x : Str} (hx : x ∉ kn) {j : Nat} (hj : j < (wordP p l).length) : ∃ t ∈ optsP x p l, wordP t.1 t.2 = wordP p l ∧ At (kn ++ [x]) (up ρ x j) t.1 t.2 := by
  obtain ⟨t, h1, h2, h3, h4⟩ := optsP_get x l p j (h.out x hx) hj
  exact ⟨t, List.mem_of_getElem? h1, h2, h.opt hx (List.mem_of_getElem? h1) h3 h4⟩
theorem At.choice {kn : List Str} {ρ : Str → Nat} {p : Wo} {l : Pl} (h : At kn ρ p l) {x : Str} (hx : x ∉ kn) {t : Wo × Pl} (ht : t ∈ optsP x p l) : ∃ j, j < (wordP p l).length ∧ wordP t.1 t.2 = wordP p l ∧ At (kn ++ [x]) (up ρ x j) t.1 t.2 := by
  obtain ⟨j, hj, e⟩ := List.getElem_of_mem ht
  have hj' : j < (wordP p l).length := by rw [← optsP_len x]; exact hj
  obtain ⟨t', h1, h2, h3, h4⟩ := optsP_get x l p j (h.out x hx) hj'
  rw [List.getElem?_eq_getElem hj, e] at h1
  cases h1
  exact ⟨j, hj', h2, h.opt hx ht h3 h4⟩
theorem wf_mem {kn : List Str} {x : Str} {ρ : Str → Nat} {p : Wo} {l : Pl} (h : At kn ρ p l) (hx : x ∈ kn) : ∃ i c ns q, idxP x l = some i ∧ l[i]? = some (c, ns, q) ∧ (wordP p l)[ρ x]? = some c := idx_loc (h.loc x hx)
/-- what is alike for r rounds, no formula of r rounds tells apart -/
theorem game : ∀ (f : Fo) {r : Nat} {kn : List Str} {ρ ρ' : Str → Nat} {p p' : Wo} {l l' : Pl}, f.qd ≤ r → f.wf kn → f.nb kn → Wd (wordP p l) → Wd (wordP p' l') → EqP r p l p' l' → At kn ρ p l → At kn ρ' p' l' → f.tr (wordP p l) ρ = f.tr (wordP p' l') ρ'
  | .bf x y, r, kn, ρ, ρ', p, p', l, l', hq, hf, hn, hw, hw', he, ha, ha' => by
    obtain ⟨i, c, ns, q, h1, h2, h3⟩ := wf_mem ha hf.1
    obtain ⟨j, d, ms, s, g1, g2, g3⟩ := wf_mem ha hf.2
    obtain ⟨i', c', ns', q', h1', h2', h3'⟩ := wf_mem ha' hf.1
    obtain ⟨j', d', ms', s', g1', g2', g3'⟩ := wf_mem ha' hf.2
    have e1 := (EqP.idx (x := x) he).1
    have e2 := (EqP.idx (x := y) he).1
    rw [h1, h1'] at e1; rw [g1, g1'] at e2
    cases e1; cases e2
    simp only [Fo.tr]
    rw [Bool.eq_iff_iff, decide_eq_true_iff, decide_eq_true_iff, idx_lt (ha.loc x hf.1) (ha.loc y hf.2) h1 g1, idx_lt (ha'.loc x hf.1) (ha'.loc y hf.2) h1' g1']
  | .cl c x, r, kn, ρ, ρ', p, p', l, l', hq, hf, hn, hw, hw', he, ha, ha' => by
    obtain ⟨i, d, ns, q, h1, h2, h3⟩ := wf_mem ha hf.2
    obtain ⟨i', d', ns', q', h1', h2', h3'⟩ := wf_mem ha' hf.2
    obtain ⟨e1, e2⟩ := EqP.idx (x := x) he
    rw [h1, h1'] at e1; cases e1
    have := e2 i
    rw [h2, h2'] at this
    simp at this
    simp only [Fo.tr]
    rw [h3, h3', this]
  | .nt f, r, kn, ρ, ρ', p, p', l, l', hq, hf, hn, hw, hw', he, ha, ha' => by
    simp only [Fo.tr]; rw [game f hq hf hn hw hw' he ha ha']
  | .an f g, r, kn, ρ, ρ', p, p', l, l', hq, hf, hn, hw, hw', he, ha, ha' => by
    simp only [Fo.qd] at hq
    simp only [Fo.tr]; rw [game f (by omega) hf.1 hn.1 hw hw' he ha ha', game g (by omega) hf.2 hn.2 hw hw' he ha ha']
  | .im f g, r, kn, ρ, ρ', p, p', l, l', hq, hf, hn, hw, hw', he, ha, ha' => by
    simp only [Fo.qd] at hq
    simp only [Fo.tr]; rw [game f (by omega) hf.1 hn.1 hw hw' he ha ha', game g (by omega) hf.2 hn.2 hw hw' he ha ha']
  | .sm x f, 0, kn, ρ, ρ', p, p', l, l', hq, hf, hn, hw, hw', he, ha, ha' => by simp [Fo.qd] at hq
  | .ev x f, 0, kn, ρ, ρ', p, p', l, l', hq, hf, hn, hw, hw', he, ha, ha' => by simp [Fo.qd] at hq
  | .sm x f, r + 1, kn, ρ, ρ', p, p', l, l', hq, hf, hn, hw, hw', he, ha, ha' => by
    simp only [Fo.qd] at hq
    have one : ∀ {ρ ρ' : Str → Nat} {p p' : Wo} {l l' : Pl}, Wd (wordP p l) → Wd (wordP p' l') → EqP (r + 1) p l p' l' → At kn ρ p l → At kn ρ' p' l' → ∀ j, j < (wordP p l).length → ∃ j', j' < (wordP p' l').length ∧ f.tr (wordP p l) (up ρ x j) = f.tr (wordP p' l') (up ρ' x j') := by
      intro ρ ρ' p p' l l' hw hw' he ha ha' j hj
      obtain ⟨t, h1, h2, h3⟩ := ha.place hn.1 hj
      obtain ⟨t', h1', e'⟩ := EqP.ans hw hw' he h1
      obtain ⟨j', g1, g2, g3⟩ := ha'.choice hn.1 h1'
      refine ⟨j', g1, ?_⟩
      rw [← h2, ← g2]
      exact game f (by omega) hf.2 hn.2 (by rw [h2]; exact hw) (by rw [g2]; exact hw') e' h3 g3
    simp only [Fo.tr]
    rw [Bool.eq_iff_iff, List.any_eq_true, List.any_eq_true]
    constructor
    · rintro ⟨j, hj, e⟩
      obtain ⟨j', g1, g2⟩ := one hw hw' he ha ha' j (List.mem_range.mp hj)
      exact ⟨j', List.mem_range.mpr g1, by rw [← g2]; exact e⟩
    · rintro ⟨j, hj, e⟩
      obtain ⟨j', g1, g2⟩ := one hw' hw he.symm ha' ha j (List.mem_range.mp hj)
      exact ⟨j', List.mem_range.mpr g1, by rw [← g2]; exact e⟩
  | .ev x f, r + 1, kn, ρ, ρ', p, p', l, l', hq, hf, hn, hw, hw', he, ha, ha' => by
    simp only [Fo.qd] at hq
    have one : ∀ {ρ ρ' : Str → Nat} {p p' : Wo} {l l' : Pl}, Wd (wordP p l) → Wd (wordP p' l') → EqP (r + 1) p l p' l' → At kn ρ p l → At kn ρ' p' l' → ∀ j, j < (wordP p l).length → ∃ j', j' < (wordP p' l').length ∧ f.tr (wordP p l) (up ρ x j) = f.tr (wordP p' l') (up ρ' x j') := by
      intro ρ ρ' p p' l l' hw hw' he ha ha' j hj
      obtain ⟨t, h1, h2, h3⟩ := ha.place hn.1 hj
      obtain ⟨t', h1', e'⟩ := EqP.ans hw hw' he h1
      obtain ⟨j', g1, g2, g3⟩ := ha'.choice hn.1 h1'
      refine ⟨j', g1, ?_⟩
      rw [← h2, ← g2]
      exact game f (by omega) hf.2 hn.2 (by rw [h2]; exact hw) (by rw [g2]; exact hw') e' h3 g3
    simp only [Fo.tr]
    rw [Bool.eq_iff_iff, List.all_eq_true, List.all_eq_true]
    constructor
    · intro h j hj
      obtain ⟨j', g1, g2⟩ := one hw' hw he.symm ha' ha j (List.mem_range.mp hj)
      rw [g2]; exact h j' (List.mem_range.mpr g1)
    · intro h j hj
      obtain ⟨j', g1, g2⟩ := one hw hw' he ha ha' j (List.mem_range.mp hj)
      rw [g2]; exact h j' (List.mem_range.mpr g1)
end DL
set_option maxHeartbeats 2000000
/-! place_of, freed. -/
namespace DL
open PySem PySem.Spec PyProof.Rows L2
def pcs (p : Wo) (l : Pl) : List Wo := p :: l.map (·.2.2)
def ptD1 (t : Str × List Str × Wo) : PyData := .tuple [.str t.1, knD t.2.1]
def ptD (l : Pl) : List PyData := l.map ptD1
def pcD (r : Nat) (p : Wo) (l : Pl) : List PyData := (pcs p l).map (kd r)
/-- the names are names -/
def NmP (l : Pl) : Prop := ∀ t ∈ l, ∀ y ∈ t.2.1, Nm y
theorem idxP_spec {x : Str} : ∀ {l : Pl} {i : Nat}, idxP x l = some i → (∀ (j : Nat) t, j < i → l[j]? = some t → x ∉ t.2.1) ∧ ∃ t, l[i]? = some t ∧ x ∈ t.2.1
  | [], i, h => by simp [idxP] at h
  | (c, ns, q) :: l, i, h => by
    by_cases hx : x ∈ ns
    · simp only [idxP, if_pos hx, Option.some.injEq] at h
      subst h
      exact ⟨fun j t hj => by omega, _, rfl, hx⟩
    · simp only [idxP, if_neg hx] at h
      cases e : idxP x l with
      | none => rw [e] at h; cases h
      | some k =>
        rw [e] at h
        simp only [Option.map_some, Option.some.injEq] at h
        subst h
        obtain ⟨h1, h2⟩ := idxP_spec e
        refine ⟨fun j t hj ht => ?_, h2⟩
        cases j with
        | zero => simp at ht; subst ht; exact hx
        | succ j => exact h1 j t (by omega) ht
theorem accOf_first {L : Nat → Option PyData} {i : Nat} {d : PyData} (h0 : ∀ j, j < i → L j = none) (hi : L i = some d) : ∀ n, i < n → ∃ tl, accOf L n = d :: tl
  | 0, h => by omega
  | n + 1, h => by
    have e : ∀ k, k ≤ i → accOf L k = [] := by
      intro k
      induction k with
      | zero => intro _; rfl
      | succ k ih => intro hk; unfold accOf; rw [ih (by omega), h0 k (by omega)]; rfl
    by_cases q : i = n
    · subst q
      unfold accOf
      rw [e i (Nat.le_refl _), hi]; exact ⟨[], rfl⟩
    · obtain ⟨tl, ht⟩ := accOf_first h0 hi n (by omega)
      unfold accOf
      rw [ht]; exact ⟨_, rfl⟩
def nPlaceOf : List Str := ["points", "name", "at", "colour", "names"]
theorem scPlaceOf : FnScope nPlaceOf ["points", "name"] (defScope sPlaceOf) := ⟨rfl, rfl, rfl, by decide +kernel, rfl, by decide +kernel, by decide +kernel⟩
def nFreed : List Str := ["points", "name", "one", "colour", "names"]
theorem scFreed : FnScope nFreed ["points", "name"] (defScope sFreed) := ⟨rfl, rfl, rfl, by decide +kernel, rfl, by decide +kernel, by decide +kernel⟩
section
variable {M : Mc}
theorem cal_placeOf (T : Tx M) (D : Df M "place_of" "place_of" sPlaceOf ["points", "name"]) {l : Pl} {x : Str} {i : Nat} (hx : Nm x) (hn : NmP l) (hl : l.length ≤ 1000) (h : idxP x l = some i) : Cal false M 1 "place_of" [.dat (.list (ptD l)), .dat (.str x)] [] (.dat (.int (i : Nat))) [] := by
  obtain ⟨h1, t, h2, h3⟩ := idxP_spec h
  have hi := (List.getElem?_eq_some_iff.mp h2).1
  refine cal_of D scPlaceOf rfl (by simp) fun X b fn => ?_
  refine ex_cons (ex_ret (EvE.dat (ν := [_]) (ev_ix (d := .int (i : Nat)) (b.comp (own := [("at", 2), ("colour", 3), ("names", 4)]) (b.itEL T.enumerate (ds := ptD l) (b.v 0) (.dat _)) (by decide +kernel) (.dat _) (by rw [enumD_len]; simp [ptD]; omega) (fun j => match l[j]? with | some t => if decide (x ∈ t.2.1) then some (.int ((0 + j : Nat) : Int)) else none | none => none) ?_) ev_int (fun _ _ => rfl) (.lst (.loc rfl)) ?_)) ⟨rfl, _, rfl, trivial⟩)
  · intro j d hd
    obtain ⟨d', hd', rfl⟩ := enumD_get hd
    unfold ptD at hd'
    rw [List.getElem?_map] at hd'
    cases e : l[j]? with
    | none => rw [e] at hd'; cases hd'
    | some t' =>
      rw [e] at hd'; cases hd'
      have hm := List.mem_of_getElem? e
      refine turn_if (fun z => gt_tup (b.blk z).calm (ds := [_, _]) (gts_cons ((b.blk z).tg 2) (gts_cons (gt_tup (b.blk z).calm (ds := [_, _]) (gts_cons ((b.blk z).tg 3) (gts_cons ((b.blk z).tg 4) gts_nil))) gts_nil))) (fun z => (et_cmp ((b.blk z).v 1) ((b.blk z).v 4) (o_in (ds := t'.2.1.map .str) b.un (.tup _) hx.shaped (nms_lay fun y hy => hn t' hm y hy))).to inD_str) (fun _ z => (b.blk z).v 2)
  · obtain ⟨tl, ht⟩ := accOf_first (L := fun j => match l[j]? with | some t => if decide (x ∈ t.2.1) then some (.int ((0 + j : Nat) : Int)) else none | none => none) (i := i) (d := .int (i : Nat)) (fun j hj => by
        cases e : l[j]? with
        | none => rfl
        | some t' => simp [h1 j t' hj e]) (by simp [h2, h3]) (enumD 0 (ptD l)).length (by rw [enumD_len]; simp [ptD]; exact hi)
    rw [ht]; exact atI_nat (i := 0) rfl
theorem filter_none {ns : List Str} {x : Str} (h : x ∉ ns) : ∀ n, n ≤ ns.length → accOf (fun j => match ns[j]? with | some y => if !decide (y = x) then some (.str y) else none | none => none) n = (ns.take n).map .str
  | 0, _ => by simp [accOf]
  | n + 1, hn => by
    have e : ns[n]? = some ns[n] := List.getElem?_eq_getElem (by omega)
    have q : ns[n] ≠ x := fun z => h (z ▸ List.getElem_mem _)
    unfold accOf
    rw [filter_none h n (by omega), e, List.take_succ, e, List.map_append]
    simp [q]
theorem cal_freed (T : Tx M) (D : Df M "freed" "freed" sFreed ["points", "name"]) {l : Pl} {x : Str} (hl : l.length ≤ 1000) (hs : ∀ t ∈ l, t.2.1.length ≤ 1000) (h : noneP x l) : Cal false M 1 "freed" [.dat (.list (ptD l)), .dat (.str x)] [] (.dat (.list (ptD l))) [] := by
  refine cal_of D scFreed rfl (by simp) fun X b fn => ?_
  refine ex_cons (ex_ret (EvE.fixG (b.map (ys := ptD l) (own := [("colour", 3), ("names", 4)]) (it_list (b.v 0) (.dat _)) (by decide +kernel) (.dat _) (by simp [ptD]; omega) rfl ?_) (Nat.le_refl _)) ⟨rfl, _, rfl, trivial⟩)
  intro j d y hd hy
  rw [hd] at hy; cases hy
  unfold ptD at hd
  rw [List.getElem?_map] at hd
  cases e : l[j]? with
  | none => rw [e] at hd; cases hd
  | some t =>
    rw [e] at hd; cases hd
    have hm := List.mem_of_getElem? e
    refine turn_one (fun z => gt_tup (b.blk z).calm (ds := [_, _]) (gts_cons ((b.blk z).tg 3) (gts_cons ((b.blk z).tg 4) gts_nil))) (fun z => EvE.dat (ν := [_]) (ev_tup (ds := [.str t.1, knD t.2.1]) (ea_cons ((b.blk z).v 3) (ea_one ((b.blk z).tup T.tuple (EvE.to2 ((b.blk z).comp (own := [("one", 2)]) (it_tup (ds := t.2.1.map .str) ((b.blk z).v 4)) (by decide +kernel) trivial (by simp; have := hs t hm; omega) (fun j => match t.2.1[j]? with | some y => if !decide (y = x) then some (.str y) else none | none => none) ?_) rfl (congrArg (fun w => [MO.lst w]) (filter_none (h t hm) _ (by simp)))) (.lst (.loc ?_)))))))
    · intro i d hd
      rw [List.getElem?_map] at hd
      cases e' : t.2.1[i]? with
      | none => rw [e'] at hd; cases hd
      | some y =>
        rw [e'] at hd; cases hd
        exact turn_if (fun z' => ((b.blk z).blk z').tg 2) (fun z' => et_cmp (((b.blk z).blk z').v 2) (((b.blk z).blk z').v 1) o_neS) (fun _ z' => ((b.blk z).blk z').v 2)
    · simp
end
end DL
set_option maxHeartbeats 2000000
/-! The choices by their indices. -/
namespace DL
open PySem PySem.Spec PyProof.Rows L2
def isA (x : Str) (p : Wo) (l : Pl) (i : Nat) (c : Str) (ns : List Str) (t : Wo × Pl) : Prop :=
  pcs t.1 t.2 = pcs p l ∧ ptD t.2 = (ptD l).take i ++ [.tuple [.str c, knD (ns ++ [x])]] ++ (ptD l).drop (i + 1)
def isB (x : Str) (p : Wo) (l : Pl) (i : Nat) (u : Wo) (c : Str) (v : Wo) (t : Wo × Pl) : Prop :=
  pcs t.1 t.2 = (pcs p l).take i ++ [u, v] ++ (pcs p l).drop (i + 1) ∧ ptD t.2 = (ptD l).take i ++ [.tuple [.str c, knD [x]]] ++ (ptD l).drop i
theorem pcs_cons (p : Wo) (c : Str) (ns : List Str) (q : Wo) (l : Pl) : pcs p ((c, ns, q) :: l) = p :: pcs q l := rfl
theorem ptD_cons (t : Str × List Str × Wo) (l : Pl) : ptD (t :: l) = ptD1 t :: ptD l := rfl
theorem opt_out {x : Str} : ∀ {l : Pl} {p : Wo} {t : Wo × Pl}, t ∈ optsP x p l → (∃ i c ns q, l[i]? = some (c, ns, q) ∧ isA x p l i c ns t) ∨ ∃ i u c v, (pcs p l)[i]? = some (u ++ c :: v) ∧ isB x p l i u c v t
  | [], p, t, ht => by
    simp only [optsP, List.mem_map] at ht
    obtain ⟨⟨u, c, v⟩, hs, rfl⟩ := ht
    have e := mem_splits.mp hs
    exact .inr ⟨0, u, c, v, by rw [← e]; rfl, rfl, rfl⟩
  | (c, ns, q) :: l, p, t, ht => by
    simp only [optsP, List.mem_append, List.mem_cons, List.mem_map] at ht
    rcases ht with ⟨⟨u, d, v⟩, hs, rfl⟩ | rfl | ⟨s, hs, rfl⟩
    · have e := mem_splits.mp hs
      exact .inr ⟨0, u, d, v, by rw [← e]; rfl, rfl, rfl⟩
    · exact .inl ⟨0, c, ns, q, rfl, rfl, rfl⟩
    · rcases opt_out hs with ⟨i, d, ms, s', h1, h2, h3⟩ | ⟨i, u, d, v, h1, h2, h3⟩
      · refine .inl ⟨i + 1, d, ms, s', h1, ?_, ?_⟩
        · show pcs p ((c, ns, s.1) :: s.2) = _
          rw [pcs_cons, pcs_cons, h2]
        · show ptD ((c, ns, s.1) :: s.2) = _
          rw [ptD_cons, h3]; rfl
      · refine .inr ⟨i + 1, u, d, v, h1, ?_, ?_⟩
        · show pcs p ((c, ns, s.1) :: s.2) = _
          rw [pcs_cons, pcs_cons, h2]; rfl
        · show ptD ((c, ns, s.1) :: s.2) = _
          rw [ptD_cons, h3]; rfl
theorem opt_A {x : Str} : ∀ {l : Pl} {p : Wo} {i : Nat} {c : Str} {ns : List Str} {q : Wo}, l[i]? = some (c, ns, q) → ∃ t ∈ optsP x p l, isA x p l i c ns t
  | [], p, i, c, ns, q, h => by simp at h
  | (d, ms, s) :: l, p, 0, c, ns, q, h => by
    simp only [List.getElem?_cons_zero, Option.some.injEq, Prod.mk.injEq] at h
    obtain ⟨rfl, rfl, rfl⟩ := h
    refine ⟨(p, (d, ms ++ [x], s) :: l), ?_, rfl, rfl⟩
    simp only [optsP, List.mem_append, List.mem_cons]
    exact .inr (.inl trivial)
  | (d, ms, s) :: l, p, i + 1, c, ns, q, h => by
    obtain ⟨t, h1, h2, h3⟩ := opt_A (x := x) (p := s) (l := l) (i := i) h
    refine ⟨(p, (d, ms, t.1) :: t.2), ?_, ?_, ?_⟩
    · simp only [optsP, List.mem_append, List.mem_cons, List.mem_map]
      exact .inr (.inr ⟨t, h1, rfl⟩)
    · show pcs p ((d, ms, t.1) :: t.2) = _
      rw [pcs_cons, pcs_cons, h2]
    · show ptD ((d, ms, t.1) :: t.2) = _
      rw [ptD_cons, h3]; rfl
theorem opt_B {x : Str} : ∀ {l : Pl} {p : Wo} {i : Nat} {u v : Wo} {c : Str}, (pcs p l)[i]? = some (u ++ c :: v) → ∃ t ∈ optsP x p l, isB x p l i u c v t
  | [], p, 0, u, v, c, h => by
    have e : p = u ++ c :: v := Option.some.inj h
    refine ⟨(u, [(c, [x], v)]), ?_, rfl, rfl⟩
    simp only [optsP, List.mem_map]
    exact ⟨(u, c, v), mem_splits.mpr e, rfl⟩
  | [], p, i + 1, u, v, c, h => by simp [pcs] at h
  | (d, ms, s) :: l, p, 0, u, v, c, h => by
    have e : p = u ++ c :: v := Option.some.inj h
    refine ⟨(u, (c, [x], v) :: (d, ms, s) :: l), ?_, rfl, rfl⟩
    simp only [optsP, List.mem_append, List.mem_map]
    exact .inl ⟨(u, c, v), mem_splits.mpr e, rfl⟩
  | (d, ms, s) :: l, p, i + 1, u, v, c, h => by
    obtain ⟨t, h1, h2, h3⟩ := opt_B (x := x) (p := s) (l := l) (i := i) h
    refine ⟨(p, (d, ms, t.1) :: t.2), ?_, ?_, ?_⟩
    · simp only [optsP, List.mem_append, List.mem_cons, List.mem_map]
      exact .inr (.inr ⟨t, h1, rfl⟩)
    · show pcs p ((d, ms, t.1) :: t.2) = _
      rw [pcs_cons, pcs_cons, h2]; rfl
    · show ptD ((d, ms, t.1) :: t.2) = _
      rw [ptD_cons, h3]; rfl
def stD (r : Nat) (t : Wo × Pl) : PyData := .tuple [.list (pcD r t.1 t.2), .list (ptD t.2)]
/-- the program's items -/
def itA (x : Str) (r : Nat) (p : Wo) (l : Pl) (i : Nat) : PyData := match l[i]? with
  | some (c, ns, _) => .tuple [.list (pcD r p l), .list ((ptD l).take i ++ [.tuple [.str c, knD (ns ++ [x])]] ++ (ptD l).drop (i + 1))]
  | none => .none
def itB (x : Str) (r : Nat) (p : Wo) (l : Pl) (i : Nat) : PyData → PyData
  | .tuple [a, .str c, b] => .tuple [.list ((pcD r p l).take i ++ [a, b] ++ (pcD r p l).drop (i + 1)), .list ((ptD l).take i ++ [.tuple [.str c, knD [x]]] ++ (ptD l).drop i)]
  | _ => .none
def rowsI (r : Nat) (p : Wo) (l : Pl) (i : Nat) : List PyData := match (pcs p l)[i]? with
  | some q => canon (rowsD r q)
  | none => []
def chD (x : Str) (r : Nat) (p : Wo) (l : Pl) : List PyData := ((List.range l.length).map (itA x r p l)) ++ (List.range (pcs p l).length).flatMap fun i => (rowsI r p l i).map (itB x r p l i)
theorem pcs_wd : ∀ {l : Pl} {p : Wo}, Wd (wordP p l) → ∀ q ∈ pcs p l, Wd q
  | [], p, h, q, hq => by
    simp only [pcs, List.map_nil, List.mem_singleton] at hq
    exact hq ▸ h
  | (c, ns, s) :: l, p, h, q, hq => by
    rw [pcs_cons, List.mem_cons] at hq
    obtain ⟨h1, _, h2⟩ := wd_word h
    rcases hq with rfl | hq
    · exact h1
    · exact pcs_wd h2 q hq
theorem pcs_len (p : Wo) (l : Pl) : (pcs p l).length = l.length + 1 := by simp [pcs]
theorem isB_st {x : Str} {r : Nat} {p : Wo} {l : Pl} {i : Nat} {u v : Wo} {c : Str} {t : Wo × Pl} (h : isB x p l i u c v t) : stD r t = itB x r p l i (rowD (kd r u) c (kd r v)) := by
  obtain ⟨h1, h2⟩ := h
  unfold stD pcD
  rw [h1, h2]
  simp only [rowD, itB, pcD, List.map_append, List.map_take, List.map_drop, List.map_cons, List.map_nil]
theorem isA_st {x : Str} {r : Nat} {p : Wo} {l : Pl} {i : Nat} {c : Str} {ns : List Str} {q : Wo} {t : Wo × Pl} (hi : l[i]? = some (c, ns, q)) (h : isA x p l i c ns t) : stD r t = itA x r p l i := by
  obtain ⟨h1, h2⟩ := h
  unfold stD pcD itA
  rw [h1, h2, hi]; rfl
theorem chD_out {x : Str} {r : Nat} {p : Wo} {l : Pl} (hw : Wd (wordP p l)) {d : PyData} (h : d ∈ chD x r p l) : ∃ t ∈ optsP x p l, d = stD r t := by
  unfold chD at h
  rcases List.mem_append.mp h with h | h
  · obtain ⟨i, hi, rfl⟩ := List.mem_map.mp h
    obtain ⟨⟨c, ns, q⟩, e⟩ : ∃ z, l[i]? = some z := ⟨_, List.getElem?_eq_getElem (List.mem_range.mp hi)⟩
    obtain ⟨t, h1, h2⟩ := opt_A (x := x) (p := p) e
    exact ⟨t, h1, (isA_st e h2).symm⟩
  · obtain ⟨i, hi, h⟩ := List.mem_flatMap.mp h
    obtain ⟨row, hr, rfl⟩ := List.mem_map.mp h
    obtain ⟨q, e⟩ : ∃ z, (pcs p l)[i]? = some z := ⟨_, List.getElem?_eq_getElem (List.mem_range.mp hi)⟩
    unfold rowsI at hr
    rw [e] at hr
    have wq : Wd q := pcs_wd hw _ (List.mem_of_getElem? e)
    simp only [canon_mem (rows_pl wq)] at hr
    obtain ⟨u, c, v, e1, rfl⟩ := mem_rowsD.mp hr
    rw [e1] at e
    obtain ⟨t, h1, h2⟩ := opt_B (x := x) e
    exact ⟨t, h1, (isB_st h2).symm⟩
theorem chD_in {x : Str} {r : Nat} {p : Wo} {l : Pl} (hw : Wd (wordP p l)) {t : Wo × Pl} (h : t ∈ optsP x p l) : stD r t ∈ chD x r p l := by
  unfold chD
  rw [List.mem_append]
  rcases opt_out h with ⟨i, c, ns, q, h1, h2⟩ | ⟨i, u, c, v, h1, h2⟩
  · left
    rw [isA_st h1 h2]
    exact List.mem_map_of_mem (List.mem_range.mpr (List.getElem?_eq_some_iff.mp h1).1)
  · right
    rw [isB_st h2, List.mem_flatMap]
    refine ⟨i, List.mem_range.mpr (List.getElem?_eq_some_iff.mp h1).1, List.mem_map_of_mem ?_⟩
    unfold rowsI
    rw [h1]
    exact (canon_mem (rows_pl (pcs_wd hw _ (List.mem_of_getElem? h1)))).mpr (mem_rowsD.mpr ⟨u, c, v, rfl, rfl⟩)
/-- .. few -/
theorem chD_len {x : Str} {r : Nat} {p : Wo} {l : Pl} {n : Nat} (h : ∀ q ∈ pcs p l, q.length ≤ n) : (chD x r p l).length ≤ l.length + (l.length + 1) * n := by
  unfold chD
  rw [List.length_append, List.length_map, List.length_range, ← pcs_len p l]
  have : ∀ k, k ≤ (pcs p l).length → ((List.range k).flatMap fun i => (rowsI r p l i).map (itB x r p l i)).length ≤ k * n := by
    intro k
    induction k with
    | zero => intro _; simp
    | succ k ih =>
      intro hk
      rw [List.range_succ, List.flatMap_append, List.length_append, Nat.add_mul, Nat.one_mul]
      obtain ⟨q, e⟩ : ∃ z, (pcs p l)[k]? = some z := ⟨_, List.getElem?_eq_getElem (by omega)⟩
      have : (rowsI r p l k).length ≤ n := by
        unfold rowsI; rw [e]
        exact Nat.le_trans (canon_len _) (by rw [rowsD_len]; exact h _ (List.mem_of_getElem? e))
      have := ih (by omega)
      simp only [List.flatMap_cons, List.flatMap_nil, List.append_nil, List.length_map]
      omega
  have := this _ (Nat.le_refl _)
  omega
end DL
set_option maxHeartbeats 2000000
/-! choices. -/
namespace DL
open PySem PySem.Spec PyProof.Rows L2
theorem ev_cat3 {X : Cx} {Γ : Gm} {μ : Sto} {a b c : Expr} {A B D : List PyData} {p1 p2 : Pos} (h1 : EvE X Γ μ a (.loc μ.length) (μ ++ [MO.lst A])) (h2 : EvE X Γ (μ ++ [MO.lst A]) b (.loc (μ ++ [MO.lst A]).length) (μ ++ [MO.lst A] ++ [MO.lst B]))
    (h3 : EvE X Γ (μ ++ [MO.lst A] ++ [MO.lst B] ++ [MO.lst (A ++ B)]) c (.loc (μ ++ [MO.lst A] ++ [MO.lst B] ++ [MO.lst (A ++ B)]).length) (μ ++ [MO.lst A] ++ [MO.lst B] ++ [MO.lst (A ++ B)] ++ [MO.lst D])) (hz : A.length + B.length + D.length ≤ 10000) : EvE X Γ μ (.BinOp (.BinOp a .Add b p1) .Add c p2) (.dat (.list (A ++ B ++ D))) μ := by
  have o1 : OpE X (binaryOp .Add) Γ (μ ++ [MO.lst A] ++ [MO.lst B]) (.loc μ.length) (.loc (μ ++ [MO.lst A]).length) (.loc (μ ++ [MO.lst A] ++ [MO.lst B]).length) (μ ++ [MO.lst A] ++ [MO.lst B] ++ [MO.lst (A ++ B)]) := o_catL (by simp) (by simp) (by rw [sizeLine_eq]; omega)
  have o2 : OpE X (binaryOp .Add) Γ (μ ++ [MO.lst A] ++ [MO.lst B] ++ [MO.lst (A ++ B)] ++ [MO.lst D]) (.loc (μ ++ [MO.lst A] ++ [MO.lst B]).length) (.loc (μ ++ [MO.lst A] ++ [MO.lst B] ++ [MO.lst (A ++ B)]).length) (.loc (μ ++ [MO.lst A] ++ [MO.lst B] ++ [MO.lst (A ++ B)] ++ [MO.lst D]).length) (μ ++ [MO.lst A] ++ [MO.lst B] ++ [MO.lst (A ++ B)] ++ [MO.lst D] ++ [MO.lst (A ++ B ++ D)]) := o_catL (ds := A ++ B) (by simp) (by simp) (by rw [sizeLine_eq, List.length_append]; omega)
  have e := ev_bin (pos := p2) (ev_bin (pos := p1) h1 h2 o1) h3 o2
  refine EvE.frz (ν := [MO.lst A, MO.lst B, MO.lst (A ++ B), MO.lst D]) (n := (μ ++ [MO.lst A] ++ [MO.lst B] ++ [MO.lst (A ++ B)] ++ [MO.lst D]).length) ?_ (by simp)
  have q : μ ++ [MO.lst A] ++ [MO.lst B] ++ [MO.lst (A ++ B)] ++ [MO.lst D] ++ [MO.lst (A ++ B ++ D)] = μ ++ [MO.lst A, MO.lst B, MO.lst (A ++ B), MO.lst D] ++ [MO.lst (A ++ B ++ D)] := by simp
  rw [q] at e
  exact e
def nChoices : List Str := ["name", "rounds", "pieces", "points", "piece", "less", "found", "at", "colour", "names", "left", "right", "own"]
theorem scChoices : FnScope nChoices ["name", "rounds", "pieces", "points"] (defScope sChoices) := ⟨rfl, rfl, rfl, by decide +kernel, rfl, by decide +kernel, by decide +kernel⟩
section
variable {M : Mc}
theorem cal_choices (T : Tx M) (D : Df M "choices" "choices" sChoices ["name", "rounds", "pieces", "points"]) (DL : Df M "lessened" "lessened" sLess ["kind", "rounds"]) (DF : Df M "freed" "freed" sFreed ["points", "name"]) {r : Nat} {x : Str} {p : Wo} {l : Pl} (hr : r ≤ 10) (hw : Wd (wordP p l)) (hq : ∀ q ∈ pcs p l, q.length ≤ 500) (hl : l.length ≤ 10) (hs : ∀ t ∈ l, t.2.1.length ≤ 100) (hx : noneP x l) :
    Cal false M (r + 2) "choices" [.dat (.str x), .dat (.int ((r + 1 : Nat) : Int)), .dat (.list (pcD (r + 1) p l)), .dat (.list (ptD l))] [] (.loc 0) [.lst (chD x r p l)] := by
  have hpl := pcs_len p l
  refine cal_of D scChoices rfl (by simp) fun X b fn => ?_
  refine ex_cons (b.asg 3 (b.call (ea_cons (b.v 3) (ea_one (b.v 0))) (cal_freed T DF (by omega) (fun t ht => by have := hs t ht; omega) hx) (by omega)) ?_)
  refine ex_cons (b.setMap 5 (ys := pcD r p l) (own := [("piece", 4)]) (it_list (b.v 2) (.dat _)) (by decide +kernel) (.dat _) (by simp [pcD, pcs]; omega) (by simp [pcD]) (Nat.le_refl _) ?_ ?_)
  · intro i d y hd hy
    unfold pcD at hd hy
    rw [List.getElem?_map] at hd hy
    cases e : (pcs p l)[i]? with
    | none => rw [e] at hd; cases hd
    | some q =>
      rw [e] at hd hy; cases hd; cases hy
      have hm := List.mem_of_getElem? e
      exact turn_one (fun z => (b.blk z).tg 4) (fun z => (b.blk z).call (ea_cons ((b.blk z).v 4) (ea_one ((b.blk z).v 1))) (cal_less T.toTx0 DL r (by omega) (pcs_wd hw q hm) (by have := hq q hm; omega)) (by omega))
  refine ex_cons (b.asg 6 (ev_lst (ds := []) ea_nil) ?_)
  refine ex_cons (ex_for b.hp b.calm (b.itEL T.enumerate (ds := ptD l) (b.v 3) (.dat _)) (fun i Γ μ => ∃ x4 x7 x8 x9 x10 x11 x12, Γ = [some (.dat (.str x)), some (.dat (.int ((r + 1 : Nat) : Int))), some (.dat (.list (pcD (r + 1) p l))), some (.dat (.list (ptD l))), x4, some (.dat (.list (pcD r p l))), some (.loc 0), x7, x8, x9, x10, x11, x12] ∧ μ = [.lst ((List.range i).map (itA x r p l))]) ⟨_, _, _, _, _, _, _, rfl, rfl⟩ (fun _ _ _ _ => .dat _) ?_ ?_)
  · rintro i d Γ μ hi ⟨x4, x7, x8, x9, x10, x11, x12, rfl, rfl⟩
    obtain ⟨d', hd', rfl⟩ := enumD_get hi
    unfold ptD at hd'
    rw [List.getElem?_map] at hd'
    cases e : l[i]? with
    | none => rw [e] at hd'; cases hd'
    | some t =>
      rw [e] at hd'; cases hd'
      obtain ⟨c, ns, q⟩ := t
      have hi' := (List.getElem?_eq_some_iff.mp e).1
      have hns := hs _ (List.mem_of_getElem? e)
      have lp : (ptD l).length = l.length := by simp [ptD]
      refine ⟨_, _, gt_tup b.calm (ds := [_, _]) (gts_cons (b.tg 7) (gts_cons (gt_tup b.calm (ds := [_, _]) (gts_cons (b.tg 8) (gts_cons (b.tg 9) gts_nil))) gts_nil)), ?_⟩
      have a1 : cutD (ptD l) none (some ((0 + i : Nat) : Int)) = (ptD l).take i := by rw [Nat.zero_add, cut_to (by omega)]
      have a2 : cutD (ptD l) (some (((0 + i : Nat) : Int) + 1)) none = (ptD l).drop (i + 1) := by
        rw [Nat.zero_add, show (i : Int) + 1 = ((i + 1 : Nat) : Int) by omega, cut_from (by omega)]
      have a3 : AV.dat (.tuple (ns.map .str ++ [.str x])) = .dat (knD (ns ++ [x])) := by simp [knD]
      refine ex_cons (ex_app (ds := (List.range i).map (itA x r p l)) (b.v 6) (ev_tup (ds := [.list (pcD r p l), .list ((ptD l).take i ++ [.tuple [.str c, knD (ns ++ [x])]] ++ (ptD l).drop (i + 1))]) (ea_cons (b.v 5) (ea_one (ev_cat3 (EvE.to2 (ev_slL (ds := ptD l) (b.v 3) eo_none (eo_some (b.v 7)) (.dat _)) rfl (by rw [a1])) (ev_lst (ds := [.tuple [.str c, knD (ns ++ [x])]]) (ea_one (ev_tup (ds := [.str c, knD (ns ++ [x])]) (ea_cons (b.v 8) (ea_one ((ev_bin (b.v 9) (ev_tup (ds := [.str x]) (ea_one (b.v 0))) (o_catT (ds := ns.map .str) (by rw [sizeLine_eq]; simp; simp at hns; omega))).to a3)))))) (EvE.to2 (ev_slL (ds := ptD l) (b.v 3) (eo_some (ev_bin (b.v 7) ev_int o_add)) eo_none (.dat _)) rfl (by rw [a2])) ?_)))) rfl ?_ (ex_nil ⟨_, _, _, _, _, _, _, rfl, ?_⟩) ⟨_, rfl⟩)
      · rw [List.length_take, List.length_drop]; simp; omega
      · rw [sizeLine_eq]; simp; omega
      · rw [List.range_succ, List.map_append]
        show [MO.lst _] = [MO.lst _]
        simp [itA, e]
  · rintro Γ μ ⟨x4, x7, x8, x9, x10, x11, x12, rfl, rfl⟩
    have lp : (ptD l).length = l.length := by simp [ptD]
    have lc : ∀ s, (pcD s p l).length = l.length + 1 := fun s => by simp [pcD, pcs]
    have big : ∀ k, k ≤ l.length + 1 → (((List.range l.length).map (itA x r p l)) ++ (List.range k).flatMap fun i => (rowsI r p l i).map (itB x r p l i)).length ≤ 10 + 11 * 500 := by
      intro k
      induction k with
      | zero => intro _; simp; omega
      | succ k ih =>
        intro hk
        have h1 : ((List.range k).flatMap fun i => (rowsI r p l i).map (itB x r p l i)).length ≤ k * 500 := by
          clear ih hk
          induction k with
          | zero => simp
          | succ k ih =>
            rw [List.range_succ, List.flatMap_append, List.length_append, Nat.add_mul, Nat.one_mul]
            have : (rowsI r p l k).length ≤ 500 := by
              unfold rowsI
              cases e : (pcs p l)[k]? with
              | none => simp
              | some q => exact Nat.le_trans (canon_len _) (by rw [rowsD_len]; exact hq _ (List.mem_of_getElem? e))
            simp only [List.flatMap_cons, List.flatMap_nil, List.append_nil, List.length_map]
            omega
        have h2 : (rowsI r p l k).length ≤ 500 := by
          unfold rowsI
          cases e : (pcs p l)[k]? with
          | none => simp
          | some q => exact Nat.le_trans (canon_len _) (by rw [rowsD_len]; exact hq _ (List.mem_of_getElem? e))
        rw [List.range_succ, List.flatMap_append, List.length_append, List.length_append, List.length_map, List.length_range]
        simp only [List.flatMap_cons, List.flatMap_nil, List.append_nil, List.length_map]
        have : k * 500 ≤ 10 * 500 := Nat.mul_le_mul_right _ (by omega)
        omega
    have elen : (enumD 0 (ptD l)).length = l.length := by rw [enumD_len, lp]
    rw [elen]
    refine ex_cons (ex_for b.hp b.calm (b.itEL T.enumerate (ds := pcD (r + 1) p l) (b.v 2) (.dat _)) (fun i Γ μ => ∃ x4 x7 x8 x9 x10 x11 x12, Γ = [some (.dat (.str x)), some (.dat (.int ((r + 1 : Nat) : Int))), some (.dat (.list (pcD (r + 1) p l))), some (.dat (.list (ptD l))), x4, some (.dat (.list (pcD r p l))), some (.loc 0), x7, x8, x9, x10, x11, x12] ∧ μ = [.lst (((List.range l.length).map (itA x r p l)) ++ (List.range i).flatMap fun i => (rowsI r p l i).map (itB x r p l i))]) ⟨_, _, _, _, _, _, _, rfl, by simp⟩ (fun _ _ _ _ => .dat _) ?_ ?_)
    · rintro i d Γ μ hi ⟨x4, x7, x8, x9, x10, x11, x12, rfl, rfl⟩
      obtain ⟨d', hd', rfl⟩ := enumD_get hi
      have hi' : i < l.length + 1 := by rw [← lc (r + 1)]; exact (List.getElem?_eq_some_iff.mp hd').1
      unfold pcD at hd'
      rw [List.getElem?_map] at hd'
      cases e : (pcs p l)[i]? with
      | none => rw [e] at hd'; cases hd'
      | some q =>
        rw [e] at hd'; cases hd'
        have hm := List.mem_of_getElem? e
        have wq := pcs_wd hw q hm
        have hri : rowsI r p l i = canon (rowsD r q) := by unfold rowsI; rw [e]
        have hrl : (canon (rowsD r q)).length ≤ 500 := Nat.le_trans (canon_len _) (by rw [rowsD_len]; exact hq q hm)
        refine ⟨_, _, gt_tup b.calm (ds := [_, _]) (gts_cons (b.tg 7) (gts_cons (b.tg 4) gts_nil)), ?_⟩
        refine ex_cons (ex_for b.hp b.calm (it_tup (ds := canon (rowsD r q)) (b.v 4)) (fun k Γ μ => ∃ x8 x9 x10 x11 x12, Γ = [some (.dat (.str x)), some (.dat (.int ((r + 1 : Nat) : Int))), some (.dat (.list (pcD (r + 1) p l))), some (.dat (.list (ptD l))), some (.dat (kd (r + 1) q)), some (.dat (.list (pcD r p l))), some (.loc 0), some (.dat (.int ((0 + i : Nat) : Int))), x8, x9, x10, x11, x12] ∧ μ = [.lst ((((List.range l.length).map (itA x r p l)) ++ (List.range i).flatMap fun i => (rowsI r p l i).map (itB x r p l i)) ++ ((canon (rowsD r q)).take k).map (itB x r p l i))]) ⟨_, _, _, _, _, rfl, by simp⟩ (fun _ _ _ _ => trivial) ?_ ?_)
        · rintro k row Γ μ hk ⟨x8, x9, x10, x11, x12, rfl, rfl⟩
          obtain ⟨u, c, v, e1, rfl⟩ := mem_rowsD.mp ((canon_mem (rows_pl wq)).mp (List.mem_of_getElem? hk))
          refine ⟨_, _, gt_tup b.calm (ds := [_, _, _]) (gts_cons (b.tg 10) (gts_cons (b.tg 8) (gts_cons (b.tg 11) gts_nil))), ?_⟩
          have a0 : cutD (pcD r p l) none (some ((0 + i : Nat) : Int)) = (pcD r p l).take i := by rw [Nat.zero_add, cut_to (by rw [lc]; omega)]
          have a0' : cutD (pcD r p l) (some (((0 + i : Nat) : Int) + 1)) none = (pcD r p l).drop (i + 1) := by
            rw [Nat.zero_add, show (i : Int) + 1 = ((i + 1 : Nat) : Int) by omega, cut_from (by rw [lc]; omega)]
          have a1 : cutD (ptD l) none (some ((0 + i : Nat) : Int)) = (ptD l).take i := by rw [Nat.zero_add, cut_to (by omega)]
          have a2 : cutD (ptD l) (some ((0 + i : Nat) : Int)) none = (ptD l).drop i := by rw [Nat.zero_add, cut_from (by omega)]
          refine ex_cons (b.asg 12 (ev_cat3 (EvE.to2 (ev_slL (ds := pcD r p l) (b.v 5) eo_none (eo_some (b.v 7)) (.dat _)) rfl (by rw [a0])) (ev_lst (ds := [kd r u, kd r v]) (ea_cons (b.v 10) (ea_one (b.v 11)))) (EvE.to2 (ev_slL (ds := pcD r p l) (b.v 5) (eo_some (ev_bin (b.v 7) ev_int o_add)) eo_none (.dat _)) rfl (by rw [a0'])) ?_) ?_)
          · rw [List.length_take, List.length_drop, lc]; simp; omega
          refine ex_cons (ex_app (ds := (((List.range l.length).map (itA x r p l)) ++ (List.range i).flatMap fun i => (rowsI r p l i).map (itB x r p l i)) ++ ((canon (rowsD r q)).take k).map (itB x r p l i)) (b.v 6) (ev_tup (ds := [.list ((pcD r p l).take i ++ [kd r u, kd r v] ++ (pcD r p l).drop (i + 1)), .list ((ptD l).take i ++ [.tuple [.str c, knD [x]]] ++ (ptD l).drop i)]) (ea_cons (b.v 12) (ea_one (ev_cat3 (EvE.to2 (ev_slL (ds := ptD l) (b.v 3) eo_none (eo_some (b.v 7)) (.dat _)) rfl (by rw [a1])) (ev_lst (ds := [.tuple [.str c, knD [x]]]) (ea_one (ev_tup (ds := [.str c, knD [x]]) (ea_cons (b.v 8) (ea_one (ev_tup (ds := [.str x]) (ea_one (b.v 0)))))))) (EvE.to2 (ev_slL (ds := ptD l) (b.v 3) (eo_some (b.v 7)) eo_none (.dat _)) rfl (by rw [a2])) ?_)))) rfl ?_ (ex_nil ⟨_, _, _, _, _, rfl, ?_⟩) ⟨_, rfl⟩)
          · rw [List.length_take, List.length_drop]; simp; omega
          · have := big i (by omega)
            rw [List.length_append, List.length_map, List.length_take, sizeLine_eq]; omega
          · rw [List.take_succ, hk, List.map_append, ← List.append_assoc]; rfl
        · rintro Γ μ ⟨x8, x9, x10, x11, x12, rfl, rfl⟩
          refine ex_nil ⟨_, _, _, _, _, _, _, rfl, ?_⟩
          rw [List.take_length, List.range_succ, List.flatMap_append, ← List.append_assoc]
          simp [hri]
    · rintro Γ μ ⟨x4, x7, x8, x9, x10, x11, x12, rfl, rfl⟩
      refine ex_cons (ex_ret (b.v 6) ⟨rfl, [], ?_, Nat.zero_lt_one⟩)
      rw [enumD_len, lc, ← hpl]; rfl
end
end DL
set_option maxHeartbeats 2000000
/-! kind_truth. -/
namespace DL
open PySem PySem.Spec PyProof.Rows L2
theorem Bd.callF {X : Cx} {M : Mc} {N : List Str} {sc : Scope} {k k' : Nat} {g g' : Bool} {Γ : Gm} {μ μ1 : Sto} {e : Expr} {es : List Expr} {as : List AV} {x : Str} {p pos : Pos} {ds : List PyData} (b : Bd X M N sc k g) (h : Cal g' M k' x as [] (.loc 0) [.lst ds]) (ha : EvA X Γ μ (e :: es) as μ1) (hk : k' ≤ k) (hl : μ.length ≤ μ1.length) (hb : allDat as = true := by rfl) (hg : gloB sc x = true := by decide +kernel) (hgg : g' = true → g = true := by decide) (hdb : (x == ("__debug__" : Str)) = false := by decide +kernel)
    (he : starEach (e :: es) X.env = (false, eval e X.env) :: starEach es X.env := by rfl) (hpl : (backTo pos (starEach es X.env)).any (·.1) = false := by rfl) : EvE X Γ μ (.Call (.Name x p) (e :: es) [] pos) (.dat (.list ds)) μ1 :=
  EvE.fixG (ev_call (pos := pos) (p := p) b ha h hk (nk_eq hg) (allDat_below hb) hgg hdb he hpl) hl
theorem st_eq {r : Nat} : ∀ {l l' : Pl} {p p' : Wo}, pcD r p l = pcD r p' l' → ptD l = ptD l' → EqP r p l p' l'
  | [], [], p, p', h, _ => by
    simp only [pcD, pcs, List.map_cons, List.map_nil, List.cons.injEq, and_true] at h
    exact h
  | [], _ :: _, _, _, _, h => by simp [ptD] at h
  | _ :: _, [], _, _, _, h => by simp [ptD] at h
  | (c, ns, q) :: l, (c', ns', q') :: l', p, p', h, g => by
    simp only [pcD, pcs, List.map_cons, List.cons.injEq] at h
    simp only [ptD, List.map_cons, List.cons.injEq, ptD1, knD, PyData.tuple.injEq, PyData.str.injEq, and_true] at g
    refine ⟨h.1, g.1.1, map_str_inj g.1.2, st_eq ?_ g.2⟩
    simp only [pcD, pcs, List.map_cons, List.cons.injEq]
    exact h.2
theorem opt_bound {x : Str} {n : Nat} : ∀ {l : Pl} {p : Wo} {t : Wo × Pl}, l.length ≤ n → (∀ s ∈ l, s.2.1.length ≤ n) → t ∈ optsP x p l → t.2.length ≤ l.length + 1 ∧ ∀ s ∈ t.2, s.2.1.length ≤ n + 1
  | [], p, t, hl, hn, ht => by
    simp only [optsP, List.mem_map] at ht
    obtain ⟨s, hs, rfl⟩ := ht
    exact ⟨Nat.le_refl _, fun z hz => by rw [List.mem_singleton] at hz; subst hz; simp⟩
  | (c, ns, q) :: l, p, t, hl, hn, ht => by
    have h0 := hn (c, ns, q) List.mem_cons_self
    have hn' : ∀ s ∈ l, s.2.1.length ≤ n := fun s hs => hn s (List.mem_cons_of_mem _ hs)
    simp only [optsP, List.mem_append, List.mem_cons, List.mem_map] at ht
    rcases ht with ⟨s, hs, rfl⟩ | rfl | ⟨s, hs, rfl⟩
    · refine ⟨by simp, fun z hz => ?_⟩
      rcases List.mem_cons.mp hz with rfl | hz
      · simp
      · exact Nat.le_succ_of_le (hn z hz)
    · refine ⟨by simp, fun z hz => ?_⟩
      rcases List.mem_cons.mp hz with rfl | hz
      · simp at h0 ⊢; omega
      · exact Nat.le_succ_of_le (hn' z hz)
    · obtain ⟨a1, a2⟩ := opt_bound (n := n) (by simp at hl; omega) hn' hs
      refine ⟨by simp; omega, fun z hz => ?_⟩
      rcases List.mem_cons.mp hz with rfl | hz
      · exact Nat.le_succ_of_le h0
      · exact a2 z hz
theorem opt_nm {x : Str} (hx : Nm x) : ∀ {l : Pl} {p : Wo} {t : Wo × Pl}, NmP l → t ∈ optsP x p l → NmP t.2
  | [], p, t, hn, ht => by
    simp only [optsP, List.mem_map] at ht
    obtain ⟨s, hs, rfl⟩ := ht
    intro z hz y hy
    rw [List.mem_singleton] at hz; subst hz
    rw [List.mem_singleton] at hy; exact hy ▸ hx
  | (c, ns, q) :: l, p, t, hn, ht => by
    have hl : NmP l := fun z hz => hn z (List.mem_cons_of_mem _ hz)
    simp only [optsP, List.mem_append, List.mem_cons, List.mem_map] at ht
    rcases ht with ⟨s, hs, rfl⟩ | rfl | ⟨s, hs, rfl⟩
    · intro z hz y hy
      rcases List.mem_cons.mp hz with rfl | hz
      · rw [List.mem_singleton] at hy; exact hy ▸ hx
      · exact hn z hz y hy
    · intro z hz y hy
      rcases List.mem_cons.mp hz with rfl | hz
      · rcases List.mem_append.mp hy with hy | hy
        · exact hn (c, ns, q) List.mem_cons_self y hy
        · rw [List.mem_singleton] at hy; exact hy ▸ hx
      · exact hl z hz y hy
    · intro z hz y hy
      rcases List.mem_cons.mp hz with rfl | hz
      · exact hn (c, ns, q) List.mem_cons_self y hy
      · exact opt_nm hx hl hs z hz y hy
theorem pcs_short : ∀ {l : Pl} {p : Wo}, ∀ q ∈ pcs p l, q.length ≤ (wordP p l).length
  | [], p, q, hq => by
    simp only [pcs, List.map_nil, List.mem_singleton] at hq
    exact hq ▸ Nat.le_refl _
  | (c, ns, s) :: l, p, q, hq => by
    rw [pcs_cons, List.mem_cons] at hq
    rw [wordP, List.length_append, List.length_cons]
    rcases hq with rfl | hq
    · omega
    · have := pcs_short q hq; omega
/-- the values of the choices are the values of the places -/
theorem choice_vals {f : Fo} {r : Nat} {x : Str} {kn : List Str} {ρ : Str → Nat} {p : Wo} {l : Pl} (hq : f.qd ≤ r) (hf : f.wf (kn ++ [x])) (hb : f.nb (kn ++ [x])) (hx : x ∉ kn) (hw : Wd (wordP p l)) (ha : At kn ρ p l) :
    ∃ bs : List Bool, Paired (fun d bv => ∃ t ∈ optsP x p l, ∃ j, d = stD r t ∧ wordP t.1 t.2 = wordP p l ∧ At (kn ++ [x]) (up ρ x j) t.1 t.2 ∧ bv = f.tr (wordP p l) (up ρ x j)) (chD x r p l) bs ∧
      bs.any id = ((List.range (wordP p l).length).any fun j => f.tr (wordP p l) (up ρ x j)) ∧ bs.all id = ((List.range (wordP p l).length).all fun j => f.tr (wordP p l) (up ρ x j)) := by
  obtain ⟨bs, hbs⟩ : ∃ bs : List Bool, Paired (fun d bv => ∃ t ∈ optsP x p l, ∃ j, j < (wordP p l).length ∧ d = stD r t ∧ wordP t.1 t.2 = wordP p l ∧ At (kn ++ [x]) (up ρ x j) t.1 t.2 ∧ bv = f.tr (wordP p l) (up ρ x j)) (chD x r p l) bs := list_choose fun d hd => by
    obtain ⟨t, h1, h2⟩ := chD_out hw hd
    obtain ⟨j, g1, g2, g3⟩ := ha.choice hx h1
    exact ⟨_, t, h1, j, g1, h2, g2, g3, rfl⟩
  have out : ∀ bv ∈ bs, ∃ j, j < (wordP p l).length ∧ bv = f.tr (wordP p l) (up ρ x j) := fun bv hv => by
    obtain ⟨i, hi, e⟩ := List.getElem_of_mem hv
    obtain ⟨d, _, t, _, j, g1, _, _, _, g2⟩ := paired_get hbs (i := i) (y := bv) (by rw [List.getElem?_eq_getElem hi, e])
    exact ⟨j, g1, g2⟩
  have inn : ∀ j, j < (wordP p l).length → f.tr (wordP p l) (up ρ x j) ∈ bs := fun j hj => by
    obtain ⟨t, h1, h2, h3⟩ := ha.place hx hj
    have hm := chD_in (r := r) hw h1
    obtain ⟨i, hi, e⟩ := List.getElem_of_mem hm
    obtain ⟨bv, q1, t', h1', j', g1, g2, g3, g4, g5⟩ := paired_get' hbs (i := i) (by rw [List.getElem?_eq_getElem hi, e])
    have ee : EqP r t.1 t.2 t'.1 t'.2 := by
      simp only [stD, PyData.tuple.injEq, List.cons.injEq, PyData.list.injEq, and_true] at g2
      exact st_eq g2.1 g2.2
    have := game f hq hf hb (by rw [h2]; exact hw) (by rw [g3]; exact hw) ee h3 g4
    rw [h2, g3] at this
    rw [this, ← g5]
    exact List.mem_of_getElem? q1
  refine ⟨bs, paired_map hbs fun d bv _ ⟨t, h1, j, _, h2⟩ => ⟨t, h1, j, h2⟩, ?_, ?_⟩
  · rw [Bool.eq_iff_iff, List.any_eq_true, List.any_eq_true]
    constructor
    · rintro ⟨bv, hv, e⟩
      obtain ⟨j, g1, rfl⟩ := out bv hv
      exact ⟨j, List.mem_range.mpr g1, e⟩
    · rintro ⟨j, hj, e⟩
      exact ⟨_, inn j (List.mem_range.mp hj), e⟩
  · rw [Bool.eq_iff_iff, List.all_eq_true, List.all_eq_true]
    constructor
    · intro h j hj
      exact h _ (inn j (List.mem_range.mp hj))
    · intro h bv hv
      obtain ⟨j, g1, rfl⟩ := out bv hv
      exact h j (List.mem_range.mpr g1)
end DL
set_option maxHeartbeats 2000000
/-! kind_truth, walked; holds_of_kind. -/
namespace DL
open PySem PySem.Spec PyProof.Rows L2
def nKTruth : List Str := ["formula", "rounds", "pieces", "points", "head", "one", "other", "found", "part", "own", "its"]
theorem scKTruth : FnScope nKTruth ["formula", "rounds", "pieces", "points"] (defScope sKTruth) := ⟨rfl, rfl, rfl, by decide +kernel, rfl, by decide +kernel, by decide +kernel⟩
structure KD (M : Mc) : Prop where
  kt : Df M "kind_truth" "kind_truth" sKTruth ["formula", "rounds", "pieces", "points"]
  place : Df M "place_of" "place_of" sPlaceOf ["points", "name"]
  joined : Df M "joined_truth" "joined_truth" sJoined ["word", "truths"]
  choices : Df M "choices" "choices" sChoices ["name", "rounds", "pieces", "points"]
  less : Df M "lessened" "lessened" sLess ["kind", "rounds"]
  freed : Df M "freed" "freed" sFreed ["points", "name"]
/-- the places as they must be -/
structure Gd (kn : List Str) (p : Wo) (l : Pl) : Prop where
  wd : Wd (wordP p l)
  short : (wordP p l).length ≤ 500
  len : l.length ≤ kn.length
  nms : ∀ s ∈ l, s.2.1.length ≤ kn.length
  nm : NmP l
  kn : ∀ x ∈ kn, Nm x
theorem Gd.opt {kn : List Str} {p : Wo} {l : Pl} (h : Gd kn p l) {x : Str} (hx : Nm x) {t : Wo × Pl} (ht : t ∈ optsP x p l) (hw : wordP t.1 t.2 = wordP p l) : Gd (kn ++ [x]) t.1 t.2 := by
  obtain ⟨b1, b2⟩ := opt_bound (n := kn.length) h.len h.nms ht
  refine ⟨by rw [hw]; exact h.wd, by rw [hw]; exact h.short, by rw [List.length_append, List.length_singleton]; have := h.len; omega, by rw [List.length_append, List.length_singleton]; exact b2, opt_nm hx h.nm ht, fun y hy => ?_⟩
  rcases List.mem_append.mp hy with hy | hy
  · exact h.kn y hy
  · rw [List.mem_singleton] at hy; exact hy ▸ hx
section
variable {M : Mc}
theorem cal_kTruth (T : Tx M) (K : KD M) : ∀ (f : Fo) {r : Nat} {kn : List Str} {ρ : Str → Nat} {p : Wo} {l : Pl}, f.qd ≤ r → r ≤ 4 → f.wf kn → f.nb kn → Gd kn p l → At kn ρ p l → kn.length + f.ht ≤ 10 →
    Cal false M (f.ht + r + 4) "kind_truth" [.dat (fD f), .dat (.int (r : Nat)), .dat (.list (pcD r p l)), .dat (.list (ptD l))] [] (.dat (.bool (f.tr (wordP p l) ρ))) []
  | .bf x y, r, kn, ρ, p, l, hq, hr, hf, hb, hg, ha, hk => by
    obtain ⟨i, c, ns, q, h1, h2, h3⟩ := wf_mem ha hf.1
    obtain ⟨j, d, ms, s, g1, g2, g3⟩ := wf_mem ha hf.2
    have hl := hg.len
    refine cal_of K.kt scKTruth rfl (by simp) fun X b fn => ?_
    refine ex_cons (b.asg 4 (r := .dat (.str "before")) (ev_ix (b.v 0) ev_int (fun _ _ => rfl) (.tup _) rfl) ?_)
    refine ex_cons (ex_ifF ((et_cmp (b.v 4) (ev_tup (ds := [.str "true", .str "false"]) (ea_cons ev_str (ea_cons ev_str ea_nil))) (o_in b.un (.tup _) (by decide +kernel) (by decide +kernel))).to (k' := false) (by decide +kernel)) (ex_nil ?_))
    refine ex_cons (ex_ifF ((et_cmp (b.v 4) ev_str o_eqS).to (k' := false) (by decide +kernel)) (ex_nil ?_))
    refine ex_cons (ex_ifT ((et_cmp (b.v 4) (ev_tup (ds := [.str "before", .str "same"]) (ea_cons ev_str (ea_cons ev_str ea_nil))) (o_in b.un (.tup _) (by decide +kernel) (by decide +kernel))).to (k' := true) (by decide +kernel)) ?_)
    refine ex_cons (b.pair 5 6 (ea_cons (b.call (ea_cons (b.v 3) (ea_one (ev_ix (b.v 0) ev_int (fun _ _ => rfl) (.tup _) rfl))) (cal_placeOf T K.place (hg.kn x hf.1) hg.nm (by omega) h1) (by omega)) (ea_one (b.call (ea_cons (b.v 3) (ea_one (ev_ix (b.v 0) ev_int (fun _ _ => rfl) (.tup _) rfl))) (cal_placeOf T K.place (hg.kn y hf.2) hg.nm (by omega) g1) (by omega)))) ?_)
    refine ex_cons (ex_ret (ev_ifT ((et_cmp (b.v 4) ev_str o_eqS).to (k' := true) (by decide +kernel)) (ev_cmp (b.v 5) (b.v 6) o_lt)) ⟨?_, _, rfl, trivial⟩)
    simp only [Fo.tr]
    refine congrArg (fun z => AV.dat (.bool z)) ?_
    rw [Bool.eq_iff_iff, decide_eq_true_iff, decide_eq_true_iff, idx_lt (ha.loc x hf.1) (ha.loc y hf.2) h1 g1]
    omega
  | .cl c x, r, kn, ρ, p, l, hq, hr, hf, hb, hg, ha, hk => by
    obtain ⟨i, d, ns, q, h1, h2, h3⟩ := wf_mem ha hf.2
    have hl := hg.len
    refine cal_of K.kt scKTruth rfl (by simp) fun X b fn => ?_
    refine ex_cons (b.asg 4 (r := .dat (.str "colour")) (ev_ix (b.v 0) ev_int (fun _ _ => rfl) (.tup _) rfl) ?_)
    refine ex_cons (ex_ifF ((et_cmp (b.v 4) (ev_tup (ds := [.str "true", .str "false"]) (ea_cons ev_str (ea_cons ev_str ea_nil))) (o_in b.un (.tup _) (by decide +kernel) (by decide +kernel))).to (k' := false) (by decide +kernel)) (ex_nil ?_))
    refine ex_cons (ex_ifT ((et_cmp (b.v 4) ev_str o_eqS).to (k' := true) (by decide +kernel)) ?_)
    refine ex_cons (ex_ret (ev_cmp (ev_ix (d := .str d) (ev_ix (d := .tuple [.str d, knD ns]) (ds := ptD l) (b.v 3) (b.call (ea_cons (b.v 3) (ea_one (ev_ix (b.v 0) ev_int (fun _ _ => rfl) (.tup _) rfl))) (cal_placeOf T K.place (hg.kn x hf.2) hg.nm (by omega) h1) (by omega)) (fun _ _ => rfl) (.lst (.dat _)) (atI_nat (by unfold ptD; rw [List.getElem?_map, h2]; rfl))) ev_int (fun _ _ => rfl) (.tup _) rfl) (ev_ix (b.v 0) ev_int (fun _ _ => rfl) (.tup _) rfl) o_eqS) ⟨?_, _, rfl, trivial⟩)
    simp only [Fo.tr, h3]
    refine congrArg (fun z => AV.dat (.bool z)) ?_
    rw [Bool.eq_iff_iff, decide_eq_true_iff, decide_eq_true_iff, Option.some.injEq]
  | .nt f, r, kn, ρ, p, l, hq, hr, hf, hb, hg, ha, hk => by
    simp only [Fo.ht] at hk
    simp only [Fo.qd] at hq
    have ih0 := cal_kTruth T K f hq hr hf hb hg ha (by omega)
    refine cal_of K.kt scKTruth rfl (by simp) fun X b fn => ?_
    refine ex_cons (b.asg 4 (r := .dat (.str "not")) (ev_ix (b.v 0) ev_int (fun _ _ => rfl) (.tup _) rfl) ?_)
    refine ex_cons (ex_ifF ((et_cmp (b.v 4) (ev_tup (ds := [.str "true", .str "false"]) (ea_cons ev_str (ea_cons ev_str ea_nil))) (o_in b.un (.tup _) (by decide +kernel) (by decide +kernel))).to (k' := false) (by decide +kernel)) (ex_nil ?_))
    refine ex_cons (ex_ifF ((et_cmp (b.v 4) ev_str o_eqS).to (k' := false) (by decide +kernel)) (ex_nil ?_))
    refine ex_cons (ex_ifF ((et_cmp (b.v 4) (ev_tup (ds := [.str "before", .str "same"]) (ea_cons ev_str (ea_cons ev_str ea_nil))) (o_in b.un (.tup _) (by decide +kernel) (by decide +kernel))).to (k' := false) (by decide +kernel)) (ex_nil ?_))
    refine ex_cons (ex_ifT ((et_cmp (b.v 4) (b.kc T.turns) (o_nin b.un (.tup _) (by decide +kernel) (by decide +kernel))).to (k' := true) (by decide +kernel)) ?_)
    refine ex_cons (ex_ret (b.call (as := [.dat (.str "not"), .dat (.list [.bool (f.tr (wordP p l) ρ)])]) (ea_cons (b.v 4) (ea_one (EvE.fixG (b.map (ys := [.bool (f.tr (wordP p l) ρ)]) (own := [("part", 8)]) (it_tup (ev_slT (b.v 0) (eo_some (ev_int (i := 1))) eo_none)) (by decide +kernel) trivial (by show (1 : Nat) ≤ 10000; decide) rfl ?_) (Nat.le_refl _)))) (cal_jNot T K.joined) (by simp [Fo.ht] <;> omega)) ⟨rfl, _, rfl, trivial⟩)
    intro i d y hd hy
    have hd' : ([fD f] : List PyData)[i]? = some d := hd
    clear hd
    match i, hd', hy with
    | 0, hd, hy => cases hd; cases hy; exact turn_one (fun z => (b.blk z).tg 8) (fun z => (b.blk z).call (ea_cons ((b.blk z).v 8) (ea_cons ((b.blk z).v 1) (ea_cons ((b.blk z).v 2) (ea_one ((b.blk z).v 3))))) ih0 (by simp [Fo.ht] <;> omega))
    | i + 1, hd, hy => cases hy
  | .an f g, r, kn, ρ, p, l, hq, hr, hf, hb, hg, ha, hk => by
    simp only [Fo.ht] at hk
    simp only [Fo.qd] at hq
    have ih0 := cal_kTruth T K f (r := r) (by omega) hr hf.1 hb.1 hg ha (by omega)
    have ih1 := cal_kTruth T K g (r := r) (by omega) hr hf.2 hb.2 hg ha (by omega)
    refine cal_of K.kt scKTruth rfl (by simp) fun X b fn => ?_
    refine ex_cons (b.asg 4 (r := .dat (.str "and")) (ev_ix (b.v 0) ev_int (fun _ _ => rfl) (.tup _) rfl) ?_)
    refine ex_cons (ex_ifF ((et_cmp (b.v 4) (ev_tup (ds := [.str "true", .str "false"]) (ea_cons ev_str (ea_cons ev_str ea_nil))) (o_in b.un (.tup _) (by decide +kernel) (by decide +kernel))).to (k' := false) (by decide +kernel)) (ex_nil ?_))
    refine ex_cons (ex_ifF ((et_cmp (b.v 4) ev_str o_eqS).to (k' := false) (by decide +kernel)) (ex_nil ?_))
    refine ex_cons (ex_ifF ((et_cmp (b.v 4) (ev_tup (ds := [.str "before", .str "same"]) (ea_cons ev_str (ea_cons ev_str ea_nil))) (o_in b.un (.tup _) (by decide +kernel) (by decide +kernel))).to (k' := false) (by decide +kernel)) (ex_nil ?_))
    refine ex_cons (ex_ifT ((et_cmp (b.v 4) (b.kc T.turns) (o_nin b.un (.tup _) (by decide +kernel) (by decide +kernel))).to (k' := true) (by decide +kernel)) ?_)
    refine ex_cons (ex_ret (b.call (as := [.dat (.str "and"), .dat (.list [.bool (f.tr (wordP p l) ρ), .bool (g.tr (wordP p l) ρ)])]) (ea_cons (b.v 4) (ea_one (EvE.fixG (b.map (ys := [.bool (f.tr (wordP p l) ρ), .bool (g.tr (wordP p l) ρ)]) (own := [("part", 8)]) (it_tup (ev_slT (b.v 0) (eo_some (ev_int (i := 1))) eo_none)) (by decide +kernel) trivial (by show (2 : Nat) ≤ 10000; decide) rfl ?_) (Nat.le_refl _)))) (cal_jAnd T K.joined) (by simp [Fo.ht] <;> omega)) ⟨rfl, _, rfl, trivial⟩)
    intro i d y hd hy
    have hd' : ([fD f, fD g] : List PyData)[i]? = some d := hd
    clear hd
    match i, hd', hy with
    | 0, hd, hy => cases hd; cases hy; exact turn_one (fun z => (b.blk z).tg 8) (fun z => (b.blk z).call (ea_cons ((b.blk z).v 8) (ea_cons ((b.blk z).v 1) (ea_cons ((b.blk z).v 2) (ea_one ((b.blk z).v 3))))) ih0 (by simp [Fo.ht] <;> omega))
    | 1, hd, hy => cases hd; cases hy; exact turn_one (fun z => (b.blk z).tg 8) (fun z => (b.blk z).call (ea_cons ((b.blk z).v 8) (ea_cons ((b.blk z).v 1) (ea_cons ((b.blk z).v 2) (ea_one ((b.blk z).v 3))))) ih1 (by simp [Fo.ht] <;> omega))
    | i + 2, hd, hy => cases hy
  | .im f g, r, kn, ρ, p, l, hq, hr, hf, hb, hg, ha, hk => by
    simp only [Fo.ht] at hk
    simp only [Fo.qd] at hq
    have ih0 := cal_kTruth T K f (r := r) (by omega) hr hf.1 hb.1 hg ha (by omega)
    have ih1 := cal_kTruth T K g (r := r) (by omega) hr hf.2 hb.2 hg ha (by omega)
    refine cal_of K.kt scKTruth rfl (by simp) fun X b fn => ?_
    refine ex_cons (b.asg 4 (r := .dat (.str "implies")) (ev_ix (b.v 0) ev_int (fun _ _ => rfl) (.tup _) rfl) ?_)
    refine ex_cons (ex_ifF ((et_cmp (b.v 4) (ev_tup (ds := [.str "true", .str "false"]) (ea_cons ev_str (ea_cons ev_str ea_nil))) (o_in b.un (.tup _) (by decide +kernel) (by decide +kernel))).to (k' := false) (by decide +kernel)) (ex_nil ?_))
    refine ex_cons (ex_ifF ((et_cmp (b.v 4) ev_str o_eqS).to (k' := false) (by decide +kernel)) (ex_nil ?_))
    refine ex_cons (ex_ifF ((et_cmp (b.v 4) (ev_tup (ds := [.str "before", .str "same"]) (ea_cons ev_str (ea_cons ev_str ea_nil))) (o_in b.un (.tup _) (by decide +kernel) (by decide +kernel))).to (k' := false) (by decide +kernel)) (ex_nil ?_))
    refine ex_cons (ex_ifT ((et_cmp (b.v 4) (b.kc T.turns) (o_nin b.un (.tup _) (by decide +kernel) (by decide +kernel))).to (k' := true) (by decide +kernel)) ?_)
    refine ex_cons (ex_ret (b.call (as := [.dat (.str "implies"), .dat (.list [.bool (f.tr (wordP p l) ρ), .bool (g.tr (wordP p l) ρ)])]) (ea_cons (b.v 4) (ea_one (EvE.fixG (b.map (ys := [.bool (f.tr (wordP p l) ρ), .bool (g.tr (wordP p l) ρ)]) (own := [("part", 8)]) (it_tup (ev_slT (b.v 0) (eo_some (ev_int (i := 1))) eo_none)) (by decide +kernel) trivial (by show (2 : Nat) ≤ 10000; decide) rfl ?_) (Nat.le_refl _)))) (cal_jImp T K.joined) (by simp [Fo.ht] <;> omega)) ⟨rfl, _, rfl, trivial⟩)
    intro i d y hd hy
    have hd' : ([fD f, fD g] : List PyData)[i]? = some d := hd
    clear hd
    match i, hd', hy with
    | 0, hd, hy => cases hd; cases hy; exact turn_one (fun z => (b.blk z).tg 8) (fun z => (b.blk z).call (ea_cons ((b.blk z).v 8) (ea_cons ((b.blk z).v 1) (ea_cons ((b.blk z).v 2) (ea_one ((b.blk z).v 3))))) ih0 (by simp [Fo.ht] <;> omega))
    | 1, hd, hy => cases hd; cases hy; exact turn_one (fun z => (b.blk z).tg 8) (fun z => (b.blk z).call (ea_cons ((b.blk z).v 8) (ea_cons ((b.blk z).v 1) (ea_cons ((b.blk z).v 2) (ea_one ((b.blk z).v 3))))) ih1 (by simp [Fo.ht] <;> omega))
    | i + 2, hd, hy => cases hy
  | .sm x f, 0, kn, ρ, p, l, hq, hr, hf, hb, hg, ha, hk => by simp [Fo.qd] at hq
  | .sm x f, r + 1, kn, ρ, p, l, hq, hr, hf, hb, hg, ha, hk => by
    simp only [Fo.ht] at hk
    simp only [Fo.qd] at hq
    have ih := @cal_kTruth T K f r
    obtain ⟨bs, hbs, eany, eall⟩ := choice_vals (f := f) (r := r) (by omega) hf.2 hb.2 hb.1 hg.wd ha
    have hl := hg.len
    have hn := hg.nms
    have hcl := chD_len (x := x) (r := r) (p := p) (l := l) (n := 500) (fun q hq => Nat.le_trans (pcs_short q hq) hg.short)
    have hm : (l.length + 1) * 500 ≤ 11 * 500 := Nat.mul_le_mul_right _ (by omega)
    have hbl := paired_len hbs
    refine cal_of K.kt scKTruth rfl (by simp) fun X b fn => ?_
    refine ex_cons (b.asg 4 (r := .dat (.str "some")) (ev_ix (b.v 0) ev_int (fun _ _ => rfl) (.tup _) rfl) ?_)
    refine ex_cons (ex_ifF ((et_cmp (b.v 4) (ev_tup (ds := [.str "true", .str "false"]) (ea_cons ev_str (ea_cons ev_str ea_nil))) (o_in b.un (.tup _) (by decide +kernel) (by decide +kernel))).to (k' := false) (by decide +kernel)) (ex_nil ?_))
    refine ex_cons (ex_ifF ((et_cmp (b.v 4) ev_str o_eqS).to (k' := false) (by decide +kernel)) (ex_nil ?_))
    refine ex_cons (ex_ifF ((et_cmp (b.v 4) (ev_tup (ds := [.str "before", .str "same"]) (ea_cons ev_str (ea_cons ev_str ea_nil))) (o_in b.un (.tup _) (by decide +kernel) (by decide +kernel))).to (k' := false) (by decide +kernel)) (ex_nil ?_))
    refine ex_cons (ex_ifF ((et_cmp (b.v 4) (b.kc T.turns) (o_nin b.un (.tup _) (by decide +kernel) (by decide +kernel))).to (k' := false) (by decide +kernel)) (ex_nil ?_))
    refine ex_cons (b.setMap 7 (ys := bs.map .bool) (own := [("own", 9), ("its", 10)]) (it_list (ds := chD x r p l) (b.callF (cal_choices T K.choices K.less K.freed (r := r) (by omega) hg.wd (fun q hq => Nat.le_trans (pcs_short q hq) hg.short) (by omega) (fun t ht => by have := hn t ht; omega) (ha.out x hb.1)) (ea_cons (ev_ix (b.v 0) ev_int (fun _ _ => rfl) (.tup _) rfl) (ea_cons (b.v 1) (ea_cons (b.v 2) (ea_one (b.v 3))))) (by omega) (Nat.le_refl _)) (.dat _)) (by decide +kernel) (.dat _) (by omega) (by rw [List.length_map, hbl]) (Nat.le_refl _) ?_ ?_)
    · intro i d y hd hy
      obtain ⟨bv, q1, t, h1, j, rfl, g2, g3, rfl⟩ := paired_get' hbs hd
      rw [List.getElem?_map, q1] at hy
      cases hy
      have sub := ih (kn := kn ++ [x]) (ρ := up ρ x j) (p := t.1) (l := t.2) (by omega) (by omega) hf.2 hb.2 (hg.opt hf.1 h1 g2) g3 (by rw [List.length_append]; simp; omega)
      rw [g2] at sub
      exact turn_one (fun z => gt_tup (b.blk z).calm (ds := [_, _]) (gts_cons ((b.blk z).tg 9) (gts_cons ((b.blk z).tg 10) gts_nil))) (fun z => (b.blk z).call (ea_cons (ev_ix ((b.blk z).v 0) ev_int (fun _ _ => rfl) (.tup _) rfl) (ea_cons (ev_pred ((b.blk z).v 1)) (ea_cons ((b.blk z).v 9) (ea_one ((b.blk z).v 10))))) sub (by simp [Fo.ht] <;> omega))
    · refine ex_cons (ex_ret (ev_ifT ((et_cmp (b.v 4) ev_str o_eqS).to (k' := true) (by decide +kernel)) (b.any T.any (bs := bs) (b.v 7) (.dat _))) ⟨?_, _, rfl, trivial⟩)
      simp only [Fo.tr]
      rw [eany]
  | .ev x f, 0, kn, ρ, p, l, hq, hr, hf, hb, hg, ha, hk => by simp [Fo.qd] at hq
  | .ev x f, r + 1, kn, ρ, p, l, hq, hr, hf, hb, hg, ha, hk => by
    simp only [Fo.ht] at hk
    simp only [Fo.qd] at hq
    have ih := @cal_kTruth T K f r
    obtain ⟨bs, hbs, eany, eall⟩ := choice_vals (f := f) (r := r) (by omega) hf.2 hb.2 hb.1 hg.wd ha
    have hl := hg.len
    have hn := hg.nms
    have hcl := chD_len (x := x) (r := r) (p := p) (l := l) (n := 500) (fun q hq => Nat.le_trans (pcs_short q hq) hg.short)
    have hm : (l.length + 1) * 500 ≤ 11 * 500 := Nat.mul_le_mul_right _ (by omega)
    have hbl := paired_len hbs
    refine cal_of K.kt scKTruth rfl (by simp) fun X b fn => ?_
    refine ex_cons (b.asg 4 (r := .dat (.str "every")) (ev_ix (b.v 0) ev_int (fun _ _ => rfl) (.tup _) rfl) ?_)
    refine ex_cons (ex_ifF ((et_cmp (b.v 4) (ev_tup (ds := [.str "true", .str "false"]) (ea_cons ev_str (ea_cons ev_str ea_nil))) (o_in b.un (.tup _) (by decide +kernel) (by decide +kernel))).to (k' := false) (by decide +kernel)) (ex_nil ?_))
    refine ex_cons (ex_ifF ((et_cmp (b.v 4) ev_str o_eqS).to (k' := false) (by decide +kernel)) (ex_nil ?_))
    refine ex_cons (ex_ifF ((et_cmp (b.v 4) (ev_tup (ds := [.str "before", .str "same"]) (ea_cons ev_str (ea_cons ev_str ea_nil))) (o_in b.un (.tup _) (by decide +kernel) (by decide +kernel))).to (k' := false) (by decide +kernel)) (ex_nil ?_))
    refine ex_cons (ex_ifF ((et_cmp (b.v 4) (b.kc T.turns) (o_nin b.un (.tup _) (by decide +kernel) (by decide +kernel))).to (k' := false) (by decide +kernel)) (ex_nil ?_))
    refine ex_cons (b.setMap 7 (ys := bs.map .bool) (own := [("own", 9), ("its", 10)]) (it_list (ds := chD x r p l) (b.callF (cal_choices T K.choices K.less K.freed (r := r) (by omega) hg.wd (fun q hq => Nat.le_trans (pcs_short q hq) hg.short) (by omega) (fun t ht => by have := hn t ht; omega) (ha.out x hb.1)) (ea_cons (ev_ix (b.v 0) ev_int (fun _ _ => rfl) (.tup _) rfl) (ea_cons (b.v 1) (ea_cons (b.v 2) (ea_one (b.v 3))))) (by omega) (Nat.le_refl _)) (.dat _)) (by decide +kernel) (.dat _) (by omega) (by rw [List.length_map, hbl]) (Nat.le_refl _) ?_ ?_)
    · intro i d y hd hy
      obtain ⟨bv, q1, t, h1, j, rfl, g2, g3, rfl⟩ := paired_get' hbs hd
      rw [List.getElem?_map, q1] at hy
      cases hy
      have sub := ih (kn := kn ++ [x]) (ρ := up ρ x j) (p := t.1) (l := t.2) (by omega) (by omega) hf.2 hb.2 (hg.opt hf.1 h1 g2) g3 (by rw [List.length_append]; simp; omega)
      rw [g2] at sub
      exact turn_one (fun z => gt_tup (b.blk z).calm (ds := [_, _]) (gts_cons ((b.blk z).tg 9) (gts_cons ((b.blk z).tg 10) gts_nil))) (fun z => (b.blk z).call (ea_cons (ev_ix ((b.blk z).v 0) ev_int (fun _ _ => rfl) (.tup _) rfl) (ea_cons (ev_pred ((b.blk z).v 1)) (ea_cons ((b.blk z).v 9) (ea_one ((b.blk z).v 10))))) sub (by simp [Fo.ht] <;> omega))
    · refine ex_cons (ex_ret (ev_ifF ((et_cmp (b.v 4) ev_str o_eqS).to (k' := false) (by decide +kernel)) (b.all T.all (bs := bs) (b.v 7) (.dat _))) ⟨?_, _, rfl, trivial⟩)
      simp only [Fo.tr]
      rw [eall]
end
end DL
set_option maxHeartbeats 2000000
/-! holds_of_kind, where it answers; all_together, within, telling, place_sentence, same_kind. -/
namespace DL
open PySem PySem.Spec PyProof.Rows L2
theorem scHoldsK : FnScope ["kind", "rounds", "formula"] ["kind", "rounds", "formula"] (defScope sHoldsK) := ⟨rfl, rfl, rfl, by decide +kernel, rfl, by decide +kernel, by decide +kernel⟩
section
variable {M : Mc}
theorem cal_holdsK (T : Tx M) (K : KD M) (D : Df M "holds_of_kind" "holds_of_kind" sHoldsK ["kind", "rounds", "formula"]) (DR : Df M "check_rounds" "check_rounds" sChkRounds ["rounds"]) (DF : Df M "check_order_formula" "check_order_formula" sChkForm ["formula", "known"]) (DI : Df M "is_name" "is_name" sIsName ["text"]) (DQ : Df M "rounds_of" "rounds_of" sRoundsOf ["formula"])
    {w : Wo} (h : Wd w) (hw : w.length ≤ 500) {r : Nat} (hr : r ≤ 4) {f : Fo} (hf : f.wf []) (hb : f.nb []) (ht : f.ht ≤ 10) (hq : f.qd ≤ r) (ρ : Str → Nat) : Cal false M (f.ht + r + 5) "holds_of_kind" [.dat (kd r w), .dat (.int (r : Nat)), .dat (fD f)] [] (.dat (.bool (f.tr w ρ))) [] := by
  have hk := cal_kTruth T K f (r := r) (kn := []) (ρ := ρ) (p := w) (l := []) hq hr hf hb ⟨h, hw, Nat.le_refl _, fun s hs => by simp at hs, fun s hs => by simp at hs, fun x hx => by simp at hx⟩ ⟨fun x hx => by simp at hx, fun x _ s hs => by simp at hs⟩ (by simp; omega)
  refine cal_of D scHoldsK rfl (by simp) fun X b fn => ?_
  refine ex_cons (ex_expr (b.call (ea_one (b.v 1)) (cal_chkRounds T DR hr) (by omega)) ?_)
  refine ex_cons (ex_expr (b.call (as := [.dat (fD f), .dat (knD [])]) (ea_cons (b.v 2) (ea_one (ev_tup (ds := []) ea_nil))) (cal_chkForm T DF DI f hf (fun x hx => by simp at hx) (by simp; omega)) (by omega)) ?_)
  refine ex_cons (ex_ifF ((et_cmp (b.call (ea_one (b.v 2)) (cal_rounds T DQ f) (by omega)) (b.v 1) o_gt).to (k' := false) (by simp; omega)) (ex_nil ?_))
  refine ex_cons (ex_ret (b.call (as := [.dat (fD f), .dat (.int (r : Nat)), .dat (.list (pcD r w [])), .dat (.list (ptD []))]) (ea_cons (b.v 2) (ea_cons (b.v 1) (ea_cons (EvE.fixG (ev_lst (ds := [kd r w]) (ea_one (b.v 0))) (Nat.le_refl _)) (ea_one (EvE.fixG (ev_lst (ds := []) ea_nil) (Nat.le_refl _)))))) hk (by omega)) ⟨rfl, _, rfl, trivial⟩)
end
end DL
set_option maxHeartbeats 2000000
/-! all_together, within. -/
namespace DL
open PySem PySem.Spec PyProof.Rows L2
/-- the formulas that tell kinds apart -/
inductive TF
  | tt
  | bf (x y : Str)
  | cl (c x : Str)
  | nt (f : TF)
  | an (f g : TF)
  | sm (x : Str) (f : TF)
def tD : TF → PyData
  | .tt => .tuple [.str "true"]
  | .bf x y => .tuple [.str "before", .str x, .str y]
  | .cl c x => .tuple [.str "colour", .str c, .str x]
  | .nt f => .tuple [.str "not", tD f]
  | .an f g => .tuple [.str "and", tD f, tD g]
  | .sm x f => .tuple [.str "some", .str x, tD f]
def TF.dp : TF → Nat
  | .tt | .bf _ _ | .cl _ _ => 1
  | .nt f | .sm _ f => f.dp + 1
  | .an f g => max f.dp g.dp + 1
def TF.qd : TF → Nat
  | .tt | .bf _ _ | .cl _ _ => 0
  | .nt f => f.qd
  | .sm _ f => f.qd + 1
  | .an f g => max f.qd g.qd
def okS (x : Str) : Prop := PyData.canLay0 (.str x) = true
def TF.ok : TF → Prop
  | .tt => True
  | .bf x y | .cl x y => okS x ∧ okS y
  | .nt f => f.ok
  | .sm x f => okS x ∧ f.ok
  | .an f g => f.ok ∧ g.ok
theorem TF.lay : ∀ {f : TF}, f.ok → PyData.canLay0 (tD f) = true
  | .tt, _ => by decide +kernel
  | .bf x y, h => by
    simp only [tD, PyData.canLay0, PyData.canLayAll0, Bool.and_eq_true]
    exact ⟨by decide +kernel, h.1, h.2, trivial⟩
  | .cl x y, h => by
    simp only [tD, PyData.canLay0, PyData.canLayAll0, Bool.and_eq_true]
    exact ⟨by decide +kernel, h.1, h.2, trivial⟩
  | .nt f, h => by
    have i := TF.lay (f := f) h
    simp only [tD, PyData.canLay0, PyData.canLayAll0, Bool.and_eq_true]
    exact ⟨by decide +kernel, i, trivial⟩
  | .sm x f, h => by
    have i := TF.lay (f := f) h.2
    simp only [tD, PyData.canLay0, PyData.canLayAll0, Bool.and_eq_true]
    exact ⟨by decide +kernel, h.1, i, trivial⟩
  | .an f g, h => by
    have i := TF.lay (f := f) h.1
    have j := TF.lay (f := g) h.2
    simp only [tD, PyData.canLay0, PyData.canLayAll0, Bool.and_eq_true]
    exact ⟨by decide +kernel, i, j, trivial⟩
theorem TF.depth : ∀ f : TF, (tD f).depth = f.dp
  | .tt | .bf _ _ | .cl _ _ => by simp [tD, PyData.depth, PyData.depthAll, TF.dp]
  | .nt f => by simp [tD, PyData.depth, PyData.depthAll, TF.dp, TF.depth f]
  | .sm x f => by simp [tD, PyData.depth, PyData.depthAll, TF.dp, TF.depth f]
  | .an f g => by simp [tD, PyData.depth, PyData.depthAll, TF.dp, TF.depth f, TF.depth g]
theorem TF.shaped {f : TF} (h : f.ok) (hd : f.dp ≤ 64) : SeqAt.shaped (tD f) = true := by
  unfold SeqAt.shaped
  rw [TF.lay h, TF.depth, decide_eq_true hd]; rfl
theorem tfs_lay : ∀ {fs : List TF}, (∀ f ∈ fs, f.ok) → PyData.canLayAll0 (fs.map tD) = true
  | [], _ => by simp [PyData.canLayAll0]
  | f :: fs, h => by
    rw [List.map_cons]
    simp only [PyData.canLayAll0, Bool.and_eq_true]
    exact ⟨TF.lay (h f List.mem_cons_self), tfs_lay fun g hg => h g (List.mem_cons_of_mem _ hg)⟩
def wi (a : Bool) (n : Str) : TF → TF
  | .nt f => .nt (wi a n f)
  | .an f g => .an (wi a n f) (wi a n g)
  | .sm x f => .sm x (.an (if a then .bf x n else .bf n x) (wi a n f))
  | f => f
theorem wi_ok {a : Bool} {n : Str} (hn : okS n) : ∀ {f : TF}, f.ok → (wi a n f).ok
  | .tt, h => h
  | .bf _ _, h => h
  | .cl _ _, h => h
  | .nt f, h => wi_ok hn (f := f) h
  | .an f g, h => ⟨wi_ok hn h.1, wi_ok hn h.2⟩
  | .sm x f, h => ⟨h.1, by cases a <;> exact ⟨by first | exact hn | exact h.1, by first | exact hn | exact h.1⟩, wi_ok hn h.2⟩
theorem wi_dp {a : Bool} {n : Str} : ∀ (f : TF), (wi a n f).dp ≤ f.dp + f.qd ∧ (wi a n f).qd ≤ f.qd
  | .tt => ⟨by simp [wi], by simp [wi]⟩
  | .bf _ _ => ⟨by simp [wi], by simp [wi]⟩
  | .cl _ _ => ⟨by simp [wi], by simp [wi]⟩
  | .nt f => by
    have := wi_dp (a := a) (n := n) f
    simp only [wi, TF.dp, TF.qd]; omega
  | .an f g => by
    have h1 := wi_dp (a := a) (n := n) f
    have h2 := wi_dp (a := a) (n := n) g
    simp only [wi, TF.dp, TF.qd]; omega
  | .sm x f => by
    have := wi_dp (a := a) (n := n) f
    have e : (if a = true then TF.bf x n else TF.bf n x).dp = 1 ∧ (if a = true then TF.bf x n else TF.bf n x).qd = 0 := by cases a <;> exact ⟨rfl, rfl⟩
    have d1 : 1 ≤ f.dp := by cases f <;> simp [TF.dp]
    simp only [wi, TF.dp, TF.qd, e.1, e.2]; omega
def sideS (a : Bool) : Str := if a then "ahead" else "behind"
def nWithin : List Str := ["side", "name", "formula", "head", "row", "inner", "part"]
theorem scWithin : FnScope nWithin ["side", "name", "formula"] (defScope sWithin) := ⟨rfl, rfl, rfl, by decide +kernel, rfl, by decide +kernel, by decide +kernel⟩
def nAll : List Str := ["formulas", "found", "formula"]
theorem scAll : FnScope nAll ["formulas"] (defScope sAll) := ⟨rfl, rfl, rfl, by decide +kernel, rfl, by decide +kernel, by decide +kernel⟩
section
variable {M : Mc}
theorem cal_within (T : Tx M) (D : Df M "within" "within" sWithin ["side", "name", "formula"]) {a : Bool} {n : Str} : ∀ (f : TF), Cal false M (f.dp + 1) "within" [.dat (.str (sideS a)), .dat (.str n), .dat (tD f)] [] (.dat (tD (wi a n f))) []
  | .tt => by
    refine cal_of D scWithin rfl (by simp) fun X b fn => ?_
    refine ex_cons (b.asg 3 (r := .dat (.str "true")) (ev_ix (b.v 2) ev_int (fun _ _ => rfl) (.tup _) rfl) ?_)
    refine ex_cons (ex_ifF ((et_cmp (b.v 3) (b.kc T.turns) (o_in b.un (.tup _) (by decide +kernel) (by decide +kernel))).to (k' := false) (by decide +kernel)) (ex_nil ?_))
    refine ex_cons (ex_ifT ((et_cmp (b.v 3) (ev_tup (ds := [.str "before", .str "same", .str "colour", .str "true", .str "false"]) (ea_cons ev_str (ea_cons ev_str (ea_cons ev_str (ea_cons ev_str (ea_cons ev_str ea_nil)))))) (o_in b.un (.tup _) (by decide +kernel) (by decide +kernel))).to (k' := true) (by decide +kernel)) ?_)
    exact ex_cons (ex_ret (b.v 2) ⟨rfl, _, rfl, trivial⟩)
  | .bf x y => by
    refine cal_of D scWithin rfl (by simp) fun X b fn => ?_
    refine ex_cons (b.asg 3 (r := .dat (.str "before")) (ev_ix (b.v 2) ev_int (fun _ _ => rfl) (.tup _) rfl) ?_)
    refine ex_cons (ex_ifF ((et_cmp (b.v 3) (b.kc T.turns) (o_in b.un (.tup _) (by decide +kernel) (by decide +kernel))).to (k' := false) (by decide +kernel)) (ex_nil ?_))
    refine ex_cons (ex_ifT ((et_cmp (b.v 3) (ev_tup (ds := [.str "before", .str "same", .str "colour", .str "true", .str "false"]) (ea_cons ev_str (ea_cons ev_str (ea_cons ev_str (ea_cons ev_str (ea_cons ev_str ea_nil)))))) (o_in b.un (.tup _) (by decide +kernel) (by decide +kernel))).to (k' := true) (by decide +kernel)) ?_)
    exact ex_cons (ex_ret (b.v 2) ⟨rfl, _, rfl, trivial⟩)
  | .cl c x => by
    refine cal_of D scWithin rfl (by simp) fun X b fn => ?_
    refine ex_cons (b.asg 3 (r := .dat (.str "colour")) (ev_ix (b.v 2) ev_int (fun _ _ => rfl) (.tup _) rfl) ?_)
    refine ex_cons (ex_ifF ((et_cmp (b.v 3) (b.kc T.turns) (o_in b.un (.tup _) (by decide +kernel) (by decide +kernel))).to (k' := false) (by decide +kernel)) (ex_nil ?_))
    refine ex_cons (ex_ifT ((et_cmp (b.v 3) (ev_tup (ds := [.str "before", .str "same", .str "colour", .str "true", .str "false"]) (ea_cons ev_str (ea_cons ev_str (ea_cons ev_str (ea_cons ev_str (ea_cons ev_str ea_nil)))))) (o_in b.un (.tup _) (by decide +kernel) (by decide +kernel))).to (k' := true) (by decide +kernel)) ?_)
    exact ex_cons (ex_ret (b.v 2) ⟨rfl, _, rfl, trivial⟩)
  | .nt f => by
    have ih0 := cal_within T D (a := a) (n := n) f
    refine cal_of D scWithin rfl (by simp) fun X b fn => ?_
    refine ex_cons (b.asg 3 (r := .dat (.str "not")) (ev_ix (b.v 2) ev_int (fun _ _ => rfl) (.tup _) rfl) ?_)
    refine ex_cons (ex_ifF ((et_cmp (b.v 3) (b.kc T.turns) (o_in b.un (.tup _) (by decide +kernel) (by decide +kernel))).to (k' := false) (by decide +kernel)) (ex_nil ?_))
    refine ex_cons (ex_ifF ((et_cmp (b.v 3) (ev_tup (ds := [.str "before", .str "same", .str "colour", .str "true", .str "false"]) (ea_cons ev_str (ea_cons ev_str (ea_cons ev_str (ea_cons ev_str (ea_cons ev_str ea_nil)))))) (o_in b.un (.tup _) (by decide +kernel) (by decide +kernel))).to (k' := false) (by decide +kernel)) (ex_nil ?_))
    refine ex_cons (ex_ret (EvE.dat (ν := [_]) (ev_bin (ev_tup (ds := [.str "not"]) (ea_one (b.v 3))) (b.tup T.tuple (b.map (ys := [tD (wi a n f)]) (own := [("part", 6)]) (it_tup (ev_slT (b.v 2) (eo_some (ev_int (i := 1))) eo_none)) (by decide +kernel) trivial (by show (1 : Nat) ≤ 10000; decide) rfl ?_) (.lst (.loc rfl))) (o_catT (by rw [sizeLine_eq]; simp)))) ⟨rfl, _, rfl, trivial⟩)
    intro i d y hd hy
    have hd' : ([tD f] : List PyData)[i]? = some d := hd
    clear hd
    match i, hd', hy with
    | 0, hd, hy => cases hd; cases hy; exact turn_one (fun z => (b.blk z).tg 6) (fun z => (b.blk z).call (ea_cons ((b.blk z).v 0) (ea_cons ((b.blk z).v 1) (ea_one ((b.blk z).v 6)))) ih0 (by simp [TF.dp] <;> omega))
    | i + 1, hd, hy => cases hy
  | .an f g => by
    have ih0 := cal_within T D (a := a) (n := n) f
    have ih1 := cal_within T D (a := a) (n := n) g
    refine cal_of D scWithin rfl (by simp) fun X b fn => ?_
    refine ex_cons (b.asg 3 (r := .dat (.str "and")) (ev_ix (b.v 2) ev_int (fun _ _ => rfl) (.tup _) rfl) ?_)
    refine ex_cons (ex_ifF ((et_cmp (b.v 3) (b.kc T.turns) (o_in b.un (.tup _) (by decide +kernel) (by decide +kernel))).to (k' := false) (by decide +kernel)) (ex_nil ?_))
    refine ex_cons (ex_ifF ((et_cmp (b.v 3) (ev_tup (ds := [.str "before", .str "same", .str "colour", .str "true", .str "false"]) (ea_cons ev_str (ea_cons ev_str (ea_cons ev_str (ea_cons ev_str (ea_cons ev_str ea_nil)))))) (o_in b.un (.tup _) (by decide +kernel) (by decide +kernel))).to (k' := false) (by decide +kernel)) (ex_nil ?_))
    refine ex_cons (ex_ret (EvE.dat (ν := [_]) (ev_bin (ev_tup (ds := [.str "and"]) (ea_one (b.v 3))) (b.tup T.tuple (b.map (ys := [tD (wi a n f), tD (wi a n g)]) (own := [("part", 6)]) (it_tup (ev_slT (b.v 2) (eo_some (ev_int (i := 1))) eo_none)) (by decide +kernel) trivial (by show (2 : Nat) ≤ 10000; decide) rfl ?_) (.lst (.loc rfl))) (o_catT (by rw [sizeLine_eq]; simp)))) ⟨rfl, _, rfl, trivial⟩)
    intro i d y hd hy
    have hd' : ([tD f, tD g] : List PyData)[i]? = some d := hd
    clear hd
    match i, hd', hy with
    | 0, hd, hy => cases hd; cases hy; exact turn_one (fun z => (b.blk z).tg 6) (fun z => (b.blk z).call (ea_cons ((b.blk z).v 0) (ea_cons ((b.blk z).v 1) (ea_one ((b.blk z).v 6)))) ih0 (by simp [TF.dp] <;> omega))
    | 1, hd, hy => cases hd; cases hy; exact turn_one (fun z => (b.blk z).tg 6) (fun z => (b.blk z).call (ea_cons ((b.blk z).v 0) (ea_cons ((b.blk z).v 1) (ea_one ((b.blk z).v 6)))) ih1 (by simp [TF.dp] <;> omega))
    | i + 2, hd, hy => cases hy
  | .sm x f => by
    have ih := cal_within T D (a := a) (n := n) f
    refine cal_of D scWithin rfl (by simp) fun X b fn => ?_
    refine ex_cons (b.asg 3 (r := .dat (.str "some")) (ev_ix (b.v 2) ev_int (fun _ _ => rfl) (.tup _) rfl) ?_)
    refine ex_cons (ex_ifT ((et_cmp (b.v 3) (b.kc T.turns) (o_in b.un (.tup _) (by decide +kernel) (by decide +kernel))).to (k' := true) (by decide +kernel)) ?_)
    refine ex_cons (b.asg 4 (r := .dat (tD (if a then .bf x n else .bf n x))) (ev_if (k := a) ((et_cmp (b.v 0) ev_str o_eqS).to ?_) (fun q => (ev_tup (ds := [.str "before", .str x, .str n]) (ea_cons ev_str (ea_cons (ev_ix (b.v 2) ev_int (fun _ _ => rfl) (.tup _) rfl) (ea_one (b.v 1))))).to ?_) (fun q => (ev_tup (ds := [.str "before", .str n, .str x]) (ea_cons ev_str (ea_cons (b.v 1) (ea_one (ev_ix (b.v 2) ev_int (fun _ _ => rfl) (.tup _) rfl))))).to ?_)) ?_)
    · cases a <;> decide +kernel
    · subst q; rfl
    · subst q; rfl
    refine ex_cons (b.asg 5 (b.call (ea_cons (b.v 0) (ea_cons (b.v 1) (ea_one (ev_ix (b.v 2) ev_int (fun _ _ => rfl) (.tup _) rfl)))) ih (by simp [TF.dp])) ?_)
    exact ex_cons (ex_ret (ev_tup (ds := [.str "some", .str x, .tuple [.str "and", tD (if a then .bf x n else .bf n x), tD (wi a n f)]]) (ea_cons (b.v 3) (ea_cons (ev_ix (b.v 2) ev_int (fun _ _ => rfl) (.tup _) rfl) (ea_one (ev_tup (ds := [.str "and", tD (if a then .bf x n else .bf n x), tD (wi a n f)]) (ea_cons (ev_ifT ((et_cmp (b.v 3) ev_str o_eqS).to (k' := true) (by decide +kernel)) ev_str) (ea_cons (b.v 4) (ea_one (b.v 5))))))))) ⟨rfl, _, rfl, trivial⟩)
/-- the and of formulas -/
def andT (f g : TF) : TF := if PyData.eqv (tD f) (tD .tt) then g else .an f g
theorem cal_all (T : Tx M) (D : Df M "all_together" "all_together" sAll ["formulas"]) {fs : List TF} (hok : ∀ f ∈ fs, f.ok) {m : Nat} (hd : ∀ f ∈ fs, f.dp ≤ m) (hm : fs.length + m ≤ 60) : ∃ f : TF, f.ok ∧ f.dp ≤ fs.length + m + 1 ∧ (∀ q, (∀ f ∈ fs, f.qd ≤ q) → f.qd ≤ q) ∧ Cal false M 1 "all_together" [.loc 0] [.lst (fs.map tD)] (.dat (tD f)) [.lst (fs.map tD)] := by
  let S : Nat → TF := fun i => (fs.take i).foldl andT .tt
  have inv : ∀ i, i ≤ fs.length → (S i).ok ∧ (S i).dp ≤ i + m + 1 ∧ ∀ q, (∀ f ∈ fs, f.qd ≤ q) → (S i).qd ≤ q := by
    intro i
    induction i with
    | zero => intro _; exact ⟨trivial, by simp [S, TF.dp], fun q _ => Nat.zero_le _⟩
    | succ i ih =>
      intro hi
      obtain ⟨h1, h2, h3⟩ := ih (by omega)
      obtain ⟨f, hf⟩ : ∃ f, fs[i]? = some f := ⟨_, List.getElem?_eq_getElem (by omega)⟩
      have hm := List.mem_of_getElem? hf
      have e : S (i + 1) = andT (S i) f := by
        show (fs.take (i + 1)).foldl andT .tt = _
        rw [List.take_succ, hf, List.foldl_append]; rfl
      have d := hd f hm
      rw [e]; unfold andT
      split
      · exact ⟨hok f hm, by omega, fun q hq => hq f hm⟩
      · refine ⟨⟨h1, hok f hm⟩, by simp only [TF.dp]; omega, fun q hq => ?_⟩
        have := h3 q hq
        have := hq f hm
        simp only [TF.qd]; omega
  obtain ⟨o1, o2, o3⟩ := inv fs.length (Nat.le_refl _)
  refine ⟨S fs.length, o1, o2, o3, cal_of D scAll rfl (by simp) fun X b fn => ?_⟩
  refine ex_cons (b.asg 1 (ev_tup (ds := [.str "true"]) (ea_one ev_str)) ?_)
  refine ex_cons (ex_for b.hp b.calm (it_list (ds := fs.map tD) (b.v 0) (.loc rfl)) (fun i Γ μ => ∃ x2, Γ = [some (.loc 0), some (.dat (tD (S i))), x2] ∧ μ = [.lst (fs.map tD)]) ⟨_, rfl, rfl⟩ (fun _ _ _ ⟨_, _, e⟩ => by subst e; exact .loc rfl) ?_ ?_)
  · rintro i d Γ μ hi ⟨x2, rfl, rfl⟩
    rw [List.getElem?_map] at hi
    cases hf : fs[i]? with
    | none => rw [hf] at hi; cases hi
    | some f =>
      rw [hf] at hi; cases hi
      have hi' := (List.getElem?_eq_some_iff.mp hf).1
      obtain ⟨h1, h2, h3⟩ := inv i (by omega)
      have e : S (i + 1) = andT (S i) f := by
        show (fs.take (i + 1)).foldl andT .tt = _
        rw [List.take_succ, hf, List.foldl_append]; rfl
      refine ⟨_, _, b.tg 2, ?_⟩
      refine ex_cons (b.asg 1 (r := .dat (tD (S (i + 1)))) (ev_if (et_cmp (b.v 1) (ev_tup (ds := [.str "true"]) (ea_one ev_str)) (o_eq b.un4 (TF.shaped h1 (by omega)) (by decide +kernel))) (fun q => (b.v 2).to ?_) (fun q => (ev_tup (ds := [.str "and", tD (S i), tD f]) (ea_cons ev_str (ea_cons (b.v 1) (ea_one (b.v 2))))).to ?_)) (ex_nil ⟨_, rfl, rfl⟩))
      · have q' : PyData.eqv (tD (S i)) (tD .tt) = true := q
        rw [e]; unfold andT; rw [if_pos q']
      · have q' : ¬ PyData.eqv (tD (S i)) (tD .tt) = true := Bool.eq_false_iff.mp q
        rw [e]; unfold andT; rw [if_neg q']; rfl
  · rintro Γ μ ⟨x2, rfl, rfl⟩
    rw [List.length_map]
    exact ex_cons (ex_ret (b.v 1) ⟨rfl, _, rfl, trivial⟩)
end
end DL
set_option maxHeartbeats 2000000
/-! telling, place_sentence, same_kind: they run and give a formula. -/
namespace DL
open PySem PySem.Spec PyProof.Rows L2
structure TD (M : Mc) : Prop where
  tel : Df M "telling" "telling" sTelling ["one", "other", "rounds"]
  ps : Df M "place_sentence" "place_sentence" sPlaceS ["row", "other", "rounds", "name"]
  all : Df M "all_together" "all_together" sAll ["formulas"]
  within : Df M "within" "within" sWithin ["side", "name", "formula"]
def Tel (M : Mc) (r : Nat) : Prop := ∀ (u v : Wo), Wd u → Wd v → u.length ≤ 11 → v.length ≤ 11 → kd r u ≠ kd r v → ∃ f : TF, f.ok ∧ f.dp ≤ 18 * r ∧ f.qd ≤ r ∧ Cal false M (3 * r + 60) "telling" [.dat (kd r u), .dat (kd r v), .dat (.int (r : Nat))] [] (.dat (tD f)) []
def nPlaceS : List Str := ["row", "other", "rounds", "name", "left", "colour", "right", "found", "its_left", "its_colour", "its_right", "one"]
theorem scPlaceS : FnScope nPlaceS ["row", "other", "rounds", "name"] (defScope sPlaceS) := ⟨rfl, rfl, rfl, by decide +kernel, rfl, by decide +kernel, by decide +kernel⟩
/-- one more formula, if it is new -/
def stepT (n : Str) (fs : List TF) : Option (Bool × TF) → List TF
  | none => fs
  | some (s, f) => if inD (tD (wi s n f)) (fs.map tD) then fs else fs ++ [wi s n f]
section
variable {M : Mc}
theorem eqv_kd {r : Nat} {u v : Wo} (hu : Wd u) (hv : Wd v) : PyData.eqv (kd r u) (kd r v) = true ↔ kd r u = kd r v := eqv_pl _ _ (kd_pl r hu) (kd_pl r hv)
theorem abc_ok {c : Str} (h : c ∈ abc) : okS c := by
  have := abc_pl h
  unfold okS
  simpa only [plD] using this
theorem cal_placeS (T : Tx M) (K : TD M) {r : Nat} (ih : Tel M r) (hr : r ≤ 2) {u v w : Wo} {c n : Str} (hu : Wd u) (hv : Wd v) (hc : c ∈ abc) (hw : Wd w) (lu : u.length ≤ 11) (lv : v.length ≤ 11) (lw : w.length ≤ 11) (hn : okS n) (hout : rowD (kd r u) c (kd r v) ∉ rowsD r w) :
    ∃ f : TF, f.ok ∧ f.dp ≤ 14 + 19 * r ∧ f.qd ≤ r ∧ Cal false M (3 * r + 61) "place_sentence" [.dat (rowD (kd r u) c (kd r v)), .dat (kd (r + 1) w), .dat (.int ((r + 1 : Nat) : Int)), .dat (.str n)] [] (.dat (tD f)) [] := by
  obtain ⟨os, hos⟩ : ∃ os : List (Option (Bool × TF)), Paired (fun row o => ∃ a d b, Wd a ∧ d ∈ abc ∧ Wd b ∧ row = rowD (kd r a) d (kd r b) ∧ match o with
      | none => d ≠ c
      | some (true, f) => d = c ∧ kd r a ≠ kd r u ∧ f.ok ∧ f.dp ≤ 18 * r ∧ f.qd ≤ r ∧ Cal false M (3 * r + 60) "telling" [.dat (kd r u), .dat (kd r a), .dat (.int (r : Nat))] [] (.dat (tD f)) []
      | some (false, f) => d = c ∧ kd r a = kd r u ∧ f.ok ∧ f.dp ≤ 18 * r ∧ f.qd ≤ r ∧ Cal false M (3 * r + 60) "telling" [.dat (kd r v), .dat (kd r b), .dat (.int (r : Nat))] [] (.dat (tD f)) []) (canon (rowsD r w)) os := list_choose fun row hrow => by
    rw [canon_mem (rows_pl hw)] at hrow
    obtain ⟨a, d, b, e, rfl⟩ := mem_rowsD.mp hrow
    obtain ⟨wa, wd, wb⟩ := hw.split e
    have hz := split_len e
    by_cases hd : d = c
    · by_cases ha : kd r a = kd r u
      · have hb : kd r v ≠ kd r b := fun z => hout (by rw [← ha, z, ← hd]; exact mem_rowsD.mpr ⟨a, d, b, e, rfl⟩)
        obtain ⟨f, f1, f2, f3, f4⟩ := ih _ _ hv wb lv (by omega) hb
        exact ⟨some (false, f), a, d, b, wa, wd, wb, rfl, hd, ha, f1, f2, f3, f4⟩
      · obtain ⟨f, f1, f2, f3, f4⟩ := ih _ _ hu wa lu (by omega) (fun z => ha z.symm)
        exact ⟨some (true, f), a, d, b, wa, wd, wb, rfl, hd, ha, f1, f2, f3, f4⟩
    · exact ⟨none, a, d, b, wa, wd, wb, rfl, hd⟩
  have nl : (canon (rowsD r w)).length ≤ 11 := Nat.le_trans (canon_len _) (by rw [rowsD_len]; exact lw)
  have ol := paired_len hos
  let F : Nat → List TF := fun i => (os.take i).foldl (stepT n) [.cl c n]
  have Fs : ∀ {i o}, os[i]? = some o → F (i + 1) = stepT n (F i) o := fun {i o} ho => by
    show (os.take (i + 1)).foldl (stepT n) _ = _
    rw [List.take_succ, ho, List.foldl_append]; rfl
  have inv : ∀ i, i ≤ os.length → (F i).length ≤ i + 1 ∧ ∀ f ∈ F i, f.ok ∧ f.dp ≤ 19 * r + 1 ∧ f.qd ≤ r := by
    intro i
    induction i with
    | zero => intro _; exact ⟨Nat.le_refl _, fun f hf => by
        have : f = .cl c n := by simpa [F] using hf
        subst this; exact ⟨⟨abc_ok hc, hn⟩, by simp [TF.dp], Nat.zero_le _⟩⟩
    | succ i ihh =>
      intro hi
      obtain ⟨h1, h2⟩ := ihh (by omega)
      obtain ⟨o, ho⟩ : ∃ o, os[i]? = some o := ⟨_, List.getElem?_eq_getElem (by omega)⟩
      obtain ⟨row, _, a, d, b, _, _, _, _, hm⟩ := paired_get hos ho
      rw [Fs ho]
      cases o with
      | none => exact ⟨by simp only [stepT]; omega, h2⟩
      | some q =>
        obtain ⟨s, f⟩ := q
        have hf : f.ok ∧ f.dp ≤ 18 * r ∧ f.qd ≤ r := by
          cases s
          · exact ⟨hm.2.2.1, hm.2.2.2.1, hm.2.2.2.2.1⟩
          · exact ⟨hm.2.2.1, hm.2.2.2.1, hm.2.2.2.2.1⟩
        obtain ⟨d1, d2⟩ := wi_dp (a := s) (n := n) f
        simp only [stepT]
        split
        · exact ⟨by omega, h2⟩
        · refine ⟨by rw [List.length_append, List.length_singleton]; omega, fun g hg => ?_⟩
          rcases List.mem_append.mp hg with hg | hg
          · exact h2 g hg
          · rw [List.mem_singleton] at hg; subst hg
            exact ⟨wi_ok hn hf.1, by omega, by omega⟩
  obtain ⟨i1, i2⟩ := inv os.length (Nat.le_refl _)
  obtain ⟨g, g1, g2, g3, g4⟩ := cal_all T K.all (fs := F os.length) (fun f hf => (i2 f hf).1) (m := 19 * r + 1) (fun f hf => (i2 f hf).2.1) (by omega)
  refine ⟨g, g1, by omega, g3 r fun f hf => (i2 f hf).2.2, cal_of K.ps scPlaceS rfl (by simp) fun X b fn => ?_⟩
  refine ex_cons (ex_asgG (b.v 0) (gt_tup b.calm (ds := [_, _, _]) (gts_cons (b.tg 4) (gts_cons (b.tg 5) (gts_cons (b.tg 6) gts_nil)))) ?_)
  refine ex_cons (b.asg 7 (ev_lst (ds := [.tuple [.str "colour", .str c, .str n]]) (ea_one (ev_tup (ds := [.str "colour", .str c, .str n]) (ea_cons ev_str (ea_cons (b.v 5) (ea_one (b.v 3))))))) ?_)
  refine ex_cons (ex_for b.hp b.calm (it_tup (ds := canon (rowsD r w)) (b.v 1)) (fun i Γ μ => ∃ x8 x9 x10 x11, Γ = [some (.dat (rowD (kd r u) c (kd r v))), some (.dat (kd (r + 1) w)), some (.dat (.int ((r + 1 : Nat) : Int))), some (.dat (.str n)), some (.dat (kd r u)), some (.dat (.str c)), some (.dat (kd r v)), some (.loc 0), x8, x9, x10, x11] ∧ μ = [.lst ((F i).map tD)]) ⟨_, _, _, _, rfl, rfl⟩ (fun _ _ _ _ => trivial) ?_ ?_)
  · rintro i row Γ μ hi ⟨x8, x9, x10, x11, rfl, rfl⟩
    have hi' := (List.getElem?_eq_some_iff.mp hi).1
    obtain ⟨o, ho, a, d, bb, wa, wd, wb, rfl, hm⟩ := paired_get' hos hi
    obtain ⟨h1, h2⟩ := inv i (by omega)
    refine ⟨_, _, gt_tup b.calm (ds := [_, _, _]) (gts_cons (b.tg 8) (gts_cons (b.tg 9) (gts_cons (b.tg 10) gts_nil))), ?_⟩
    cases o with
    | none =>
      have hdc : d ≠ c := hm
      refine ex_cons (ex_ifT ((et_cmp (b.v 9) (b.v 5) o_neS).to (k' := true) (by simp [hdc])) (ex_cons (ex_cont ⟨_, _, _, _, rfl, ?_⟩)))
      rw [Fs ho]; rfl
    | some q =>
      obtain ⟨s, f⟩ := q
      have hdc : d = c := by cases s <;> exact hm.1
      refine ex_cons (ex_ifF ((et_cmp (b.v 9) (b.v 5) o_neS).to (k' := false) (by simp [hdc])) (ex_nil ?_))
      have hf : f.ok ∧ f.dp ≤ 18 * r ∧ f.qd ≤ r := by
        cases s
        · exact ⟨hm.2.2.1, hm.2.2.2.1, hm.2.2.2.2.1⟩
        · exact ⟨hm.2.2.1, hm.2.2.2.1, hm.2.2.2.2.1⟩
      obtain ⟨d1, d2⟩ := wi_dp (a := s) (n := n) f
      have wok := wi_ok (a := s) hn hf.1
      cases s with
      | true =>
        obtain ⟨_, ha, _, _, _, hcal⟩ := hm
        refine ex_cons (ex_ifT ((et_cmp (b.v 8) (b.v 4) (o_ne b.un4 (kd_shaped wa (by omega)) (kd_shaped hu (by omega)))).to (k' := true) ?_) ?_)
        · cases q : PyData.eqv (kd r a) (kd r u) with
          | false => rfl
          | true => exact absurd ((eqv_kd wa hu).mp q) ha
        refine ex_cons (b.asg 11 (b.call (as := [.dat (.str (sideS true)), .dat (.str n), .dat (tD f)]) (ea_cons ev_str (ea_cons (b.v 3) (ea_one (b.call (ea_cons (b.v 4) (ea_cons (b.v 8) (ea_one (ev_pred (b.v 2))))) hcal (by omega))))) (cal_within T K.within f) (by omega)) (ex_nil ?_))
        refine ex_cons (ex_if (et_cmp (b.v 11) (b.v 7) (o_nin (ds := (F i).map tD) b.un (.lst (.loc rfl)) (TF.shaped wok (by omega)) (tfs_lay fun f hf => (h2 f hf).1))) (fun q => ?_) fun q => ?_)
        · refine ex_cons (ex_app (b.v 7) (b.v 11) rfl ?_ (ex_nil (ex_nil ⟨_, _, _, _, rfl, ?_⟩)) ⟨_, rfl⟩)
          · rw [sizeLine_eq, List.length_map]; omega
          · rw [Fs ho]; simp only [stepT]; rw [if_neg (by simpa using q), List.map_append]; rfl
        · refine ex_nil (ex_nil ⟨_, _, _, _, rfl, ?_⟩)
          rw [Fs ho]; simp only [stepT]; rw [if_pos (by simpa using q)]
      | false =>
        obtain ⟨_, ha, _, _, _, hcal⟩ := hm
        refine ex_cons (ex_ifF ((et_cmp (b.v 8) (b.v 4) (o_ne b.un4 (kd_shaped wa (by omega)) (kd_shaped hu (by omega)))).to (k' := false) ?_) ?_)
        · rw [(eqv_kd wa hu).mpr ha]; rfl
        refine ex_cons (b.asg 11 (b.call (as := [.dat (.str (sideS false)), .dat (.str n), .dat (tD f)]) (ea_cons ev_str (ea_cons (b.v 3) (ea_one (b.call (ea_cons (b.v 6) (ea_cons (b.v 10) (ea_one (ev_pred (b.v 2))))) hcal (by omega))))) (cal_within T K.within f) (by omega)) (ex_nil ?_))
        refine ex_cons (ex_if (et_cmp (b.v 11) (b.v 7) (o_nin (ds := (F i).map tD) b.un (.lst (.loc rfl)) (TF.shaped wok (by omega)) (tfs_lay fun f hf => (h2 f hf).1))) (fun q => ?_) fun q => ?_)
        · refine ex_cons (ex_app (b.v 7) (b.v 11) rfl ?_ (ex_nil (ex_nil ⟨_, _, _, _, rfl, ?_⟩)) ⟨_, rfl⟩)
          · rw [sizeLine_eq, List.length_map]; omega
          · rw [Fs ho]; simp only [stepT]; rw [if_neg (by simpa using q), List.map_append]; rfl
        · refine ex_nil (ex_nil ⟨_, _, _, _, rfl, ?_⟩)
          rw [Fs ho]; simp only [stepT]; rw [if_pos (by simpa using q)]
  · rintro Γ μ ⟨x8, x9, x10, x11, rfl, rfl⟩
    rw [ol]
    exact ex_cons (ex_ret (b.callR (j := 0) g4 (ea_one (b.v 7)) rfl (by omega)) ⟨rfl, _, rfl, trivial⟩)
end
end DL
set_option maxHeartbeats 2000000
/-! telling, same_kind. -/
namespace DL
open PySem PySem.Spec PyProof.Rows L2
def nTelling : List Str := ["one", "other", "rounds", "name", "row"]
theorem scTelling : FnScope nTelling ["one", "other", "rounds"] (defScope sTelling) := ⟨rfl, rfl, rfl, by decide +kernel, rfl, by decide +kernel, by decide +kernel⟩
def nmR (r : Nat) : Str := ("x" : Str) ++ toString ((r : Nat) : Int)
theorem nmR_ok {r : Nat} (h : r ≤ 3) : okS (nmR r) ∧ ("x" : Str).length + (toString ((r : Nat) : Int) : Str).length ≤ 100 := by
  match r, h with
  | 0, _ => exact ⟨by unfold okS; decide +kernel, by decide +kernel⟩
  | 1, _ => exact ⟨by unfold okS; decide +kernel, by decide +kernel⟩
  | 2, _ => exact ⟨by unfold okS; decide +kernel, by decide +kernel⟩
  | 3, _ => exact ⟨by unfold okS; decide +kernel, by decide +kernel⟩
theorem first_out {xs ys : List PyData} : (∀ x ∈ xs, x ∈ ys) ∨ ∃ (i : Nat) (x : PyData), xs[i]? = some x ∧ x ∉ ys ∧ ∀ (j : Nat) y, j < i → xs[j]? = some y → y ∈ ys := by
  classical
  induction xs with
  | nil => exact .inl fun x hx => by simp at hx
  | cons x xs ih =>
    by_cases hx : x ∈ ys
    · rcases ih with h | ⟨i, z, h1, h2, h3⟩
      · exact .inl fun z hz => by
          rcases List.mem_cons.mp hz with rfl | hz
          · exact hx
          · exact h z hz
      · refine .inr ⟨i + 1, z, h1, h2, fun j y hj hy => ?_⟩
        cases j with
        | zero => simp at hy; subst hy; exact hx
        | succ j => exact h3 j y (by omega) hy
    · exact .inr ⟨0, x, rfl, hx, fun j y hj => by omega⟩
section
variable {M : Mc}
/-- where a row stands alone -/
theorem cal_tel1 (T : Tx M) (K : TD M) {r : Nat} (ih : Tel M r) (hr : r ≤ 2) {u v : Wo} (hu : Wd u) (hv : Wd v) (lu : u.length ≤ 11) (lv : v.length ≤ 11) (hx : ¬ ∀ x ∈ canon (rowsD r u), x ∈ canon (rowsD r v)) :
    ∃ f : TF, f.ok ∧ f.dp ≤ 15 + 19 * r ∧ f.qd ≤ r + 1 ∧ Cal false M (3 * r + 62) "telling" [.dat (kd (r + 1) u), .dat (kd (r + 1) v), .dat (.int ((r + 1 : Nat) : Int))] [] (.dat (tD f)) [] := by
  rcases first_out (xs := canon (rowsD r u)) (ys := canon (rowsD r v)) with h | ⟨i, row, h1, h2, h3⟩
  · exact absurd h hx
  have hm := (canon_mem (rows_pl hu)).mp (List.mem_of_getElem? h1)
  obtain ⟨a, c, b', e, rfl⟩ := mem_rowsD.mp hm
  obtain ⟨wa, wc, wb⟩ := hu.split e
  have hz := split_len e
  obtain ⟨n1, n2⟩ := nmR_ok (r := r + 1) (by omega)
  obtain ⟨f, f1, f2, f3, f4⟩ := cal_placeS T K ih hr wa wb wc hv (by omega) (by omega) lv n1 (fun z => h2 ((canon_mem (rows_pl hv)).mpr z))
  have hne : kd (r + 1) u ≠ kd (r + 1) v := fun z => h2 ((canon_mem (rows_pl hv)).mpr ((kd_rows hu hv z _).mp hm))
  refine ⟨.sm (nmR (r + 1)) f, ⟨n1, f1⟩, by simp only [TF.dp]; omega, by simp only [TF.qd]; omega, cal_of K.tel scTelling rfl (by simp) fun X b fn => ?_⟩
  refine ex_cons (ex_ifF ((et_cmp (b.v 0) (b.v 1) (o_eq b.un4 (kd_shaped hu (by omega)) (kd_shaped hv (by omega)))).to (k' := false) (Bool.eq_false_iff.mpr fun q => hne ((eqv_kd hu hv).mp q))) (ex_nil ?_))
  refine ex_cons (b.asg 3 (r := .dat (.str (nmR (r + 1)))) (ev_bin ev_str (b.strI T.str (b.v 2) ?_) (o_adds (by rw [sizeLine_eq]; omega))) ?_)
  · have : (((r + 1 : Nat) : Int)).natAbs = r + 1 := by omega
    rw [this]
    have : (r + 1).log2 ≤ r + 1 := Nat.log2_le_self _
    omega
  refine ex_cons (ex_for b.hp b.calm (it_tup (ds := canon (rowsD r u)) (b.v 0)) (fun j Γ μ => ∃ x4, Γ = [some (.dat (kd (r + 1) u)), some (.dat (kd (r + 1) v)), some (.dat (.int ((r + 1 : Nat) : Int))), some (.dat (.str (nmR (r + 1)))), x4] ∧ μ = [] ∧ j ≤ i) ⟨_, rfl, rfl, Nat.zero_le _⟩ (fun _ _ _ _ => trivial) ?_ ?_)
  · rintro j row Γ μ hj ⟨x4, rfl, rfl, hji⟩
    obtain ⟨a2, c2, b2, e2, hrow⟩ := mem_rowsD.mp ((canon_mem (rows_pl hu)).mp (List.mem_of_getElem? hj))
    obtain ⟨wa2, wc2, wb2⟩ := hu.split e2
    have sh : SeqAt.shaped row = true := by rw [hrow]; exact row_shaped wa2 wc2 wb2 (by omega)
    have pr : plD row = true := by rw [hrow]; exact row_plD wa2 wc2 wb2
    have pv : plDs (canon (rowsD r v)) = true := canon_pl (rows_pl hv)
    refine ⟨_, _, b.tg 4, ?_⟩
    by_cases hij : j < i
    · have hin := h3 j row hij hj
      refine ex_cons (ex_ifF ((et_cmp (b.v 4) (b.v 1) (o_nin (ds := canon (rowsD r v)) b.un (.tup _) sh (pls_lay _ pv))).to (k' := false) ?_) (ex_nil (ex_nil ⟨_, rfl, rfl, by omega⟩)))
      rw [(inD_mem pr pv).mpr hin]; rfl
    · obtain rfl : j = i := by omega
      rw [h1] at hj; cases hj
      refine ex_cons (ex_ifT ((et_cmp (b.v 4) (b.v 1) (o_nin (ds := canon (rowsD r v)) b.un (.tup _) sh (pls_lay _ pv))).to (k' := true) ?_) ?_)
      · rw [Bool.eq_false_iff.mpr fun q => h2 ((inD_mem pr pv).mp q)]; rfl
      exact ex_cons (ex_ret (ev_tup (ds := [.str "some", .str (nmR (r + 1)), tD f]) (ea_cons ev_str (ea_cons (b.v 3) (ea_one (b.call (ea_cons (b.v 4) (ea_cons (b.v 1) (ea_cons (b.v 2) (ea_one (b.v 3))))) f4 (by omega)))))) ⟨rfl, _, rfl, trivial⟩)
  · rintro Γ μ ⟨x4, rfl, rfl, hle⟩
    have := (List.getElem?_eq_some_iff.mp h1).1
    omega
theorem tel (T : Tx M) (K : TD M) : ∀ (r : Nat), r ≤ 3 → Tel M r
  | 0, _ => by
    intro u v _ _ _ _ hne
    exact absurd rfl hne
  | r + 1, hr => by
    intro u v hu hv lu lv hne
    have ih := tel T K r (by omega)
    by_cases hx : ∀ x ∈ canon (rowsD r u), x ∈ canon (rowsD r v)
    · have hx' : ¬ ∀ x ∈ canon (rowsD r v), x ∈ canon (rowsD r u) := fun z => hne (kd_ext hu hv fun x => by
        have h1 := hx x
        have h2 := z x
        rw [canon_mem (rows_pl hu), canon_mem (rows_pl hv)] at h1 h2
        exact ⟨h1, h2⟩)
      obtain ⟨f, f1, f2, f3, f4⟩ := cal_tel1 T K ih (by omega) hv hu lv lu hx'
      obtain ⟨n1, n2⟩ := nmR_ok (r := r + 1) (by omega)
      refine ⟨.nt f, f1, by simp only [TF.dp]; omega, by simp only [TF.qd]; omega, ?_⟩
      have hl : 3 * (r + 1) + 60 = (3 * r + 62) + 1 := by omega
      rw [hl]
      refine cal_of K.tel scTelling rfl (by simp) fun X b fn => ?_
      refine ex_cons (ex_ifF ((et_cmp (b.v 0) (b.v 1) (o_eq b.un4 (kd_shaped hu (by omega)) (kd_shaped hv (by omega)))).to (k' := false) (Bool.eq_false_iff.mpr fun q => hne ((eqv_kd hu hv).mp q))) (ex_nil ?_))
      refine ex_cons (b.asg 3 (r := .dat (.str (nmR (r + 1)))) (ev_bin ev_str (b.strI T.str (b.v 2) ?_) (o_adds (by rw [sizeLine_eq]; omega))) ?_)
      · have : (((r + 1 : Nat) : Int)).natAbs = r + 1 := by omega
        rw [this]
        have : (r + 1).log2 ≤ r + 1 := Nat.log2_le_self _
        omega
      refine ex_cons (ex_for b.hp b.calm (it_tup (ds := canon (rowsD r u)) (b.v 0)) (fun j Γ μ => ∃ x4, Γ = [some (.dat (kd (r + 1) u)), some (.dat (kd (r + 1) v)), some (.dat (.int ((r + 1 : Nat) : Int))), some (.dat (.str (nmR (r + 1)))), x4] ∧ μ = []) ⟨_, rfl, rfl⟩ (fun _ _ _ _ => trivial) ?_ ?_)
      · rintro j row Γ μ hj ⟨x4, rfl, rfl⟩
        obtain ⟨a2, c2, b2, e2, hrow⟩ := mem_rowsD.mp ((canon_mem (rows_pl hu)).mp (List.mem_of_getElem? hj))
        obtain ⟨wa2, wc2, wb2⟩ := hu.split e2
        have sh : SeqAt.shaped row = true := by rw [hrow]; exact row_shaped wa2 wc2 wb2 (by omega)
        have pr : plD row = true := by rw [hrow]; exact row_plD wa2 wc2 wb2
        have pv : plDs (canon (rowsD r v)) = true := canon_pl (rows_pl hv)
        refine ⟨_, _, b.tg 4, ?_⟩
        refine ex_cons (ex_ifF ((et_cmp (b.v 4) (b.v 1) (o_nin (ds := canon (rowsD r v)) b.un (.tup _) sh (pls_lay _ pv))).to (k' := false) ?_) (ex_nil (ex_nil ⟨_, rfl, rfl⟩)))
        rw [(inD_mem pr pv).mpr (hx row (List.mem_of_getElem? hj))]; rfl
      · rintro Γ μ ⟨x4, rfl, rfl⟩
        exact ex_cons (ex_ret (ev_tup (ds := [.str "not", tD f]) (ea_cons ev_str (ea_one (b.call (ea_cons (b.v 1) (ea_cons (b.v 0) (ea_one (b.v 2)))) f4 (by omega))))) ⟨rfl, _, rfl, trivial⟩)
    · obtain ⟨f, f1, f2, f3, f4⟩ := cal_tel1 T K ih (by omega) hu hv lu lv hx
      exact ⟨f, f1, by omega, f3, f4.mono (by omega)⟩
theorem cal_telNone (T : Tx M) (K : TD M) {r : Nat} (hr : r ≤ 4) {u v : Wo} (hu : Wd u) (hv : Wd v) (e : kd r u = kd r v) : Cal false M 1 "telling" [.dat (kd r u), .dat (kd r v), .dat (.int (r : Nat))] [] (.dat .none) [] := by
  refine cal_of K.tel scTelling rfl (by simp) fun X b fn => ?_
  refine ex_cons (ex_ifT ((et_cmp (b.v 0) (b.v 1) (o_eq b.un4 (kd_shaped hu (by omega)) (kd_shaped hv (by omega)))).to (k' := true) ((eqv_kd hu hv).mpr e)) ?_)
  exact ex_cons (ex_ret ev_non ⟨rfl, _, rfl, trivial⟩)
theorem scSame : FnScope ["word", "other", "rounds", "one", "two"] ["word", "other", "rounds"] (defScope sSame) := ⟨rfl, rfl, rfl, by decide +kernel, rfl, by decide +kernel, by decide +kernel⟩
theorem cal_same (T : Tx M) (K : TD M) (D : Df M "same_kind" "same_kind" sSame ["word", "other", "rounds"]) (DK : ∀ {w : Wo}, Wd w → w.length ≤ 12 → ∀ {r : Nat}, r ≤ 4 → Cal false M 6 "kind_of" [.dat (wD w), .dat (.int (r : Nat))] [] (.dat (kd r w)) []) {r : Nat} (hr : r ≤ 3) {u v : Wo} (hu : Wd u) (hv : Wd v) (lu : u.length ≤ 11) (lv : v.length ≤ 11) :
    ∃ d, Cal false M 80 "same_kind" [.dat (wD u), .dat (wD v), .dat (.int (r : Nat))] [] (.dat (.tuple [.bool (PyData.eqv (kd r u) (kd r v)), d])) [] := by
  obtain ⟨d, hd⟩ : ∃ d, Cal false M 70 "telling" [.dat (kd r u), .dat (kd r v), .dat (.int (r : Nat))] [] (.dat d) [] := by
    by_cases e : kd r u = kd r v
    · exact ⟨_, (cal_telNone T K (by omega) hu hv e).mono (by omega)⟩
    · obtain ⟨f, _, _, _, h⟩ := tel T K r hr _ _ hu hv lu lv e
      exact ⟨_, h.mono (by omega)⟩
  refine ⟨d, (cal_of (k := 75) D scSame rfl (by simp) fun X b fn => ?_).mono (by omega)⟩
  refine ex_cons (b.pair 3 4 (ea_cons (b.call (ea_cons (b.v 0) (ea_one (b.v 2))) (DK hu (by omega) (by omega)) (by omega)) (ea_one (b.call (ea_cons (b.v 1) (ea_one (b.v 2))) (DK hv (by omega) (by omega)) (by omega)))) ?_)
  exact ex_cons (ex_ret (ev_tup (ds := [.bool (PyData.eqv (kd r u) (kd r v)), d]) (ea_cons (ev_cmp (b.v 3) (b.v 4) (o_eq b.un4 (kd_shaped hu (by omega)) (kd_shaped hv (by omega)))) (ea_one (b.call (ea_cons (b.v 3) (ea_cons (b.v 4) (ea_one (b.v 2)))) hd (by omega))))) ⟨rfl, _, rfl, trivial⟩)
end
end DL
set_option maxHeartbeats 2000000
/-! The law's own helpers: cells, digits, draws. -/
namespace DL
open PySem PySem.Spec PyProof.Rows L2
def intsD (ns : List Int) : PyData := .list (ns.map .int)
theorem scCell : FnScope ["script", "k"] ["script", "k"] (defScope sCell) := ⟨rfl, rfl, rfl, by decide +kernel, rfl, by decide +kernel, by decide +kernel⟩
theorem scTwo : FnScope ["many", "found", "turn"] ["many"] (defScope sTwo) := ⟨rfl, rfl, rfl, by decide +kernel, rfl, by decide +kernel, by decide +kernel⟩
theorem scDraw : FnScope ["box", "m", "digits", "at"] ["box", "m"] (defScope sDraw) := ⟨rfl, rfl, rfl, by decide +kernel, rfl, by decide +kernel, by decide +kernel⟩
theorem scPick : FnScope ["box", "rows"] ["box", "rows"] (defScope sPick) := ⟨rfl, rfl, rfl, by decide +kernel, rfl, by decide +kernel, by decide +kernel⟩
def nDigits : List Str := ["script", "first", "last", "found", "k", "c", "n", "turn", "s"]
theorem scDigits : FnScope nDigits ["script", "first", "last"] (defScope sDigits) := ⟨rfl, rfl, rfl, by decide +kernel, rfl, by decide +kernel, by decide +kernel⟩
/-- the box of draws -/
def bxM (ds : List Int) (at_ : Nat) : MO := .lst [intsD ds, .int (at_ : Nat)]
section
variable {M : Mc}
theorem cal_cell (T : Tx M) (D : Df M "_law_cell" "_law_cell" sCell ["script", "k"]) {ns : List Int} {k : Nat} : Cal false M 1 "_law_cell" [.dat (intsD ns), .dat (.int (k : Nat))] [] (.dat (.int (ns.getD k 0))) [] := by
  refine cal_of D scCell rfl (by simp) fun X b fn => ?_
  by_cases h : k < ns.length
  · refine ex_cons (ex_ifT ((et_cmp (b.v 1) (b.len T.len (ds := ns.map .int) (b.v 0) (.lst (.dat _))) o_lt).to (k' := true) (by simp [h])) ?_)
    exact ex_cons (ex_ret (ev_ix (d := .int (ns.getD k 0)) (ds := ns.map .int) (b.v 0) (b.v 1) (fun _ _ => rfl) (.lst (.dat _)) (atI_nat (by rw [List.getElem?_map, List.getElem?_eq_getElem h]; simp [List.getD, List.getElem?_eq_getElem h]))) ⟨rfl, _, rfl, trivial⟩)
  · refine ex_cons (ex_ifF ((et_cmp (b.v 1) (b.len T.len (ds := ns.map .int) (b.v 0) (.lst (.dat _))) o_lt).to (k' := false) (by simp; omega)) (ex_nil ?_))
    exact ex_cons (ex_ret ev_int ⟨by rw [List.getD, List.getElem?_eq_none (by omega)]; rfl, _, rfl, trivial⟩)
theorem cal_two (T : Tx M) (D : Df M "_law_two" "_law_two" sTwo ["many"]) {n : Nat} (hn : n ≤ 60) : Cal false M 1 "_law_two" [.dat (.int (n : Nat))] [] (.dat (.int ((2 ^ n : Nat) : Int))) [] := by
  refine cal_of D scTwo rfl (by simp) fun X b fn => ?_
  refine ex_cons (b.asg 1 ev_int ?_)
  refine ex_cons (ex_for b.hp b.calm (b.itr1 T.range (b.v 0) (by omega) (by omega)) (fun i Γ μ => ∃ x2, Γ = [some (.dat (.int (n : Nat))), some (.dat (.int ((2 ^ i : Nat) : Int))), x2] ∧ μ = []) ⟨_, rfl, rfl⟩ (fun _ _ _ _ => trivial) ?_ ?_)
  · rintro i d Γ μ hi ⟨x2, rfl, rfl⟩
    have hi' : i < n := by
      have := (List.getElem?_eq_some_iff.mp hi).1
      rw [rangeD_len] at this; simpa using this
    refine ⟨_, _, b.tg 2, ?_⟩
    have e2 : AV.dat (.int (((2 ^ i : Nat) : Int) * 2)) = .dat (.int ((2 ^ (i + 1) : Nat) : Int)) := by rw [Nat.pow_succ]; congr 2
    exact ex_cons (b.asg 1 ((ev_bin (b.v 1) ev_int (o_mul (.inr ⟨by decide, by decide⟩))).to e2) (ex_nil ⟨_, rfl, rfl⟩))
  · rintro Γ μ ⟨x2, rfl, rfl⟩
    rw [rangeD_len]
    exact ex_cons (ex_ret (b.v 1) ⟨by simp, _, rfl, trivial⟩)
theorem cal_draw (T : Tx M) (D : Df M "_law_draw" "_law_draw" sDraw ["box", "m"]) {ds : List Int} {at_ m : Nat} (hm : 0 < m) (ha : at_ ≤ 1000) : ∃ d : Nat, d < m ∧ Cal false M 1 "_law_draw" [.loc 0, .dat (.int (m : Nat))] [bxM ds at_] (.dat (.int (d : Nat))) [bxM ds (at_ + 1)] := by
  have mp : (0 : Int) < (m : Nat) := by omega
  have conv : ∀ z : Int, ∃ d : Nat, d < m ∧ z % (m : Nat) = (d : Int) := fun z => by
    have h1 := Int.emod_nonneg z (b := (m : Nat)) (by omega)
    have h2 := Int.emod_lt_of_pos z mp
    exact ⟨(z % (m : Nat)).toNat, by omega, by omega⟩
  by_cases h : at_ < ds.length
  · obtain ⟨d, hd, e⟩ := conv ds[at_]
    refine ⟨d, hd, cal_of D scDraw rfl (by simp) fun X b fn => ?_⟩
    refine ex_cons (ex_asgG (b.v 0) (gt_lst b.calm (ds := [intsD ds, .int (at_ : Nat)]) rfl (gts_cons (b.tg 2) (gts_cons (b.tg 3) gts_nil))) ?_)
    refine ex_cons (ex_setL (ev_bin (b.v 3) ev_int o_add) (b.v 0) ev_int rfl (j := 1) rfl ?_)
    refine ex_cons (ex_ifT ((et_cmp (b.v 3) (b.len T.len (ds := ds.map .int) (b.v 2) (.lst (.dat _))) o_lt).to (k' := true) (by simp [h])) ?_)
    refine ex_cons (ex_ret (ev_bin (ev_ix (d := .int ds[at_]) (ds := ds.map .int) (b.v 2) (b.v 3) (fun _ _ => rfl) (.lst (.dat _)) (atI_nat (by rw [List.getElem?_map, List.getElem?_eq_getElem h]; rfl))) (b.v 1) (o_mod mp)) ⟨?_, [], ?_, trivial⟩)
    · rw [e]
    · simp [bxM]
  · obtain ⟨d, hd, e⟩ := conv (((((at_ : Nat) : Int) * (at_ : Nat) * 3 + (at_ : Nat) * 4) + (at_ : Nat) / 3) + 1)
    refine ⟨d, hd, cal_of D scDraw rfl (by simp) fun X b fn => ?_⟩
    refine ex_cons (ex_asgG (b.v 0) (gt_lst b.calm (ds := [intsD ds, .int (at_ : Nat)]) rfl (gts_cons (b.tg 2) (gts_cons (b.tg 3) gts_nil))) ?_)
    refine ex_cons (ex_setL (ev_bin (b.v 3) ev_int o_add) (b.v 0) ev_int rfl (j := 1) rfl ?_)
    refine ex_cons (ex_ifF ((et_cmp (b.v 3) (b.len T.len (ds := ds.map .int) (b.v 2) (.lst (.dat _))) o_lt).to (k' := false) (by simp; omega)) (ex_nil ?_))
    refine ex_cons (ex_ret (ev_bin (ev_bin (ev_bin (ev_bin (ev_bin (ev_bin (b.v 3) (b.v 3) (o_mul (.inl ⟨by omega, by omega⟩))) ev_int (o_mul (.inr ⟨by decide, by decide⟩))) (ev_bin (b.v 3) ev_int (o_mul (.inr ⟨by decide, by decide⟩))) o_add) (ev_bin (b.v 3) ev_int (o_div ⟨by decide, by decide⟩)) o_add) ev_int o_add) (b.v 1) (o_mod mp)) ⟨?_, [], ?_, trivial⟩)
    · rw [e]
    · simp [bxM]
theorem cal_pick (T : Tx M) (D : Df M "_law_pick" "_law_pick" sPick ["box", "rows"]) (DD : Df M "_law_draw" "_law_draw" sDraw ["box", "m"]) {ds : List Int} {at_ : Nat} {rows : List PyData} (hr : 0 < rows.length) (ha : at_ ≤ 1000) : ∃ d ∈ rows, Cal false M 2 "_law_pick" [.loc 0, .dat (.list rows)] [bxM ds at_] (.dat d) [bxM ds (at_ + 1)] := by
  obtain ⟨i, hi, hc⟩ := cal_draw T DD (ds := ds) (at_ := at_) hr ha
  refine ⟨rows[i], List.getElem_mem _, cal_of D scPick rfl (by simp) fun X b fn => ?_⟩
  refine ex_cons (ex_ret (ev_ix (d := rows[i]) (ds := rows) (b.v 1) (b.callM (j := 0) hc (ea_cons (b.v 0) (ea_one (b.len T.len (ds := rows) (b.v 1) (.lst (.dat _))))) rfl (by omega)) (fun _ _ => rfl) (.lst (.dat _)) (atI_nat (List.getElem?_eq_getElem hi))) ⟨rfl, [], rfl, trivial⟩)
end
end DL
set_option maxHeartbeats 2000000
/-! _law_digits. -/
namespace DL
open PySem PySem.Spec PyProof.Rows L2
def bigF (c : Int) : Nat → Int × List Int
  | 0 => (c, [])
  | i + 1 => if 0 < (bigF c i).1 then ((bigF c i).1 / 1009, (bigF c i).2 ++ [(bigF c i).1 % 1009]) else bigF c i
def smF (c : Int) : Nat → Int × List Int
  | 0 => (c, [])
  | i + 1 => (((smF c i).1 * 16807 + (i : Nat) * 7 + 1) % 2147483647, (smF c i).2 ++ [(((smF c i).1 * 16807 + (i : Nat) * 7 + 1) % 2147483647) / 997 % 1009])
def absF (c : Int) : Int := if c < 0 then 1 - c * 2 else c
def cellF (k : Nat) (c : Int) : List Int := if 10 ^ 18 ≤ absF c then (bigF (absF c) 60).2 else (smF ((absF c * 48271 + ((k : Nat) + 1) * 69621 + 11) % 2147483647) 12).2
def digF (ns : List Int) : Nat → List Int
  | 0 => []
  | k + 1 => digF ns k ++ cellF k (ns.getD k 0)
theorem bigF_len (c : Int) : ∀ i, (bigF c i).2.length ≤ i
  | 0 => Nat.le_refl _
  | i + 1 => by
    have := bigF_len c i
    unfold bigF; split
    · simp; omega
    · omega
theorem smF_len (c : Int) : ∀ i, (smF c i).2.length ≤ i
  | 0 => Nat.le_refl _
  | i + 1 => by
    have := smF_len c i
    unfold smF; simp; omega
theorem cellF_len (k : Nat) (c : Int) : (cellF k c).length ≤ 60 := by
  unfold cellF; split
  · exact bigF_len _ _
  · exact Nat.le_trans (smF_len _ _) (by omega)
theorem digF_len (ns : List Int) : ∀ k, (digF ns k).length ≤ 60 * k
  | 0 => Nat.le_refl _
  | k + 1 => by
    have := digF_len ns k
    have := cellF_len k (ns.getD k 0)
    unfold digF; rw [List.length_append]; omega
section
variable {M : Mc}
theorem cal_digits (T : Tx M) (D : Df M "_law_digits" "_law_digits" sDigits ["script", "first", "last"]) (DC : Df M "_law_cell" "_law_cell" sCell ["script", "k"]) {ns : List Int} : Cal false M 2 "_law_digits" [.dat (intsD ns), .dat (.int 0), .dat (.int 63)] [] (.loc 0) [.lst ((digF ns 63).map .int)] := by
  refine cal_of D scDigits rfl (by simp) fun X b fn => ?_
  refine ex_cons (b.asg 3 (ev_lst (ds := []) ea_nil) ?_)
  refine ex_cons (ex_for b.hp b.calm (b.itr2 T.range (b.v 1) (b.v 2) (by decide)) (fun i Γ μ => ∃ x4 x5 x6 x7 x8, Γ = [some (.dat (intsD ns)), some (.dat (.int 0)), some (.dat (.int 63)), some (.loc 0), x4, x5, x6, x7, x8] ∧ μ = [.lst ((digF ns i).map .int)]) ⟨_, _, _, _, _, rfl, rfl⟩ (fun _ _ _ _ => trivial) ?_ ?_)
  · rintro k d Γ μ hk ⟨x4, x5, x6, x7, x8, rfl, rfl⟩
    have hk' : k < 63 := by
      have := (List.getElem?_eq_some_iff.mp hk).1
      rw [rangeD_len] at this; simpa using this
    rw [rangeD_get (by simpa using hk')] at hk
    cases hk
    have ek : (0 : Int) + (k : Nat) = (k : Nat) := by omega
    rw [ek]
    have ld := digF_len ns k
    refine ⟨_, _, b.tg 4, ?_⟩
    refine ex_cons (b.asg 5 (b.call (ea_cons (b.v 0) (ea_one (b.v 4))) (cal_cell T DC (ns := ns) (k := k)) (by omega)) ?_)
    generalize hc : ns.getD k 0 = c
    by_cases hneg : c < 0
    · have ea : 1 - c * 2 = absF c := by unfold absF; rw [if_pos hneg]
      refine ex_cons (ex_ifT ((et_cmp (b.v 5) ev_int o_lt).to (k' := true) (by simp [hneg])) (ex_cons (b.asg 5 ((ev_bin ev_int (ev_bin (b.v 5) ev_int (o_mul (.inr ⟨by decide, by decide⟩))) o_sub).to (r' := .dat (.int (absF c))) (by rw [ea])) (ex_nil ?_))))
      have hcf : cellF k c = if 10 ^ 18 ≤ absF c then (bigF (absF c) 60).2 else (smF ((absF c * 48271 + ((k : Nat) + 1) * 69621 + 11) % 2147483647) 12).2 := rfl
      by_cases hbig : (10 : Int) ^ 18 ≤ absF c
      · refine ex_cons (ex_ifT ((et_cmp (b.v 5) (ev_bin ev_int ev_int (o_pow ⟨by decide, by decide, by decide⟩)) o_ge).to (k' := true) (decide_eq_true hbig)) ?_)
        refine ex_cons (b.asg 6 (b.v 5) ?_)
        refine ex_cons (ex_for b.hp b.calm (b.itr1 T.range ev_int (by decide) (by decide)) (fun i Γ μ => ∃ x7 x8, Γ = [some (.dat (intsD ns)), some (.dat (.int 0)), some (.dat (.int 63)), some (.loc 0), some (.dat (.int (k : Nat))), some (.dat (.int (absF c))), some (.dat (.int (bigF (absF c) i).1)), x7, x8] ∧ μ = [.lst ((digF ns k ++ (bigF (absF c) i).2).map .int)]) ⟨_, _, rfl, by simp [bigF]⟩ (fun _ _ _ _ => trivial) ?_ ?_)
        · rintro i d Γ μ hi ⟨x7, x8, rfl, rfl⟩
          have hi' : i < 60 := by
            have := (List.getElem?_eq_some_iff.mp hi).1
            rw [rangeD_len] at this; simpa using this
          have lb := bigF_len (absF c) i
          refine ⟨_, _, b.tg 7, ?_⟩
          by_cases hp : 0 < (bigF (absF c) i).1
          · refine ex_cons (ex_ifT ((et_cmp (b.v 6) ev_int o_gt).to (k' := true) (decide_eq_true hp)) ?_)
            refine ex_cons (ex_app (b.v 3) (ev_bin (b.v 6) ev_int (o_mod (by decide))) rfl (by rw [sizeLine_eq, List.length_map, List.length_append]; omega) ?_ ⟨_, rfl⟩)
            refine ex_cons (b.asg 6 (ev_bin (b.v 6) ev_int (o_div ⟨by decide, by decide⟩)) (ex_nil (ex_nil ⟨some (.dat d), x8, ?_, ?_⟩)))
            · rw [bigF, if_pos hp]; rfl
            · rw [bigF, if_pos hp]; simp
          · refine ex_cons (ex_ifF ((et_cmp (b.v 6) ev_int o_gt).to (k' := false) (decide_eq_false hp)) (ex_nil (ex_nil ⟨some (.dat d), x8, ?_, ?_⟩)))
            · rw [bigF, if_neg hp]; rfl
            · rw [bigF, if_neg hp]
        · rintro Γ μ ⟨x7, x8, rfl, rfl⟩
          refine ex_nil (ex_nil ⟨_, _, _, _, _, rfl, ?_⟩)
          rw [rangeD_len]
          show _ = [MO.lst ((digF ns k ++ cellF k (ns.getD k 0)).map .int)]
          rw [hc, hcf, if_pos hbig]; rfl
      · refine ex_cons (ex_ifF ((et_cmp (b.v 5) (ev_bin ev_int ev_int (o_pow ⟨by decide, by decide, by decide⟩)) o_ge).to (k' := false) (decide_eq_false hbig)) ?_)
        refine ex_cons (b.asg 8 (ev_bin (ev_bin (ev_bin (ev_bin (b.v 5) ev_int (o_mul (.inr ⟨by decide, by decide⟩))) (ev_bin (b.int T.int (ev_bin (b.v 4) ev_int o_add)) ev_int (o_mul (.inr ⟨by decide, by decide⟩))) o_add) ev_int o_add) ev_int (o_mod (by decide))) ?_)
        generalize hs0 : (absF c * 48271 + ((k : Nat) + 1) * 69621 + 11) % 2147483647 = s0 at hcf
        refine ex_cons (ex_for b.hp b.calm (b.itr1 T.range ev_int (by decide) (by decide)) (fun i Γ μ => ∃ x6 x7, Γ = [some (.dat (intsD ns)), some (.dat (.int 0)), some (.dat (.int 63)), some (.loc 0), some (.dat (.int (k : Nat))), some (.dat (.int (absF c))), x6, x7, some (.dat (.int (smF s0 i).1))] ∧ μ = [.lst ((digF ns k ++ (smF s0 i).2).map .int)]) ⟨_, _, by rw [← hs0]; rfl, by simp [smF]⟩ (fun _ _ _ _ => trivial) ?_ ?_)
        · rintro i d Γ μ hi ⟨x6, x7, rfl, rfl⟩
          have hi' : i < 12 := by
            have := (List.getElem?_eq_some_iff.mp hi).1
            rw [rangeD_len] at this; simpa using this
          rw [rangeD_get (by simpa using hi')] at hi
          cases hi
          rw [show (0 : Int) + (i : Nat) = (i : Nat) by omega]
          have lb := smF_len s0 i
          refine ⟨_, _, b.tg 7, ?_⟩
          refine ex_cons (b.asg 8 (ev_bin (ev_bin (ev_bin (ev_bin (b.v 8) ev_int (o_mul (.inr ⟨by decide, by decide⟩))) (ev_bin (b.v 7) ev_int (o_mul (.inr ⟨by decide, by decide⟩))) o_add) ev_int o_add) ev_int (o_mod (by decide))) ?_)
          refine ex_cons (ex_app (b.v 3) (ev_bin (ev_bin (b.v 8) ev_int (o_div ⟨by decide, by decide⟩)) ev_int (o_mod (by decide))) rfl (by rw [sizeLine_eq, List.length_map, List.length_append]; omega) (ex_nil ⟨_, _, rfl, ?_⟩) ⟨_, rfl⟩)
          simp [smF]
        · rintro Γ μ ⟨x6, x7, rfl, rfl⟩
          refine ex_nil (ex_nil ⟨_, _, _, _, _, rfl, ?_⟩)
          rw [rangeD_len]
          show _ = [MO.lst ((digF ns k ++ cellF k (ns.getD k 0)).map .int)]
          rw [hc, hcf, if_neg hbig]; rfl
    · have ea : c = absF c := by unfold absF; rw [if_neg hneg]
      refine ex_cons (ex_ifF ((et_cmp (b.v 5) ev_int o_lt).to (k' := false) (by simp; omega)) (ex_nil ?_))
      rw [show AV.dat (.int c) = .dat (.int (absF c)) by rw [← ea]]
      have hcf : cellF k c = if 10 ^ 18 ≤ absF c then (bigF (absF c) 60).2 else (smF ((absF c * 48271 + ((k : Nat) + 1) * 69621 + 11) % 2147483647) 12).2 := rfl
      by_cases hbig : (10 : Int) ^ 18 ≤ absF c
      · refine ex_cons (ex_ifT ((et_cmp (b.v 5) (ev_bin ev_int ev_int (o_pow ⟨by decide, by decide, by decide⟩)) o_ge).to (k' := true) (decide_eq_true hbig)) ?_)
        refine ex_cons (b.asg 6 (b.v 5) ?_)
        refine ex_cons (ex_for b.hp b.calm (b.itr1 T.range ev_int (by decide) (by decide)) (fun i Γ μ => ∃ x7 x8, Γ = [some (.dat (intsD ns)), some (.dat (.int 0)), some (.dat (.int 63)), some (.loc 0), some (.dat (.int (k : Nat))), some (.dat (.int (absF c))), some (.dat (.int (bigF (absF c) i).1)), x7, x8] ∧ μ = [.lst ((digF ns k ++ (bigF (absF c) i).2).map .int)]) ⟨_, _, rfl, by simp [bigF]⟩ (fun _ _ _ _ => trivial) ?_ ?_)
        · rintro i d Γ μ hi ⟨x7, x8, rfl, rfl⟩
          have hi' : i < 60 := by
            have := (List.getElem?_eq_some_iff.mp hi).1
            rw [rangeD_len] at this; simpa using this
          have lb := bigF_len (absF c) i
          refine ⟨_, _, b.tg 7, ?_⟩
          by_cases hp : 0 < (bigF (absF c) i).1
          · refine ex_cons (ex_ifT ((et_cmp (b.v 6) ev_int o_gt).to (k' := true) (decide_eq_true hp)) ?_)
            refine ex_cons (ex_app (b.v 3) (ev_bin (b.v 6) ev_int (o_mod (by decide))) rfl (by rw [sizeLine_eq, List.length_map, List.length_append]; omega) ?_ ⟨_, rfl⟩)
            refine ex_cons (b.asg 6 (ev_bin (b.v 6) ev_int (o_div ⟨by decide, by decide⟩)) (ex_nil (ex_nil ⟨some (.dat d), x8, ?_, ?_⟩)))
            · rw [bigF, if_pos hp]; rfl
            · rw [bigF, if_pos hp]; simp
          · refine ex_cons (ex_ifF ((et_cmp (b.v 6) ev_int o_gt).to (k' := false) (decide_eq_false hp)) (ex_nil (ex_nil ⟨some (.dat d), x8, ?_, ?_⟩)))
            · rw [bigF, if_neg hp]; rfl
            · rw [bigF, if_neg hp]
        · rintro Γ μ ⟨x7, x8, rfl, rfl⟩
          refine ex_nil (ex_nil ⟨_, _, _, _, _, rfl, ?_⟩)
          rw [rangeD_len]
          show _ = [MO.lst ((digF ns k ++ cellF k (ns.getD k 0)).map .int)]
          rw [hc, hcf, if_pos hbig]; rfl
      · refine ex_cons (ex_ifF ((et_cmp (b.v 5) (ev_bin ev_int ev_int (o_pow ⟨by decide, by decide, by decide⟩)) o_ge).to (k' := false) (decide_eq_false hbig)) ?_)
        refine ex_cons (b.asg 8 (ev_bin (ev_bin (ev_bin (ev_bin (b.v 5) ev_int (o_mul (.inr ⟨by decide, by decide⟩))) (ev_bin (b.int T.int (ev_bin (b.v 4) ev_int o_add)) ev_int (o_mul (.inr ⟨by decide, by decide⟩))) o_add) ev_int o_add) ev_int (o_mod (by decide))) ?_)
        generalize hs0 : (absF c * 48271 + ((k : Nat) + 1) * 69621 + 11) % 2147483647 = s0 at hcf
        refine ex_cons (ex_for b.hp b.calm (b.itr1 T.range ev_int (by decide) (by decide)) (fun i Γ μ => ∃ x6 x7, Γ = [some (.dat (intsD ns)), some (.dat (.int 0)), some (.dat (.int 63)), some (.loc 0), some (.dat (.int (k : Nat))), some (.dat (.int (absF c))), x6, x7, some (.dat (.int (smF s0 i).1))] ∧ μ = [.lst ((digF ns k ++ (smF s0 i).2).map .int)]) ⟨_, _, by rw [← hs0]; rfl, by simp [smF]⟩ (fun _ _ _ _ => trivial) ?_ ?_)
        · rintro i d Γ μ hi ⟨x6, x7, rfl, rfl⟩
          have hi' : i < 12 := by
            have := (List.getElem?_eq_some_iff.mp hi).1
            rw [rangeD_len] at this; simpa using this
          rw [rangeD_get (by simpa using hi')] at hi
          cases hi
          rw [show (0 : Int) + (i : Nat) = (i : Nat) by omega]
          have lb := smF_len s0 i
          refine ⟨_, _, b.tg 7, ?_⟩
          refine ex_cons (b.asg 8 (ev_bin (ev_bin (ev_bin (ev_bin (b.v 8) ev_int (o_mul (.inr ⟨by decide, by decide⟩))) (ev_bin (b.v 7) ev_int (o_mul (.inr ⟨by decide, by decide⟩))) o_add) ev_int o_add) ev_int (o_mod (by decide))) ?_)
          refine ex_cons (ex_app (b.v 3) (ev_bin (ev_bin (b.v 8) ev_int (o_div ⟨by decide, by decide⟩)) ev_int (o_mod (by decide))) rfl (by rw [sizeLine_eq, List.length_map, List.length_append]; omega) (ex_nil ⟨_, _, rfl, ?_⟩) ⟨_, rfl⟩)
          simp [smF]
        · rintro Γ μ ⟨x6, x7, rfl, rfl⟩
          refine ex_nil (ex_nil ⟨_, _, _, _, _, rfl, ?_⟩)
          rw [rangeD_len]
          show _ = [MO.lst ((digF ns k ++ cellF k (ns.getD k 0)).map .int)]
          rw [hc, hcf, if_neg hbig]; rfl
  · rintro Γ μ ⟨x4, x5, x6, x7, x8, rfl, rfl⟩
    rw [rangeD_len]
    exact ex_cons (ex_ret (b.v 3) ⟨rfl, [], rfl, Nat.zero_lt_one⟩)
end
end DL
set_option maxHeartbeats 2000000
/-! _law_sentence. -/
namespace DL
open PySem PySem.Spec PyProof.Rows L2
def fBegins (c : Str) : Fo := .sm "x" (.an (.cl c "x") (.nt (.sm "y" (.bf "y" "x"))))
def fNext : Fo := .an (.bf "x" "y") (.nt (.sm "z" (.an (.bf "x" "z") (.bf "z" "y"))))
def fJoined (c d : Str) : Fo := .sm "x" (.sm "y" (.an (.cl c "x") (.an (.cl d "y") fNext)))
def fAlways (c d : Str) : Fo := .ev "x" (.im (.cl c "x") (.sm "y" (.an (.bf "x" "y") (.cl d "y"))))
def sents (c d : Str) : List Fo := [fBegins c, fJoined c d, .nt (fJoined c d), fAlways c d, .nt (fAlways c d), .ev "x" (.cl c "x")]
def nSent : List Str := ["box", "colours", "x_first", "c", "d", "begins", "next_to", "joined", "always"]
theorem scSent : FnScope nSent ["box", "colours"] (defScope sSent) := ⟨rfl, rfl, rfl, by decide +kernel, rfl, by decide +kernel, by decide +kernel⟩
theorem ev_t3 {X : Cx} {Γ : Gm} {μ : Sto} {a b c : Expr} {x y z : PyData} {k : Nat} {p : Pos} (h1 : EvE X Γ μ a (.dat x) μ) (h2 : EvE X Γ μ b (.dat y) μ) (h3 : EvE X Γ μ c (.dat z) μ) (hs : starEach [a, b, c] X.env = (false, eval a X.env) :: starEach [b, c] X.env := by rfl) (hs2 : starEach [b, c] X.env = (false, eval b X.env) :: starEach [c] X.env := by rfl) (hs3 : starEach [c] X.env = (false, eval c X.env) :: starEach [] X.env := by rfl) : EvE X Γ μ (.Tuple [a, b, c] k p) (.dat (.tuple [x, y, z])) μ :=
  ev_tup (ds := [x, y, z]) (ea_cons h1 (ea_cons h2 (ea_cons h3 ea_nil hs3) hs2) hs)
theorem ev_t2 {X : Cx} {Γ : Gm} {μ : Sto} {a b : Expr} {x y : PyData} {k : Nat} {p : Pos} (h1 : EvE X Γ μ a (.dat x) μ) (h2 : EvE X Γ μ b (.dat y) μ) (hs2 : starEach [a, b] X.env = (false, eval a X.env) :: starEach [b] X.env := by rfl) (hs3 : starEach [b] X.env = (false, eval b X.env) :: starEach [] X.env := by rfl) : EvE X Γ μ (.Tuple [a, b] k p) (.dat (.tuple [x, y])) μ :=
  ev_tup (ds := [x, y]) (ea_cons h1 (ea_cons h2 ea_nil hs3) hs2)
section
variable {M : Mc}
theorem cal_sent (T : Tx M) (D : Df M "_law_sentence" "_law_sentence" sSent ["box", "colours"]) (DP : Df M "_law_pick" "_law_pick" sPick ["box", "rows"]) (DD : Df M "_law_draw" "_law_draw" sDraw ["box", "m"]) {ds : List Int} {at_ : Nat} {cols : List Str} (hc : 0 < cols.length) (ha : at_ ≤ 900) :
    ∃ c ∈ cols, ∃ d ∈ cols, ∃ s ∈ sents c d, Cal false M 3 "_law_sentence" [.loc 0, .dat (.list (cols.map .str))] [bxM ds at_] (.dat (fD s)) [bxM ds (at_ + 1 + 1 + 1)] := by
  obtain ⟨c', mc, hp1⟩ := cal_pick T DP DD (ds := ds) (at_ := at_) (rows := cols.map .str) (by simpa using hc) (by omega)
  obtain ⟨c, hcm, rfl⟩ := List.mem_map.mp mc
  obtain ⟨d', md, hp2⟩ := cal_pick T DP DD (ds := ds) (at_ := at_ + 1) (rows := cols.map .str) (by simpa using hc) (by omega)
  obtain ⟨d, hdm, rfl⟩ := List.mem_map.mp md
  obtain ⟨s', ms, hp3⟩ := cal_pick T DP DD (ds := ds) (at_ := at_ + 1 + 1) (rows := (sents c d).map fD) (by simp [sents]) (by omega)
  obtain ⟨s, hsm, rfl⟩ := List.mem_map.mp ms
  refine ⟨c, hcm, d, hdm, s, hsm, cal_of D scSent rfl (by simp) fun X b fn => ?_⟩
  refine ex_cons (b.asg 2 (r := .dat (fD (.nt (.sm "y" (.bf "y" "x"))))) (ev_t2 ev_str (ev_t3 ev_str ev_str (ev_t3 ev_str ev_str ev_str))) ?_)
  refine ex_cons (b.pair 3 4 (ea_cons (b.callM (j := 0) hp1 (ea_cons (b.v 0) (ea_one (b.v 1))) rfl (by omega)) (ea_one (b.callM (j := 0) hp2 (ea_cons (b.v 0) (ea_one (b.v 1))) rfl (by omega)))) ?_)
  refine ex_cons (b.asg 5 (r := .dat (fD (fBegins c))) (ev_t3 ev_str ev_str (ev_t3 ev_str (ev_t3 ev_str (b.v 3) ev_str) (b.v 2))) ?_)
  refine ex_cons (b.asg 6 (r := .dat (fD fNext)) (ev_t3 ev_str (ev_t3 ev_str ev_str ev_str) (ev_t2 ev_str (ev_t3 ev_str ev_str (ev_t3 ev_str (ev_t3 ev_str ev_str ev_str) (ev_t3 ev_str ev_str ev_str))))) ?_)
  refine ex_cons (b.asg 7 (r := .dat (fD (fJoined c d))) (ev_t3 ev_str ev_str (ev_t3 ev_str ev_str (ev_t3 ev_str (ev_t3 ev_str (b.v 3) ev_str) (ev_t3 ev_str (ev_t3 ev_str (b.v 4) ev_str) (b.v 6))))) ?_)
  refine ex_cons (b.asg 8 (r := .dat (fD (fAlways c d))) (ev_t3 ev_str ev_str (ev_t3 ev_str (ev_t3 ev_str (b.v 3) ev_str) (ev_t3 ev_str ev_str (ev_t3 ev_str (ev_t3 ev_str ev_str ev_str) (ev_t3 ev_str (b.v 4) ev_str))))) ?_)
  refine ex_cons (ex_ret (b.callM (j := 0) hp3 (ea_cons (b.v 0) (ea_one (EvE.fixG (ev_lst (ds := (sents c d).map fD) (ea_cons (b.v 5) (ea_cons (b.v 7) (ea_cons (ev_t2 ev_str (b.v 7)) (ea_cons (b.v 8) (ea_cons (ev_t2 ev_str (b.v 8)) (ea_one (ev_t3 ev_str ev_str (ev_t3 ev_str (b.v 3) ev_str)))))))) (by rw [sizeLine_eq]; simp [sents])) (Nat.le_refl _)))) rfl (by omega)) ⟨rfl, [], rfl, trivial⟩)
end
/-- what is asked of a sentence -/
theorem sents_ok {c d : Str} (hc : c ∈ abc) (hd : d ∈ abc) {s : Fo} (h : s ∈ sents c d) : s.wf [] ∧ s.nb [] ∧ s.ht ≤ 9 ∧ s.qd ≤ 3 := by
  have nx : Nm "x" := ⟨120, rfl, by decide, by decide⟩
  have ny : Nm "y" := ⟨121, rfl, by decide, by decide⟩
  have nz : Nm "z" := ⟨122, rfl, by decide, by decide⟩
  have nc := abc_nm hc
  have nd := abc_nm hd
  have xy : ¬ (("y" : Str) = "x") := by decide +kernel
  have yx : ¬ (("x" : Str) = "y") := by decide +kernel
  have zx : ¬ (("z" : Str) = "x") := by decide +kernel
  have zy : ¬ (("z" : Str) = "y") := by decide +kernel
  have xz : ¬ (("x" : Str) = "z") := by decide +kernel
  have yz : ¬ (("y" : Str) = "z") := by decide +kernel
  simp only [sents, List.mem_cons, List.not_mem_nil, or_false] at h
  rcases h with rfl | rfl | rfl | rfl | rfl | rfl <;>
    simp [Fo.wf, Fo.nb, Fo.ht, Fo.qd, fBegins, fJoined, fNext, fAlways, nx, ny, nz, nc, nd, xy, yx, zx, zy, xz, yz]
end DL
set_option maxHeartbeats 2000000
/-! _law_same. -/
namespace DL
open PySem PySem.Spec PyProof.Rows L2
theorem scLSame : FnScope ["one", "other"] ["one", "other"] (defScope sLSame) := ⟨rfl, rfl, rfl, by decide +kernel, rfl, by decide +kernel, by decide +kernel⟩
/-- can be shown -/
structure Sh (d : PyData) : Prop where
  tup : ∃ ds, d = .tuple ds
  lay : PyData.canLay0 d = true
  show_ : PyData.showable d = true
  deep : d.depth ≤ 60
  fits : d.shown.length ≤ sizeLine
section
variable {M : Mc}
theorem cal_lsame (T : Tx M) (D : Df M "_law_same" "_law_same" sLSame ["one", "other"]) {d : PyData} (h : Sh d) : Cal true M 1 "_law_same" [.dat d, .dat d] [] (.dat (.bool true)) [] := by
  obtain ⟨⟨ds, rfl⟩, h1, h2, h3, h4⟩ := h
  refine cal_of D scLSame rfl (by simp) fun X b fn => ?_
  exact ex_cons (ex_ret (ev_cmp (b.reprT T.repr (b.v 0) h1 h2 h3 h4) (b.reprT T.repr (b.v 1) h1 h2 h3 h4) o_eqS) ⟨by simp, _, rfl, trivial⟩)
theorem cal_lsameB (T : Tx M) (D : Df M "_law_same" "_law_same" sLSame ["one", "other"]) {v : Bool} : Cal false M 1 "_law_same" [.dat (.bool v), .dat (.bool v)] [] (.dat (.bool true)) [] := by
  refine cal_of D scLSame rfl (by simp) fun X b fn => ?_
  exact ex_cons (ex_ret (ev_cmp (b.reprB T.repr (b.v 0)) (b.reprB T.repr (b.v 1)) o_eqS) ⟨by simp, _, rfl, trivial⟩)
end
mutual
theorem pl_show : ∀ d : PyData, plD d = true → PyData.showable d = true
  | .str x, h => by simp [PyData.showable]
  | .tuple xs, h => by simp only [PyData.showable]; exact pls_show xs (by simpa [plD] using h)
  | .none, h => by simp [plD] at h
  | .bool _, h => by simp [plD] at h
  | .int _, h => by simp [plD] at h
  | .list _, h => by simp [plD] at h
  | .dict _, h => by simp [plD] at h
theorem pls_show : ∀ ds : List PyData, plDs ds = true → PyData.showableAll ds = true
  | [], _ => by simp [PyData.showableAll]
  | d :: ds, h => by
    simp only [plDs, Bool.and_eq_true] at h
    simp only [PyData.showableAll, Bool.and_eq_true]
    exact ⟨pl_show d h.1, pls_show ds h.2⟩
end
end DL
set_option maxHeartbeats 2000000
/-! Kinds can be shown. -/
namespace DL
open PySem PySem.Spec PyProof.Rows L2
def Wt (n : Nat) : Nat → Nat
  | 0 => 0
  | r + 1 => n * (2 * Wt n r + 5)
theorem weightAll_le {m : Nat} : ∀ {ds : List PyData}, (∀ d ∈ ds, d.weight ≤ m) → PyData.weightAll ds ≤ ds.length * (m + 1)
  | [], _ => by simp [PyData.weightAll]
  | d :: ds, h => by
    have h1 := h d List.mem_cons_self
    have h2 := weightAll_le (ds := ds) fun e he => h e (List.mem_cons_of_mem _ he)
    simp only [PyData.weightAll, List.length_cons]
    rw [Nat.add_mul, Nat.one_mul]; omega
theorem abc_one {c : Str} (h : c ∈ abc) : c.cps.size = 1 := by
  simp only [abc, List.mem_cons, List.not_mem_nil, or_false] at h
  rcases h with rfl | rfl | rfl <;> decide +kernel
theorem kd_weight {n : Nat} : ∀ (r : Nat) {w : Wo}, Wd w → w.length ≤ n → (kd r w).weight ≤ Wt n r
  | 0, _, _, _ => by simp [kd, PyData.weight, PyData.weightAll]
  | r + 1, w, h, hl => by
    rw [kd_succ]
    simp only [PyData.weight]
    have hrow : ∀ d ∈ canon (rowsD r w), d.weight ≤ 2 * Wt n r + 4 := fun d hd => by
      rw [canon_mem (rows_pl h)] at hd
      obtain ⟨u, c, v, e, rfl⟩ := mem_rowsD.mp hd
      obtain ⟨h1, h2, h3⟩ := h.split e
      have hz := split_len e
      have a1 := kd_weight (n := n) r h1 (by omega)
      have a2 := kd_weight (n := n) r h3 (by omega)
      have a3 := abc_one h2
      simp only [rowD, PyData.weight, PyData.weightAll, a3]; omega
    have h1 := weightAll_le hrow
    have h2 : (canon (rowsD r w)).length ≤ n := Nat.le_trans (canon_len _) (by rw [rowsD_len]; exact hl)
    refine Nat.le_trans h1 ?_
    exact Nat.mul_le_mul h2 (Nat.le_refl _)
mutual
theorem pl_ints (B : Nat) : ∀ d : PyData, plD d = true → PyData.intsShort B d = true
  | .str x, h => by simp [PyData.intsShort]
  | .tuple xs, h => by simp only [PyData.intsShort]; exact pls_ints B xs (by simpa [plD] using h)
  | .none, h => by simp [plD] at h
  | .bool _, h => by simp [plD] at h
  | .int _, h => by simp [plD] at h
  | .list _, h => by simp [plD] at h
  | .dict _, h => by simp [plD] at h
theorem pls_ints (B : Nat) : ∀ ds : List PyData, plDs ds = true → PyData.intsShortAll B ds = true
  | [], _ => by simp [PyData.intsShortAll]
  | d :: ds, h => by
    simp only [plDs, Bool.and_eq_true] at h
    simp only [PyData.intsShortAll, Bool.and_eq_true]
    exact ⟨pl_ints B d h.1, pls_ints B ds h.2⟩
end
theorem kd_sh {r : Nat} {w : Wo} (hr : r ≤ 3) (h : Wd w) (hl : w.length ≤ 21) : Sh (kd r w) where
  tup := by
    cases r with
    | zero => exact ⟨_, rfl⟩
    | succ r => exact ⟨_, kd_succ r w⟩
  lay := pl_lay _ (kd_pl r h)
  show_ := pl_show _ (kd_pl r h)
  deep := by have := kd_depth r h; omega
  fits := by
    have hw : (kd r w).weight ≤ 2 ^ 20 := Nat.le_trans (kd_weight (n := 21) r h hl) (by
      match r, hr with
      | 0, _ => decide
      | 1, _ => decide
      | 2, _ => decide
      | 3, _ => decide)
    exact PyData.shown_fits (B := 8) (by decide) (by decide) (PyData.leavesShort_of_canLay0 8 _ (pl_lay _ (kd_pl r h)) (pl_ints 8 _ (kd_pl r h))) hw
/-- a power's kind is a short power's -/
def cap (r n : Nat) : Nat := min n (2 ^ r - 1)
theorem kd_cap {w : Wo} (h : Wd w) (r n : Nat) : kd r (pw w n) = kd r (pw w (cap r n)) := by
  unfold cap
  by_cases q : n ≤ 2 ^ r - 1
  · rw [Nat.min_eq_left q]
  · rw [Nat.min_eq_right (by omega)]
    exact kd_long h r (by omega) (Nat.le_refl _)
theorem cap_len {w : Wo} (hl : w.length ≤ 3) {r : Nat} (hr : r ≤ 3) (n : Nat) : (pw w (cap r n)).length ≤ 21 := by
  rw [pw_len]
  have h2 : 2 ^ r ≤ 2 ^ 3 := Nat.pow_le_pow_right (by decide) hr
  have h1 : cap r n ≤ 7 := by unfold cap; omega
  calc cap r n * w.length ≤ 7 * 3 := Nat.mul_le_mul h1 hl
    _ = 21 := rfl
theorem pow_sh {w : Wo} (h : Wd w) (hl : w.length ≤ 3) {r : Nat} (hr : r ≤ 3) (n : Nat) : Sh (kd r (pw w n)) := by
  rw [kd_cap h r n]
  exact kd_sh hr (h.pw _) (cap_len hl hr n)
end DL
set_option maxHeartbeats 2000000
/-! Of one colour: two lengths are of one kind exactly if they are one, or both long enough. -/
namespace DL
open PySem PySem.Spec PyProof.Rows L2
def w1 : Wo := ["a"]
theorem w1_wd : Wd w1 := fun c hc => by simp [w1] at hc; subst hc; simp [abc]
theorem a_split {n : Nat} {u v : Wo} {c : Str} (e : pw w1 n = u ++ c :: v) : ∃ i j, i + j + 1 = n ∧ u = pw w1 i ∧ v = pw w1 j := by
  obtain ⟨i, j, x, y, h1, h2, h3, h4⟩ := pw_split e
  have hx : x = [] ∧ y = [] := by
    have := congrArg List.length h2
    simp [w1] at this
    exact ⟨List.length_eq_zero_iff.mp (by omega), List.length_eq_zero_iff.mp (by omega)⟩
  obtain ⟨rfl, rfl⟩ := hx
  exact ⟨i, j, h1, by rw [h3, List.append_nil], by rw [h4, List.nil_append]⟩
theorem a_at (i j : Nat) : pw w1 (i + 1 + j) = pw w1 i ++ ("a" : Str) :: pw w1 j := by
  rw [pw_add, pw_add, pw_one]; simp [w1]
theorem a_lt : ∀ (r : Nat) {n m : Nat}, kd r (pw w1 n) = kd r (pw w1 m) → n < m → 2 ^ r - 1 ≤ n
  | 0, n, m, _, _ => by simp
  | r + 1, n, m, e, h => by
    have p : 2 ^ (r + 1) = 2 * 2 ^ r := by rw [Nat.pow_succ]; omega
    have p1 : 1 ≤ 2 ^ r := Nat.one_le_two_pow
    have one : ∀ {a b : Nat}, kd r (pw w1 a) = kd r (pw w1 b) → a = b ∨ (2 ^ r - 1 ≤ a ∧ 2 ^ r - 1 ≤ b) := fun {a b} q => by
      rcases Nat.lt_trichotomy a b with g | g | g
      · exact .inr ⟨a_lt r q g, by have := a_lt r q g; omega⟩
      · exact .inl g
      · exact .inr ⟨by have := a_lt r q.symm g; omega, a_lt r q.symm g⟩
    by_cases hn : 2 ^ (r + 1) - 1 ≤ n
    · exact hn
    · exfalso
      -- a place of the longer one
      obtain ⟨i, j, hij, hi⟩ : ∃ i j, i + 1 + j = m ∧ (i = 2 ^ r - 1 ∨ (i < 2 ^ r - 1 ∧ j = 0)) := by
        by_cases q : 2 ^ r - 1 ≤ m - 1
        · exact ⟨2 ^ r - 1, m - 1 - (2 ^ r - 1), by omega, .inl rfl⟩
        · exact ⟨m - 1, 0, by omega, .inr ⟨by omega, rfl⟩⟩
      have s : pw w1 m = pw w1 i ++ ("a" : Str) :: pw w1 j := by rw [← hij]; exact a_at i j
      obtain ⟨u, v, s', e1, e2⟩ := kd_ans (w1_wd.pw m) (w1_wd.pw n) e.symm s
      obtain ⟨i', j', h1, rfl, rfl⟩ := a_split s'
      have o1 := one e1
      have o2 := one e2
      omega
theorem a_iff (r n m : Nat) : kd r (pw w1 n) = kd r (pw w1 m) ↔ n = m ∨ (2 ^ r - 1 ≤ n ∧ 2 ^ r - 1 ≤ m) := by
  constructor
  · intro e
    rcases Nat.lt_trichotomy n m with g | g | g
    · have := a_lt r e g; exact .inr ⟨this, by omega⟩
    · exact .inl g
    · have := a_lt r e.symm g; exact .inr ⟨by omega, this⟩
  · rintro (rfl | ⟨h1, h2⟩)
    · rfl
    · exact kd_long w1_wd r h1 h2
end DL
set_option maxHeartbeats 2000000
/-! holds_of_kind, asked for more rounds than there are. -/
namespace DL
open PySem PySem.Spec PyProof.Rows L2
section
variable {M : Mc} {C fI cc cda : Addr}
theorem calX_holdsK (T : Tx M) (Tm_ : Tm.Txt M.P M.K M.mg C fI cc cda) (D : Df M "holds_of_kind" "holds_of_kind" sHoldsK ["kind", "rounds", "formula"]) (DR : Df M "check_rounds" "check_rounds" sChkRounds ["rounds"]) (DF : Df M "check_order_formula" "check_order_formula" sChkForm ["formula", "known"]) (DI : Df M "is_name" "is_name" sIsName ["text"]) (DQ : Df M "rounds_of" "rounds_of" sRoundsOf ["formula"])
    {r : Nat} (hr : r ≤ 4) {f : Fo} (hf : f.wf []) (ht : f.ht ≤ 10) (hq : r < f.qd) {d : PyData} : CalX M (f.ht + 6) "holds_of_kind" [.dat d, .dat (.int (r : Nat)), .dat (fD f)] C "rounds" := by
  refine calX_of D scHoldsK rfl fun X b fn F0 H0 σ H W tk st hW Dd => ?_
  refine seq_same (ex_expr (b.call (ea_one (b.v 1)) (cal_chkRounds T DR hr) (by omega)) ⟨rfl, rfl⟩) st fun σ1 H1 st1 => ?_
  refine seq_same (ex_expr (b.call (as := [.dat (fD f), .dat (knD [])]) (ea_cons (b.v 2) (ea_one (ev_tup (ds := []) ea_nil))) (cal_chkForm T DF DI f hf (fun x hx => by simp at hx) (by simp; omega)) (by omega)) ⟨rfl, rfl⟩) st1 fun σ2 H2 st2 => ?_
  refine ifT_w ((et_cmp (b.call (ea_one (b.v 2)) (cal_rounds T DQ f) (by omega)) (b.v 1) o_gt).to (k' := true) (by simp; omega)) st2 fun H3 st3 => ?_
  have calm := b.calm
  have room := b.room
  have glo := b.glo (x := "TooMany") (by decide +kernel)
  obtain rfl := b.mc
  exact w_raise calm Tm_ room glo tk st3 fun d σ' H' st' hd => hW d σ' H' st'.slots_nil hd
end
end DL
set_option maxHeartbeats 2000000
/-! What the law calls, in one place. -/
namespace DL
open PySem PySem.Spec PyProof.Rows L2
structure Lw (M : Mc) (CT fI cc cda CA : Addr) : Prop where
  T : Tx M
  K : KD M
  TD_ : TD M
  A : Ad M CA
  tm : Tm.Txt M.P M.K M.mg CT fI cc cda
  isName : Df M "is_name" "is_name" sIsName ["text"]
  chkWord : Df M "check_word" "check_word" sChkWord ["word"]
  chkRounds : Df M "check_rounds" "check_rounds" sChkRounds ["rounds"]
  chkForm : Df M "check_order_formula" "check_order_formula" sChkForm ["formula", "known"]
  roundsOf : Df M "rounds_of" "rounds_of" sRoundsOf ["formula"]
  wTruth : Df M "word_truth" "word_truth" sWTruth ["word", "formula", "places"]
  withP : Df M "with_place" "with_place" sWithP ["places", "name", "place"]
  holdsW : Df M "holds_of_word" "holds_of_word" sHoldsW ["word", "formula"]
  kindOf : Df M "kind_of" "kind_of" sKindOf ["word", "rounds"]
  known : Df M "known_kind" "known_kind" sKnown ["word", "rounds", "known"]
  sum : Df M "kind_sum" "kind_sum" sSum ["one", "other", "rounds"]
  power : Df M "kind_power" "kind_power" sPower ["kind", "rounds", "times"]
  holdsK : Df M "holds_of_kind" "holds_of_kind" sHoldsK ["kind", "rounds", "formula"]
  same : Df M "same_kind" "same_kind" sSame ["word", "other", "rounds"]
  cell : Df M "_law_cell" "_law_cell" sCell ["script", "k"]
  digits : Df M "_law_digits" "_law_digits" sDigits ["script", "first", "last"]
  draw : Df M "_law_draw" "_law_draw" sDraw ["box", "m"]
  pick : Df M "_law_pick" "_law_pick" sPick ["box", "rows"]
  lsame : Df M "_law_same" "_law_same" sLSame ["one", "other"]
  two : Df M "_law_two" "_law_two" sTwo ["many"]
  sent : Df M "_law_sentence" "_law_sentence" sSent ["box", "colours"]
section
variable {M : Mc} {CT fI cc cda CA : Addr}
theorem Lw.ck (L : Lw M CT fI cc cda CA) {w : Wo} {r : Nat} (h : Wd w) (hw : w.length ≤ 12) (hr : r ≤ 4) : Cal false M 6 "kind_of" [.dat (wD w), .dat (.int (r : Nat))] [] (.dat (kd r w)) [] :=
  cal_kindOf L.T L.kindOf L.chkWord L.isName L.chkRounds L.known hr h hw
theorem Lw.cp (L : Lw M CT fI cc cda CA) {w : Wo} {r : Nat} (h : Wd w) (h0 : w ≠ []) (hl : w.length ≤ 3) (hr : r ≤ 3) (n : Nat) : Cal false M 6 "kind_power" [.dat (kd r w), .dat (.int (r : Nat)), .dat (.int (n : Nat))] [] (.dat (kd r (pw w n))) [] :=
  cal_power L.T L.A L.power L.K.less L.chkRounds h h0 hl hr
theorem Lw.cs (L : Lw M CT fI cc cda CA) {w : Wo} {r : Nat} (h : Wd w) (h0 : w ≠ []) (hl : w.length ≤ 3) (hr : r ≤ 3) (m n : Nat) : Cal false M 6 "kind_sum" [.dat (kd r (pw w m)), .dat (kd r (pw w n)), .dat (.int (r : Nat))] [] (.dat (kd r (pw w (m + n)))) [] := by
  rw [pw_add]
  exact cal_sum L.T L.A L.sum L.K.less L.chkRounds h h0 hl hr (Fc.pw h0 m) (Fc.pw h0 n)
theorem Lw.css (L : Lw M CT fI cc cda CA) {w : Wo} {r : Nat} (h : Wd w) (h0 : w ≠ []) (hl : w.length ≤ 3) (hr : r ≤ 3) (n : Nat) : Cal true M 1 "_law_same" [.dat (kd r (pw w n)), .dat (kd r (pw w n))] [] (.dat (.bool true)) [] :=
  cal_lsame L.T L.lsame (pow_sh h hl hr n)
theorem Lw.ch (L : Lw M CT fI cc cda CA) {w : Wo} {r : Nat} (h : Wd w) (hw : w.length ≤ 500) (hr : r ≤ 4) {f : Fo} (hf : f.wf []) (hb : f.nb []) (ht : f.ht ≤ 9) (hq : f.qd ≤ r) : Cal false M 20 "holds_of_kind" [.dat (kd r w), .dat (.int (r : Nat)), .dat (fD f)] [] (.dat (.bool (f.tr w fun _ => 0))) [] :=
  (cal_holdsK L.T L.K L.holdsK L.chkRounds L.chkForm L.isName L.roundsOf h hw hr hf hb (by omega) hq _).mono (by omega)
theorem Lw.cw (L : Lw M CT fI cc cda CA) {w : Wo} (h : Wd w) (hw : w.length ≤ 12) {f : Fo} (hf : f.wf []) (ht : f.ht ≤ 9) : Cal false M 20 "holds_of_word" [.dat (wD w), .dat (fD f)] [] (.dat (.bool (f.tr w fun _ => 0))) [] :=
  (cal_holdsW L.T L.holdsW L.chkWord L.isName L.chkForm L.wTruth L.withP L.K.joined h hw hf (by omega) _).mono (by omega)
theorem Lw.cx (L : Lw M CT fI cc cda CA) {r : Nat} (hr : r ≤ 4) {f : Fo} (hf : f.wf []) (ht : f.ht ≤ 9) (hq : r < f.qd) {d : PyData} : CalX M 20 "holds_of_kind" [.dat d, .dat (.int (r : Nat)), .dat (fD f)] CT "rounds" := by
  obtain ⟨g, fd, ps, h1, h2, h3, h4⟩ := calX_holdsK L.T L.tm L.holdsK L.chkRounds L.chkForm L.isName L.roundsOf hr hf (by omega) hq (d := d)
  exact ⟨g, fd, ps, h1, h2, h3, h4.mono (by omega)⟩
end
/-- a word's times -/
theorem mul_wD (w : Wo) (n : Nat) : PyData.tuple (List.replicate ((n : Nat) : Int).toNat (w.map PyData.str)).flatten = wD (pw w n) := by
  unfold wD pw
  rw [Int.toNat_natCast, List.map_flatten, List.map_replicate]
/-! ### the sign z in a shown sentence -/
def hz (x : Str) : Prop := 122 ∈ x.cps.toList
theorem hz_app {a b : Str} : hz (a ++ b) ↔ hz a ∨ hz b := by
  show 122 ∈ (a.cps ++ b.cps).toList ↔ _
  simp [hz]
theorem hz_sep : ¬ hz (Str.ofString ", ") := by unfold hz; decide +kernel
theorem hz_open : ¬ hz (Str.ofString "(") := by unfold hz; decide +kernel
theorem hz_c1 : ¬ hz (Str.ofString ",)") := by unfold hz; decide +kernel
theorem hz_c2 : ¬ hz (Str.ofString ")") := by unfold hz; decide +kernel
theorem hz_join : ∀ ts : List Str, hz (Str.join (Str.ofString ", ") ts) ↔ ∃ t ∈ ts, hz t
  | [] => by
    have : ¬ hz Str.empty := by unfold hz; decide +kernel
    show hz Str.empty ↔ _
    simp [this]
  | [x] => by show hz x ↔ _; simp
  | x :: y :: r => by
    show hz (x ++ Str.ofString ", " ++ Str.join (Str.ofString ", ") (y :: r)) ↔ _
    rw [hz_app, hz_app, hz_join (y :: r)]
    simp [hz_sep]
theorem hz_tup {ts : List Str} : hz (tupleText ts) ↔ ∃ t ∈ ts, hz t := by
  unfold tupleText
  rw [hz_app, hz_app, hz_join]
  have h2 : ¬ hz (Str.ofString (if ts.length == 1 then ",)" else ")" : String)) := by
    split
    · exact hz_c1
    · exact hz_c2
  simp only [hz_open, false_or]
  exact ⟨fun h => h.elim id fun z => absurd z h2, .inl⟩
theorem shownAll_map : ∀ ds : List PyData, PyData.shownAll ds = ds.map PyData.shown
  | [] => by simp [PyData.shownAll]
  | d :: ds => by simp [PyData.shownAll, shownAll_map ds]
theorem hz_shown {ds : List PyData} : hz (PyData.tuple ds).shown ↔ ∃ d ∈ ds, hz d.shown := by
  have e : (PyData.tuple ds).shown = tupleText (ds.map PyData.shown) := by simp only [PyData.shown, shownAll_map]
  rw [e, hz_tup]
  exact ⟨fun ⟨t, ht, z⟩ => by obtain ⟨d, hd, rfl⟩ := List.mem_map.mp ht; exact ⟨d, hd, z⟩, fun ⟨d, hd, z⟩ => ⟨_, List.mem_map.mpr ⟨d, hd, rfl⟩, z⟩⟩
def zS (x : Str) : Bool := decide (122 ∈ (reprText x).cps.toList)
theorem hz_str {x : Str} : hz (PyData.str x).shown ↔ zS x = true := by
  have e : (PyData.str x).shown = reprText x := by simp only [PyData.shown]
  rw [e]
  unfold hz zS
  rw [decide_eq_true_iff]
def zF : Fo → Bool
  | .bf x y => zS x || zS y
  | .cl c x => zS c || zS x
  | .nt f => zF f
  | .an f g | .im f g => zF f || zF g
  | .sm x f | .ev x f => zS x || zF f
theorem zw1 : zS "before" = false := by decide +kernel
theorem zw2 : zS "colour" = false := by decide +kernel
theorem zw3 : zS "not" = false := by decide +kernel
theorem zw4 : zS "and" = false := by decide +kernel
theorem zw5 : zS "implies" = false := by decide +kernel
theorem zw6 : zS "some" = false := by decide +kernel
theorem zw7 : zS "every" = false := by decide +kernel
theorem hz_fD : ∀ f : Fo, hz (fD f).shown ↔ zF f = true
  | .bf x y => by simp only [fD, hz_shown, List.mem_cons, List.not_mem_nil, or_false, exists_eq_or_imp, exists_eq_left, hz_str, zw1, zF, Bool.or_eq_true, Bool.false_eq_true, false_or]
  | .cl x y => by simp only [fD, hz_shown, List.mem_cons, List.not_mem_nil, or_false, exists_eq_or_imp, exists_eq_left, hz_str, zw2, zF, Bool.or_eq_true, Bool.false_eq_true, false_or]
  | .nt f => by simp only [fD, hz_shown, List.mem_cons, List.not_mem_nil, or_false, exists_eq_or_imp, exists_eq_left, hz_str, hz_fD f, zw3, zF, Bool.or_eq_true, Bool.false_eq_true, false_or]
  | .an f g => by simp only [fD, hz_shown, List.mem_cons, List.not_mem_nil, or_false, exists_eq_or_imp, exists_eq_left, hz_str, hz_fD f, hz_fD g, zw4, zF, Bool.or_eq_true, Bool.false_eq_true, false_or]
  | .im f g => by simp only [fD, hz_shown, List.mem_cons, List.not_mem_nil, or_false, exists_eq_or_imp, exists_eq_left, hz_str, hz_fD f, hz_fD g, zw5, zF, Bool.or_eq_true, Bool.false_eq_true, false_or]
  | .sm x f => by simp only [fD, hz_shown, List.mem_cons, List.not_mem_nil, or_false, exists_eq_or_imp, exists_eq_left, hz_str, hz_fD f, zw6, zF, Bool.or_eq_true, Bool.false_eq_true, false_or]
  | .ev x f => by simp only [fD, hz_shown, List.mem_cons, List.not_mem_nil, or_false, exists_eq_or_imp, exists_eq_left, hz_str, hz_fD f, zw7, zF, Bool.or_eq_true, Bool.false_eq_true, false_or]
theorem zx : zS "x" = false := by decide +kernel
theorem zy : zS "y" = false := by decide +kernel
theorem zz : zS "z" = true := by decide +kernel
theorem zabc {c : Str} (h : c ∈ abc) : zS c = false := by
  simp only [abc, List.mem_cons, List.not_mem_nil, or_false] at h
  rcases h with rfl | rfl | rfl <;> decide +kernel
theorem sents_z {c d : Str} (hc : c ∈ abc) (hd : d ∈ abc) {s : Fo} (h : s ∈ sents c d) : decide (122 ∈ (fD s).shown.cps.toList) = decide (s.qd = 3) := by
  have e : zF s = decide (s.qd = 3) := by
    simp only [sents, List.mem_cons, List.not_mem_nil, or_false] at h
    rcases h with rfl | rfl | rfl | rfl | rfl | rfl <;>
      simp [zF, zx, zy, zz, zabc hc, zabc hd, Fo.qd, fBegins, fJoined, fNext, fAlways]
  have i := hz_fD s
  rw [e] at i
  unfold hz at i
  by_cases q : s.qd = 3
  · rw [decide_eq_true q] at i ⊢
    exact decide_eq_true (i.mpr rfl)
  · rw [decide_eq_false q] at i ⊢
    exact decide_eq_false fun z => by simpa using i.mp z
theorem sents_sh {c d : Str} (hc : c ∈ abc) (hd : d ∈ abc) {s : Fo} (h : s ∈ sents c d) : Sh (fD s) where
  tup := by cases s <;> exact ⟨_, rfl⟩
  lay := by
    simp only [abc, List.mem_cons, List.not_mem_nil, or_false] at hc hd
    simp only [sents, List.mem_cons, List.not_mem_nil, or_false] at h
    rcases hc with rfl | rfl | rfl <;> rcases hd with rfl | rfl | rfl <;> rcases h with rfl | rfl | rfl | rfl | rfl | rfl <;> decide +kernel
  show_ := by
    simp only [sents, List.mem_cons, List.not_mem_nil, or_false] at h
    rcases h with rfl | rfl | rfl | rfl | rfl | rfl <;> simp [fBegins, fJoined, fNext, fAlways, fD, PyData.showable, PyData.showableAll]
  deep := by
    simp only [sents, List.mem_cons, List.not_mem_nil, or_false] at h
    rcases h with rfl | rfl | rfl | rfl | rfl | rfl <;> simp [fBegins, fJoined, fNext, fAlways, fD, PyData.depth, PyData.depthAll]
  fits := by
    have lay : PyData.canLay0 (fD s) = true := by
      simp only [abc, List.mem_cons, List.not_mem_nil, or_false] at hc hd
      simp only [sents, List.mem_cons, List.not_mem_nil, or_false] at h
      rcases hc with rfl | rfl | rfl <;> rcases hd with rfl | rfl | rfl <;> rcases h with rfl | rfl | rfl | rfl | rfl | rfl <;> decide +kernel
    have hw : (fD s).weight ≤ 2 ^ 20 := by
      simp only [abc, List.mem_cons, List.not_mem_nil, or_false] at hc hd
      simp only [sents, List.mem_cons, List.not_mem_nil, or_false] at h
      rcases hc with rfl | rfl | rfl <;> rcases hd with rfl | rfl | rfl <;> rcases h with rfl | rfl | rfl | rfl | rfl | rfl <;> decide +kernel
    have hi : PyData.intsShort 8 (fD s) = true := by
      simp only [sents, List.mem_cons, List.not_mem_nil, or_false] at h
      rcases h with rfl | rfl | rfl | rfl | rfl | rfl <;> simp [fBegins, fJoined, fNext, fAlways, fD, PyData.intsShort, PyData.intsShortAll]
    exact PyData.shown_fits (B := 8) (by decide) (by decide) (PyData.leavesShort_of_canLay0 8 _ lay hi) hw
/-- a sentence of few rounds: powers that are long enough -/
theorem few {w : Wo} (h : Wd w) {f : Fo} (hf : f.wf []) (hb : f.nb []) {m n : Nat} (hm : 2 ^ f.qd - 1 ≤ m) (hn : 2 ^ f.qd - 1 ≤ n) : f.tr (pw w m) (fun _ => 0) = f.tr (pw w n) (fun _ => 0) :=
  game f (r := f.qd) (kn := []) (p := pw w m) (p' := pw w n) (l := []) (l' := []) (Nat.le_refl _) hf hb (h.pw m) (h.pw n) (kd_long h _ hm hn) ⟨fun x hx => by simp at hx, fun x _ s hs => by simp at hs⟩ ⟨fun x hx => by simp at hx, fun x _ s hs => by simp at hs⟩
end DL
set_option maxHeartbeats 4000000
/-! The law: a turn of its loop. -/
namespace DL
open PySem PySem.Spec PyProof.Rows L2
def nLaw : List Str := ["script", "box", "rounds", "n", "m", "due", "one", "great", "number", "kinds", "colours", "k", "word", "kind", "times", "size", "power", "turn", "sentence", "need", "long", "e"]
theorem scLaw : FnScope nLaw ["script"] (defScope sLaw) := ⟨rfl, rfl, rfl, by decide +kernel, rfl, by decide +kernel, by decide +kernel⟩
def forBody : List Stmt := match (defBody sLaw).getD 18 (.Pass ⟨0, 0, 0, 0⟩) with
  | .For _ _ b _ _ => b
  | _ => []
section
variable {M : Mc} {CT fI cc cda CA : Addr} {X : Cx}
/-- _law_draw(box, e) -/
theorem Bd.drawE {N : List Str} {sc : Scope} {k : Nat} {g : Bool} {Γ : Gm} {e1 e2 : Expr} {p pos : Pos} {ds : List Int} {a a' m d : Nat} (b : Bd X M N sc k g) (h : Cal false M 1 "_law_draw" [.loc 0, .dat (.int (m : Nat))] [bxM ds a] (.dat (.int (d : Nat))) [bxM ds a']) (hk : 1 ≤ k)
    (h1 : EvE X Γ [bxM ds a] e1 (.loc 0) [bxM ds a]) (h2 : EvE X Γ [bxM ds a] e2 (.dat (.int (m : Nat))) [bxM ds a]) (hg : gloB sc "_law_draw" = true := by decide +kernel)
    (he : starEach [e1, e2] X.env = (false, eval e1 X.env) :: starEach [e2] X.env := by rfl) (he2 : starEach [e2] X.env = (false, eval e2 X.env) :: starEach [] X.env := by rfl) (hpl : (backTo pos (starEach [e2] X.env)).any (·.1) = false := by rfl) :
    EvE X Γ [bxM ds a] (.Call (.Name "_law_draw" p) [e1, e2] [] pos) (.dat (.int (d : Nat))) [bxM ds a'] :=
  b.callM (j := 0) h (ea_cons h1 (ea_one h2 he2) he) rfl hk rfl hg (fun z => by cases z) (by decide +kernel) he hpl
/-- the loop's state -/
def GL (ns : List Int) (r n m : Nat) (due : Bool) (one great kinds cols : PyData) (w : Wo) (t sz : Nat) (x17 x18 x19 x20 : Option AV) : Gm :=
  [some (.dat (intsD ns)), some (.loc 0), some (.dat (.int (r : Nat))), some (.dat (.int (n : Nat))), some (.dat (.int (m : Nat))), some (.dat (.bool due)), some (.dat one), some (.dat great), none, some (.dat kinds), some (.dat cols), none,
    some (.dat (wD w)), some (.dat (kd r w)), some (.dat (.int (t : Nat))), some (.dat (.int (sz : Nat))), some (.dat (kd r (pw w sz))), x17, x18, x19, x20, none]
theorem turnB (L : Lw M CT fI cc cda CA) (b : Bd X M nLaw (defScope sLaw) 90 true) (hstk : X.stack = X.env :: X.outer) (hfr : X.env.frame = some X.env.locals) {ns ds : List Int} {r n m : Nat} {due : Bool} {one great kinds : PyData} {cols : List Str} {w : Wo} {t sz : Nat} {x17 x18 x19 x20 : Option AV} {a : Nat}
    (hr1 : 1 ≤ r) (hr3 : r ≤ 3) (hc0 : 0 < cols.length) (hca : ∀ c ∈ cols, c ∈ abc) (hw : Wd w) (h0 : w ≠ []) (hl : w.length ≤ 3) (ht : t ≤ 12 / w.length) (hsz : 2 ^ r + 3 ≤ sz) (ha : a ≤ 100) {O : Out}
    (kk : ∀ y18 y19 y20, O.nx (GL ns r n m due one great kinds (.list (cols.map .str)) w t sz x17 y18 y19 y20) [bxM ds (a + 1 + 1 + 1)]) :
    ExS X (GL ns r n m due one great kinds (.list (cols.map .str)) w t sz x17 x18 x19 x20) [bxM ds a] forBody O := by
  obtain ⟨c, hc, d, hd, s, hs, hcal⟩ := cal_sent L.T L.sent L.pick L.draw (ds := ds) (at_ := a) hc0 (by omega)
  obtain ⟨hwf, hnb, hht, hqd⟩ := sents_ok (hca c hc) (hca d hd) hs
  have hz := sents_z (hca c hc) (hca d hd) hs
  obtain ⟨⟨fs, hfs⟩, sh1, sh2, sh3, sh4⟩ := sents_sh (hca c hc) (hca d hd) hs
  have hwl : 1 ≤ w.length := by
    cases w with
    | nil => exact absurd rfl h0
    | cons _ _ => simp
  have hdiv : w.length * (12 / w.length) ≤ 12 := Nat.mul_div_le 12 w.length
  have htl : (pw w t).length ≤ 12 := by
    rw [pw_len]
    have : t * w.length ≤ 12 / w.length * w.length := Nat.mul_le_mul_right _ ht
    rw [Nat.mul_comm (12 / w.length)] at this
    omega
  have hll : (pw w (12 / w.length)).length ≤ 12 := by rw [pw_len, Nat.mul_comm]; exact hdiv
  have hd4 : 4 ≤ 12 / w.length := by
    have : 12 / 3 ≤ 12 / w.length := Nat.div_le_div_left hl (by omega)
    exact this
  have hd12 : 12 / w.length ≤ 12 := Nat.div_le_self _ _
  refine ex_cons (b.asg 18 (b.callM (j := 0) hcal (ea_cons (b.v 1) (ea_one (b.v 10))) rfl (by omega)) ?_)
  have m3 : ([bxM ds a].set 0 (bxM ds (a + 1 + 1 + 1)) ++ [] : Sto) = [bxM ds (a + 1 + 1 + 1)] := rfl
  rw [m3]
  generalize bxM ds (a + 1 + 1 + 1) = bx at kk ⊢
  have need : ∀ (Γ : Gm), Γ[18]? = some (some (.dat (fD s))) → ∀ {p1 p2 p3 p4 p5 p6 p7 p8 p9 p10 p11 p12 p13 p14 p15 p16 p17 p18 p19 p20 p21 p22 p23 : Pos}, EvE X Γ [bx] (.IfExp (.Compare (.Constant (.str "z") 0 p1) [.In] [.Call (.Name "repr" p2) [.Name "sentence" p3] [] p4] p5) (.Constant (.int 3) 0 p6)
      (.IfExp (.BoolOp .And [.Compare (.Subscript (.Name "sentence" p7) (.Constant (.int 0) 0 p8) p9) [.Eq] [.Constant (.str "every") 0 p10] p11, .Compare (.Subscript (.Subscript (.Name "sentence" p12) (.Constant (.int 2) 0 p13) p14) (.Constant (.int 0) 0 p15) p16) [.Eq] [.Constant (.str "colour") 0 p17] p18] p19) (.Constant (.int 1) 0 p20) (.Constant (.int 2) 0 p21) p22) p23) (.dat (.int (s.qd : Nat))) [bx] := by
    intro Γ hG p1 p2 p3 p4 p5 p6 p7 p8 p9 p10 p11 p12 p13 p14 p15 p16 p17 p18 p19 p20 p21 p22 p23
    have v18 : ∀ {p : Pos}, EvE X Γ [bx] (.Name "sentence" p) (.dat (fD s)) [bx] := b.v 18 hG
    have rp : EvE X Γ [bx] (.Call (.Name "repr" p2) [.Name "sentence" p3] [] p4) (.dat (.str (fD s).shown)) [bx] := by
      rw [hfs] at sh1 sh2 sh3 sh4 ⊢
      exact b.reprT L.T.repr (by rw [← hfs]; exact v18) sh1 sh2 sh3 sh4
    refine ev_if ((et_cmp (k := decide (122 ∈ (fD s).shown.cps.toList)) (ev_str (x := ⟨#[122]⟩)) rp o_sgn).to hz) (fun h3 => ?_) fun h3 => ?_
    · have := of_decide_eq_true h3
      rw [this]; exact ev_int
    · have h3' := of_decide_eq_false h3
      have no : ∀ {h : Str} {rest : List PyData}, fD s = .tuple (.str h :: rest) → h ≠ "every" → s.qd = 2 → EvE X Γ [bx] (.IfExp (.BoolOp .And [.Compare (.Subscript (.Name "sentence" p7) (.Constant (.int 0) 0 p8) p9) [.Eq] [.Constant (.str "every") 0 p10] p11, .Compare (.Subscript (.Subscript (.Name "sentence" p12) (.Constant (.int 2) 0 p13) p14) (.Constant (.int 0) 0 p15) p16) [.Eq] [.Constant (.str "colour") 0 p17] p18] p19) (.Constant (.int 1) 0 p20) (.Constant (.int 2) 0 p21) p22) (.dat (.int (s.qd : Nat))) [bx] := by
        intro h rest e1 e2 e3
        rw [e3]
        exact ev_ifF (et_w (ew_andF ((et_cmp (ev_ix (d := .str h) (v18.to (by rw [e1])) ev_int (fun _ _ => rfl) (.tup _) (atI_nat (i := 0) rfl)) ev_str o_eqS).to (k' := false) (decide_eq_false e2)))) ev_int
      have yes : ∀ {h x : Str} {rest : List PyData}, fD s = .tuple [.str "every", .str x, .tuple (.str h :: rest)] → s.qd = (if h = "colour" then 1 else 2) → EvE X Γ [bx] (.IfExp (.BoolOp .And [.Compare (.Subscript (.Name "sentence" p7) (.Constant (.int 0) 0 p8) p9) [.Eq] [.Constant (.str "every") 0 p10] p11, .Compare (.Subscript (.Subscript (.Name "sentence" p12) (.Constant (.int 2) 0 p13) p14) (.Constant (.int 0) 0 p15) p16) [.Eq] [.Constant (.str "colour") 0 p17] p18] p19) (.Constant (.int 1) 0 p20) (.Constant (.int 2) 0 p21) p22) (.dat (.int (s.qd : Nat))) [bx] := by
        intro h x rest e1 e3
        rw [e3]
        refine ev_if (k := decide (h = "colour")) (et_w (ew_andT ((et_cmp (ev_ix (d := .str "every") (v18.to (by rw [e1])) (ev_int (i := 0)) (fun _ _ => rfl) (.tup _) (atI_nat (i := 0) rfl)) ev_str o_eqS).to (k' := true) (decide_eq_true rfl)) (ew_and1 (et_cmp (ev_ix (d := .str h) (ev_ix (d := .tuple (.str h :: rest)) (v18.to (by rw [e1])) (ev_int (i := 2)) (fun _ _ => rfl) (.tup _) (atI_nat (i := 2) rfl)) (ev_int (i := 0)) (fun _ _ => rfl) (.tup _) (atI_nat (i := 0) rfl)) ev_str o_eqS)))) (fun q => ?_) fun q => ?_
        · rw [if_pos (of_decide_eq_true q)]; exact ev_int
        · rw [if_neg (of_decide_eq_false q)]; exact ev_int
      simp only [sents, List.mem_cons, List.not_mem_nil, or_false] at hs
      rcases hs with rfl | rfl | rfl | rfl | rfl | rfl
      · exact no rfl (by decide +kernel) rfl
      · exact absurd rfl h3'
      · exact absurd rfl h3'
      · exact yes rfl rfl
      · exact no rfl (by decide +kernel) rfl
      · exact yes rfl rfl
  have divE : ∀ (Γ : Gm), Γ[12]? = some (some (.dat (wD w))) → ∀ {p1 p2 p3 p4 p5 : Pos}, EvE X Γ [bx] (.BinOp (.Constant (.int 12) 0 p1) .FloorDiv (.Call (.Name "len" p2) [.Name "word" p3] [] p4) p5) (.dat (.int ((12 / w.length : Nat) : Int))) [bx] := by
    intro Γ hG p1 p2 p3 p4 p5
    refine (ev_bin ev_int (b.len L.T.len (ds := w.map .str) (b.v 12 hG) (.tup _)) (o_div (i := 12) (j := ((w.map PyData.str).length : Nat)) ⟨?_, ?_⟩)).to ?_
    · simp; omega
    · simp; omega
    · simp
  have mulE : ∀ (Γ : Gm), Γ[12]? = some (some (.dat (wD w))) → ∀ {e : Expr} {n : Nat}, EvE X Γ [bx] e (.dat (.int (n : Nat))) [bx] → n ≤ 12 → ∀ {p1 p2 : Pos}, EvE X Γ [bx] (.BinOp (.Name "word" p1) .Mult e p2) (.dat (wD (pw w n))) [bx] := by
    intro Γ hG e n he hn p1 p2
    exact (ev_bin (b.v 12 hG) he (o_mulT (ds := w.map .str) (by omega) (by omega) (by simp; omega))).to (by rw [mul_wD])
  refine ex_cons (b.asg 19 (r := .dat (.int (s.qd : Nat))) (need _ rfl) ?_)
  refine ex_cons (ex_if (et_cmp (b.v 19) (b.v 2) o_le) (fun hq => ?_) fun hq => ?_)
  · have hq' : s.qd ≤ r := by simpa using hq
    refine ex_cons (ex_ifF ((et_not (et_val (b.call (ea_cons (b.call (ea_cons (b.call (ea_cons (mulE _ rfl (b.v 14) (by omega)) (ea_one (b.v 2))) (L.ck (hw.pw t) htl (by omega)) (by omega)) (ea_cons (b.v 2) (ea_one (b.v 18)))) (L.ch (hw.pw t) (by omega) (by omega) hwf hnb hht hq') (by omega)) (ea_one (b.call (ea_cons (mulE _ rfl (b.v 14) (by omega)) (ea_one (b.v 18))) (L.cw (hw.pw t) htl hwf hht) (by omega)))) (cal_lsameB L.T L.lsame) (by omega)))).to (k' := false) rfl) (ex_nil ?_))
    refine ex_cons (b.asg 20 (r := .dat (wD (pw w (12 / w.length)))) (mulE _ rfl (divE _ rfl) hd12) ?_)
    have hk := L.ch (r := r) (hw.pw (cap r sz)) (by have := cap_len hl hr3 sz; omega) (by omega) hwf hnb hht hq'
    rw [← kd_cap hw] at hk
    refine ex_cons (ex_ifF ?t (ex_nil (ex_nil (ex_nil (kk _ _ _)))))
    by_cases h3 : s.qd < 3
    · have e : s.tr (pw w (cap r sz)) (fun _ => 0) = s.tr (pw w (12 / w.length)) (fun _ => 0) := by
        have p2 : 2 ^ s.qd ≤ 2 ^ 2 := Nat.pow_le_pow_right (by decide) (by omega)
        have p3 : 2 ^ s.qd ≤ 2 ^ r := Nat.pow_le_pow_right (by decide) hq'
        refine few hw hwf hnb ?_ ?_
        · unfold cap; omega
        · omega
      refine et_w (ew_andT ((et_cmp (b.v 19) ev_int o_lt).to (k' := true) (by simp; omega)) (ew_andF ((et_cmp (b.call (ea_cons (b.v 16) (ea_cons (b.v 2) (ea_one (b.v 18)))) hk (by omega)) (b.call (ea_cons (b.v 20) (ea_one (b.v 18))) (L.cw (hw.pw _) hll hwf hht) (by omega)) o_neB).to (k' := false) (by simp [e]))))
    · exact et_w (ew_andF ((et_cmp (b.v 19) ev_int o_lt).to (k' := false) (by simp; omega)))
  · have hq' : r < s.qd := by simpa using hq
    exact ex_cons (b.tryX 21 L.tm (L.cx (by omega) hwf hht hq') (by omega) rfl hstk hfr (fun X' b' he => ea_cons (b'.v 13) (ea_cons (b'.v 2) (ea_one (b'.v 18)))) rfl (ex_nil (ex_nil (kk _ _ _))))
end
end DL
set_option maxHeartbeats 4000000
/-! The law. -/
namespace DL
open PySem PySem.Spec PyProof.Rows L2
theorem wf_choose {p : Nat → Str → Prop} (h : ∀ i, ∃ c, p i c) : ∃ f : Nat → Str, ∀ i, p i (f i) := ⟨fun i => Classical.choose (h i), fun i => Classical.choose_spec (h i)⟩
theorem eqv_dec {r : Nat} {u v : Wo} (hu : Wd u) (hv : Wd v) {P : Prop} [Decidable P] (h : kd r u = kd r v ↔ P) : PyData.eqv (kd r u) (kd r v) = decide P := eqv_bool (kd_pl r hu) (kd_pl r hv) h.symm
theorem ex_gam {X : Cx} {Γ Γ' : Gm} {μ : Sto} {sts : List Stmt} {O : Out} (h : Γ = Γ') (k : ExS X Γ' μ sts O) : ExS X Γ μ sts O := h ▸ k
theorem size_of {r g3 g4 : Nat} (h : g4 < 3) (hr : r ≤ 3) : ∃ A1 A2 A3 sz : Nat, AV.dat (.int ((10 : Int) ^ (18 : Int).toNat + (g3 : Nat))) = .dat (.int (A1 : Nat)) ∧ AV.dat (.int ((10 : Int) ^ (24 : Int).toNat)) = .dat (.int (A2 : Nat)) ∧ AV.dat (.int (((2 ^ r : Nat) : Int) + 3)) = .dat (.int (A3 : Nat)) ∧
    2 ^ r + 3 ≤ sz ∧ ([.int (A1 : Nat), .int (A2 : Nat), .int (A3 : Nat)] : List PyData)[g4]? = some (.int (sz : Nat)) := by
  have p8 : 2 ^ r ≤ 2 ^ 3 := Nat.pow_le_pow_right (by decide) hr
  have q1 : AV.dat (.int ((10 : Int) ^ (18 : Int).toNat + (g3 : Nat))) = .dat (.int ((10 ^ 18 + g3 : Nat) : Int)) := by
    rw [show ((10 : Int) ^ (18 : Int).toNat) = ((10 ^ 18 : Nat) : Int) by decide +kernel, Int.natCast_add]
  have q2 : AV.dat (.int ((10 : Int) ^ (24 : Int).toNat)) = .dat (.int ((10 ^ 24 : Nat) : Int)) := by
    rw [show ((10 : Int) ^ (24 : Int).toNat) = ((10 ^ 24 : Nat) : Int) by decide +kernel]
  have q3 : AV.dat (.int (((2 ^ r : Nat) : Int) + 3)) = .dat (.int ((2 ^ r + 3 : Nat) : Int)) := rfl
  have b1 : 2 ^ r + 3 ≤ 10 ^ 18 + g3 := Nat.le_trans (Nat.add_le_add_right p8 3) (Nat.le_trans (by decide) (Nat.le_add_right _ _))
  have b2 : 2 ^ r + 3 ≤ 10 ^ 24 := Nat.le_trans (Nat.add_le_add_right p8 3) (by decide)
  generalize 10 ^ 18 + g3 = A1 at q1 b1
  generalize 10 ^ 24 = A2 at q2 b2
  have c : g4 = 0 ∨ g4 = 1 ∨ g4 = 2 := by omega
  rcases c with rfl | rfl | rfl
  · exact ⟨A1, A2, 2 ^ r + 3, A1, q1, q2, q3, b1, rfl⟩
  · exact ⟨A1, A2, 2 ^ r + 3, A2, q1, q2, q3, b2, rfl⟩
  · exact ⟨A1, A2, 2 ^ r + 3, 2 ^ r + 3, q1, q2, q3, Nat.le_refl _, rfl⟩
section
variable {M : Mc} {CT fI cc cda CA : Addr}
theorem law_runs (L : Lw M CT fI cc cda CA) (ns : List Int) : RunsT true M 90 nLaw sLaw [.dat (intsD ns)] [] (.dat (.bool true)) [] := by
  intro X b fn hstk hfr
  obtain ⟨ds, hds⟩ : ∃ ds, ds = digF ns 63 := ⟨_, rfl⟩
  obtain ⟨d0, l0, c0⟩ := cal_draw L.T L.draw (ds := ds) (at_ := 0) (m := 3) (by omega) (by omega)
  obtain ⟨n, l1, c1⟩ := cal_draw L.T L.draw (ds := ds) (at_ := 1) (m := 12) (by omega) (by omega)
  obtain ⟨m, l2, c2⟩ := cal_draw L.T L.draw (ds := ds) (at_ := 2) (m := 12) (by omega) (by omega)
  obtain ⟨g0, l3, c3⟩ := cal_draw L.T L.draw (ds := ds) (at_ := 3) (m := 1009) (by omega) (by omega)
  obtain ⟨g1, l4, c4⟩ := cal_draw L.T L.draw (ds := ds) (at_ := 4) (m := 50) (by omega) (by omega)
  obtain ⟨g2, l5, c5⟩ := cal_draw L.T L.draw (ds := ds) (at_ := 5) (m := 9) (by omega) (by omega)
  obtain ⟨q, l6, c6⟩ := cal_draw L.T L.draw (ds := ds) (at_ := 6) (m := 2) (by omega) (by omega)
  obtain ⟨wl, l7, c7⟩ := cal_draw L.T L.draw (ds := ds) (at_ := 7) (m := 3) (by omega) (by omega)
  obtain ⟨r, hr⟩ : ∃ r, r = d0 + 1 := ⟨_, rfl⟩
  have hr1 : 1 ≤ r := by omega
  have hr3 : r ≤ 3 := by omega
  have hr4 : r ≤ 4 := by omega
  have hr20 : r ≤ 20 := by omega
  have two : ∀ {Γ : Gm} {bx : MO}, Γ[2]? = some (some (.dat (.int (r : Nat)))) → ∀ {p1 p2 p3 : Pos}, EvE X Γ [bx] (.Call (.Name "_law_two" p1) [.Name "rounds" p2] [] p3) (.dat (.int ((2 ^ r : Nat) : Int))) [bx] := by
    intro Γ bx hG p1 p2 p3
    exact b.call (ea_one (b.v 2 hG)) (cal_two L.T L.two (n := r) (by omega)) (by omega)
  have pr : 1 ≤ 2 ^ r := Nat.one_le_two_pow
  obtain ⟨z, hz⟩ : ∃ z, z = 2 ^ r - 1 := ⟨_, rfl⟩
  have z7 : z ≤ 7 := by
    have : 2 ^ r ≤ 2 ^ 3 := Nat.pow_le_pow_right (by decide) hr3
    omega
  have two1 : ∀ {Γ : Gm} {bx : MO}, Γ[2]? = some (some (.dat (.int (r : Nat)))) → ∀ {p1 p2 p3 p4 p5 : Pos}, EvE X Γ [bx] (.BinOp (.Call (.Name "_law_two" p1) [.Name "rounds" p2] [] p3) .Sub (.Constant (.int 1) 0 p4) p5) (.dat (.int (z : Nat))) [bx] := by
    intro Γ bx hG p1 p2 p3 p4 p5
    exact (ev_bin (two hG) ev_int o_sub).to (by congr 2; omega)
  -- box, rounds, n, m
  refine ex_cons (b.asgC 1 fn (r := .loc 0) (ev_lst (ds := [intsD ds, .int 0]) (ea_cons (b.callF (ds := ds.map .int) (by rw [hds]; exact cal_digits L.T L.digits L.cell) (ea_cons (b.v 0) (ea_cons ev_int (ea_one ev_int))) (by omega) (Nat.le_refl _)) (ea_one ev_int))) ?_)
  refine ex_cons (b.asgC 2 fn (r := .dat (.int (r : Nat))) (μ1 := [bxM ds 1]) ((ev_bin ev_int (b.drawE (a := 0) c0 (by omega) (b.v 1) ev_int) o_add).to (by rw [hr]; congr 2; omega)) ?_)
  refine ex_cons (b.pair 3 4 (μ1 := [bxM ds 3]) (ea_cons (b.drawE c1 (by decide) (b.v 1) ev_int) (ea_one (b.drawE c2 (by decide) (b.v 1) ev_int))) ?_)
  refine ex_gam (Γ' := [some (.dat (intsD ns)), some (.loc 0), some (.dat (.int (r : Nat))), some (.dat (.int (n : Nat))), some (.dat (.int (m : Nat))), none, none, none, none, none, none, none, none, none, none, none, none, none, none, none, none, none]) rfl ?_
  -- due
  obtain ⟨due, hdue⟩ : ∃ due, due = (decide (n = m) || (decide (z ≤ n) && decide (z ≤ m))) := ⟨_, rfl⟩
  have en : decide (((n : Nat) : Int) = ((m : Nat) : Int)) = decide (n = m) := by
    by_cases h : n = m
    · rw [h]; simp
    · rw [decide_eq_false h, decide_eq_false (by omega)]
  refine ex_cons (b.asg 5 (r := .dat (.bool due)) ((ev_or (ev_cmp (b.v 3) (b.v 4) o_eqI) fun _ => ev_one (ev_and (ev_cmp (b.v 3) (two1 rfl) o_ge) fun _ => ev_one (ev_cmp (b.v 4) (two1 rfl) o_ge))).to (by rw [hdue, ← en]; simp)) ?_)
  refine ex_gam (Γ' := [some (.dat (intsD ns)), some (.loc 0), some (.dat (.int (r : Nat))), some (.dat (.int (n : Nat))), some (.dat (.int (m : Nat))), some (.dat (.bool due)), none, none, none, none, none, none, none, none, none, none, none, none, none, none, none, none]) rfl ?_
  have la : ∀ k, (pw w1 k).length = k := fun k => by rw [pw_len]; simp [w1]
  obtain ⟨dd, hsame⟩ := cal_same L.T L.TD_ L.same (fun {w} h hl {r} hr => L.ck h hl hr) hr3 (w1_wd.pw n) (w1_wd.pw m) (by rw [la]; omega) (by rw [la]; omega)
  have e1 : PyData.eqv (kd r (pw w1 n)) (kd r (pw w1 m)) = due := by
    rw [eqv_dec (w1_wd.pw n) (w1_wd.pw m) (a_iff r n m), hdue, ← hz]; simp
  refine ex_cons (ex_ifF ((et_cmp (ev_cmp (ev_ix (d := .bool (PyData.eqv (kd r (pw w1 n)) (kd r (pw w1 m)))) (b.call (ea_cons ((ev_bin (ev_tup (ds := w1.map .str) (ea_one ev_str)) (b.v 3) (o_mulT (by omega) (by omega) (by simp [w1]))).to (by rw [mul_wD])) (ea_cons ((ev_bin (ev_tup (ds := w1.map .str) (ea_one ev_str)) (b.v 4) (o_mulT (by omega) (by omega) (by simp [w1]))).to (by rw [mul_wD])) (ea_one (b.v 2)))) hsame (by decide)) ev_int (fun _ _ => rfl) (.tup _) rfl) ev_bl o_isB) (b.v 5) o_neB).to (k' := false) (by rw [e1]; simp)) (ex_nil ?_))
  -- one, great, kinds
  refine ex_cons (b.asgC 6 fn (r := .dat (kd r w1)) (b.call (as := [.dat (wD w1), .dat (.int (r : Nat))]) (ea_cons (ev_tup (ds := w1.map .str) (ea_one ev_str)) (ea_one (b.v 2))) (L.ck w1_wd (by simp [w1]) hr4) (by decide)) ?_)
  refine ex_gam (Γ' := [some (.dat (intsD ns)), some (.loc 0), some (.dat (.int (r : Nat))), some (.dat (.int (n : Nat))), some (.dat (.int (m : Nat))), some (.dat (.bool due)), some (.dat (kd r w1)), none, none, none, none, none, none, none, none, none, none, none, none, none, none, none]) rfl ?_
  have w10 : w1 ≠ [] := by simp [w1]
  have w13 : w1.length ≤ 3 := by simp [w1]
  refine ex_cons (b.asg 7 (r := .dat (.list [.int ((10 ^ 30 + g0 : Nat) : Int), .int ((z + g1 : Nat) : Int), .int (g2 : Nat)])) (μ1 := [bxM ds 6]) (EvE.fixG (ev_lst (ds := [.int ((10 ^ 30 + g0 : Nat) : Int), .int ((z + g1 : Nat) : Int), .int (g2 : Nat)]) (ea_cons ((ev_bin (ev_bin ev_int ev_int (o_pow ⟨by decide, by decide, by decide⟩)) (b.drawE c3 (by decide) (b.v 1) ev_int) o_add).to ?_) (ea_cons ((ev_bin (two1 rfl) (b.drawE c4 (by decide) (b.v 1) ev_int) o_add).to (by congr 2)) (ea_one (b.drawE c5 (by decide) (b.v 1) ev_int))))) (Nat.le_refl _)) ?_)
  · rw [show ((10 : Int) ^ (30 : Int).toNat) = ((10 ^ 30 : Nat) : Int) by decide +kernel]; congr 2
  refine ex_gam (Γ' := [some (.dat (intsD ns)), some (.loc 0), some (.dat (.int (r : Nat))), some (.dat (.int (n : Nat))), some (.dat (.int (m : Nat))), some (.dat (.bool due)), some (.dat (kd r w1)), some (.dat (.list [.int ((10 ^ 30 + g0 : Nat) : Int), .int ((z + g1 : Nat) : Int), .int (g2 : Nat)])), none, none, none, none, none, none, none, none, none, none, none, none, none, none]) rfl ?_
  have hG0 : kd r (pw w1 (10 ^ 30 + g0)) = kd r (pw w1 (z + g1)) := (a_iff r _ _).mpr (.inr ⟨by omega, by omega⟩)
  have hG2 : kd r (pw w1 (10 ^ 30 + g0)) = kd r (pw w1 g2) ↔ z ≤ g2 := by
    rw [a_iff, ← hz]
    constructor
    · rintro (h | h)
      · omega
      · exact h.2
    · intro h; exact .inr ⟨by omega, h⟩
  refine ex_cons (b.setMap 9 (own := [("number", 8)]) (ys := [kd r (pw w1 (10 ^ 30 + g0)), kd r (pw w1 (z + g1)), kd r (pw w1 g2)]) (it_list (ds := [.int ((10 ^ 30 + g0 : Nat) : Int), .int ((z + g1 : Nat) : Int), .int (g2 : Nat)]) (b.v 7) (.dat _)) (by decide +kernel) (.dat _) (by show (3 : Nat) ≤ 10000; decide) rfl (Nat.le_refl _) ?turn ?_)
  case turn =>
    intro i d y hd hy
    match i, hd, hy with
    | 0, hd, hy => cases hd; cases hy; exact turn_one (fun z => (b.blk z).tg 8) (fun z => (b.blk z).call (ea_cons ((b.blk z).v 6) (ea_cons ((b.blk z).v 2) (ea_one ((b.blk z).v 8)))) (L.cp w1_wd w10 w13 hr3 _) (by decide))
    | 1, hd, hy => cases hd; cases hy; exact turn_one (fun z => (b.blk z).tg 8) (fun z => (b.blk z).call (ea_cons ((b.blk z).v 6) (ea_cons ((b.blk z).v 2) (ea_one ((b.blk z).v 8)))) (L.cp w1_wd w10 w13 hr3 _) (by decide))
    | 2, hd, hy => cases hd; cases hy; exact turn_one (fun z => (b.blk z).tg 8) (fun z => (b.blk z).call (ea_cons ((b.blk z).v 6) (ea_cons ((b.blk z).v 2) (ea_one ((b.blk z).v 8)))) (L.cp w1_wd w10 w13 hr3 _) (by decide))
    | i + 3, hd, hy => cases hy
  refine ex_gam (Γ' := [some (.dat (intsD ns)), some (.loc 0), some (.dat (.int (r : Nat))), some (.dat (.int (n : Nat))), some (.dat (.int (m : Nat))), some (.dat (.bool due)), some (.dat (kd r w1)), some (.dat (.list [.int ((10 ^ 30 + g0 : Nat) : Int), .int ((z + g1 : Nat) : Int), .int (g2 : Nat)])), none, some (.dat (.list [kd r (pw w1 (10 ^ 30 + g0)), kd r (pw w1 (z + g1)), kd r (pw w1 g2)])), none, none, none, none, none, none, none, none, none, none, none, none]) rfl ?_
  have kp : ∀ k, Wd (pw w1 k) := fun k => w1_wd.pw k
  refine ex_cons (ex_ifF (et_w (ew_orF ((et_cmp (ev_ix (d := kd r (pw w1 (10 ^ 30 + g0))) (b.v 9) ev_int (fun _ _ => rfl) (.lst (.dat _)) rfl) (ev_ix (d := kd r (pw w1 (z + g1))) (b.v 9) ev_int (fun _ _ => rfl) (.lst (.dat _)) rfl) (o_ne b.un4 (kd_shaped (kp _) hr20) (kd_shaped (kp _) hr20))).to (k' := false) (by rw [eqv_dec (kp _) (kp _) (P := True) (by simp [hG0])]; rfl))
    (ew_or1 ((et_cmp (ev_cmp (ev_ix (d := kd r (pw w1 (10 ^ 30 + g0))) (b.v 9) ev_int (fun _ _ => rfl) (.lst (.dat _)) rfl) (ev_ix (d := kd r (pw w1 g2)) (b.v 9) ev_int (fun _ _ => rfl) (.lst (.dat _)) rfl) (o_eq b.un4 (kd_shaped (kp _) hr20) (kd_shaped (kp _) hr20))) (ev_cmp (ev_ix (d := .int (g2 : Nat)) (b.v 7) ev_int (fun _ _ => rfl) (.lst (.dat _)) rfl) (two1 rfl) o_ge) o_neB).to (k' := false) (by rw [eqv_dec (kp _) (kp _) hG2]; simp))))) (ex_nil ?_))
  -- colours, word
  obtain ⟨cols, hcols⟩ : ∃ cols, cols = abc.take (2 + q) := ⟨_, rfl⟩
  have hcl : cols.length = 2 + q := by rw [hcols, List.length_take]; simp [abc]; omega
  have hca : ∀ c ∈ cols, c ∈ abc := fun c hc => by rw [hcols] at hc; exact List.mem_of_mem_take hc
  refine ex_cons (b.asgC 10 fn (r := .dat (.list (cols.map .str))) (μ1 := [bxM ds 7]) ((EvE.fixG (ev_slL (ds := abc.map .str) (j := some ((2 + q : Nat) : Int)) (EvE.fixG (ev_lst (ds := abc.map .str) (ea_cons ev_str (ea_cons ev_str (ea_one ev_str)))) (Nat.le_refl _)) eo_none (eo_some ((ev_bin ev_int (b.drawE c6 (by decide) (b.v 1) ev_int) o_add).to (by congr 2))) (.dat _)) (Nat.le_refl _)).to (by rw [cut_to (by simp [abc]; omega), hcols, List.map_take])) ?_)
  refine ex_gam (Γ' := [some (.dat (intsD ns)), some (.loc 0), some (.dat (.int (r : Nat))), some (.dat (.int (n : Nat))), some (.dat (.int (m : Nat))), some (.dat (.bool due)), some (.dat (kd r w1)), some (.dat (.list [.int ((10 ^ 30 + g0 : Nat) : Int), .int ((z + g1 : Nat) : Int), .int (g2 : Nat)])), none, some (.dat (.list [kd r (pw w1 (10 ^ 30 + g0)), kd r (pw w1 (z + g1)), kd r (pw w1 g2)])), some (.dat (.list (cols.map .str))), none, none, none, none, none, none, none, none, none, none, none]) rfl ?_
  obtain ⟨f, hf⟩ := wf_choose (p := fun i c => i < 3 → c ∈ cols ∧ Cal false M 2 "_law_pick" [.loc 0, .dat (.list (cols.map .str))] [bxM ds (8 + i)] (.dat (.str c)) [bxM ds (8 + i + 1)]) fun i => by
    by_cases h : i < 3
    · obtain ⟨d, hd, hc⟩ := cal_pick L.T L.pick L.draw (ds := ds) (at_ := 8 + i) (rows := cols.map .str) (by rw [List.length_map, hcl]; omega) (by omega)
      obtain ⟨c, hc1, rfl⟩ := List.mem_map.mp hd
      exact ⟨c, fun _ => ⟨hc1, hc⟩⟩
    · exact ⟨"a", fun z => absurd z h⟩
  obtain ⟨w, hw_⟩ : ∃ w : Wo, w = (List.range (wl + 1)).map f := ⟨_, rfl⟩
  have hwn : w.length = wl + 1 := by rw [hw_]; simp
  have hw : Wd w := fun c hc => by
    rw [hw_] at hc
    obtain ⟨i, hi, rfl⟩ := List.mem_map.mp hc
    exact hca _ ((hf i) (by have := List.mem_range.mp hi; omega)).1
  have h0 : w ≠ [] := fun z => by rw [z] at hwn; simp at hwn
  have hl : w.length ≤ 3 := by omega
  have hw12 : w.length ≤ 12 := by omega
  have hws : (w.map PyData.str).length ≤ 1000 := by rw [List.length_map]; omega
  obtain ⟨a0, ha0⟩ : ∃ a0, a0 = 8 + (wl + 1) := ⟨_, rfl⟩
  refine ex_cons (b.asg 12 (r := .dat (wD w)) (μ1 := [bxM ds a0]) ((EvE.dat (ν := [_]) (b.tup L.T.tuple (ds := (List.range (wl + 1)).map fun i => PyData.str (f i)) (EvE.to2 (r' := .loc 1) (μ2 := [bxM ds a0] ++ [.lst ((List.range (wl + 1)).map fun i => PyData.str (f i))]) (ev_lc b.calm (by rw [b.nn]; exact b.nd) (by rw [b.nn, b.ss]; exact blkOk_by (own := [("k", 11)]) (by decide +kernel)) (b.itr1 (n := ((wl + 1 : Nat) : Int)) L.T.range ((ev_bin ev_int (b.drawE c7 (by decide) (b.v 1) ev_int) o_add).to (by congr 2; omega)) (by omega) (by omega)) (fun i => [bxM ds (8 + i)]) (fun i => some (.str (f i))) rfl (fun _ _ => trivial) (by rw [rangeD_len, sizeLine_eq]; omega) ?turns) rfl ?m2) (.lst (.loc rfl)))).to (by rw [hw_]; simp [wD])) ?_)
  case turns =>
    intro i d hd
    have hi : i < wl + 1 := by
      have := (List.getElem?_eq_some_iff.mp hd).1
      rw [rangeD_len] at this; simpa using this
    exact turn_one (fun z => (b.blk z).tg 11) (fun z => (b.blk z).callM (j := 0) (hf i (by omega)).2 (ea_cons ((b.blk z).v 1) (ea_one ((b.blk z).v 10))) rfl (by decide))
  case m2 =>
    rw [rangeD_len, Int.toNat_natCast, accOf_map (f := fun i => PyData.str (f i)) _ (fun i _ => rfl), ha0]
  refine ex_gam (Γ' := [some (.dat (intsD ns)), some (.loc 0), some (.dat (.int (r : Nat))), some (.dat (.int (n : Nat))), some (.dat (.int (m : Nat))), some (.dat (.bool due)), some (.dat (kd r w1)), some (.dat (.list [.int ((10 ^ 30 + g0 : Nat) : Int), .int ((z + g1 : Nat) : Int), .int (g2 : Nat)])), none, some (.dat (.list [kd r (pw w1 (10 ^ 30 + g0)), kd r (pw w1 (z + g1)), kd r (pw w1 g2)])), some (.dat (.list (cols.map .str))), none, some (.dat (wD w)), none, none, none, none, none, none, none, none, none]) rfl ?_
  -- kind, times
  have hdiv : w.length * (12 / w.length) ≤ 12 := Nat.mul_div_le 12 w.length
  have hd12 : 12 / w.length ≤ 12 := Nat.div_le_self _ _
  refine ex_cons (b.asg 13 (r := .dat (kd r w)) (b.call (ea_cons (b.v 12) (ea_one (b.v 2))) (L.ck hw hw12 hr4) (by decide)) ?_)
  refine ex_gam (Γ' := [some (.dat (intsD ns)), some (.loc 0), some (.dat (.int (r : Nat))), some (.dat (.int (n : Nat))), some (.dat (.int (m : Nat))), some (.dat (.bool due)), some (.dat (kd r w1)), some (.dat (.list [.int ((10 ^ 30 + g0 : Nat) : Int), .int ((z + g1 : Nat) : Int), .int (g2 : Nat)])), none, some (.dat (.list [kd r (pw w1 (10 ^ 30 + g0)), kd r (pw w1 (z + g1)), kd r (pw w1 g2)])), some (.dat (.list (cols.map .str))), none, some (.dat (wD w)), some (.dat (kd r w)), none, none, none, none, none, none, none, none]) rfl ?_
  obtain ⟨t, lt_, ct⟩ := cal_draw L.T L.draw (ds := ds) (at_ := a0) (m := 12 / w.length + 1) (Nat.succ_pos _) (by omega)
  have ht : t ≤ 12 / w.length := by omega
  have ht1000 : ((t : Nat) : Int) ≤ 1000 := by omega
  have htl : (pw w t).length ≤ 12 := by
    rw [pw_len]
    have := Nat.mul_le_mul_right w.length ht
    rw [Nat.mul_comm (12 / w.length)] at this
    omega
  refine ex_cons (b.asg 14 (r := .dat (.int (t : Nat))) (μ1 := [bxM ds (a0 + 1)]) (b.drawE ct (by decide) (b.v 1) ((ev_bin (ev_bin ev_int (b.len L.T.len (ds := w.map .str) (b.v 12) (.tup _)) (o_div (i := 12) (j := ((w.map PyData.str).length : Nat)) ⟨by simp; omega, by simp; omega⟩)) ev_int o_add).to (by simp))) ?_)
  refine ex_cons (ex_ifF ((et_not (et_val (b.call (ea_cons (b.call (ea_cons (b.v 13) (ea_cons (b.v 2) (ea_one (b.v 14)))) (L.cp hw h0 hl hr3 t) (by decide)) (ea_one (b.call (ea_cons ((ev_bin (b.v 12) (b.v 14) (o_mulT (ds := w.map .str) (Int.natCast_nonneg t) ht1000 hws)).to (by rw [mul_wD])) (ea_one (b.v 2))) (L.ck (hw.pw t) htl hr4) (by decide)))) (L.css hw h0 hl hr3 t) (by decide)))).to (k' := false) rfl) (ex_nil ?_))
  refine ex_gam (Γ' := [some (.dat (intsD ns)), some (.loc 0), some (.dat (.int (r : Nat))), some (.dat (.int (n : Nat))), some (.dat (.int (m : Nat))), some (.dat (.bool due)), some (.dat (kd r w1)), some (.dat (.list [.int ((10 ^ 30 + g0 : Nat) : Int), .int ((z + g1 : Nat) : Int), .int (g2 : Nat)])), none, some (.dat (.list [kd r (pw w1 (10 ^ 30 + g0)), kd r (pw w1 (z + g1)), kd r (pw w1 g2)])), some (.dat (.list (cols.map .str))), none, some (.dat (wD w)), some (.dat (kd r w)), some (.dat (.int (t : Nat))), none, none, none, none, none, none, none]) rfl ?_
  -- size, power
  obtain ⟨g3, l8, c8⟩ := cal_draw L.T L.draw (ds := ds) (at_ := a0 + 1) (m := 1009) (by omega) (by omega)
  obtain ⟨g4, l9, c9⟩ := cal_draw L.T L.draw (ds := ds) (at_ := a0 + 1 + 1) (m := 3) (by omega) (by omega)
  obtain ⟨A1, A2, A3, sz, q1, q2, q3, hsz, hsi⟩ := size_of (g3 := g3) l9 hr3
  refine ex_cons (b.asg 15 (r := .dat (.int (sz : Nat))) (μ1 := [bxM ds (a0 + 1 + 1 + 1)]) (ev_ix (ds := [.int (A1 : Nat), .int (A2 : Nat), .int (A3 : Nat)]) (EvE.fixG (ev_lst (ds := [.int (A1 : Nat), .int (A2 : Nat), .int (A3 : Nat)]) (ea_cons ((ev_bin (ev_bin ev_int ev_int (o_pow ⟨by decide, by decide, by decide⟩)) (b.drawE c8 (by decide) (b.v 1) ev_int) o_add).to q1) (ea_cons ((ev_bin ev_int ev_int (o_pow ⟨by decide, by decide, by decide⟩)).to q2) (ea_one ((ev_bin (two rfl) ev_int o_add).to q3))))) (Nat.le_refl _)) (b.drawE c9 (by decide) (b.v 1) ev_int) (fun _ _ => rfl) (.lst (.dat _)) (atI_nat hsi)) ?_)
  refine ex_gam (Γ' := [some (.dat (intsD ns)), some (.loc 0), some (.dat (.int (r : Nat))), some (.dat (.int (n : Nat))), some (.dat (.int (m : Nat))), some (.dat (.bool due)), some (.dat (kd r w1)), some (.dat (.list [.int ((10 ^ 30 + g0 : Nat) : Int), .int ((z + g1 : Nat) : Int), .int (g2 : Nat)])), none, some (.dat (.list [kd r (pw w1 (10 ^ 30 + g0)), kd r (pw w1 (z + g1)), kd r (pw w1 g2)])), some (.dat (.list (cols.map .str))), none, some (.dat (wD w)), some (.dat (kd r w)), some (.dat (.int (t : Nat))), some (.dat (.int (sz : Nat))), none, none, none, none, none, none]) rfl ?_
  refine ex_cons (b.asg 16 (r := .dat (kd r (pw w sz))) (b.call (ea_cons (b.v 13) (ea_cons (b.v 2) (ea_one (b.v 15)))) (L.cp hw h0 hl hr3 sz) (by decide)) ?_)
  refine ex_gam (Γ' := [some (.dat (intsD ns)), some (.loc 0), some (.dat (.int (r : Nat))), some (.dat (.int (n : Nat))), some (.dat (.int (m : Nat))), some (.dat (.bool due)), some (.dat (kd r w1)), some (.dat (.list [.int ((10 ^ 30 + g0 : Nat) : Int), .int ((z + g1 : Nat) : Int), .int (g2 : Nat)])), none, some (.dat (.list [kd r (pw w1 (10 ^ 30 + g0)), kd r (pw w1 (z + g1)), kd r (pw w1 g2)])), some (.dat (.list (cols.map .str))), none, some (.dat (wD w)), some (.dat (kd r w)), some (.dat (.int (t : Nat))), some (.dat (.int (sz : Nat))), some (.dat (kd r (pw w sz))), none, none, none, none, none]) rfl ?_
  have s1 := L.cs (r := r) hw h0 hl hr3 sz 1
  have s2 := L.cs (r := r) hw h0 hl hr3 1 sz
  rw [pw_one] at s1 s2
  rw [Nat.add_comm] at s2
  have pe1 : ∀ {Γ : Gm} {bx : MO}, Γ[15]? = some (some (.dat (.int (sz : Nat)))) → ∀ {p1 p2 p3 : Pos}, EvE X Γ [bx] (.BinOp (.Name "size" p1) .Add (.Constant (.int 1) 0 p2) p3) (.dat (.int ((sz + 1 : Nat) : Int))) [bx] := fun {Γ bx} hG {_ _ _} => (ev_bin (b.v 15 hG) ev_int o_add).to rfl
  refine ex_cons (ex_ifF (et_w (ew_orF ((et_not (et_val (b.call (ea_cons (b.call (ea_cons (b.v 16) (ea_cons (b.v 13) (ea_one (b.v 2)))) s1 (by decide)) (ea_one (b.call (ea_cons (b.v 13) (ea_cons (b.v 2) (ea_one (pe1 rfl)))) (L.cp hw h0 hl hr3 (sz + 1)) (by decide)))) (L.css hw h0 hl hr3 (sz + 1)) (by decide)))).to (k' := false) rfl)
    (ew_or1 ((et_not (et_val (b.call (ea_cons (b.call (ea_cons (b.v 13) (ea_cons (b.v 16) (ea_one (b.v 2)))) s2 (by decide)) (ea_one (b.call (ea_cons (b.v 13) (ea_cons (b.v 2) (ea_one (pe1 rfl)))) (L.cp hw h0 hl hr3 (sz + 1)) (by decide)))) (L.css hw h0 hl hr3 (sz + 1)) (by decide)))).to (k' := false) rfl)))) (ex_nil ?_))
  have z0 : PyData.eqv (kd r (pw w 0)) (.tuple []) = true := by rw [pw_zero, kd_nil]; rfl
  refine ex_cons (ex_ifF (et_w (ew_orF ((et_not (et_val (b.call (ea_cons (b.call (ea_cons (b.v 16) (ea_cons (b.v 16) (ea_one (b.v 2)))) (L.cs hw h0 hl hr3 sz sz) (by decide)) (ea_one (b.call (ea_cons (b.v 13) (ea_cons (b.v 2) (ea_one ((ev_bin ev_int (b.v 15) (o_mul (.inl ⟨by decide, by decide⟩))).to (r' := .dat (.int ((sz + sz : Nat) : Int))) (by congr 2; omega))))) (L.cp hw h0 hl hr3 (sz + sz)) (by decide)))) (L.css hw h0 hl hr3 (sz + sz)) (by decide)))).to (k' := false) rfl)
    (ew_or1 ((et_cmp (b.call (ea_cons (b.v 13) (ea_cons (b.v 2) (ea_one (ev_int (i := ((0 : Nat) : Int)))))) (L.cp hw h0 hl hr3 0) (by decide)) (ev_tup (ds := []) ea_nil) (o_ne b.un4 (kd_shaped (hw.pw 0) hr20) (by decide +kernel))).to (k' := false) (by rw [z0]; rfl))))) (ex_nil ?_))
  -- the loop
  obtain ⟨a1, ha1⟩ : ∃ a1, a1 = a0 + 1 + 1 + 1 := ⟨_, rfl⟩
  rw [← ha1]
  obtain ⟨kk1, hk1⟩ : ∃ d : PyData, d = .list [.int ((10 ^ 30 + g0 : Nat) : Int), .int ((z + g1 : Nat) : Int), .int (g2 : Nat)] := ⟨_, rfl⟩
  obtain ⟨kk2, hk2⟩ : ∃ d : PyData, d = .list [kd r (pw w1 (10 ^ 30 + g0)), kd r (pw w1 (z + g1)), kd r (pw w1 g2)] := ⟨_, rfl⟩
  refine ex_cons (ex_for b.hp b.calm (b.itr1 L.T.range (ev_int (i := 3)) (by omega) (by omega)) (fun i Γ μ => ∃ x17 x18 x19 x20, Γ = GL ns r n m due (kd r w1) kk1 kk2 (.list (cols.map .str)) w t sz x17 x18 x19 x20 ∧ μ = [bxM ds (a1 + 3 * i)]) ⟨none, none, none, none, by rw [hk1, hk2]; rfl, rfl⟩ (fun _ _ _ _ => trivial) ?_ ?_)
  · rintro i d Γ μ hi ⟨x17, x18, x19, x20, rfl, rfl⟩
    have hi3 : i < 3 := by
      have := (List.getElem?_eq_some_iff.mp hi).1
      rw [rangeD_len] at this; simpa using this
    refine ⟨_, _, b.tg 17, ?_⟩
    exact turnB (x17 := some (.dat d)) L b hstk hfr hr1 hr3 (by omega) hca hw h0 hl ht hsz (by omega) fun y18 y19 y20 => ⟨_, _, _, _, rfl, by rw [show a1 + 3 * i + 1 + 1 + 1 = a1 + 3 * (i + 1) by omega]⟩
  · rintro Γ μ ⟨x17, x18, x19, x20, rfl, rfl⟩
    exact ex_cons (ex_ret ev_bl ⟨rfl, [_], rfl, trivial⟩)
end
end DL
set_option maxHeartbeats 4000000
/-! The law's call behind the top, where no repr runs. -/
namespace DL
open PySem PySem.Spec PyProof.Rows L2
def spL (P : Program) (w : World) (K : PySem.W.Frag) : Sp := fun vs H Q E => ∃ ns : List Int, spOf P w K [.dat (intsD ns)] [] (.dat (.bool true)) [] vs H Q E
theorem fg_law {M : Mc} {CT fI cc cda CA : Addr} (L : Lw M CT fI cc cda CA) {f : Addr} {fd : FuncData} (F : Fun M.K "law" "law" sLaw f fd) : Fg true M CX0 91 f fd ["script"] (spL M.P M.w M.K) :=
  have G : ∀ ns, Fg true M CX0 91 f fd ["script"] (spOf M.P M.w M.K [.dat (intsD ns)] [] (.dat (.bool true)) []) := fun ns => fg_runsT F scLaw rfl (Nat.le_refl _) (law_runs L ns)
  ⟨fun vs H Q E ⟨ns, h⟩ => (G ns).len vs H Q E h, fun A outer s H args us vs Q E hg hr en hb rv ⟨ns, h⟩ => (G ns).run A outer s H args us vs Q E hg hr en hb rv h⟩
theorem dp_ints {K : PySem.W.Frag} {H : Hp} : ∀ ns : List Int, DpAll K H (ns.map V.int) (ns.map PyData.int)
  | [] => .nil
  | n :: ns => .cons (.int n) (dp_ints ns)
theorem spL_ok {P : Program} {w : World} {K : PySem.W.Frag} {H : Hp} {a : Addr} {ns : List Int} (hS : SqL K H a (ns.map V.int)) : spL P w K [.ref a] H (fun v _ => v = .bl true) fun _ _ _ => False :=
  ⟨ns, rfl, H, [], ⟨fun _ _ e _ => e, Sub.refl _, Sub.refl _, fun _ _ e => .inl e, List.nodup_nil, fun _ h => by simp at h, ⟨[], rfl, fun _ h => by simp at h⟩, .nil, fun i av e => by simp at e, rfl, fun p hp => by
    have e : p = (.dat (intsD ns), .ref a) := by simpa using hp
    subst e
    exact Dp.lst hS (dp_ints ns)⟩, fun v H' F' A' s => dpb s.top⟩
section
variable {P : Program} {w : World} {K : PySem.W.Frag} {mg mb : Str → Option Value} {k : Nat} {fa a : Addr} {fd : FuncData} {s₁ : Shared} {vs : List Value} {ns : List Int}
/-- from an abstract heap in which at most the script is tracked -/
theorem callG_core (KX : K.In s₁.heap) (hns : s₁.heap.Ns mainGlobals mg) (hb : s₁.heap.Ns builtinsNs mb) (hbb : ∀ x : Str, x ≠ "__name__" → mb x = bootBuiltins x) (hlim : s₁.heap.NoLimit) (hg : s₁.gens = #[])
    (ha : s₁.heap.get? a = some { cls := .type "list", data := .seq vs.toArray }) (hr : Room k callerA)
    (F : ∀ base : Heap, K.In base → base.Ns mainGlobals mg → Fg true ⟨P, w, K, mg, base⟩ CX0 k fa fd ["script"] (spL P w K)) (hbind : ∀ (s : Shared) (u : Value), BindsTo s fd ⟨[u], []⟩ [("script", u)])
    {H : Hp} (hO : Only H) (hS : SqL K H a (ns.map V.int)) (hok : HOk P w H s₁.heap) (hA : ∀ b, H b ≠ none → b = a) (hK : H a ≠ none → K.lookup a = none) :
    codeAny (model P w) callerA (.call (.ref fa) ⟨[.ref a], []⟩) (fun r s' => r = .ok (.ret (.bool true)) ∧ OldK s₁.heap s'.heap ∧ s'.os = s₁.os ∧ AllBare s'.gens) s₁ := by
  have dictsFree : ∀ {b : Addr} {o : Obj} {es : Array DictEntry} {ep : Nat}, s₁.heap.get? b = some o → o.data = .dict es ep → H b = none := fun {b o es ep} e d => Classical.byContradiction fun z => by
    have eb := hA b z
    rw [eb, ha] at e
    cases e
    have d' : Data.seq vs.toArray _ = Data.dict es ep := d
    cases d'
  have names : ∀ {b : Addr} {m : Str → Option Value}, s₁.heap.Ns b m → (hidT s₁.heap H).Ns b m := fun {b m} ⟨o, es, ep, e, d, q⟩ => ⟨o, es, ep, hidT_get e (dictsFree e d), d, q⟩
  have part : K.In (hidT s₁.heap H) := fun b o e => hidT_get (KX b o e) (Classical.byContradiction fun z => by
    have eb := hA b z
    rw [eb] at e z
    rw [hK z] at e
    cases e)
  have md : Mod K mg (hidT s₁.heap H) := ⟨part, names hns, ⟨mb, names hb, hbb⟩, let ⟨mc, h1, h2⟩ := hlim; ⟨mc, names h1, h2⟩⟩
  have env : Env0 P w K mg (hidT s₁.heap H) callerA [] s₁ H := ⟨rfl, md, fun b o e => of_hidT e, Nat.le_of_eq (hidT_size _ _), trivial, fun b hb => absurd (show b ∈ ([] : List Addr) from hb) (by simp), hok, .of_eq hg⟩
  refine codeAny_mono ((F _ part (names hns)).run callerA [] s₁ H ⟨[.ref a], []⟩ [.ref a] [.ref a] _ _ (fun _ => rfl) hr env (hbind s₁ (.ref a)) (.cons rfl .nil) (spL_ok hS)) fun res s' h => ?_
  match res, h with
  | .error e, h => exact h.elim
  | .ok .next, h => exact h.elim
  | .ok .brk, h => exact h.elim
  | .ok .cont, h => exact h.elim
  | .ok (.ret u), h =>
    obtain ⟨v, H', os, bare, un, hok', r', q⟩ := h
    obtain rfl : v = .bl true := q
    obtain rfl : u = Value.bool true := r'
    refine ⟨rfl, OldK.of_keep fun b o e => ?_, os, bare⟩
    rcases hO b with z | ⟨ob, xs, z⟩
    · exact un.keep b o e z (by intro y; exact absurd (show b ∈ ([] : List Addr) from y) (by simp)) (by simp)
    · obtain ⟨e1, _⟩ := hok b _ z
      obtain ⟨e2, _⟩ := hok' b _ (un.frzs b ob _ z)
      rw [e] at e1
      cases e1
      exact e2
theorem callG (KX : K.In s₁.heap) (hns : s₁.heap.Ns mainGlobals mg) (hb : s₁.heap.Ns builtinsNs mb) (hbb : ∀ x : Str, x ≠ "__name__" → mb x = bootBuiltins x) (hlim : s₁.heap.NoLimit) (hg : s₁.gens = #[])
    (ha : s₁.heap.get? a = some { cls := .type "list", data := .seq vs.toArray }) (hi : IntsAre vs ns) (hl : ns.length ≤ sizeLine) (hr : Room k callerA)
    (F : ∀ base : Heap, K.In base → base.Ns mainGlobals mg → Fg true ⟨P, w, K, mg, base⟩ CX0 k fa fd ["script"] (spL P w K)) (hbind : ∀ (s : Shared) (u : Value), BindsTo s fd ⟨[u], []⟩ [("script", u)]) :
    codeAny (model P w) callerA (.call (.ref fa) ⟨[.ref a], []⟩) (fun r s' => r = .ok (.ret (.bool true)) ∧ OldK s₁.heap s'.heap ∧ s'.os = s₁.os ∧ AllBare s'.gens) s₁ := by
  have rv := vals_ints hi
  have lenV := hi.length
  cases hk : K.lookup a with
  | some o =>
    have e := KX a o hk
    rw [ha] at e
    cases e
    exact callG_core (H := fun _ => none) KX hns hb hbb hlim hg ha hr F hbind (fun _ => .inl rfl) (.inr ⟨_, vs.toArray, _, hk, rfl, rfl, rfl, by rw [List.size_toArray, lenV]; exact hl, by simpa using rv⟩) (fun b u z => nomatch (show (none : Option HO) = some u from z)) (fun b z => absurd rfl z) fun z => absurd rfl z
  | none =>
    refine callG_core (H := fun b => if b = a then some (.frz { cls := .type "list", data := .seq vs.toArray } (.lst (ns.map V.int))) else none) KX hns hb hbb hlim hg ha hr F hbind (fun b => ?_) (.inl (.inr ⟨{ cls := .type "list", data := .seq vs.toArray }, if_pos rfl⟩)) (fun b u z => ?_) (fun b z => ?_) fun _ => hk
    · exact (Classical.em (b = a)).elim (fun q => .inr ⟨_, _, if_pos q⟩) fun q => .inl (if_neg q)
    · by_cases q : b = a
      · have z' := (if_pos q).symm.trans z
        cases z'
        subst q
        exact ⟨ha, by rw [List.length_map]; exact hl, vs, _, rv, ha⟩
      · cases (if_neg q).symm.trans z
    · exact Classical.byContradiction fun q => z (if_neg q)
end
theorem walkG {l : PySem.W.OpenLaw} {q : Program} {loose : List Str} {XP : (Str → Option Value) → Heap → Prop} {YP : World → Heap → Prop} {d : DefRec} {K : Params → PySem.W.Frag} (hn : l.most = some 63) (hdf : d.params.defaults = [])
    (hY : ∀ (w : World) (h : Heap), YP w h → (K w.params).In h)
    (F : ∀ (w : World) (mg : Str → Option Value) (fa : Addr) (h : Heap), (K w.params).In h → h.Ns mainGlobals mg → mg d.name = some (.ref fa) →
      ∃ fd : FuncData, (∀ (s : Shared) (u : Value), BindsTo s fd ⟨[u], []⟩ [("script", u)]) ∧ ∀ base : Heap, (K w.params).In base → base.Ns mainGlobals mg → Fg true ⟨l.prog, w, K w.params, mg, base⟩ CX0 91 fa fd ["script"] (spL l.prog w (K w.params))) :
    PySem.W.WalkO q loose XP YP l.row.toRowW d [] (fun f vs => PySem.call f vs) := by
  refine Att.attach_call hn hdf fun w s₀ s₁ mg mb fa o pm cd doc a vs ns G Y ho hd hcd hmg hobj hints hlen hg => ?_
  obtain ⟨fd, hb, hF⟩ := F w mg fa _ (hY w _ Y) G.T.g hmg
  exact callG (hY w _ Y) G.T.g G.T.b G.T.builtins G.T.nolimit hg hobj hints (Nat.le_trans hlen (by rw [sizeLine_eq]; decide)) ⟨rfl, by decide, by decide⟩ hF hb
end DL
set_option maxHeartbeats 4000000
/-! What the top has written. -/
namespace DL
open PySem PySem.Spec PyProof.Rows L2
def DfIn (K : PySem.W.Frag) (x qual : Str) (st : Stmt) : Prop := ∃ (f : Addr) (oc kV dc pm cd ct : Value) (od an : Option Addr) (sl : Array (Option Value)), PySem.W.nsIn K mainGlobals x = some (some (.ref f)) ∧
  K.lookup f = some ⟨oc, od, .func (PySem.W.fnOf x qual (defArgs st) (defBody st) (defScope st) .none kV dc pm an cd ct), sl⟩ ∧ PySem.W.codeIn K cd qual = true ∧ PySem.W.keepIn K (.ref f) = true
/-- a method of the class at C -/
def MtIn (K : PySem.W.Frag) (C : Addr) (x qual : Str) (st : Stmt) : Prop := ∃ (f : Addr) (oc kV dc pm cd ct : Value) (od an : Option Addr) (sl : Array (Option Value)), PySem.W.findIn K (.ref C) x = some (some (.ref f)) ∧ PySem.W.isFn K (.ref f) = true ∧
  K.lookup f = some ⟨oc, od, .func (PySem.W.fnOf x qual (defArgs st) (defBody st) (defScope st) .none kV dc pm an cd ct), sl⟩ ∧ PySem.W.codeIn K cd qual = true ∧ PySem.W.keepIn K (.ref f) = true
def strsOf : List Value → Option (List Str)
  | [] => some []
  | .str x _ :: r => (strsOf r).map (x :: ·)
  | _ :: _ => none
def TupIn (K : PySem.W.Frag) (x : Str) (xs : List Str) : Prop := ∃ (a : Addr) (od : Option Addr) (its : Array Value) (n : Nat) (sl : Array (Option Value)), PySem.W.nsIn K mainGlobals x = some (some (.ref a)) ∧ K.lookup a = some ⟨.type "tuple", od, .seq its n, sl⟩ ∧ strsOf its.toList = some xs
def TxtIn (K : PySem.W.Frag) (x s : Str) : Prop := ∃ t, PySem.W.nsIn K mainGlobals x = some (some (.str s t))
def IntIn (K : PySem.W.Frag) (x : Str) (i : Int) : Prop := ∃ t, PySem.W.nsIn K mainGlobals x = some (some (.int i t))
theorem strs_vals : ∀ {us : List Value} {xs : List Str}, strsOf us = some xs → Vals (xs.map V.str) us
  | [], xs, h => by cases h; exact .nil
  | u :: r, xs, h => by
    cases u with
    | str x t =>
      obtain ⟨ys, e, rfl⟩ := Option.map_eq_some_iff.mp (show (strsOf r).map (x :: ·) = some xs from h)
      exact .cons ⟨t, rfl⟩ (strs_vals e)
    | _ => cases h
theorem dp_strs {K : PySem.W.Frag} {H : Hp} : ∀ xs : List Str, DpAll K H (xs.map V.str) (xs.map PyData.str)
  | [] => .nil
  | x :: xs => .cons (.str x) (dp_strs xs)
theorem DfIn.mk {K : PySem.W.Frag} {x qual : Str} {st : Stmt} {f : Addr} {oc kV dc pm cd ct : Value} {od an : Option Addr} {sl : Array (Option Value)} (a : PySem.W.nsIn K mainGlobals x = some (some (.ref f)))
    (l : K.lookup f = some ⟨oc, od, .func (PySem.W.fnOf x qual (defArgs st) (defBody st) (defScope st) .none kV dc pm an cd ct), sl⟩) (c : PySem.W.codeIn K cd qual = true) (k : PySem.W.keepIn K (.ref f) = true) : DfIn K x qual st := ⟨_, _, _, _, _, _, _, _, _, _, a, l, c, k⟩
theorem MtIn.mk {K : PySem.W.Frag} {C : Addr} {x qual : Str} {st : Stmt} {f : Addr} {oc kV dc pm cd ct : Value} {od an : Option Addr} {sl : Array (Option Value)} (a : PySem.W.findIn K (.ref C) x = some (some (.ref f))) (i : PySem.W.isFn K (.ref f) = true)
    (l : K.lookup f = some ⟨oc, od, .func (PySem.W.fnOf x qual (defArgs st) (defBody st) (defScope st) .none kV dc pm an cd ct), sl⟩) (c : PySem.W.codeIn K cd qual = true) (k : PySem.W.keepIn K (.ref f) = true) : MtIn K C x qual st := ⟨_, _, _, _, _, _, _, _, _, _, a, i, l, c, k⟩
theorem TupIn.mk {K : PySem.W.Frag} {x : Str} {xs : List Str} {a : Addr} {od : Option Addr} {its : Array Value} {n : Nat} {sl : Array (Option Value)} (e : PySem.W.nsIn K mainGlobals x = some (some (.ref a))) (l : K.lookup a = some ⟨.type "tuple", od, .seq its n, sl⟩) (s : strsOf its.toList = some xs) : TupIn K x xs := ⟨_, _, _, _, _, e, l, s⟩
theorem TxtIn.mk {K : PySem.W.Frag} {x s : Str} {t : Tok} (e : PySem.W.nsIn K mainGlobals x = some (some (.str s t))) : TxtIn K x s := ⟨t, e⟩
theorem IntIn.mk {K : PySem.W.Frag} {x : Str} {i : Int} {t : Tok} (e : PySem.W.nsIn K mainGlobals x = some (some (.int i t))) : IntIn K x i := ⟨t, e⟩
def TmX (K : PySem.W.Frag) (C : Addr) : Prop := ∃ (nm q : Str) (N S : Addr) (bs : List Value) (sn : List Str) (sub : List Value) (ab : Bool) (col : Option Bool) (dd : Option Addr) (m0 m1 m2 m3 m5 : Option Value), K.lookup C = some (excClassObj nm q C N bs [.ref S, .type "ValueError", .type "Exception", .type "BaseException", .type "object"] true sn sub ab col dd m0 m1 m2 m3 m5 "ValueError.__new__")
theorem TmX.mk {K : PySem.W.Frag} {C : Addr} {nm q : Str} {N S : Addr} {bs : List Value} {sn : List Str} {sub : List Value} {ab : Bool} {col : Option Bool} {dd : Option Addr} {m0 m1 m2 m3 m5 : Option Value} (e : K.lookup C = some (excClassObj nm q C N bs [.ref S, .type "ValueError", .type "Exception", .type "BaseException", .type "object"] true sn sub ab col dd m0 m1 m2 m3 m5 "ValueError.__new__")) : TmX K C := ⟨nm, q, N, S, bs, sn, sub, ab, col, dd, m0, m1, m2, m3, m5, e⟩
def TmF (K : PySem.W.Frag) (fI cc cda : Addr) : Prop := ∃ (oc : Value) (od : Option Addr) (doc pm : Value) (an : Option Addr) (ct : Value) (osl : Array (Option Value)), K.lookup fI = some ⟨oc, od, .func (PySem.W.ksFn "__init__" "TooMany.__init__" Tm.iA Tm.iB Tm.iS .none .none doc pm an (.ref cda) ct cc), osl⟩
theorem TmF.mk {K : PySem.W.Frag} {fI cc cda : Addr} {oc : Value} {od : Option Addr} {doc pm : Value} {an : Option Addr} {ct : Value} {osl : Array (Option Value)} (e : K.lookup fI = some ⟨oc, od, .func (PySem.W.ksFn "__init__" "TooMany.__init__" Tm.iA Tm.iB Tm.iS .none .none doc pm an (.ref cda) ct cc), osl⟩) : TmF K fI cc cda := ⟨oc, od, doc, pm, an, ct, osl, e⟩
def TmC (P : Program) (K : PySem.W.Frag) (cda : Addr) : Prop := ∃ (ccl : Value) (cdd : Option Addr) (vs : Array Value) (ccs : Array (Option Value)) (file : Str) (tf : Tok), K.lookup cda = some ⟨ccl, cdd, .fields vs, ccs⟩ ∧ vs[2]? = some (.str file tf) ∧ ((P.main.file : Str) == file) = true
theorem TmC.mk {P : Program} {K : PySem.W.Frag} {cda : Addr} {ccl : Value} {cdd : Option Addr} {vs : Array Value} {ccs : Array (Option Value)} {file : Str} {tf : Tok} (e : K.lookup cda = some ⟨ccl, cdd, .fields vs, ccs⟩) (e2 : vs[2]? = some (.str file tf)) (e3 : ((P.main.file : Str) == file) = true) : TmC P K cda := ⟨ccl, cdd, vs, ccs, file, tf, e, e2, e3⟩
def TmL (K : PySem.W.Frag) (C cc : Addr) : Prop := ∃ (cl : Value) (cld : Option Addr) (csl : Array (Option Value)), K.lookup cc = some ⟨cl, cld, .cell (some (.ref C)), csl⟩
theorem TmL.mk {K : PySem.W.Frag} {C cc : Addr} {cl : Value} {cld : Option Addr} {csl : Array (Option Value)} (e : K.lookup cc = some ⟨cl, cld, .cell (some (.ref C)), csl⟩) : TmL K C cc := ⟨cl, cld, csl, e⟩
section
variable {M : Mc} {h : Heap} {x qual : Str} {st : Stmt} {ps : List Str} {C : Addr}
theorem DfIn.df (X : M.K.In h) (G : h.Ns mainGlobals M.mg) (D : DfIn M.K x qual st)
    (hb : ∀ (kV doc pm : Value) (an : Option Addr) (cdv ct : Value) (us : List Value), us.length = ps.length → bindArgs (PySem.W.fnOf x qual (defArgs st) (defBody st) (defScope st) .none kV doc pm an cdv ct) ⟨us, []⟩ = pure (ps.zip us)) : Df M x qual st ps := by
  obtain ⟨f, oc, kV, dc, pm, cd, ct, od, an, sl, a, l, c, k⟩ := D
  have F := fun_mk (st := st) l c k
  exact ⟨f, _, F, PySem.W.mg_of X G a, k, F.binds hb⟩
theorem MtIn.df (hc : Cls M.K C) (D : MtIn M.K C x qual st)
    (hb : ∀ (kV doc pm : Value) (an : Option Addr) (cdv ct : Value) (us : List Value), us.length = ps.length → bindArgs (PySem.W.fnOf x qual (defArgs st) (defBody st) (defScope st) .none kV doc pm an cdv ct) ⟨us, []⟩ = pure (ps.zip us)) : DfM M C x qual st ps := by
  obtain ⟨f, oc, kV, dc, pm, cd, ct, od, an, sl, a, i, l, c, k⟩ := D
  have F := fun_mk (st := st) l c k
  exact ⟨f, _, F, hc, ⟨a, i, k⟩, F.binds hb⟩
theorem TupIn.cst (X : M.K.In h) (G : h.Ns mainGlobals M.mg) {xs : List Str} (hz : xs.length ≤ sizeLine) (D : TupIn M.K x xs) : Cst M x (.tuple (xs.map .str)) := by
  obtain ⟨a, od, its, n, sl, e, l, s⟩ := D
  have v := strs_vals s
  refine ⟨.ref a, .ref a, PySem.W.mg_of X G e, rfl, fun F => .tup (.inr ⟨_, its, n, l, rfl, rfl, ?_, v⟩) (dp_strs xs)⟩
  have q := v.length
  simp only [List.length_map, Array.length_toList] at q
  omega
theorem TxtIn.cst (X : M.K.In h) (G : h.Ns mainGlobals M.mg) {s : Str} (D : TxtIn M.K x s) : Cst M x (.str s) := let ⟨t, e⟩ := D; ⟨.str s, .str s t, PySem.W.mg_of X G e, ⟨t, rfl⟩, fun F => .str s⟩
theorem IntIn.cst (X : M.K.In h) (G : h.Ns mainGlobals M.mg) {i : Int} (D : IntIn M.K x i) : Cst M x (.int i) := let ⟨t, e⟩ := D; ⟨.int i, .int i t, PySem.W.mg_of X G e, ⟨t, rfl⟩, fun F => .int i⟩
end
/-- what is asked of the class TooMany -/
structure TmIn (P : Program) (K : PySem.W.Frag) (C fI cc cda : Addr) : Prop where
  gC : PySem.W.nsIn K mainGlobals "TooMany" = some (some (.ref C))
  xL : TmX K C
  sa : PySem.W.findIn K (.ref C) "__setattr__" = some (some (.builtin "object.__setattr__"))
  ga : PySem.W.findIn K (.ref C) "__getattribute__" = some (some (.builtin "BaseException.__getattribute__"))
  gg : PySem.W.findIn K (.ref C) "__getattr__" = some none
  noN : PySem.W.findIn K (.ref C) "what" = some none
  iC : PySem.W.findIn K (.ref C) "__init__" = some (some (.ref fI))
  fn : TmF K fI cc cda
  cd : PySem.W.codeIn K (.ref cda) "TooMany.__init__" = true
  tC : PySem.W.typeIn K (.ref fI) = some (.type "function")
  kC : PySem.W.keepIn K (.ref C) = true
  exC : PySem.W.subIn K (.ref C) (.type "BaseException") = some true
  tyC : PySem.W.typeIn K (.ref C) = some (.type "type")
  hdC : PySem.W.hasDictIn K C = true
  isC : PySem.W.isClsIn K C = true
  sf : PySem.W.subIn K (.ref C) (.ref C) = some true
  su : PySem.W.ks_superIn K C C "__init__" = some (some (.builtin "ValueError.__init__"))
  vb : PySem.W.subIn K (.ref C) (.type "ValueError") = some true
  mo : PySem.W.mroIn K C (.ref C) = some true
  th : PySem.W.nsIn K cStatics "thirdparty.any" = some none
  gs : PySem.W.nsIn K mainGlobals "super" = some none
  ht : (P.main.scope.names.lookup ("super" : Str)).isSome = false
  code : TmC P K cda
  cell : TmL K C cc
theorem exm_self {K : PySem.W.Frag} {S : Addr} (h1 : PySem.W.subIn K (.ref S) (.type "BaseException") = some true) (h2 : PySem.W.isClsIn K S = true) (h3 : PySem.W.typeIn K (.ref S) = some (.type "type")) (h4 : PySem.W.subIn K (.ref S) (.ref S) = some true) :
    PySem.W.exmOne K (.ref S) (.ref S) = some true := by
  have e1 : (PySem.W.subIn K (.ref S) (.type "BaseException") == some true) = true := by rw [h1] <;> rfl
  have e2 : ((PySem.W.clsIn K S).isSome && PySem.W.typeIn K (.ref S) == some (.type "type")) = true := by rw [show (PySem.W.clsIn K S).isSome = true from h2, h3] <;> rfl
  show (if (PySem.W.subIn K (.ref S) (.type "BaseException") == some true) = true then (if ((PySem.W.clsIn K S).isSome && PySem.W.typeIn K (.ref S) == some (.type "type")) = true then PySem.W.subIn K (.ref S) (.ref S) else none) else none) = some true
  rw [if_pos e1, if_pos e2]
  exact h4
theorem TmIn.txt {M : Mc} {h : Heap} {C fI cc cda : Addr} (X : M.K.In h) (G : h.Ns mainGlobals M.mg) (D : TmIn M.P M.K C fI cc cda) : Tm.Txt M.P M.K M.mg C fI cc cda where
  gC := PySem.W.mg_of X G D.gC
  cls := let ⟨nm, q, N, S, bs, sn, sub, ab, col, dd, m0, m1, m2, m3, m5, e⟩ := D.xL; ⟨nm, q, N, bs, _, sn, sub, ab, col, dd, m0, m1, m2, m3, m5, e, by show HandSPX.refsVE [.type "ValueError", .type "Exception", .type "BaseException", .type "object"] = true; decide +kernel⟩
  sa := D.sa
  ga := D.ga
  gg := D.gg
  noN := D.noN
  iC := D.iC
  tC := D.tC
  kC := D.kC
  exC := D.exC
  tyC := D.tyC
  hdC := D.hdC
  te := exm_self D.exC D.isC D.tyC D.sf
  su := D.su
  vb := D.vb
  mo := D.mo
  th := D.th
  gs := PySem.W.mg_none_of X G D.gs
  ht := D.ht
  fn := let ⟨oc, od, doc, pm, an, ct, osl, e⟩ := D.fn; ⟨oc, od, doc, pm, an, ct, osl, e, D.cd⟩
  code := D.code
  cell := D.cell
structure AdIn (K : PySem.W.Frag) (C : Addr) : Prop where
  gC : PySem.W.nsIn K mainGlobals "Adder" = some (some (.ref C))
  pg : PySem.W.plainGet K C Str.empty = true
  hd : PySem.W.hasDictIn K C = true
  po : PySem.W.plainOver K C = true
  sa : PySem.W.findIn K (.ref C) "__setattr__" = some (some (.builtin "object.__setattr__"))
  mkk : PySem.W.makesIn K C = true
  kc : PySem.W.keepIn K (.ref C) = true
  no : PySem.W.findIn K (.ref C) "known" = some none
  init : MtIn K C "__init__" "Adder.__init__" sInit
  added : MtIn K C "added" "Adder.added" sAdded
theorem AdIn.ad {M : Mc} {h : Heap} {C : Addr} (X : M.K.In h) (G : h.Ns mainGlobals M.mg) (D : AdIn M.K C) : Ad M C := by
  have hc : Cls M.K C := ⟨D.pg, D.hd, D.po, D.sa⟩
  obtain ⟨f, fd, F, _, m, b⟩ := D.init.df (ps := ["self"]) hc fun _ _ _ _ _ _ us hl => match us, hl with | [_], _ => rfl
  exact ⟨PySem.W.mg_of X G D.gC, hc, D.no, ⟨f, fd, ⟨D.mkk, m.at_, m.fn, D.kc⟩, F, b⟩, D.added.df (ps := ["self", "one", "other", "rounds"]) hc fun _ _ _ _ _ _ us hl => match us, hl with | [_, _, _, _], _ => rfl⟩
structure TopIn (P : Program) (K : PySem.W.Frag) (CT fI cc cda CA : Addr) : Prop where
  tm : TmIn P K CT fI cc cda
  ad : AdIn K CA
  d_isName : DfIn K "is_name" "is_name" sIsName
  d_chkWord : DfIn K "check_word" "check_word" sChkWord
  d_chkRounds : DfIn K "check_rounds" "check_rounds" sChkRounds
  d_chkForm : DfIn K "check_order_formula" "check_order_formula" sChkForm
  d_roundsOf : DfIn K "rounds_of" "rounds_of" sRoundsOf
  d_wTruth : DfIn K "word_truth" "word_truth" sWTruth
  d_withP : DfIn K "with_place" "with_place" sWithP
  d_joined : DfIn K "joined_truth" "joined_truth" sJoined
  d_holdsW : DfIn K "holds_of_word" "holds_of_word" sHoldsW
  d_kindOf : DfIn K "kind_of" "kind_of" sKindOf
  d_known : DfIn K "known_kind" "known_kind" sKnown
  d_less : DfIn K "lessened" "lessened" sLess
  d_sum : DfIn K "kind_sum" "kind_sum" sSum
  d_power : DfIn K "kind_power" "kind_power" sPower
  d_kt : DfIn K "kind_truth" "kind_truth" sKTruth
  d_place : DfIn K "place_of" "place_of" sPlaceOf
  d_freed : DfIn K "freed" "freed" sFreed
  d_choices : DfIn K "choices" "choices" sChoices
  d_holdsK : DfIn K "holds_of_kind" "holds_of_kind" sHoldsK
  d_all : DfIn K "all_together" "all_together" sAll
  d_within : DfIn K "within" "within" sWithin
  d_tel : DfIn K "telling" "telling" sTelling
  d_ps : DfIn K "place_sentence" "place_sentence" sPlaceS
  d_same : DfIn K "same_kind" "same_kind" sSame
  d_cell : DfIn K "_law_cell" "_law_cell" sCell
  d_digits : DfIn K "_law_digits" "_law_digits" sDigits
  d_draw : DfIn K "_law_draw" "_law_draw" sDraw
  d_pick : DfIn K "_law_pick" "_law_pick" sPick
  d_lsame : DfIn K "_law_same" "_law_same" sLSame
  d_two : DfIn K "_law_two" "_law_two" sTwo
  d_sent : DfIn K "_law_sentence" "_law_sentence" sSent
  n_sorted : PySem.W.nsIn K mainGlobals "sorted" = some none
  n_tuple : PySem.W.nsIn K mainGlobals "tuple" = some none
  n_isinstance : PySem.W.nsIn K mainGlobals "isinstance" = some none
  n_str : PySem.W.nsIn K mainGlobals "str" = some none
  n_len : PySem.W.nsIn K mainGlobals "len" = some none
  n_all : PySem.W.nsIn K mainGlobals "all" = some none
  n_any : PySem.W.nsIn K mainGlobals "any" = some none
  n_max : PySem.W.nsIn K mainGlobals "max" = some none
  n_int : PySem.W.nsIn K mainGlobals "int" = some none
  n_dict : PySem.W.nsIn K mainGlobals "dict" = some none
  n_range : PySem.W.nsIn K mainGlobals "range" = some none
  n_enumerate : PySem.W.nsIn K mainGlobals "enumerate" = some none
  n_repr : PySem.W.nsIn K mainGlobals "repr" = some none
  n_super : PySem.W.nsIn K mainGlobals "super" = some none
  turns : TupIn K "TURNS" ["every", "some"]
  words : TupIn K "WORDS" ["true", "false", "not", "and", "or", "implies", "every", "some", "by"]
  small : TxtIn K "SMALL" "abcdefghijklmnopqrstuvwxyz"
  figures : TxtIn K "FIGURES" "0123456789"
  roundsMost : IntIn K "ROUNDS_MOST" 4
  long : IntIn K "LONG" 12
  kindsMost : IntIn K "KINDS_MOST" 20000
theorem TopIn.lw {M : Mc} {h : Heap} {CT fI cc cda CA : Addr} (X : M.K.In h) (G : h.Ns mainGlobals M.mg) (D : TopIn M.P M.K CT fI cc cda CA) : Lw M CT fI cc cda CA := by
  have d_isName : Df M "is_name" "is_name" sIsName ["text"] := D.d_isName.df X G fun _ _ _ _ _ _ us hl => match us, hl with | [_], _ => rfl
  have d_chkWord : Df M "check_word" "check_word" sChkWord ["word"] := D.d_chkWord.df X G fun _ _ _ _ _ _ us hl => match us, hl with | [_], _ => rfl
  have d_chkRounds : Df M "check_rounds" "check_rounds" sChkRounds ["rounds"] := D.d_chkRounds.df X G fun _ _ _ _ _ _ us hl => match us, hl with | [_], _ => rfl
  have d_chkForm : Df M "check_order_formula" "check_order_formula" sChkForm ["formula", "known"] := D.d_chkForm.df X G fun _ _ _ _ _ _ us hl => match us, hl with | [_, _], _ => rfl
  have d_roundsOf : Df M "rounds_of" "rounds_of" sRoundsOf ["formula"] := D.d_roundsOf.df X G fun _ _ _ _ _ _ us hl => match us, hl with | [_], _ => rfl
  have d_wTruth : Df M "word_truth" "word_truth" sWTruth ["word", "formula", "places"] := D.d_wTruth.df X G fun _ _ _ _ _ _ us hl => match us, hl with | [_, _, _], _ => rfl
  have d_withP : Df M "with_place" "with_place" sWithP ["places", "name", "place"] := D.d_withP.df X G fun _ _ _ _ _ _ us hl => match us, hl with | [_, _, _], _ => rfl
  have d_joined : Df M "joined_truth" "joined_truth" sJoined ["word", "truths"] := D.d_joined.df X G fun _ _ _ _ _ _ us hl => match us, hl with | [_, _], _ => rfl
  have d_holdsW : Df M "holds_of_word" "holds_of_word" sHoldsW ["word", "formula"] := D.d_holdsW.df X G fun _ _ _ _ _ _ us hl => match us, hl with | [_, _], _ => rfl
  have d_kindOf : Df M "kind_of" "kind_of" sKindOf ["word", "rounds"] := D.d_kindOf.df X G fun _ _ _ _ _ _ us hl => match us, hl with | [_, _], _ => rfl
  have d_known : Df M "known_kind" "known_kind" sKnown ["word", "rounds", "known"] := D.d_known.df X G fun _ _ _ _ _ _ us hl => match us, hl with | [_, _, _], _ => rfl
  have d_less : Df M "lessened" "lessened" sLess ["kind", "rounds"] := D.d_less.df X G fun _ _ _ _ _ _ us hl => match us, hl with | [_, _], _ => rfl
  have d_sum : Df M "kind_sum" "kind_sum" sSum ["one", "other", "rounds"] := D.d_sum.df X G fun _ _ _ _ _ _ us hl => match us, hl with | [_, _, _], _ => rfl
  have d_power : Df M "kind_power" "kind_power" sPower ["kind", "rounds", "times"] := D.d_power.df X G fun _ _ _ _ _ _ us hl => match us, hl with | [_, _, _], _ => rfl
  have d_kt : Df M "kind_truth" "kind_truth" sKTruth ["formula", "rounds", "pieces", "points"] := D.d_kt.df X G fun _ _ _ _ _ _ us hl => match us, hl with | [_, _, _, _], _ => rfl
  have d_place : Df M "place_of" "place_of" sPlaceOf ["points", "name"] := D.d_place.df X G fun _ _ _ _ _ _ us hl => match us, hl with | [_, _], _ => rfl
  have d_freed : Df M "freed" "freed" sFreed ["points", "name"] := D.d_freed.df X G fun _ _ _ _ _ _ us hl => match us, hl with | [_, _], _ => rfl
  have d_choices : Df M "choices" "choices" sChoices ["name", "rounds", "pieces", "points"] := D.d_choices.df X G fun _ _ _ _ _ _ us hl => match us, hl with | [_, _, _, _], _ => rfl
  have d_holdsK : Df M "holds_of_kind" "holds_of_kind" sHoldsK ["kind", "rounds", "formula"] := D.d_holdsK.df X G fun _ _ _ _ _ _ us hl => match us, hl with | [_, _, _], _ => rfl
  have d_all : Df M "all_together" "all_together" sAll ["formulas"] := D.d_all.df X G fun _ _ _ _ _ _ us hl => match us, hl with | [_], _ => rfl
  have d_within : Df M "within" "within" sWithin ["side", "name", "formula"] := D.d_within.df X G fun _ _ _ _ _ _ us hl => match us, hl with | [_, _, _], _ => rfl
  have d_tel : Df M "telling" "telling" sTelling ["one", "other", "rounds"] := D.d_tel.df X G fun _ _ _ _ _ _ us hl => match us, hl with | [_, _, _], _ => rfl
  have d_ps : Df M "place_sentence" "place_sentence" sPlaceS ["row", "other", "rounds", "name"] := D.d_ps.df X G fun _ _ _ _ _ _ us hl => match us, hl with | [_, _, _, _], _ => rfl
  have d_same : Df M "same_kind" "same_kind" sSame ["word", "other", "rounds"] := D.d_same.df X G fun _ _ _ _ _ _ us hl => match us, hl with | [_, _, _], _ => rfl
  have d_cell : Df M "_law_cell" "_law_cell" sCell ["script", "k"] := D.d_cell.df X G fun _ _ _ _ _ _ us hl => match us, hl with | [_, _], _ => rfl
  have d_digits : Df M "_law_digits" "_law_digits" sDigits ["script", "first", "last"] := D.d_digits.df X G fun _ _ _ _ _ _ us hl => match us, hl with | [_, _, _], _ => rfl
  have d_draw : Df M "_law_draw" "_law_draw" sDraw ["box", "m"] := D.d_draw.df X G fun _ _ _ _ _ _ us hl => match us, hl with | [_, _], _ => rfl
  have d_pick : Df M "_law_pick" "_law_pick" sPick ["box", "rows"] := D.d_pick.df X G fun _ _ _ _ _ _ us hl => match us, hl with | [_, _], _ => rfl
  have d_lsame : Df M "_law_same" "_law_same" sLSame ["one", "other"] := D.d_lsame.df X G fun _ _ _ _ _ _ us hl => match us, hl with | [_, _], _ => rfl
  have d_two : Df M "_law_two" "_law_two" sTwo ["many"] := D.d_two.df X G fun _ _ _ _ _ _ us hl => match us, hl with | [_], _ => rfl
  have d_sent : Df M "_law_sentence" "_law_sentence" sSent ["box", "colours"] := D.d_sent.df X G fun _ _ _ _ _ _ us hl => match us, hl with | [_, _], _ => rfl
  have t : Tx M := { «sorted» := PySem.W.mg_none_of X G D.n_sorted, «tuple» := PySem.W.mg_none_of X G D.n_tuple, «isinstance» := PySem.W.mg_none_of X G D.n_isinstance, «str» := PySem.W.mg_none_of X G D.n_str, «len» := PySem.W.mg_none_of X G D.n_len, «all» := PySem.W.mg_none_of X G D.n_all, «any» := PySem.W.mg_none_of X G D.n_any, «max» := PySem.W.mg_none_of X G D.n_max, «int» := PySem.W.mg_none_of X G D.n_int, «dict» := PySem.W.mg_none_of X G D.n_dict, «range» := PySem.W.mg_none_of X G D.n_range, «enumerate» := PySem.W.mg_none_of X G D.n_enumerate, «repr» := PySem.W.mg_none_of X G D.n_repr, super := PySem.W.mg_none_of X G D.n_super, turns := D.turns.cst X G (by rw [sizeLine_eq]; decide), words := D.words.cst X G (by rw [sizeLine_eq]; decide), small := D.small.cst X G, figures := D.figures.cst X G, roundsMost := D.roundsMost.cst X G, long := D.long.cst X G, kindsMost := D.kindsMost.cst X G }
  exact ⟨t, ⟨d_kt, d_place, d_joined, d_choices, d_less, d_freed⟩, ⟨d_tel, d_ps, d_all, d_within⟩, D.ad.ad X G, D.tm.txt X G, d_isName, d_chkWord, d_chkRounds, d_chkForm, d_roundsOf, d_wTruth, d_withP, d_holdsW, d_kindOf, d_known, d_sum, d_power, d_holdsK, d_same, d_cell, d_digits, d_draw, d_pick, d_lsame, d_two, d_sent⟩
theorem law_top {P : Program} {w : World} {K : PySem.W.Frag} {h : Heap} {mg : Str → Option Value} {fa : Addr} (X : K.In h) (G : h.Ns mainGlobals mg) (hfa : mg "law" = some (.ref fa)) {CT fI cc cda CA : Addr} (D : TopIn P K CT fI cc cda CA) (DL_ : DfIn K "law" "law" sLaw) :
    ∃ fd : FuncData, (∀ (s : Shared) (u : Value), BindsTo s fd ⟨[u], []⟩ [("script", u)]) ∧ ∀ base : Heap, K.In base → base.Ns mainGlobals mg → Fg true ⟨P, w, K, mg, base⟩ CX0 91 fa fd ["script"] (spL P w K) := by
  obtain ⟨f, oc, kV, dc, pm, cd, ct, od, an, sl, a, l, c, k⟩ := DL_
  have e := hfa.symm.trans (PySem.W.mg_of X G a)
  cases e
  refine ⟨PySem.W.fnOf "law" "law" (defArgs sLaw) (defBody sLaw) (defScope sLaw) .none kV dc pm an cd ct, fun s u => .of_eq rfl, fun base hb hg => ?_⟩
  exact fg_law (M := ⟨P, w, K, mg, base⟩) (TopIn.lw (M := ⟨P, w, K, mg, base⟩) X G D) (fun_mk (st := sLaw) l c k)
end DL
open PySem PySem.W PyProof.Rows in
set_option maxRecDepth 100000 in
set_option maxHeartbeats 0 in
theorem PySem.Challenge.cw_allorsome_k29_kinds_of_powers_holds : PySem.Challenge.rw_allorsome_k29_kinds_of_powers.Holds := by
  w_on; o_law; k_head; (case hw => w_witness2)
  k_fill
  refine DL.walkG (l := PySem.Challenge.rw_allorsome_k29_kinds_of_powers) rfl rfl (fun w h Y => PySem.W.kIn_of Y) ?F
  case F =>
    intro w mg fa h KX G hmg
    refine' DL.law_top KX G hmg ?D ?DL_
    case DL_ =>
      refine' DL.DfIn.mk ?a ?l ?c ?k
      (case a => k_is); (case l => k_is); (case c => k_is); (case k => k_is)
    case D =>
      refine' ⟨?tm, ?ad, ?d_isName, ?d_chkWord, ?d_chkRounds, ?d_chkForm, ?d_roundsOf, ?d_wTruth, ?d_withP, ?d_joined, ?d_holdsW, ?d_kindOf, ?d_known, ?d_less, ?d_sum, ?d_power, ?d_kt, ?d_place, ?d_freed, ?d_choices, ?d_holdsK, ?d_all, ?d_within, ?d_tel, ?d_ps, ?d_same, ?d_cell, ?d_digits, ?d_draw, ?d_pick, ?d_lsame, ?d_two, ?d_sent, ?n_sorted, ?n_tuple, ?n_isinstance, ?n_str, ?n_len, ?n_all, ?n_any, ?n_max, ?n_int, ?n_dict, ?n_range, ?n_enumerate, ?n_repr, ?n_super, ?turns, ?words, ?small, ?figures, ?roundsMost, ?long, ?kindsMost⟩
      case tm =>
        refine' ⟨?gC, ?xL, ?sa, ?ga, ?gg, ?noN, ?iC, ?fn, ?cd, ?tC, ?kC, ?exC, ?tyC, ?hdC, ?isC, ?sf, ?su, ?vb, ?mo, ?th, ?gs, ?ht, ?code, ?cell⟩
        (case gC => k_is)
        (case xL => refine' DL.TmX.mk ?e; (case e => k_is))
        (case sa => k_is)
        (case ga => k_is)
        (case gg => k_is)
        (case noN => k_is)
        (case iC => k_is)
        (case fn => refine' DL.TmF.mk ?e; (case e => k_is))
        (case cd => k_is)
        (case tC => k_is)
        (case kC => k_is)
        (case exC => k_is)
        (case tyC => k_is)
        (case hdC => k_is)
        (case isC => k_is)
        (case sf => first | rfl | k_is)
        (case su => ks_is)
        (case vb => k_is)
        (case mo => k_is)
        (case th => k_is)
        (case gs => k_is)
        (case ht => decide +kernel)
        (case code => refine' DL.TmC.mk ?e ?e2 ?e3; (case e => k_is); (case e2 => rfl); (case e3 => decide +kernel))
        (case cell => refine' DL.TmL.mk ?e; (case e => k_is))
      case ad =>
        refine' ⟨?gC, ?pg, ?hd, ?po, ?sa, ?mkk, ?kc, ?no, ?init, ?added⟩
        (case gC => k_is)
        (case pg => k_is)
        (case hd => k_is)
        (case po => k_is)
        (case sa => k_is)
        (case mkk => k_is)
        (case kc => k_is)
        (case no => k_is)
        (case init => refine' DL.MtIn.mk ?a ?i ?l ?c ?k; (case a => k_is); (case i => k_is); (case l => k_is); (case c => k_is); (case k => k_is))
        (case added => refine' DL.MtIn.mk ?a ?i ?l ?c ?k; (case a => k_is); (case i => k_is); (case l => k_is); (case c => k_is); (case k => k_is))
      (case d_isName => refine' DL.DfIn.mk ?a ?l ?c ?k; (case a => k_is); (case l => k_is); (case c => k_is); (case k => k_is))
      (case d_chkWord => refine' DL.DfIn.mk ?a ?l ?c ?k; (case a => k_is); (case l => k_is); (case c => k_is); (case k => k_is))
      (case d_chkRounds => refine' DL.DfIn.mk ?a ?l ?c ?k; (case a => k_is); (case l => k_is); (case c => k_is); (case k => k_is))
      (case d_chkForm => refine' DL.DfIn.mk ?a ?l ?c ?k; (case a => k_is); (case l => k_is); (case c => k_is); (case k => k_is))
      (case d_roundsOf => refine' DL.DfIn.mk ?a ?l ?c ?k; (case a => k_is); (case l => k_is); (case c => k_is); (case k => k_is))
      (case d_wTruth => refine' DL.DfIn.mk ?a ?l ?c ?k; (case a => k_is); (case l => k_is); (case c => k_is); (case k => k_is))
      (case d_withP => refine' DL.DfIn.mk ?a ?l ?c ?k; (case a => k_is); (case l => k_is); (case c => k_is); (case k => k_is))
      (case d_joined => refine' DL.DfIn.mk ?a ?l ?c ?k; (case a => k_is); (case l => k_is); (case c => k_is); (case k => k_is))
      (case d_holdsW => refine' DL.DfIn.mk ?a ?l ?c ?k; (case a => k_is); (case l => k_is); (case c => k_is); (case k => k_is))
      (case d_kindOf => refine' DL.DfIn.mk ?a ?l ?c ?k; (case a => k_is); (case l => k_is); (case c => k_is); (case k => k_is))
      (case d_known => refine' DL.DfIn.mk ?a ?l ?c ?k; (case a => k_is); (case l => k_is); (case c => k_is); (case k => k_is))
      (case d_less => refine' DL.DfIn.mk ?a ?l ?c ?k; (case a => k_is); (case l => k_is); (case c => k_is); (case k => k_is))
      (case d_sum => refine' DL.DfIn.mk ?a ?l ?c ?k; (case a => k_is); (case l => k_is); (case c => k_is); (case k => k_is))
      (case d_power => refine' DL.DfIn.mk ?a ?l ?c ?k; (case a => k_is); (case l => k_is); (case c => k_is); (case k => k_is))
      (case d_kt => refine' DL.DfIn.mk ?a ?l ?c ?k; (case a => k_is); (case l => k_is); (case c => k_is); (case k => k_is))
      (case d_place => refine' DL.DfIn.mk ?a ?l ?c ?k; (case a => k_is); (case l => k_is); (case c => k_is); (case k => k_is))
      (case d_freed => refine' DL.DfIn.mk ?a ?l ?c ?k; (case a => k_is); (case l => k_is); (case c => k_is); (case k => k_is))
      (case d_choices => refine' DL.DfIn.mk ?a ?l ?c ?k; (case a => k_is); (case l => k_is); (case c => k_is); (case k => k_is))
      (case d_holdsK => refine' DL.DfIn.mk ?a ?l ?c ?k; (case a => k_is); (case l => k_is); (case c => k_is); (case k => k_is))
      (case d_all => refine' DL.DfIn.mk ?a ?l ?c ?k; (case a => k_is); (case l => k_is); (case c => k_is); (case k => k_is))
      (case d_within => refine' DL.DfIn.mk ?a ?l ?c ?k; (case a => k_is); (case l => k_is); (case c => k_is); (case k => k_is))
      (case d_tel => refine' DL.DfIn.mk ?a ?l ?c ?k; (case a => k_is); (case l => k_is); (case c => k_is); (case k => k_is))
      (case d_ps => refine' DL.DfIn.mk ?a ?l ?c ?k; (case a => k_is); (case l => k_is); (case c => k_is); (case k => k_is))
      (case d_same => refine' DL.DfIn.mk ?a ?l ?c ?k; (case a => k_is); (case l => k_is); (case c => k_is); (case k => k_is))
      (case d_cell => refine' DL.DfIn.mk ?a ?l ?c ?k; (case a => k_is); (case l => k_is); (case c => k_is); (case k => k_is))
      (case d_digits => refine' DL.DfIn.mk ?a ?l ?c ?k; (case a => k_is); (case l => k_is); (case c => k_is); (case k => k_is))
      (case d_draw => refine' DL.DfIn.mk ?a ?l ?c ?k; (case a => k_is); (case l => k_is); (case c => k_is); (case k => k_is))
      (case d_pick => refine' DL.DfIn.mk ?a ?l ?c ?k; (case a => k_is); (case l => k_is); (case c => k_is); (case k => k_is))
      (case d_lsame => refine' DL.DfIn.mk ?a ?l ?c ?k; (case a => k_is); (case l => k_is); (case c => k_is); (case k => k_is))
      (case d_two => refine' DL.DfIn.mk ?a ?l ?c ?k; (case a => k_is); (case l => k_is); (case c => k_is); (case k => k_is))
      (case d_sent => refine' DL.DfIn.mk ?a ?l ?c ?k; (case a => k_is); (case l => k_is); (case c => k_is); (case k => k_is))
      (case n_sorted => k_is)
      (case n_tuple => k_is)
      (case n_isinstance => k_is)
      (case n_str => k_is)
      (case n_len => k_is)
      (case n_all => k_is)
      (case n_any => k_is)
      (case n_max => k_is)
      (case n_int => k_is)
      (case n_dict => k_is)
      (case n_range => k_is)
      (case n_enumerate => k_is)
      (case n_repr => k_is)
      (case n_super => k_is)
      (case turns => refine' DL.TupIn.mk ?a ?l ?s; (case a => k_is); (case l => k_is); (case s => rfl))
      (case words => refine' DL.TupIn.mk ?a ?l ?s; (case a => k_is); (case l => k_is); (case s => rfl))
      (case small => refine' DL.TxtIn.mk ?a; (case a => k_is))
      (case figures => refine' DL.TxtIn.mk ?a; (case a => k_is))
      (case roundsMost => refine' DL.IntIn.mk ?a; (case a => k_is))
      (case long => refine' DL.IntIn.mk ?a; (case a => k_is))
      (case kindsMost => refine' DL.IntIn.mk ?a; (case a => k_is))
#print axioms PySem.Challenge.cw_allorsome_k29_kinds_of_powers_holds
