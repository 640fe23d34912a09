import PyProof.Rows.All
import Wide.All
import OpenK.AllK
import Wide.FinOn
import HandS.ForMost
import HandS.IsInst
import HandS.More
import HandS.TupAny
import HandS.DictComp
import HandS.Walk
import HandS.Property
import HandS.MakeKwOnly
import HandS.Defaults
import HandS.Text
import HandS.OwnEq
import HandS.CallSlots
import HandS.DictEq
import HandS.Finally
import HandS.HotCalls
import HandS.ExcField
import HandS.ExcInit
import HandS.ExcInitHot
import PySem.Challenge.RW_onwardasks_k01_kind_told
import HandS.Head0
import HandS.Head1
import HandS.Head2
import HandS.HeadEnd
import HandS.HeadHook1
import HandS.HeadHook2
set_option Elab.async false
set_option linter.all false
set_option maxRecDepth 100000
set_option maxHeartbeats 0
section
/-! Data trees, and what it means that a value stands for a tree in an abstract heap. -/
namespace Tr
open PySem PySem.Spec L2

inductive D where
  | non | bl (b : Bool) | int (i : Int) | str (x : Str)
  | lst (xs : List D) | tup (xs : List D) | dct (kvs : List (Key × D))
  | ins (C : Addr) (fs : List (Str × D)) | st | ty (n : String) | adr (a : Addr)

abbrev Zo := Option (Addr × Addr)
def vol : Zo → Addr → Prop
  | none, _ => False
  | some q, a => a = q.1 ∨ a = q.2

/-- a heap in which what is locked is seen as what it is -/
def nz (H : Hp) : Hp := fun b => match H b with
  | some (.frz _ (.dK k)) => some (.dK k)
  | some (.frz _ (.lst x)) => some (.lst x)
  | o => o

def isT : HO → Bool
  | .tup _ => true
  | _ => false

/-- all that is not in A stays; tuples stay anyway -/
structure Fr (A : Addr → Prop) (H H' : Hp) : Prop where
  kp : ∀ b o, H b = some o → (A b → isT o = true) → H' b = some o
  nl : ∀ b x y, H' b = some (.frz x y) → H b = some (.frz x y)
instance {A : Addr → Prop} {H H' : Hp} : CoeFun (Fr A H H') (fun _ => ∀ b o, H b = some o → (A b → isT o = true) → H' b = some o) := ⟨Fr.kp⟩
def isFz : HO → Bool
  | .frz _ _ => true
  | _ => false

def KTup (K : PySem.W.Frag) (a : Addr) (xs : List V) : Prop :=
  ∃ (o : Obj) (its : Array Value) (n : Nat), K.lookup a = some o ∧ o.cls = .type "tuple" ∧ o.data = .seq its n ∧ its.size ≤ sizeLine ∧ Vals xs its.toList

mutual
def Rep (K : PySem.W.Frag) (z : Zo) (A : Addr → Prop) (H : Hp) : D → V → Prop
  | .non, v => v = .non
  | .bl b, v => v = .bl b
  | .int i, v => v = .int i
  | .str x, v => v = .str x
  | .ty n, v => v = .ty n
  | .adr a, v => v = .ref a
  | .st, v => ∃ q, z = some q ∧ v = .ref q.1
  | .lst ds, v => ∃ a vs, v = .ref a ∧ ¬ A a ∧ nz H a = some (.lst vs) ∧ RepL K z A H ds vs
  | .tup ds, v => ∃ a vs, v = .ref a ∧ (nz H a = some (.tup vs) ∨ KTup K a vs) ∧ RepL K z A H ds vs
  | .dct kvs, v => ∃ a ws, v = .ref a ∧ ¬ A a ∧ nz H a = some (.dK ws) ∧ RepK K z A H kvs ws
  | .ins C fs, v => ∃ a dx ws, v = .ref a ∧ ¬ A a ∧ nz H a = some (.ins C dx ws) ∧ RepF K z A H fs ws
def RepL (K : PySem.W.Frag) (z : Zo) (A : Addr → Prop) (H : Hp) : List D → List V → Prop
  | [], vs => vs = []
  | d :: ds, vs => ∃ u us, vs = u :: us ∧ Rep K z A H d u ∧ RepL K z A H ds us
def RepK (K : PySem.W.Frag) (z : Zo) (A : Addr → Prop) (H : Hp) : List (Key × D) → List (Key × V) → Prop
  | [], vs => vs = []
  | (k, d) :: ds, vs => ∃ u us, vs = (k, u) :: us ∧ Rep K z A H d u ∧ RepK K z A H ds us
def RepF (K : PySem.W.Frag) (z : Zo) (A : Addr → Prop) (H : Hp) : List (Str × D) → List (Str × V) → Prop
  | [], vs => vs = []
  | (k, d) :: ds, vs => ∃ u us, vs = (k, u) :: us ∧ Rep K z A H d u ∧ RepF K z A H ds us
end

section
variable {K : PySem.W.Frag} {z z' : Zo} {A A' : Addr → Prop} {H H' : Hp}

/-- how one heap's objects come over to another -/
def Ov (A A' : Addr → Prop) (H H' : Hp) : Prop := (∀ b o, nz H b = some o → isT o = true → nz H' b = some o) ∧ ∀ b o, ¬ A b → nz H b = some o → ¬ A' b ∧ nz H' b = some o

mutual
theorem Rep.ov (h : Ov A A' H H') : ∀ {d : D} {v : V}, Rep K z A H d v → Rep K z A' H' d v
  | .non, v, r => by simpa only [Rep] using r
  | .bl b, v, r => by simpa only [Rep] using r
  | .int i, v, r => by simpa only [Rep] using r
  | .str x, v, r => by simpa only [Rep] using r
  | .ty n, v, r => by simpa only [Rep] using r
  | .adr n, v, r => by simpa only [Rep] using r
  | .st, v, r => by simpa only [Rep] using r
  | .lst ds, v, r => by
    simp only [Rep] at r ⊢
    obtain ⟨a, vs, e, na, ha, q⟩ := r
    obtain ⟨n1, n2⟩ := h.2 a _ na ha
    exact ⟨a, vs, e, n1, n2, RepL.ov h q⟩
  | .tup ds, v, r => by
    simp only [Rep] at r ⊢
    obtain ⟨a, vs, e, ha, q⟩ := r
    exact ⟨a, vs, e, ha.imp (fun x => h.1 a _ x rfl) id, RepL.ov h q⟩
  | .dct kvs, v, r => by
    simp only [Rep] at r ⊢
    obtain ⟨a, ws, e, na, ha, q⟩ := r
    obtain ⟨n1, n2⟩ := h.2 a _ na ha
    exact ⟨a, ws, e, n1, n2, RepK.ov h q⟩
  | .ins C fs, v, r => by
    simp only [Rep] at r ⊢
    obtain ⟨a, dx, ws, e, na, ha, q⟩ := r
    obtain ⟨n1, n2⟩ := h.2 a _ na ha
    exact ⟨a, dx, ws, e, n1, n2, RepF.ov h q⟩
theorem RepL.ov (h : Ov A A' H H') : ∀ {ds : List D} {vs : List V}, RepL K z A H ds vs → RepL K z A' H' ds vs
  | [], vs, r => by simpa only [RepL] using r
  | d :: ds, vs, r => by
    simp only [RepL] at r ⊢
    obtain ⟨u, us, e, r1, r2⟩ := r
    exact ⟨u, us, e, Rep.ov h r1, RepL.ov h r2⟩
theorem RepK.ov (h : Ov A A' H H') : ∀ {ds : List (Key × D)} {vs : List (Key × V)}, RepK K z A H ds vs → RepK K z A' H' ds vs
  | [], vs, r => by simpa only [RepK] using r
  | (k, d) :: ds, vs, r => by
    simp only [RepK] at r ⊢
    obtain ⟨u, us, e, r1, r2⟩ := r
    exact ⟨u, us, e, Rep.ov h r1, RepK.ov h r2⟩
theorem RepF.ov (h : Ov A A' H H') : ∀ {ds : List (Str × D)} {vs : List (Str × V)}, RepF K z A H ds vs → RepF K z A' H' ds vs
  | [], vs, r => by simpa only [RepF] using r
  | (k, d) :: ds, vs, r => by
    simp only [RepF] at r ⊢
    obtain ⟨u, us, e, r1, r2⟩ := r
    exact ⟨u, us, e, Rep.ov h r1, RepF.ov h r2⟩
end

/-! ### what is never changed: scalars and tuples of such -/
mutual
def imm : D → Bool
  | .lst _ => false
  | .dct _ => false
  | .ins _ _ => false
  | .st => false
  | .tup ds => immL ds
  | _ => true
def immL : List D → Bool
  | [] => true
  | d :: ds => imm d && immL ds
end
mutual
theorem Rep.imm (h : ∀ b o, nz H b = some o → isT o = true → nz H' b = some o) : ∀ {d : D} {v : V}, imm d = true → Rep K z A H d v → Rep K z' A' H' d v
  | .non, v, _, r => by simpa only [Rep] using r
  | .bl b, v, _, r => by simpa only [Rep] using r
  | .int i, v, _, r => by simpa only [Rep] using r
  | .str x, v, _, r => by simpa only [Rep] using r
  | .ty n, v, _, r => by simpa only [Rep] using r
  | .adr n, v, _, r => by simpa only [Rep] using r
  | .st, v, i, r => by simp [Tr.imm] at i
  | .lst ds, v, i, r => by simp [Tr.imm] at i
  | .dct ds, v, i, r => by simp [Tr.imm] at i
  | .ins C ds, v, i, r => by simp [Tr.imm] at i
  | .tup ds, v, i, r => by
    simp only [Rep] at r ⊢
    simp only [Tr.imm] at i
    obtain ⟨a, vs, e, ha, q⟩ := r
    exact ⟨a, vs, e, ha.imp (fun x => h a _ x rfl) id, RepL.imm h i q⟩
theorem RepL.imm (h : ∀ b o, nz H b = some o → isT o = true → nz H' b = some o) : ∀ {ds : List D} {vs : List V}, immL ds = true → RepL K z A H ds vs → RepL K z' A' H' ds vs
  | [], vs, _, r => by simpa only [RepL] using r
  | d :: ds, vs, i, r => by
    simp only [RepL] at r ⊢
    simp only [immL, Bool.and_eq_true] at i
    obtain ⟨u, us, e, r1, r2⟩ := r
    exact ⟨u, us, e, Rep.imm h i.1 r1, RepL.imm h i.2 r2⟩
end
end
end Tr
end
section
namespace Tr
open PySem PySem.Spec L2

/-! ### heaps -/
section
variable {A A1 A2 : Addr → Prop} {H H1 H2 : Hp} {p b : Addr} {o : HO}
theorem nz_of (h : H b = some o) (hf : ∀ x y, o ≠ .frz x y) : nz H b = some o := by
  unfold nz
  rw [h]
  cases o <;> first | rfl | exact absurd rfl (hf _ _)
theorem nz_lst {vs : List V} (h : H b = some (.lst vs)) : nz H b = some (.lst vs) := nz_of h (fun _ _ q => nomatch q)
theorem nz_tup {vs : List V} (h : H b = some (.tup vs)) : nz H b = some (.tup vs) := nz_of h (fun _ _ q => nomatch q)
theorem nz_dK {vs : List (Key × V)} (h : H b = some (.dK vs)) : nz H b = some (.dK vs) := nz_of h (fun _ _ q => nomatch q)
theorem nz_ins {C dx : Addr} {fs : List (Str × V)} (h : H b = some (.ins C dx fs)) : nz H b = some (.ins C dx fs) := nz_of h (fun _ _ q => nomatch q)
theorem nz_none (h : nz H b = none) : H b = none := by
  unfold nz at h
  split at h <;> first | cases h | assumption
theorem nz_none' (h : H b = none) : nz H b = none := by unfold nz; rw [h]
theorem nz_cases {o : HO} (h : nz H b = some o) : H b = some o ∨ ∃ x, H b = some (.frz x o) := by
  unfold nz at h
  split at h
  · rename_i x k q; cases h; exact .inr ⟨x, q⟩
  · rename_i x k q; cases h; exact .inr ⟨x, q⟩
  · exact .inl h
theorem rd_dK {vs : List (Key × V)} (h : nz H b = some (.dK vs)) : Rd H b (.dK vs) := nz_cases h
theorem rd_lst {vs : List V} (h : nz H b = some (.lst vs)) : Rd H b (.lst vs) := nz_cases h
theorem raw_tup {vs : List V} (h : nz H b = some (.tup vs)) : H b = some (.tup vs) := by
  unfold nz at h
  split at h
  · cases h
  · cases h
  · exact h
theorem raw_ins {C dx : Addr} {fs : List (Str × V)} (h : nz H b = some (.ins C dx fs)) : H b = some (.ins C dx fs) := by
  unfold nz at h
  split at h
  · cases h
  · cases h
  · exact h
theorem Fr.refl : Fr A H H := ⟨fun _ _ h _ => h, fun _ _ _ h => h⟩
theorem Fr.trans (a : Fr A H H1) (b : Fr A H1 H2) : Fr A H H2 := ⟨fun c o h k => b c o (a c o h k) k, fun c x y h => a.nl c x y (b.nl c x y h)⟩
theorem Fr.mono (a : Fr A H H1) (h : ∀ b, A b → A1 b) : Fr A1 H H1 := ⟨fun c o e k => a c o e (fun z => k (h c z)), a.nl⟩
theorem nl_upd (hf : isFz o = false) : ∀ b x y, upd H p o b = some (.frz x y) → H b = some (.frz x y) := fun b x y e => by
  by_cases z : b = p
  · subst z
    rw [upd_same] at e
    cases e
    cases hf
  · rw [upd_ne z] at e
    exact e
theorem Fr.laid (h : H p = none) (hf : isFz o = false := by rfl) : Fr A H (upd H p o) := ⟨fun c o' e _ => by rw [upd_ne (ne_of_none e h)]; exact e, nl_upd hf⟩
theorem Fr.nz1 (a : Fr A H H1) : ∀ b o, nz H b = some o → isT o = true → nz H1 b = some o := fun b o h t => by
  cases o <;> first | cases t | skip
  exact nz_tup (a b _ (raw_tup h) fun _ => rfl)
theorem Fr.nz2 (a : Fr A H H1) (n : ¬ A b) (h : nz H b = some o) : nz H1 b = some o := by
  have e : H1 b = H b := by
    rcases nz_cases h with q | ⟨x, q⟩
    · rw [q]; exact a b _ q fun z => absurd z n
    · rw [q]; exact a b _ q fun z => absurd z n
  unfold nz at h ⊢
  rw [e]; exact h
theorem Fr.ov (a : Fr A H H1) (h : ∀ b, A b → A1 b) : Ov A1 A1 H H1 := ⟨a.nz1, fun b o n e => ⟨n, a.nz2 (fun z => n (h b z)) e⟩⟩
theorem Fr.free (a : Fr A H H1) (h : H1 p = none) (n : ¬ A p) : H p = none := by
  cases q : H p with
  | none => rfl
  | some o => rw [a p o q fun z => absurd z n] at h; cases h
/-- a fresh place may be avoided too -/
theorem Ov.more (h : nz H p = none) : Ov A (fun b => A b ∨ b = p) H H := by
  refine ⟨fun _ _ e _ => e, fun b o n e => ⟨fun z => ?_, e⟩⟩
  rcases z with z | z
  · exact n z
  · rw [z, h] at e; cases e
theorem Ov.less (h : ∀ b, A1 b → A b) : Ov A A1 H H := ⟨fun _ _ e _ => e, fun b o n e => ⟨fun z => n (h b z), e⟩⟩
theorem Ov.trans {A3 : Addr → Prop} (a : Ov A A1 H H1) (b : Ov A1 A3 H1 H2) : Ov A A3 H H2 := ⟨fun c o e t => b.1 c o (a.1 c o e t) t, fun c o n e => by
  obtain ⟨n1, e1⟩ := a.2 c o n e
  exact b.2 c o n1 e1⟩
/-- a store to what is avoided -/
theorem Ov.store (hp : A p) (ht : ∀ xs, nz H p ≠ some (.tup xs)) : Ov A A H (upd H p o) := by
  have e : ∀ b, b ≠ p → nz (upd H p o) b = nz H b := fun b nb => by unfold nz; rw [upd_ne nb]
  refine ⟨fun b o' h t => ?_, fun b o' n h => ⟨n, ?_⟩⟩
  · have nb : b ≠ p := fun z => by
      subst z
      cases o' <;> first | cases t | skip
      exact ht _ h
    rw [e b nb]; exact h
  · have nb : b ≠ p := fun z => by subst z; exact n hp
    rw [e b nb]; exact h
theorem nz_upd_ne (h : b ≠ p) : nz (upd H p o) b = nz H b := by unfold nz; rw [upd_ne h]
end

/-! ### the draws' state -/
def StOk : Zo → Hp → Prop
  | none, _ => True
  | some q, H => q.1 ≠ q.2 ∧ ∃ (cells : List Int) (i c : Int), H q.1 = some (.lst [.ref q.2, .int i, .int c]) ∧ H q.2 = some (.lst (cells.map V.int)) ∧ cells ≠ []
theorem StOk.tr {z : Zo} {H : Hp} {a : Addr} (h : StOk z H) (v : vol z a) : ∃ vs, H a = some (.lst vs) := by
  cases z with
  | none => exact v.elim
  | some q =>
    obtain ⟨_, cells, i, c, h1, h2, _⟩ := h
    rcases v with rfl | rfl
    · exact ⟨_, h1⟩
    · exact ⟨_, h2⟩
theorem StOk.laid {z : Zo} {H : Hp} {p : Addr} {o : HO} (h : StOk z H) (hp : H p = none) : StOk z (upd H p o) := by
  cases z with
  | none => trivial
  | some q =>
    obtain ⟨n, cells, i, c, h1, h2, h3⟩ := h
    exact ⟨n, cells, i, c, by rw [upd_ne (ne_of_none h1 hp)]; exact h1, by rw [upd_ne (ne_of_none h2 hp)]; exact h2, h3⟩
theorem StOk.store {z : Zo} {H : Hp} {p : Addr} {o : HO} (h : StOk z H) (hp : ¬ vol z p) : StOk z (upd H p o) := by
  cases z with
  | none => trivial
  | some q =>
    obtain ⟨n, cells, i, c, h1, h2, h3⟩ := h
    exact ⟨n, cells, i, c, by rw [upd_ne (fun e => hp (.inl e.symm))]; exact h1, by rw [upd_ne (fun e => hp (.inr e.symm))]; exact h2, h3⟩

/-! ### a def's own state -/
inductive Sg where
  | s | w | t
  deriving DecidableEq
structure Gh where
  z : Zo
  B : Addr → Prop
  H0 : Hp
  hid : List (V × D × Sg)
  raw : List (Addr × Obj × HO)
def Gh.av (g : Gh) (M : Addr → Prop) : Sg → Addr → Prop
  | .s => fun a => vol g.z a ∨ g.B a ∨ M a
  | .w => fun a => vol g.z a ∨ M a
  | .t => vol g.z
theorem Gh.av_vol {g : Gh} {M : Addr → Prop} {s : Sg} {a : Addr} (h : vol g.z a) : g.av M s a := by
  cases s <;> first | exact .inl h | exact h
/-- what a slot holds: unknown; a value (strong, weak); a list, a dict of one's own -/
inductive Bd where
  | non | val (d : D) | wv (d : D) | ol (ds : List D) | od (kvs : List (Key × D)) | xv (v : V) (d : D)
def Bd.own : Bd → Bool
  | .ol _ => true
  | .od _ => true
  | _ => false
def SlotR (K : PySem.W.Frag) (g : Gh) (M : Addr → Prop) (H : Hp) : Bd → Option V → Prop
  | .non, _ => True
  | .val d, o => ∃ v, o = some v ∧ Rep K g.z (g.av M .s) H d v
  | .wv d, o => ∃ v, o = some v ∧ Rep K g.z (g.av M .w) H d v
  | .xv v d, o => o = some v ∧ Rep K g.z (g.av M .w) H d v
  | .ol ds, o => ∃ p vs, o = some (.ref p) ∧ M p ∧ H p = some (.lst vs) ∧ RepL K g.z (g.av M .s) H ds vs
  | .od kvs, o => ∃ p ws, o = some (.ref p) ∧ M p ∧ H p = some (.dK ws) ∧ RepK K g.z (g.av M .s) H kvs ws
abbrev Ev := List Bd
def OwnAt (ρ : Ev) (σ : St) (i : Nat) (p : Addr) : Prop := (∃ b, ρ[i]? = some b ∧ b.own = true) ∧ σ[i]? = some (some (.ref p))
structure J (K : PySem.W.Frag) (g : Gh) (M : Addr → Prop) (σ : St) (H : Hp) (ρ : Ev) : Prop where
  fr : Fr (vol g.z) g.H0 H
  ok0 : StOk g.z g.H0
  ok : StOk g.z H
  bz : ∀ b, g.B b → g.H0 b ≠ none
  new : ∀ p, M p → g.H0 p = none
  mt : ∀ p, M p → ∃ o, H p = some o ∧ isT o = false
  len : ρ.length = σ.length
  sl : ∀ (i : Nat) b o, ρ[i]? = some b → σ[i]? = some o → SlotR K g M H b o
  dis : ∀ i j p, OwnAt ρ σ i p → OwnAt ρ σ j p → i = j
  hid : ∀ q ∈ g.hid, q.2.2 ≠ .t ∧ Rep K g.z (g.av M q.2.2) H q.2.1 q.1
  raw : ∀ q ∈ g.raw, ¬ vol g.z q.1 ∧ ¬ M q.1 ∧ H q.1 = some (.frz q.2.1 q.2.2)

section
variable {K : PySem.W.Frag} {g : Gh} {M : Addr → Prop} {σ : St} {H H' : Hp} {ρ : Ev} {p : Addr} {o : HO} {d : D} {v : V}
theorem SlotR.go {b : Bd} {u : Option V} (a : Fr (vol g.z) H H') (nv : ∀ p, M p → ¬ vol g.z p) (h : SlotR K g M H b u) : SlotR K g M H' b u := by
  have ov : Ov (g.av M .s) (g.av M .s) H H' := a.ov fun _ z => Gh.av_vol z
  cases b with
  | non => trivial
  | val d => obtain ⟨v, e, r⟩ := h; exact ⟨v, e, r.ov ov⟩
  | wv d => obtain ⟨v, e, r⟩ := h; exact ⟨v, e, r.ov (a.ov fun _ z => Gh.av_vol z)⟩
  | xv v d => obtain ⟨e, r⟩ := h; exact ⟨e, r.ov (a.ov fun _ z => Gh.av_vol z)⟩
  | ol ds => obtain ⟨p, vs, e, m, hp, r⟩ := h; exact ⟨p, vs, e, m, a p _ hp (fun z => absurd z (nv p m)), r.ov ov⟩
  | od ds => obtain ⟨p, vs, e, m, hp, r⟩ := h; exact ⟨p, vs, e, m, a p _ hp (fun z => absurd z (nv p m)), r.ov ov⟩
theorem J.nv (j : J K g M σ H ρ) : ∀ p, M p → ¬ vol g.z p := fun p m v => by
  obtain ⟨vs, h⟩ := j.ok0.tr v
  rw [j.new p m] at h; cases h
theorem J.go (j : J K g M σ H ρ) (a : Fr (vol g.z) H H') (k : StOk g.z H') : J K g M σ H' ρ :=
  ⟨j.fr.trans a, j.ok0, k, j.bz, j.new, fun p m => by
    obtain ⟨o, h, t⟩ := j.mt p m
    exact ⟨o, a p o h (fun z => absurd z (j.nv p m)), t⟩, j.len, fun i b o e1 e2 => (j.sl i b o e1 e2).go a j.nv, j.dis,
    fun q hq => ⟨(j.hid q hq).1, (j.hid q hq).2.ov (a.ov fun _ z => Gh.av_vol z)⟩, fun q hq => ⟨(j.raw q hq).1, (j.raw q hq).2.1, a _ _ (j.raw q hq).2.2 fun z => absurd z (j.raw q hq).1⟩⟩
theorem J.laid (j : J K g M σ H ρ) (h : H p = none) (hf : isFz o = false := by rfl) : J K g M σ (upd H p o) ρ := j.go (Fr.laid h hf) (j.ok.laid h)
theorem J.fresh (j : J K g M σ H ρ) (h : H p = none) : g.H0 p = none := by
  cases q : g.H0 p with
  | none => rfl
  | some o =>
    by_cases v : vol g.z p
    · obtain ⟨vs, e⟩ := j.ok.tr v
      rw [e] at h; cases h
    · rw [j.fr p o q fun z => absurd z v] at h; cases h
/-- a new place is not avoided -/
theorem J.nav (j : J K g M σ H ρ) (h : H p = none) (s : Sg) : ¬ g.av M s p := by
  have n1 : ¬ vol g.z p := fun v => by
    obtain ⟨vs, e⟩ := j.ok.tr v
    rw [e] at h; cases h
  have n2 : ¬ g.B p := fun b => j.bz p b (j.fresh h)
  have n3 : ¬ M p := fun m => by
    obtain ⟨o, e, _⟩ := j.mt p m
    rw [e] at h; cases h
  cases s with
  | s => exact fun z => z.elim n1 fun z => z.elim n2 n3
  | w => exact fun z => z.elim n1 n3
  | t => exact n1
theorem own_set {b : Bd} {i j : Nat} {v : V} (hb : b.own = false) (h : OwnAt (ρ.set i b) (σ.set i (some v)) j p) (hl : ρ.length = σ.length) : OwnAt ρ σ j p := by
  obtain ⟨⟨b', e1, e2⟩, e3⟩ := h
  by_cases hij : i = j
  · subst hij
    by_cases hi : i < ρ.length
    · rw [List.getElem?_set_self hi] at e1; cases e1; rw [hb] at e2; cases e2
    · rw [List.getElem?_eq_none (by simpa using hi)] at e1; cases e1
  · rw [List.getElem?_set_ne hij] at e1 e3
    exact ⟨⟨b', e1, e2⟩, e3⟩
theorem J.set (j : J K g M σ H ρ) {b : Bd} (i : Nat) (hb : b.own = false) (h : SlotR K g M H b (some v)) : J K g M (σ.set i (some v)) H (ρ.set i b) :=
  ⟨j.fr, j.ok0, j.ok, j.bz, j.new, j.mt, by simpa using j.len, fun k b' o e1 e2 => by
    by_cases hk : i = k
    · subst hk
      by_cases hi : i < ρ.length
      · rw [List.getElem?_set_self hi] at e1; cases e1
        rw [List.getElem?_set_self (by rw [← j.len]; exact hi)] at e2; cases e2
        exact h
      · rw [List.getElem?_eq_none (by simpa using hi)] at e1; cases e1
    · rw [List.getElem?_set_ne hk] at e1 e2
      exact j.sl k b' o e1 e2, fun k l p h1 h2 => j.dis k l p (own_set hb h1 j.len) (own_set hb h2 j.len), j.hid, j.raw⟩
end
end Tr
end
section
namespace Tr
open PySem PySem.Spec L2

/-! ### lists and dicts of one's own -/
section
variable {K : PySem.W.Frag} {g : Gh} {M : Addr → Prop} {σ : L2.St} {H H' : Hp} {ρ : Ev} {p : Addr} {o : HO} {d : D} {v : V}
abbrev plus (M : Addr → Prop) (p : Addr) : Addr → Prop := fun b => M b ∨ b = p
abbrev less (M : Addr → Prop) (p : Addr) : Addr → Prop := fun b => M b ∧ b ≠ p
theorem av_plus {s : Sg} {b : Addr} (h : g.av (plus M p) s b) : g.av M s b ∨ b = p := by
  cases s with
  | s =>
    rcases h with h | h | h | h
    · exact .inl (.inl h)
    · exact .inl (.inr (.inl h))
    · exact .inl (.inr (.inr h))
    · exact .inr h
  | w =>
    rcases h with h | h | h
    · exact .inl (.inl h)
    · exact .inl (.inr h)
    · exact .inr h
  | t => exact .inl h
theorem av_less {s : Sg} {b : Addr} (h : g.av (less M p) s b) : g.av M s b := by
  cases s with
  | s =>
    rcases h with h | h | h
    · exact .inl h
    · exact .inr (.inl h)
    · exact .inr (.inr h.1)
  | w =>
    rcases h with h | h
    · exact .inl h
    · exact .inr h.1
  | t => exact h
theorem ov_new (s : Sg) (h : H p = none) : Ov (g.av M s) (g.av (plus M p) s) H (upd H p o) := by
  refine ⟨fun b o' e t => ?_, fun b o' n e => ?_⟩
  · have nb : b ≠ p := fun z => by rw [z, nz_none' h] at e; cases e
    rw [nz_upd_ne nb]; exact e
  have nb : b ≠ p := fun z => by rw [z, nz_none' h] at e; cases e
  exact ⟨fun z => (av_plus z).elim n nb, by rw [nz_upd_ne nb]; exact e⟩
theorem SlotR.new {b : Bd} {u : Option V} (h : H p = none) (r : SlotR K g M H b u) : SlotR K g (plus M p) (upd H p o) b u := by
  have ov := ov_new (g := g) (M := M) (o := o) .s h
  cases b with
  | non => trivial
  | val d => obtain ⟨v, e, r⟩ := r; exact ⟨v, e, r.ov ov⟩
  | wv d => obtain ⟨v, e, r⟩ := r; exact ⟨v, e, r.ov (ov_new .w h)⟩
  | xv v d => obtain ⟨e, r⟩ := r; exact ⟨e, r.ov (ov_new .w h)⟩
  | ol ds => obtain ⟨q, vs, e, m, hq, r⟩ := r; exact ⟨q, vs, e, .inl m, by rw [upd_ne (ne_of_none hq h)]; exact hq, r.ov ov⟩
  | od ds => obtain ⟨q, vs, e, m, hq, r⟩ := r; exact ⟨q, vs, e, .inl m, by rw [upd_ne (ne_of_none hq h)]; exact hq, r.ov ov⟩
/-- a new thing of one's own goes to a slot -/
theorem J.newO (j : J K g M σ H ρ) (h : H p = none) (ht : isT o = false) {b : Bd} (i : Nat) (r : SlotR K g (plus M p) (upd H p o) b (some (.ref p))) (hf : isFz o = false := by rfl) : J K g (plus M p) (σ.set i (some (.ref p))) (upd H p o) (ρ.set i b) := by
  have nin : ∀ k q, OwnAt ρ σ k q → q ≠ p := fun k q ⟨⟨b', e1, e2⟩, e3⟩ z => by
    subst z
    have s := j.sl k b' _ e1 e3
    cases b' <;> first | cases e2 | skip
    · obtain ⟨q', vs, e, m, hq, _⟩ := s; cases e; rw [h] at hq; cases hq
    · obtain ⟨q', vs, e, m, hq, _⟩ := s; cases e; rw [h] at hq; cases hq
  have split : ∀ k q, OwnAt (ρ.set i b) (σ.set i (some (.ref p))) k q → (k = i ∧ q = p) ∨ (k ≠ i ∧ OwnAt ρ σ k q) := fun k q ⟨⟨b', e1, e2⟩, e3⟩ => by
    by_cases hk : i = k
    · subst hk
      refine .inl ⟨rfl, ?_⟩
      by_cases hi : i < σ.length
      · rw [List.getElem?_set_self hi] at e3; cases e3; rfl
      · rw [List.getElem?_eq_none (by simpa using hi)] at e3; cases e3
    · rw [List.getElem?_set_ne hk] at e1 e3
      exact .inr ⟨fun z => hk z.symm, ⟨b', e1, e2⟩, e3⟩
  refine ⟨j.fr.trans (Fr.laid h hf), j.ok0, j.ok.laid h, j.bz, fun q m => ?_, fun q m => ?_, by simpa using j.len, fun k b' u e1 e2 => ?_, fun k l q h1 h2 => ?_, fun q hq => ⟨(j.hid q hq).1, (j.hid q hq).2.ov (ov_new _ h)⟩, fun q hq => ?_⟩
  · rcases m with m | rfl
    · exact j.new q m
    · exact j.fresh h
  · rcases m with m | rfl
    · obtain ⟨u, e, t⟩ := j.mt q m
      exact ⟨u, by rw [upd_ne (ne_of_none e h)]; exact e, t⟩
    · exact ⟨o, upd_same, ht⟩
  · by_cases hk : i = k
    · subst hk
      by_cases hi : i < ρ.length
      · rw [List.getElem?_set_self hi] at e1; cases e1
        rw [List.getElem?_set_self (by rw [← j.len]; exact hi)] at e2; cases e2
        exact r
      · rw [List.getElem?_eq_none (by simpa using hi)] at e1; cases e1
    · rw [List.getElem?_set_ne hk] at e1 e2
      exact (j.sl k b' u e1 e2).new h
  · rcases split k q h1 with ⟨rfl, rfl⟩ | ⟨n1, o1⟩ <;> rcases split l q h2 with ⟨rfl, e⟩ | ⟨n2, o2⟩
    · rfl
    · exact absurd rfl (nin l q o2)
    · exact absurd e (nin k q o1)
    · exact j.dis k l q o1 o2
  · obtain ⟨a, b', c⟩ := j.raw q hq
    exact ⟨a, fun z => z.elim b' (ne_of_none c h), by rw [upd_ne (ne_of_none c h)]; exact c⟩
theorem ov_st {s : Sg} (hs : s ≠ .t) (j : J K g M σ H ρ) (m : M p) : Ov (g.av M s) (g.av M s) H (upd H p o) := by
  obtain ⟨u, e, t⟩ := j.mt p m
  refine Ov.store ?_ fun xs z => ?_
  · cases s with
    | s => exact .inr (.inr m)
    | w => exact .inr m
    | t => exact absurd rfl hs
  · rw [raw_tup z] at e; cases e; cases t
/-- what is one's own at slot i is stored to -/
theorem J.wr (j : J K g M σ H ρ) {b : Bd} {i : Nat} (ht : isT o = false) (hi : OwnAt ρ σ i p) (m : M p) (r : SlotR K g M (upd H p o) b (some (.ref p))) (hf : isFz o = false := by rfl) : J K g M σ (upd H p o) (ρ.set i b) := by
  have nvp := j.nv p m
  have fr : Fr (vol g.z) g.H0 (upd H p o) := ⟨fun c u e k => by
    have nc : c ≠ p := fun z => by rw [z, j.new p m] at e; cases e
    rw [upd_ne nc]; exact j.fr c u e k, fun c x y e => j.fr.nl c x y (nl_upd hf c x y e)⟩
  refine ⟨fr, j.ok0, j.ok.store nvp, j.bz, j.new, fun q mq => ?_, by simpa using j.len, fun k b' u e1 e2 => ?_, fun k l q h1 h2 => ?_, fun q hq => ⟨(j.hid q hq).1, (j.hid q hq).2.ov (ov_st (j.hid q hq).1 j m)⟩, fun q hq => ?_⟩
  · by_cases z : q = p
    · subst z; exact ⟨o, upd_same, ht⟩
    · obtain ⟨u, e, t⟩ := j.mt q mq
      exact ⟨u, by rw [upd_ne z]; exact e, t⟩
  · by_cases hk : i = k
    · subst hk
      by_cases hi' : i < ρ.length
      · rw [List.getElem?_set_self hi'] at e1; cases e1
        rw [hi.2] at e2; cases e2
        exact r
      · rw [List.getElem?_eq_none (by simpa using hi')] at e1; cases e1
    · rw [List.getElem?_set_ne hk] at e1
      have s := j.sl k b' u e1 e2
      cases b' with
      | non => trivial
      | val d => obtain ⟨v, e, r⟩ := s; exact ⟨v, e, r.ov (ov_st (by decide) j m)⟩
      | wv d => obtain ⟨v, e, r⟩ := s; exact ⟨v, e, r.ov (ov_st (by decide) j m)⟩
      | xv v d => obtain ⟨e, r⟩ := s; exact ⟨e, r.ov (ov_st (by decide) j m)⟩
      | ol ds =>
        obtain ⟨q, vs, e, mq, hq, r⟩ := s
        have nq : q ≠ p := fun z => by
          subst z e
          exact hk (j.dis i k q hi ⟨⟨_, e1, rfl⟩, e2⟩)
        exact ⟨q, vs, e, mq, by rw [upd_ne nq]; exact hq, r.ov (ov_st (by decide) j m)⟩
      | od ds =>
        obtain ⟨q, vs, e, mq, hq, r⟩ := s
        have nq : q ≠ p := fun z => by
          subst z e
          exact hk (j.dis i k q hi ⟨⟨_, e1, rfl⟩, e2⟩)
        exact ⟨q, vs, e, mq, by rw [upd_ne nq]; exact hq, r.ov (ov_st (by decide) j m)⟩
  · have back : ∀ k q, OwnAt (ρ.set i b) σ k q → OwnAt ρ σ k q := fun k q ⟨⟨b', e1, e2⟩, e3⟩ => by
      by_cases hk : i = k
      · subst hk; exact ⟨hi.1, e3⟩
      · rw [List.getElem?_set_ne hk] at e1; exact ⟨⟨b', e1, e2⟩, e3⟩
    exact j.dis k l q (back k q h1) (back l q h2)
  · obtain ⟨a, b', c⟩ := j.raw q hq
    have nq : q.1 ≠ p := fun z => b' (z ▸ m)
    exact ⟨a, b', by rw [upd_ne nq]; exact c⟩
/-- what was one's own becomes a value -/
theorem J.rel (j : J K g M σ H ρ) {b : Bd} {i : Nat} (hb : b.own = false) (hi : OwnAt ρ σ i p) (r : SlotR K g (less M p) H b (some (.ref p))) : J K g (less M p) σ H (ρ.set i b) := by
  refine ⟨j.fr, j.ok0, j.ok, j.bz, fun q m => j.new q m.1, fun q m => j.mt q m.1, by simpa using j.len, fun k b' u e1 e2 => ?_, fun k l q h1 h2 => ?_, fun q hq => ⟨(j.hid q hq).1, (j.hid q hq).2.ov (Ov.less fun _ z => av_less z)⟩, fun q hq => ?_⟩
  · by_cases hk : i = k
    · subst hk
      by_cases hi' : i < ρ.length
      · rw [List.getElem?_set_self hi'] at e1; cases e1
        rw [hi.2] at e2; cases e2
        exact r
      · rw [List.getElem?_eq_none (by simpa using hi')] at e1; cases e1
    · rw [List.getElem?_set_ne hk] at e1
      have s := j.sl k b' u e1 e2
      cases b' with
      | non => trivial
      | val d => obtain ⟨v, e, r⟩ := s; exact ⟨v, e, r.ov (Ov.less fun _ z => av_less z)⟩
      | wv d => obtain ⟨v, e, r⟩ := s; exact ⟨v, e, r.ov (Ov.less fun _ z => av_less z)⟩
      | xv v d => obtain ⟨e, r⟩ := s; exact ⟨e, r.ov (Ov.less fun _ z => av_less z)⟩
      | ol ds =>
        obtain ⟨q, vs, e, mq, hq, r⟩ := s
        have nq : q ≠ p := fun z => by
          subst z e
          exact hk (j.dis i k q hi ⟨⟨_, e1, rfl⟩, e2⟩)
        exact ⟨q, vs, e, ⟨mq, nq⟩, hq, r.ov (Ov.less fun _ z => av_less z)⟩
      | od ds =>
        obtain ⟨q, vs, e, mq, hq, r⟩ := s
        have nq : q ≠ p := fun z => by
          subst z e
          exact hk (j.dis i k q hi ⟨⟨_, e1, rfl⟩, e2⟩)
        exact ⟨q, vs, e, ⟨mq, nq⟩, hq, r.ov (Ov.less fun _ z => av_less z)⟩
  · have back : ∀ k q, OwnAt (ρ.set i b) σ k q → OwnAt ρ σ k q := fun k q ⟨⟨b', e1, e2⟩, e3⟩ => by
      by_cases hk : i = k
      · subst hk
        by_cases hi' : i < ρ.length
        · rw [List.getElem?_set_self hi'] at e1; cases e1; rw [hb] at e2; cases e2
        · rw [List.getElem?_eq_none (by simpa using hi')] at e1; cases e1
      · rw [List.getElem?_set_ne hk] at e1; exact ⟨⟨b', e1, e2⟩, e3⟩
    exact j.dis k l q (back k q h1) (back l q h2)
  · obtain ⟨a, b', c⟩ := j.raw q hq
    exact ⟨a, fun z => b' z.1, c⟩
/-- a slot is forgotten -/
theorem J.non (j : J K g M σ H ρ) (i : Nat) (u : Option V) : J K g M (σ.set i u) H (ρ.set i .non) := by
  have back : ∀ k q, OwnAt (ρ.set i .non) (σ.set i u) k q → OwnAt ρ σ k q := fun k q ⟨⟨b', e1, e2⟩, e3⟩ => by
    by_cases hk : i = k
    · subst hk
      by_cases hi' : i < ρ.length
      · rw [List.getElem?_set_self hi'] at e1; cases e1; cases e2
      · rw [List.getElem?_eq_none (by simpa using hi')] at e1; cases e1
    · rw [List.getElem?_set_ne hk] at e1 e3; exact ⟨⟨b', e1, e2⟩, e3⟩
  refine ⟨j.fr, j.ok0, j.ok, j.bz, j.new, j.mt, by simpa using j.len, fun k b' o e1 e2 => ?_, fun k l q h1 h2 => j.dis k l q (back k q h1) (back l q h2), j.hid, j.raw⟩
  by_cases hk : i = k
  · subst hk
    by_cases hi : i < ρ.length
    · rw [List.getElem?_set_self hi] at e1; cases e1; trivial
    · rw [List.getElem?_eq_none (by simpa using hi)] at e1; cases e1
  · rw [List.getElem?_set_ne hk] at e1 e2
    exact j.sl k b' o e1 e2
end

/-! ### readings over trees -/
abbrev DK := D → Prop
abbrev TDE := Ev → DK → Prop
abbrev TDT := Ev → (Bool → Prop) → Prop
abbrev TDA := Ev → (List D → Prop) → Prop
structure EndsD where
  nx : Ev → Prop
  rt : DK
  bk : Ev → Prop := fun _ => False
  ct : Ev → Prop := fun _ => False
abbrev TDS := EndsD → Ev → Prop

def rdE (K : PySem.W.Frag) (s : Sg) (w : TDE) : TE := fun σ H Q => ∃ g M ρ R, J K g M σ H ρ ∧ w ρ R ∧ ∀ v H' d, Fr (vol g.z) H H' → J K g M σ H' ρ → Rep K g.z (g.av M s) H' d v → R d → Q v H'
def rdT (K : PySem.W.Frag) (w : TDT) : TT := fun σ H Q => ∃ g M ρ R, J K g M σ H ρ ∧ w ρ R ∧ ∀ b H', Fr (vol g.z) H H' → J K g M σ H' ρ → R b → Q b H'
def RepA (K : PySem.W.Frag) (g : Gh) (M : Addr → Prop) (H : Hp) : List Sg → List D → List V → Prop
  | [], ds, vs => ds = [] ∧ vs = []
  | s :: ss, ds, vs => ∃ d ds' v vs', ds = d :: ds' ∧ vs = v :: vs' ∧ Rep K g.z (g.av M s) H d v ∧ RepA K g M H ss ds' vs'
theorem RepA.ov {K : PySem.W.Frag} {g : Gh} {M : Addr → Prop} {H H' : Hp} (h : Fr (vol g.z) H H') : ∀ {ss : List Sg} {ds : List D} {vs : List V}, RepA K g M H ss ds vs → RepA K g M H' ss ds vs
  | [], _, _, r => r
  | s :: ss, _, _, ⟨d, ds', v, vs', e1, e2, r, rs⟩ => ⟨d, ds', v, vs', e1, e2, r.ov (h.ov fun _ z => Gh.av_vol z), RepA.ov h rs⟩
def rdA (K : PySem.W.Frag) (ss : List Sg) (w : TDA) : TA := fun σ H Q => ∃ g M ρ R, J K g M σ H ρ ∧ w ρ R ∧ ∀ vs H' ds, Fr (vol g.z) H H' → J K g M σ H' ρ → RepA K g M H' ss ds vs → R ds → Q vs H'
structure EndsOk (K : PySem.W.Frag) (g : Gh) (E : EndsD) (D : Ends) : Prop where
  nx : ∀ M σ H ρ, J K g M σ H ρ → E.nx ρ → D.nx σ H
  rt : ∀ v H d, Fr (vol g.z) g.H0 H → StOk g.z H → Rep K g.z (fun a => vol g.z a ∨ g.B a) H d v → E.rt d → D.rt v H
  bk : ∀ M σ H ρ, J K g M σ H ρ → E.bk ρ → D.bk σ H
  ct : ∀ M σ H ρ, J K g M σ H ρ → E.ct ρ → D.ct σ H
def rdS (K : PySem.W.Frag) (w : TDS) : TS := fun D σ H => ∃ g M ρ E, J K g M σ H ρ ∧ w E ρ ∧ EndsOk K g E D

abbrev DE (X : Cx) (s : Sg) (e : Expr) (w : TDE) : Prop := PE X e (rdE X.K s w)
abbrev DT (X : Cx) (e : Expr) (w : TDT) : Prop := PT X e (rdT X.K w)
abbrev DW (X : Cx) (e : Expr) (w : TDT) : Prop := PW X e (rdT X.K w)
abbrev DA (X : Cx) (ss : List Sg) (es : List Expr) (w : TDA) : Prop := PA X es (rdA X.K ss w)
abbrev DS (X : Cx) (st : Stmt) (w : TDS) : Prop := PS X st (rdS X.K w)
abbrev DSs (X : Cx) (st : List Stmt) (w : TDS) : Prop := PSs X st (rdS X.K w)

section
variable {X : Cx}
theorem PE_imp {e : Expr} {t t' : TE} (h : PE X e t) (f : ∀ σ H Q, t' σ H Q → t σ H Q) : PE X e t' := ⟨fun pins s σ H Q I q => h.run pins s σ H Q I (f _ _ _ q)⟩
theorem PT_imp {e : Expr} {t t' : TT} (h : PT X e t) (f : ∀ σ H Q, t' σ H Q → t σ H Q) : PT X e t' := ⟨fun pins s σ H Q I q => h.run pins s σ H Q I (f _ _ _ q)⟩
theorem PW_imp {e : Expr} {t t' : TT} (h : PW X e t) (f : ∀ σ H Q, t' σ H Q → t σ H Q) : PW X e t' := ⟨fun wh pins s σ H Q I q => h.run wh pins s σ H Q I (f _ _ _ q)⟩
theorem PA_imp {es : List Expr} {t t' : TA} (h : PA X es t) (f : ∀ σ H Q, t' σ H Q → t σ H Q) : PA X es t' := ⟨fun pos pins s σ H Q I q => h.run pos pins s σ H Q I (f _ _ _ q)⟩
theorem PS_imp {st : Stmt} {t t' : TS} (h : PS X st t) (f : ∀ D σ H, t' D σ H → t D σ H) : PS X st t' := ⟨fun pins s σ H D I q => h.run pins s σ H D I (f _ _ _ q)⟩
theorem PSs_imp {st : List Stmt} {t t' : TS} (h : PSs X st t) (f : ∀ D σ H, t' D σ H → t D σ H) : PSs X st t' := ⟨fun pins s σ H D I q => h.run pins s σ H D I (f _ _ _ q)⟩
theorem PE_or {e : Expr} {t t' : TE} (h : PE X e t) (h' : PE X e t') : PE X e (fun σ H Q => t σ H Q ∨ t' σ H Q) := ⟨fun pins s σ H Q I q => q.elim (h.run pins s σ H Q I) (h'.run pins s σ H Q I)⟩
theorem PS_or {st : Stmt} {t t' : TS} (h : PS X st t) (h' : PS X st t') : PS X st (fun D σ H => t D σ H ∨ t' D σ H) := ⟨fun pins s σ H D I q => q.elim (h.run pins s σ H D I) (h'.run pins s σ H D I)⟩
end
end Tr
end
section
namespace Tr
open PySem PySem.Spec L2

/-! ### reading a tree's parts -/
section
variable {K : PySem.W.Frag} {z : Zo} {A : Addr → Prop} {H : Hp}
theorem rep_int {i : Int} {v : V} : Rep K z A H (.int i) v ↔ v = .int i := by simp only [Rep]
theorem rep_str {i : Str} {v : V} : Rep K z A H (.str i) v ↔ v = .str i := by simp only [Rep]
theorem rep_bl {i : Bool} {v : V} : Rep K z A H (.bl i) v ↔ v = .bl i := by simp only [Rep]
theorem rep_non {v : V} : Rep K z A H .non v ↔ v = .non := by simp only [Rep]
theorem rep_lst {ds : List D} {v : V} : Rep K z A H (.lst ds) v ↔ ∃ a vs, v = .ref a ∧ ¬ A a ∧ nz H a = some (.lst vs) ∧ RepL K z A H ds vs := by simp only [Rep]
theorem rep_tup {ds : List D} {v : V} : Rep K z A H (.tup ds) v ↔ ∃ a vs, v = .ref a ∧ (nz H a = some (.tup vs) ∨ KTup K a vs) ∧ RepL K z A H ds vs := by simp only [Rep]
theorem rep_dct {ds : List (Key × D)} {v : V} : Rep K z A H (.dct ds) v ↔ ∃ a vs, v = .ref a ∧ ¬ A a ∧ nz H a = some (.dK vs) ∧ RepK K z A H ds vs := by simp only [Rep]
theorem rep_ins {C : Addr} {ds : List (Str × D)} {v : V} : Rep K z A H (.ins C ds) v ↔ ∃ a dx vs, v = .ref a ∧ ¬ A a ∧ nz H a = some (.ins C dx vs) ∧ RepF K z A H ds vs := by simp only [Rep]
theorem repL_nil {vs : List V} : RepL K z A H [] vs ↔ vs = [] := by simp only [RepL]
theorem repL_cons {d : D} {ds : List D} {vs : List V} : RepL K z A H (d :: ds) vs ↔ ∃ u us, vs = u :: us ∧ Rep K z A H d u ∧ RepL K z A H ds us := by simp only [RepL]
theorem repK_nil {vs : List (Key × V)} : RepK K z A H [] vs ↔ vs = [] := by simp only [RepK]
theorem repK_cons {k : Key} {d : D} {ds : List (Key × D)} {vs : List (Key × V)} : RepK K z A H ((k, d) :: ds) vs ↔ ∃ u us, vs = (k, u) :: us ∧ Rep K z A H d u ∧ RepK K z A H ds us := by simp only [RepK]
theorem repF_nil {vs : List (Str × V)} : RepF K z A H [] vs ↔ vs = [] := by simp only [RepF]
theorem repF_cons {k : Str} {d : D} {ds : List (Str × D)} {vs : List (Str × V)} : RepF K z A H ((k, d) :: ds) vs ↔ ∃ u us, vs = (k, u) :: us ∧ Rep K z A H d u ∧ RepF K z A H ds us := by simp only [RepF]
theorem RepL.len : ∀ {ds : List D} {vs : List V}, RepL K z A H ds vs → vs.length = ds.length
  | [], vs, r => by rw [repL_nil.mp r]; rfl
  | d :: ds, vs, r => by
    obtain ⟨u, us, e, _, r2⟩ := repL_cons.mp r
    rw [e, List.length_cons, List.length_cons, r2.len]
theorem RepL.get : ∀ {ds : List D} {vs : List V} {i : Nat} {d : D}, RepL K z A H ds vs → ds[i]? = some d → ∃ v, vs[i]? = some v ∧ Rep K z A H d v
  | [], vs, i, d, r, e => by simp at e
  | d0 :: ds, vs, 0, d, r, e => by
    obtain ⟨u, us, e2, r1, r2⟩ := repL_cons.mp r
    simp at e; subst e2 e
    exact ⟨u, rfl, r1⟩
  | d0 :: ds, vs, i + 1, d, r, e => by
    obtain ⟨u, us, e2, r1, r2⟩ := repL_cons.mp r
    subst e2
    obtain ⟨v, h1, h2⟩ := RepL.get (i := i) r2 (by simpa using e)
    exact ⟨v, by simpa using h1, h2⟩
theorem RepL.getv {ds : List D} {vs : List V} {i : Nat} {v : V} (r : RepL K z A H ds vs) (e : vs[i]? = some v) : ∃ d, ds[i]? = some d ∧ Rep K z A H d v := by
  have hi : i < ds.length := by rw [← r.len]; exact (List.getElem?_eq_some_iff.mp e).1
  obtain ⟨v', h1, h2⟩ := r.get (i := i) (d := ds[i]) (by simp [hi])
  rw [e] at h1; cases h1
  exact ⟨ds[i], by simp [hi], h2⟩
theorem RepL.app : ∀ {ds es : List D} {vs us : List V}, RepL K z A H ds vs → RepL K z A H es us → RepL K z A H (ds ++ es) (vs ++ us)
  | [], es, vs, us, r, q => by rw [repL_nil.mp r]; exact q
  | d :: ds, es, vs, us, r, q => by
    obtain ⟨u, us', e, r1, r2⟩ := repL_cons.mp r
    subst e
    exact repL_cons.mpr ⟨u, us' ++ us, rfl, r1, r2.app q⟩
theorem RepL.one {d : D} {v : V} (r : Rep K z A H d v) : RepL K z A H [d] [v] := repL_cons.mpr ⟨v, [], rfl, r, repL_nil.mpr rfl⟩
theorem RepL.drop : ∀ (n : Nat) {ds : List D} {vs : List V}, RepL K z A H ds vs → RepL K z A H (ds.drop n) (vs.drop n)
  | 0, _, _, r => r
  | n + 1, [], vs, r => by rw [repL_nil.mp r]; simpa using repL_nil.mpr rfl
  | n + 1, d :: ds, vs, r => by
    obtain ⟨u, us', e, r1, r2⟩ := repL_cons.mp r
    subst e
    exact r2.drop n
theorem RepL.take : ∀ (n : Nat) {ds : List D} {vs : List V}, RepL K z A H ds vs → RepL K z A H (ds.take n) (vs.take n)
  | 0, _, _, r => by simpa using repL_nil.mpr rfl
  | n + 1, [], vs, r => by rw [repL_nil.mp r]; simpa using repL_nil.mpr rfl
  | n + 1, d :: ds, vs, r => by
    obtain ⟨u, us', e, r1, r2⟩ := repL_cons.mp r
    subst e
    exact repL_cons.mpr ⟨u, us'.take n, rfl, r1, r2.take n⟩
theorem RepL.setd {d : D} {v : V} (r1 : Rep K z A H d v) : ∀ (n : Nat) {ds : List D} {vs : List V}, RepL K z A H ds vs → RepL K z A H (ds.set n d) (vs.set n v)
  | _, [], vs, r => by rw [repL_nil.mp r]; simpa using repL_nil.mpr rfl
  | 0, d :: ds, vs, r => by
    obtain ⟨u, us', e, _, r2⟩ := repL_cons.mp r
    subst e
    exact repL_cons.mpr ⟨v, us', rfl, r1, r2⟩
  | n + 1, d :: ds, vs, r => by
    obtain ⟨u, us', e, r0, r2⟩ := repL_cons.mp r
    subst e
    exact repL_cons.mpr ⟨u, us'.set n v, rfl, r0, r2.setd r1 n⟩
theorem RepL.erase : ∀ (n : Nat) {ds : List D} {vs : List V}, RepL K z A H ds vs → RepL K z A H (ds.eraseIdx n) (vs.eraseIdx n)
  | _, [], vs, r => by rw [repL_nil.mp r]; simpa using repL_nil.mpr rfl
  | 0, d :: ds, vs, r => by
    obtain ⟨u, us', e, _, r2⟩ := repL_cons.mp r
    subst e
    exact r2
  | n + 1, d :: ds, vs, r => by
    obtain ⟨u, us', e, r0, r2⟩ := repL_cons.mp r
    subst e
    exact repL_cons.mpr ⟨u, us'.eraseIdx n, rfl, r0, r2.erase n⟩
/-- scalars are what they are -/
def toV : D → Option V
  | .non => some .non
  | .bl b => some (.bl b)
  | .int i => some (.int i)
  | .str x => some (.str x)
  | _ => none
theorem rep_toV {d : D} {v u : V} (h : toV d = some u) : Rep K z A H d v ↔ v = u := by
  cases d <;> first | (simp only [toV, Option.some.injEq] at h; subst h; simp only [Rep]) | cases h
theorem repL_toV : ∀ {ds : List D} {us vs : List V}, ds.map toV = us.map some → (RepL K z A H ds vs ↔ vs = us)
  | [], [], vs, _ => repL_nil
  | [], _ :: _, vs, h => by simp at h
  | _ :: _, [], vs, h => by simp at h
  | d :: ds, u :: us, vs, h => by
    simp only [List.map_cons, List.cons.injEq] at h
    rw [repL_cons]
    constructor
    · rintro ⟨v, vs', e, r1, r2⟩
      rw [e, (rep_toV h.1).mp r1, (repL_toV h.2).mp r2]
    · rintro rfl
      exact ⟨u, us, rfl, (rep_toV h.1).mpr rfl, (repL_toV h.2).mpr rfl⟩
theorem repL_map {α : Type} {f : α → D} {f' : α → V} (hf : ∀ x, toV (f x) = some (f' x)) {xs : List α} {vs : List V} : RepL K z A H (xs.map f) vs ↔ vs = xs.map f' := repL_toV (by simp [hf])
theorem repL_strs {xs : List Str} {vs : List V} : RepL K z A H (xs.map D.str) vs ↔ vs = xs.map V.str := repL_map fun _ => rfl
/-- a dict's value -/
def valD (kvs : List (Key × D)) (k : Key) : Option D := (kvs.find? fun kv => decide (kv.1 = k)).map (·.2)
def hasD (kvs : List (Key × D)) (k : Key) : Bool := kvs.any fun kv => decide (kv.1 = k)
def putD (kvs : List (Key × D)) (k : Key) (v : D) : List (Key × D) := if hasD kvs k = true then kvs.map (fun kv => if kv.1 = k then (kv.1, v) else kv) else kvs ++ [(k, v)]
theorem RepK.len : ∀ {ds : List (Key × D)} {vs : List (Key × V)}, RepK K z A H ds vs → vs.length = ds.length
  | [], vs, r => by rw [repK_nil.mp r]; rfl
  | (k, d) :: ds, vs, r => by
    obtain ⟨u, us, e, _, r2⟩ := repK_cons.mp r
    rw [e, List.length_cons, List.length_cons, r2.len]
theorem RepK.keys : ∀ {ds : List (Key × D)} {vs : List (Key × V)}, RepK K z A H ds vs → vs.map (·.1) = ds.map (·.1)
  | [], vs, r => by rw [repK_nil.mp r]; rfl
  | (k, d) :: ds, vs, r => by
    obtain ⟨u, us, e, _, r2⟩ := repK_cons.mp r
    rw [e, List.map_cons, List.map_cons, r2.keys]
theorem RepK.get : ∀ {ds : List (Key × D)} {vs : List (Key × V)} {i : Nat} {k : Key} {d : D}, RepK K z A H ds vs → ds[i]? = some (k, d) → ∃ v, vs[i]? = some (k, v) ∧ Rep K z A H d v
  | [], vs, i, k, d, r, e => by simp at e
  | (k0, d0) :: ds, vs, 0, k, d, r, e => by
    obtain ⟨u, us, e2, r1, r2⟩ := repK_cons.mp r
    simp at e; subst e2; obtain ⟨rfl, rfl⟩ := e
    exact ⟨u, rfl, r1⟩
  | (k0, d0) :: ds, vs, i + 1, k, d, r, e => by
    obtain ⟨u, us, e2, r1, r2⟩ := repK_cons.mp r
    subst e2
    obtain ⟨v, h1, h2⟩ := RepK.get (i := i) r2 (by simpa using e)
    exact ⟨v, by simpa using h1, h2⟩
theorem RepK.getv {ds : List (Key × D)} {vs : List (Key × V)} {i : Nat} {k : Key} {v : V} (r : RepK K z A H ds vs) (e : vs[i]? = some (k, v)) : ∃ d, ds[i]? = some (k, d) ∧ Rep K z A H d v := by
  have hi : i < ds.length := by rw [← r.len]; exact (List.getElem?_eq_some_iff.mp e).1
  obtain ⟨v', h1, h2⟩ := r.get (i := i) (k := ds[i].1) (d := ds[i].2) (by simp [hi])
  rw [e] at h1; cases h1
  exact ⟨ds[i].2, by simp [hi], h2⟩
theorem RepK.val : ∀ {ds : List (Key × D)} {vs : List (Key × V)} (k : Key), RepK K z A H ds vs → (valD ds k = none ∧ valV vs k = none) ∨ ∃ d v, valD ds k = some d ∧ valV vs k = some v ∧ Rep K z A H d v
  | [], vs, k, r => by rw [repK_nil.mp r]; exact .inl ⟨rfl, rfl⟩
  | (k0, d0) :: ds, vs, k, r => by
    obtain ⟨u, us, e2, r1, r2⟩ := repK_cons.mp r
    subst e2
    unfold valD valV
    by_cases h : k0 = k
    · subst h
      exact .inr ⟨d0, u, by simp, by simp, r1⟩
    · simp only [List.find?_cons, h, decide_false]
      exact r2.val k
theorem RepK.put : ∀ {ds : List (Key × D)} {vs : List (Key × V)} {k : Key} {d : D} {v : V}, RepK K z A H ds vs → Rep K z A H d v → RepK K z A H (putD ds k d) (putK vs k v) := fun {ds vs k d v} r q => by
  have mp : ∀ {ds : List (Key × D)} {vs : List (Key × V)}, RepK K z A H ds vs → RepK K z A H (ds.map fun kv => if kv.1 = k then (kv.1, d) else kv) (vs.map fun kv => if kv.1 = k then (kv.1, v) else kv) := by
    intro ds
    induction ds with
    | nil => intro vs r; rw [repK_nil.mp r]; exact repK_nil.mpr rfl
    | cons a ds ih =>
      obtain ⟨k0, d0⟩ := a
      intro vs r
      obtain ⟨u, us, e2, r1, r2⟩ := repK_cons.mp r
      subst e2
      simp only [List.map_cons]
      by_cases h : k0 = k
      · simp only [h, if_true]; exact repK_cons.mpr ⟨v, _, rfl, q, ih r2⟩
      · simp only [h, if_false]; exact repK_cons.mpr ⟨u, _, rfl, r1, ih r2⟩
  have ap : ∀ {ds : List (Key × D)} {vs : List (Key × V)}, RepK K z A H ds vs → RepK K z A H (ds ++ [(k, d)]) (vs ++ [(k, v)]) := by
    intro ds
    induction ds with
    | nil => intro vs r; rw [repK_nil.mp r]; exact repK_cons.mpr ⟨v, [], rfl, q, repK_nil.mpr rfl⟩
    | cons a ds ih =>
      obtain ⟨k0, d0⟩ := a
      intro vs r
      obtain ⟨u, us, e2, r1, r2⟩ := repK_cons.mp r
      subst e2
      exact repK_cons.mpr ⟨u, _, rfl, r1, ih r2⟩
  have an : (vs.any fun kv => decide (kv.1 = k)) = hasD ds k := by
    have h1 : (vs.any fun kv => decide (kv.1 = k)) = (vs.map (·.1)).any fun x => decide (x = k) := by rw [List.any_map]; rfl
    have h2 : hasD ds k = (ds.map (·.1)).any fun x => decide (x = k) := by unfold hasD; rw [List.any_map]; rfl
    rw [h1, h2, r.keys]
  unfold putD putK
  rw [an]
  split
  · exact mp r
  · exact ap r
theorem RepF.lookup : ∀ {fs : List (Str × D)} {ws : List (Str × V)} (f : Str), RepF K z A H fs ws → (fs.lookup f = none ∧ ws.lookup f = none) ∨ ∃ d v, fs.lookup f = some d ∧ ws.lookup f = some v ∧ Rep K z A H d v
  | [], ws, f, r => by rw [repF_nil.mp r]; exact .inl ⟨rfl, rfl⟩
  | (k0, d0) :: fs, ws, f, r => by
    obtain ⟨u, us, e2, r1, r2⟩ := repF_cons.mp r
    subst e2
    rw [List.lookup_cons, List.lookup_cons]
    cases h : f == k0 with
    | true => exact .inr ⟨d0, u, rfl, rfl, r1⟩
    | false => exact r2.lookup f
theorem sqT_of {a : Addr} {vs : List V} (h : nz H a = some (.tup vs) ∨ KTup K a vs) : SqT K H a vs := by
  rcases h with h | h
  · exact .inl (.inl (raw_tup h))
  · exact .inr h
theorem sqL_of {a : Addr} {vs : List V} (h : nz H a = some (.lst vs)) : SqL K H a vs := .inl (rd_lst h)
end
end Tr
end
section
namespace Tr
open PySem PySem.Spec L2

section
variable {X : Cx} {s s1 s2 : Sg} {e a b c : Expr} {pos : Pos}

/-! ### names, constants -/
def wV (s : Sg) (i : Nat) : TDE := fun ρ R => match s, ρ[i]? with
  | _, some (.val d) => R d
  | .w, some (.wv d) => R d
  | .t, some (.wv d) => R d
  | .w, some (.xv _ d) => R d
  | .t, some (.xv _ d) => R d
  | .t, some (.ol ds) => R (.lst ds)
  | .t, some (.od kvs) => R (.dct kvs)
  | _, _ => False
theorem de_v' {x : Str} (i : Nat) (h : PE X (.Name x pos) (tVar i)) : DE X s (.Name x pos) (wV s i) := by
  refine PE_imp h ?_
  rintro σ H Q ⟨g, M, ρ, R, j, hw, k⟩
  unfold wV at hw
  have gets : ∀ b, ρ[i]? = some b → ∃ o, σ[i]? = some o ∧ SlotR X.K g M H b o := fun b e => by
    have hi : i < σ.length := by rw [← j.len]; exact (List.getElem?_eq_some_iff.mp e).1
    exact ⟨σ[i], by simp [hi], j.sl i b _ e (by simp [hi])⟩
  have weak : ∀ {d v}, Rep X.K g.z (g.av M .s) H d v → Rep X.K g.z (g.av M s) H d v := fun r => r.ov (Ov.less fun q hq => by
    cases s with
    | s => exact hq
    | w => exact hq.elim .inl fun z => .inr (.inr z)
    | t => exact .inl hq)
  split at hw
  · rename_i d e
    obtain ⟨o, e2, v, rfl, r⟩ := gets _ e
    exact ⟨v, e2, k v H d Fr.refl j (weak r) hw⟩
  · rename_i d e
    obtain ⟨o, e2, v, rfl, r⟩ := gets _ e
    exact ⟨v, e2, k v H d Fr.refl j r hw⟩
  · rename_i d e
    obtain ⟨o, e2, v, rfl, r⟩ := gets _ e
    exact ⟨v, e2, k v H d Fr.refl j (r.ov (Ov.less fun q hq => .inl hq)) hw⟩
  · rename_i v d e
    obtain ⟨o, e2, rfl, r⟩ := gets _ e
    exact ⟨v, e2, k v H d Fr.refl j r hw⟩
  · rename_i v d e
    obtain ⟨o, e2, rfl, r⟩ := gets _ e
    exact ⟨v, e2, k v H d Fr.refl j (r.ov (Ov.less fun q hq => .inl hq)) hw⟩
  · rename_i ds e
    obtain ⟨o, e2, p, vs, rfl, m, hp, r⟩ := gets _ e
    exact ⟨.ref p, e2, k _ H _ Fr.refl j (rep_lst.mpr ⟨p, vs, rfl, j.nv p m, nz_lst hp, r.ov (Ov.less fun q hq => .inl hq)⟩) hw⟩
  · rename_i ds e
    obtain ⟨o, e2, p, vs, rfl, m, hp, r⟩ := gets _ e
    exact ⟨.ref p, e2, k _ H _ Fr.refl j (rep_dct.mpr ⟨p, vs, rfl, j.nv p m, nz_dK hp, r.ov (Ov.less fun q hq => .inl hq)⟩) hw⟩
  · exact hw.elim
theorem de_v {s : Sg} (i : Nat) {x : Str} {pos : Pos} (hN : X.N[i]? = some x := by rfl) (hv : Vis X.env.scope x := by first | exact Or.inl rfl | exact Or.inr (Or.inl rfl) | exact Or.inr (Or.inr rfl)) (hd : (x == ("__debug__" : Str)) = false := by decide)
    (hcd : (x == ("__classdict__" : Str)) = false := by decide) : DE X s (.Name x pos) (wV s i) := de_v' i (pe_var hN hv hd hcd)
def wC (d : D) : TDE := fun _ R => R d
theorem de_c {d : D} {v : V} (hd : toV d = some v) (h : PE X e (tC v)) : DE X s e (wC d) := by
  refine PE_imp h ?_
  rintro σ H Q ⟨g, M, ρ, R, j, hw, k⟩
  exact k v H d Fr.refl j ((rep_toV hd).mpr rfl) hw
theorem de_int {i : Int} {j : Nat} : DE X s (.Constant (.int i) j pos) (wC (.int i)) := de_c rfl pe_int
theorem de_bl {i : Bool} {j : Nat} : DE X s (.Constant (.bool i) j pos) (wC (.bl i)) := de_c rfl pe_bl
theorem de_non {j : Nat} : DE X s (.Constant .none j pos) (wC .non) := de_c rfl pe_non
theorem de_str {x : Str} {j : Nat} : DE X s (.Constant (.str x) j pos) (wC (.str x)) := de_c rfl pe_str
theorem de_gint {x : Str} {i : Int} (hg : Gl X x) (hm : ∃ t, X.mg x = some (.int i t)) (hd : (x == ("__debug__" : Str)) = false := by decide) : DE X s (.Name x pos) (wC (.int i)) := by
  obtain ⟨t, hm⟩ := hm
  exact de_c rfl (pe_glob hg hm (v := .int i) ⟨t, rfl⟩ hd)
theorem de_gstr {x z : Str} (hg : Gl X x) (hm : ∃ t, X.mg x = some (.str z t)) (hd : (x == ("__debug__" : Str)) = false := by decide) : DE X s (.Name x pos) (wC (.str z)) := by
  obtain ⟨t, hm⟩ := hm
  exact de_c rfl (pe_glob hg hm (v := .str z) ⟨t, rfl⟩ hd)
/-- a tuple of scalars of the module -/
theorem de_gtup {x : Str} {a : Addr} {ds : List D} {vs : List V} (hg : Gl X x) (hm : X.mg x = some (.ref a)) (ht : KTup X.K a vs) (hv : ds.map toV = vs.map some) (hd : (x == ("__debug__" : Str)) = false := by decide) : DE X s (.Name x pos) (wC (.tup ds)) := by
  refine PE_imp (pe_glob hg hm (v := .ref a) rfl hd) ?_
  rintro σ H Q ⟨g, M, ρ, R, j, hw, k⟩
  exact k _ H _ Fr.refl j (rep_tup.mpr ⟨a, vs, rfl, .inr ht, (repL_toV hv).mpr rfl⟩) hw
/-- a built-in class as a value -/
theorem de_ty {x : Str} {n : String} (hg : Gl X x) (hm : X.mg x = none) (hv : bootBuiltins x = some (.type n)) (hn : x ≠ "__name__" := by decide) (hd : (x == ("__debug__" : Str)) = false := by decide) : DE X s (.Name x pos) (wC (.ty n)) := by
  refine PE_imp (pe_bltn hg hm hv (v := .ty n) rfl hn hd) ?_
  rintro σ H Q ⟨g, M, ρ, R, j, hw, k⟩
  exact k _ H _ Fr.refl j (by simp only [Rep]) hw

/-! ### strengths -/
def wImm (w : TDE) : TDE := fun ρ R => w ρ fun d => imm d = true ∧ R d
theorem de_imm {w : TDE} (h : DE X .t e w) : DE X s e (wImm w) := by
  refine PE_imp h ?_
  rintro σ H Q ⟨g, M, ρ, R, j, hw, k⟩
  exact ⟨g, M, ρ, _, j, hw, fun v H' d f j' r ⟨i, hR⟩ => k v H' d f j' (r.imm (fun _ _ e _ => e) i) hR⟩

/-! ### arguments -/
def wNil : TDA := fun _ R => R []
def wCons (w : TDE) (ws : TDA) : TDA := fun ρ R => w ρ fun d => ws ρ fun ds => R (d :: ds)
theorem da_nil : DA X [] [] wNil := by
  refine PA_imp pa_nil ?_
  rintro σ H Q ⟨g, M, ρ, R, j, hw, k⟩
  exact k [] H [] Fr.refl j ⟨rfl, rfl⟩ hw
theorem da_cons {es : List Expr} {ss : List Sg} {w : TDE} {ws : TDA} (h : DE X s e w) (hs : DA X ss es ws) (h1 : starEach (e :: es) X.env = (false, eval e X.env) :: starEach es X.env := by rfl) : DA X (s :: ss) (e :: es) (wCons w ws) := by
  refine PA_imp (pa_cons h hs h1) ?_
  rintro σ H Q ⟨g, M, ρ, R, j, hw, k⟩
  refine ⟨g, M, ρ, _, j, hw, fun v H1 d f1 j1 r1 hR => ⟨g, M, ρ, _, j1, hR, fun vs H2 ds f2 j2 r2 hR2 => ?_⟩⟩
  exact k _ H2 (d :: ds) (f1.trans f2) j2 ⟨d, ds, v, vs, rfl, rfl, r1.ov (f2.ov fun _ z => Gh.av_vol z), r2⟩ hR2
end
end Tr
end
section
namespace Tr
open PySem PySem.Spec L2

/-- what is promised of a result -/
abbrev Fin1 (K : PySem.W.Frag) (g : Gh) (M : Addr → Prop) (σ : L2.St) (ρ : Ev) (s : Sg) (H : Hp) (R : DK) (Q : VK) : Prop := ∀ v H' d, Fr (vol g.z) H H' → J K g M σ H' ρ → Rep K g.z (g.av M s) H' d v → R d → Q v H'
def Sem2 (K : PySem.W.Frag) (r : R2) (s1 s2 s : Sg) (sem : D → D → DK → Prop) : Prop := ∀ g M σ H ρ x y dx dy R Q, J K g M σ H ρ → Rep K g.z (g.av M s1) H dx x → Rep K g.z (g.av M s2) H dy y → sem dx dy R → Fin1 K g M σ ρ s H R Q → r x y H Q
def SemC (K : PySem.W.Frag) (r : List V → Hp → VK → Prop) (ss : List Sg) (s : Sg) (sem : List D → DK → Prop) : Prop := ∀ g M σ H ρ vs ds R Q, J K g M σ H ρ → RepA K g M H ss ds vs → sem ds R → Fin1 K g M σ ρ s H R Q → r vs H Q
def w2 (sem : D → D → DK → Prop) (wa wb : TDE) : TDE := fun ρ R => wa ρ fun x => wb ρ fun y => sem x y R
section
variable {X : Cx} {s s1 s2 : Sg} {e a b c : Expr} {pos : Pos} {wa wb wc : TDE} {r r' : R2} {sem sem' : D → D → DK → Prop}
theorem op_imp (hs : Sem2 X.K r s1 s2 s sem) : ∀ σ H Q, rdE X.K s (w2 sem wa wb) σ H Q → tOp r (rdE X.K s1 wa) (rdE X.K s2 wb) σ H Q := by
  rintro σ H Q ⟨g, M, ρ, R, j, hw, k⟩
  refine ⟨g, M, ρ, _, j, hw, fun x H1 dx f1 j1 r1 hR => ⟨g, M, ρ, _, j1, hR, fun y H2 dy f2 j2 r2 hR2 => ?_⟩⟩
  exact hs g M σ H2 ρ x y dx dy R Q j2 (r1.ov (f2.ov fun _ z => Gh.av_vol z)) r2 hR2 fun v H' d f => k v H' d ((f1.trans f2).trans f)
theorem de_bin {op : Operator} (ho : OpR X (binaryOp op) r) (hs : Sem2 X.K r s1 s2 s sem) (ha : DE X s1 a wa) (hb : DE X s2 b wb) : DE X s (.BinOp a op b pos) (w2 sem wa wb) := PE_imp (pe_op ho ha hb) (op_imp hs)
theorem de_cmp {op : CmpOp} (ho : OpR X (compareOp op) r) (hs : Sem2 X.K r s1 s2 s sem) (ha : DE X s1 a wa) (hb : DE X s2 b wb) (hm : behindInMarks op b = false := by first | exact nomark _ | rfl) : DE X s (.Compare a [op] [b] pos) (w2 sem wa wb) := PE_imp (pe_cmpR ho ha hb hm) (op_imp hs)
/-! tests -/
def wT (w : TDE) : TDT := fun ρ R => w ρ fun d => ∃ b, d = .bl b ∧ R b
theorem test_imp {w : TDE} : ∀ σ H Q, rdT X.K (wT w) σ H Q → tTest (rdE X.K s w) σ H Q := by
  rintro σ H Q ⟨g, M, ρ, R, j, hw, k⟩
  refine ⟨g, M, ρ, _, j, hw, fun v H' d f j' r ⟨b, e, hR⟩ => ?_⟩
  subst e
  exact ⟨b, rep_bl.mp r, k b H' f j' hR⟩
theorem dt_val {w : TDE} (h : DE X s e w) (he : ∀ whole, isTrue e X.env whole = (do let v ← whole; standAt e.pos; holding [v] (truthy v)) := by intro _; rfl) : DT X e (wT w) := PT_imp (pt_val h he) test_imp
theorem dt_cmp {op : CmpOp} (ho : OpR X (compareOp op) r) (hs : Sem2 X.K r s1 s2 s sem) (ha : DE X s1 a wa) (hb : DE X s2 b wb) (hm : behindInMarks op b = false := by first | exact nomark _ | rfl) : DT X (.Compare a [op] [b] pos) (wT (w2 sem wa wb)) := by
  refine PT_imp (pt_cmpR ho ha hb hm) ?_
  rintro σ H Q ⟨g, M, ρ, R, j, hw, k⟩
  refine op_imp hs σ H _ ⟨g, M, ρ, _, j, hw, fun v H' d f j' r ⟨b, e, hR⟩ => ?_⟩
  subst e
  exact ⟨b, rep_bl.mp r, k b H' f j' hR⟩
/-- a op b op' c -/
def wChain (sem sem' : D → D → DK → Prop) (wa wb wc : TDE) : TDE := fun ρ R => wa ρ fun x => wb ρ fun y => sem x y fun z => ∃ k, z = .bl k ∧ (if k = true then wc ρ fun u => sem' y u R else R (.bl false))
theorem chain_imp {s3 sx : Sg} (hs : Sem2 X.K r s1 s2 sx sem) (hs' : Sem2 X.K r' s2 s3 s sem') : ∀ σ H Q, rdE X.K s (wChain sem sem' wa wb wc) σ H Q → tChain r r' (rdE X.K s1 wa) (rdE X.K s2 wb) (rdE X.K s3 wc) σ H Q := by
  rintro σ H Q ⟨g, M, ρ, R, j, hw, k⟩
  refine ⟨g, M, ρ, _, j, hw, fun x H1 dx f1 j1 r1 hR => ⟨g, M, ρ, _, j1, hR, fun y H2 dy f2 j2 r2 hR2 => ?_⟩⟩
  refine hs g M σ H2 ρ x y dx dy _ _ j2 (r1.ov (f2.ov fun _ z => Gh.av_vol z)) r2 hR2 fun v H3 d f3 j3 r3 ⟨kk, e, hR3⟩ => ?_
  subst e
  refine ⟨kk, rep_bl.mp r3, ?_⟩
  cases kk with
  | false => exact k _ H3 _ ((f1.trans f2).trans f3) j3 (rep_bl.mpr rfl) hR3
  | true =>
    refine ⟨g, M, ρ, _, j3, hR3, fun u H4 du f4 j4 r4 hR4 => ?_⟩
    exact hs' g M σ H4 ρ y u dy du R Q j4 (r2.ov ((f3.trans f4).ov fun _ z => Gh.av_vol z)) r4 hR4 fun v H' d f => k v H' d ((((f1.trans f2).trans f3).trans f4).trans f)
theorem de_chain {s3 sx : Sg} {op op' : CmpOp} (ho : OpR X (compareOp op) r) (ho' : OpR X (compareOp op') r') (hs : Sem2 X.K r s1 s2 sx sem) (hs' : Sem2 X.K r' s2 s3 s sem') (ha : DE X s1 a wa) (hb : DE X s2 b wb) (hc : DE X s3 c wc)
    (hm : lastMarks [op, op'] [b, c] = false := by with_unfolding_all rfl) : DE X s (.Compare a [op, op'] [b, c] pos) (wChain sem sem' wa wb wc) := PE_imp (pe_chain ho ho' ha hb hc hm) (chain_imp hs hs')
theorem dt_chain {s3 sx : Sg} {op op' : CmpOp} (ho : OpR X (compareOp op) r) (ho' : OpR X (compareOp op') r') (hs : Sem2 X.K r s1 s2 sx sem) (hs' : Sem2 X.K r' s2 s3 s sem') (ha : DE X s1 a wa) (hb : DE X s2 b wb) (hc : DE X s3 c wc)
    (hm : lastMarks [op, op'] [b, c] = false := by with_unfolding_all rfl) : DT X (.Compare a [op, op'] [b, c] pos) (wT (wChain sem sem' wa wb wc)) := by
  refine PT_imp (pt_chain ho ho' ha hb hc hm) ?_
  rintro σ H Q ⟨g, M, ρ, R, j, hw, k⟩
  refine chain_imp hs hs' σ H _ ⟨g, M, ρ, _, j, hw, fun v H' d f j' r ⟨b, e, hR⟩ => ?_⟩
  subst e
  exact ⟨b, rep_bl.mp r, k b H' f j' hR⟩
/-! is None -/
def isNon : D → Bool
  | .non => true
  | _ => false
def wIsN (w : TDE) : TDE := fun ρ R => w ρ fun d => R (.bl (isNon d))
def wNotN (w : TDE) : TDE := fun ρ R => w ρ fun d => R (.bl (!isNon d))
theorem isN_of {K : PySem.W.Frag} {z : Zo} {A : Addr → Prop} {H : Hp} {d : D} {v : V} (r : Rep K z A H d v) : decide (v = .non) = isNon d := by
  cases d with
  | non => rw [rep_non.mp r]; rfl
  | bl b => rw [rep_bl.mp r]; rfl
  | int b => rw [rep_int.mp r]; rfl
  | str b => rw [rep_str.mp r]; rfl
  | lst b => obtain ⟨_, _, rfl, _⟩ := rep_lst.mp r; rfl
  | tup b => obtain ⟨_, _, rfl, _⟩ := rep_tup.mp r; rfl
  | dct b => obtain ⟨_, _, rfl, _⟩ := rep_dct.mp r; rfl
  | ins C b => obtain ⟨_, _, _, rfl, _⟩ := rep_ins.mp r; rfl
  | st => simp only [Rep] at r; obtain ⟨q, _, rfl⟩ := r; rfl
  | ty n => simp only [Rep] at r; subst r; rfl
  | adr n => simp only [Rep] at r; subst r; rfl
theorem isN_imp {w : TDE} : ∀ σ H Q, rdE X.K s1 (wIsN w) σ H Q → tIsN (rdE X.K s w) σ H Q := by
  rintro σ H Q ⟨g, M, ρ, R, j, hw, k⟩
  refine ⟨g, M, ρ, _, j, hw, fun v H' d f j' r hR => ?_⟩
  show Q _ H'
  rw [isN_of r]
  exact k _ H' _ f j' (rep_bl.mpr rfl) hR
theorem notN_imp {w : TDE} : ∀ σ H Q, rdE X.K s1 (wNotN w) σ H Q → tNotN (rdE X.K s w) σ H Q := by
  rintro σ H Q ⟨g, M, ρ, R, j, hw, k⟩
  refine ⟨g, M, ρ, _, j, hw, fun v H' d f j' r hR => ?_⟩
  show Q _ H'
  rw [isN_of r]
  exact k _ H' _ f j' (rep_bl.mpr rfl) hR
theorem de_isN {w : TDE} {j : Nat} {pos' : Pos} (ha : DE X s a w) : DE X s1 (.Compare a [.Is] [.Constant .none j pos'] pos) (wIsN w) := PE_imp (pe_cmp (pc_isN ha)) isN_imp
theorem de_notN {w : TDE} {j : Nat} {pos' : Pos} (ha : DE X s a w) : DE X s1 (.Compare a [.IsNot] [.Constant .none j pos'] pos) (wNotN w) := PE_imp (pe_cmp (pc_notN ha)) notN_imp
theorem tb_imp {w : TDE} {t : TE} (h : ∀ σ H Q, rdE X.K s w σ H Q → t σ H Q) : ∀ σ H Q, rdT X.K (wT w) σ H Q → tB t σ H Q := by
  rintro σ H Q ⟨g, M, ρ, R, j, hw, k⟩
  refine h σ H _ ⟨g, M, ρ, _, j, hw, fun v H' d f j' r ⟨b, e, hR⟩ => ?_⟩
  subst e
  exact ⟨b, rep_bl.mp r, k b H' f j' hR⟩
theorem dt_isN {w : TDE} {j : Nat} {pos' : Pos} (ha : DE X s a w) : DT X (.Compare a [.Is] [.Constant .none j pos'] pos) (wT (wIsN w)) := PT_imp (pt_cmp (pc_isN ha)) (tb_imp (s := .s) isN_imp)
theorem dt_notN {w : TDE} {j : Nat} {pos' : Pos} (ha : DE X s a w) : DT X (.Compare a [.IsNot] [.Constant .none j pos'] pos) (wT (wNotN w)) := PT_imp (pt_cmp (pc_notN ha)) (tb_imp (s := .s) notN_imp)
/-! and, or, not -/
def wAnd (t u : TDT) : TDT := fun ρ R => t ρ fun c => if c = true then u ρ R else R false
def wOr (t u : TDT) : TDT := fun ρ R => t ρ fun c => if c = true then R true else u ρ R
def wNot (t : TDT) : TDT := fun ρ R => t ρ fun c => R (!c)
theorem dw_pt {t : TDT} (h : DW X e t) : DT X e t := PW.pt h
theorem dw_and1 {t : TDT} (h : DT X a t) : DW X (.BoolOp .And [a] pos) t := pw_and1 h
theorem dw_or1 {t : TDT} (h : DT X a t) : DW X (.BoolOp .Or [a] pos) t := pw_or1 h
theorem dw_and {rest : List Expr} {t u : TDT} (ha : DT X a t) (hb : DW X (.BoolOp .And (b :: rest) pos) u) : DW X (.BoolOp .And (a :: b :: rest) pos) (wAnd t u) := by
  refine PW_imp (pw_and ha hb) ?_
  rintro σ H Q ⟨g, M, ρ, R, j, hw, k⟩
  refine ⟨g, M, ρ, _, j, hw, fun c H1 f1 j1 hR => ?_⟩
  cases c with
  | false => exact k false H1 f1 j1 hR
  | true => exact ⟨g, M, ρ, _, j1, hR, fun b H2 f2 => k b H2 (f1.trans f2)⟩
theorem dw_or {rest : List Expr} {t u : TDT} (ha : DT X a t) (hb : DW X (.BoolOp .Or (b :: rest) pos) u) : DW X (.BoolOp .Or (a :: b :: rest) pos) (wOr t u) := by
  refine PW_imp (pw_or ha hb) ?_
  rintro σ H Q ⟨g, M, ρ, R, j, hw, k⟩
  refine ⟨g, M, ρ, _, j, hw, fun c H1 f1 j1 hR => ?_⟩
  cases c with
  | true => exact k true H1 f1 j1 hR
  | false => exact ⟨g, M, ρ, _, j1, hR, fun b H2 f2 => k b H2 (f1.trans f2)⟩
theorem dt_not {t : TDT} (ha : DT X a t) : DT X (.UnaryOp .Not a pos) (wNot t) := by
  refine PT_imp (pt_not ha) ?_
  rintro σ H Q ⟨g, M, ρ, R, j, hw, k⟩
  exact ⟨g, M, ρ, _, j, hw, fun c H1 f1 j1 hR => k (!c) H1 f1 j1 hR⟩
/-! as values -/
def wAndV (wa wb : TDE) : TDE := fun ρ R => wa ρ fun x => ∃ c, x = .bl c ∧ if c = true then wb ρ R else R (.bl false)
def wOrV (wa wb : TDE) : TDE := fun ρ R => wa ρ fun x => ∃ c, x = .bl c ∧ if c = true then R (.bl true) else wb ρ R
def wNotV (wa : TDE) : TDE := fun ρ R => wa ρ fun x => ∃ c, x = .bl c ∧ R (.bl (!c))
theorem de_one {op : BoolOp} {w : TDE} (h : DE X s a w) : DE X s (.BoolOp op [a] pos) w := pe_one h
theorem de_and {rest : List Expr} (ha : DE X s a wa) (hb : DE X s (.BoolOp .And (b :: rest) pos) wb) : DE X s (.BoolOp .And (a :: b :: rest) pos) (wAndV wa wb) := by
  refine PE_imp (pe_and ha hb) ?_
  rintro σ H Q ⟨g, M, ρ, R, j, hw, k⟩
  refine ⟨g, M, ρ, _, j, hw, fun v H1 d f1 j1 r1 ⟨c, e, hR⟩ => ?_⟩
  subst e
  refine ⟨c, rep_bl.mp r1, ?_⟩
  cases c with
  | false => exact k _ H1 _ f1 j1 (rep_bl.mpr rfl) hR
  | true => exact ⟨g, M, ρ, _, j1, hR, fun v H2 d f2 => k v H2 d (f1.trans f2)⟩
theorem de_or {rest : List Expr} (ha : DE X s a wa) (hb : DE X s (.BoolOp .Or (b :: rest) pos) wb) : DE X s (.BoolOp .Or (a :: b :: rest) pos) (wOrV wa wb) := by
  refine PE_imp (pe_or ha hb) ?_
  rintro σ H Q ⟨g, M, ρ, R, j, hw, k⟩
  refine ⟨g, M, ρ, _, j, hw, fun v H1 d f1 j1 r1 ⟨c, e, hR⟩ => ?_⟩
  subst e
  refine ⟨c, rep_bl.mp r1, ?_⟩
  cases c with
  | true => exact k _ H1 _ f1 j1 (rep_bl.mpr rfl) hR
  | false => exact ⟨g, M, ρ, _, j1, hR, fun v H2 d f2 => k v H2 d (f1.trans f2)⟩
theorem de_not (ha : DE X s1 a wa) : DE X s (.UnaryOp .Not a pos) (wNotV wa) := by
  refine PE_imp (pe_not ha) ?_
  rintro σ H Q ⟨g, M, ρ, R, j, hw, k⟩
  refine ⟨g, M, ρ, _, j, hw, fun v H1 d f1 j1 r1 ⟨c, e, hR⟩ => ?_⟩
  subst e
  exact ⟨c, rep_bl.mp r1, k _ H1 _ f1 j1 (rep_bl.mpr rfl) hR⟩
def wIf (t : TDT) (wa wb : TDE) : TDE := fun ρ R => t ρ fun c => if c = true then wa ρ R else wb ρ R
theorem de_if {t : TDT} (hc : DT X c t) (ha : DE X s a wa) (hb : DE X s b wb) : DE X s (.IfExp c a b pos) (wIf t wa wb) := by
  refine PE_imp (pe_ifExp hc ha hb) ?_
  rintro σ H Q ⟨g, M, ρ, R, j, hw, k⟩
  refine ⟨g, M, ρ, _, j, hw, fun c H1 f1 j1 hR => ?_⟩
  cases c with
  | true => exact ⟨g, M, ρ, _, j1, hR, fun v H2 d f2 => k v H2 d (f1.trans f2)⟩
  | false => exact ⟨g, M, ρ, _, j1, hR, fun v H2 d f2 => k v H2 d (f1.trans f2)⟩
end
end Tr
end
section
namespace Tr
open PySem PySem.Spec L2

/-! ### operators -/
section
variable {K : PySem.W.Frag} {s s1 s2 : Sg}
def semI (C : Int → Int → Prop) (f : Int → Int → Int) : D → D → DK → Prop := fun x y R => ∃ i j, x = .int i ∧ y = .int j ∧ C i j ∧ R (.int (f i j))
def semI0 (f : Int → Int → Int) : D → D → DK → Prop := fun x y R => ∃ i j, x = .int i ∧ y = .int j ∧ R (.int (f i j))
def semP (p : Int → Int → Bool) : D → D → DK → Prop := fun x y R => ∃ i j, x = .int i ∧ y = .int j ∧ R (.bl (p i j))
theorem sem_I {C : Int → Int → Prop} {f : Int → Int → Int} : Sem2 K (rI C fun i j => .int (f i j)) s1 s2 s (semI C f) := by
  rintro g M σ H ρ x y dx dy R Q j r1 r2 ⟨i, k, rfl, rfl, c, h⟩ fin
  exact ⟨i, k, rep_int.mp r1, rep_int.mp r2, c, fin _ H _ Fr.refl j (rep_int.mpr rfl) h⟩
theorem sem_I0 {f : Int → Int → Int} : Sem2 K (rI0 fun i j => .int (f i j)) s1 s2 s (semI0 f) := by
  rintro g M σ H ρ x y dx dy R Q j r1 r2 ⟨i, k, rfl, rfl, h⟩ fin
  exact ⟨i, k, rep_int.mp r1, rep_int.mp r2, fin _ H _ Fr.refl j (rep_int.mpr rfl) h⟩
theorem sem_P {p : Int → Int → Bool} : Sem2 K (rI0 fun i j => .bl (p i j)) s1 s2 s (semP p) := by
  rintro g M σ H ρ x y dx dy R Q j r1 r2 ⟨i, k, rfl, rfl, h⟩ fin
  exact ⟨i, k, rep_int.mp r1, rep_int.mp r2, fin _ H _ Fr.refl j (rep_bl.mpr rfl) h⟩
/-- == of scalars -/
def eqSc : D → D → Option Bool
  | .non, .non => some true
  | .non, .int _ => some false
  | .int _, .non => some false
  | .non, .bl _ => some false
  | .bl _, .non => some false
  | .non, .str _ => some false
  | .str _, .non => some false
  | .int a, .int b => some (decide (a = b))
  | .bl a, .bl b => some (decide (a = b))
  | .str a, .str b => some (decide (a = b))
  | _, _ => none
def semEq : D → D → DK → Prop := fun x y R => ∃ b, eqSc x y = some b ∧ R (.bl b)
def semNe : D → D → DK → Prop := fun x y R => ∃ b, eqSc x y = some b ∧ R (.bl (!b))
theorem eqSc_ok {z : Zo} {A A' : Addr → Prop} {H : Hp} {dx dy : D} {x y : V} {b : Bool} (e : eqSc dx dy = some b) (r1 : Rep K z A H dx x) (r2 : Rep K z A' H dy y) : scal x y = true ∧ decide (x = y) = b := by
  unfold eqSc at e
  split at e <;> first
    | (cases e; rw [rep_non.mp r1, rep_non.mp r2]; exact ⟨rfl, by simp⟩)
    | (cases e; rw [rep_non.mp r1, rep_int.mp r2]; exact ⟨rfl, by simp⟩)
    | (cases e; rw [rep_int.mp r1, rep_non.mp r2]; exact ⟨rfl, by simp⟩)
    | (cases e; rw [rep_non.mp r1, rep_bl.mp r2]; exact ⟨rfl, by simp⟩)
    | (cases e; rw [rep_bl.mp r1, rep_non.mp r2]; exact ⟨rfl, by simp⟩)
    | (cases e; rw [rep_non.mp r1, rep_str.mp r2]; exact ⟨rfl, by simp⟩)
    | (cases e; rw [rep_str.mp r1, rep_non.mp r2]; exact ⟨rfl, by simp⟩)
    | (cases e; rw [rep_int.mp r1, rep_int.mp r2]; exact ⟨rfl, by simp⟩)
    | (cases e; rw [rep_bl.mp r1, rep_bl.mp r2]; exact ⟨rfl, by simp⟩)
    | (cases e; rw [rep_str.mp r1, rep_str.mp r2]; exact ⟨rfl, by simp⟩)
    | cases e
theorem sem_Eq : Sem2 K rEq s1 s2 s semEq := by
  rintro g M σ H ρ x y dx dy R Q j r1 r2 ⟨b, e, h⟩ fin
  obtain ⟨h1, h2⟩ := eqSc_ok e r1 r2
  exact ⟨h1, by rw [h2]; exact fin _ H _ Fr.refl j (rep_bl.mpr rfl) h⟩
theorem sem_Ne : Sem2 K rNe s1 s2 s semNe := by
  rintro g M σ H ρ x y dx dy R Q j r1 r2 ⟨b, e, h⟩ fin
  obtain ⟨h1, h2⟩ := eqSc_ok e r1 r2
  exact ⟨h1, by rw [h2]; exact fin _ H _ Fr.refl j (rep_bl.mpr rfl) h⟩
/-! == of data without dicts: lists, tuples, scalars -/
mutual
def toPD : D → Option PyData
  | .non => some .none
  | .bl b => some (.bool b)
  | .int i => some (.int i)
  | .str x => some (.str x)
  | .lst ds => (toPDs ds).map .list
  | .tup ds => (toPDs ds).map .tuple
  | _ => none
def toPDs : List D → Option (List PyData)
  | [] => some []
  | d :: ds => match toPD d, toPDs ds with
    | some p, some ps => some (p :: ps)
    | _, _ => none
end
mutual
theorem toPD_ok {z : Zo} {A : Addr → Prop} {H : Hp} : ∀ {d : D} {p : PyData} {v : V}, toPD d = some p → Rep K z A H d v → Dp K H v p
  | .non, p, v, e, r => by simp only [toPD, Option.some.injEq] at e; subst e; rw [rep_non.mp r]; exact .non
  | .bl b, p, v, e, r => by simp only [toPD, Option.some.injEq] at e; subst e; rw [rep_bl.mp r]; exact .bl b
  | .int b, p, v, e, r => by simp only [toPD, Option.some.injEq] at e; subst e; rw [rep_int.mp r]; exact .int b
  | .str b, p, v, e, r => by simp only [toPD, Option.some.injEq] at e; subst e; rw [rep_str.mp r]; exact .str b
  | .lst ds, p, v, e, r => by
    simp only [toPD, Option.map_eq_some_iff] at e
    obtain ⟨ps, e1, rfl⟩ := e
    obtain ⟨a, vs, rfl, _, h, q⟩ := rep_lst.mp r
    exact .lst (sqL_of h) (toPDs_ok e1 q)
  | .tup ds, p, v, e, r => by
    simp only [toPD, Option.map_eq_some_iff] at e
    obtain ⟨ps, e1, rfl⟩ := e
    obtain ⟨a, vs, rfl, h, q⟩ := rep_tup.mp r
    exact .tup (sqT_of h) (toPDs_ok e1 q)
  | .dct _, p, v, e, r => by simp [toPD] at e
  | .ins _ _, p, v, e, r => by simp [toPD] at e
  | .st, p, v, e, r => by simp [toPD] at e
  | .ty _, p, v, e, r => by simp [toPD] at e
  | .adr _, p, v, e, r => by simp [toPD] at e
theorem toPDs_ok {z : Zo} {A : Addr → Prop} {H : Hp} : ∀ {ds : List D} {ps : List PyData} {vs : List V}, toPDs ds = some ps → RepL K z A H ds vs → DpAll K H vs ps
  | [], ps, vs, e, r => by simp only [toPDs, Option.some.injEq] at e; subst e; rw [repL_nil.mp r]; exact .nil
  | d :: ds, ps, vs, e, r => by
    obtain ⟨u, us, rfl, r1, r2⟩ := repL_cons.mp r
    simp only [toPDs] at e
    split at e
    · rename_i p ps' h1 h2
      cases e
      exact .cons (toPD_ok h1 r1) (toPDs_ok h2 r2)
    · cases e
end
def semEqD : D → D → DK → Prop := fun x y R => ∃ p q, toPD x = some p ∧ toPD y = some q ∧ SeqAt.shaped p = true ∧ SeqAt.shaped q = true ∧ R (.bl (PyData.eqv p q))
def semNeD : D → D → DK → Prop := fun x y R => ∃ p q, toPD x = some p ∧ toPD y = some q ∧ SeqAt.shaped p = true ∧ SeqAt.shaped q = true ∧ R (.bl (!PyData.eqv p q))
theorem sem_EqD : Sem2 K (rEqD K) s1 s2 s semEqD := by
  rintro g M σ H ρ x y dx dy R Q j r1 r2 ⟨p, q, h1, h2, h3, h4, h⟩ fin
  exact ⟨p, q, toPD_ok h1 r1, toPD_ok h2 r2, h3, h4, fin _ H _ Fr.refl j (rep_bl.mpr rfl) h⟩
theorem sem_NeD : Sem2 K (rNeD K) s1 s2 s semNeD := by
  rintro g M σ H ρ x y dx dy R Q j r1 r2 ⟨p, q, h1, h2, h3, h4, h⟩ fin
  exact ⟨p, q, toPD_ok h1 r1, toPD_ok h2 r2, h3, h4, fin _ H _ Fr.refl j (rep_bl.mpr rfl) h⟩
/-- in a list or tuple of scalars -/
def itemsOf : D → Option (List D)
  | .lst ds => some ds
  | .tup ds => some ds
  | _ => none
def eqScV (x : V) (d : D) : Bool := match toV d with
  | some v => eqV v x
  | none => false
def semIn (neg : Bool) : D → D → DK → Prop := fun x y R => ∃ v ds vs, toV x = some v ∧ itemsOf y = some ds ∧ ds.map toV = vs.map some ∧ R (.bl (if neg then !inV v vs else inV v vs))
theorem toV_flat {d : D} {v : V} (h : toV d = some v) : flatV v = true := by cases d <;> first | (cases h; rfl) | cases h
theorem toV_all : ∀ {ds : List D} {vs : List V}, ds.map toV = vs.map some → vs.all flatV = true
  | [], [], _ => rfl
  | [], _ :: _, h => by simp at h
  | _ :: _, [], h => by simp at h
  | d :: ds, v :: vs, h => by
    simp only [List.map_cons, List.cons.injEq] at h
    rw [List.all_cons, toV_flat h.1, toV_all h.2]; rfl
theorem items_sq {z : Zo} {A : Addr → Prop} {H : Hp} {d : D} {ds : List D} {v : V} (e : itemsOf d = some ds) (r : Rep K z A H d v) : ∃ a vs, v = .ref a ∧ (SqL K H a vs ∨ SqT K H a vs) ∧ RepL K z A H ds vs := by
  cases d <;> first | cases e | skip
  · obtain ⟨a, vs, rfl, _, h, q⟩ := rep_lst.mp r; exact ⟨a, vs, rfl, .inl (sqL_of h), q⟩
  · obtain ⟨a, vs, rfl, h, q⟩ := rep_tup.mp r; exact ⟨a, vs, rfl, .inr (sqT_of h), q⟩
theorem sem_In {neg : Bool} : Sem2 K (rIn K neg) s1 s2 s (semIn neg) := by
  rintro g M σ H ρ x y dx dy R Q j r1 r2 ⟨v, ds, vs, h1, h2, h3, h⟩ fin
  obtain ⟨a, us, rfl, h4, h5⟩ := items_sq h2 r2
  rw [(rep_toV h1).mp r1]
  rw [(repL_toV h3).mp h5] at h4
  exact ⟨a, vs, rfl, h4, toV_flat h1, toV_all h3, fin _ H _ Fr.refl j (rep_bl.mpr rfl) h⟩
/-- one sign in a text -/
def semInS (neg : Bool) : D → D → DK → Prop := fun x y R => ∃ c z, x = .str ⟨#[c]⟩ ∧ y = .str z ∧ R (.bl (if neg then !decide (c ∈ z.cps.toList) else decide (c ∈ z.cps.toList)))
theorem sem_InS : Sem2 K (fun x y H Q => ∃ (c : Nat) (z : Str), x = .str ⟨#[c]⟩ ∧ y = .str z ∧ Q (.bl (decide (c ∈ z.cps.toList))) H) s1 s2 s (semInS false) := by
  rintro g M σ H ρ x y dx dy R Q j r1 r2 ⟨c, z, rfl, rfl, h⟩ fin
  exact ⟨c, z, rep_str.mp r1, rep_str.mp r2, fin _ H _ Fr.refl j (rep_bl.mpr rfl) h⟩
/-! list + list -/
def rCatR : R2 := fun x y H Q => ∃ l b xs zs, x = .ref l ∧ y = .ref b ∧ Rd H l (.lst xs) ∧ Rd H b (.lst zs) ∧ xs.length + zs.length ≤ sizeLine ∧ ∀ p, H p = none → Q (.ref p) (upd H p (.lst (xs ++ zs)))
theorem op_catR {X : Cx} : OpR X (binaryOp .Add) rCatR := by
  intro pins s σ H x y v u Q I rx ry h
  obtain ⟨l, b, xs, zs, rfl, rfl, hH, hB, hz, q⟩ := h
  cases rx
  cases ry
  obtain ⟨z, its, n, r, e⟩ := hH.ok I.hok
  obtain ⟨z2, its2, n2, r2, e2⟩ := hB.ok I.hok
  have l1 := r.length
  have l2 := r2.length
  refine PySem.P.add_list e e2 ?_ (by rw [List.size_toArray, List.size_toArray]; omega)
  have ea : its.toArray ++ its2.toArray = (its ++ its2).toArray := by simp
  rw [ea]
  exact ⟨.ref _, _, I.lnew (t' := s.toks) (r.append r2) (by rw [List.length_append]; omega), rfl, q _ I.fresh⟩
def semCat : D → D → DK → Prop := fun x y R => ∃ ds es, x = .lst ds ∧ y = .lst es ∧ ds.length + es.length ≤ sizeLine ∧ R (.lst (ds ++ es))
/-- a new list -/
theorem fin_lst {g : Gh} {M : Addr → Prop} {σ : L2.St} {H : Hp} {ρ : Ev} {R : DK} {Q : VK} {ds : List D} {vs : List V} (j : J K g M σ H ρ) (r : RepL K g.z (g.av M s) H ds vs) (h : R (.lst ds)) (fin : Fin1 K g M σ ρ s H R Q) :
    ∀ p, H p = none → Q (.ref p) (upd H p (.lst vs)) := fun p hp => by
  refine fin _ _ _ (Fr.laid hp) (j.laid hp) (rep_lst.mpr ⟨p, vs, rfl, j.nav hp s, nz_lst upd_same, r.ov ((Fr.laid (A := vol g.z) hp).ov fun _ z => Gh.av_vol z)⟩) h
theorem fin_tup {g : Gh} {M : Addr → Prop} {σ : L2.St} {H : Hp} {ρ : Ev} {R : DK} {Q : VK} {ds : List D} {vs : List V} (j : J K g M σ H ρ) (r : RepL K g.z (g.av M s) H ds vs) (h : R (.tup ds)) (fin : Fin1 K g M σ ρ s H R Q) :
    ∀ p, H p = none → Q (.ref p) (upd H p (.tup vs)) := fun p hp => by
  refine fin _ _ _ (Fr.laid hp) (j.laid hp) (rep_tup.mpr ⟨p, vs, rfl, .inl (nz_tup upd_same), r.ov ((Fr.laid (A := vol g.z) hp).ov fun _ z => Gh.av_vol z)⟩) h
theorem fin_dct {g : Gh} {M : Addr → Prop} {σ : L2.St} {H : Hp} {ρ : Ev} {R : DK} {Q : VK} {ds : List (Key × D)} {vs : List (Key × V)} (j : J K g M σ H ρ) (r : RepK K g.z (g.av M s) H ds vs) (h : R (.dct ds)) (fin : Fin1 K g M σ ρ s H R Q) :
    ∀ p, H p = none → Q (.ref p) (upd H p (.dK vs)) := fun p hp => by
  refine fin _ _ _ (Fr.laid hp) (j.laid hp) (rep_dct.mpr ⟨p, vs, rfl, j.nav hp s, nz_dK upd_same, r.ov ((Fr.laid (A := vol g.z) hp).ov fun _ z => Gh.av_vol z)⟩) h
theorem sem_Cat : Sem2 K rCatR s s s semCat := by
  rintro g M σ H ρ x y dx dy R Q j r1 r2 ⟨ds, es, rfl, rfl, hz, h⟩ fin
  obtain ⟨a, vs, rfl, _, h1, q1⟩ := rep_lst.mp r1
  obtain ⟨b, us, rfl, _, h2, q2⟩ := rep_lst.mp r2
  exact ⟨a, b, vs, us, rfl, rfl, rd_lst h1, rd_lst h2, by rw [q1.len, q2.len]; exact hz, fin_lst j (q1.app q2) h fin⟩
/-! indexing -/
theorem atI_rep {z : Zo} {A : Addr → Prop} {H : Hp} {ds : List D} {vs : List V} {i : Int} {d : D} (r : RepL K z A H ds vs) (e : atI ds i = some d) : ∃ v, atI vs i = some v ∧ Rep K z A H d v := by
  unfold atI at e ⊢
  rw [r.len]
  cases q : ixN ds.length i with
  | none => rw [q] at e; cases e
  | some n => rw [q] at e; exact r.get e
def semIx : D → D → DK → Prop := fun x y R => ∃ i, y = .int i ∧ ((∃ ds d, itemsOf x = some ds ∧ atI ds i = some d ∧ R d) ∨ ∃ z c, x = .str z ∧ z.length ≤ sizeLine ∧ atI z.cps.toList i = some c ∧ R (.str ⟨#[c]⟩))
theorem sem_Ix : Sem2 K (rIx K) s s2 s semIx := by
  rintro g M σ H ρ x y dx dy R Q j r1 r2 ⟨i, rfl, h⟩ fin
  have ey := rep_int.mp r2
  rcases h with ⟨ds, d, h1, h2, h3⟩ | ⟨z, c, rfl, h1, h2, h3⟩
  · obtain ⟨a, vs, rfl, h4, h5⟩ := items_sq h1 r1
    obtain ⟨v, h6, h7⟩ := atI_rep h5 h2
    have q := fin v H d Fr.refl j h7 h3
    rcases h4 with h4 | h4
    · exact .inl ⟨a, vs, i, v, rfl, ey, h4, h6, q⟩
    · exact .inr (.inl ⟨a, vs, i, v, rfl, ey, h4, h6, q⟩)
  · exact .inr (.inr ⟨z, i, c, rep_str.mp r1, ey, h1, h2, fin _ H _ Fr.refl j (rep_str.mpr rfl) h3⟩)
end
end Tr
end
section
namespace Tr
open PySem PySem.Spec L2
theorem RepA.all {K : PySem.W.Frag} {g : Gh} {M : Addr → Prop} {H : Hp} {s : Sg} : ∀ {ss : List Sg} {ds : List D} {vs : List V}, ss.all (fun q => decide (q = s)) = true → RepA K g M H ss ds vs → RepL K g.z (g.av M s) H ds vs ∧ ds.length = ss.length := by
  intro ss
  induction ss with
  | nil =>
    intro ds vs _ h
    obtain ⟨rfl, rfl⟩ := h
    exact ⟨repL_nil.mpr rfl, rfl⟩
  | cons q ss ih =>
    intro ds vs h r
    obtain ⟨d, ds', v, vs', e1, e2, r, rs⟩ := r
    rw [List.all_cons, Bool.and_eq_true] at h
    have e := of_decide_eq_true h.1
    subst e e1 e2
    obtain ⟨h1, h2⟩ := ih h.2 rs
    exact ⟨repL_cons.mpr ⟨v, vs', rfl, r, h1⟩, by rw [List.length_cons, List.length_cons, h2]⟩
def wCall (sem : List D → DK → Prop) (wa : TDA) : TDE := fun ρ R => wa ρ fun ds => sem ds R
section
variable {X : Cx} {s s1 s2 : Sg} {e a b c o : Expr} {es : List Expr} {pos p apos : Pos} {wa wb wc w : TDE} {ws : TDA} {ss : List Sg} {r : List V → Hp → VK → Prop} {sem : List D → DK → Prop} {x : Str}
theorem cb_imp (hs : SemC X.K r ss s sem) : ∀ σ H Q, rdE X.K s (wCall sem ws) σ H Q → tCB r (rdA X.K ss ws) σ H Q := by
  rintro σ H Q ⟨g, M, ρ, R, j, hw, k⟩
  exact ⟨g, M, ρ, _, j, hw, fun vs H1 ds f1 j1 r1 hR => hs g M σ H1 ρ vs ds R Q j1 r1 hR fun v H' d f => k v H' d (f1.trans f)⟩
theorem de_callB {id : String} (hc : CallR X (.builtin id) r) (hs : SemC X.K r ss s sem) (hg : Gl X x) (hm : X.mg x = none) (hv : bootBuiltins x = some (.builtin id)) (ha : DA X ss (e :: es) ws) (hn : x ≠ "__name__" := by decide) (hdb : (x == ("__debug__" : Str)) = false := by decide)
    (he : starEach (e :: es) X.env = (false, eval e X.env) :: starEach es X.env := by rfl) (hpl : (backTo pos (starEach es X.env)).any (·.1) = false := by rfl) : DE X s (.Call (.Name x p) (e :: es) [] pos) (wCall sem ws) := PE_imp (pe_callB hc hg hm hv ha hn hdb he hpl) (cb_imp hs)
theorem de_callTy {T : String} (hc : CallR X (.type T) r) (hs : SemC X.K r ss s sem) (hg : Gl X x) (hm : X.mg x = none) (hv : bootBuiltins x = some (.type T)) (ha : DA X ss (e :: es) ws) (hn : x ≠ "__name__" := by decide) (hdb : (x == ("__debug__" : Str)) = false := by decide)
    (he : starEach (e :: es) X.env = (false, eval e X.env) :: starEach es X.env := by rfl) (hpl : (backTo pos (starEach es X.env)).any (·.1) = false := by rfl) : DE X s (.Call (.Name x p) (e :: es) [] pos) (wCall sem ws) := PE_imp (pe_callTy hc hg hm hv ha hn hdb he hpl) (cb_imp hs)
/-! ### displays, subscripts -/
def wTup (ws : TDA) : TDE := fun ρ R => ws ρ fun ds => R (.tup ds)
def wLst (ws : TDA) : TDE := fun ρ R => ws ρ fun ds => R (.lst ds)
theorem de_tup {x1} (h : DA X ss es ws) (hs : ss.all (fun q => decide (q = s)) = true := by rfl) (hl : ss.length ≤ sizeLine := by decide) : DE X s (.Tuple es x1 pos) (wTup ws) := by
  refine PE_imp (pe_tup h) ?_
  rintro σ H Q ⟨g, M, ρ, R, j, hw, k⟩
  refine ⟨g, M, ρ, _, j, hw, fun vs H1 ds f1 j1 r1 hR => ?_⟩
  obtain ⟨h1, h2⟩ := r1.all hs
  exact ⟨by rw [h1.len, h2]; exact hl, fin_tup j1 h1 hR fun v H' d f => k v H' d (f1.trans f)⟩
theorem de_lst (h : DA X ss es ws) (hs : ss.all (fun q => decide (q = s)) = true := by rfl) (hl : ss.length ≤ sizeLine := by decide) : DE X s (.List es pos) (wLst ws) := by
  refine PE_imp (pe_lst h) ?_
  rintro σ H Q ⟨g, M, ρ, R, j, hw, k⟩
  refine ⟨g, M, ρ, _, j, hw, fun vs H1 ds f1 j1 r1 hR => ?_⟩
  obtain ⟨h1, h2⟩ := r1.all hs
  exact ⟨by rw [h1.len, h2]; exact hl, fin_lst j1 h1 hR fun v H' d f => k v H' d (f1.trans f)⟩
theorem de_ix (ha : DE X s a wa) (hb : DE X s2 b wb) (hs : PlainIx b := by exact fun _ _ => rfl) : DE X s (.Subscript a b pos) (w2 semIx wa wb) := PE_imp (pe_ix ix_seq ha hb hs) (op_imp sem_Ix)
/-! dicts -/
def keyD : D → Option Key
  | .int i => some (.inl i)
  | .str x => some (.inr x)
  | _ => none
theorem keyD_ok {K : PySem.W.Frag} {z : Zo} {A : Addr → Prop} {H : Hp} {d : D} {k : Key} {v : V} (h : keyD d = some k) (r : Rep K z A H d v) : v = kV k := by
  cases d <;> first | (cases h; exact rep_int.mp r) | (cases h; exact rep_str.mp r) | cases h
def wDGet (wd wk : TDE) : TDE := fun ρ R => wd ρ fun x => wk ρ fun y => ∃ kvs k d, x = .dct kvs ∧ keyD y = some k ∧ valD kvs k = some d ∧ R d
theorem de_dget (hu : X.A.units + 1 < cLine) (ha : DE X s a wa) (hb : DE X s2 b wb) (hs : NoSl b := by exact fun _ _ => rfl) : DE X s (.Subscript a b pos) (wDGet wa wb) := by
  refine PE_imp (pe_dget hu ha hb hs) ?_
  rintro σ H Q ⟨g, M, ρ, R, j, hw, k⟩
  refine ⟨g, M, ρ, _, j, hw, fun x H1 dx f1 j1 r1 hR => ⟨g, M, ρ, _, j1, hR, fun y H2 dy f2 j2 r2 ⟨kvs, kk, d, e1, e2, e3, hR2⟩ => ?_⟩⟩
  subst e1
  obtain ⟨q, us, rfl, _, h1, h2⟩ := rep_dct.mp (r1.ov (f2.ov fun _ z => Gh.av_vol z))
  rcases h2.val kk with ⟨n, _⟩ | ⟨d', v', h3, h4, h5⟩
  · rw [n] at e3; cases e3
  · rw [h3] at e3; cases e3
    exact ⟨q, v', rfl, .inl ⟨us, kk, rd_dK h1, keyD_ok e2 r2, h4.symm⟩, k v' H2 _ (f1.trans f2) j2 h5 hR2⟩
def wDIn (neg : Bool) (wk wd : TDE) : TDE := fun ρ R => wk ρ fun y => wd ρ fun x => ∃ kvs k, x = .dct kvs ∧ keyD y = some k ∧ R (.bl (if neg then !(valD kvs k).isSome else (valD kvs k).isSome))
theorem din_imp : ∀ σ H Q, rdE X.K s (wDIn false wa wb) σ H Q → tDIn (rdE X.K s1 wa) (rdE X.K s2 wb) σ H Q := by
  rintro σ H Q ⟨g, M, ρ, R, j, hw, k⟩
  refine ⟨g, M, ρ, _, j, hw, fun y H1 dy f1 j1 r1 hR => ⟨g, M, ρ, _, j1, hR, fun x H2 dx f2 j2 r2 ⟨kvs, kk, e1, e2, hR2⟩ => ?_⟩⟩
  subst e1
  obtain ⟨q, us, rfl, _, h1, h2⟩ := rep_dct.mp r2
  refine ⟨q, valV us kk, rfl, .inl ⟨us, kk, rd_dK h1, keyD_ok e2 r1, rfl⟩, ?_⟩
  have e : (valV us kk).isSome = (valD kvs kk).isSome := by
    rcases h2.val kk with ⟨n, m⟩ | ⟨d', v', h3, h4, h5⟩
    · rw [n, m]; rfl
    · rw [h3, h4]; rfl
  rw [e]
  exact k _ H2 _ (f1.trans f2) j2 (rep_bl.mpr rfl) hR2
theorem dnotin_imp : ∀ σ H Q, rdE X.K s (wDIn true wa wb) σ H Q → tDNotIn (rdE X.K s1 wa) (rdE X.K s2 wb) σ H Q := by
  rintro σ H Q ⟨g, M, ρ, R, j, hw, k⟩
  refine ⟨g, M, ρ, _, j, hw, fun y H1 dy f1 j1 r1 hR => ⟨g, M, ρ, _, j1, hR, fun x H2 dx f2 j2 r2 ⟨kvs, kk, e1, e2, hR2⟩ => ?_⟩⟩
  subst e1
  obtain ⟨q, us, rfl, _, h1, h2⟩ := rep_dct.mp r2
  refine ⟨q, valV us kk, rfl, .inl ⟨us, kk, rd_dK h1, keyD_ok e2 r1, rfl⟩, ?_⟩
  have e : (valV us kk).isSome = (valD kvs kk).isSome := by
    rcases h2.val kk with ⟨n, m⟩ | ⟨d', v', h3, h4, h5⟩
    · rw [n, m]; rfl
    · rw [h3, h4]; rfl
  rw [e]
  exact k _ H2 _ (f1.trans f2) j2 (rep_bl.mpr rfl) hR2
theorem de_din (hu : X.A.units + 1 < cLine) (ha : DE X s1 a wa) (hb : DE X s2 b wb) (h1 : behindInMarks .In b = false := by rfl) : DE X s (.Compare a [.In] [b] pos) (wDIn false wa wb) := PE_imp (pe_cmp (pc_din hu ha hb) h1) din_imp
theorem de_dnotin (hu : X.A.units + 1 < cLine) (ha : DE X s1 a wa) (hb : DE X s2 b wb) (h1 : behindInMarks .NotIn b = false := by rfl) : DE X s (.Compare a [.NotIn] [b] pos) (wDIn true wa wb) := PE_imp (pe_cmp (pc_dnotin hu ha hb) h1) dnotin_imp
theorem dt_din (hu : X.A.units + 1 < cLine) (ha : DE X s1 a wa) (hb : DE X s2 b wb) (h1 : behindInMarks .In b = false := by rfl) : DT X (.Compare a [.In] [b] pos) (wT (wDIn false wa wb)) := PT_imp (pt_cmp (pc_din hu ha hb) h1) (tb_imp (s := .s) din_imp)
theorem dt_dnotin (hu : X.A.units + 1 < cLine) (ha : DE X s1 a wa) (hb : DE X s2 b wb) (h1 : behindInMarks .NotIn b = false := by rfl) : DT X (.Compare a [.NotIn] [b] pos) (wT (wDIn true wa wb)) := PT_imp (pt_cmp (pc_dnotin hu ha hb) h1) (tb_imp (s := .s) dnotin_imp)
def wD0 : TDE := fun _ R => R (.dct [])
theorem de_d0 : DE X s (.Dict [] [] pos) wD0 := by
  refine PE_imp pe_dnewK ?_
  rintro σ H Q ⟨g, M, ρ, R, j, hw, k⟩
  exact fin_dct j (repK_nil.mpr rfl) hw k
/-- {k: v}, one pair -/
def wD1 (wk wv : TDE) : TDE := fun ρ R => wk ρ fun y => wv ρ fun d => ∃ k, keyD y = some k ∧ R (.dct [(k, d)])
theorem de_d1 (hk : DE X s1 a wa) (hv : DE X s b wb) (ht : s ≠ .t := by decide) : DE X s (.Dict [some a] [b] pos) (wD1 wa wb) := by
  refine PE_imp (pe_disp (pps_cons hk hv pps_nil) rfl rfl (fun z => by cases z) (by simp)) ?_
  rintro σ H Q ⟨g, M, ρ, R, j, hw, k⟩
  intro p hp
  have jp : J X.K g (plus M p) σ (upd H p (.dK [])) ρ := by
    have q := j.newO (o := .dK []) hp rfl (b := .non) σ.length trivial
    rwa [List.set_eq_of_length_le (Nat.le_refl _), List.set_eq_of_length_le (Nat.le_of_eq j.len)] at q
  refine ⟨g, plus M p, ρ, _, jp, hw, fun y H1 dy f1 j1 r1 hR => ⟨g, plus M p, ρ, _, j1, hR, fun v H2 d f2 j2 r2 ⟨kk, e, hR2⟩ => ?_⟩⟩
  have hp2 : H2 p = some (.dK []) := f2 p _ (f1 p _ upd_same fun z => absurd z (jp.nv p (.inr rfl))) fun z => absurd z (jp.nv p (.inr rfl))
  refine ⟨hp2, [(kk, v)], by rw [keyD_ok e r1]; rfl, by simp, ?_⟩
  have nvp := jp.nv p (.inr rfl)
  have fr : Fr (vol g.z) H (upd H2 p (.dK (mergeK [] [(kk, v)]))) := ⟨fun c u e' t => by
    have nc : c ≠ p := ne_of_none e' hp
    rw [upd_ne nc]
    exact f2 c u (f1 c u (by rw [upd_ne nc]; exact e') t) t, fun c x y e => by
    have e2 := f1.nl c x y (f2.nl c x y (nl_upd rfl c x y e))
    exact nl_upd (p := p) (o := .dK []) rfl c x y e2⟩
  refine k _ _ _ fr (j.go fr (j2.ok.store nvp)) (rep_dct.mpr ⟨p, [(kk, v)], rfl, j.nav hp s, nz_dK (by rw [upd_same]; rfl), repK_cons.mpr ⟨v, [], rfl, ?_, repK_nil.mpr rfl⟩⟩) hR2
  have q := r2.ov (ov_st (o := .dK (mergeK [] [(kk, v)])) ht j2 (.inr rfl))
  exact q.ov (Ov.less fun b hb => by
    cases s with
    | s => exact hb.elim .inl fun z => .inr (z.elim .inl fun z => .inr (.inl z))
    | w => exact hb.elim .inl fun z => .inr (.inl z)
    | t => exact absurd rfl ht)
end
end Tr
end
section
namespace Tr
open PySem PySem.Spec L2
open PyProof.Rows (sortedS risingS)

/-! ### the order of texts -/
def leS (a b : Str) : Bool := !ltCps b.cps.toList a.cps.toList
theorem ltc_irr : ∀ a : List Nat, ltCps a a = false
  | [] => rfl
  | a :: r => by simp [ltCps, ltc_irr r]
theorem ltc_asym : ∀ {a b : List Nat}, ltCps a b = false → ltCps b a = false → a = b
  | [], [], _, _ => rfl
  | [], _ :: _, h, _ => by simp [ltCps] at h
  | _ :: _, [], _, h => by simp [ltCps] at h
  | a :: r, b :: t, h1, h2 => by
    simp only [ltCps, Bool.or_eq_false_iff, decide_eq_false_iff_not, Bool.and_eq_false_iff, beq_eq_false_iff_ne] at h1 h2
    have e : a = b := by omega
    subst e
    have h3 : ltCps r t = false := h1.2.elim (fun z => absurd rfl z) id
    have h4 : ltCps t r = false := h2.2.elim (fun z => absurd rfl z) id
    rw [ltc_asym h3 h4]
theorem ltc_trans : ∀ {a b c : List Nat}, ltCps b a = false → ltCps c b = false → ltCps c a = false
  | [], _, [], _, _ => rfl
  | [], [], _ :: _, _, h => h
  | [], _ :: _, _ :: _, h, _ => by simp [ltCps]
  | _ :: _, [], _, h, _ => by simp [ltCps] at h
  | _ :: _, _ :: _, [], _, h => by simp [ltCps] at h
  | a :: r, b :: t, c :: u, h1, h2 => by
    simp only [ltCps, Bool.or_eq_false_iff, decide_eq_false_iff_not, Bool.and_eq_false_iff, beq_eq_false_iff_ne] at h1 h2 ⊢
    refine ⟨by omega, ?_⟩
    by_cases e : c = a
    · subst e
      have e2 : b = c := by omega
      subst e2
      exact .inr (ltc_trans (h1.2.elim (fun z => absurd rfl z) id) (h2.2.elim (fun z => absurd rfl z) id))
    · exact .inl e
theorem ltc_total : ∀ a b : List Nat, ltCps a b = false ∨ ltCps b a = false
  | [], [] => .inl rfl
  | [], _ :: _ => .inr rfl
  | _ :: _, [] => .inl rfl
  | a :: r, b :: t => by
    simp only [ltCps, Bool.or_eq_false_iff, decide_eq_false_iff_not, Bool.and_eq_false_iff, beq_eq_false_iff_ne]
    rcases Nat.lt_trichotomy a b with h | h | h
    · exact .inr ⟨by omega, .inl (by omega)⟩
    · subst h
      rcases ltc_total r t with q | q
      · exact .inl ⟨by omega, .inr q⟩
      · exact .inr ⟨by omega, .inr q⟩
    · exact .inl ⟨by omega, .inl (by omega)⟩
theorem leS_refl (a : Str) : leS a a = true := by unfold leS; rw [ltc_irr]; rfl
theorem leS_trans {a b c : Str} (h1 : leS a b = true) (h2 : leS b c = true) : leS a c = true := by
  unfold leS at *
  rw [Bool.not_eq_true'] at *
  exact ltc_trans h1 h2
theorem leS_total (a b : Str) : (leS a b || leS b a) = true := by
  unfold leS
  rcases ltc_total b.cps.toList a.cps.toList with h | h <;> rw [h] <;> simp
theorem leS_anti {a b : Str} (h1 : leS a b = true) (h2 : leS b a = true) : a = b := by
  unfold leS at *
  rw [Bool.not_eq_true'] at *
  have e := ltc_asym h2 h1
  obtain ⟨a⟩ := a
  obtain ⟨b⟩ := b
  simp only at e
  rw [Array.toList_inj.mp e]
/-- the sorted list -/
def srt (xs : List Str) : List Str := xs.mergeSort leS
theorem srt_perm (xs : List Str) : (srt xs).Perm xs := List.mergeSort_perm xs leS
theorem srt_sorted (xs : List Str) : (srt xs).Pairwise (fun a b => leS a b = true) := List.pairwise_mergeSort (le := leS) (fun a b c => leS_trans) leS_total xs
theorem rising_pw : ∀ (p : Str) (l : List Str), risingS p l = true → (p :: l).Pairwise (fun a b => leS a b = true)
  | p, [], _ => by simp
  | p, x :: r, h => by
    simp only [risingS, Bool.and_eq_true] at h
    have ih := rising_pw x r h.2
    refine List.pairwise_cons.mpr ⟨fun y hy => ?_, ih⟩
    have h1 : leS p x = true := h.1
    rcases List.mem_cons.mp hy with rfl | hy
    · exact h1
    · exact leS_trans h1 ((List.pairwise_cons.mp ih).1 y hy)
theorem sortedS_pw : ∀ {l : List Str}, sortedS l = true → l.Pairwise (fun a b => leS a b = true)
  | [], _ => by simp
  | x :: r, h => rising_pw x r h
theorem srt_uniq {xs ys : List Str} (hp : ys.Perm xs) (hs : ys.Pairwise (fun a b => leS a b = true)) : ys = srt xs :=
  List.Perm.eq_of_pairwise (le := fun a b => leS a b = true) (fun _ _ _ _ h1 h2 => leS_anti h1 h2) hs (srt_sorted xs) (hp.trans (srt_perm xs).symm)
theorem srt_of_perm {xs ys : List Str} (hp : ys.Perm xs) : srt ys = srt xs := srt_uniq ((srt_perm ys).trans hp) (srt_sorted ys)
theorem srt_id {xs : List Str} (h : xs.Pairwise (fun a b => leS a b = true)) : srt xs = xs := (srt_uniq (List.Perm.refl xs) h).symm
theorem srt_len (xs : List Str) : (srt xs).length = xs.length := (srt_perm xs).length_eq

/-! ### built-ins -/
theorem repA1 {K : PySem.W.Frag} {g : Gh} {M : Addr → Prop} {H : Hp} {s : Sg} {d : D} {vs : List V} (r : RepA K g M H [s] [d] vs) : ∃ v, vs = [v] ∧ Rep K g.z (g.av M s) H d v := by
  obtain ⟨d', ds', v, vs', e1, e2, r, e3, e4⟩ := r
  cases e1
  subst e2 e4
  exact ⟨v, rfl, r⟩
theorem repA2 {K : PySem.W.Frag} {g : Gh} {M : Addr → Prop} {H : Hp} {s s' : Sg} {d d' : D} {vs : List V} (r : RepA K g M H [s, s'] [d, d'] vs) : ∃ v v', vs = [v, v'] ∧ Rep K g.z (g.av M s) H d v ∧ Rep K g.z (g.av M s') H d' v' := by
  obtain ⟨d1, ds', v, vs', e1, e2, r, rs⟩ := r
  cases e1
  subst e2
  obtain ⟨v', rfl, r'⟩ := repA1 rs
  exact ⟨v, v', rfl, r, r'⟩
section
variable {X : Cx} {K : PySem.W.Frag} {s s1 s2 : Sg}
theorem call_lenR : CallR X (.builtin "len") (fun xs H Q => ∃ a kvs, xs = [V.ref a] ∧ Rd H a (.dK kvs) ∧ Q (.int kvs.length) H) := by
  intro pins s σ H xs us Q I r h
  obtain ⟨a, kvs, rfl, ha, q⟩ := h
  obtain ⟨u, rfl, ru⟩ := vals1 r
  cases ru
  exact d_len I ha fun t s' I' => ⟨.int kvs.length, H, I', ⟨t, rfl⟩, q⟩
def lenD : D → Option Nat
  | .lst ds => some ds.length
  | .tup ds => some ds.length
  | .dct ds => some ds.length
  | .str x => if x.length ≤ sizeLine then some x.length else none
  | _ => none
def semLen : List D → DK → Prop := fun ds R => ∃ d n, ds = [d] ∧ lenD d = some n ∧ R (.int n)
theorem sem_len : SemC K (fun xs H Q => (∃ p ys, xs = [.ref p] ∧ (SqL K H p ys ∨ SqT K H p ys) ∧ Q (.int ys.length) H) ∨ ((∃ z : Str, xs = [.str z] ∧ z.length ≤ sizeLine ∧ Q (.int z.length) H) ∨ ∃ a kvs, xs = [V.ref a] ∧ Rd H a (.dK kvs) ∧ Q (.int kvs.length) H)) [s1] s semLen := by
  rintro g M σ H ρ vs ds R Q j r0 ⟨d, n, rfl, e, h⟩ fin
  obtain ⟨v, rfl, r⟩ := repA1 r0
  have q := fin (.int n) H _ Fr.refl j (rep_int.mpr rfl) h
  unfold lenD at e
  split at e
  · cases e
    obtain ⟨a, vs, rfl, _, h1, h2⟩ := rep_lst.mp r
    exact .inl ⟨a, vs, rfl, .inl (sqL_of h1), by rw [h2.len]; exact q⟩
  · cases e
    obtain ⟨a, vs, rfl, h1, h2⟩ := rep_tup.mp r
    exact .inl ⟨a, vs, rfl, .inr (sqT_of h1), by rw [h2.len]; exact q⟩
  · cases e
    obtain ⟨a, vs, rfl, _, h1, h2⟩ := rep_dct.mp r
    exact .inr (.inr ⟨a, vs, rfl, rd_dK h1, by rw [h2.len]; exact q⟩)
  · split at e
    · cases e
      rename_i hz
      have ev := rep_str.mp r
      subst ev
      exact .inr (.inl ⟨_, rfl, hz, q⟩)
    · cases e
  · cases e
theorem c_len : CallR X (.builtin "len") (fun xs H Q => (∃ p ys, xs = [.ref p] ∧ (SqL X.K H p ys ∨ SqT X.K H p ys) ∧ Q (.int ys.length) H) ∨ ((∃ z : Str, xs = [.str z] ∧ z.length ≤ sizeLine ∧ Q (.int z.length) H) ∨ ∃ a kvs, xs = [V.ref a] ∧ Rd H a (.dK kvs) ∧ Q (.int kvs.length) H)) :=
  CallR.or call_len_seq (CallR.or call_len_str call_lenR)
/-! isinstance, of a built-in class -/
def tyN : D → String
  | .non => "NoneType"
  | .bl _ => "bool"
  | .int _ => "int"
  | .str _ => "str"
  | .lst _ => "list"
  | .tup _ => "tuple"
  | .dct _ => "dict"
  | .st => "list"
  | _ => ""
def plainD : D → Bool
  | .ins _ _ => false
  | .ty _ => false
  | .adr _ => false
  | _ => true
theorem ty_ok {z : Zo} {A : Addr → Prop} {H : Hp} {d : D} {v : V} (hz : StOk z H) (h : plainD d = true) (r : Rep K z A H d v) : TyX K H v (.type (tyN d)) := by
  cases d with
  | non => rw [rep_non.mp r]; exact .base .non
  | bl b => rw [rep_bl.mp r]; exact .base (.bl b)
  | int b => rw [rep_int.mp r]; exact .base (.int b)
  | str b => rw [rep_str.mp r]; exact .base (.str b)
  | lst ds =>
    obtain ⟨a, vs, rfl, _, h1, _⟩ := rep_lst.mp r
    rcases nz_cases h1 with h2 | ⟨o, h2⟩
    · exact .base (.lst h2)
    · exact .base (.frz h2)
  | tup ds =>
    obtain ⟨a, vs, rfl, h1, _⟩ := rep_tup.mp r
    rcases h1 with h1 | ⟨o, its, n, h1, h2, _⟩
    · exact .base (.tup (raw_tup h1))
    · exact .kTuple h1 h2
  | dct ds =>
    obtain ⟨a, vs, rfl, _, h1, _⟩ := rep_dct.mp r
    rcases nz_cases h1 with h2 | ⟨o, h2⟩
    · exact .base (.dK h2)
    · exact .fDict h2
  | st =>
    simp only [Rep] at r
    obtain ⟨q, rfl, rfl⟩ := r
    obtain ⟨_, _, _, _, h1, _⟩ := hz
    exact .base (.lst h1)
  | ins C fs => cases h
  | ty n => cases h
  | adr n => cases h
def isi1 (d : D) (T : String) : Option Bool := if plainD d = true then kitB (tyN d) T else none
def semIsi : List D → DK → Prop := fun ds R => ∃ d T b, ds = [d, .ty T] ∧ isi1 d T = some b ∧ R (.bl b)
theorem sem_isi : SemC K (rIsi K) [s1, s2] s semIsi := by
  rintro g M σ H ρ vs ds R Q j r ⟨d, T, b, rfl, e, h⟩ fin
  obtain ⟨v, v', rfl, r1, r2⟩ := repA2 r
  unfold isi1 at e
  split at e
  · rename_i hp
    have e2 : v' = .ty T := by simpa only [Rep] using r2
    subst e2
    exact ⟨v, .ty T, _, _, b, rfl, .ty T, ty_ok j.ok hp r1, kit_ty e, fin _ H _ Fr.refl j (rep_bl.mpr rfl) h⟩
  · cases e
end
end Tr
end
section
namespace Tr
open PySem PySem.Spec L2
open PyProof.Rows (sortedS risingS)
section
variable {X : Cx} {K : PySem.W.Frag} {s s1 s2 : Sg}
/-! isinstance(x, (T, U)) -/
def isiN (d : D) (Ts : List String) : Option Bool := if plainD d = true then PySem.W.kitAny K (.type (tyN d)) (Ts.map Value.type) else none
def semIsiT (K : PySem.W.Frag) : List D → DK → Prop := fun ds R => ∃ (d : D) (Ts : List String) (b : Bool), ds = [d, .tup (Ts.map D.ty)] ∧ isiN (K := K) d Ts = some b ∧ R (.bl b)
theorem rep_tys {z : Zo} {A : Addr → Prop} {H : Hp} : ∀ {Ts : List String} {vs : List V}, RepL K z A H (Ts.map D.ty) vs → vs = Ts.map V.ty
  | [], vs, r => repL_nil.mp r
  | T :: Ts, vs, r => by
    obtain ⟨u, us, rfl, r1, r2⟩ := repL_cons.mp r
    have e : u = .ty T := by simpa only [Rep] using r1
    rw [e, rep_tys r2]; rfl
theorem clsV_tys : ∀ Ts : List String, Paired ClsV (Ts.map V.ty) (Ts.map Value.type)
  | [] => .nil
  | T :: Ts => .cons (.ty T) (clsV_tys Ts)
theorem vals_tys : ∀ {Ts : List String} {us : List Value}, Vals (Ts.map V.ty) us → us = Ts.map Value.type
  | [], _, .nil => rfl
  | T :: Ts, _, .cons r t => by
    have e : _ = Value.type T := r
    rw [e, vals_tys t]; rfl
theorem sem_isiT : SemC K (fun xs H Q => rIsiT K xs H Q ∨ rIsiK K xs H Q) [s1, s2] s (semIsiT K) := by
  rintro g M σ H ρ vs ds R Q j r ⟨d, Ts, b, rfl, e, h⟩ fin
  obtain ⟨v, v', rfl, r1, r2⟩ := repA2 r
  unfold isiN at e
  split at e
  · rename_i hp
    have q := fin (.bl b) H _ Fr.refl j (rep_bl.mpr rfl) h
    obtain ⟨a, us, rfl, h1, h2⟩ := rep_tup.mp r2
    have e2 := rep_tys h2
    subst e2
    rcases h1 with h1 | ⟨o, its, n, h1, h3, h4, h5, h6⟩
    · exact .inl ⟨v, a, _, _, _, b, rfl, raw_tup h1, clsV_tys Ts, ty_ok j.ok hp r1, e, q⟩
    · obtain ⟨oc, od, dt, sl⟩ := o
      simp only at h3 h4
      subst h3 h4
      have e3 := vals_tys h6
      exact .inr ⟨v, a, od, Ts.map Value.type, n, sl, _, b, rfl, by rw [h1, ← e3], ty_ok j.ok hp r1, e, q⟩
  · cases e
theorem c_isiT : CallR X (.builtin "isinstance") (fun xs H Q => rIsiT X.K xs H Q ∨ rIsiK X.K xs H Q) := CallR.or call_isiT call_isiK
/-! all([..]) -/
def semAll : List D → DK → Prop := fun ds R => ∃ bs : List Bool, ds = [.lst (bs.map D.bl)] ∧ R (.bl (bs.all id))
theorem sem_all : SemC K (rAll K) [s1] s semAll := by
  rintro g M σ H ρ vs ds R Q j r ⟨bs, rfl, h⟩ fin
  obtain ⟨v, rfl, r1⟩ := repA1 r
  obtain ⟨a, us, rfl, _, h1, h2⟩ := rep_lst.mp r1
  have e := (repL_map (f := D.bl) (f' := V.bl) fun _ => rfl).mp h2
  subst e
  exact ⟨a, bs, rfl, sqL_of h1, fin _ H _ Fr.refl j (rep_bl.mpr rfl) h⟩
/-! sorted -/
def semSrt : List D → DK → Prop := fun ds R => ∃ xs : List Str, (ds = [.lst (xs.map D.str)] ∨ ∃ kvs, ds = [.dct kvs] ∧ kvs.map (·.1) = xs.map Sum.inr) ∧ xs.length < 64 ∧ R (.lst ((srt xs).map D.str))
theorem sem_srt : SemC K (fun vs H Q => rSortedS K vs H Q ∨ ∃ (a : Addr) (kvs : List (Key × V)) (ks : List Str), vs = [.ref a] ∧ Rd H a (.dK kvs) ∧ kvs.map (·.1) = ks.map Sum.inr ∧ ks.length < 64 ∧
    ∀ ys p, ys.Perm ks → sortedS ys = true → H p = none → Q (.ref p) (upd H p (.lst (ys.map V.str)))) [s1] s semSrt := by
  rintro g M σ H ρ vs ds R Q j r ⟨xs, h0, hl, h⟩ fin
  have q : ∀ (ys : List Str) (p : Addr), ys.Perm xs → sortedS ys = true → H p = none → Q (.ref p) (upd H p (.lst (ys.map V.str))) := fun ys p hp hs hn => by
    rw [srt_uniq hp (sortedS_pw hs)]
    exact fin_lst j (repL_strs.mpr rfl) h fin p hn
  rcases h0 with rfl | ⟨kvs, rfl, hk⟩
  · obtain ⟨v, rfl, r1⟩ := repA1 r
    obtain ⟨a, us, rfl, _, h1, h2⟩ := rep_lst.mp r1
    have e := repL_strs.mp h2
    subst e
    exact .inl ⟨a, xs, rfl, sqL_of h1, hl, q⟩
  · obtain ⟨v, rfl, r1⟩ := repA1 r
    obtain ⟨a, us, rfl, _, h1, h2⟩ := rep_dct.mp r1
    exact .inr ⟨a, us, xs, rfl, rd_dK h1, by rw [h2.keys, hk], hl, q⟩
theorem c_srt (hc : X.calm = true) : CallR X (.builtin "sorted") (fun vs H Q => rSortedS X.K vs H Q ∨ ∃ (a : Addr) (kvs : List (Key × V)) (ks : List Str), vs = [.ref a] ∧ Rd H a (.dK kvs) ∧ kvs.map (·.1) = ks.map Sum.inr ∧ ks.length < 64 ∧
    ∀ ys p, ys.Perm ks → sortedS ys = true → H p = none → Q (.ref p) (upd H p (.lst (ys.map V.str)))) := CallR.or cr_sortedS (call_sortedD hc)
/-! tuple(..), list(..), dict(..) -/
def semTup : List D → DK → Prop := fun ds R => ∃ d es, ds = [d] ∧ itemsOf d = some es ∧ R (.tup es)
theorem sem_tup : SemC K (fun xs H Q => ∃ p ys, xs = [.ref p] ∧ ((SqL K H p ys ∧ ∀ l, H l = none → Q (.ref l) (upd H l (.tup ys))) ∨ (SqT K H p ys ∧ Q (.ref p) H))) [s] s semTup := by
  rintro g M σ H ρ vs ds R Q j r ⟨d, es, rfl, e, h⟩ fin
  obtain ⟨v, rfl, r1⟩ := repA1 r
  cases d <;> first | cases e | skip
  · obtain ⟨a, us, rfl, _, h1, h2⟩ := rep_lst.mp r1
    exact ⟨a, us, rfl, .inl ⟨sqL_of h1, fin_tup j h2 h fin⟩⟩
  · obtain ⟨a, us, rfl, h1, h2⟩ := rep_tup.mp r1
    exact ⟨a, us, rfl, .inr ⟨sqT_of h1, fin _ H _ Fr.refl j r1 h⟩⟩
def keyToD : Key → D
  | .inl i => .int i
  | .inr x => .str x
def listOf : D → Option (List D)
  | .lst ds => some ds
  | .tup ds => some ds
  | .dct kvs => some (kvs.map fun kv => keyToD kv.1)
  | _ => none
def semLst : List D → DK → Prop := fun ds R => ∃ d es, ds = [d] ∧ listOf d = some es ∧ R (.lst es)
theorem rep_keys {z : Zo} {A : Addr → Prop} {H : Hp} (ks : List Key) : RepL K z A H (ks.map keyToD) (ks.map kV) := by
  induction ks with
  | nil => exact repL_nil.mpr rfl
  | cons k ks ih =>
    refine repL_cons.mpr ⟨kV k, _, rfl, ?_, ih⟩
    cases k with
    | inl i => exact rep_int.mpr rfl
    | inr x => exact rep_str.mpr rfl
theorem sem_lst : SemC K (fun xs H Q => (∃ p ys, xs = [.ref p] ∧ (SqL K H p ys ∨ SqT K H p ys) ∧ ∀ l, H l = none → Q (.ref l) (upd H l (.lst ys))) ∨ ∃ (a : Addr) (kvs : List (Key × V)), xs = [.ref a] ∧ Rd H a (.dK kvs) ∧ ∀ p, H p = none → Q (.ref p) (upd H p (.lst (kvs.map fun kv => kV kv.1)))) [s] s semLst := by
  rintro g M σ H ρ vs ds R Q j r ⟨d, es, rfl, e, h⟩ fin
  obtain ⟨v, rfl, r1⟩ := repA1 r
  cases d <;> first | cases e | skip
  · obtain ⟨a, us, rfl, _, h1, h2⟩ := rep_lst.mp r1
    exact .inl ⟨a, us, rfl, .inl (sqL_of h1), fin_lst j h2 h fin⟩
  · obtain ⟨a, us, rfl, h1, h2⟩ := rep_tup.mp r1
    exact .inl ⟨a, us, rfl, .inr (sqT_of h1), fin_lst j h2 h fin⟩
  · rename_i kvs
    obtain ⟨a, us, rfl, _, h1, h2⟩ := rep_dct.mp r1
    refine .inr ⟨a, us, rfl, rd_dK h1, fin_lst j ?_ h fin⟩
    have e1 : (us.map fun kv => kV kv.1) = (kvs.map (·.1)).map kV := by rw [← h2.keys, List.map_map]; rfl
    have e2 : (kvs.map fun kv => keyToD kv.1) = (kvs.map (·.1)).map keyToD := by rw [List.map_map]; rfl
    rw [e1, e2]
    exact rep_keys _
theorem c_lst (hc : X.calm = true) : CallR X (.type "list") (fun xs H Q => (∃ p ys, xs = [.ref p] ∧ (SqL X.K H p ys ∨ SqT X.K H p ys) ∧ ∀ l, H l = none → Q (.ref l) (upd H l (.lst ys))) ∨ ∃ (a : Addr) (kvs : List (Key × V)), xs = [.ref a] ∧ Rd H a (.dK kvs) ∧ ∀ p, H p = none → Q (.ref p) (upd H p (.lst (kvs.map fun kv => kV kv.1)))) :=
  CallR.or call_list_of (call_listD hc)
def semDct : List D → DK → Prop := fun ds R => ∃ kvs, ds = [.dct kvs] ∧ R (.dct kvs)
theorem sem_dct : SemC K (fun xs H Q => ∃ (a : Addr) (kvs : List (Key × V)), xs = [.ref a] ∧ Rd H a (.dK kvs) ∧ ∀ p, H p = none → Q (.ref p) (upd H p (.dK kvs))) [s] s semDct := by
  rintro g M σ H ρ vs ds R Q j r ⟨kvs, rfl, h⟩ fin
  obtain ⟨v, rfl, r1⟩ := repA1 r
  obtain ⟨a, us, rfl, _, h1, h2⟩ := rep_dct.mp r1
  exact ⟨a, us, rfl, rd_dK h1, fin_dct j h2 h fin⟩
/-! numbers -/
def semMin : List D → DK → Prop := fun ds R => ∃ i j, ds = [.int i, .int j] ∧ R (.int (if j < i then j else i))
theorem sem_min : SemC K (fun xs H Q => ∃ i j, xs = [.int i, .int j] ∧ Q (.int (if j < i then j else i)) H) [s1, s2] s semMin := by
  rintro g M σ H ρ vs ds R Q j r ⟨i, k, rfl, h⟩ fin
  obtain ⟨v, v', rfl, r1, r2⟩ := repA2 r
  rw [rep_int.mp r1, rep_int.mp r2]
  exact ⟨i, k, rfl, fin _ H _ Fr.refl j (rep_int.mpr rfl) h⟩
def semMax : List D → DK → Prop := fun ds R => ∃ i j, ds = [.int i, .int j] ∧ R (.int (if j > i then j else i))
theorem sem_max : SemC K (fun xs H Q => ∃ i j, xs = [.int i, .int j] ∧ Q (.int (if j > i then j else i)) H) [s1, s2] s semMax := by
  rintro g M σ H ρ vs ds R Q j r ⟨i, k, rfl, h⟩ fin
  obtain ⟨v, v', rfl, r1, r2⟩ := repA2 r
  rw [rep_int.mp r1, rep_int.mp r2]
  exact ⟨i, k, rfl, fin _ H _ Fr.refl j (rep_int.mpr rfl) h⟩
def semInt1 : List D → DK → Prop := fun ds R => ∃ i, ds = [.int i] ∧ R (.int i)
theorem sem_int1 : SemC K (fun xs H Q => (∃ i, xs = [.int i] ∧ Q (.int i) H) ∨ ∃ k, xs = [.bl k] ∧ Q (.int (if k then 1 else 0)) H) [s1] s semInt1 := by
  rintro g M σ H ρ vs ds R Q j r ⟨i, rfl, h⟩ fin
  obtain ⟨v, rfl, r1⟩ := repA1 r
  rw [rep_int.mp r1]
  exact .inl ⟨i, rfl, fin _ H _ Fr.refl j (rep_int.mpr rfl) h⟩
/-! slices -/
def cutD (ds : List D) (lo hi : Option Int) : List D := (ds.drop (HT.sIx ds.length 0 lo)).take (HT.sIx ds.length ds.length hi - HT.sIx ds.length 0 lo)
abbrev TDO := Ev → (Option Int → Prop) → Prop
def rdO (K : PySem.W.Frag) (w : TDO) : TO := fun σ H Q => ∃ g M ρ R, J K g M σ H ρ ∧ w ρ R ∧ ∀ b H', Fr (vol g.z) H H' → J K g M σ H' ρ → R b → Q b H'
abbrev DO (X : Cx) (e : Option Expr) (w : TDO) : Prop := PO X e (rdO X.K w)
theorem PO_imp {e : Option Expr} {t t' : TO} (h : PO X e t) (f : ∀ σ H Q, t' σ H Q → t σ H Q) : PO X e t' := ⟨fun pins s σ H Q I q => h.run pins s σ H Q I (f _ _ _ q)⟩
def wO0 : TDO := fun _ R => R none
def wO1 (w : TDE) : TDO := fun ρ R => w ρ fun d => ∃ i, d = .int i ∧ R (some i)
theorem do_none : DO X none wO0 := by
  refine PO_imp po_none ?_
  rintro σ H Q ⟨g, M, ρ, R, j, hw, k⟩
  exact k none H Fr.refl j hw
theorem do_some {e : Expr} {w : TDE} (h : DE X s e w) : DO X (some e) (wO1 w) := by
  refine PO_imp (po_some h) ?_
  rintro σ H Q ⟨g, M, ρ, R, j, hw, k⟩
  refine ⟨g, M, ρ, _, j, hw, fun v H' d f j' r ⟨i, e, hR⟩ => ?_⟩
  subst e
  exact ⟨i, rep_int.mp r, k _ H' f j' hR⟩
def wSl (w : TDE) (wl wh : TDO) : TDE := fun ρ R => w ρ fun x => wl ρ fun lo => wh ρ fun hi => (∃ ds, x = .lst ds ∧ R (.lst (cutD ds lo hi))) ∨ ∃ ds, x = .tup ds ∧ R (.tup (cutD ds lo hi))
theorem cutD_ok {z : Zo} {A : Addr → Prop} {H : Hp} {ds : List D} {vs : List V} {lo hi : Option Int} (r : RepL K z A H ds vs) : RepL K z A H (cutD ds lo hi) (cutV vs lo hi) := by
  unfold cutD cutV
  rw [r.len]
  exact (r.drop _).take _
theorem sl_imp {w : TDE} {wl wh : TDO} : ∀ σ H Q, rdE X.K s (wSl w wl wh) σ H Q → tSl (fun x lo hi H Q => rSlL X.K x lo hi H Q ∨ rSlA X.K x lo hi H Q) (rdE X.K s w) (rdO X.K wl) (rdO X.K wh) σ H Q := by
  rintro σ H Q ⟨g, M, ρ, R, j, hw, k⟩
  refine ⟨g, M, ρ, _, j, hw, fun x H1 dx f1 j1 r1 hR => ⟨g, M, ρ, _, j1, hR, fun lo H2 f2 j2 hR2 => ⟨g, M, ρ, _, j2, hR2, fun hi H3 f3 j3 hR3 => ?_⟩⟩⟩
  have r3 := (r1.ov (f2.ov fun _ z => Gh.av_vol z)).ov (f3.ov fun _ z => Gh.av_vol z)
  have k3 : Fin1 X.K g M σ ρ s H3 R Q := fun v H' d f => k v H' d (((f1.trans f2).trans f3).trans f)
  rcases hR3 with ⟨ds, rfl, h⟩ | ⟨ds, rfl, h⟩
  · obtain ⟨a, us, rfl, _, h1, h2⟩ := rep_lst.mp r3
    exact .inl ⟨a, us, rfl, sqL_of h1, fin_lst j3 (cutD_ok h2) h k3⟩
  · obtain ⟨a, us, rfl, h1, h2⟩ := rep_tup.mp r3
    refine .inr ⟨a, us, rfl, sqT_of h1, fun hw' => ?_, fun _ => fin_tup j3 (cutD_ok h2) h k3⟩
    have e : cutD ds lo hi = ds := by
      unfold cutD
      rw [← h2.len, hw'.1, hw'.2, List.drop_zero, Nat.sub_zero, h2.len, List.take_length]
    rw [e] at h
    exact k3 _ H3 _ Fr.refl j3 r3 h
theorem de_sl {e : Expr} {lo hi : Option Expr} {p2 pos : Pos} {w : TDE} {wl wh : TDO} (he : DE X s e w) (hl : DO X lo wl) (hh : DO X hi wh) : DE X s (.Subscript e (.Slice lo hi none p2) pos) (wSl w wl wh) :=
  PE_imp (pe_slice (SlR.or sl_list sl_tupA) he hl hh) sl_imp
/-! sep.join(xs) -/
def wJoin (wo we : TDE) : TDE := fun ρ R => wo ρ fun x => ∃ a, x = .str a ∧ we ρ fun y => ∃ ys : List Str, y = .lst (ys.map D.str) ∧ (ys.map (·.length)).sum + ys.length * a.length ≤ 16777216 ∧ R (.str (Txt.join a ys))
theorem de_join {o e : Expr} {apos pos : Pos} {wo we : TDE} (ho : DE X s1 o wo) (he : DE X s2 e we) (hs : starEach [e] X.env = [(false, eval e X.env)] := by rfl) (hbase : attributeBase o "join" X.env (eval o X.env) = eval o X.env := by rfl) (hline : (apos.endLine == pos.line) = true := by rfl) :
    DE X s (.Call (.Attribute o "join" apos) [e] [] pos) (wJoin wo we) := by
  refine PE_imp (pe_join ho he hs hbase hline) ?_
  rintro σ H Q ⟨g, M, ρ, R, j, hw, k⟩
  refine ⟨g, M, ρ, _, j, hw, fun x H1 dx f1 j1 r1 ⟨a, e1, hR⟩ => ?_⟩
  subst e1
  have ex := rep_str.mp r1
  refine ⟨⟨a, ex⟩, g, M, ρ, _, j1, hR, fun y H2 dy f2 j2 r2 ⟨ys, e2, hz, hR2⟩ => ?_⟩
  subst e2
  obtain ⟨b, us, rfl, _, h1, h2⟩ := rep_lst.mp r2
  have e3 := repL_strs.mp h2
  subst e3
  exact ⟨a, b, ys, ex, rfl, .inl (sqL_of h1), hz, k _ H2 _ (f1.trans f2) j2 (rep_str.mpr rfl) hR2⟩
/-! fields -/
def wFld (C : Addr) (f : Str) (w : TDE) : TDE := fun ρ R => w ρ fun x => ∃ fs d, x = .ins C fs ∧ fs.lookup f = some d ∧ R d
theorem de_fld {e : Expr} {pos : Pos} {f : Str} {C : Addr} {w : TDE} (c : Cls X.K C) (n : NoAttr X.K C f) (he : DE X s e w) (hb : attributeBase e f X.env (eval e X.env) = eval e X.env := by rfl) : DE X s (.Attribute e f pos) (wFld C f w) := by
  refine PE_imp (pe_fld he hb) ?_
  rintro σ H Q ⟨g, M, ρ, R, j, hw, k⟩
  refine ⟨g, M, ρ, _, j, hw, fun x H1 dx f1 j1 r1 ⟨fs, d, e1, e2, hR⟩ => ?_⟩
  subst e1
  obtain ⟨a, dx', us, rfl, _, h1, h2⟩ := rep_ins.mp r1
  rcases h2.lookup f with ⟨n1, _⟩ | ⟨d', v', h3, h4, h5⟩
  · rw [n1] at e2; cases e2
  · rw [h3] at e2; cases e2
    exact ⟨a, C, dx', us, v', rfl, raw_ins h1, c, n, h4, k v' H1 _ f1 j1 h5 hR⟩
end
end Tr
end
section
namespace Tr
open PySem PySem.Spec L2
section
variable {X : Cx} {K : PySem.W.Frag} {s s1 s2 : Sg} {e a b c : Expr} {pos pos' : Pos} {w wa wb : TDE} {st : Stmt} {rest : List Stmt} {t u : TDS}
theorem weakB {g : Gh} {M : Addr → Prop} {H : Hp} {d : D} {v : V} (r : Rep K g.z (g.av M .s) H d v) : Rep K g.z (fun a => vol g.z a ∨ g.B a) H d v := r.ov (Ov.less fun q hq => hq.elim .inl fun z => .inr (.inl z))
/-! ### blocks -/
def wNext : TDS := fun E ρ => E.nx ρ
def wSeq (t u : TDS) : TDS := fun E ρ => t { E with nx := u E } ρ
theorem dss_nil : DSs X [] wNext := by
  refine PSs_imp pss_nil ?_
  rintro D σ H ⟨g, M, ρ, E, j, hw, ok⟩
  exact ok.nx M σ H ρ j hw
theorem dss_cons (h1 : DS X st t) (h2 : DSs X rest u) : DSs X (st :: rest) (wSeq t u) := by
  refine PSs_imp (pss_cons h1 h2) ?_
  rintro D σ H ⟨g, M, ρ, E, j, hw, ok⟩
  exact ⟨g, M, ρ, _, j, hw, ⟨fun M' σ' H' ρ' j' h => ⟨g, M', ρ', E, j', h, ok⟩, ok.rt, ok.bk, ok.ct⟩⟩
theorem dss_one (h1 : DS X st t) : DSs X [st] t := pss_one h1
theorem ds_pass : DS X (.Pass pos) wNext := by
  refine PS_imp ps_pass ?_
  rintro D σ H ⟨g, M, ρ, E, j, hw, ok⟩
  exact ok.nx M σ H ρ j hw
def wBrk : TDS := fun E ρ => E.bk ρ
def wCt : TDS := fun E ρ => E.ct ρ
theorem ds_break : DS X (.Break pos) wBrk := by
  refine PS_imp ps_break ?_
  rintro D σ H ⟨g, M, ρ, E, j, hw, ok⟩
  exact ok.bk M σ H ρ j hw
theorem ds_continue : DS X (.Continue pos) wCt := by
  refine PS_imp ps_continue ?_
  rintro D σ H ⟨g, M, ρ, E, j, hw, ok⟩
  exact ok.ct M σ H ρ j hw
def wNever : TDS := fun _ _ => False
theorem ds_never : DS X st wNever := by
  refine PS_imp ps_never ?_
  rintro D σ H ⟨g, M, ρ, E, j, hw, ok⟩
  exact hw
theorem dss_never {sts : List Stmt} : DSs X sts wNever := by
  refine PSs_imp pss_never ?_
  rintro D σ H ⟨g, M, ρ, E, j, hw, ok⟩
  exact hw
def wRet (w : TDE) : TDS := fun E ρ => w ρ E.rt
theorem ds_ret (h : DE X .s e w) : DS X (.Return (some e) pos) (wRet w) := by
  refine PS_imp (ps_ret h) ?_
  rintro D σ H ⟨g, M, ρ, E, j, hw, ok⟩
  exact ⟨g, M, ρ, _, j, hw, fun v H' d f j' r hR => ok.rt v H' d j'.fr j'.ok (weakB r) hR⟩
def wRetN : TDS := fun E _ => E.rt .non
theorem ds_retN : DS X (.Return none pos) wRetN := by
  refine PS_imp ps_retN ?_
  rintro D σ H ⟨g, M, ρ, E, j, hw, ok⟩
  exact ok.rt .non H .non j.fr j.ok (rep_non.mpr rfl) hw
def wExp (w : TDE) : TDS := fun E ρ => w ρ fun _ => E.nx ρ
theorem ds_expr (h : DE X s e w) (hs : swapsWith e none pos.line X.env = pure false := by rfl) : DS X (.Expr e pos) (wExp w) := by
  refine PS_imp (ps_expr h hs) ?_
  rintro D σ H ⟨g, M, ρ, E, j, hw, ok⟩
  exact ⟨g, M, ρ, _, j, hw, fun v H' d f j' r hR => ok.nx M σ H' ρ j' hR⟩
def wIfS (c : TDT) (t u : TDS) : TDS := fun E ρ => c ρ fun b => if b = true then t E ρ else u E ρ
theorem ds_if {p q : List Stmt} {tc : TDT} (hc : DT X c tc) (hp : DSs X p t) (hq : DSs X q u) : DS X (.If c p q pos) (wIfS tc t u) := by
  refine PS_imp (ps_if hc hp hq) ?_
  rintro D σ H ⟨g, M, ρ, E, j, hw, ok⟩
  refine ⟨g, M, ρ, _, j, hw, fun b H' f j' hR => ?_⟩
  cases b with
  | true => exact ⟨g, M, ρ, E, j', hR, ok⟩
  | false => exact ⟨g, M, ρ, E, j', hR, ok⟩
/-! ### names -/
def bdS : Sg → D → Bd
  | .s, d => .val d
  | .w, d => .wv d
  | .t, _ => .non
theorem bd_own (s : Sg) (d : D) : (bdS s d).own = false := by cases s <;> rfl
theorem bd_ok {g : Gh} {M : Addr → Prop} {H : Hp} {d : D} {v : V} (r : Rep K g.z (g.av M s) H d v) : SlotR K g M H (bdS s d) (some v) := by
  cases s with
  | s => exact ⟨v, rfl, r⟩
  | w => exact ⟨v, rfl, r⟩
  | t => trivial
def wSet (s : Sg) (i : Nat) (w : TDE) : TDS := fun E ρ => w ρ fun d => E.nx (ρ.set i (bdS s d))
theorem set_imp {i : Nat} : ∀ D σ H, rdS X.K (wSet s i w) D σ H → tAsg (rdE X.K s w) (gName i) D σ H := by
  rintro D σ H ⟨g, M, ρ, E, j, hw, ok⟩
  exact ⟨g, M, ρ, _, j, hw, fun v H' d f j' r hR => ok.nx M _ H' _ (j'.set i (bd_own s d) (bd_ok r)) hR⟩
theorem ds_set (i : Nat) {x : Str} (hN : X.N.Nodup) (h : DE X s e w) (hi : X.N[i]? = some x := by rfl) (hx : Loc X.env.scope x := by first | exact Or.inl rfl | exact Or.inr rfl) (hs : swapsWith e (some (.Name x pos')) pos.line X.env = pure false := by rfl) (hf : X.fn x = true ∨ X.env.scope.names.lookup x = some .local := by first | exact .inl rfl | exact .inr rfl | assumption) :
    DS X (.Assign [.Name x pos'] e pos) (wSet s i w) := PS_imp (ps_set hN hi hx h hs hf) set_imp
/-! ### lists and dicts of one's own -/
def wSetL (i : Nat) (ws : TDA) : TDS := fun E ρ => ws ρ fun ds => E.nx (ρ.set i (.ol ds))
theorem newL_ok {g : Gh} {M : Addr → Prop} {H : Hp} {p : Addr} {ds : List D} {vs : List V} (hp : H p = none) (r : RepL K g.z (g.av M .s) H ds vs) : SlotR K g (plus M p) (upd H p (.lst vs)) (.ol ds) (some (.ref p)) :=
  ⟨p, vs, rfl, .inr rfl, upd_same, r.ov (ov_new .s hp)⟩
theorem newD_ok {g : Gh} {M : Addr → Prop} {H : Hp} {p : Addr} {ds : List (Key × D)} {vs : List (Key × V)} (hp : H p = none) (r : RepK K g.z (g.av M .s) H ds vs) : SlotR K g (plus M p) (upd H p (.dK vs)) (.od ds) (some (.ref p)) :=
  ⟨p, vs, rfl, .inr rfl, upd_same, r.ov (ov_new .s hp)⟩
theorem ds_setL (i : Nat) {x : Str} {es : List Expr} {ss : List Sg} {ws : TDA} (hN : X.N.Nodup) (h : DA X ss es ws) (hs1 : ss.all (fun q => decide (q = .s)) = true := by rfl) (hl : ss.length ≤ sizeLine := by decide) (hi : X.N[i]? = some x := by rfl) (hx : Loc X.env.scope x := by first | exact Or.inl rfl | exact Or.inr rfl) (hf : X.fn x = true ∨ X.env.scope.names.lookup x = some .local := by first | exact .inl rfl | exact .inr rfl | assumption) {p1 p2 : Pos}
    (hs' : swapsWith (.List es p1) (some (.Name x p2)) pos.line X.env = pure false := by rfl) : DS X (.Assign [.Name x p2] (.List es p1) pos) (wSetL i ws) := by
  refine PS_imp (ps_set hN hi hx (pe_lst h) hs' hf) ?_
  rintro D σ H ⟨g, M, ρ, E, j, hw, ok⟩
  refine ⟨g, M, ρ, _, j, hw, fun vs H1 ds f1 j1 r1 hR => ?_⟩
  obtain ⟨h1, h2⟩ := r1.all hs1
  refine ⟨by rw [h1.len, h2]; exact hl, fun p hp => ?_⟩
  exact ok.nx _ _ _ _ (j1.newO hp rfl i (newL_ok hp h1)) hR
def wSetLi (i : Nat) (w : TDE) : TDS := fun E ρ => w ρ fun d => ∃ ds, listOf d = some ds ∧ E.nx (ρ.set i (.ol ds))
/-- x = list(e), to be changed -/
theorem ds_setLi (i : Nat) {x : Str} (hN : X.N.Nodup) (hc : X.calm = true) (hg : Gl X "list") (hm : X.mg "list" = none) (h : DE X .s e w) {p1 p2 p3 : Pos} (hi : X.N[i]? = some x := by rfl) (hx : Loc X.env.scope x := by first | exact Or.inl rfl | exact Or.inr rfl) (hs : swapsWith (.Call (.Name "list" p3) [e] [] p1) (some (.Name x p2)) pos.line X.env = pure false := by rfl) (hf : X.fn x = true ∨ X.env.scope.names.lookup x = some .local := by first | exact .inl rfl | exact .inr rfl | assumption)
    (he : starEach [e] X.env = (false, eval e X.env) :: starEach [] X.env := by rfl) : DS X (.Assign [.Name x p2] (.Call (.Name "list" p3) [e] [] p1) pos) (wSetLi i w) := by
  refine PS_imp (ps_set hN hi hx (pe_callTy (c_lst hc) hg hm (by decide +kernel) (pa_cons h pa_nil he) (by decide) (by decide) he) hs hf) ?_
  rintro D σ H ⟨g, M, ρ, E, j, hw, ok⟩
  refine ⟨g, M, ρ, _, j, hw, fun v H1 d f1 j1 r1 hd => ?_⟩
  obtain ⟨ds, e1, hR⟩ := hd
  cases d with
  | lst es =>
    cases e1
    obtain ⟨a, us, rfl, _, h1, h2⟩ := rep_lst.mp r1
    exact .inl ⟨a, us, rfl, .inl (sqL_of h1), fun p hp => ok.nx _ _ _ _ (j1.newO hp rfl i (newL_ok hp h2)) hR⟩
  | tup es =>
    cases e1
    obtain ⟨a, us, rfl, h1, h2⟩ := rep_tup.mp r1
    exact .inl ⟨a, us, rfl, .inr (sqT_of h1), fun p hp => ok.nx _ _ _ _ (j1.newO hp rfl i (newL_ok hp h2)) hR⟩
  | dct kvs =>
    cases e1
    obtain ⟨a, us, rfl, _, h1, h2⟩ := rep_dct.mp r1
    refine .inr ⟨a, us, rfl, rd_dK h1, fun p hp => ok.nx _ _ _ _ (j1.newO hp rfl i (newL_ok hp ?_)) hR⟩
    have e1 : (us.map fun kv => kV kv.1) = (kvs.map (·.1)).map kV := by rw [← h2.keys, List.map_map]; rfl
    have e2 : (kvs.map fun kv => keyToD kv.1) = (kvs.map (·.1)).map keyToD := by rw [List.map_map]; rfl
    rw [e1, e2]
    exact rep_keys _
  | _ => cases e1
def wSetD (i : Nat) : TDS := fun E ρ => E.nx (ρ.set i (.od []))
theorem ds_setD (i : Nat) {x : Str} (hN : X.N.Nodup) {p1 p2 : Pos} (hi : X.N[i]? = some x := by rfl) (hx : Loc X.env.scope x := by first | exact Or.inl rfl | exact Or.inr rfl) (hs : swapsWith (.Dict [] [] p1) (some (.Name x p2)) pos.line X.env = pure false := by rfl) (hf : X.fn x = true ∨ X.env.scope.names.lookup x = some .local := by first | exact .inl rfl | exact .inr rfl | assumption) :
    DS X (.Assign [.Name x p2] (.Dict [] [] p1) pos) (wSetD i) := by
  refine PS_imp (ps_set hN hi hx pe_dnewK hs hf) ?_
  rintro D σ H ⟨g, M, ρ, E, j, hw, ok⟩
  exact fun p hp => ok.nx _ _ _ _ (j.newO hp rfl i (newD_ok hp (repK_nil.mpr rfl))) hw
theorem J.getO {g : Gh} {M : Addr → Prop} {σ : L2.St} {H : Hp} {ρ : Ev} {i : Nat} {b : Bd} (j : J K g M σ H ρ) (e : ρ[i]? = some b) : ∃ o, σ[i]? = some o ∧ SlotR K g M H b o := by
  have hi : i < σ.length := by rw [← j.len]; exact (List.getElem?_eq_some_iff.mp e).1
  exact ⟨σ[i], by simp [hi], j.sl i b _ e (by simp [hi])⟩
def wApp (i : Nat) (w : TDE) : TDS := fun E ρ => ∃ ds, ρ[i]? = some (.ol ds) ∧ w ρ fun d => ds.length < sizeLine ∧ E.nx (ρ.set i (.ol (ds ++ [d])))
theorem ds_app (i : Nat) {x : Str} {apos cpos p1 : Pos} (h : DE X .s e w) (hv : PE X (.Name x p1) (tVar i) := by exact pv _)
    (hbase : attributeBase (.Name x p1) "append" X.env (eval (.Name x p1) X.env) = eval (.Name x p1) X.env := by rfl)
    (hfew : ((backTo cpos (starEach [e] X.env)).all (fun x => !x.1) && (backToKw cpos (keywordEach [] X.env)).all (fun x => x.1.isSome)
      && decide ([e].length + ([] : List Keyword).length + (if ([] : List Keyword).isEmpty then 0 else 1) < 30)) = true := by rfl)
    (hline : (apos.endLine == cpos.line) = true := by rfl) (hst : starEach [e] X.env = (false, eval e X.env) :: starEach [] X.env := by rfl) (hs : swapsWith (.Call (.Attribute (.Name x p1) "append" apos) [e] [] cpos) none pos.line X.env = pure false := by rfl) :
    DS X (.Expr (.Call (.Attribute (.Name x p1) "append" apos) [e] [] cpos) pos) (wApp i w) := by
  refine PS_imp (ps_expr (pe_bm PySem.F.plainAttrs_list PySem.F.slot_list_append PySem.F.type_list_append mt_append hv (pa_cons h pa_nil hst) hbase hfew hline hst) hs) ?_
  rintro D σ H ⟨g, M, ρ, E, j, ⟨ds, er, hw⟩, ok⟩
  obtain ⟨o, eo, p, vs, rfl, m, hp, r⟩ := j.getO er
  refine ⟨_, eo, .inl ⟨rfl, vs, SqL.of hp⟩, g, M, ρ, _, j, hw, fun v H1 d f1 j1 r1 ⟨hz, hR⟩ => ?_⟩
  have hp1 : H1 p = some (.lst vs) := f1 p _ hp fun z => absurd z (j.nv p m)
  have rs := r.ov (f1.ov fun _ z => Gh.av_vol z)
  refine ⟨p, vs, v, rfl, rfl, hp1, by rw [r.len]; exact hz, ?_⟩
  refine ok.nx M σ _ _ (j1.wr (b := .ol (ds ++ [d])) rfl ⟨⟨_, er, rfl⟩, eo⟩ m ⟨p, _, rfl, m, upd_same, ?_⟩) hR
  exact (rs.app (.one r1)).ov (ov_st (by decide) j1 m)
def wPut (i : Nat) (wk wv : TDE) : TDS := fun E ρ => ∃ kvs, ρ[i]? = some (.od kvs) ∧ wv ρ fun d => wk ρ fun y => ∃ k, keyD y = some k ∧ kvs.length < sizeLine ∧ E.nx (ρ.set i (.od (putD kvs k d)))
/-- x[k] = v, x a dict of one's own -/
theorem ds_put (i : Nat) {x : Str} {p1 p2 : Pos} {k v : Expr} (hu : X.A.units + 1 < cLine) (hk : DE X s k wa) (hvv : DE X .s v wb) (hv : PE X (.Name x p1) (tVar i) := by exact pv _)
    (hs : swapsWith v (some (.Subscript (.Name x p1) k p2)) pos.line X.env = pure false := by rfl) : DS X (.Assign [.Subscript (.Name x p1) k p2] v pos) (wPut i wa wb) := by
  refine PS_imp (ps_dput hu hv hk hvv hs) ?_
  rintro D σ H ⟨g, M, ρ, E, j, ⟨kvs, er, hw⟩, ok⟩
  obtain ⟨o, eo, p, vs, rfl, m, hp, r⟩ := j.getO er
  refine ⟨g, M, ρ, _, j, hw, fun v H1 d f1 j1 r1 hR => ⟨_, eo, g, M, ρ, _, j1, hR, fun y H2 dy f2 j2 r2 ⟨kk, ek, hz, hR2⟩ => ?_⟩⟩
  have hp1 : H2 p = some (.dK vs) := f2 p _ (f1 p _ hp fun z => absurd z (j.nv p m)) fun z => absurd z (j.nv p m)
  have rs := r.ov ((f1.trans f2).ov fun _ z => Gh.av_vol z)
  have rd := r1.ov (f2.ov fun _ z => Gh.av_vol z)
  refine ⟨p, _, rfl, .inl ⟨vs, kk, hp1, keyD_ok ek r2, by rw [r.len]; exact hz, rfl⟩, ?_⟩
  refine ok.nx M σ _ _ (j2.wr (b := .od (putD kvs kk d)) rfl ⟨⟨_, er, rfl⟩, eo⟩ m ⟨p, _, rfl, m, upd_same, ?_⟩) hR2
  exact (rs.put rd).ov (ov_st (by decide) j2 m)
/-- x[k] = v, x a list of one's own -/
def wPutL (i : Nat) (wk wv : TDE) : TDS := fun E ρ => ∃ ds, ρ[i]? = some (.ol ds) ∧ wv ρ fun d => wk ρ fun y => ∃ n m, y = .int n ∧ ixN ds.length n = some m ∧ E.nx (ρ.set i (.ol (ds.set m d)))
theorem ds_putL (i : Nat) {x : Str} {p1 p2 : Pos} {k v : Expr} (hk : DE X s k wa) (hvv : DE X .s v wb) (hv : PE X (.Name x p1) (tVar i) := by exact pv _)
    (ha : ∀ v', assign (.Subscript (.Name x p1) k p2) X.env v' = (do
      let ov ← holding [v'] (eval (.Name x p1) X.env)
      let iv ← holding [v', ov] (eval k X.env)
      standAt p2
      holding [v', ov, iv] (setItem ov iv v')
      release [v', ov, iv] []) := by intro _; rfl)
    (hs : swapsWithSole [.Subscript (.Name x p1) k p2] v pos.line X.env = pure false := by rfl) (hw : swappedStores [.Subscript (.Name x p1) k p2] v X.env = pure none := by rfl)
    (h1 : (assignEach [.Subscript (.Name x p1) k p2] X.env).map (·.2) = [assign (.Subscript (.Name x p1) k p2) X.env] := by rfl) : DS X (.Assign [.Subscript (.Name x p1) k p2] v pos) (wPutL i wa wb) := by
  refine PS_imp (ps_asg hvv (pg_sub hv hk set_list ha) hs hw h1) ?_
  rintro D σ H ⟨g, M, ρ, E, j, ⟨ds, er, hw⟩, ok⟩
  obtain ⟨o, eo, p, vs, rfl, m, hp, r⟩ := j.getO er
  refine ⟨g, M, ρ, _, j, hw, fun v H1 d f1 j1 r1 hR => ⟨_, eo, g, M, ρ, _, j1, hR, fun y H2 dy f2 j2 r2 ⟨n, q, e1, e2, hR2⟩ => ?_⟩⟩
  subst e1
  have hp1 : H2 p = some (.lst vs) := f2 p _ (f1 p _ hp fun z => absurd z (j.nv p m)) fun z => absurd z (j.nv p m)
  have rs := r.ov ((f1.trans f2).ov fun _ z => Gh.av_vol z)
  have rd := r1.ov (f2.ov fun _ z => Gh.av_vol z)
  refine ⟨p, vs, n, q, rfl, rep_int.mp r2, hp1, by rw [r.len]; exact e2, ?_⟩
  refine ok.nx M σ _ _ (j2.wr (b := .ol (ds.set q d)) rfl ⟨⟨_, er, rfl⟩, eo⟩ m ⟨p, _, rfl, m, upd_same, ?_⟩) hR2
  exact (rs.setd rd q).ov (ov_st (by decide) j2 m)
/-! ### giving a list, a dict away -/
def relB : Ev → Nat → Option Ev := fun ρ i => match ρ[i]? with
  | some (.ol ds) => some (ρ.set i (.val (.lst ds)))
  | some (.od kvs) => some (ρ.set i (.val (.dct kvs)))
  | _ => none
def wRel (i : Nat) (t : TDS) : TDS := fun E ρ => ∃ ρ', relB ρ i = some ρ' ∧ t E ρ'
theorem J.relI {g : Gh} {M : Addr → Prop} {σ : L2.St} {H : Hp} {ρ ρ' : Ev} {i : Nat} (j : J K g M σ H ρ) (e : relB ρ i = some ρ') : ∃ M', J K g M' σ H ρ' := by
  unfold relB at e
  split at e
  · rename_i ds er
    cases e
    obtain ⟨o, eo, p, vs, rfl, m, hp, r⟩ := j.getO er
    refine ⟨less M p, j.rel rfl ⟨⟨_, er, rfl⟩, eo⟩ ⟨_, rfl, rep_lst.mpr ⟨p, vs, rfl, fun z => ?_, nz_lst hp, r.ov (Ov.less fun _ z => av_less z)⟩⟩⟩
    rcases z with z | z | z
    · exact j.nv p m z
    · exact j.bz p z (j.new p m)
    · exact z.2 rfl
  · rename_i ds er
    cases e
    obtain ⟨o, eo, p, vs, rfl, m, hp, r⟩ := j.getO er
    refine ⟨less M p, j.rel rfl ⟨⟨_, er, rfl⟩, eo⟩ ⟨_, rfl, rep_dct.mpr ⟨p, vs, rfl, fun z => ?_, nz_dK hp, r.ov (Ov.less fun _ z => av_less z)⟩⟩⟩
    rcases z with z | z | z
    · exact j.nv p m z
    · exact j.bz p z (j.new p m)
    · exact z.2 rfl
  · cases e
theorem ds_rel (i : Nat) (h : DS X st t) : DS X st (wRel i t) := by
  refine PS_imp h ?_
  rintro D σ H ⟨g, M, ρ, E, j, ⟨ρ', e, hw⟩, ok⟩
  obtain ⟨M', j'⟩ := j.relI e
  exact ⟨g, M', ρ', E, j', hw, ok⟩
theorem dss_rel (i : Nat) {sts : List Stmt} (h : DSs X sts t) : DSs X sts (wRel i t) := by
  refine PSs_imp h ?_
  rintro D σ H ⟨g, M, ρ, E, j, ⟨ρ', e, hw⟩, ok⟩
  obtain ⟨M', j'⟩ := j.relI e
  exact ⟨g, M', ρ', E, j', hw, ok⟩
end
end Tr
end
section
namespace Tr
open PySem PySem.Spec L2
/-! ### walks -/
def Gh.hide (g : Gh) (hs : List (V × D × Sg)) (rs : List (Addr × Obj × HO)) : Gh := { g with hid := hs ++ g.hid, raw := rs ++ g.raw }
section
variable {X : Cx} {K : PySem.W.Frag} {s s1 s2 : Sg} {e a b c tg : Expr} {pos pos' : Pos} {w wa wb : TDE} {st : Stmt} {rest : List Stmt} {t u : TDS}
theorem J.unhide {g : Gh} {M : Addr → Prop} {σ : L2.St} {H : Hp} {ρ : Ev} {hs : List (V × D × Sg)} {rs : List (Addr × Obj × HO)} (j : J K (g.hide hs rs) M σ H ρ) : J K g M σ H ρ :=
  ⟨j.fr, j.ok0, j.ok, j.bz, j.new, j.mt, j.len, j.sl, j.dis, fun q hq => j.hid q (List.mem_append_right _ hq), fun q hq => j.raw q (List.mem_append_right _ hq)⟩
theorem J.hideI {g : Gh} {M : Addr → Prop} {σ : L2.St} {H : Hp} {ρ : Ev} {hs : List (V × D × Sg)} {rs : List (Addr × Obj × HO)} (j : J K g M σ H ρ) (h1 : ∀ q ∈ hs, q.2.2 ≠ .t ∧ Rep K g.z (g.av M q.2.2) H q.2.1 q.1) (h2 : ∀ q ∈ rs, ¬ vol g.z q.1 ∧ ¬ M q.1 ∧ H q.1 = some (.frz q.2.1 q.2.2)) : J K (g.hide hs rs) M σ H ρ :=
  ⟨j.fr, j.ok0, j.ok, j.bz, j.new, j.mt, j.len, j.sl, j.dis, fun q hq => (List.mem_append.mp hq).elim (h1 q) (j.hid q), fun q hq => (List.mem_append.mp hq).elim (h2 q) (j.raw q)⟩
/-- while the hidden things stand, the iterator gives the items ds -/
def WalkD (K : PySem.W.Frag) (g : Gh) (s : Sg) (Jt : It) (ds : List D) (hs : List (V × D × Sg)) (rs : List (Addr × Obj × HO)) : Prop :=
  ∀ M H σ ρ, J K (g.hide hs rs) M σ H ρ → (∀ i, i < ds.length → Jt.go i H) ∧ Jt.stop ds.length H ∧ ∀ i x H', i < ds.length → Jt.yld i H x H' → ∃ d, ds[i]? = some d ∧ Fr (vol g.z) H H' ∧ StOk g.z H' ∧ Rep K g.z (g.av M s) H' d x
def rdI (K : PySem.W.Frag) (s : Sg) (w : TDA) : TI := fun σ H R => ∃ g M ρ R', J K g M σ H ρ ∧ w ρ R' ∧ ∀ Jt H' ds hs rs, Fr (vol g.z) H H' → J K (g.hide hs rs) M σ H' ρ → WalkD K g s Jt ds hs rs → R' ds → R Jt H'
abbrev DI (X : Cx) (tg : Expr) (s : Sg) (e : Expr) (w : TDA) : Prop := PI X tg e (rdI X.K s w)
theorem PI_imp {t t' : TI} (h : PI X tg e t) (f : ∀ σ H R, t' σ H R → t σ H R) : PI X tg e t' := ⟨fun pins s σ H R I q => h.run pins s σ H R I (f _ _ _ q)⟩
theorem PI_or {t t' : TI} (h : PI X tg e t) (h' : PI X tg e t') : PI X tg e (fun σ H R => t σ H R ∨ t' σ H R) := ⟨fun pins s σ H R I q => q.elim (h.run pins s σ H R I) (h'.run pins s σ H R I)⟩
/-- what is walked, as a tree: a list, a tuple -/
def wIt (w : TDE) : TDA := fun ρ R => w ρ fun x => ∃ ds, itemsOf x = some ds ∧ R ds
def tIt (K : PySem.W.Frag) (tl : TE) : TI := fun σ H R => tl σ H fun x H1 => ∃ a, x = .ref a ∧ (((∃ xs, SqL K H1 a xs) ∧ R (Itl K a) H1) ∨ ((∃ xs, SqT K H1 a xs) ∧ R (Itt K a) H1))
theorem pi_lt {l : Expr} {tl : TE} (hl : PE X l tl) : PI X tg l (tIt X.K tl) := by
  refine ⟨fun pins s σ H R I h => ?_⟩
  refine thn (hl.run pins s σ H _ I h) fun v s1 ⟨x, H1, I1, r1, q1⟩ => ?_
  obtain ⟨a, e, h1 | h1⟩ := q1
  · obtain ⟨⟨xs, hq⟩, q⟩ := h1
    subst e
    cases r1
    obtain ⟨its, rv, p, hz⟩ := I1.list hq
    refine wpAny_pyIter_list p.isList ?_
    refine ⟨s1.heap.objs.size, [s1.heap.objs.size], _, _, H1, rfl, I1.kept (t' := s1.toks) fun b o e => Heap.get?_push_of_some _ e, turn_list a _, ⟨_, Heap.get?_push_size _ rfl, rfl, rfl⟩, fun b hb => ?_, q⟩
    have e : b = s1.heap.objs.size := by simpa using hb
    subst e
    exact I1.fpOk (Nat.le_refl _) (I1.hok.fresh (Nat.le_refl _))
  · obtain ⟨⟨xs, hq⟩, q⟩ := h1
    subst e
    cases r1
    obtain ⟨its, rv, p, hz⟩ := I1.tuple hq
    refine wpAny_pyIter_tuple (show s1.heap.IsTuple a its.toArray from p) ?_
    refine ⟨s1.heap.objs.size, [s1.heap.objs.size], _, _, H1, rfl, I1.kept (t' := s1.toks) fun b o e => Heap.get?_push_of_some _ e, turn_tuple a _, ⟨_, Heap.get?_push_size _ rfl, rfl, rfl⟩, fun b hb => ?_, q⟩
    have e : b = s1.heap.objs.size := by simpa using hb
    subst e
    exact I1.fpOk (Nat.le_refl _) (I1.hok.fresh (Nat.le_refl _))
theorem di_it (h : DE X s e w) (hs : s ≠ .t := by decide) : DI X tg s e (wIt w) := by
  refine PI_imp (pi_lt h) ?_
  rintro σ H R ⟨g, M, ρ, R', j, hw, k⟩
  refine ⟨g, M, ρ, _, j, hw, fun v H1 d f1 j1 r1 hd => ?_⟩
  obtain ⟨ds, e1, hR⟩ := hd
  have jh : J X.K (g.hide [(v, d, s)] []) M σ H1 ρ := j1.hideI (fun q hq => by
    cases List.mem_singleton.mp hq
    exact ⟨hs, r1⟩) (fun q hq => nomatch hq)
  have hid : ∀ M H σ ρ, J X.K (g.hide [(v, d, s)] []) M σ H ρ → Rep X.K g.z (g.av M s) H d v := fun M H σ ρ j' => (j'.hid (v, d, s) (List.mem_append_left _ (List.mem_singleton.mpr rfl))).2
  cases d with
  | lst es =>
    cases e1
    obtain ⟨a, us, rfl, _, h1, h2⟩ := rep_lst.mp r1
    refine ⟨a, rfl, .inl ⟨⟨us, sqL_of h1⟩, k _ H1 ds _ _ f1 jh (fun M' H' σ' ρ' j' => ?_) hR⟩⟩
    obtain ⟨a', us', e2, _, h3, h4⟩ := rep_lst.mp (hid M' H' σ' ρ' j')
    cases e2
    have q : SqL X.K H' a us' := sqL_of h3
    have W := walk_list (K := X.K) (a := a) (xs := us')
    refine ⟨fun i hi => W.goes i H' (by rw [h4.len]; exact hi) q, by rw [← h4.len]; exact W.stops H' q, fun i x H2 hi y => ?_⟩
    obtain ⟨e3, e4⟩ := W.yields i H' x H2 (by rw [h4.len]; exact hi) q y
    subst e3
    obtain ⟨d, h5, h6⟩ := h4.getv e4
    exact ⟨d, h5, Fr.refl, j'.ok, h6⟩
  | tup es =>
    cases e1
    obtain ⟨a, us, rfl, h1, h2⟩ := rep_tup.mp r1
    refine ⟨a, rfl, .inr ⟨⟨us, sqT_of h1⟩, k _ H1 ds _ _ f1 jh (fun M' H' σ' ρ' j' => ?_) hR⟩⟩
    obtain ⟨a', us', e2, h3, h4⟩ := rep_tup.mp (hid M' H' σ' ρ' j')
    cases e2
    have q : SqT X.K H' a us' := sqT_of h3
    have W := walk_tup (K := X.K) (a := a) (xs := us')
    refine ⟨fun i hi => W.goes i H' (by rw [h4.len]; exact hi) q, by rw [← h4.len]; exact W.stops H' q, fun i x H2 hi y => ?_⟩
    obtain ⟨e3, e4⟩ := W.yields i H' x H2 (by rw [h4.len]; exact hi) q y
    subst e3
    obtain ⟨d, h5, h6⟩ := h4.getv e4
    exact ⟨d, h5, Fr.refl, j'.ok, h6⟩
  | _ => cases e1
/-- a text, sign by sign -/
def signsD (z : Str) : List D := z.cps.toList.map fun c => .str ⟨#[c]⟩
def wItS (w : TDE) : TDA := fun ρ R => w ρ fun x => ∃ z, x = .str z ∧ R (signsD z)
theorem di_str (h : DE X s1 e w) : DI X tg s e (wItS w) := by
  refine PI_imp (pi_str h) ?_
  rintro σ H R ⟨g, M, ρ, R', j, hw, k⟩
  refine ⟨g, M, ρ, _, j, hw, fun v H1 d f1 j1 r1 hd => ?_⟩
  obtain ⟨z, e1, hR⟩ := hd
  subst e1
  refine ⟨z, rep_str.mp r1, k _ H1 (signsD z) [] [] f1 (j1.hideI (fun q hq => nomatch hq) (fun q hq => nomatch hq)) (fun M' H' σ' ρ' j' => ?_) hR⟩
  have W := walk_str (z := z)
  have el : (signsD z).length = z.cps.size := by unfold signsD; simp
  refine ⟨fun i hi => W.goes i H' (by rw [← el]; exact hi) trivial, by rw [el]; exact W.stops H' trivial, fun i x H2 hi y => ?_⟩
  obtain ⟨e3, c, e4, e5⟩ := W.yields i H' x H2 (by rw [← el]; exact hi) trivial y
  subst e3 e5
  refine ⟨.str ⟨#[c]⟩, ?_, Fr.refl, j'.ok, rep_str.mpr rfl⟩
  unfold signsD
  rw [List.getElem?_map]
  have : z.cps.toList[i]? = some c := by simpa using e4
  rw [this]; rfl
/-- range(n), range(a, b) -/
def rangeD (lo : Int) (n : Nat) : List D := (List.range n).map fun i => .int (lo + (i : Nat))
theorem range_walk {g : Gh} {lo : Int} {n : Nat} : WalkD K g s (Itr lo n) (rangeD lo n) [] [] := by
  intro M' H' σ' ρ' j'
  have W := walk_range (lo := lo) (n := n)
  have el : (rangeD lo n).length = n := by unfold rangeD; simp
  refine ⟨fun i hi => W.goes i H' (by rw [← el]; exact hi) trivial, by rw [el]; exact W.stops H' trivial, fun i x H2 hi y => ?_⟩
  obtain ⟨e3, e4⟩ := W.yields i H' x H2 (by rw [← el]; exact hi) trivial y
  subst e3 e4
  refine ⟨.int (lo + i), ?_, Fr.refl, j'.ok, rep_int.mpr rfl⟩
  unfold rangeD
  rw [List.getElem?_map, List.getElem?_range (by rw [← el]; exact hi)]; rfl
def wRg1 (ws : TDA) : TDA := fun ρ R => ws ρ fun ds => ∃ n : Int, ds = [.int n] ∧ -(2 ^ 62) ≤ n ∧ n < 2 ^ 62 ∧ R (rangeD 0 n.toNat)
theorem di_range1 {p : Pos} {ws : TDA} (hg : Gl X "range") (hm : X.mg "range" = none) (ha : DA X [s1] [a] ws) (hs : starEach [a] X.env = [(false, eval a X.env)] := by rfl) : DI X tg s (.Call (.Name "range" p) [a] [] pos) (wRg1 ws) := by
  refine PI_imp (pi_range1 hg hm ha hs) ?_
  rintro σ H R ⟨g, M, ρ, R', j, hw, k⟩
  refine ⟨g, M, ρ, _, j, hw, fun vs H1 ds f1 j1 r1 hd => ?_⟩
  obtain ⟨n, e1, h1, h2, hR⟩ := hd
  subst e1
  obtain ⟨v, rfl, r⟩ := repA1 r1
  rw [rep_int.mp r]
  exact ⟨n, rfl, h1, h2, k _ H1 _ [] [] f1 (j1.hideI (fun q hq => nomatch hq) (fun q hq => nomatch hq)) range_walk hR⟩
def wRg2 (ws : TDA) : TDA := fun ρ R => ws ρ fun ds => ∃ m n : Int, ds = [.int m, .int n] ∧ (-(2 ^ 62) ≤ m ∧ m < 2 ^ 62 ∧ -(2 ^ 62) ≤ n ∧ n < 2 ^ 62) ∧ R (rangeD m (n - m).toNat)
theorem di_range2 {p : Pos} {ws : TDA} (hg : Gl X "range") (hm : X.mg "range" = none) (ha : DA X [s1, s2] [a, b] ws) (hs : starEach [a, b] X.env = [(false, eval a X.env), (false, eval b X.env)] := by rfl) (hs2 : starEach [b] X.env = [(false, eval b X.env)] := by rfl) : DI X tg s (.Call (.Name "range" p) [a, b] [] pos) (wRg2 ws) := by
  refine PI_imp (pi_range2 hg hm ha hs hs2) ?_
  rintro σ H R ⟨g, M, ρ, R', j, hw, k⟩
  refine ⟨g, M, ρ, _, j, hw, fun vs H1 ds f1 j1 r1 hd => ?_⟩
  obtain ⟨m, n, e1, h1, hR⟩ := hd
  subst e1
  obtain ⟨v, v', rfl, r, r'⟩ := repA2 r1
  rw [rep_int.mp r, rep_int.mp r']
  exact ⟨m, n, rfl, h1, k _ H1 _ [] [] f1 (j1.hideI (fun q hq => nomatch hq) (fun q hq => nomatch hq)) range_walk hR⟩
/-! ### targets -/
def TgOk (K : PySem.W.Frag) (s : Sg) (gt : TG) (stt : Ev → D → Option Ev) : Prop := ∀ g M σ H ρ d x ρ' (Q : L2.St → Hp → Prop), J K g M σ H ρ → Rep K g.z (g.av M s) H d x → stt ρ d = some ρ' → (∀ σ', J K g M σ' H ρ' → Q σ' H) → gt x σ H Q
def st1 (s : Sg) (i : Nat) : Ev → D → Option Ev := fun ρ d => some (ρ.set i (bdS s d))
theorem tg1 {i : Nat} : TgOk K s (gName i) (st1 s i) := by
  intro g M σ H ρ d x ρ' Q j r e k
  cases e
  exact k _ (j.set i (bd_own s d) (bd_ok r))
def st2 (s : Sg) (i k : Nat) : Ev → D → Option Ev := fun ρ d => match d with
  | .tup [x, y] => some ((ρ.set i (bdS s x)).set k (bdS s y))
  | _ => none
theorem tg2 {i k : Nat} : TgOk K s (gTup K 2 (gCons (gName i) (gCons (gName k) gNil))) (st2 s i k) := by
  intro g M σ H ρ d x ρ' Q j r e q
  unfold st2 at e
  split at e
  · rename_i y z
    cases e
    obtain ⟨a, us, rfl, h1, h2⟩ := rep_tup.mp r
    obtain ⟨u1, us1, rfl, r1, h3⟩ := repL_cons.mp h2
    obtain ⟨u2, us2, rfl, r2, h4⟩ := repL_cons.mp h3
    have e4 := repL_nil.mp h4
    subst e4
    refine ⟨a, _, rfl, sqT_of h1, rfl, u1, _, rfl, u2, _, rfl, rfl, q _ ?_⟩
    exact (j.set i (bd_own s y) (bd_ok r1)).set k (bd_own s z) (bd_ok r2)
  · cases e
/-! ### for -/
def wForL (stt : Ev → D → Option Ev) (wb : TDS) (E : EndsD) : List D → Ev → Prop
  | [], ρ => E.nx ρ
  | d :: ds, ρ => ∃ ρ', stt ρ d = some ρ' ∧ wb { E with nx := wForL stt wb E ds, ct := wForL stt wb E ds, bk := E.nx } ρ'
def wFor (wi : TDA) (stt : Ev → D → Option Ev) (wb : TDS) : TDS := fun E ρ => wi ρ fun ds => wForL stt wb E ds ρ
theorem for_core {g : Gh} {M : Addr → Prop} {σ : L2.St} {H : Hp} {ρ : Ev} {E : EndsD} {D : Ends} {gt : TG} {stt : Ev → Tr.D → Option Ev} {wb : TDS} {Jt : It} {ds : List Tr.D} {hs : List (V × Tr.D × Sg)} {rs : List (Addr × Obj × HO)} (htg : TgOk K s gt stt)
    (ok : EndsOk K (g.hide hs rs) E D) (j : J K (g.hide hs rs) M σ H ρ) (W : WalkD K g s Jt ds hs rs) (hw : wForL stt wb E ds ρ) :
    ∃ W : Nat → Nat → L2.St → Hp → Prop, (∃ m, W 0 m σ H) ∧ ∀ i m σ H, W i m σ H →
      (Jt.stop i H ∧ D.nx σ H) ∨ (Jt.go i H ∧ ∃ N : L2.St → Hp → Prop, (∀ σ' H', N σ' H' → ∃ m', m' < m ∧ W (i + 1) m' σ' H') ∧ ∀ x H', Jt.yld i H x H' → gt x σ H' fun σ2 H2 => rdS K wb { D with nx := N, ct := N, bk := D.nx } σ2 H2) := by
  refine ⟨fun i m σ H => m = ds.length - i ∧ i ≤ ds.length ∧ ∃ M ρ, J K (g.hide hs rs) M σ H ρ ∧ wForL stt wb E (ds.drop i) ρ, ⟨ds.length, by simp, Nat.zero_le _, M, ρ, j, hw⟩, ?_⟩
  rintro i m σ H ⟨rfl, hi, M, ρ, j, hw⟩
  obtain ⟨w1, w2, w3⟩ := W M H σ ρ j
  by_cases hlt : i < ds.length
  · refine .inr ⟨w1 i hlt, fun σ' H' => ∃ M ρ, J K (g.hide hs rs) M σ' H' ρ ∧ wForL stt wb E (ds.drop (i + 1)) ρ, fun σ' H' ⟨M', ρ', j', h'⟩ => ⟨ds.length - (i + 1), by omega, rfl, hlt, M', ρ', j', h'⟩, fun x H' y => ?_⟩
    obtain ⟨d, e1, f1, k1, r1⟩ := w3 i x H' hlt y
    rw [List.drop_eq_getElem_cons hlt] at hw
    obtain ⟨ρ', e2, hb⟩ := hw
    have e3 : ds[i] = d := by simpa [hlt] using e1
    rw [e3] at e2
    refine htg (g.hide hs rs) M σ H' ρ d x ρ' _ (j.go f1 k1) r1 e2 fun σ' j' => ?_
    exact ⟨g.hide hs rs, M, ρ', _, j', hb, ⟨fun M2 σ2 H2 ρ2 j2 h2 => ⟨M2, ρ2, j2, h2⟩, ok.rt, fun M2 σ2 H2 ρ2 j2 h2 => ok.nx M2 σ2 H2 ρ2 j2 h2, fun M2 σ2 H2 ρ2 j2 h2 => ⟨M2, ρ2, j2, h2⟩⟩⟩
  · have e : i = ds.length := by omega
    subst e
    rw [List.drop_length] at hw
    exact .inl ⟨w2, ok.nx M σ H ρ j hw⟩
theorem EndsOk.hide {g : Gh} {E : EndsD} {D : Ends} {hs : List (V × Tr.D × Sg)} {rs : List (Addr × Obj × HO)} (ok : EndsOk K g E D) : EndsOk K (g.hide hs rs) E D :=
  ⟨fun M σ H ρ j h => ok.nx M σ H ρ j.unhide h, ok.rt, fun M σ H ρ j h => ok.bk M σ H ρ j.unhide h, fun M σ H ρ j h => ok.ct M σ H ρ j.unhide h⟩
theorem ds_for {iter : Expr} {body : List Stmt} {wi : TDA} {gt : TG} {stt : Ev → D → Option Ev} {wb : TDS} (hp : PassesOwn (model X.prog X.w) X.A X.env X.xe) (hc : X.calm = true) (hi : DI X tg s iter wi) (hg : PG X tg gt) (htg : TgOk X.K s gt stt) (hb : DSs X body wb)
    (hs : ∀ x, foldedSetIterable iter X.env x = pure x := by intro _; rfl) : DS X (.For tg iter body [] pos) (wFor wi stt wb) := by
  refine PS_imp (ps_for hp hc hi hg hb hs) ?_
  rintro D σ H ⟨g, M, ρ, E, j, hw, ok⟩
  refine ⟨g, M, ρ, _, j, hw, fun Jt H' ds hs rs f j' W hR => ?_⟩
  exact for_core htg ok.hide j' W hR
end
end Tr
end
section
namespace Tr
open PySem PySem.Spec L2
/-! ### comprehensions -/
def wipeB (ρ : Ev) : List Nat → Ev
  | [] => ρ
  | v :: vs => (wipeB ρ vs).set v .non
section
variable {X : Cx} {K : PySem.W.Frag} {s s1 s2 : Sg} {e a b c tg : Expr} {pos pos' : Pos} {w wa wb : TDE} {st : Stmt} {rest : List Stmt} {t u : TDS}
theorem J.wipe {g : Gh} {M : Addr → Prop} {σ : L2.St} {H : Hp} {ρ : Ev} (j : J K g M σ H ρ) : ∀ vs : List Nat, J K g M (L2.wipe σ vs) H (wipeB ρ vs)
  | [] => j
  | v :: vs => (j.wipe vs).non v none
/-- a new list of one's own that stands in no slot -/
theorem J.newN {g : Gh} {M : Addr → Prop} {σ : L2.St} {H : Hp} {ρ : Ev} {p : Addr} {o : HO} (j : J K g M σ H ρ) (hp : H p = none) (ht : isT o = false) (hf : isFz o = false := by rfl) : J K g (plus M p) σ (upd H p o) ρ := by
  have q := j.newO (o := o) hp ht (b := .non) σ.length trivial hf
  rwa [List.set_eq_of_length_le (Nat.le_refl _), List.set_eq_of_length_le (Nat.le_of_eq j.len)] at q
/-- it is stored to -/
theorem J.wrN {g : Gh} {M : Addr → Prop} {σ : L2.St} {H : Hp} {ρ : Ev} {p : Addr} {o : HO} (j : J K g M σ H ρ) (ht : isT o = false) (m : M p) (hno : ∀ i, ¬ OwnAt ρ σ i p) (hf : isFz o = false := by rfl) : J K g M σ (upd H p o) ρ := by
  have nvp := j.nv p m
  refine ⟨⟨fun c u e k => ?_, fun c x y e => j.fr.nl c x y (nl_upd hf c x y e)⟩, j.ok0, j.ok.store nvp, j.bz, j.new, fun q mq => ?_, j.len, fun k b' u e1 e2 => ?_, j.dis, fun q hq => ⟨(j.hid q hq).1, (j.hid q hq).2.ov (ov_st (j.hid q hq).1 j m)⟩, fun q hq => ?_⟩
  · have nc : c ≠ p := fun z => by rw [z, j.new p m] at e; cases e
    rw [upd_ne nc]; exact j.fr c u e k
  · by_cases z : q = p
    · subst z; exact ⟨o, upd_same, ht⟩
    · obtain ⟨u, e, t⟩ := j.mt q mq
      exact ⟨u, by rw [upd_ne z]; exact e, t⟩
  · have s := j.sl k b' u e1 e2
    cases b' with
    | non => trivial
    | val d => obtain ⟨v, e, r⟩ := s; exact ⟨v, e, r.ov (ov_st (by decide) j m)⟩
    | wv d => obtain ⟨v, e, r⟩ := s; exact ⟨v, e, r.ov (ov_st (by decide) j m)⟩
    | xv v d => obtain ⟨e, r⟩ := s; exact ⟨e, r.ov (ov_st (by decide) j m)⟩
    | ol ds =>
      obtain ⟨q, vs, e, mq, hq, r⟩ := s
      have nq : q ≠ p := fun z => by
        subst z e
        exact hno k ⟨⟨_, e1, rfl⟩, e2⟩
      exact ⟨q, vs, e, mq, by rw [upd_ne nq]; exact hq, r.ov (ov_st (by decide) j m)⟩
    | od ds =>
      obtain ⟨q, vs, e, mq, hq, r⟩ := s
      have nq : q ≠ p := fun z => by
        subst z e
        exact hno k ⟨⟨_, e1, rfl⟩, e2⟩
      exact ⟨q, vs, e, mq, by rw [upd_ne nq]; exact hq, r.ov (ov_st (by decide) j m)⟩
  · obtain ⟨a, b', c⟩ := j.raw q hq
    have nq : q.1 ≠ p := fun z => b' (z ▸ m)
    exact ⟨a, b', by rw [upd_ne nq]; exact c⟩
theorem no_own {g : Gh} {M : Addr → Prop} {σ : L2.St} {H : Hp} {ρ : Ev} {p : Addr} (j : J K g M σ H ρ) (hp : H p = none) : ∀ i, ¬ OwnAt ρ σ i p := fun i ⟨⟨b', e1, e2⟩, e3⟩ => by
  have s := j.sl i b' _ e1 e3
  cases b' <;> first | cases e2 | skip
  · obtain ⟨q', vs, e, m, hq, _⟩ := s; cases e; rw [hp] at hq; cases hq
  · obtain ⟨q', vs, e, m, hq, _⟩ := s; cases e; rw [hp] at hq; cases hq
abbrev TDTs := TDT
def wYes : TDT := fun _ R => R true
theorem PTs_imp {ifs : List Expr} {t t' : TT} (h : PTs X ifs t) (f : ∀ σ H Q, t' σ H Q → t σ H Q) : PTs X ifs t' := ⟨fun pins s σ H Q I q => h.run pins s σ H Q I (f _ _ _ q)⟩
theorem dts_nil : PTs X [] (rdT X.K wYes) := by
  refine PTs_imp pts_nil ?_
  rintro σ H Q ⟨g, M, ρ, R, j, hw, k⟩
  exact k true H Fr.refl j hw
theorem dts_one {c : Expr} {t : TDT} (h : DT X c t) : PTs X [c] (rdT X.K t) := pts_one h
def wLcL (stt : Ev → D → Option Ev) (wt : TDT) (we : TDE) (ρ : Ev) (R : DK) : List D → List D → Prop
  | [], acc => R (.lst acc)
  | d :: ds, acc => ∃ ρ', stt ρ d = some ρ' ∧ wt ρ' fun b => if b = true then we ρ' fun y => acc.length < sizeLine ∧ wLcL stt wt we ρ R ds (acc ++ [y]) else wLcL stt wt we ρ R ds acc
def wLc (wi : TDA) (stt : Ev → D → Option Ev) (wt : TDT) (we : TDE) (vs : List Nat) : TDE := fun ρ R => wi ρ fun ds => wLcL stt wt we (wipeB ρ vs) R ds []
/-- a target that touches the block's own slots alone -/
def TgWipe (gt : TG) (vs : List Nat) : Prop := ∀ x σ H (Q : L2.St → Hp → Prop), gt x (L2.wipe σ vs) H Q → gt x (L2.wipe σ vs) H fun σ2 H2 => L2.wipe σ2 vs = L2.wipe σ vs ∧ Q σ2 H2
theorem tw1 {i : Nat} : TgWipe (gName i) [i] := by
  intro x σ H Q h
  refine ⟨?_, h⟩
  show (((σ.set i none).set i (some x)).set i none) = σ.set i none
  rw [List.set_set, List.set_set]
theorem tw2 {K : PySem.W.Frag} {i k : Nat} : TgWipe (gTup K 2 (gCons (gName i) (gCons (gName k) gNil))) [i, k] := by
  intro x σ H Q h
  obtain ⟨a, xs, e1, h1, h2, v, r, e2, v2, r2, e3, e4, h3⟩ := h
  refine ⟨a, xs, e1, h1, h2, v, r, e2, v2, r2, e3, e4, ?_, h3⟩
  show ((((((σ.set k none).set i none).set i (some v)).set k (some v2)).set k none).set i none) = (σ.set k none).set i none
  by_cases hik : i = k
  · subst hik
    simp only [List.set_set]
  · rw [List.set_set, List.set_set, List.set_comm _ _ hik, List.set_set, List.set_set]
theorem lc_run {g : Gh} {M : Addr → Prop} {σ : L2.St} {H1 : Hp} {ρ : Ev} {R : DK} {Q : VK} {gt : TG} {stt : Ev → D → Option Ev} {wt : TDT} {we : TDE} {vs : List Nat} {Jt : It} {ds : List D} {hs' : List (V × D × Sg)} {rs : List (Addr × Obj × HO)} (hs : s ≠ .t) (htg : TgOk K s1 gt stt) (htw : TgWipe gt vs)
    (j1 : J K (g.hide hs' rs) M σ H1 ρ) (W : WalkD K g s1 Jt ds hs' rs) (hR : wLcL stt wt we (wipeB ρ vs) R ds []) (k : ∀ v H' d, Fr (vol g.z) H1 H' → J K (g.hide hs' rs) M σ H' ρ → Rep K g.z (g.av M s) H' d v → R d → Q v H') :
    ∀ D, H1 D = none → ∃ W : Nat → Nat → Hp → Prop, (∃ m, W 0 m (upd H1 D (.lst []))) ∧ ∀ i m H, W i m H →
      (Jt.stop i H ∧ Q (.ref D) H) ∨ (Jt.go i H ∧ ∃ Nx : Hp → Prop, (∀ H', Nx H' → ∃ m', m' < m ∧ W (i + 1) m' H') ∧ ∀ x H', Jt.yld i H x H' → gt x (L2.wipe σ vs) H' fun σ2 H2 => L2.wipe σ2 vs = L2.wipe σ vs ∧ rdT K wt σ2 H2 fun b H3 =>
        if b = true then rdE K s we σ2 H3 fun y H4 => ∃ acc, H4 D = some (.lst acc) ∧ acc.length < sizeLine ∧ Nx (upd H4 D (.lst (acc ++ [y]))) else Nx H3) := by
  intro L hL
  have jw : J K (g.hide hs' rs) M (L2.wipe σ vs) H1 (wipeB ρ vs) := j1.wipe vs
  refine ⟨fun i m H => m = ds.length - i ∧ i ≤ ds.length ∧ ∃ acc vacc, H L = some (.lst vacc) ∧ RepL K g.z (g.av (plus M L) s) H acc vacc ∧ J K (g.hide hs' rs) (plus M L) (L2.wipe σ vs) H (wipeB ρ vs) ∧ Fr (vol g.z) H1 H ∧ wLcL stt wt we (wipeB ρ vs) R (ds.drop i) acc,
    ⟨ds.length, by simp, Nat.zero_le _, [], [], upd_same, repL_nil.mpr rfl, jw.newN hL rfl, Fr.laid hL, hR⟩, ?_⟩
  rintro i m H2 ⟨rfl, hi, acc, vacc, hH, hacc, j2, f2, hw2⟩
  obtain ⟨w1, w2, w3⟩ := W (plus M L) H2 _ _ j2
  by_cases hlt : i < ds.length
  · refine .inr ⟨w1 i hlt, fun H => ∃ acc vacc, H L = some (.lst vacc) ∧ RepL K g.z (g.av (plus M L) s) H acc vacc ∧ J K (g.hide hs' rs) (plus M L) (L2.wipe σ vs) H (wipeB ρ vs) ∧ Fr (vol g.z) H1 H ∧ wLcL stt wt we (wipeB ρ vs) R (ds.drop (i + 1)) acc,
      fun H' ⟨acc, vacc, a1, a2, a3, a4, a5⟩ => ⟨ds.length - (i + 1), by omega, rfl, hlt, acc, vacc, a1, a2, a3, a4, a5⟩, fun x H3 y => ?_⟩
    obtain ⟨d, e1, f3, k3, r3⟩ := w3 i x H3 hlt y
    rw [List.drop_eq_getElem_cons hlt] at hw2
    obtain ⟨ρ', e2, hb⟩ := hw2
    have e3 : ds[i] = d := by simpa [hlt] using e1
    rw [e3] at e2
    have j3 := j2.go f3 k3
    have nvL : ¬ vol g.z L := j2.nv L (.inr rfl)
    have hH3 : H3 L = some (.lst vacc) := f3 L _ hH fun z => absurd z nvL
    have hacc3 := hacc.ov (f3.ov fun _ z => Gh.av_vol z)
    refine htw x σ H3 _ (htg (g.hide hs' rs) (plus M L) _ H3 _ d x ρ' _ j3 r3 e2 fun σ' j4 => ?_)
    refine ⟨g.hide hs' rs, plus M L, ρ', _, j4, hb, fun bb H5 f5 j5 hR5 => ?_⟩
    have hH5 : H5 L = some (.lst vacc) := f5 L _ hH3 fun z => absurd z nvL
    have hacc5 := hacc3.ov (f5.ov fun _ z => Gh.av_vol z)
    have j5' := j3.go f5 j5.ok
    cases bb with
    | false => exact ⟨acc, vacc, hH5, hacc5, j5', f2.trans (f3.trans f5), hR5⟩
    | true =>
      refine ⟨g.hide hs' rs, plus M L, ρ', _, j5, hR5, fun yv H6 dy f6 j6 r6 ⟨hz, hR6⟩ => ?_⟩
      have hH6 : H6 L = some (.lst vacc) := f6 L _ hH5 fun z => absurd z nvL
      have hacc6 := hacc5.ov (f6.ov fun _ z => Gh.av_vol z)
      have j6' := j5'.go f6 j6.ok
      refine ⟨vacc, hH6, by rw [hacc.len]; exact hz, acc ++ [dy], vacc ++ [yv], upd_same, (hacc6.app (.one r6)).ov (ov_st hs j6 (.inr rfl)), j6'.wrN rfl (.inr rfl) fun n ho => ?_, ?_, hR6⟩
      · exact no_own jw hL n ho
      · refine ⟨fun c o hc hk => ?_, fun c x y e => (f2.trans (f3.trans (f5.trans f6))).nl c x y (nl_upd rfl c x y e)⟩
        have nc : c ≠ L := ne_of_none hc hL
        rw [upd_ne nc]
        exact (f2.trans (f3.trans (f5.trans f6))) c o hc hk
  · have e : i = ds.length := by omega
    subst e
    rw [List.drop_length] at hw2
    refine .inl ⟨w2, ?_⟩
    refine k _ H2 _ f2 (j1.go f2 j2.ok) (rep_lst.mpr ⟨L, vacc, rfl, j1.nav hL s, nz_lst hH, hacc.ov (Ov.less fun b hb => ?_)⟩) hw2
    cases s with
    | s => exact hb.elim .inl fun z => .inr (z.elim .inl fun z => .inr (.inl z))
    | w => exact hb.elim .inl fun z => .inr (.inl z)
    | t => exact absurd rfl hs
theorem lc_imp {wi : TDA} {gt : TG} {stt : Ev → D → Option Ev} {wt : TDT} {we : TDE} {vs : List Nat} (hs : s ≠ .t) (htg : TgOk X.K s1 gt stt) (htw : TgWipe gt vs) : ∀ σ H Q, rdE X.K s (wLc wi stt wt we vs) σ H Q → tLc (rdI X.K s1 wi) gt (rdT X.K wt) (rdE X.K s we) vs σ H Q := by
  rintro σ H Q ⟨g, M, ρ, R, j, hw, k⟩
  refine ⟨g, M, ρ, _, j, hw, fun Jt H1 ds hs' rs f1 j1 W hR => ?_⟩
  exact lc_run hs htg htw j1 W hR fun v H' d f j' => k v H' d (f1.trans f) j'.unhide
/-! dicts -/
def wDcL (stt : Ev → D → Option Ev) (wt : TDT) (wk we : TDE) (ρ : Ev) (R : DK) : List D → List (Key × D) → Prop
  | [], acc => R (.dct acc)
  | d :: ds, acc => ∃ ρ', stt ρ d = some ρ' ∧ wt ρ' fun b => if b = true then wk ρ' fun y => we ρ' fun x => ∃ k, keyD y = some k ∧ acc.length < sizeLine ∧ wDcL stt wt wk we ρ R ds (putD acc k x) else wDcL stt wt wk we ρ R ds acc
def wDc (wi : TDA) (stt : Ev → D → Option Ev) (wt : TDT) (wk we : TDE) (vs : List Nat) : TDE := fun ρ R => wi ρ fun ds => wDcL stt wt wk we (wipeB ρ vs) R ds []
theorem dc_run {g : Gh} {M : Addr → Prop} {σ : L2.St} {H1 : Hp} {ρ : Ev} {R : DK} {Q : VK} {gt : TG} {stt : Ev → D → Option Ev} {wt : TDT} {wk we : TDE} {vs : List Nat} {Jt : It} {ds : List D} {hs' : List (V × D × Sg)} {rs : List (Addr × Obj × HO)} (hs : s ≠ .t) (htg : TgOk K s1 gt stt) (htw : TgWipe gt vs)
    (j1 : J K (g.hide hs' rs) M σ H1 ρ) (W : WalkD K g s1 Jt ds hs' rs) (hR : wDcL stt wt wk we (wipeB ρ vs) R ds []) (k : ∀ v H' d, Fr (vol g.z) H1 H' → J K (g.hide hs' rs) M σ H' ρ → Rep K g.z (g.av M s) H' d v → R d → Q v H') :
    ∀ D, H1 D = none → ∃ W : Nat → Nat → Hp → Prop, (∃ m, W 0 m (upd H1 D (.dK []))) ∧ ∀ i m H, W i m H →
      (Jt.stop i H ∧ Q (.ref D) H) ∨ (Jt.go i H ∧ ∃ Nx : Hp → Prop, (∀ H', Nx H' → ∃ m', m' < m ∧ W (i + 1) m' H') ∧ ∀ x H', Jt.yld i H x H' → gt x (L2.wipe σ vs) H' fun σ2 H2 => L2.wipe σ2 vs = L2.wipe σ vs ∧ rdT K wt σ2 H2 fun b H3 =>
        if b = true then rdE K s2 wk σ2 H3 fun y H4 => rdE K s we σ2 H4 fun z H5 => ∃ kvs k, y = kV k ∧ H5 D = some (.dK kvs) ∧ kvs.length < sizeLine ∧ Nx (upd H5 D (.dK (putK kvs k z))) else Nx H3) := by
  intro L hL
  have jw : J K (g.hide hs' rs) M (L2.wipe σ vs) H1 (wipeB ρ vs) := j1.wipe vs
  refine ⟨fun i m H => m = ds.length - i ∧ i ≤ ds.length ∧ ∃ acc vacc, H L = some (.dK vacc) ∧ RepK K g.z (g.av (plus M L) s) H acc vacc ∧ J K (g.hide hs' rs) (plus M L) (L2.wipe σ vs) H (wipeB ρ vs) ∧ Fr (vol g.z) H1 H ∧ wDcL stt wt wk we (wipeB ρ vs) R (ds.drop i) acc,
    ⟨ds.length, by simp, Nat.zero_le _, [], [], upd_same, repK_nil.mpr rfl, jw.newN hL rfl, Fr.laid hL, hR⟩, ?_⟩
  rintro i m H2 ⟨rfl, hi, acc, vacc, hH, hacc, j2, f2, hw2⟩
  obtain ⟨w1, w2, w3⟩ := W (plus M L) H2 _ _ j2
  by_cases hlt : i < ds.length
  · refine .inr ⟨w1 i hlt, fun H => ∃ acc vacc, H L = some (.dK vacc) ∧ RepK K g.z (g.av (plus M L) s) H acc vacc ∧ J K (g.hide hs' rs) (plus M L) (L2.wipe σ vs) H (wipeB ρ vs) ∧ Fr (vol g.z) H1 H ∧ wDcL stt wt wk we (wipeB ρ vs) R (ds.drop (i + 1)) acc,
      fun H' ⟨acc, vacc, a1, a2, a3, a4, a5⟩ => ⟨ds.length - (i + 1), by omega, rfl, hlt, acc, vacc, a1, a2, a3, a4, a5⟩, fun x H3 y => ?_⟩
    obtain ⟨d, e1, f3, k3, r3⟩ := w3 i x H3 hlt y
    rw [List.drop_eq_getElem_cons hlt] at hw2
    obtain ⟨ρ', e2, hb⟩ := hw2
    have e3 : ds[i] = d := by simpa [hlt] using e1
    rw [e3] at e2
    have j3 := j2.go f3 k3
    have nvL : ¬ vol g.z L := j2.nv L (.inr rfl)
    have hH3 : H3 L = some (.dK vacc) := f3 L _ hH fun z => absurd z nvL
    have hacc3 := hacc.ov (f3.ov fun _ z => Gh.av_vol z)
    refine htw x σ H3 _ (htg (g.hide hs' rs) (plus M L) _ H3 _ d x ρ' _ j3 r3 e2 fun σ' j4 => ?_)
    refine ⟨g.hide hs' rs, plus M L, ρ', _, j4, hb, fun bb H5 f5 j5 hR5 => ?_⟩
    have hH5 : H5 L = some (.dK vacc) := f5 L _ hH3 fun z => absurd z nvL
    have hacc5 := hacc3.ov (f5.ov fun _ z => Gh.av_vol z)
    have j5' := j3.go f5 j5.ok
    cases bb with
    | false => exact ⟨acc, vacc, hH5, hacc5, j5', f2.trans (f3.trans f5), hR5⟩
    | true =>
      refine ⟨g.hide hs' rs, plus M L, ρ', _, j5, hR5, fun kv H6 dk f6 j6 r6 hR6 => ⟨g.hide hs' rs, plus M L, ρ', _, j6, hR6, fun yv H7 dy f7 j7 r7 hd => ?_⟩⟩
      obtain ⟨kk, ek, hz, hR7⟩ := hd
      have f67 := f6.trans f7
      have hH7 : H7 L = some (.dK vacc) := f67 L _ hH5 fun z => absurd z nvL
      have hacc7 := hacc5.ov (f67.ov fun _ z => Gh.av_vol z)
      have j7' := j5'.go f67 j7.ok
      refine ⟨vacc, kk, keyD_ok ek r6, hH7, by rw [hacc.len]; exact hz, putD acc kk dy, putK vacc kk yv, upd_same, (hacc7.put r7).ov (ov_st hs j7 (.inr rfl)), j7'.wrN rfl (.inr rfl) fun n ho => ?_, ?_, hR7⟩
      · exact no_own jw hL n ho
      · refine ⟨fun c o hc hk => ?_, fun c x y e => (f2.trans (f3.trans (f5.trans f67))).nl c x y (nl_upd rfl c x y e)⟩
        have nc : c ≠ L := ne_of_none hc hL
        rw [upd_ne nc]
        exact (f2.trans (f3.trans (f5.trans f67))) c o hc hk
  · have e : i = ds.length := by omega
    subst e
    rw [List.drop_length] at hw2
    refine .inl ⟨w2, ?_⟩
    refine k _ H2 _ f2 (j1.go f2 j2.ok) (rep_dct.mpr ⟨L, vacc, rfl, j1.nav hL s, nz_dK hH, hacc.ov (Ov.less fun b hb => ?_)⟩) hw2
    cases s with
    | s => exact hb.elim .inl fun z => .inr (z.elim .inl fun z => .inr (.inl z))
    | w => exact hb.elim .inl fun z => .inr (.inl z)
    | t => exact absurd rfl hs
theorem dc_imp {wi : TDA} {gt : TG} {stt : Ev → D → Option Ev} {wt : TDT} {wk we : TDE} {vs : List Nat} (hs : s ≠ .t) (htg : TgOk X.K s1 gt stt) (htw : TgWipe gt vs) : ∀ σ H Q, rdE X.K s (wDc wi stt wt wk we vs) σ H Q → tDc (rdI X.K s1 wi) gt (rdT X.K wt) (rdE X.K s2 wk) (rdE X.K s we) vs σ H Q := by
  rintro σ H Q ⟨g, M, ρ, R, j, hw, k⟩
  refine ⟨g, M, ρ, _, j, hw, fun Jt H1 ds hs' rs f1 j1 W hR => ?_⟩
  exact dc_run hs htg htw j1 W hR fun v H' d f j' => k v H' d (f1.trans f) j'.unhide
theorem de_dc {kx vx tg iter : Expr} {ifs : List Expr} {scope : Scope} (own : List (Str × Nat)) {wi : TDA} {gt : TG} {stt : Ev → D → Option Ev} {wt : TDT} {wk we : TDE} (hc : X.calm = true) (hN : X.N.Nodup) (hi : DI X tg s1 iter wi) (ok : BlkOk X.N X.env.scope scope own)
    (hg : ∀ (s : Shared) (H : Hp) (C : Addr) (cl : List (Str × Addr)) (fp : List Addr), PG (X.blk s H scope (compEnvC scope cl C X.env) fp) tg gt) (htg : TgOk X.K s1 gt stt) (htw : TgWipe gt (own.map (·.2)))
    (ht : ∀ (s : Shared) (H : Hp) (C : Addr) (cl : List (Str × Addr)) (fp : List Addr), PTs (X.blk s H scope (compEnvC scope cl C X.env) fp) ifs (rdT X.K wt))
    (hk : ∀ (sh : Shared) (H : Hp) (C : Addr) (cl : List (Str × Addr)) (fp : List Addr), PE (X.blk sh H scope (compEnvC scope cl C X.env) fp) kx (rdE X.K s2 wk))
    (he : ∀ (sh : Shared) (H : Hp) (C : Addr) (cl : List (Str × Addr)) (fp : List Addr), PE (X.blk sh H scope (compEnvC scope cl C X.env) fp) vx (rdE X.K s we)) (hst : s ≠ .t := by decide) (hs : ∀ x, foldedSetIterable iter X.env x = pure x := by intro _; rfl) :
    DE X s (.DictComp kx vx [⟨tg, iter, ifs, 0⟩] scope pos) (wDc wi stt wt wk we (own.map (·.2))) := PE_imp (pe_dc hc hN hi ok hg ht hk he hs) (dc_imp hst htg htw)
theorem de_lc {elt tg iter : Expr} {ifs : List Expr} {scope : Scope} (own : List (Str × Nat)) {wi : TDA} {gt : TG} {stt : Ev → D → Option Ev} {wt : TDT} {we : TDE} (hc : X.calm = true) (hN : X.N.Nodup) (hi : DI X tg s1 iter wi) (ok : BlkOk X.N X.env.scope scope own)
    (hg : ∀ (s : Shared) (H : Hp) (C : Addr) (cl : List (Str × Addr)) (fp : List Addr), PG (X.blk s H scope (compEnvC scope cl C X.env) fp) tg gt) (htg : TgOk X.K s1 gt stt) (htw : TgWipe gt (own.map (·.2)))
    (ht : ∀ (s : Shared) (H : Hp) (C : Addr) (cl : List (Str × Addr)) (fp : List Addr), PTs (X.blk s H scope (compEnvC scope cl C X.env) fp) ifs (rdT X.K wt))
    (he : ∀ (sh : Shared) (H : Hp) (C : Addr) (cl : List (Str × Addr)) (fp : List Addr), PE (X.blk sh H scope (compEnvC scope cl C X.env) fp) elt (rdE X.K s we)) (hst : s ≠ .t := by decide) (hs : ∀ x, foldedSetIterable iter X.env x = pure x := by intro _; rfl) :
    DE X s (.ListComp elt [⟨tg, iter, ifs, 0⟩] scope pos) (wLc wi stt wt we (own.map (·.2))) := PE_imp (pe_lc hc hN hi ok hg ht he hs) (lc_imp hst htg htw)
/-- y = [..] -/
theorem ds_setLc (i : Nat) {y : Str} {py spos : Pos} {elt tg iter : Expr} {ifs : List Expr} {scope : Scope} (own : List (Str × Nat)) {wi : TDA} {gt : TG} {stt : Ev → D → Option Ev} {wt : TDT} {we : TDE} (hc : X.calm = true) (hN : X.N.Nodup)
    (hsw : swapsWith (.ListComp elt [⟨tg, iter, ifs, 0⟩] scope pos) (some (.Name y py)) spos.line X.env = pure true) (hi : DI X tg s1 iter wi) (ok : BlkOk X.N X.env.scope scope own)
    (hg : ∀ (s : Shared) (H : Hp) (C : Addr) (cl : List (Str × Addr)) (fp : List Addr), PG (X.blk s H scope (compEnvC scope cl C X.env) fp) tg gt) (htg : TgOk X.K s1 gt stt) (htw : TgWipe gt (own.map (·.2)))
    (ht : ∀ (s : Shared) (H : Hp) (C : Addr) (cl : List (Str × Addr)) (fp : List Addr), PTs (X.blk s H scope (compEnvC scope cl C X.env) fp) ifs (rdT X.K wt))
    (he : ∀ (sh : Shared) (H : Hp) (C : Addr) (cl : List (Str × Addr)) (fp : List Addr), PE (X.blk sh H scope (compEnvC scope cl C X.env) fp) elt (rdE X.K s we)) (hst : s ≠ .t := by decide) (hy : X.N[i]? = some y := by rfl) (hyl : X.env.scope.names.lookup y = some .local := by rfl) (hs : ∀ x, foldedSetIterable iter X.env x = pure x := by intro _; rfl) :
    DS X (.Assign [.Name y py] (.ListComp elt [⟨tg, iter, ifs, 0⟩] scope pos) spos) (wSet s i (wLc wi stt wt we (own.map (·.2)))) := by
  refine PS_imp (ps_setLc hc hN hy hyl hsw hi ok hg ht he hs) fun D σ H h => ?_
  obtain ⟨g, M, ρ, E, j, hw, ok⟩ := h
  exact lc_imp hst htg htw σ H _ ⟨g, M, ρ, _, j, hw, fun v H' d f j' r hR => ok.nx M _ H' _ (j'.set i (bd_own s d) (bd_ok r)) hR⟩
end
end Tr
end
section
namespace Tr
open PySem PySem.Spec L2
/-! ### dicts that are walked: locked meanwhile -/
section
variable {X : Cx} {K : PySem.W.Frag} {s s1 s2 : Sg} {e a b c tg : Expr} {pos pos' : Pos} {w wa wb : TDE} {st : Stmt} {rest : List Stmt} {t u : TDS}
theorem nz_lock {H : Hp} {a : Addr} {o : Obj} {ws : List (Key × V)} (h : H a = some (.dK ws)) : nz (upd H a (.frz o (.dK ws))) = nz H := by
  funext b
  by_cases hb : b = a
  · subst hb
    rw [nz_dK h]
    unfold nz
    rw [upd_same]
  · exact nz_upd_ne hb
theorem nz_unlock {H : Hp} {a : Addr} {o : Obj} {ws : List (Key × V)} (h : H a = some (.frz o (.dK ws))) : nz (upd H a (.dK ws)) = nz H := by
  funext b
  by_cases hb : b = a
  · subst hb
    rw [nz_dK upd_same]
    unfold nz
    rw [h]
  · exact nz_upd_ne hb
theorem nl_unlock {H0 H : Hp} {a : Addr} {o : Obj} {ws : List (Key × V)} (f : ∀ b x y, H b = some (.frz x y) → upd H0 a (.frz o (.dK ws)) b = some (.frz x y)) : ∀ b x y, upd H a (.dK ws) b = some (.frz x y) → H0 b = some (.frz x y) := fun b x y e => by
  by_cases hb : b = a
  · subst hb
    rw [upd_same] at e; cases e
  · rw [upd_ne hb] at e
    have q := f b x y e
    rw [upd_ne hb] at q
    exact q
theorem ov_nz {A : Addr → Prop} {H H' : Hp} (h : nz H' = nz H) : Ov A A H H' := ⟨fun b o e _ => by rw [h]; exact e, fun b o n e => ⟨n, by rw [h]; exact e⟩⟩
def Gh.lock (g : Gh) (a : Addr) (o : Obj) (ws : List (Key × V)) : Gh := { g with H0 := upd g.H0 a (.frz o (.dK ws)) }
theorem SlotR.nzE {g : Gh} {M : Addr → Prop} {H H' : Hp} {b : Bd} {u : Option V} (h : nz H' = nz H) (k : ∀ p, M p → H' p = H p) (r : SlotR K g M H b u) : SlotR K g M H' b u := by
  cases b with
  | non => trivial
  | val d => obtain ⟨v, e, r⟩ := r; exact ⟨v, e, r.ov (ov_nz h)⟩
  | wv d => obtain ⟨v, e, r⟩ := r; exact ⟨v, e, r.ov (ov_nz h)⟩
  | xv v d => obtain ⟨e, r⟩ := r; exact ⟨e, r.ov (ov_nz h)⟩
  | ol ds => obtain ⟨p, vs, e, m, hp, r⟩ := r; exact ⟨p, vs, e, m, by rw [k p m]; exact hp, r.ov (ov_nz h)⟩
  | od ds => obtain ⟨p, vs, e, m, hp, r⟩ := r; exact ⟨p, vs, e, m, by rw [k p m]; exact hp, r.ov (ov_nz h)⟩
theorem J.lock {g : Gh} {M : Addr → Prop} {σ : L2.St} {H : Hp} {ρ : Ev} {a : Addr} {o : Obj} {ws : List (Key × V)} (j : J K g M σ H ρ) (h : H a = some (.dK ws)) (nv : ¬ vol g.z a) (nm : ¬ M a) : J K (g.lock a o ws) M σ (upd H a (.frz o (.dK ws))) ρ := by
  have ne : ∀ p, M p → p ≠ a := fun p m z => nm (z ▸ m)
  refine ⟨⟨fun b u e t => ?_, fun b x y e => ?_⟩, j.ok0.store nv, j.ok.store nv, fun b hb => ?_, fun p m => ?_, fun p m => ?_, j.len, fun i b u e1 e2 => (j.sl i b u e1 e2).nzE (nz_lock h) fun p m => upd_ne (ne p m), j.dis, fun q hq => ⟨(j.hid q hq).1, (j.hid q hq).2.ov (ov_nz (nz_lock h))⟩, fun q hq => ?_⟩
  · by_cases hb : b = a
    · subst hb
      have e' : upd g.H0 b (.frz o (.dK ws)) b = some u := e
      rw [upd_same] at e' ⊢
      exact e'
    · have e' : upd g.H0 a (.frz o (.dK ws)) b = some u := e
      rw [upd_ne hb] at e' ⊢
      exact j.fr b u e' t
  · show upd g.H0 a _ b = _
    by_cases hb : b = a
    · subst hb
      rw [upd_same] at e ⊢
      exact e
    · rw [upd_ne hb] at e ⊢
      exact j.fr.nl b x y e
  · show upd g.H0 a _ b ≠ none
    by_cases hb' : b = a
    · rw [hb', upd_same]; exact fun z => nomatch z
    · rw [upd_ne hb']; exact j.bz b hb
  · show upd g.H0 a _ p = none
    rw [upd_ne (ne p m)]; exact j.new p m
  · rw [upd_ne (ne p m)]; exact j.mt p m
  · obtain ⟨a1, a2, a3⟩ := j.raw q hq
    have nq : q.1 ≠ a := fun z => by rw [z, h] at a3; cases a3
    exact ⟨a1, a2, by rw [upd_ne nq]; exact a3⟩
theorem J.unlock {g : Gh} {M : Addr → Prop} {σ : L2.St} {H : Hp} {ρ : Ev} {a : Addr} {o : Obj} {ws : List (Key × V)} (j : J K (g.lock a o ws) M σ H ρ) (h : H a = some (.frz o (.dK ws))) (nv : ¬ vol g.z a) (nm : ¬ M a) (h0 : ∀ u, g.H0 a = some u → u = .dK ws)
    (ok0 : StOk g.z g.H0) (bz : ∀ b, g.B b → g.H0 b ≠ none) (hr : ∀ q ∈ g.raw, q.1 ≠ a) : J K g M σ (upd H a (.dK ws)) ρ := by
  have ne : ∀ p, M p → p ≠ a := fun p m z => nm (z ▸ m)
  refine ⟨⟨fun b u e t => ?_, nl_unlock j.fr.nl⟩, ok0, j.ok.store nv, bz, fun p m => ?_, fun p m => ?_, j.len, fun i b u e1 e2 => (j.sl i b u e1 e2).nzE (nz_unlock h) fun p m => upd_ne (ne p m), j.dis, fun q hq => ⟨(j.hid q hq).1, (j.hid q hq).2.ov (ov_nz (nz_unlock h))⟩, fun q hq => ?_⟩
  · by_cases hb : b = a
    · subst hb
      rw [upd_same, h0 u e]
    · rw [upd_ne hb]
      exact j.fr b u (by show upd g.H0 a _ b = some u; rw [upd_ne hb]; exact e) t
  · have q : upd g.H0 a _ p = none := j.new p m
    rw [upd_ne (ne p m)] at q; exact q
  · rw [upd_ne (ne p m)]; exact j.mt p m
  · obtain ⟨a1, a2, a3⟩ := j.raw q hq
    exact ⟨a1, a2, by rw [upd_ne (hr q hq)]; exact a3⟩
/-- a place in the frame: a name's value, a field of it -/
structure PathOk (X : Cx) (s : Sg) (e : Expr) (t : TE) (w : TDE) (pv : L2.St → Hp → V → Prop) : Prop where
  pe : PE X e t
  go : ∀ σ H (Q : VK) v, pv σ H v → Q v H → t σ H Q
  tr : ∀ g M σ H ρ R, J X.K g M σ H ρ → w ρ R → ∃ v d, pv σ H v ∧ Rep X.K g.z (g.av M s) H d v ∧ R d
  lk : ∀ σ H v a o k, pv σ H v → H a = some (.dK k) → pv σ (upd H a (.frz o (.dK k))) v
theorem wV_get {g : Gh} {M : Addr → Prop} {σ : L2.St} {H : Hp} {ρ : Ev} {R : DK} {i : Nat} (hs : s ≠ .t) (j : J K g M σ H ρ) (hw : wV s i ρ R) : ∃ v d, σ[i]? = some (some v) ∧ Rep K g.z (g.av M s) H d v ∧ R d := by
  have weak : ∀ {d v}, Rep K g.z (g.av M .s) H d v → Rep K g.z (g.av M s) H d v := fun r => r.ov (Ov.less fun q hq => by
    cases s with
    | s => exact hq
    | w => exact hq.elim .inl fun z => .inr (.inr z)
    | t => exact .inl hq)
  unfold wV at hw
  split at hw
  · rename_i d e
    obtain ⟨o, e2, v, rfl, r⟩ := j.getO e
    exact ⟨v, d, e2, weak r, hw⟩
  · rename_i d e
    obtain ⟨o, e2, v, rfl, r⟩ := j.getO e
    exact ⟨v, d, e2, r, hw⟩
  · exact absurd rfl hs
  · rename_i v d e
    obtain ⟨o, e2, rfl, r⟩ := j.getO e
    exact ⟨v, d, e2, r, hw⟩
  · exact absurd rfl hs
  · exact absurd rfl hs
  · exact absurd rfl hs
  · exact hw.elim
theorem path_v (i : Nat) {x : Str} (hs : s ≠ .t := by decide) (hN : X.N[i]? = some x := by rfl) (hv : Vis X.env.scope x := by first | exact Or.inl rfl | exact Or.inr (Or.inl rfl) | exact Or.inr (Or.inr rfl)) (hd : (x == ("__debug__" : Str)) = false := by decide) (hcd : (x == ("__classdict__" : Str)) = false := by decide) : PathOk X s (.Name x pos) (tVar i) (wV s i) (fun σ _ v => σ[i]? = some (some v)) := by
  refine ⟨pe_var hN hv hd hcd, fun σ H Q v h q => ⟨v, h, q⟩, fun g M σ H ρ R j hw => ?_, fun σ H v a o k h _ => h⟩
  exact wV_get hs j hw
theorem path_f (i : Nat) {x f : Str} {C : Addr} {p1 : Pos} (cl : Cls X.K C) (na : NoAttr X.K C f) (hs : s ≠ .t := by decide) (hN : X.N[i]? = some x := by rfl) (hv : Vis X.env.scope x := by first | exact Or.inl rfl | exact Or.inr (Or.inl rfl) | exact Or.inr (Or.inr rfl)) (hd : (x == ("__debug__" : Str)) = false := by decide) (hcd : (x == ("__classdict__" : Str)) = false := by decide)
    (hb : attributeBase (.Name x p1) f X.env (eval (.Name x p1) X.env) = eval (.Name x p1) X.env := by rfl) : PathOk X s (.Attribute (.Name x p1) f pos) (tFld X.K (tVar i) f) (wFld C f (wV s i)) (fun σ H v => ∃ a dx fs, σ[i]? = some (some (.ref a)) ∧ H a = some (.ins C dx fs) ∧ fs.lookup f = some v) := by
  refine ⟨pe_fld (pe_var hN hv hd hcd) hb, fun σ H Q v ⟨a, dx, fs, h1, h2, h3⟩ q => ⟨_, h1, a, C, dx, fs, v, rfl, h2, cl, na, h3, q⟩, fun g M σ H ρ R j hw => ?_, fun σ H v a o k ⟨b, dx, fs, h1, h2, h3⟩ h => ⟨b, dx, fs, h1, ?_, h3⟩⟩
  · obtain ⟨v, d, h1, h2, fs, d', e1, e2, hR⟩ := wV_get hs j hw
    subst e1
    obtain ⟨b, dx, us, rfl, _, h3, h4⟩ := rep_ins.mp h2
    rcases h4.lookup f with ⟨n1, _⟩ | ⟨d2, v2, h5, h6, h7⟩
    · rw [n1] at e2; cases e2
    · rw [h5] at e2; cases e2
      exact ⟨v2, _, ⟨b, dx, us, h1, raw_ins h3, h6⟩, h7, hR⟩
  · have nb : b ≠ a := fun z => by rw [z, h] at h2; cases h2
    rw [upd_ne nb]; exact h2
def keysD (kvs : List (Key × D)) : List D := kvs.map fun kv => keyToD kv.1
def wItK (w : TDE) : TDA := fun ρ R => w ρ fun x => ∃ kvs, x = .dct kvs ∧ R (keysD kvs)
theorem keys_walk {g : Gh} {a : Addr} {o : Obj} {kvs : List (Key × D)} {ws : List (Key × V)} (hk : ws.map (·.1) = kvs.map (·.1)) : WalkD K g s (Itk a o ws) (keysD kvs) [] [(a, o, .dK ws)] := by
  intro M H σ ρ j
  have hr : H a = some (.frz o (.dK ws)) := (j.raw (a, o, .dK ws) (List.mem_append_left _ (List.mem_singleton.mpr rfl))).2.2
  have W := walk_keys (d := a) (o := o) (kvs := ws)
  have el : (keysD kvs).length = ws.length := by
    unfold keysD
    have := congrArg List.length hk
    simpa using this.symm
  refine ⟨fun i hi => W.goes i H (by rw [← el]; exact hi) hr, by rw [el]; exact W.stops H hr, fun i x H2 hi y => ?_⟩
  obtain ⟨e3, k, v, e4, e5⟩ := W.yields i H x H2 (by rw [← el]; exact hi) hr y
  subst e3 e5
  have e6 : (ws.map (·.1))[i]? = some k := by rw [List.getElem?_map, e4]; rfl
  rw [hk, List.getElem?_map] at e6
  refine ⟨keyToD k, ?_, Fr.refl, j.ok, ?_⟩
  · unfold keysD
    rw [List.getElem?_map]
    cases q : kvs[i]? with
    | none => rw [q] at e6; cases e6
    | some kv => rw [q] at e6; cases e6; rfl
  · cases k with
    | inl n => exact rep_int.mpr rfl
    | inr z => exact rep_str.mpr rfl
theorem fr_unlock {g : Gh} {H : Hp} {a : Addr} {o : Obj} {ws : List (Key × V)} (f : Fr (vol g.z) (g.lock a o ws).H0 H) (h0 : ∀ u, g.H0 a = some u → u = .dK ws) : Fr (vol g.z) g.H0 (upd H a (.dK ws)) := by
  refine ⟨fun b u e t => ?_, nl_unlock f.nl⟩
  by_cases hb : b = a
  · subst hb
    rw [upd_same, h0 u e]
  · rw [upd_ne hb]
    exact f b u (by show upd g.H0 a _ b = some u; rw [upd_ne hb]; exact e) t
theorem lock_end {g : Gh} {H : Hp} {a : Addr} {o : Obj} {ws : List (Key × V)} (f : Fr (vol g.z) (g.lock a o ws).H0 H) (nv : ¬ vol g.z a) : H a = some (.frz o (.dK ws)) := f a _ (by show upd g.H0 a _ a = _; rw [upd_same]) fun z => absurd z nv
theorem ds_forK {te : TE} {pv : L2.St → Hp → V → Prop} {iter : Expr} {body : List Stmt} {gt : TG} {stt : Ev → D → Option Ev} {wb : TDS} (hp : PassesOwn (model X.prog X.w) X.A X.env X.xe) (hc : X.calm = true) (hi : PathOk X s1 iter te w pv) (hg : PG X tg gt) (htg : TgOk X.K s gt stt) (hb : DSs X body wb)
    (hst : s1 ≠ .t := by decide) (hs : ∀ x, foldedSetIterable iter X.env x = pure x := by intro _; rfl) : DS X (.For tg iter body [] pos) (wFor (wItK w) stt wb) := by
  have h1 := ps_for (pos := pos) hp hc (pi_keys hi.pe) hg hb hs
  refine PS_imp (PS_or (ps_lock h1) h1) ?_
  rintro D σ H ⟨g, M, ρ, E, j, hw, ok⟩
  obtain ⟨v, d, hv, r, kvs, e1, hR⟩ := hi.tr g M σ H ρ _ j hw
  subst e1
  obtain ⟨a, ws, rfl, na, hn, rk⟩ := rep_dct.mp r
  have nv : ¬ vol g.z a := fun z => na (Gh.av_vol z)
  have nm : ¬ M a := fun z => na (by cases s1 with | s => exact .inr (.inr z) | w => exact .inr z | t => exact absurd rfl hst)
  rcases nz_cases hn with h | ⟨o, h⟩
  · refine .inl ⟨a, .dK ws, h, trivial, fun od => ?_⟩
    have jl := j.lock (o := od) h nv nm
    have h0 : ∀ u, g.H0 a = some u → u = .dK ws := fun u e => by
      have q := j.fr a u e fun z => absurd z nv
      rw [h] at q; cases q; rfl
    have hr : ∀ q ∈ g.raw, q.1 ≠ a := fun q hq z => by
      have := (j.raw q hq).2.2
      rw [z, h] at this; cases this
    have jh : J X.K ((g.lock a od ws).hide [] [(a, od, .dK ws)]) M σ (upd H a (.frz od (.dK ws))) ρ := jl.hideI (fun q hq => absurd hq (by simp)) (fun q hq => by
      cases List.mem_singleton.mp hq
      exact ⟨nv, nm, upd_same⟩)
    have un : ∀ M' σ' H' ρ', J X.K ((g.lock a od ws).hide [] [(a, od, .dK ws)]) M' σ' H' ρ' → H' a = some (.frz od (.dK ws)) ∧ J X.K g M' σ' (upd H' a (.dK ws)) ρ' := fun M' σ' H' ρ' j' => by
      obtain ⟨a1, a2, a3⟩ := j'.raw (a, od, .dK ws) (List.mem_append_left _ (List.mem_singleton.mpr rfl))
      exact ⟨a3, j'.unhide.unlock a3 nv a2 h0 j.ok0 j.bz hr⟩
    refine hi.go σ _ _ _ (hi.lk σ H _ a od ws hv h) ⟨a, od, rfl, .inl ⟨ws, upd_same, ?_⟩⟩
    refine for_core (s := s) (g := g.lock a od ws) htg ⟨fun M' σ' H' ρ' j' hE => ?_, fun v' H' d' f' k' r' hE => ?_, fun M' σ' H' ρ' j' hE => ?_, fun M' σ' H' ρ' j' hE => ?_⟩ jh (keys_walk rk.keys) hR
    · obtain ⟨u1, u2⟩ := un M' σ' H' ρ' j'
      exact ⟨u1, ok.nx M' σ' _ ρ' u2 hE⟩
    · have u1 := lock_end (g := g) f' nv
      exact ⟨u1, ok.rt v' _ d' (fr_unlock (g := g) f' h0) (k'.store nv) (r'.ov (ov_nz (nz_unlock u1))) hE⟩
    · obtain ⟨u1, u2⟩ := un M' σ' H' ρ' j'
      exact ⟨u1, ok.bk M' σ' _ ρ' u2 hE⟩
    · obtain ⟨u1, u2⟩ := un M' σ' H' ρ' j'
      exact ⟨u1, ok.ct M' σ' _ ρ' u2 hE⟩
  · refine .inr (hi.go σ _ _ _ hv ⟨a, o, rfl, .inl ⟨ws, h, ?_⟩⟩)
    refine for_core (s := s) (g := g) htg ok.hide (j.hideI (fun q hq => absurd hq (by simp)) (fun q hq => ?_)) (keys_walk rk.keys) hR
    cases List.mem_singleton.mp hq
    exact ⟨nv, nm, h⟩
/-- a comprehension over a dict -/
theorem lockE_imp {te : TE} {pv : L2.St → Hp → V → Prop} {iter : Expr} {t0 : TI → TE} {wR : List D → Ev → DK → Prop} (hi : PathOk X s1 iter te w pv) (hst : s1 ≠ .t)
    (run : ∀ g M σ H ρ R (Q : VK) Jt ds hs' rs, J X.K (g.hide hs' rs) M σ H ρ → WalkD X.K g .s Jt ds hs' rs → wR ds ρ R → (∀ v H' d, Fr (vol g.z) H H' → J X.K (g.hide hs' rs) M σ H' ρ → Rep X.K g.z (g.av M s) H' d v → R d → Q v H') → (∀ (wi : TI), (∀ (R' : It → Hp → Prop), R' Jt H → wi σ H R') → t0 wi σ H Q)) :
    ∀ σ H Q, rdE X.K s (fun ρ R => wItK w ρ fun ds => wR ds ρ R) σ H Q → tLockE (t0 (iKeys te)) σ H Q ∨ t0 (iKeys te) σ H Q := by
  rintro σ H Q ⟨g, M, ρ, R, j, hw, k⟩
  obtain ⟨v, d, hv, r, kvs, e1, hR⟩ := hi.tr g M σ H ρ _ j hw
  subst e1
  obtain ⟨a, ws, rfl, na, hn, rk⟩ := rep_dct.mp r
  have nv : ¬ vol g.z a := fun z => na (Gh.av_vol z)
  have nm : ¬ M a := fun z => na (by cases s1 with | s => exact .inr (.inr z) | w => exact .inr z | t => exact absurd rfl hst)
  rcases nz_cases hn with h | ⟨o, h⟩
  · refine .inl ⟨a, .dK ws, h, trivial, fun od => ?_⟩
    have jl := j.lock (o := od) h nv nm
    have h0 : ∀ u, g.H0 a = some u → u = .dK ws := fun u e => by
      have q := j.fr a u e fun z => absurd z nv
      rw [h] at q; cases q; rfl
    have hr : ∀ q ∈ g.raw, q.1 ≠ a := fun q hq z => by
      have := (j.raw q hq).2.2
      rw [z, h] at this; cases this
    have jh : J X.K ((g.lock a od ws).hide [] [(a, od, .dK ws)]) M σ (upd H a (.frz od (.dK ws))) ρ := jl.hideI (fun q hq => absurd hq (by simp)) (fun q hq => by
      cases List.mem_singleton.mp hq
      exact ⟨nv, nm, upd_same⟩)
    refine run (g.lock a od ws) M σ _ ρ R _ (Itk a od ws) _ _ _ jh (keys_walk rk.keys) hR (fun v' H' d' f' j' r' hE => ?_) _ fun R' hR' => hi.go σ _ _ _ (hi.lk σ H _ a od ws hv h) ⟨a, od, rfl, .inl ⟨ws, upd_same, hR'⟩⟩
    obtain ⟨a1, a2, a3⟩ := j'.raw (a, od, .dK ws) (List.mem_append_left _ (List.mem_singleton.mpr rfl))
    refine ⟨a3, k v' _ d' ⟨fun b u e t => ?_, nl_unlock f'.nl⟩ (j'.unhide.unlock a3 nv a2 h0 j.ok0 j.bz hr) (r'.ov (ov_nz (nz_unlock a3))) hE⟩
    by_cases hb : b = a
    · subst hb
      rw [upd_same, ← h, e]
    · rw [upd_ne hb]
      exact f' b u (by rw [upd_ne hb]; exact e) t
  · refine .inr (run g M σ H ρ R Q (Itk a o ws) _ [] [(a, o, .dK ws)] (j.hideI (fun q hq => absurd hq (by simp)) (fun q hq => ?_)) (keys_walk rk.keys) hR (fun v' H' d' f' j' => k v' H' d' f' j'.unhide) _ fun R' hR' => hi.go σ _ _ _ hv ⟨a, o, rfl, .inl ⟨ws, h, hR'⟩⟩)
    cases List.mem_singleton.mp hq
    exact ⟨nv, nm, h⟩
theorem de_lcK {te : TE} {pv : L2.St → Hp → V → Prop} {elt tg iter : Expr} {ifs : List Expr} {scope : Scope} (own : List (Str × Nat)) {gt : TG} {stt : Ev → D → Option Ev} {wt : TDT} {we : TDE} (hc : X.calm = true) (hN : X.N.Nodup) (hi : PathOk X s1 iter te w pv) (ok : BlkOk X.N X.env.scope scope own)
    (hg : ∀ (s : Shared) (H : Hp) (C : Addr) (cl : List (Str × Addr)) (fp : List Addr), PG (X.blk s H scope (compEnvC scope cl C X.env) fp) tg gt) (htg : TgOk X.K .s gt stt) (htw : TgWipe gt (own.map (·.2)))
    (ht : ∀ (s : Shared) (H : Hp) (C : Addr) (cl : List (Str × Addr)) (fp : List Addr), PTs (X.blk s H scope (compEnvC scope cl C X.env) fp) ifs (rdT X.K wt))
    (he : ∀ (sh : Shared) (H : Hp) (C : Addr) (cl : List (Str × Addr)) (fp : List Addr), PE (X.blk sh H scope (compEnvC scope cl C X.env) fp) elt (rdE X.K s we)) (hst : s ≠ .t := by decide) (hst1 : s1 ≠ .t := by decide) (hs : ∀ x, foldedSetIterable iter X.env x = pure x := by intro _; rfl) :
    DE X s (.ListComp elt [⟨tg, iter, ifs, 0⟩] scope pos) (wLc (wItK w) stt wt we (own.map (·.2))) := by
  have h1 := pe_lc (pos := pos) hc hN (pi_keys (tg := tg) hi.pe) ok hg ht he hs
  refine PE_imp (PE_or (pe_lock h1) h1) ?_
  refine lockE_imp (t0 := fun wi => tLc wi gt (rdT X.K wt) (rdE X.K s we) (own.map (·.2))) (wR := fun ds ρ R => wLcL stt wt we (wipeB ρ (own.map (·.2))) R ds []) hi hst1 ?_
  intro g M σ H ρ R Q Jt ds hs' rs j W hR k wi hwi
  exact hwi _ (lc_run hst htg htw j W hR k)
theorem de_dcK {te : TE} {pv : L2.St → Hp → V → Prop} {kx vx tg iter : Expr} {ifs : List Expr} {scope : Scope} (own : List (Str × Nat)) {gt : TG} {stt : Ev → D → Option Ev} {wt : TDT} {wk we : TDE} (hc : X.calm = true) (hN : X.N.Nodup) (hi : PathOk X s1 iter te w pv) (ok : BlkOk X.N X.env.scope scope own)
    (hg : ∀ (s : Shared) (H : Hp) (C : Addr) (cl : List (Str × Addr)) (fp : List Addr), PG (X.blk s H scope (compEnvC scope cl C X.env) fp) tg gt) (htg : TgOk X.K .s gt stt) (htw : TgWipe gt (own.map (·.2)))
    (ht : ∀ (s : Shared) (H : Hp) (C : Addr) (cl : List (Str × Addr)) (fp : List Addr), PTs (X.blk s H scope (compEnvC scope cl C X.env) fp) ifs (rdT X.K wt))
    (hk : ∀ (sh : Shared) (H : Hp) (C : Addr) (cl : List (Str × Addr)) (fp : List Addr), PE (X.blk sh H scope (compEnvC scope cl C X.env) fp) kx (rdE X.K s2 wk))
    (he : ∀ (sh : Shared) (H : Hp) (C : Addr) (cl : List (Str × Addr)) (fp : List Addr), PE (X.blk sh H scope (compEnvC scope cl C X.env) fp) vx (rdE X.K s we)) (hst : s ≠ .t := by decide) (hst1 : s1 ≠ .t := by decide) (hs : ∀ x, foldedSetIterable iter X.env x = pure x := by intro _; rfl) :
    DE X s (.DictComp kx vx [⟨tg, iter, ifs, 0⟩] scope pos) (wDc (wItK w) stt wt wk we (own.map (·.2))) := by
  have h1 := pe_dc (pos := pos) hc hN (pi_keys (tg := tg) hi.pe) ok hg ht hk he hs
  refine PE_imp (PE_or (pe_lock h1) h1) ?_
  refine lockE_imp (t0 := fun wi => tDc wi gt (rdT X.K wt) (rdE X.K s2 wk) (rdE X.K s we) (own.map (·.2))) (wR := fun ds ρ R => wDcL stt wt wk we (wipeB ρ (own.map (·.2))) R ds []) hi hst1 ?_
  intro g M σ H ρ R Q Jt ds hs' rs j W hR k wi hwi
  exact hwi _ (dc_run hst htg htw j W hR k)
end
end Tr
end
section
namespace Tr
open PySem PySem.Spec L2
/-! ### defs and their promises -/
abbrev SpD := List D → DK → Prop
abbrev avB (z : Zo) (B : Addr → Prop) : Addr → Prop := fun a => vol z a ∨ B a
def avP (z : Zo) (B : Addr → Prop) : Sg → Addr → Prop
  | .s => avB z B
  | _ => vol z
def RepP (K : PySem.W.Frag) (z : Zo) (B : Addr → Prop) (H : Hp) : List Sg → List D → List V → Prop
  | [], ds, vs => ds = [] ∧ vs = []
  | s :: ss, ds, vs => ∃ d ds' v vs', ds = d :: ds' ∧ vs = v :: vs' ∧ Rep K z (avP z B s) H d v ∧ RepP K z B H ss ds' vs'
def toSp (K : PySem.W.Frag) (ss : List Sg) (sp : SpD) : Sp := fun vs H Q _ => ∃ z B ds R, StOk z H ∧ (∀ b, B b → H b ≠ none) ∧ RepP K z B H ss ds vs ∧ sp ds R ∧ ∀ v H' d, Fr (vol z) H H' → StOk z H' → Rep K z (avB z B) H' d v → R d → Q v H'
section
variable {K : PySem.W.Frag}
theorem RepP.len {z : Zo} {B : Addr → Prop} {H : Hp} : ∀ {ss : List Sg} {ds : List D} {vs : List V}, RepP K z B H ss ds vs → vs.length = ss.length ∧ ds.length = ss.length
  | [], _, _, ⟨rfl, rfl⟩ => ⟨rfl, rfl⟩
  | _ :: _, _, _, ⟨_, _, _, _, rfl, rfl, _, rs⟩ => by
    have := RepP.len rs
    exact ⟨by rw [List.length_cons, this.1, List.length_cons], by rw [List.length_cons, this.2, List.length_cons]⟩
def bdP : Sg → D → Bd
  | .s, d => .val d
  | _, d => .wv d
theorem bdP_own (s : Sg) (d : D) : (bdP s d).own = false := by cases s <;> rfl
def ini : List Sg → List D → Nat → Ev
  | s :: ss, d :: ds, n + 1 => bdP s d :: ini ss ds n
  | _, _, n => List.replicate n .non
theorem ini_non : ∀ n : Nat, ini [] [] n = List.replicate n Bd.non
  | 0 => rfl
  | _ + 1 => rfl
theorem ini_len : ∀ (ss : List Sg) (ds : List D) (n : Nat), (ini ss ds n).length = n
  | [], [], n => by rw [ini_non, List.length_replicate]
  | [], _ :: _, n => by cases n <;> simp [ini]
  | _ :: _, [], n => by cases n <;> simp [ini]
  | s :: ss, d :: ds, 0 => by simp [ini]
  | s :: ss, d :: ds, n + 1 => by simp [ini, ini_len ss ds n]
/-- the frame at the entry -/
theorem ini_slots {z : Zo} {B : Addr → Prop} {H : Hp} : ∀ {ss : List Sg} {ds : List D} {vs : List V} {n : Nat}, RepP K z B H ss ds vs → vs.length ≤ n →
    ∀ (i : Nat) b o, (ini ss ds n)[i]? = some b → (vs.map some ++ List.replicate (n - vs.length) none)[i]? = some o → SlotR K ⟨z, B, H, [], []⟩ (fun _ => False) H b o
  | [], _, _, n, ⟨rfl, rfl⟩, _, i, b, o, h1, h2 => by
    rw [ini_non] at h1
    have : b = .non := List.eq_of_mem_replicate (List.mem_of_getElem? h1)
    subst this
    trivial
  | s :: ss, _, _, 0, ⟨_, _, _, _, rfl, rfl, _, _⟩, hl, _, _, _, _, _ => by simp at hl
  | s :: ss, _, _, n + 1, ⟨d, ds', v, vs', rfl, rfl, r, rs⟩, hl, i, b, o, h1, h2 => by
    have hl' : vs'.length ≤ n := by simpa using hl
    have e : n + 1 - (v :: vs').length = n - vs'.length := by simp
    rw [e] at h2
    cases i with
    | zero =>
      simp [ini] at h1 h2
      subst h1 h2
      have r2 : Rep K z (avP z B s) H d v := r
      cases s with
      | s => exact ⟨v, rfl, r2.ov (Ov.less fun b hb => by rcases hb with h | h | h; exact .inl h; exact .inr h; exact h.elim)⟩
      | w => exact ⟨v, rfl, r2.ov (Ov.less fun b hb => hb.elim id fun h => h.elim)⟩
      | t => exact ⟨v, rfl, r2.ov (Ov.less fun b hb => hb.elim id fun h => h.elim)⟩
    | succ i => exact ini_slots rs hl' i b o (by simpa [ini] using h1) (by simpa using h2)
theorem ini_noown : ∀ (ss : List Sg) (ds : List D) (n i : Nat) (b : Bd), (ini ss ds n)[i]? = some b → b.own = false
  | [], ds, n, i, b, h => by
    have e : ini [] ds n = List.replicate n Bd.non := by cases ds <;> cases n <;> rfl
    rw [e] at h
    rw [List.eq_of_mem_replicate (List.mem_of_getElem? h)]; rfl
  | s :: ss, [], n, i, b, h => by
    have e : ini (s :: ss) [] n = List.replicate n Bd.non := by cases n <;> rfl
    rw [e] at h
    rw [List.eq_of_mem_replicate (List.mem_of_getElem? h)]; rfl
  | s :: ss, d :: ds, 0, i, b, h => by simp [ini] at h
  | s :: ss, d :: ds, n + 1, 0, b, h => by simp [ini] at h; subst h; exact bdP_own s d
  | s :: ss, d :: ds, n + 1, i + 1, b, h => ini_noown ss ds n i b (by simpa [ini] using h)
theorem J.ini {z : Zo} {B : Addr → Prop} {H : Hp} {ss : List Sg} {ds : List D} {vs : List V} {N : List Str} (hz : StOk z H) (hB : ∀ b, B b → H b ≠ none) (r : RepP K z B H ss ds vs) (hl : ss.length ≤ N.length) :
    J K ⟨z, B, H, [], []⟩ (fun _ => False) (L2.start N vs) H (ini ss ds N.length) := by
  have hv : vs.length ≤ N.length := by rw [r.len.1]; exact hl
  refine ⟨Fr.refl, hz, hz, hB, fun _ h => h.elim, fun _ h => h.elim, ?_, ini_slots r hv, fun i j p ⟨⟨b, e1, e2⟩, _⟩ _ => ?_, fun q hq => absurd hq (by simp), fun q hq => absurd hq (by simp)⟩
  · rw [ini_len]
    unfold L2.start
    simp
    omega
  · rw [ini_noown _ _ _ _ _ e1] at e2; cases e2
variable {P : Program} {w : World} {mg : Str → Option Value} {base : Heap} {x qual : Str} {params : Arguments} {body : List Stmt} {scope : Scope} {dvs : List V} {kws : List (Str × V)} {f : Addr} {fd : FuncData}
/-- THE RULE for a def: its body's derivation, and its reading over trees -/
theorem fnD {N ps : List Str} {k : Nat} {ss : List Sg} {sp : SpD} {t : TDS} (F : FunD K x qual params body scope dvs kws f fd) (S : FnScope N ps scope) (hss : ss.length = ps.length) (hN : ps.length ≤ N.length)
    (hbody : ∀ (cdv : Value) (A : Around) (outer : List Env) (s : Shared) (H : Hp) (E : XK), Room k (A.deeper (PyProof.Rows.envOfC qual scope s.heap.objs.size f cdv)) → PSs (cxOf CX0 P w K mg base N qual scope f cdv A outer s H E).nox body (rdS K t))
    (hread : ∀ ds R, ds.length = ss.length → sp ds R → t { nx := fun _ => R .non, rt := R } (ini ss ds N.length)) : FnOk P w K mg base CX0 (k + 1) f fd ps (toSp K ss sp) := by
  refine F.ok S (fun vs H Q E h => ?_) fun cdv A outer s H vs Q E hr h => ?_
  · obtain ⟨z, B, ds, R, _, _, r, _⟩ := h
    rw [r.len.1, hss]
  · obtain ⟨z, B, ds, R, hz, hB, r, hs, k⟩ := h
    refine ⟨rdS K t, (hbody cdv A outer s H E hr).nox, ⟨z, B, H, [], []⟩, fun _ => False, _, _, J.ini hz hB r (by rw [hss]; exact hN), hread ds R r.len.2 hs, ⟨fun M σ H' ρ j h => ?_, fun v H' d f' k' r' h => ?_, fun _ _ _ _ _ h => h.elim, fun _ _ _ _ _ h => h.elim⟩⟩
    · exact k .non H' .non j.fr j.ok (rep_non.mpr rfl) h
    · exact k v H' d f' k' r' h
end
/-! ### calls -/
def cs (s : Sg) : Sg → Sg
  | .s => s
  | _ => .t
section
variable {X : Cx} {s : Sg} {e : Expr} {es : List Expr} {pos p : Pos} {ws : TDA} {ss : List Sg} {sp : SpD}
theorem RepA.toP {K : PySem.W.Frag} {g : Gh} {M : Addr → Prop} {H : Hp} : ∀ {ss : List Sg} {ds : List D} {vs : List V}, RepA K g M H (ss.map (cs s)) ds vs → RepP K g.z (g.av M s) H ss ds vs := by
  intro ss
  induction ss with
  | nil => intro ds vs h; exact h
  | cons q ss ih =>
    intro ds vs h
    obtain ⟨d, ds', v, vs', e1, e2, r, rs⟩ := h
    refine ⟨d, ds', v, vs', e1, e2, ?_, ih rs⟩
    cases q with
    | s => exact r.ov (Ov.less fun b hb => hb.elim Gh.av_vol id)
    | w => exact r
    | t => exact r
theorem av_tracked {K : PySem.W.Frag} {g : Gh} {M : Addr → Prop} {σ : L2.St} {H : Hp} {ρ : Ev} (j : J K g M σ H ρ) : ∀ b, g.av M s b → H b ≠ none := fun b hb hn => j.nav hn s hb
/-- the promise at a call's place -/
theorem call_ok {K : PySem.W.Frag} {g : Gh} {M : Addr → Prop} {σ : L2.St} {H : Hp} {ρ : Ev} {ds : List D} {vs : List V} {R : DK} {Q : VK} {E : XK} (j : J K g M σ H ρ) (r : RepA K g M H (ss.map (cs s)) ds vs) (h : sp ds R) (k : Fin1 K g M σ ρ s H R Q) : toSp K ss sp vs H Q E :=
  ⟨g.z, g.av M s, ds, R, j.ok, av_tracked j, r.toP, h, fun v H' d f k' r' hR => k v H' d f (j.go f k') (r'.ov (Ov.less fun b hb => .inr hb)) hR⟩
theorem de_call {E : XK} (h : PE X e (tCall (toSp X.K ss sp) [] E (rdA X.K (ss.map (cs s)) ws))) : DE X s e (wCall sp ws) := by
  refine PE_imp h ?_
  rintro σ H Q ⟨g, M, ρ, R, j, hw, k⟩
  refine ⟨g, M, ρ, _, j, hw, fun vs H1 ds f1 j1 r1 hR => ?_⟩
  show toSp X.K ss sp (vs ++ []) H1 Q E
  rw [List.append_nil]
  exact call_ok j1 r1 hR fun v H' d f => k v H' d (f1.trans f)
/-- o.m(..) -/
def wMeth (sp : SpD) (C : Addr) (m : Str) (wo : TDE) (ws : TDA) : TDE := fun ρ R => wo ρ fun x => (∃ fs, x = .ins C fs ∧ fs.lookup m = none) ∧ ws ρ fun ds => sp (x :: ds) R
theorem de_meth {E : XK} {C : Addr} {m : Str} {s0 : Sg} {wo : TDE} (h : PE X e (tMeth C m (toSp X.K (s0 :: ss) sp) [] E (rdE X.K (cs s s0) wo) (rdA X.K (ss.map (cs s)) ws))) : DE X s e (wMeth sp C m wo ws) := by
  refine PE_imp h ?_
  rintro σ H Q ⟨g, M, ρ, R, j, hw, k⟩
  refine ⟨g, M, ρ, _, j, hw, fun x H1 dx f1 j1 r1 hR => ?_⟩
  obtain ⟨⟨fs, e1, hl⟩, hR⟩ := hR
  subst e1
  obtain ⟨a, dx', us, rfl, na, h1, h2⟩ := rep_ins.mp r1
  refine ⟨a, dx', us, rfl, raw_ins h1, ?_, g, M, ρ, _, j1, hR, fun vs H2 ds f2 j2 r2 hR2 => ?_⟩
  · rcases h2.lookup m with ⟨_, n⟩ | ⟨d, v, h3, _⟩
    · exact n
    · rw [h3] at hl; cases hl
  · show toSp X.K (s0 :: ss) sp (V.ref a :: (vs ++ [])) H2 Q E
    rw [List.append_nil]
    exact call_ok (ss := s0 :: ss) j2 ⟨_, _, _, _, rfl, rfl, r1.ov (f2.ov fun _ z => Gh.av_vol z), r2⟩ hR2 fun v H' d f => k v H' d ((f1.trans f2).trans f)
def wMeth0 (sp : SpD) (C : Addr) (m : Str) (wo : TDE) : TDE := fun ρ R => wo ρ fun x => (∃ fs, x = .ins C fs ∧ fs.lookup m = none) ∧ sp [x] R
theorem de_meth0 {E : XK} {C : Addr} {m : Str} {s0 : Sg} {wo : TDE} (h : PE X e (tMeth C m (toSp X.K [s0] sp) [] E (rdE X.K (cs s s0) wo) tNil)) : DE X s e (wMeth0 sp C m wo) := by
  refine PE_imp h ?_
  rintro σ H Q ⟨g, M, ρ, R, j, hw, k⟩
  refine ⟨g, M, ρ, _, j, hw, fun x H1 dx f1 j1 r1 hR => ?_⟩
  obtain ⟨⟨fs, e1, hl⟩, hR⟩ := hR
  subst e1
  obtain ⟨a, dx', us, rfl, na, h1, h2⟩ := rep_ins.mp r1
  refine ⟨a, dx', us, rfl, raw_ins h1, ?_, ?_⟩
  · rcases h2.lookup m with ⟨_, n⟩ | ⟨d, v, h3, _⟩
    · exact n
    · rw [h3] at hl; cases hl
  · exact call_ok (ss := [s0]) (E := E) j1 ⟨_, _, _, _, rfl, rfl, r1, rfl, rfl⟩ hR fun v H' d f => k v H' d (f1.trans f)
/-- o.f, a property -/
def wProp (sp : SpD) (C : Addr) (wo : TDE) : TDE := fun ρ R => wo ρ fun x => (∃ fs, x = .ins C fs) ∧ sp [x] R
theorem de_prop {E : XK} {C : Addr} {s0 : Sg} {wo : TDE} (h : PE X e (tProp C (toSp X.K [s0] sp) [] E (rdE X.K (cs s s0) wo))) : DE X s e (wProp sp C wo) := by
  refine PE_imp h ?_
  rintro σ H Q ⟨g, M, ρ, R, j, hw, k⟩
  refine ⟨g, M, ρ, _, j, hw, fun x H1 dx f1 j1 r1 hR => ?_⟩
  obtain ⟨⟨fs, e1⟩, hR⟩ := hR
  subst e1
  obtain ⟨a, dx', us, rfl, na, h1, h2⟩ := rep_ins.mp r1
  exact ⟨a, dx', us, rfl, raw_ins h1, call_ok (ss := [s0]) (E := E) j1 ⟨_, _, _, _, rfl, rfl, r1, rfl, rfl⟩ hR fun v H' d f => k v H' d (f1.trans f)⟩
end
end Tr
end
section
namespace Tr
open PySem PySem.Spec L2
/-- a def that stands under its name and keeps its promise -/
structure Cal (P : Program) (w : World) (K : PySem.W.Frag) (mg : Str → Option Value) (base : Heap) (k : Nat) (x : Str) (ps : List Str) (ss : List Sg) (sp : SpD) : Prop where
  ex : ∃ f fd, FnOk P w K mg base CX0 k f fd ps (toSp K ss sp) ∧ mg x = some (.ref f) ∧ PySem.W.keepIn K (.ref f) = true ∧ Binds K fd ps []
theorem Cal.mono {P : Program} {w : World} {K : PySem.W.Frag} {mg : Str → Option Value} {base : Heap} {k k' : Nat} {x : Str} {ps : List Str} {ss : List Sg} {sp : SpD} (c : Cal P w K mg base k x ps ss sp) (h : k ≤ k') : Cal P w K mg base k' x ps ss sp := by
  obtain ⟨f, fd, F, h1, h2, h3⟩ := c.ex
  exact ⟨f, fd, F.mono h, h1, h2, h3⟩
section
variable {X : Cx} {s : Sg} {e : Expr} {es : List Expr} {pos p : Pos} {ws : TDA} {ss : List Sg} {sp : SpD} {k : Nat} {x : Str} {ps : List Str}
theorem de_fn (c : Cal X.prog X.w X.K X.mg X.base k x ps ss sp) (hr : Room k X.A) (hg : Gl X x) (ha : DA X (ss.map (cs s)) (e :: es) ws) (hdb : (x == ("__debug__" : Str)) = false := by decide) (he : starEach (e :: es) X.env = (false, eval e X.env) :: starEach es X.env := by rfl) (hpl : (backTo pos (starEach es X.env)).any (·.1) = false := by rfl) :
    DE X s (.Call (.Name x p) (e :: es) [] pos) (wCall sp ws) := by
  obtain ⟨f, fd, F, h1, h2, h3⟩ := c.ex
  exact de_call (pe_call F hr hg h1 h2 h3 .nil pass0 ha hdb he hpl)
end
section
variable {P : Program} {w : World} {K : PySem.W.Frag} {mg : Str → Option Value} {base : Heap}
/-- THE RULE: a def of the top -/
theorem cal_mk {st : Stmt} {x : Str} {f : Addr} {fd : FuncData} {N ps : List Str} {k : Nat} {ss : List Sg} {sp : SpD} (t : TDS) (F : FunD K x x (defArgs st) (defBody st) (defScope st) [] [] f fd) (hm : mg x = some (.ref f)) (S : FnScope N ps (defScope st))
    (hb : ∀ (kV doc pm : Value) (an : Option Addr) (cdv ct : Value) (us : List Value), us.length = ps.length → bindArgs (PySem.W.fnOf x x (defArgs st) (defBody st) (defScope st) .none kV doc pm an cdv ct) ⟨us, []⟩ = pure (ps.zip us))
    (hbody : ∀ (cdv : Value) (A : Around) (outer : List Env) (s : Shared) (H : Hp) (E : XK), Room k (A.deeper (PyProof.Rows.envOfC x (defScope st) s.heap.objs.size f cdv)) → PSs (cxOf CX0 P w K mg base N x (defScope st) f cdv A outer s H E).nox (defBody st) (rdS K t))
    (hread : ∀ ds R, ds.length = ss.length → sp ds R → t { nx := fun _ => R .non, rt := R } (ini ss ds N.length)) (hss : ss.length = ps.length := by rfl) (hN : ps.length ≤ N.length := by decide) : Cal P w K mg base (k + 1) x ps ss sp :=
  ⟨f, fd, fnD F S hss hN hbody hread, hm, F.kp, F.bindsN hb⟩
end
end Tr
end
section
namespace Tr
open PySem PySem.Spec L2
/-! ### isinstance, worked out -/
def isStrD : D → Bool
  | .str _ => true
  | _ => false
def isIntD : D → Bool
  | .int _ => true
  | .bl _ => true
  | _ => false
def isBlD : D → Bool
  | .bl _ => true
  | _ => false
def isLstD : D → Bool
  | .lst _ => true
  | .st => true
  | _ => false
def isTupD : D → Bool
  | .tup _ => true
  | _ => false
def isDctD : D → Bool
  | .dct _ => true
  | _ => false
def isSeqD : D → Bool
  | .lst _ => true
  | .tup _ => true
  | .st => true
  | _ => false
theorem isi_str {d : D} (h : plainD d = true) : isi1 d "str" = some (isStrD d) := by
  unfold isi1
  rw [if_pos h]
  cases d with
  | non => exact (by decide +kernel : kitB "NoneType" "str" = some false)
  | bl b => exact (by decide +kernel : kitB "bool" "str" = some false)
  | int b => exact (by decide +kernel : kitB "int" "str" = some false)
  | str b => exact (by decide +kernel : kitB "str" "str" = some true)
  | lst b => exact (by decide +kernel : kitB "list" "str" = some false)
  | tup b => exact (by decide +kernel : kitB "tuple" "str" = some false)
  | dct b => exact (by decide +kernel : kitB "dict" "str" = some false)
  | st => exact (by decide +kernel : kitB "list" "str" = some false)
  | ins C b => cases h
  | ty n => cases h
  | adr n => cases h
theorem isi_int {d : D} (h : plainD d = true) : isi1 d "int" = some (isIntD d) := by
  unfold isi1
  rw [if_pos h]
  cases d with
  | non => exact (by decide +kernel : kitB "NoneType" "int" = some false)
  | bl b => exact (by decide +kernel : kitB "bool" "int" = some true)
  | int b => exact (by decide +kernel : kitB "int" "int" = some true)
  | str b => exact (by decide +kernel : kitB "str" "int" = some false)
  | lst b => exact (by decide +kernel : kitB "list" "int" = some false)
  | tup b => exact (by decide +kernel : kitB "tuple" "int" = some false)
  | dct b => exact (by decide +kernel : kitB "dict" "int" = some false)
  | st => exact (by decide +kernel : kitB "list" "int" = some false)
  | ins C b => cases h
  | ty n => cases h
  | adr n => cases h
theorem isi_bool {d : D} (h : plainD d = true) : isi1 d "bool" = some (isBlD d) := by
  unfold isi1
  rw [if_pos h]
  cases d with
  | non => exact (by decide +kernel : kitB "NoneType" "bool" = some false)
  | bl b => exact (by decide +kernel : kitB "bool" "bool" = some true)
  | int b => exact (by decide +kernel : kitB "int" "bool" = some false)
  | str b => exact (by decide +kernel : kitB "str" "bool" = some false)
  | lst b => exact (by decide +kernel : kitB "list" "bool" = some false)
  | tup b => exact (by decide +kernel : kitB "tuple" "bool" = some false)
  | dct b => exact (by decide +kernel : kitB "dict" "bool" = some false)
  | st => exact (by decide +kernel : kitB "list" "bool" = some false)
  | ins C b => cases h
  | ty n => cases h
  | adr n => cases h
theorem isi_list {d : D} (h : plainD d = true) : isi1 d "list" = some (isLstD d) := by
  unfold isi1
  rw [if_pos h]
  cases d with
  | non => exact (by decide +kernel : kitB "NoneType" "list" = some false)
  | bl b => exact (by decide +kernel : kitB "bool" "list" = some false)
  | int b => exact (by decide +kernel : kitB "int" "list" = some false)
  | str b => exact (by decide +kernel : kitB "str" "list" = some false)
  | lst b => exact (by decide +kernel : kitB "list" "list" = some true)
  | tup b => exact (by decide +kernel : kitB "tuple" "list" = some false)
  | dct b => exact (by decide +kernel : kitB "dict" "list" = some false)
  | st => exact (by decide +kernel : kitB "list" "list" = some true)
  | ins C b => cases h
  | ty n => cases h
  | adr n => cases h
theorem isi_tuple {d : D} (h : plainD d = true) : isi1 d "tuple" = some (isTupD d) := by
  unfold isi1
  rw [if_pos h]
  cases d with
  | non => exact (by decide +kernel : kitB "NoneType" "tuple" = some false)
  | bl b => exact (by decide +kernel : kitB "bool" "tuple" = some false)
  | int b => exact (by decide +kernel : kitB "int" "tuple" = some false)
  | str b => exact (by decide +kernel : kitB "str" "tuple" = some false)
  | lst b => exact (by decide +kernel : kitB "list" "tuple" = some false)
  | tup b => exact (by decide +kernel : kitB "tuple" "tuple" = some true)
  | dct b => exact (by decide +kernel : kitB "dict" "tuple" = some false)
  | st => exact (by decide +kernel : kitB "list" "tuple" = some false)
  | ins C b => cases h
  | ty n => cases h
  | adr n => cases h
theorem isi_dict {d : D} (h : plainD d = true) : isi1 d "dict" = some (isDctD d) := by
  unfold isi1
  rw [if_pos h]
  cases d with
  | non => exact (by decide +kernel : kitB "NoneType" "dict" = some false)
  | bl b => exact (by decide +kernel : kitB "bool" "dict" = some false)
  | int b => exact (by decide +kernel : kitB "int" "dict" = some false)
  | str b => exact (by decide +kernel : kitB "str" "dict" = some false)
  | lst b => exact (by decide +kernel : kitB "list" "dict" = some false)
  | tup b => exact (by decide +kernel : kitB "tuple" "dict" = some false)
  | dct b => exact (by decide +kernel : kitB "dict" "dict" = some true)
  | st => exact (by decide +kernel : kitB "list" "dict" = some false)
  | ins C b => cases h
  | ty n => cases h
  | adr n => cases h
theorem isi_seq {K : PySem.W.Frag} {d : D} (h : plainD d = true) : isiN (K := K) d ["list", "tuple"] = some (isSeqD d) := by
  have k : ∀ n T b, kitB n T = some b → PySem.W.kitOne K (.type n) (.type T) = some b := fun n T b e => kit_ty e
  have go : ∀ n b1 b2, kitB n "list" = some b1 → kitB n "tuple" = some b2 → PySem.W.kitAny K (.type n) (["list", "tuple"].map Value.type) = some (b1 || b2) := fun n b1 b2 e1 e2 => by
    show (match PySem.W.kitOne K (.type n) (.type "list") with
      | some true => some true
      | some false => (match PySem.W.kitOne K (.type n) (.type "tuple") with
        | some true => some true
        | some false => some false
        | none => none)
      | none => none) = _
    rw [k n "list" b1 e1, k n "tuple" b2 e2]
    cases b1 <;> cases b2 <;> rfl
  unfold isiN
  rw [if_pos h]
  cases d with
  | non => exact go "NoneType" false false (by decide +kernel) (by decide +kernel)
  | bl b => exact go "bool" false false (by decide +kernel) (by decide +kernel)
  | int b => exact go "int" false false (by decide +kernel) (by decide +kernel)
  | str b => exact go "str" false false (by decide +kernel) (by decide +kernel)
  | lst b => exact go "list" true false (by decide +kernel) (by decide +kernel)
  | tup b => exact go "tuple" false true (by decide +kernel) (by decide +kernel)
  | dct b => exact go "dict" false false (by decide +kernel) (by decide +kernel)
  | st => exact go "list" true false (by decide +kernel) (by decide +kernel)
  | ins C b => cases h
  | ty n => cases h
  | adr n => cases h
end Tr
end
section
namespace Tr
open PySem PySem.Spec L2
section
variable {X : Cx} {K : PySem.W.Frag} {s s1 s2 : Sg} {e a b c : Expr} {pos pos' : Pos} {w wa wb : TDE}
def wNeg (w : TDE) : TDE := fun ρ R => w ρ fun d => ∃ i, d = .int i ∧ R (.int (-i))
theorem de_neg (h : DE X s1 a w) : DE X s (.UnaryOp .USub a pos) (wNeg w) := by
  refine PE_imp (pe_un un_neg h) ?_
  rintro σ H Q ⟨g, M, ρ, R, j, hw, k⟩
  refine ⟨g, M, ρ, _, j, hw, fun v H' d f j' r ⟨i, e, hR⟩ => ?_⟩
  subst e
  exact ⟨i, rep_int.mp r, k _ H' _ f j' (rep_int.mpr rfl) hR⟩
def semAbs : List D → DK → Prop := fun ds R => ∃ i, ds = [.int i] ∧ R (.int (if i < 0 then -i else i))
theorem sem_abs : SemC K (fun xs H Q => ∃ i, xs = [.int i] ∧ Q (.int (if i < 0 then -i else i)) H) [s1] s semAbs := by
  rintro g M σ H ρ vs ds R Q j r ⟨i, rfl, h⟩ fin
  obtain ⟨v, rfl, r1⟩ := repA1 r
  rw [rep_int.mp r1]
  exact ⟨i, rfl, fin _ H _ Fr.refl j (rep_int.mpr rfl) h⟩
/-- x.append(y.pop(i)), both lists of one's own -/
def wApop (i k : Nat) (w : TDE) : TDS := fun E ρ => i ≠ k ∧ ∃ ds es, ρ[i]? = some (.ol ds) ∧ ρ[k]? = some (.ol es) ∧ w ρ fun y => ∃ (n : Nat) (d : D), y = .int n ∧ n < 2 ^ 63 ∧ es[n]? = some d ∧ ds.length < sizeLine ∧ E.nx ((ρ.set k (.ol (es.eraseIdx n))).set i (.ol (ds ++ [d])))
theorem ds_apop (i k : Nat) {x y : Str} {apos apos2 cpos cpos2 p1 p2 : Pos} (h : DE X s e w) (hv : PE X (.Name x p1) (tVar i) := by exact pv _) (hv2 : PE X (.Name y p2) (tVar k) := by exact pv _)
    (hbase : attributeBase (.Name x p1) "append" X.env (eval (.Name x p1) X.env) = eval (.Name x p1) X.env := by rfl)
    (hbase2 : attributeBase (.Name y p2) "pop" X.env (eval (.Name y p2) X.env) = eval (.Name y p2) X.env := by rfl)
    (hfew : ((backTo cpos (starEach [(.Call (.Attribute (.Name y p2) "pop" apos2) [e] [] cpos2)] X.env)).all (fun x => !x.1) && (backToKw cpos (keywordEach [] X.env)).all (fun x => x.1.isSome)
      && decide ([(Expr.Call (.Attribute (.Name y p2) "pop" apos2) [e] [] cpos2)].length + ([] : List Keyword).length + (if ([] : List Keyword).isEmpty then 0 else 1) < 30)) = true := by rfl)
    (hfew2 : ((backTo cpos2 (starEach [e] X.env)).all (fun x => !x.1) && (backToKw cpos2 (keywordEach [] X.env)).all (fun x => x.1.isSome)
      && decide ([e].length + ([] : List Keyword).length + (if ([] : List Keyword).isEmpty then 0 else 1) < 30)) = true := by rfl)
    (hline : (apos.endLine == cpos.line) = true := by rfl) (hline2 : (apos2.endLine == cpos2.line) = true := by rfl)
    (hst : starEach [(.Call (.Attribute (.Name y p2) "pop" apos2) [e] [] cpos2)] X.env = (false, eval (.Call (.Attribute (.Name y p2) "pop" apos2) [e] [] cpos2) X.env) :: starEach [] X.env := by rfl) (hst2 : starEach [e] X.env = (false, eval e X.env) :: starEach [] X.env := by rfl)
    (hs : swapsWith (.Call (.Attribute (.Name x p1) "append" apos) [(.Call (.Attribute (.Name y p2) "pop" apos2) [e] [] cpos2)] [] cpos) none pos.line X.env = pure false := by rfl) :
    DS X (.Expr (.Call (.Attribute (.Name x p1) "append" apos) [(.Call (.Attribute (.Name y p2) "pop" apos2) [e] [] cpos2)] [] cpos) pos) (wApop i k w) := by
  have hp := pe_bm PySem.F.plainAttrs_list PySem.F.slot_list_pop PySem.F.type_list_pop mt_popAt hv2 (pa_cons h pa_nil hst2) hbase2 hfew2 hline2 hst2
  refine PS_imp (ps_expr (pe_bm PySem.F.plainAttrs_list PySem.F.slot_list_append PySem.F.type_list_append mt_append hv (pa_cons hp pa_nil hst) hbase hfew hline hst) hs) ?_
  rintro D σ H ⟨g, M, ρ, E, j, ⟨hik, ds, es, er, er2, hw⟩, ok⟩
  obtain ⟨o, eo, p, vs, rfl, m, hp, r⟩ := j.getO er
  obtain ⟨o2, eo2, p', us, rfl, m', hp', r'⟩ := j.getO er2
  refine ⟨_, eo, .inl ⟨rfl, vs, SqL.of hp⟩, _, eo2, .inl ⟨rfl, us, SqL.of hp'⟩, g, M, ρ, _, j, hw, fun v H1 d0 f1 j1 r1 hd => ?_⟩
  obtain ⟨n, d, e0, hn, he, hz, hR⟩ := hd
  subst e0
  have ev := rep_int.mp r1
  subst ev
  have hp1 : H1 p = some (.lst vs) := f1 p _ hp fun z => absurd z (j.nv p m)
  have hp1' : H1 p' = some (.lst us) := f1 p' _ hp' fun z => absurd z (j.nv p' m')
  have rs := r.ov (f1.ov fun _ z => Gh.av_vol z)
  have rs' := r'.ov (f1.ov fun _ z => Gh.av_vol z)
  have npp : p ≠ p' := fun z => by
    subst z
    exact hik (j.dis i k p ⟨⟨_, er, rfl⟩, eo⟩ ⟨⟨_, er2, rfl⟩, eo2⟩)
  obtain ⟨yv, h5, h6⟩ := rs'.get he
  have hlt : n < us.length := (List.getElem?_eq_some_iff.mp h5).1
  refine ⟨p', us, (n : Int), n, yv, rfl, rfl, hp1', by omega, by omega, ?_, h5, ?_⟩
  · unfold seqIndex?
    have : ¬ ((n : Int) < 0) := by omega
    simp [this, hlt]
  have j2 := j1.wr (b := .ol (es.eraseIdx n)) (o := .lst (us.eraseIdx n)) rfl ⟨⟨_, er2, rfl⟩, eo2⟩ m' ⟨p', _, rfl, m', upd_same, (rs'.erase n).ov (ov_st (by decide) j1 m')⟩
  have er' : (ρ.set k (.ol (es.eraseIdx n)))[i]? = some (.ol ds) := by rw [List.getElem?_set_ne (Ne.symm hik)]; exact er
  have hp2 : upd H1 p' (.lst (us.eraseIdx n)) p = some (.lst vs) := by rw [upd_ne npp]; exact hp1
  refine ⟨p, vs, yv, rfl, rfl, hp2, by rw [r.len]; exact hz, ?_⟩
  refine ok.nx M σ _ _ (j2.wr (b := .ol (ds ++ [d])) rfl ⟨⟨_, er', rfl⟩, eo⟩ m ⟨p, _, rfl, m, upd_same, ?_⟩) hR
  exact ((rs.ov (ov_st (by decide) j1 m')).app (.one (h6.ov (ov_st (by decide) j1 m')))).ov (ov_st (by decide) j2 m)
end
end Tr
end
section
namespace Tr
open PySem PySem.Spec L2
/-! ### readings, worked out -/
theorem x_bl {x : Bool} {P : Bool → Prop} : (∃ b, D.bl x = D.bl b ∧ P b) ↔ P x := ⟨fun ⟨b, e, h⟩ => by cases e; exact h, fun h => ⟨x, rfl, h⟩⟩
theorem x_int {x : Int} {P : Int → Prop} : (∃ b, D.int x = D.int b ∧ P b) ↔ P x := ⟨fun ⟨b, e, h⟩ => by cases e; exact h, fun h => ⟨x, rfl, h⟩⟩
theorem x_str {x : Str} {P : Str → Prop} : (∃ b, D.str x = D.str b ∧ P b) ↔ P x := ⟨fun ⟨b, e, h⟩ => by cases e; exact h, fun h => ⟨x, rfl, h⟩⟩
theorem x_some {α : Type} {x : α} {P : α → Prop} : (∃ b, some x = some b ∧ P b) ↔ P x := ⟨fun ⟨b, e, h⟩ => by cases e; exact h, fun h => ⟨x, rfl, h⟩⟩
theorem l_V {s : Sg} {i : Nat} {ρ : Ev} {R : DK} : wV s i ρ R = (match s, ρ[i]? with
  | _, some (.val d) => R d
  | .w, some (.wv d) => R d
  | .t, some (.wv d) => R d
  | .w, some (.xv _ d) => R d
  | .t, some (.xv _ d) => R d
  | .t, some (.ol ds) => R (.lst ds)
  | .t, some (.od kvs) => R (.dct kvs)
  | _, _ => False) := rfl
theorem v_val {s : Sg} {i : Nat} {ρ : Ev} {R : DK} {d : D} (h : ρ[i]? = some (.val d)) : wV s i ρ R = R d := by unfold wV; rw [h]
theorem v_wv {i : Nat} {ρ : Ev} {R : DK} {d : D} (h : ρ[i]? = some (.wv d)) : wV .t i ρ R = R d := by unfold wV; rw [h]
theorem v_ww {i : Nat} {ρ : Ev} {R : DK} {d : D} (h : ρ[i]? = some (.wv d)) : wV .w i ρ R = R d := by unfold wV; rw [h]
theorem v_ol {i : Nat} {ρ : Ev} {R : DK} {d : List D} (h : ρ[i]? = some (.ol d)) : wV .t i ρ R = R (.lst d) := by unfold wV; rw [h]
theorem v_od {i : Nat} {ρ : Ev} {R : DK} {d : List (Key × D)} (h : ρ[i]? = some (.od d)) : wV .t i ρ R = R (.dct d) := by unfold wV; rw [h]
theorem l_isi {d : D} {T : String} {R : DK} : semIsi [d, .ty T] R ↔ ∃ b, isi1 d T = some b ∧ R (.bl b) := by
  constructor
  · rintro ⟨d', T', b, e, h1, h2⟩; cases e; exact ⟨b, h1, h2⟩
  · rintro ⟨b, h1, h2⟩; exact ⟨d, T, b, rfl, h1, h2⟩
theorem l_isiLT {K : PySem.W.Frag} {d : D} {R : DK} : semIsiT K [d, .tup [.ty "list", .ty "tuple"]] R ↔ ∃ b, isiN (K := K) d ["list", "tuple"] = some b ∧ R (.bl b) := by
  constructor
  · rintro ⟨d', Ts, b, e, h1, h2⟩
    simp only [List.cons.injEq, D.tup.injEq, and_true] at e
    obtain ⟨rfl, e⟩ := e
    match Ts, e with
    | [T1, T2], e =>
      simp only [List.map_cons, List.map_nil, List.cons.injEq, D.ty.injEq, and_true] at e
      obtain ⟨rfl, rfl⟩ := e
      exact ⟨b, h1, h2⟩
    | [], e => simp at e
    | [_], e => simp at e
    | _ :: _ :: _ :: _, e => simp at e
  · rintro ⟨b, h1, h2⟩; exact ⟨d, ["list", "tuple"], b, rfl, h1, h2⟩
theorem l_len {d : D} {R : DK} : semLen [d] R ↔ ∃ n, lenD d = some n ∧ R (.int n) := by
  constructor
  · rintro ⟨d', n, e, h1, h2⟩; cases e; exact ⟨n, h1, h2⟩
  · rintro ⟨b, h1, h2⟩; exact ⟨d, b, rfl, h1, h2⟩
theorem l_P {p : Int → Int → Bool} {i j : Int} {R : DK} : semP p (.int i) (.int j) R ↔ R (.bl (p i j)) := by
  constructor
  · rintro ⟨i', j', e1, e2, h⟩; cases e1; cases e2; exact h
  · intro h; exact ⟨i, j, rfl, rfl, h⟩
theorem l_I0 {p : Int → Int → Int} {i j : Int} {R : DK} : semI0 p (.int i) (.int j) R ↔ R (.int (p i j)) := by
  constructor
  · rintro ⟨i', j', e1, e2, h⟩; cases e1; cases e2; exact h
  · intro h; exact ⟨i, j, rfl, rfl, h⟩
theorem l_I {C : Int → Int → Prop} {p : Int → Int → Int} {i j : Int} {R : DK} : semI C p (.int i) (.int j) R ↔ C i j ∧ R (.int (p i j)) := by
  constructor
  · rintro ⟨i', j', e1, e2, h⟩; cases e1; cases e2; exact h
  · intro h; exact ⟨i, j, rfl, rfl, h⟩
theorem l_EqS {a b : Str} {R : DK} : semEq (.str a) (.str b) R ↔ R (.bl (decide (a = b))) := by simp only [semEq, eqSc, Option.some.injEq, exists_eq_left']
theorem l_EqI {a b : Int} {R : DK} : semEq (.int a) (.int b) R ↔ R (.bl (decide (a = b))) := by simp only [semEq, eqSc, Option.some.injEq, exists_eq_left']
theorem l_EqB {a b : Bool} {R : DK} : semEq (.bl a) (.bl b) R ↔ R (.bl (decide (a = b))) := by simp only [semEq, eqSc, Option.some.injEq, exists_eq_left']
theorem l_NeS {a b : Str} {R : DK} : semNe (.str a) (.str b) R ↔ R (.bl (!decide (a = b))) := by simp only [semNe, eqSc, Option.some.injEq, exists_eq_left']
theorem l_NeI {a b : Int} {R : DK} : semNe (.int a) (.int b) R ↔ R (.bl (!decide (a = b))) := by simp only [semNe, eqSc, Option.some.injEq, exists_eq_left']
theorem l_NeB {a b : Bool} {R : DK} : semNe (.bl a) (.bl b) R ↔ R (.bl (!decide (a = b))) := by simp only [semNe, eqSc, Option.some.injEq, exists_eq_left']
theorem l_Ix {x : D} {ds : List D} {i : Int} {d : D} {R : DK} (h : itemsOf x = some ds) (e : atI ds i = some d) (hR : R d) : semIx x (.int i) R := ⟨i, rfl, .inl ⟨ds, d, h, e, hR⟩⟩
theorem l_all {bs : List Bool} {R : DK} (h : R (.bl (bs.all id))) : semAll [.lst (bs.map D.bl)] R := ⟨bs, rfl, h⟩
theorem l_srt {xs : List Str} {R : DK} (hl : xs.length < 64) (h : R (.lst ((srt xs).map D.str))) : semSrt [.lst (xs.map D.str)] R := ⟨xs, .inl rfl, hl, h⟩
theorem l_srtD {kvs : List (Key × D)} {xs : List Str} {R : DK} (hk : kvs.map (·.1) = xs.map Sum.inr) (hl : xs.length < 64) (h : R (.lst ((srt xs).map D.str))) : semSrt [.dct kvs] R := ⟨xs, .inr ⟨kvs, rfl, hk⟩, hl, h⟩
theorem l_tup {d : D} {es : List D} {R : DK} (e : itemsOf d = some es) (h : R (.tup es)) : semTup [d] R := ⟨d, es, rfl, e, h⟩
theorem l_lst {d : D} {es : List D} {R : DK} (e : listOf d = some es) (h : R (.lst es)) : semLst [d] R := ⟨d, es, rfl, e, h⟩
theorem l_dct {kvs : List (Key × D)} {R : DK} (h : R (.dct kvs)) : semDct [.dct kvs] R := ⟨kvs, rfl, h⟩
theorem map_toV {xs : List Str} : (xs.map D.str).map toV = (xs.map V.str).map some := by rw [List.map_map, List.map_map]; rfl
theorem inV_strs {a : Str} : ∀ xs : List Str, inV (.str a) (xs.map V.str) = decide (a ∈ xs)
  | [] => rfl
  | x :: xs => by
    have ih := inV_strs (a := a) xs
    unfold inV at ih ⊢
    rw [List.map_cons, List.any_cons, ih]
    show ((x == a) || decide (a ∈ xs)) = _
    by_cases h : a = x
    · subst h; simp
    · have h' : x ≠ a := fun z => h z.symm
      simp [h, h', beq_eq_false_iff_ne.mpr h']
theorem l_In {neg : Bool} {a : Str} {y : D} {xs : List Str} {R : DK} (e : itemsOf y = some (xs.map D.str)) (h : R (.bl (if neg then !decide (a ∈ xs) else decide (a ∈ xs)))) : semIn neg (.str a) y R :=
  ⟨.str a, _, _, rfl, e, map_toV, by rw [inV_strs]; exact h⟩
theorem l_InS {c : Nat} {z : Str} {R : DK} (h : R (.bl (decide (c ∈ z.cps.toList)))) : semInS false (.str ⟨#[c]⟩) (.str z) R := ⟨c, z, rfl, rfl, h⟩
theorem de_gtupE {X : Cx} {s : Sg} {pos : Pos} {x : Str} {ds : List D} (hg : Gl X x) (hm : ∃ a vs, X.mg x = some (.ref a) ∧ KTup X.K a vs ∧ ds.map toV = vs.map some) (hd : (x == ("__debug__" : Str)) = false := by decide) : DE X s (.Name x pos) (wC (.tup ds)) := by
  obtain ⟨a, vs, h1, h2, h3⟩ := hm
  exact de_gtup hg h1 h2 h3 hd
/-! loops -/
/-- a comprehension without a test, its element a function of the item -/
theorem lc_map {stt : Ev → D → Option Ev} {we : TDE} {ρ : Ev} {R : DK} (f : D → D) : ∀ (ds acc : List D), (∀ d ∈ ds, ∃ ρ', stt ρ d = some ρ' ∧ ∀ R', R' (f d) → we ρ' R') → ds.length + acc.length ≤ sizeLine → R (.lst (acc ++ ds.map f)) → wLcL stt wYes we ρ R ds acc
  | [], acc, _, _, h => by simpa [wLcL] using h
  | d :: ds, acc, hd, hz, h => by
    obtain ⟨ρ', e, k⟩ := hd d List.mem_cons_self
    refine ⟨ρ', e, ?_⟩
    refine k _ ⟨by simp at hz; omega, ?_⟩
    exact lc_map f ds (acc ++ [f d]) (fun x hx => hd x (List.mem_cons_of_mem _ hx)) (by simp at hz ⊢; omega) (by simpa using h)
/-- a comprehension that picks -/
theorem lc_filter {stt : Ev → D → Option Ev} {wt : TDT} {we : TDE} {ρ : Ev} {R : DK} (p : D → Bool) (f : D → D) : ∀ (ds acc : List D), (∀ d ∈ ds, ∃ ρ', stt ρ d = some ρ' ∧ (∀ R', R' (p d) → wt ρ' R') ∧ ∀ R', p d = true → R' (f d) → we ρ' R') → ds.length + acc.length ≤ sizeLine → R (.lst (acc ++ (ds.filter p).map f)) → wLcL stt wt we ρ R ds acc
  | [], acc, _, _, h => by simpa [wLcL] using h
  | d :: ds, acc, hd, hz, h => by
    obtain ⟨ρ', e, k1, k2⟩ := hd d List.mem_cons_self
    refine ⟨ρ', e, k1 _ ?_⟩
    by_cases hp : p d = true
    · rw [if_pos hp]
      refine k2 _ hp ⟨by simp at hz; omega, ?_⟩
      exact lc_filter p f ds (acc ++ [f d]) (fun x hx => hd x (List.mem_cons_of_mem _ hx)) (by simp at hz ⊢; omega) (by simpa [List.filter_cons, hp] using h)
    · rw [if_neg hp]
      exact lc_filter p f ds acc (fun x hx => hd x (List.mem_cons_of_mem _ hx)) (by simp at hz ⊢; omega) (by simpa [List.filter_cons, hp] using h)
end Tr
end
section
namespace Tr
open PySem PySem.Spec L2
/-! list(x) of what never changes, items of one's own list -/
theorem immL_mem : ∀ {ds : List D}, (∀ d ∈ ds, imm d = true) → immL ds = true
  | [], _ => rfl
  | d :: ds, h => by
    simp only [immL, Bool.and_eq_true]
    exact ⟨h d List.mem_cons_self, immL_mem fun x m => h x (List.mem_cons_of_mem _ m)⟩
theorem keys_imm (ks : List Key) : immL (ks.map keyToD) = true := immL_mem fun d m => by
  obtain ⟨k, _, rfl⟩ := List.mem_map.mp m
  cases k <;> rfl
def semLstI : List D → DK → Prop := fun ds R => ∃ d es, ds = [d] ∧ listOf d = some es ∧ immL es = true ∧ R (.lst es)
section
variable {X : Cx} {K : PySem.W.Frag} {s s1 s2 : Sg} {e a b c : Expr} {pos : Pos} {wa wb wc : TDE}
theorem sem_lstI : SemC K (fun xs H Q => (∃ p ys, xs = [.ref p] ∧ (SqL K H p ys ∨ SqT K H p ys) ∧ ∀ l, H l = none → Q (.ref l) (upd H l (.lst ys))) ∨ ∃ (a : Addr) (kvs : List (Key × V)), xs = [.ref a] ∧ Rd H a (.dK kvs) ∧ ∀ p, H p = none → Q (.ref p) (upd H p (.lst (kvs.map fun kv => kV kv.1)))) [s1] s semLstI := by
  rintro g M σ H ρ vs ds R Q j r ⟨d, es, rfl, e, im, h⟩ fin
  obtain ⟨v, rfl, r1⟩ := repA1 r
  cases d <;> first | cases e | skip
  · obtain ⟨a, us, rfl, _, h1, h2⟩ := rep_lst.mp r1
    exact .inl ⟨a, us, rfl, .inl (sqL_of h1), fin_lst j (h2.imm (fun _ _ e _ => e) im) h fin⟩
  · obtain ⟨a, us, rfl, h1, h2⟩ := rep_tup.mp r1
    exact .inl ⟨a, us, rfl, .inr (sqT_of h1), fin_lst j (h2.imm (fun _ _ e _ => e) im) h fin⟩
  · rename_i kvs
    obtain ⟨a, us, rfl, _, h1, h2⟩ := rep_dct.mp r1
    refine .inr ⟨a, us, rfl, rd_dK h1, fin_lst j ?_ h fin⟩
    have e1 : (us.map fun kv => kV kv.1) = (kvs.map (·.1)).map kV := by rw [← h2.keys, List.map_map]; rfl
    have e2 : (kvs.map fun kv => keyToD kv.1) = (kvs.map (·.1)).map keyToD := by rw [List.map_map]; rfl
    rw [e1, e2]
    exact rep_keys _
/-- x[i], x a list of one's own -/
def wIxO (i : Nat) (wb : TDE) : TDE := fun ρ R => ∃ ds, ρ[i]? = some (.ol ds) ∧ wb ρ fun y => ∃ n d, y = .int n ∧ atI ds n = some d ∧ R d
theorem de_ixO (i : Nat) {x : Str} {p1 : Pos} (hb : DE X s2 b wb) (hv : PE X (.Name x p1) (tVar i) := by exact pv _) (hs : PlainIx b := by exact fun _ _ => rfl) : DE X s (.Subscript (.Name x p1) b pos) (wIxO i wb) := by
  refine PE_imp (pe_ix ix_seq hv hb hs) ?_
  rintro σ H Q ⟨g, M, ρ, R, j, ⟨ds, er, hw⟩, k⟩
  obtain ⟨o, eo, p, vs, rfl, m, hp, r⟩ := j.getO er
  refine ⟨_, eo, g, M, ρ, _, j, hw, fun y H1 dy f1 j1 r1 ⟨n, d, ey, ea, hR⟩ => ?_⟩
  subst ey
  have hp1 : H1 p = some (.lst vs) := f1 p _ hp fun z => absurd z (j.nv p m)
  have rs := r.ov (f1.ov fun _ z => Gh.av_vol z)
  obtain ⟨v, h6, h7⟩ := atI_rep rs ea
  refine .inl ⟨p, vs, n, v, rfl, rep_int.mp r1, SqL.of hp1, h6, ?_⟩
  refine k v H1 d f1 j1 (h7.ov (Ov.less fun b hb => ?_)) hR
  cases s with
  | s => exact hb
  | w => exact hb.elim .inl fun h => .inr (.inr h)
  | t => exact .inl hb
end
end Tr
end
section
namespace Tr
open PySem PySem.Spec L2
/-! ### D readings followed by others -/
def wSeqs : List TDS → TDS
  | [] => wNext
  | w :: ws => wSeq w (wSeqs ws)
def tSeqs (K : PySem.W.Frag) (U : TS) : List TDS → TS
  | [] => U
  | w :: ws => tSeq (rdS K w) (tSeqs K U ws)
theorem lks {K : PySem.W.Frag} {g : Gh} {E : EndsD} {D : Ends} {U : TS} (rt : ∀ v H d, Fr (vol g.z) g.H0 H → StOk g.z H → Rep K g.z (fun a => vol g.z a ∨ g.B a) H d v → E.rt d → D.rt v H)
    (bk : ∀ M σ H ρ, J K g M σ H ρ → E.bk ρ → D.bk σ H) (ct : ∀ M σ H ρ, J K g M σ H ρ → E.ct ρ → D.ct σ H) (hU : ∀ M σ H ρ, J K g M σ H ρ → E.nx ρ → U D σ H) :
    ∀ (ws : List TDS) M σ H ρ, J K g M σ H ρ → wSeqs ws E ρ → tSeqs K U ws D σ H
  | [], M, σ, H, ρ, j, h => hU M σ H ρ j h
  | w :: ws, M, σ, H, ρ, j, h => ⟨g, M, ρ, { E with nx := wSeqs ws E }, j, h, ⟨fun M σ H ρ j h => lks rt bk ct hU ws M σ H ρ j h, rt, bk, ct⟩⟩
/-! ### making an instance -/
abbrev SpM := List D → (List (Str × D) → Prop) → Prop
def toMk (K : PySem.W.Frag) (C : Addr) (ss : List Sg) (sp : SpM) : Sp := fun vs H Q _ => ∃ z B p dx us ds R, vs = .ref p :: us ∧ H p = some (.ins C dx []) ∧ ¬ vol z p ∧ StOk z H ∧ (∀ b, B b → H b ≠ none) ∧ RepP K z B H ss ds us ∧ sp ds R ∧
  ∀ H' ws fs, Fr (fun b => vol z b ∨ b = p) H H' → StOk z H' → H' p = some (.ins C dx ws) → RepF K z (fun a => vol z a ∨ B a ∨ a = p) H' fs ws → R fs → Q .non H'
section
variable {X : Cx} {s : Sg} {e : Expr} {es : List Expr} {pos p : Pos} {ws wk : TDA} {ss : List Sg}
theorem mk_fin {K : PySem.W.Frag} {g : Gh} {M : Addr → Prop} {σ : L2.St} {H : Hp} {ρ : Ev} {ds : List D} {vs : List V} {R : DK} {Q : VK} {E : XK} {C : Addr} {sp : SpM} (j : J K g M σ H ρ) (r : RepA K g M H (ss.map (cs s)) ds vs) (h : sp ds fun fs => R (.ins C fs)) (k : Fin1 K g M σ ρ s H R Q) :
    ∀ x dx, H x = none → H dx = none → dx ≠ x → toMk K C ss sp (.ref x :: vs) (upd (upd H dx (.own x)) x (.ins C dx [])) (fun v H2 => v = .non ∧ Q (.ref x) H2) E := by
  intro x dx hx hdx hne
  have f1 : Fr (vol g.z) H (upd H dx (.own x)) := Fr.laid hdx
  have hx1 : upd H dx (.own x) x = none := by rw [upd_ne (fun z => hne z.symm)]; exact hx
  have f2 : Fr (vol g.z) (upd H dx (.own x)) (upd (upd H dx (.own x)) x (.ins C dx [])) := Fr.laid hx1
  have j2 := (j.laid (o := .own x) hdx).laid (o := .ins C dx []) hx1
  have nx : ¬ g.av M s x := j.nav hx s
  have nvx : ¬ vol g.z x := fun z => nx (Gh.av_vol z)
  refine ⟨g.z, g.av M s, x, dx, vs, ds, _, rfl, upd_same, nvx, j2.ok, av_tracked j2, (r.ov (f1.trans f2)).toP, h, fun H' ws fs fr st hp rf hR => ⟨rfl, ?_⟩⟩
  have frH : Fr (vol g.z) H H' := ⟨fun b o hb hv => by
    have hb' : b ≠ x := fun z => by rw [z, hx] at hb; cases hb
    exact fr b o (f2 b o (f1 b o hb hv) hv) fun z => z.elim hv fun z => absurd z hb', fun b y u e => f1.nl b y u (f2.nl b y u (fr.nl b y u e))⟩
  refine k (.ref x) H' (.ins C fs) frH (j.go frH st) (rep_ins.mpr ⟨x, dx, ws, rfl, nx, ?_, rf.ov (Ov.less fun b hb => .inr (.inl hb))⟩) hR
  unfold nz
  rw [hp]
def wMk (sp : SpM) (C : Addr) (ws : TDA) (more : List D) : TDE := fun ρ R => ws ρ fun ds => sp (ds ++ more) fun fs => R (.ins C fs)
theorem RepA.app {K : PySem.W.Frag} {g : Gh} {M : Addr → Prop} {H : Hp} : ∀ {ss ss2 : List Sg} {ds ds2 : List D} {vs vs2 : List V}, RepA K g M H ss ds vs → RepA K g M H ss2 ds2 vs2 → RepA K g M H (ss ++ ss2) (ds ++ ds2) (vs ++ vs2)
  | [], _, _, _, _, _, ⟨rfl, rfl⟩, h => h
  | s :: ss, _, _, _, _, _, ⟨d, ds', v, vs', rfl, rfl, r, rs⟩, h => ⟨d, ds' ++ _, v, vs' ++ _, rfl, rfl, r, RepA.app rs h⟩
/-- C(e, ..), with defaults of the keyword-only parameters -/
theorem de_mk {E : XK} {C : Addr} {sp : SpM} {ss2 : List Sg} {more : List D} {dvs : List V} (h : PE X e (tMake C (toMk X.K C (ss ++ ss2) sp) dvs E (rdA X.K (ss.map (cs s)) ws))) (hm : ∀ g M H, RepA X.K g M H (ss2.map (cs s)) more dvs) : DE X s e (wMk sp C ws more) := by
  refine PE_imp h ?_
  rintro σ H Q ⟨g, M, ρ, R, j, hw, k⟩
  refine ⟨g, M, ρ, _, j, hw, fun vs H1 ds f1 j1 r1 hR => ?_⟩
  exact mk_fin (ss := ss ++ ss2) (E := E) j1 (by rw [List.map_append]; exact r1.app (hm g M H1)) hR fun v H' d f => k v H' d (f1.trans f)
/-- keywords -/
theorem PK_imp {kws : List Keyword} {t t' : TA} (h : PK X kws t) (f : ∀ σ H Q, t' σ H Q → t σ H Q) : PK X kws t' := ⟨fun pos pins s σ H Q I q => h.run pos pins s σ H Q I (f _ _ _ q)⟩
abbrev DKw (X : Cx) (ss : List Sg) (kws : List Keyword) (w : TDA) : Prop := PK X kws (rdA X.K ss w)
theorem dk_nil : DKw X [] [] wNil := by
  refine PK_imp pk_nil ?_
  rintro σ H Q ⟨g, M, ρ, R, j, hw, k⟩
  exact k [] H [] Fr.refl j ⟨rfl, rfl⟩ hw
theorem dk_cons {kws : List Keyword} {nm : Option Str} {kpos : Pos} {w : TDE} {s1 : Sg} (h : DE X s1 e w) (hs : DKw X ss kws ws) : DKw X (s1 :: ss) (⟨nm, e, kpos⟩ :: kws) (wCons w ws) := by
  refine PK_imp (pk_cons h hs) ?_
  rintro σ H Q ⟨g, M, ρ, R, j, hw, k⟩
  refine ⟨g, M, ρ, _, j, hw, fun v H1 d f1 j1 r1 hd => ⟨g, M, ρ, _, j1, hd, fun vs H2 ds f2 j2 r2 hds => ?_⟩⟩
  exact k _ H2 _ (f1.trans f2) j2 ⟨d, ds, v, vs, rfl, rfl, r1.ov (f2.ov fun _ z => Gh.av_vol z), r2⟩ hds
def wMkK (sp : SpM) (C : Addr) (ws wk : TDA) : TDE := fun ρ R => ws ρ fun ds => wk ρ fun es => sp (ds ++ es) fun fs => R (.ins C fs)
/-- C(e, .., k = v, ..) -/
theorem de_mkK {E : XK} {C : Addr} {sp : SpM} {ss2 : List Sg} {n m : Nat} (h : PE X e (tMakeK C n m (toMk X.K C (ss ++ ss2) sp) (fun vs zs => vs ++ zs) E (rdA X.K (ss.map (cs s)) ws) (rdA X.K (ss2.map (cs s)) wk))) (hn : ss.length = n := by rfl) (hm : ss2.length = m := by rfl) : DE X s e (wMkK sp C ws wk) := by
  refine PE_imp h ?_
  rintro σ H Q ⟨g, M, ρ, R, j, hw, k⟩
  refine ⟨g, M, ρ, _, j, hw, fun vs H1 ds f1 j1 r1 hR => ⟨g, M, ρ, _, j1, hR, fun zs H2 es f2 j2 r2 hR2 => ⟨?_, ?_, ?_⟩⟩⟩
  · have := r1.toP.len.1; simpa [hn] using this
  · have := r2.toP.len.1; simpa [hm] using this
  · exact mk_fin (ss := ss ++ ss2) (E := E) j2 (by rw [List.map_append]; exact (r1.ov f2).app r2) hR2 fun v H' d f => k v H' d ((f1.trans f2).trans f)
end
end Tr
end
section
namespace Tr
open PySem PySem.Spec L2
local macro_rules | `(tactic| walk_at "rd") => `(tactic| simp only [wSeq, wIfS, wOr, wNot, wAnd, wT, wCall, wCons, wNil, wC, wV, wRet, wNext, wSet, bdS, wSetL, wSetD, wIf, wTup, wLst, wIsN, wNotN, w2, wChain, wAndV, wOrV, wNotV, wExp, List.getElem?_cons_zero, List.getElem?_cons_succ, List.set_cons_zero, List.set_cons_succ, l_isi, l_isiLT, x_some, x_bl, x_int, x_str, l_P, l_I0, l_I, l_EqS, l_EqI, l_EqB, l_NeS, l_NeI, l_len, lenD, isNon, Bool.not_true, Bool.not_false, if_true, if_false, Bool.false_eq_true, eq_self_iff_true])
def letters : Str := "abcdefghijklmnopqrstuvwxyz"
def isNm (x : Str) : Bool := decide (1 ≤ x.length) && decide (x.length ≤ 8) && x.cps.toList.all (fun c => decide (c ∈ letters.cps.toList))
def isNameD : D → Bool
  | .str x => isNm x
  | _ => false
def small (d : D) : Bool := match d with
  | .str x => decide (x.length ≤ sizeLine)
  | .st => false
  | .ins _ _ => false
  | .ty _ => false
  | .adr _ => false
  | _ => true
theorem small_plain {d : D} (h : small d = true) : plainD d = true := by cases d <;> first | rfl | cases h
def sp_is_name : SpD := fun ds R => ∃ d, ds = [d] ∧ small d = true ∧ R (.bl (isNameD d))
def isWd (x : Str) : Bool := decide (x = "") || isNm x
def isWordD : D → Bool
  | .str x => isWd x
  | _ => false
def sp_is_word : SpD := fun ds R => ∃ d, ds = [d] ∧ small d = true ∧ R (.bl (isWordD d))
def isRowD (d : D) (a b : Int) : Bool := match itemsOf d with
  | some ds => decide (a ≤ ds.length) && decide ((ds.length : Int) ≤ b)
  | none => false
def sp_is_row_of : SpD := fun ds R => ∃ d a b, ds = [d, .int a, .int b] ∧ small d = true ∧ R (.bl (isRowD d a b))
theorem p_is_name {d : D} {R : DK} : sp_is_name [d] R ↔ small d = true ∧ R (.bl (isNameD d)) := ⟨fun ⟨_, e, h⟩ => by cases e; exact h, fun h => ⟨d, rfl, h⟩⟩
theorem p_is_word {d : D} {R : DK} : sp_is_word [d] R ↔ small d = true ∧ R (.bl (isWordD d)) := ⟨fun ⟨_, e, h⟩ => by cases e; exact h, fun h => ⟨d, rfl, h⟩⟩
theorem p_is_row_of {d : D} {a b : Int} {R : DK} : sp_is_row_of [d, .int a, .int b] R ↔ small d = true ∧ R (.bl (isRowD d a b)) := ⟨fun ⟨_, _, _, e, h⟩ => by cases e; exact h, fun h => ⟨d, a, b, rfl, h⟩⟩
def t_is_name : TDS := wSeq (wIfS (wOr (wNot (wT (wCall semIsi (wCons (wV .t 0) (wCons (wC (.ty "str")) wNil))))) (wNot (wT (wChain (semP fun i j => decide (i ≤ j)) (semP fun i j => decide (i ≤ j)) (wC (.int 1)) (wCall semLen (wCons (wV .t 0) wNil)) (wC (.int 8)))))) (wRet (wC (.bl false))) wNext)
    (wRet (wCall semAll (wCons (wLc (wItS (wV .t 0)) (st1 .s 1) wYes (w2 (semInS false) (wV .t 1) (wC (.str letters))) [1]) wNil)))
def t_is_word : TDS := wRet (wAndV (wCall semIsi (wCons (wV .t 0) (wCons (wC (.ty "str")) wNil))) (wOrV (w2 semEq (wV .t 0) (wC (.str ""))) (wCall sp_is_name (wCons (wV .t 0) wNil))))
def t_is_row_of (K : PySem.W.Frag): TDS := wRet (wAndV (wCall (semIsiT K) (wCons (wV .t 0) (wCons (wTup (wCons (wC (.ty "list")) (wCons (wC (.ty "tuple")) wNil))) wNil))) (wChain (semP fun i j => decide (i ≤ j)) (semP fun i j => decide (i ≤ j)) (wV .t 1) (wCall semLen (wCons (wV .t 0) wNil)) (wV .t 2)))
theorem rd_is_name (ds : List D) (R : DK) (hl : ds.length = 1) (h : sp_is_name ds R) : t_is_name { nx := fun _ => R .non, rt := R } (ini [.w] ds 2) := by
  obtain ⟨d, rfl, hs, hR⟩ := h
  show t_is_name _ [Bd.wv d, .non]
  have hp := small_plain hs
  unfold t_is_name
  walk_at "rd"
  rw [isi_str hp]
  walk_at "rd"
  cases d with
  | str x =>
    have hz : x.length ≤ sizeLine := of_decide_eq_true hs
    simp only [isStrD]
    walk_at "rd"
    rw [if_pos hz]
    walk_at "rd"
    have hR' : R (.bl (isNm x)) := hR
    unfold isNm at hR'
    have e1 : decide ((1 : Int) ≤ (x.length : Int)) = decide (1 ≤ x.length) := by apply decide_eq_decide.mpr; omega
    have e2 : decide ((x.length : Int) ≤ 8) = decide (x.length ≤ 8) := by apply decide_eq_decide.mpr; omega
    rw [e1, e2]
    by_cases h1 : 1 ≤ x.length
    · rw [decide_eq_true h1] at hR' ⊢
      walk_at "rd"
      by_cases h2 : x.length ≤ 8
      · rw [decide_eq_true h2] at hR' ⊢
        walk_at "rd"
        refine ⟨x, rfl, lc_map (fun d => match d with | .str ⟨cs⟩ => .bl (decide (cs.getD 0 0 ∈ letters.cps.toList)) | _ => .non) _ _ (fun d hd => ⟨_, rfl, fun R' h' => ?_⟩) ?_ ?_⟩
        · obtain ⟨c, _, rfl⟩ := List.mem_map.mp hd
          exact l_InS h'
        · have : (signsD x).length = x.length := by unfold signsD; simp [Str.length]
          rw [this]; simpa using hz
        · refine ⟨x.cps.toList.map fun c => decide (c ∈ letters.cps.toList), ?_, ?_⟩
          · unfold signsD
            simp only [List.nil_append, List.map_map]
            rfl
          · rw [List.all_map]
            exact hR'
      · rw [decide_eq_false h2] at hR' ⊢
        walk_at "rd"
        simpa using hR'
    · rw [decide_eq_false h1] at hR' ⊢
      walk_at "rd"
      simpa using hR'
  | _ => exact hR
theorem rd_is_word (ds : List D) (R : DK) (hl : ds.length = 1) (h : sp_is_word ds R) : t_is_word { nx := fun _ => R .non, rt := R } (ini [.w] ds 1) := by
  obtain ⟨d, rfl, hs, hR⟩ := h
  show t_is_word _ [Bd.wv d]
  have hp := small_plain hs
  unfold t_is_word
  walk_at "rd"
  rw [isi_str hp]
  walk_at "rd"
  cases d with
  | str x =>
    simp only [isStrD]
    walk_at "rd"
    have hR' : R (.bl (decide (x = "") || isNm x)) := hR
    by_cases h1 : x = ""
    · rw [decide_eq_true h1] at hR' ⊢
      exact hR'
    · rw [decide_eq_false h1] at hR' ⊢
      exact ⟨_, rfl, hs, hR'⟩
  | _ => exact hR
theorem rd_is_row_of (K : PySem.W.Frag) (ds : List D) (R : DK) (hl : ds.length = 3) (h : sp_is_row_of ds R) : t_is_row_of K { nx := fun _ => R .non, rt := R } (ini [.w, .w, .w] ds 3) := by
  obtain ⟨d, a, b, rfl, hs, hR⟩ := h
  show t_is_row_of K _ [Bd.wv d, .wv (.int a), .wv (.int b)]
  have hp := small_plain hs
  unfold t_is_row_of
  walk_at "rd"
  rw [isi_seq hp]
  walk_at "rd"
  have go : ∀ n : Nat, lenD d = some n → isRowD d a b = (decide (a ≤ n) && decide ((n : Int) ≤ b)) → ∃ m, lenD d = some m ∧ if decide (a ≤ (m : Int)) = true then R (.bl (decide ((m : Int) ≤ b))) else R (.bl false) := fun n e1 e2 => by
    rw [e2] at hR
    refine ⟨n, e1, ?_⟩
    by_cases h1 : a ≤ (n : Int)
    · rw [decide_eq_true h1] at hR ⊢; exact hR
    · rw [decide_eq_false h1] at hR ⊢; exact hR
  cases d with
  | lst xs => exact go xs.length rfl rfl
  | tup xs => exact go xs.length rfl rfl
  | st => cases hs
  | _ => exact hR
end Tr
end
section
namespace Tr
open PySem PySem.Spec L2
local macro_rules | `(tactic| walk_at "rd") => `(tactic| simp only [wSeq, wIfS, wOr, wNot, wAnd, wT, wCall, wCons, wNil, wC, wV, wRet, wNext, wSet, bdS, wSetL, wSetD, wIf, wTup, wLst, wIsN, wNotN, w2, wChain, wAndV, wOrV, wNotV, wExp, List.getElem?_cons_zero, List.getElem?_cons_succ, List.set_cons_zero, List.set_cons_succ, l_isi, l_isiLT, x_some, x_bl, x_int, x_str, l_P, l_I0, l_I, l_EqS, l_EqI, l_EqB, l_NeS, l_NeI, l_len, lenD, isNon, Bool.not_true, Bool.not_false, if_true, if_false, Bool.false_eq_true, eq_self_iff_true])
local macro_rules | `(tactic| walk_at "rd0") => `(tactic| simp only [wSeq, wIfS, wOr, wNot, wAnd, wT, wCall, wCons, wNil, wC, wV, wRet, wNext, wSet, bdS, wSetL, wSetD, wIf, wTup, wLst, wIsN, wNotN, w2, wChain, wAndV, wOrV, wNotV, wExp, List.getElem?_cons_zero, List.getElem?_cons_succ, List.set_cons_zero, List.set_cons_succ, x_some, x_bl, x_int, x_str, l_P, l_I0, l_I, l_EqS, l_EqI, l_EqB, l_NeS, l_NeI, Bool.not_true, Bool.not_false, if_true, if_false, Bool.false_eq_true, eq_self_iff_true])
/-! data all through small -/
mutual
def sm : D → Bool
  | .non => true
  | .bl _ => true
  | .int _ => true
  | .str x => decide (x.length ≤ sizeLine)
  | .lst ds => smL ds
  | .tup ds => smL ds
  | .dct kvs => smK kvs
  | _ => false
def smL : List D → Bool
  | [] => true
  | d :: ds => sm d && smL ds
def smK : List (Key × D) → Bool
  | [] => true
  | (k, d) :: ds => (match k with | .inl _ => true | .inr x => decide (x.length ≤ sizeLine)) && (sm d && smK ds)
end
theorem sm_small {d : D} (h : sm d = true) : small d = true := by
  cases d <;> simp_all [sm, small]
theorem smL_mem : ∀ {ds : List D} {d : D}, smL ds = true → d ∈ ds → sm d = true
  | d :: ds, x, h, m => by
    simp only [smL, Bool.and_eq_true] at h
    rcases List.mem_cons.mp m with rfl | m
    · exact h.1
    · exact smL_mem h.2 m
theorem smK_mem : ∀ {ds : List (Key × D)} {k : Key} {d : D}, smK ds = true → (k, d) ∈ ds → sm d = true ∧ sm (keyToD k) = true
  | (k0, d0) :: ds, k, d, h, m => by
    simp only [smK, Bool.and_eq_true] at h
    rcases List.mem_cons.mp m with e | m
    · cases e
      refine ⟨h.2.1, ?_⟩
      cases k0 with
      | inl i => rfl
      | inr x => exact h.1
    · exact smK_mem h.2.2 m
theorem sm_items {d : D} {ds : List D} (h : sm d = true) (e : itemsOf d = some ds) : smL ds = true := by
  cases d <;> first | cases e | skip
  · simpa [sm] using h
  · simpa [sm] using h
/-! the names of a rule, the choices of a link -/
def readStrs (ok : D → Bool) : List D → List Str → Option (List Str)
  | [], acc => some acc
  | .str x :: ds, acc => if (ok (.str x) && !decide (x ∈ acc)) = true then readStrs ok ds (acc ++ [x]) else none
  | _ :: _, _ => none
def readList (ok : D → Bool) (a b : Int) (d : D) : D := if isRowD d a b = true then
    match itemsOf d with
    | some ds => (match readStrs ok ds [] with
      | some xs => .tup ((srt xs).map D.str)
      | none => .non)
    | none => .non
  else .non
def readChoices : D → D := readList isWordD 1 4
def readNames : D → D := readList isNameD 0 4
def sp_read_choices : SpD := fun ds R => ∃ d, ds = [d] ∧ sm d = true ∧ R (readChoices d)
def sp_read_names : SpD := fun ds R => ∃ d, ds = [d] ∧ sm d = true ∧ R (readNames d)
theorem p_read_choices {d : D} {R : DK} : sp_read_choices [d] R ↔ sm d = true ∧ R (readChoices d) := ⟨fun ⟨_, e, h⟩ => by cases e; exact h, fun h => ⟨d, rfl, h⟩⟩
theorem p_read_names {d : D} {R : DK} : sp_read_names [d] R ↔ sm d = true ∧ R (readNames d) := ⟨fun ⟨_, e, h⟩ => by cases e; exact h, fun h => ⟨d, rfl, h⟩⟩
/-! links, manners -/
def isLinkD (d : D) (kvs : List (Key × D)) : Bool := match d with
  | .str x => (valD kvs (.inr x)).isSome
  | _ => false
def sp_is_link : SpD := fun ds R => ∃ d kvs, ds = [d, .dct kvs] ∧ small d = true ∧ R (.bl (isLinkD d kvs))
theorem p_is_link {d : D} {kvs : List (Key × D)} {R : DK} : sp_is_link [d, .dct kvs] R ↔ small d = true ∧ R (.bl (isLinkD d kvs)) := ⟨fun ⟨_, _, e, h⟩ => by cases e; exact h, fun h => ⟨d, kvs, rfl, h⟩⟩
def manners : List D := [.str "try", .str "last"]
def isMannerD (d : D) : Bool := match d with
  | .str x => decide (x = "try") || decide (x = "last")
  | _ => false
def sp_is_manner : SpD := fun ds R => ∃ d, ds = [d] ∧ small d = true ∧ R (.bl (isMannerD d))
theorem p_is_manner {d : D} {R : DK} : sp_is_manner [d] R ↔ small d = true ∧ R (.bl (isMannerD d)) := ⟨fun ⟨_, e, h⟩ => by cases e; exact h, fun h => ⟨d, rfl, h⟩⟩
/-! own answers -/
def readAnswer (d : D) (kvs : List (Key × D)) : D := match itemsOf d with
  | some [.str x] => if x = "self" then .tup [.str "self"] else .non
  | some [.str x, y] => if x = "value" ∧ isNameD y = true then .tup [.str "value", y] else if x = "link" ∧ isLinkD y kvs = true then .tup [.str "link", y] else .non
  | _ => .non
def sp_read_answer : SpD := fun ds R => ∃ d kvs, ds = [d, .dct kvs] ∧ sm d = true ∧ R (readAnswer d kvs)
theorem p_read_answer {d : D} {kvs : List (Key × D)} {R : DK} : sp_read_answer [d, .dct kvs] R ↔ sm d = true ∧ R (readAnswer d kvs) := ⟨fun ⟨_, _, e, h⟩ => by cases e; exact h, fun h => ⟨d, kvs, rfl, h⟩⟩
/-! dicts with names as keys -/
def readKV (f : D → D) : List (Key × D) → List (Str × D) → Option (List (Str × D))
  | [], acc => some acc
  | (.inr x, d) :: r, acc => if isNm x = true then (if isNon (f d) = true then none else readKV f r (acc ++ [(x, f d)])) else none
  | (.inl _, _) :: _, _ => none
/-- the pairs in the order of their keys -/
def byKey (ps : List (Str × D)) : List (Key × D) := (srt (ps.map (·.1))).map fun x => (Sum.inr x, (ps.lookup x).getD .non)
def readDict (f : D → D) (n : Nat) (d : D) : D := match d with
  | .dct kvs => if kvs.length ≤ n then (match readKV f kvs [] with
      | some ps => .dct (byKey ps)
      | none => .non) else .non
  | _ => .non
def nodupD : D → Bool
  | .dct kvs => decide ((kvs.map (·.1)).Nodup)
  | _ => true
def readLinks : D → D := readDict readChoices 2
def sp_read_links : SpD := fun ds R => ∃ d, ds = [d] ∧ sm d = true ∧ nodupD d = true ∧ R (readLinks d)
def readOwn (d : D) (ls : List (Key × D)) : D := readDict (fun x => readAnswer x ls) 5 d
def sp_read_own : SpD := fun ds R => ∃ d kvs, ds = [d, .dct kvs] ∧ sm d = true ∧ nodupD d = true ∧ R (readOwn d kvs)
/-! rules -/
def readSend (v2 v3 v4 v5 names : D) (ls : List (Key × D)) : D := if isLinkD v2 ls = true ∧ isWordD v3 = true then (if isMannerD v4 = true ∧ isBlD v5 = true then .tup [.str "send", names, v2, v3, v4, v5] else .non) else .non
def sp_read_send : SpD := fun ds R => ∃ d names kvs v0 v1 v2 v3 v4 v5, ds = [d, names, .dct kvs] ∧ itemsOf d = some [v0, v1, v2, v3, v4, v5] ∧ sm d = true ∧ R (readSend v2 v3 v4 v5 names kvs)
def readRule (d : D) (ls : List (Key × D)) : D := match itemsOf d with
  | some (.str x :: v1 :: r) => if isNon (readNames v1) = true then .non else (match r with
    | [] => if x = "bar" ∨ x = "self" then .tup [.str x, readNames v1] else .non
    | [v2] => if x = "tell" ∧ isNameD v2 = true then .tup [.str "tell", readNames v1, v2] else .non
    | [v2, v3] => if x = "give" ∧ isLinkD v2 ls = true ∧ isMannerD v3 = true then .tup [.str "give", readNames v1, v2, v3] else .non
    | [v2, v3, v4, v5] => if x = "send" then readSend v2 v3 v4 v5 (readNames v1) ls else .non
    | _ => .non)
  | _ => .non
def sp_read_rule : SpD := fun ds R => ∃ d kvs, ds = [d, .dct kvs] ∧ sm d = true ∧ R (readRule d kvs)
theorem p_read_rule {d : D} {kvs : List (Key × D)} {R : DK} : sp_read_rule [d, .dct kvs] R ↔ sm d = true ∧ R (readRule d kvs) := ⟨fun ⟨_, _, e, h⟩ => by cases e; exact h, fun h => ⟨d, kvs, rfl, h⟩⟩
def readAll (f : D → D) : List D → List D → Option (List D)
  | [], acc => some acc
  | d :: ds, acc => if isNon (f d) = true then none else readAll f ds (acc ++ [f d])
def readRules (d : D) (ls : List (Key × D)) : D := if isRowD d 0 300 = true then
    match itemsOf d with
    | some ds => (match readAll (fun x => readRule x ls) ds [] with
      | some xs => .lst xs
      | none => .non)
    | none => .non
  else .non
def sp_read_rules : SpD := fun ds R => ∃ d kvs, ds = [d, .dct kvs] ∧ sm d = true ∧ R (readRules d kvs)
def t_read_choices : TDS := wSeq (wIfS (wNot (wT (wCall sp_is_row_of (wCons (wV .t 0) (wCons (wC (.int 1)) (wCons (wC (.int 4)) wNil)))))) (wRet (wC .non)) wNext)
    (wSeq (wSetL 1 wNil)
    (wSeq (wFor (wIt (wV .w 0)) (st1 .w 2)
    (wSeq (wIfS (wOr (wNot (wT (wCall sp_is_word (wCons (wV .t 2) wNil)))) (wT (w2 (semIn false) (wV .t 2) (wV .t 1)))) (wRet (wC .non)) wNext)
    (wApp 1 (wImm (wV .t 2)))))
    (wRet (wCall semTup (wCons (wCall semSrt (wCons (wV .t 1) wNil)) wNil)))))
def t_read_links : TDS := wSeq (wIfS (wOr (wNot (wT (wCall semIsi (wCons (wV .t 0) (wCons (wC (.ty "dict")) wNil))))) (wT (w2 (semP fun i j => decide (j < i)) (wCall semLen (wCons (wV .t 0) wNil)) (wC (.int 2))))) (wRet (wC .non)) wNext)
    (wSeq (wSetD 1)
    (wSeq (wFor (wItK (wV .w 0)) (st1 .s 2)
    (wSeq (wIfS (wNot (wT (wCall sp_is_name (wCons (wV .t 2) wNil)))) (wRet (wC .non)) wNext)
    (wSeq (wSet .s 3 (wCall sp_read_choices (wCons (wDGet (wV .t 0) (wV .t 2)) wNil)))
    (wSeq (wIfS (wT (wIsN (wV .t 3))) (wRet (wC .non)) wNext)
    (wPut 1 (wV .t 2) (wV .s 3))))))
    (wRel 1 (wRet (wDc (wIt (wCall semSrt (wCons (wV .t 1) wNil))) (st1 .s 2) wYes (wV .t 2) (wDGet (wV .s 1) (wV .t 2)) [2])))))
def t_read_names : TDS := wSeq (wIfS (wNot (wT (wCall sp_is_row_of (wCons (wV .t 0) (wCons (wC (.int 0)) (wCons (wC (.int 4)) wNil)))))) (wRet (wC .non)) wNext)
    (wSeq (wSetL 1 wNil)
    (wSeq (wFor (wIt (wV .w 0)) (st1 .w 2)
    (wSeq (wIfS (wOr (wNot (wT (wCall sp_is_name (wCons (wV .t 2) wNil)))) (wT (w2 (semIn false) (wV .t 2) (wV .t 1)))) (wRet (wC .non)) wNext)
    (wApp 1 (wImm (wV .t 2)))))
    (wRet (wCall semTup (wCons (wCall semSrt (wCons (wV .t 1) wNil)) wNil)))))
def t_is_link : TDS := wRet (wAndV (wCall semIsi (wCons (wV .t 0) (wCons (wC (.ty "str")) wNil))) (wDIn false (wV .t 0) (wV .t 1)))
def t_is_manner : TDS := wRet (wAndV (wCall semIsi (wCons (wV .t 0) (wCons (wC (.ty "str")) wNil))) (w2 (semIn false) (wV .t 0) (wC (.tup manners))))
def t_read_answer : TDS := wSeq (wIfS (wOr (wNot (wT (wCall sp_is_row_of (wCons (wV .t 0) (wCons (wC (.int 1)) (wCons (wC (.int 2)) wNil)))))) (wNot (wT (wCall semIsi (wCons (w2 semIx (wV .t 0) (wC (.int 0))) (wCons (wC (.ty "str")) wNil)))))) (wRet (wC .non)) wNext)
    (wSeq (wIfS (wT (w2 semEq (wCall semLen (wCons (wV .t 0) wNil)) (wC (.int 1)))) (wRet (wIf (wT (w2 semEq (w2 semIx (wV .t 0) (wC (.int 0))) (wC (.str "self")))) (wTup (wCons (wC (.str "self")) wNil)) (wC .non))) wNext)
    (wSeq (wIfS (wAnd (wT (w2 semEq (w2 semIx (wV .t 0) (wC (.int 0))) (wC (.str "value")))) (wT (wCall sp_is_name (wCons (w2 semIx (wV .t 0) (wC (.int 1))) wNil)))) (wRet (wTup (wCons (wC (.str "value")) (wCons (wImm (w2 semIx (wV .t 0) (wC (.int 1)))) wNil)))) wNext)
    (wSeq (wIfS (wAnd (wT (w2 semEq (w2 semIx (wV .t 0) (wC (.int 0))) (wC (.str "link")))) (wT (wCall sp_is_link (wCons (w2 semIx (wV .t 0) (wC (.int 1))) (wCons (wV .t 1) wNil))))) (wRet (wTup (wCons (wC (.str "link")) (wCons (wImm (w2 semIx (wV .t 0) (wC (.int 1)))) wNil)))) wNext)
    (wRet (wC .non)))))
def t_read_own : TDS := wSeq (wIfS (wOr (wNot (wT (wCall semIsi (wCons (wV .t 0) (wCons (wC (.ty "dict")) wNil))))) (wT (w2 (semP fun i j => decide (j < i)) (wCall semLen (wCons (wV .t 0) wNil)) (wC (.int 5))))) (wRet (wC .non)) wNext)
    (wSeq (wSetD 2)
    (wSeq (wFor (wItK (wV .w 0)) (st1 .s 3)
    (wSeq (wIfS (wNot (wT (wCall sp_is_name (wCons (wV .t 3) wNil)))) (wRet (wC .non)) wNext)
    (wSeq (wSet .s 4 (wCall sp_read_answer (wCons (wDGet (wV .t 0) (wV .t 3)) (wCons (wV .t 1) wNil))))
    (wSeq (wIfS (wT (wIsN (wV .t 4))) (wRet (wC .non)) wNext)
    (wPut 2 (wV .t 3) (wV .s 4))))))
    (wRel 2 (wRet (wDc (wIt (wCall semSrt (wCons (wV .t 2) wNil))) (st1 .s 3) wYes (wV .t 3) (wDGet (wV .s 2) (wV .t 3)) [3])))))
def t_read_send : TDS := wSeq (wIfS (wOr (wNot (wT (wCall sp_is_link (wCons (w2 semIx (wV .t 0) (wC (.int 2))) (wCons (wV .t 2) wNil))))) (wNot (wT (wCall sp_is_word (wCons (w2 semIx (wV .t 0) (wC (.int 3))) wNil))))) (wRet (wC .non)) wNext)
    (wSeq (wIfS (wOr (wNot (wT (wCall sp_is_manner (wCons (w2 semIx (wV .t 0) (wC (.int 4))) wNil)))) (wNot (wT (wCall semIsi (wCons (w2 semIx (wV .t 0) (wC (.int 5))) (wCons (wC (.ty "bool")) wNil)))))) (wRet (wC .non)) wNext)
    (wRet (wTup (wCons (wC (.str "send")) (wCons (wV .s 1) (wCons (wImm (w2 semIx (wV .t 0) (wC (.int 2)))) (wCons (wImm (w2 semIx (wV .t 0) (wC (.int 3)))) (wCons (wImm (w2 semIx (wV .t 0) (wC (.int 4)))) (wCons (wImm (w2 semIx (wV .t 0) (wC (.int 5)))) wNil)))))))))
def t_read_rule : TDS := wSeq (wIfS (wOr (wNot (wT (wCall sp_is_row_of (wCons (wV .t 0) (wCons (wC (.int 2)) (wCons (wC (.int 6)) wNil)))))) (wNot (wT (wCall semIsi (wCons (w2 semIx (wV .t 0) (wC (.int 0))) (wCons (wC (.ty "str")) wNil)))))) (wRet (wC .non)) wNext)
    (wSeq (wSet .s 2 (wCall sp_read_names (wCons (w2 semIx (wV .t 0) (wC (.int 1))) wNil)))
    (wSeq (wIfS (wT (wIsN (wV .t 2))) (wRet (wC .non)) wNext)
    (wSeq (wIfS (wAnd (wT (w2 semEq (wCall semLen (wCons (wV .t 0) wNil)) (wC (.int 2)))) (wOr (wT (w2 semEq (w2 semIx (wV .t 0) (wC (.int 0))) (wC (.str "bar")))) (wT (w2 semEq (w2 semIx (wV .t 0) (wC (.int 0))) (wC (.str "self")))))) (wRet (wTup (wCons (wImm (w2 semIx (wV .t 0) (wC (.int 0)))) (wCons (wV .s 2) wNil)))) wNext)
    (wSeq (wIfS (wAnd (wT (w2 semEq (wCall semLen (wCons (wV .t 0) wNil)) (wC (.int 3)))) (wAnd (wT (w2 semEq (w2 semIx (wV .t 0) (wC (.int 0))) (wC (.str "tell")))) (wT (wCall sp_is_name (wCons (w2 semIx (wV .t 0) (wC (.int 2))) wNil))))) (wRet (wTup (wCons (wC (.str "tell")) (wCons (wV .s 2) (wCons (wImm (w2 semIx (wV .t 0) (wC (.int 2)))) wNil))))) wNext)
    (wSeq (wIfS (wAnd (wT (w2 semEq (wCall semLen (wCons (wV .t 0) wNil)) (wC (.int 4)))) (wAnd (wT (w2 semEq (w2 semIx (wV .t 0) (wC (.int 0))) (wC (.str "give")))) (wAnd (wT (wCall sp_is_link (wCons (w2 semIx (wV .t 0) (wC (.int 2))) (wCons (wV .t 1) wNil)))) (wT (wCall sp_is_manner (wCons (w2 semIx (wV .t 0) (wC (.int 3))) wNil)))))) (wRet (wTup (wCons (wC (.str "give")) (wCons (wV .s 2) (wCons (wImm (w2 semIx (wV .t 0) (wC (.int 2)))) (wCons (wImm (w2 semIx (wV .t 0) (wC (.int 3)))) wNil)))))) wNext)
    (wSeq (wIfS (wAnd (wT (w2 semEq (wCall semLen (wCons (wV .t 0) wNil)) (wC (.int 6)))) (wT (w2 semEq (w2 semIx (wV .t 0) (wC (.int 0))) (wC (.str "send"))))) (wRet (wCall sp_read_send (wCons (wV .t 0) (wCons (wV .s 2) (wCons (wV .t 1) wNil))))) wNext)
    (wRet (wC .non))))))))
def t_read_rules : TDS := wSeq (wIfS (wNot (wT (wCall sp_is_row_of (wCons (wV .t 0) (wCons (wC (.int 0)) (wCons (wC (.int 300)) wNil)))))) (wRet (wC .non)) wNext)
    (wSeq (wSetL 2 wNil)
    (wSeq (wFor (wIt (wV .w 0)) (st1 .w 3)
    (wSeq (wSet .s 4 (wCall sp_read_rule (wCons (wV .t 3) (wCons (wV .t 1) wNil))))
    (wSeq (wIfS (wT (wIsN (wV .t 4))) (wRet (wC .non)) wNext)
    (wApp 2 (wV .s 4)))))
    (wRel 2 (wRet (wV .s 2)))))
section
/-- the loop that reads texts -/
theorem strs_loop {spx : SpD} {ok : D → Bool} (hsp : ∀ d R, small d = true → R (.bl (ok d)) → spx [d] R) (hok : ∀ d, ok d = true → isStrD d = true) {d0 : D} {E : EndsD} : ∀ (ds : List D) (acc : List Str) (b : Bd), smL ds = true → ds.length + acc.length < 64 →
    (match readStrs ok ds acc with
      | some xs => ∀ b', E.nx [.wv d0, .ol (xs.map D.str), b']
      | none => E.rt .non) →
    wForL (st1 .w 2) (wSeq (wIfS (wOr (wNot (wT (wCall spx (wCons (wV .t 2) wNil)))) (wT (w2 (semIn false) (wV .t 2) (wV .t 1)))) (wRet (wC .non)) wNext) (wApp 1 (wImm (wV .t 2)))) E ds [.wv d0, .ol (acc.map D.str), b]
  | [], acc, b, _, _, h => h b
  | d :: ds, acc, b, hs, hz, h => by
    simp only [smL, Bool.and_eq_true] at hs
    refine ⟨_, rfl, ?_⟩
    show wSeq _ _ _ [.wv d0, .ol (acc.map D.str), .wv d]
    walk_at "rd"
    refine hsp d _ (sm_small hs.1) ?_
    walk_at "rd"
    by_cases hd : isStrD d = true
    · obtain ⟨x, rfl⟩ : ∃ x, d = .str x := by cases d <;> first | exact ⟨_, rfl⟩ | cases hd
      simp only [readStrs] at h
      by_cases h1 : ok (.str x) = true
      · rw [h1] at h ⊢
        walk_at "rd"
        refine l_In (xs := acc) rfl ?_
        walk_at "rd"
        by_cases h2 : x ∈ acc
        · rw [decide_eq_true h2] at h ⊢
          exact h
        · rw [decide_eq_false h2] at h ⊢
          refine ⟨acc.map D.str, rfl, rfl, ?_⟩
          refine ⟨by simp; exact Nat.lt_trans (by omega) (by decide : 64 < sizeLine), ?_⟩
          have e : (acc.map D.str ++ [D.str x]) = (acc ++ [x]).map D.str := by simp
          show wForL _ _ E ds [.wv d0, .ol (acc.map D.str ++ [D.str x]), .wv (.str x)]
          rw [e]
          exact strs_loop hsp hok ds (acc ++ [x]) _ hs.2 (by simp at hz ⊢; omega) h
      · have h1' : ok (.str x) = false := by simpa using h1
        rw [h1'] at h ⊢
        exact h
    · have h1 : ok d = false := Bool.eq_false_iff.mpr fun z => hd (hok _ z)
      have hn : readStrs ok (d :: ds) acc = none := by cases d <;> first | rfl | exact absurd rfl hd
      rw [hn] at h
      rw [h1]
      exact h
end
theorem wd_str : ∀ d, isWordD d = true → isStrD d = true := fun d h => by cases d <;> first | rfl | cases h
theorem nm_str : ∀ d, isNameD d = true → isStrD d = true := fun d h => by cases d <;> first | rfl | cases h
theorem readStrs_len {ok : D → Bool} : ∀ {ds : List D} {acc xs : List Str}, readStrs ok ds acc = some xs → xs.length = acc.length + ds.length
  | [], acc, xs, h => by cases h; rfl
  | .str x :: ds, acc, xs, h => by
    simp only [readStrs] at h
    split at h
    · have := readStrs_len h
      simp at this ⊢; omega
    · cases h
  | .non :: ds, acc, xs, h => by cases h
  | .bl _ :: ds, acc, xs, h => by cases h
  | .int _ :: ds, acc, xs, h => by cases h
  | .lst _ :: ds, acc, xs, h => by cases h
  | .tup _ :: ds, acc, xs, h => by cases h
  | .dct _ :: ds, acc, xs, h => by cases h
  | .ins _ _ :: ds, acc, xs, h => by cases h
  | .st :: ds, acc, xs, h => by cases h
  | .ty _ :: ds, acc, xs, h => by cases h
  | .adr _ :: ds, acc, xs, h => by cases h
theorem list_end {xs : List Str} {d0 : D} {b' : Bd} {R : DK} (hl : xs.length < 64) (h : R (.tup ((srt xs).map D.str))) : wRet (wCall semTup (wCons (wCall semSrt (wCons (wV .t 1) wNil)) wNil)) { nx := fun _ => R .non, rt := R } [.wv d0, .ol (xs.map D.str), b'] := by
  walk_at "rd"
  exact l_srt hl (l_tup rfl h)
theorem rd_read_choices (ds : List D) (R : DK) (hl : ds.length = 1) (h : sp_read_choices ds R) : t_read_choices { nx := fun _ => R .non, rt := R } (ini [.w] ds 3) := by
  obtain ⟨d, rfl, hs, hR⟩ := h
  show t_read_choices _ [Bd.wv d, .non, .non]
  unfold t_read_choices
  walk_at "rd"
  refine p_is_row_of.mpr ⟨sm_small hs, ?_⟩
  unfold readChoices readList at hR
  by_cases h1 : isRowD d 1 4 = true
  · rw [h1] at hR ⊢
    rw [if_pos rfl] at hR
    walk_at "rd"
    cases e : itemsOf d with
    | none => unfold isRowD at h1; rw [e] at h1; cases h1
    | some es =>
      rw [e] at hR
      have hz : es.length ≤ 4 := by
        unfold isRowD at h1
        rw [e] at h1
        simp only [Bool.and_eq_true, decide_eq_true_eq] at h1
        omega
      refine ⟨es, e, strs_loop (fun d R a b => p_is_word.mpr ⟨a, b⟩) wd_str es [] _ (sm_items hs e) (by simp; omega) ?_⟩
      cases e2 : readStrs isWordD es [] with
      | none => simp only [e2] at hR; exact hR
      | some xs =>
        simp only [e2] at hR
        have := readStrs_len e2
        exact fun b' => list_end (by simp at this; omega) hR
  · have h1' : isRowD d 1 4 = false := by simpa using h1
    rw [h1'] at hR ⊢
    rw [if_neg (by simp)] at hR
    walk_at "rd"
    exact hR
theorem rd_read_names (ds : List D) (R : DK) (hl : ds.length = 1) (h : sp_read_names ds R) : t_read_names { nx := fun _ => R .non, rt := R } (ini [.w] ds 3) := by
  obtain ⟨d, rfl, hs, hR⟩ := h
  show t_read_names _ [Bd.wv d, .non, .non]
  unfold t_read_names
  walk_at "rd"
  refine p_is_row_of.mpr ⟨sm_small hs, ?_⟩
  unfold readNames readList at hR
  by_cases h1 : isRowD d 0 4 = true
  · rw [h1] at hR ⊢
    rw [if_pos rfl] at hR
    walk_at "rd"
    cases e : itemsOf d with
    | none => unfold isRowD at h1; rw [e] at h1; cases h1
    | some es =>
      rw [e] at hR
      have hz : es.length ≤ 4 := by
        unfold isRowD at h1
        rw [e] at h1
        simp only [Bool.and_eq_true, decide_eq_true_eq] at h1
        omega
      refine ⟨es, e, strs_loop (fun d R a b => p_is_name.mpr ⟨a, b⟩) nm_str es [] _ (sm_items hs e) (by simp; omega) ?_⟩
      cases e2 : readStrs isNameD es [] with
      | none => simp only [e2] at hR; exact hR
      | some xs =>
        simp only [e2] at hR
        have := readStrs_len e2
        exact fun b' => list_end (by simp at this; omega) hR
  · have h1' : isRowD d 0 4 = false := by simpa using h1
    rw [h1'] at hR ⊢
    rw [if_neg (by simp)] at hR
    walk_at "rd"
    exact hR
theorem rd_is_link (ds : List D) (R : DK) (hl : ds.length = 2) (h : sp_is_link ds R) : t_is_link { nx := fun _ => R .non, rt := R } (ini [.w, .w] ds 2) := by
  obtain ⟨d, kvs, rfl, hs, hR⟩ := h
  show t_is_link _ [Bd.wv d, .wv (.dct kvs)]
  unfold t_is_link
  walk_at "rd"
  rw [isi_str (small_plain hs)]
  walk_at "rd"
  cases d with
  | str x => exact ⟨kvs, .inr x, rfl, rfl, hR⟩
  | _ => exact hR
theorem rd_is_manner (ds : List D) (R : DK) (hl : ds.length = 1) (h : sp_is_manner ds R) : t_is_manner { nx := fun _ => R .non, rt := R } (ini [.w] ds 1) := by
  obtain ⟨d, rfl, hs, hR⟩ := h
  show t_is_manner _ [Bd.wv d]
  unfold t_is_manner
  walk_at "rd"
  rw [isi_str (small_plain hs)]
  walk_at "rd"
  cases d with
  | str x =>
    refine l_In (xs := ["try", "last"]) rfl ?_
    have e : isMannerD (.str x) = decide (x ∈ (["try", "last"] : List Str)) := by
      show (decide (x = "try") || decide (x = "last")) = _
      by_cases h1 : x = "try" <;> by_cases h2 : x = "last" <;> simp [h1, h2]
    rw [e] at hR
    exact hR
  | _ => exact hR
theorem at0 {α : Type} {a : α} {r : List α} : atI (a :: r) 0 = some a := by simp [atI, ixN]
theorem at1 {α : Type} {a b : α} {r : List α} : atI (a :: b :: r) 1 = some b := by
  have h : (1 : Int) < ((a :: b :: r).length : Nat) := by simp; omega
  unfold atI ixN; rw [if_pos (by decide), if_pos h]; rfl
theorem atN {α : Type} {xs : List α} {n : Nat} {a : α} (h : xs[n]? = some a) : atI xs (n : Nat) = some a := by
  have hl : n < xs.length := (List.getElem?_eq_some_iff.mp h).1
  unfold atI ixN
  have h1 : (0 : Int) ≤ (n : Int) := by omega
  have h2 : (n : Int) < (xs.length : Int) := by omega
  rw [if_pos h1, if_pos h2]
  simpa using h
theorem len_items {d : D} {ds : List D} (e : itemsOf d = some ds) : lenD d = some ds.length := by cases d <;> first | (cases e; rfl) | cases e
theorem imm_scalar {d : D} (h : isStrD d = true) : imm d = true := by cases d <;> first | rfl | cases h
theorem isLink_str {d : D} {ls : List (Key × D)} (h : isLinkD d ls = true) : isStrD d = true := by cases d <;> first | rfl | cases h
theorem isMan_str {d : D} (h : isMannerD d = true) : isStrD d = true := by cases d <;> first | rfl | cases h
theorem ix_iff {d : D} {ds : List D} {i : Int} {x : D} (e : itemsOf d = some ds) (a : atI ds i = some x) (R : DK) : semIx d (.int i) R ↔ R x := by
  constructor
  · rintro ⟨j, ej, h⟩
    cases ej
    rcases h with ⟨ds', x', h1, h2, h3⟩ | ⟨z, c, rfl, _⟩
    · rw [e] at h1; cases h1; rw [a] at h2; cases h2; exact h3
    · cases e
  · exact l_Ix e a
theorem len_iff {d : D} {n : Nat} (e : lenD d = some n) (R : DK) : semLen [d] R ↔ R (.int n) := by
  rw [l_len, e]
  exact x_some
theorem isiS_iff {d : D} (h : small d = true) (R : DK) : semIsi [d, .ty "str"] R ↔ R (.bl (isStrD d)) := by
  rw [l_isi, isi_str (small_plain h)]; exact x_some
theorem row_no {d : D} {a b : Int} {es : List D} (e : itemsOf d = some es) (h : ¬ (a ≤ es.length ∧ (es.length : Int) ≤ b)) : isRowD d a b = false := by
  unfold isRowD; rw [e]
  simp only [Bool.and_eq_false_iff, decide_eq_false_iff_not]
  omega
theorem row_yes {d : D} {a b : Int} {es : List D} (e : itemsOf d = some es) (h : a ≤ es.length ∧ (es.length : Int) ≤ b) : isRowD d a b = true := by
  unfold isRowD; rw [e]
  simp only [Bool.and_eq_true, decide_eq_true_eq]
  omega
theorem ite_and {p q : Prop} [Decidable p] [Decidable q] {A B : Prop} : (if p ∧ q then A else B) ↔ (if p then (if q then A else B) else B) := by
  by_cases hp : p <;> by_cases hq : q <;> simp [hp, hq]
theorem R_ite {p : Prop} [Decidable p] {R : DK} {a b : D} : R (if p then a else b) ↔ (if p then R a else R b) := by
  by_cases hp : p <;> simp [hp]
theorem dec_ite {p : Prop} [Decidable p] {A B : Prop} : (if decide p = true then A else B) ↔ (if p then A else B) := by
  by_cases hp : p <;> simp [hp]
theorem not_ite {b : Bool} {A B : Prop} : (if (!b) = true then A else B) ↔ (if b = true then B else A) := by
  cases b <;> simp
theorem imm_if {p : Prop} [Decidable p] {A B C : Prop} (h : p → (A ↔ B)) : (if p then A else C) ↔ (if p then B else C) := by
  by_cases hp : p
  · simp only [hp, if_true]; exact h hp
  · simp only [hp, if_false]
theorem row_iff {d : D} {a b : Int} (h : sm d = true) (R : DK) : sp_is_row_of [d, .int a, .int b] R ↔ R (.bl (isRowD d a b)) := by
  rw [p_is_row_of]; simp only [sm_small h, true_and]
theorem name_iff {d : D} (h : sm d = true) (R : DK) : sp_is_name [d] R ↔ R (.bl (isNameD d)) := by
  rw [p_is_name]; simp only [sm_small h, true_and]
theorem word_iff {d : D} (h : sm d = true) (R : DK) : sp_is_word [d] R ↔ R (.bl (isWordD d)) := by
  rw [p_is_word]; simp only [sm_small h, true_and]
theorem link_iff {d : D} {ls : List (Key × D)} (h : sm d = true) (R : DK) : sp_is_link [d, .dct ls] R ↔ R (.bl (isLinkD d ls)) := by
  rw [p_is_link]; simp only [sm_small h, true_and]
theorem manner_iff {d : D} (h : sm d = true) (R : DK) : sp_is_manner [d] R ↔ R (.bl (isMannerD d)) := by
  rw [p_is_manner]; simp only [sm_small h, true_and]
theorem isiB_iff {d : D} (h : sm d = true) (R : DK) : semIsi [d, .ty "bool"] R ↔ R (.bl (isBlD d)) := by
  rw [l_isi, isi_bool (small_plain (sm_small h))]; exact x_some
theorem isiSm_iff {d : D} (h : sm d = true) (R : DK) : semIsi [d, .ty "str"] R ↔ R (.bl (isStrD d)) := isiS_iff (sm_small h) R
theorem rd_read_answer (ds : List D) (R : DK) (hl : ds.length = 2) (h : sp_read_answer ds R) : t_read_answer { nx := fun _ => R .non, rt := R } (ini [.w, .w] ds 2) := by
  obtain ⟨d, ls, rfl, hs, hR⟩ := h
  show t_read_answer _ [Bd.wv d, .wv (.dct ls)]
  unfold t_read_answer
  walk_at "rd0"
  simp only [row_iff hs]
  walk_at "rd0"
  unfold readAnswer at hR
  cases e : itemsOf d with
  | none =>
    have h1 : isRowD d 1 2 = false := by unfold isRowD; rw [e]
    rw [e] at hR
    rw [h1]
    exact hR
  | some es =>
    rw [e] at hR
    have hsm := sm_items hs e
    have hlen := len_iff (len_items e)
    match es, e, hR, hsm, hlen with
    | [], e, hR, _, _ =>
      rw [row_no e (by simp)]
      exact hR
    | x :: y :: z :: r, e, hR, _, _ =>
      rw [row_no e (by simp; omega)]
      cases x <;> exact hR
    | [x], e, hR, hsm, hlen =>
      simp only [smL, Bool.and_eq_true] at hsm
      have i0 := ix_iff (i := 0) e at0
      simp only [row_yes (a := 1) (b := 2) e (by simp), i0, isiSm_iff hsm.1, hlen, if_true]
      walk_at "rd0"
      cases x <;> simp only [isStrD, if_true, if_false, Bool.false_eq_true, Bool.not_true, Bool.not_false] <;> first | exact hR | skip
      walk_at "rd0"
      simp only [List.length_cons, List.length_nil, dec_ite]
      simp only [R_ite] at hR
      simpa using hR
    | [x, y], e, hR, hsm, hlen =>
      simp only [smL, Bool.and_eq_true] at hsm
      have i0 := ix_iff (i := 0) e at0
      have i1 := ix_iff (i := 1) e at1
      simp only [row_yes (a := 1) (b := 2) e (by simp), i0, i1, isiSm_iff hsm.1, hlen, name_iff hsm.2.1, link_iff hsm.2.1, wImm, if_true]
      walk_at "rd0"
      cases x <;> simp only [isStrD, if_true, if_false, Bool.false_eq_true, Bool.not_true, Bool.not_false] <;> first | exact hR | skip
      walk_at "rd0"
      simp only [List.length_cons, List.length_nil, dec_ite]
      simp only [R_ite, ite_and] at hR
      have c : ¬ (((0 + 1 + 1 : Nat) : Int) = 1) := by decide
      simp only [c, if_false]
      have a1 : isNameD y = true → imm y = true := fun z => imm_scalar (nm_str _ z)
      have a2 : isLinkD y ls = true → imm y = true := fun z => imm_scalar (isLink_str z)
      simp only [i1]
      by_cases n : isNameD y = true <;> by_cases l : isLinkD y ls = true <;> simp_all

/-! dicts -/
def enc (ps : List (Str × D)) : List (Key × D) := ps.map fun p => (Sum.inr p.1, p.2)
theorem valD_enc (x : Str) : ∀ ps : List (Str × D), valD (enc ps) (.inr x) = ps.lookup x
  | [] => rfl
  | (y, d) :: ps => by
    have ih := valD_enc x ps
    unfold valD enc at ih ⊢
    rw [List.map_cons, List.find?_cons]
    by_cases h : y = x
    · subst h; simp [List.lookup]
    · have h' : ¬ ((Sum.inr y : Key) = .inr x) := fun z => h (by cases z; rfl)
      have h2 : (x == y) = false := by simpa using fun z => h z.symm
      simp only [decide_eq_false h', List.lookup, h2]
      exact ih
theorem hasD_no {kvs : List (Key × D)} {k : Key} (h : k ∉ kvs.map (·.1)) : hasD kvs k = false := by
  unfold hasD
  rw [List.any_eq_false]
  intro kv m z
  exact h (List.mem_map.mpr ⟨kv, m, by simpa using z⟩)
theorem putD_new {kvs : List (Key × D)} {k : Key} {d : D} (h : k ∉ kvs.map (·.1)) : putD kvs k d = kvs ++ [(k, d)] := by
  unfold putD; rw [hasD_no h]; rfl
theorem dc_keys {stt : Ev → D → Option Ev} {wk we : TDE} {ρ : Ev} {R : DK} {g : Str → D} : ∀ (xs : List Str) (acc : List (Key × D)), (∀ x ∈ xs, ∃ ρ', stt ρ (.str x) = some ρ' ∧ (∀ R' : DK, R' (.str x) → wk ρ' R') ∧ ∀ R' : DK, R' (g x) → we ρ' R') →
    (acc.map (fun kv : Key × D => kv.1) ++ xs.map (Sum.inr : Str → Key)).Nodup → acc.length + xs.length ≤ sizeLine → R (.dct (acc ++ xs.map fun x => (Sum.inr x, g x))) → wDcL stt wYes wk we ρ R (xs.map D.str) acc
  | [], acc, _, _, _, h => by simpa [wDcL] using h
  | x :: xs, acc, hx, hn, hz, h => by
    obtain ⟨ρ', e, k1, k2⟩ := hx x List.mem_cons_self
    refine ⟨ρ', e, ?_⟩
    simp only [wYes, if_true]
    have hne : (Sum.inr x : Key) ∉ acc.map (·.1) := fun z => by
      rw [List.nodup_append] at hn
      exact hn.2.2 _ z _ (List.mem_cons_self) rfl
    refine k1 _ (k2 _ ⟨.inr x, rfl, by simp at hz; omega, ?_⟩)
    rw [putD_new hne]
    refine dc_keys xs _ (fun y m => hx y (List.mem_cons_of_mem _ m)) ?_ (by simp at hz ⊢; omega) (by simpa using h)
    simpa using hn
theorem kv_loop {stt : Ev → D → Option Ev} {wb : TDS} {E : EndsD} {S : List (Key × D) → Bd → Bd → Ev} {f : D → D} {kvs : List (Key × D)}
    (hb : ∀ acc b c E' k d, (k, d) ∈ kvs → acc.length ≤ kvs.length →
      (match k with
        | .inr x => if isNm x = true then (if isNon (f d) = true then E'.rt .non else ∀ b c, E'.nx (S (putD acc k (f d)) b c)) else E'.rt .non
        | .inl _ => E'.rt .non) →
      ∃ ρ', stt (S acc b c) (keyToD k) = some ρ' ∧ wb E' ρ') :
    ∀ (rest : List (Key × D)) (acc : List (Str × D)) b c, (∀ p ∈ rest, p ∈ kvs) → acc.length + rest.length ≤ kvs.length → ((enc acc).map (·.1) ++ rest.map (·.1)).Nodup →
    (match readKV f rest acc with
      | some ps => ∀ b c, E.nx (S (enc ps) b c)
      | none => E.rt .non) → wForL stt wb E (keysD rest) (S (enc acc) b c)
  | [], acc, b, c, _, _, _, h => h b c
  | (k, d) :: rest, acc, b, c, hs, hz, hn, h => by
    obtain ⟨ρ', e, hw⟩ := hb (enc acc) b c { E with nx := wForL stt wb E (keysD rest), ct := wForL stt wb E (keysD rest), bk := E.nx } k d (hs _ List.mem_cons_self) (by simp [enc] at hz ⊢; omega) (by
      cases k with
      | inl i => exact h
      | inr x =>
        simp only [readKV] at h
        by_cases h1 : isNm x = true
        · simp only [h1, if_true] at h ⊢
          by_cases h2 : isNon (f d) = true
          · simp only [h2, if_true] at h ⊢
            exact h
          · simp only [h2, if_false, Bool.false_eq_true] at h ⊢
            intro b c
            have hne : (Sum.inr x : Key) ∉ (enc acc).map (·.1) := fun z => by
              rw [List.nodup_append] at hn
              exact hn.2.2 _ z _ (List.mem_cons_self) rfl
            rw [putD_new hne]
            have e : enc acc ++ [(Sum.inr x, f d)] = enc (acc ++ [(x, f d)]) := by simp [enc]
            rw [e]
            refine kv_loop hb rest _ b c (fun p m => hs p (List.mem_cons_of_mem _ m)) (by simp at hz ⊢; omega) ?_ h
            simpa [enc] using hn
        · simp only [h1, if_false, Bool.false_eq_true] at h ⊢
          exact h)
    exact ⟨ρ', e, hw⟩
theorem readKV_keys {f : D → D} : ∀ {kvs : List (Key × D)} {acc ps : List (Str × D)}, readKV f kvs acc = some ps → (enc ps).map (·.1) = (enc acc).map (·.1) ++ kvs.map (·.1)
  | [], acc, ps, h => by cases h; simp
  | (.inl _, _) :: r, acc, ps, h => by cases h
  | (.inr x, d) :: r, acc, ps, h => by
    simp only [readKV] at h
    split at h
    · split at h
      · cases h
      · rw [readKV_keys h]; simp [enc]
    · cases h
theorem inr_nodup {xs : List Str} (h : (xs.map (Sum.inr : Str → Key)).Nodup) : xs.Nodup := by
  unfold List.Nodup at *
  rw [List.pairwise_map] at h
  exact h.imp fun z e => z (by rw [e])
theorem nodup_inr {xs : List Str} (h : xs.Nodup) : (xs.map (Sum.inr : Str → Key)).Nodup := by
  unfold List.Nodup at *
  rw [List.pairwise_map]
  exact h.imp fun z e => z (by cases e; rfl)
theorem lookup_some {ps : List (Str × D)} {x : Str} (h : x ∈ ps.map (·.1)) : ∃ d, ps.lookup x = some d := by
  induction ps with
  | nil => cases h
  | cons p ps ih =>
    by_cases e : x = p.1
    · exact ⟨p.2, by simp [List.lookup, e]⟩
    · rcases List.mem_cons.mp h with z | z
      · exact absurd z e
      · obtain ⟨d, hd⟩ := ih z
        exact ⟨d, by
          have : (x == p.1) = false := by simpa using e
          simp only [List.lookup, this, hd]⟩
/-- the dict in the order of its keys, as the code makes it -/
theorem dc_byKey {i j : Nat} {ρ : Ev} {R : DK} {ps : List (Str × D)} (hi : ρ[i]? = some (.val (.dct (enc ps)))) (hij : i ≠ j) (hj : j < ρ.length) (hn : ((enc ps).map (·.1)).Nodup) (hz : ps.length < 64) (h : R (.dct (byKey ps))) :
    wDc (wIt (wCall semSrt (wCons (wV .t i) wNil))) (st1 .s j) wYes (wV .t j) (wDGet (wV .s i) (wV .t j)) [j] ρ R := by
  have ek : (enc ps).map (·.1) = (ps.map (·.1)).map Sum.inr := by simp [enc]
  unfold wDc wIt wCall wCons wNil
  dsimp only
  rw [v_val hi]
  refine l_srtD ek (by simpa using hz) ⟨_, rfl, ?_⟩
  have nd : (srt (ps.map (·.1))).Nodup := (srt_perm _).nodup_iff.mpr (inr_nodup (ek ▸ hn))
  refine dc_keys (g := fun x => (ps.lookup x).getD .non) _ [] (fun x m => ⟨(wipeB ρ [j]).set j (.val (.str x)), rfl, fun R' hR => ?_, fun R' hR => ?_⟩) (by simpa using nodup_inr nd) ?_ h
  · rw [v_val (d := .str x) (by simp [wipeB, hj])]; exact hR
  · unfold wDGet
    rw [v_val (d := .dct (enc ps)) (by simp [wipeB, List.getElem?_set_ne (Ne.symm hij), hi])]
    rw [v_val (d := .str x) (by simp [wipeB, hj])]
    obtain ⟨d, hd⟩ := lookup_some ((srt_perm _).mem_iff.mp m)
    exact ⟨_, .inr x, d, rfl, rfl, by rw [valD_enc, hd], by rw [hd] at hR; exact hR⟩
  · rw [srt_len]; simp; exact Nat.le_of_lt (Nat.lt_trans hz (by decide))
theorem isiD_iff {d : D} (h : sm d = true) (R : DK) : semIsi [d, .ty "dict"] R ↔ R (.bl (isDctD d)) := by
  rw [l_isi, isi_dict (small_plain (sm_small h))]; exact x_some
theorem choices_iff {d : D} (h : sm d = true) (R : DK) : sp_read_choices [d] R ↔ R (readChoices d) := by
  rw [p_read_choices]; simp only [h, true_and]
theorem answer_iff {d : D} {ls : List (Key × D)} (h : sm d = true) (R : DK) : sp_read_answer [d, .dct ls] R ↔ R (readAnswer d ls) := by
  rw [p_read_answer]; simp only [h, true_and]
theorem valD_mem : ∀ {kvs : List (Key × D)} {k : Key} {d : D}, (kvs.map (·.1)).Nodup → (k, d) ∈ kvs → valD kvs k = some d
  | (k0, d0) :: kvs, k, d, hn, hm => by
    have hn' := List.nodup_cons.mp hn
    unfold valD
    rw [List.find?_cons]
    rcases List.mem_cons.mp hm with e | m
    · cases e; simp
    · have hne : ¬ (k0 = k) := fun e => hn'.1 (e ▸ List.mem_map.mpr ⟨(k, d), m, rfl⟩)
      simp only [decide_eq_false hne]
      exact valD_mem hn'.2 m
theorem rd_read_links (ds : List D) (R : DK) (hl : ds.length = 1) (h : sp_read_links ds R) : t_read_links { nx := fun _ => R .non, rt := R } (ini [.w] ds 4) := by
  obtain ⟨d, rfl, hs, hn, hR⟩ := h
  show t_read_links _ [Bd.wv d, .non, .non, .non]
  unfold t_read_links
  walk_at "rd0"
  simp only [isiD_iff hs]
  walk_at "rd0"
  cases d with
  | dct kvs =>
    simp only [isDctD, if_true, if_false, Bool.false_eq_true, Bool.not_true, Bool.not_false]
    simp only [len_iff (n := kvs.length) (d := .dct kvs) rfl]
    walk_at "rd0"
    have el : ((2 : Int) < (kvs.length : Nat)) ↔ ¬ (kvs.length ≤ 2) := by omega
    simp only [dec_ite, el]
    simp only [readLinks, readDict] at hR
    by_cases hz : kvs.length ≤ 2
    · simp only [hz, if_true, not_true, if_false] at hR ⊢
      simp only [wFor, wItK]
      walk_at "rd0"
      refine ⟨kvs, rfl, ?_⟩
      have hnd : (kvs.map (·.1)).Nodup := by simpa [nodupD] using hn
      refine kv_loop (S := fun acc b c => [Bd.wv (.dct kvs), .od acc, b, c]) (f := readChoices) (kvs := kvs) ?_ kvs [] .non .non (fun _ m => m) (by simp) (by simpa [enc] using hnd) ?_
      · intro acc b c E' k d hm ha hh
        have hsm : smK kvs = true := hs
        have hd := smK_mem hsm hm
        refine ⟨_, rfl, ?_⟩
        show wSeq _ _ _ [Bd.wv (.dct kvs), .od acc, .val (keyToD k), c]
        walk_at "rd0"
        simp only [name_iff hd.2]
        walk_at "rd0"
        cases k with
        | inl i => exact hh
        | inr x =>
          have ev : valD kvs (.inr x) = some d := valD_mem hnd hm
          have en : isNameD (keyToD (.inr x)) = isNm x := rfl
          rw [en]
          dsimp only at hh
          by_cases h1 : isNm x = true
          · simp only [h1, if_true, Bool.not_true, if_false, Bool.false_eq_true] at hh ⊢
            simp only [wDGet]
            walk_at "rd0"
            refine ⟨kvs, .inr x, d, rfl, rfl, ev, ?_⟩
            rw [choices_iff hd.1]
            by_cases h2 : isNon (readChoices d) = true
            · simp only [h2, if_true] at hh ⊢
              exact hh
            · simp only [h2, if_false, Bool.false_eq_true] at hh ⊢
              exact ⟨acc, rfl, .inr x, rfl, Nat.lt_of_le_of_lt ha (Nat.lt_of_le_of_lt hz (by decide)), hh _ _⟩
          · simp only [h1, if_false, Bool.false_eq_true, Bool.not_false, if_true] at hh ⊢
            exact hh
      · cases e : readKV readChoices kvs [] with
        | none => rw [e] at hR; exact hR
        | some ps =>
          rw [e] at hR
          intro b c
          have kk := readKV_keys e
          have ln : ps.length = kvs.length := by simpa [enc] using congrArg List.length kk
          refine ⟨_, rfl, ?_⟩
          exact dc_byKey (i := 1) (j := 2) rfl (by decide) (by simp) (by rw [kk]; simpa [enc] using hnd) (by omega) hR
    · simp only [hz, if_false, not_false_iff, if_true] at hR ⊢
      exact hR
  | _ => exact hR
theorem rd_read_own (ds : List D) (R : DK) (hl : ds.length = 2) (h : sp_read_own ds R) : t_read_own { nx := fun _ => R .non, rt := R } (ini [.w, .w] ds 5) := by
  obtain ⟨d, ls, rfl, hs, hn, hR⟩ := h
  show t_read_own _ [Bd.wv d, .wv (.dct ls), .non, .non, .non]
  unfold t_read_own
  walk_at "rd0"
  simp only [isiD_iff hs]
  walk_at "rd0"
  cases d with
  | dct kvs =>
    simp only [isDctD, if_true, if_false, Bool.false_eq_true, Bool.not_true, Bool.not_false]
    simp only [len_iff (n := kvs.length) (d := .dct kvs) rfl]
    walk_at "rd0"
    have el : ((5 : Int) < (kvs.length : Nat)) ↔ ¬ (kvs.length ≤ 5) := by omega
    simp only [dec_ite, el]
    simp only [readOwn, readDict] at hR
    by_cases hz : kvs.length ≤ 5
    · simp only [hz, if_true, not_true, if_false] at hR ⊢
      simp only [wFor, wItK]
      walk_at "rd0"
      refine ⟨kvs, rfl, ?_⟩
      have hnd : (kvs.map (·.1)).Nodup := by simpa [nodupD] using hn
      refine kv_loop (S := fun acc b c => [Bd.wv (.dct kvs), .wv (.dct ls), .od acc, b, c]) (f := fun x => readAnswer x ls) (kvs := kvs) ?_ kvs [] .non .non (fun _ m => m) (by simp) (by simpa [enc] using hnd) ?_
      · intro acc b c E' k d hm ha hh
        have hsm : smK kvs = true := hs
        have hd := smK_mem hsm hm
        refine ⟨_, rfl, ?_⟩
        show wSeq _ _ _ [Bd.wv (.dct kvs), .wv (.dct ls), .od acc, .val (keyToD k), c]
        walk_at "rd0"
        simp only [name_iff hd.2]
        walk_at "rd0"
        cases k with
        | inl i => exact hh
        | inr x =>
          have ev : valD kvs (.inr x) = some d := valD_mem hnd hm
          have en : isNameD (keyToD (.inr x)) = isNm x := rfl
          rw [en]
          dsimp only at hh
          by_cases h1 : isNm x = true
          · simp only [h1, if_true, Bool.not_true, if_false, Bool.false_eq_true] at hh ⊢
            simp only [wDGet]
            walk_at "rd0"
            refine ⟨kvs, .inr x, d, rfl, rfl, ev, ?_⟩
            rw [answer_iff hd.1]
            by_cases h2 : isNon (readAnswer d ls) = true
            · simp only [h2, if_true] at hh ⊢
              exact hh
            · simp only [h2, if_false, Bool.false_eq_true] at hh ⊢
              exact ⟨acc, rfl, .inr x, rfl, Nat.lt_of_le_of_lt ha (Nat.lt_of_le_of_lt hz (by decide)), hh _ _⟩
          · simp only [h1, if_false, Bool.false_eq_true, Bool.not_false, if_true] at hh ⊢
            exact hh
      · cases e : readKV (fun x => readAnswer x ls) kvs [] with
        | none => rw [e] at hR; exact hR
        | some ps =>
          rw [e] at hR
          intro b c
          have kk := readKV_keys e
          have ln : ps.length = kvs.length := by simpa [enc] using congrArg List.length kk
          refine ⟨_, rfl, ?_⟩
          exact dc_byKey (i := 2) (j := 3) rfl (by decide) (by simp) (by rw [kk]; simpa [enc] using hnd) (by omega) hR
    · simp only [hz, if_false, not_false_iff, if_true] at hR ⊢
      exact hR
  | _ => exact hR

/-! rules -/
theorem names_iff {d : D} (h : sm d = true) (R : DK) : sp_read_names [d] R ↔ R (readNames d) := by
  rw [p_read_names]; simp only [h, true_and]
theorem wd_imm {d : D} (h : isWordD d = true) : imm d = true := imm_scalar (wd_str _ h)
theorem nm_imm {d : D} (h : isNameD d = true) : imm d = true := imm_scalar (nm_str _ h)
theorem lk_imm {d : D} {ls : List (Key × D)} (h : isLinkD d ls = true) : imm d = true := imm_scalar (isLink_str h)
theorem mn_imm {d : D} (h : isMannerD d = true) : imm d = true := imm_scalar (isMan_str h)
theorem bl_imm {d : D} (h : isBlD d = true) : imm d = true := by cases d <;> first | rfl | cases h
theorem rd_read_send (ds : List D) (R : DK) (hl : ds.length = 3) (h : sp_read_send ds R) : t_read_send { nx := fun _ => R .non, rt := R } (ini [.w, .s, .w] ds 3) := by
  obtain ⟨d, names, ls, v0, v1, v2, v3, v4, v5, rfl, e, hs, hR⟩ := h
  show t_read_send _ [Bd.wv d, .val names, .wv (.dct ls)]
  unfold t_read_send
  have hsm := sm_items hs e
  simp only [smL, Bool.and_eq_true] at hsm
  obtain ⟨s0, s1, s2, s3, s4, s5, _⟩ := hsm
  have i2 := ix_iff (i := 2) e (atN (n := 2) rfl)
  have i3 := ix_iff (i := 3) e (atN (n := 3) rfl)
  have i4 := ix_iff (i := 4) e (atN (n := 4) rfl)
  have i5 := ix_iff (i := 5) e (atN (n := 5) rfl)
  walk_at "rd0"
  simp only [i2, i3, i4, i5, link_iff s2, word_iff s3, manner_iff s4, isiB_iff s5, wImm]
  walk_at "rd0"
  simp only [readSend] at hR
  have a1 : isLinkD v2 ls = true → imm v2 = true := lk_imm
  have a2 : isWordD v3 = true → imm v3 = true := wd_imm
  have a3 : isMannerD v4 = true → imm v4 = true := mn_imm
  have a4 : isBlD v5 = true → imm v5 = true := bl_imm
  by_cases n1 : isLinkD v2 ls = true <;> by_cases n2 : isWordD v3 = true <;> by_cases n3 : isMannerD v4 = true <;> by_cases n4 : isBlD v5 = true <;> simp_all
theorem p_read_send {d names v0 v1 v2 v3 v4 v5 : D} {ls : List (Key × D)} (e : itemsOf d = some [v0, v1, v2, v3, v4, v5]) (h : sm d = true) (R : DK) : sp_read_send [d, names, .dct ls] R ↔ R (readSend v2 v3 v4 v5 names ls) := by
  constructor
  · rintro ⟨d', n', l', u0, u1, u2, u3, u4, u5, e1, e2, _, hR⟩
    cases e1
    rw [e] at e2
    cases e2
    exact hR
  · intro hR; exact ⟨d, names, ls, v0, v1, v2, v3, v4, v5, rfl, e, h, hR⟩
theorem rd_read_rule (ds : List D) (R : DK) (hl : ds.length = 2) (h : sp_read_rule ds R) : t_read_rule { nx := fun _ => R .non, rt := R } (ini [.w, .w] ds 3) := by
  obtain ⟨d, ls, rfl, hs, hR⟩ := h
  show t_read_rule _ [Bd.wv d, .wv (.dct ls), .non]
  unfold t_read_rule
  walk_at "rd0"
  simp only [row_iff hs]
  walk_at "rd0"
  unfold readRule at hR
  cases e : itemsOf d with
  | none =>
    have h1 : isRowD d 2 6 = false := by unfold isRowD; rw [e]
    rw [e] at hR
    rw [h1]
    exact hR
  | some es =>
    rw [e] at hR
    have hsm := sm_items hs e
    have hlen := len_iff (len_items e)
    by_cases hr : isRowD d 2 6 = true
    · match es, e, hR, hsm, hlen with
      | [], e, _, _, _ => rw [row_no e (by simp)] at hr; cases hr
      | [x], e, _, _, _ => rw [row_no e (by simp)] at hr; cases hr
      | v0 :: v1 :: r, e, hR, hsm, hlen =>
        simp only [smL, Bool.and_eq_true] at hsm
        obtain ⟨s0, s1, sr⟩ := hsm
        have i0 := ix_iff (i := 0) e at0
        have i1 := ix_iff (i := 1) e at1
        simp only [hr, i0, i1, isiSm_iff s0, hlen, names_iff s1, if_true, Bool.not_true, if_false, Bool.false_eq_true]
        walk_at "rd0"
        cases v0 with
        | str x =>
          simp only [isStrD, if_true, if_false, Bool.false_eq_true, Bool.not_true, Bool.not_false]
          dsimp only at hR
          by_cases hn : isNon (readNames v1) = true
          · simp only [hn, if_true] at hR ⊢
            exact hR
          · simp only [hn, if_false, Bool.false_eq_true] at hR ⊢
            simp only [wImm]
            walk_at "rd0"
            simp only [List.length_cons, dec_ite]
            match r, e, hR, sr, i0 with
            | [], e, hR, sr, i0 =>
              simp only [List.length_nil]
              have c2 : (((0 + 1 + 1 : Nat) : Int) = 2) := by decide
              have c3 : ¬ (((0 + 1 + 1 : Nat) : Int) = 3) := by decide
              have c4 : ¬ (((0 + 1 + 1 : Nat) : Int) = 4) := by decide
              have c6 : ¬ (((0 + 1 + 1 : Nat) : Int) = 6) := by decide
              simp only [c2, c3, c4, c6, if_true, if_false, x_bl, dec_ite, i0]
              by_cases n1 : x = "bar" <;> by_cases n2 : x = "self" <;> simp_all [imm]
            | [v2], e, hR, sr, i0 =>
              simp only [smL, Bool.and_eq_true] at sr
              have i2 := ix_iff (i := 2) e (atN (n := 2) rfl)
              simp only [List.length_nil, List.length_cons]
              have c2 : ¬ (((0 + 1 + 1 + 1 : Nat) : Int) = 2) := by decide
              have c3 : (((0 + 1 + 1 + 1 : Nat) : Int) = 3) := by decide
              have c4 : ¬ (((0 + 1 + 1 + 1 : Nat) : Int) = 4) := by decide
              have c6 : ¬ (((0 + 1 + 1 + 1 : Nat) : Int) = 6) := by decide
              simp only [c2, c3, c4, c6, if_true, if_false, x_bl, dec_ite, i0, i2, name_iff sr.1]
              have a1 : isNameD v2 = true → imm v2 = true := nm_imm
              by_cases n1 : x = "tell" <;> by_cases n2 : isNameD v2 = true <;> simp_all
            | [v2, v3], e, hR, sr, i0 =>
              simp only [smL, Bool.and_eq_true] at sr
              have i2 := ix_iff (i := 2) e (atN (n := 2) rfl)
              have i3 := ix_iff (i := 3) e (atN (n := 3) rfl)
              simp only [List.length_nil, List.length_cons]
              have c2 : ¬ (((0 + 1 + 1 + 1 + 1 : Nat) : Int) = 2) := by decide
              have c3 : ¬ (((0 + 1 + 1 + 1 + 1 : Nat) : Int) = 3) := by decide
              have c4 : (((0 + 1 + 1 + 1 + 1 : Nat) : Int) = 4) := by decide
              have c6 : ¬ (((0 + 1 + 1 + 1 + 1 : Nat) : Int) = 6) := by decide
              simp only [c2, c3, c4, c6, if_true, if_false, x_bl, dec_ite, i0, i2, i3, link_iff sr.1, manner_iff sr.2.1]
              have a1 : isLinkD v2 ls = true → imm v2 = true := lk_imm
              have a3 : isMannerD v3 = true → imm v3 = true := mn_imm
              by_cases n1 : x = "give" <;> by_cases n2 : isLinkD v2 ls = true <;> by_cases n3 : isMannerD v3 = true <;> simp_all
            | [v2, v3, v4], e, hR, sr, i0 =>
              simp only [List.length_nil, List.length_cons]
              have c2 : ¬ (((0 + 1 + 1 + 1 + 1 + 1 : Nat) : Int) = 2) := by decide
              have c3 : ¬ (((0 + 1 + 1 + 1 + 1 + 1 : Nat) : Int) = 3) := by decide
              have c4 : ¬ (((0 + 1 + 1 + 1 + 1 + 1 : Nat) : Int) = 4) := by decide
              have c6 : ¬ (((0 + 1 + 1 + 1 + 1 + 1 : Nat) : Int) = 6) := by decide
              simp only [c2, c3, c4, c6, if_false]
              exact hR
            | [v2, v3, v4, v5], e, hR, sr, i0 =>
              simp only [List.length_nil, List.length_cons]
              have c2 : ¬ (((0 + 1 + 1 + 1 + 1 + 1 + 1 : Nat) : Int) = 2) := by decide
              have c3 : ¬ (((0 + 1 + 1 + 1 + 1 + 1 + 1 : Nat) : Int) = 3) := by decide
              have c4 : ¬ (((0 + 1 + 1 + 1 + 1 + 1 + 1 : Nat) : Int) = 4) := by decide
              have c6 : (((0 + 1 + 1 + 1 + 1 + 1 + 1 : Nat) : Int) = 6) := by decide
              simp only [c2, c3, c4, c6, if_true, if_false, i0, p_read_send e hs]
              by_cases n1 : x = "send" <;> simp_all
            | _ :: _ :: _ :: _ :: _ :: _, e, hR, _, _ =>
              rw [row_no e (by simp; omega)] at hr; cases hr
        | _ => exact hR
    · have hr' : isRowD d 2 6 = false := by simpa using hr
      rw [hr']
      have : R .non := by
        match es, e, hR with
        | [], _, hR => exact hR
        | [x], _, hR => cases x <;> exact hR
        | v0 :: v1 :: [], e, _ => exact absurd (row_yes e (by simp)) hr
        | v0 :: v1 :: [v2], e, _ => exact absurd (row_yes e (by simp)) hr
        | v0 :: v1 :: [v2, v3], e, _ => exact absurd (row_yes e (by simp)) hr
        | v0 :: v1 :: [v2, v3, v4], e, _ => exact absurd (row_yes e (by simp)) hr
        | v0 :: v1 :: [v2, v3, v4, v5], e, _ => exact absurd (row_yes e (by simp)) hr
        | v0 :: v1 :: (_ :: _ :: _ :: _ :: _ :: _), _, hR =>
          cases v0 <;> first | exact hR | skip
          dsimp only at hR
          split at hR <;> exact hR
      exact this
theorem rule_iff {d : D} {ls : List (Key × D)} (h : sm d = true) (R : DK) : sp_read_rule [d, .dct ls] R ↔ R (readRule d ls) := by
  rw [p_read_rule]; simp only [h, true_and]
theorem rules_loop {E : EndsD} {d0 : D} {ls : List (Key × D)} : ∀ (ds acc : List D) b c, smL ds = true → acc.length + ds.length ≤ 300 →
    (match readAll (fun x => readRule x ls) ds acc with
      | some xs => ∀ b c, E.nx [.wv d0, .wv (.dct ls), .ol xs, b, c]
      | none => E.rt .non) →
    wForL (st1 .w 3) (wSeq (wSet .s 4 (wCall sp_read_rule (wCons (wV .t 3) (wCons (wV .t 1) wNil)))) (wSeq (wIfS (wT (wIsN (wV .t 4))) (wRet (wC .non)) wNext) (wApp 2 (wV .s 4)))) E ds [.wv d0, .wv (.dct ls), .ol acc, b, c]
  | [], acc, b, c, _, _, h => h b c
  | d :: ds, acc, b, c, hs, hz, h => by
    simp only [smL, Bool.and_eq_true] at hs
    refine ⟨_, rfl, ?_⟩
    show wSeq _ _ _ [.wv d0, .wv (.dct ls), .ol acc, .wv d, c]
    walk_at "rd0"
    simp only [rule_iff hs.1]
    simp only [readAll] at h
    by_cases h1 : isNon (readRule d ls) = true
    · simp only [h1, if_true] at h ⊢
      exact h
    · simp only [h1, if_false, Bool.false_eq_true] at h ⊢
      refine ⟨acc, rfl, Nat.lt_of_lt_of_le (by simp at hz; omega : acc.length < 300) (by decide), ?_⟩
      exact rules_loop ds (acc ++ [readRule d ls]) _ _ hs.2 (by simp at hz ⊢; omega) h
theorem rd_read_rules (ds : List D) (R : DK) (hl : ds.length = 2) (h : sp_read_rules ds R) : t_read_rules { nx := fun _ => R .non, rt := R } (ini [.w, .w] ds 5) := by
  obtain ⟨d, ls, rfl, hs, hR⟩ := h
  show t_read_rules _ [Bd.wv d, .wv (.dct ls), .non, .non, .non]
  unfold t_read_rules
  walk_at "rd0"
  simp only [row_iff hs]
  walk_at "rd0"
  unfold readRules at hR
  by_cases h1 : isRowD d 0 300 = true
  · simp only [h1, if_true, Bool.not_true, if_false, Bool.false_eq_true] at hR ⊢
    unfold isRowD at h1
    cases e : itemsOf d with
    | none => rw [e] at h1; cases h1
    | some es =>
      rw [e] at hR h1
      simp only [Bool.and_eq_true, decide_eq_true_eq] at h1
      simp only [wFor, wIt]
      walk_at "rd0"
      refine ⟨es, e, ?_⟩
      refine rules_loop es [] _ _ (sm_items hs e) (by simp; omega) ?_
      dsimp only at hR
      cases e2 : readAll (fun x => readRule x ls) es [] with
      | none => rw [e2] at hR; exact hR
      | some xs =>
        rw [e2] at hR
        exact fun b c => ⟨_, rfl, hR⟩
  · simp only [h1, if_false, Bool.false_eq_true, Bool.not_false, if_true] at hR ⊢
    exact hR
end Tr
end
section
namespace Tr
open PySem PySem.Spec L2 TL
local macro_rules | `(tactic| walk_at "rd0") => `(tactic| simp only [wSeq, wIfS, wOr, wNot, wAnd, wT, wCall, wCons, wNil, wC, wV, wRet, wNext, wSet, bdS, wSetL, wSetD, wIf, wTup, wLst, wIsN, wNotN, w2, wChain, wAndV, wOrV, wNotV, wExp, wIt, wFor, wLc, wRg1, wItS, wD0, wD1, wSl, wO0, wO1, wJoin, wipeB, wSetLi, List.getElem?_cons_zero, List.getElem?_cons_succ, List.set_cons_zero, List.set_cons_succ, x_some, x_bl, x_int, x_str, l_P, l_I0, l_I, l_EqS, l_EqI, l_EqB, l_NeS, l_NeI, Bool.not_true, Bool.not_false, if_true, if_false, Bool.false_eq_true, eq_self_iff_true])
/-! draws -/
def sp_L_draw : SpD := fun ds R => ∃ m, ds = [.st, .int m] ∧ 0 < m ∧ m < 1000000 ∧ ∀ r, 0 ≤ r → r < m → R (.int r)
theorem draw_i {m : Int} {R : DK} (h0 : 0 < m) (h1 : m < 1000000) (h : ∀ r, 0 ≤ r → r < m → R (.int r)) : sp_L_draw [.st, .int m] R := ⟨m, rfl, h0, h1, h⟩
def sp_L_pick : SpD := fun ds R => ∃ row es, ds = [.st, row] ∧ itemsOf row = some es ∧ es ≠ [] ∧ es.length < 1000 ∧ ∀ e ∈ es, R e
def t_L_pick : TDS := wRet (w2 semIx (wV .s 1) (wCall sp_L_draw (wCons (wV .t 0) (wCons (wCall semLen (wCons (wV .t 1) wNil)) wNil))))
theorem atI_in {α : Type} {es : List α} {r : Int} (h0 : 0 ≤ r) (h1 : r < es.length) : ∃ e ∈ es, atI es r = some e := by
  obtain ⟨n, rfl⟩ := Int.eq_ofNat_of_zero_le h0
  have hn : n < es.length := by omega
  exact ⟨es[n], List.getElem_mem _, atN (by simp [hn])⟩
theorem rd_L_pick (ds : List D) (R : DK) (hl : ds.length = 2) (h : sp_L_pick ds R) : t_L_pick { nx := fun _ => R .non, rt := R } (ini [.s, .s] ds 2) := by
  obtain ⟨row, es, rfl, e, hn, hz, hR⟩ := h
  show t_L_pick _ [Bd.val .st, .val row]
  unfold t_L_pick
  walk_at "rd0"
  simp only [len_iff (len_items e)]
  have : 0 < es.length := List.length_pos_iff.mpr hn
  refine draw_i (by omega) (by omega) fun r h0 h1 => ?_
  obtain ⟨x, hx, ex⟩ := atI_in h0 h1
  exact l_Ix e ex (hR x hx)
theorem pick_i {row : D} {es : List D} {R : DK} (e : itemsOf row = some es) (hn : es ≠ []) (hz : es.length < 1000) (h : ∀ e ∈ es, R e) : sp_L_pick [.st, row] R := ⟨row, es, rfl, e, hn, hz, h⟩
/-! comprehensions -/
theorem lc_any {stt : Ev → D → Option Ev} {we : TDE} {ρ : Ev} {R : DK} (P : D → Prop) : ∀ (ds acc : List D), (∀ d ∈ ds, ∃ ρ', stt ρ d = some ρ' ∧ ∀ R' : DK, (∀ x, P x → R' x) → we ρ' R') → ds.length + acc.length ≤ sizeLine → (∀ out, out.length = ds.length → (∀ x ∈ out, P x) → R (.lst (acc ++ out))) → wLcL stt wYes we ρ R ds acc
  | [], acc, _, _, h => by
    have := h [] rfl (fun _ m => by cases m)
    simpa [wLcL] using this
  | d :: ds, acc, hd, hz, h => by
    obtain ⟨ρ', e, k⟩ := hd d List.mem_cons_self
    refine ⟨ρ', e, ?_⟩
    simp only [wYes, if_true]
    refine k _ fun x hx => ⟨by simp at hz; omega, ?_⟩
    refine lc_any P ds (acc ++ [x]) (fun y hy => hd y (List.mem_cons_of_mem _ hy)) (by simp at hz ⊢; omega) fun out ho hp => ?_
    have := h (x :: out) (by simp [ho]) (fun y hy => by
      rcases List.mem_cons.mp hy with rfl | hy
      · exact hx
      · exact hp y hy)
    simpa using this
theorem lc_sub {stt : Ev → D → Option Ev} {wt : TDT} {we : TDE} {ρ : Ev} {R : DK} : ∀ (ds acc : List D), (∀ d ∈ ds, ∃ ρ', stt ρ d = some ρ' ∧ (∀ R' : Bool → Prop, (∀ b, R' b) → wt ρ' R') ∧ ∀ R' : DK, R' d → we ρ' R') → ds.length + acc.length ≤ sizeLine → (∀ out : List D, out.Sublist ds → R (.lst (acc ++ out))) → wLcL stt wt we ρ R ds acc
  | [], acc, _, _, h => by
    have := h [] (List.Sublist.refl _)
    simpa [wLcL] using this
  | d :: ds, acc, hd, hz, h => by
    obtain ⟨ρ', e, k1, k2⟩ := hd d List.mem_cons_self
    refine ⟨ρ', e, k1 _ fun b => ?_⟩
    cases b with
    | true =>
      simp only [if_true]
      refine k2 _ ⟨by simp at hz; omega, ?_⟩
      refine lc_sub ds (acc ++ [d]) (fun y hy => hd y (List.mem_cons_of_mem _ hy)) (by simp at hz ⊢; omega) fun out ho => ?_
      have := h (d :: out) (ho.cons_cons d)
      simpa using this
    | false =>
      simp only [Bool.false_eq_true, if_false]
      exact lc_sub ds acc (fun y hy => hd y (List.mem_cons_of_mem _ hy)) (by simp at hz ⊢; omega) fun out ho => h out (ho.cons d)
def sp_L_some : SpD := fun ds R => ∃ row es, ds = [.st, row] ∧ itemsOf row = some es ∧ es.length < 1000 ∧ ∀ sub : List D, sub.Sublist es → R (.lst sub)
def t_L_some : TDS := wRet (wLc (wIt (wV .s 1)) (st1 .s 2) (wT (w2 semEq (wCall sp_L_draw (wCons (wV .t 0) (wCons (wC (.int 2)) wNil))) (wC (.int 1)))) (wV .s 2) [2])
theorem some_i {row : D} {es : List D} {R : DK} (e : itemsOf row = some es) (hz : es.length < 1000) (h : ∀ sub : List D, sub.Sublist es → R (.lst sub)) : sp_L_some [.st, row] R := ⟨row, es, rfl, e, hz, h⟩
theorem big : 1000 < sizeLine := by decide
theorem rd_L_some (ds : List D) (R : DK) (hl : ds.length = 2) (h : sp_L_some ds R) : t_L_some { nx := fun _ => R .non, rt := R } (ini [.s, .s] ds 3) := by
  obtain ⟨row, es, rfl, e, hz, hR⟩ := h
  show t_L_some _ [Bd.val .st, .val row, .non]
  unfold t_L_some
  walk_at "rd0"
  refine ⟨es, e, lc_sub es [] (fun d hd => ⟨_, rfl, fun R' hR' => ?_, fun R' hR' => ?_⟩) (by simp; exact Nat.le_of_lt (Nat.lt_trans hz big)) (fun out ho => by simpa using hR out ho)⟩
  · walk_at "rd0"
    exact draw_i (by decide) (by decide) fun r _ _ => by walk_at "rd0"; exact hR' _
  · exact hR'
/-! words -/
theorem sub_len {α : Type} [DecidableEq α] : ∀ {xs ys : List α}, xs.Nodup → (∀ x ∈ xs, x ∈ ys) → xs.length ≤ ys.length
  | [], ys, _, _ => Nat.zero_le _
  | x :: xs, ys, hn, hs => by
    have hx : x ∈ ys := hs x List.mem_cons_self
    have hn' := List.nodup_cons.mp hn
    have := sub_len (xs := xs) (ys := ys.erase x) hn'.2 fun z hz => by
      have hne : z ≠ x := fun e => hn'.1 (e ▸ hz)
      exact (List.mem_erase_of_ne hne).mpr (hs z (List.mem_cons_of_mem _ hz))
    rw [List.length_erase_of_mem hx] at this
    have hp : 0 < ys.length := List.length_pos_of_mem hx
    simp only [List.length_cons]
    omega
def sp_L_word : SpD := fun ds R => ∃ tk, ∃ xs : List Str, ds = [.st, tk] ∧ itemsOf tk = some (xs.map D.str) ∧ xs.length ≤ 11 ∧ ∀ x, isNm x = true → x ∉ xs → R (.str x)
theorem word_i {tk : D} {xs : List Str} {R : DK} (e : itemsOf tk = some (xs.map D.str)) (hz : xs.length ≤ 11) (h : ∀ x, isNm x = true → x ∉ xs → R (.str x)) : sp_L_word [.st, tk] R := ⟨tk, xs, rfl, e, hz, h⟩
def t_L_word : TDS := wSeq (wSet .s 2 (wC (.str "abcdefghijklmnopqrstuvwxyz")))
    (wSeq (wSet .s 3 (w2 semIx (wLst (wCons (wC (.int 1)) (wCons (wC (.int 1)) (wCons (wC (.int 2)) (wCons (wC (.int 8)) (wCons (wC (.int 3)) (wCons (wC (.int 5)) (wCons (wC (.int 4)) (wCons (wC (.int 7)) (wCons (wC (.int 6)) wNil)))))))))) (wCall sp_L_draw (wCons (wV .t 0) (wCons (wC (.int 9)) wNil)))))
    (wSeq (wSet .s 4 (wJoin (wC (.str "")) (wLc (wRg1 (wCons (wV .t 3) wNil)) (st1 .s 5) wYes (w2 semIx (wV .s 2) (wCall sp_L_draw (wCons (wV .t 0) (wCons (wC (.int 26)) wNil)))) [5])))
    (wSeq (wIfS (wT (w2 (semIn false) (wV .t 4) (wV .t 1))) (wRet (w2 semIx (wLc (wItS (wC (.str "qwertyuiopas"))) (st1 .s 6) (wT (w2 (semIn true) (wV .t 6) (wV .t 1))) (wV .s 6) [6]) (wC (.int 0)))) wNext)
    (wRet (wV .s 4)))))
theorem joinL_nil : ∀ ps : List (List Nat), joinL [] ps = ps.flatten
  | [] => rfl
  | [p] => by simp [joinL]
  | p :: q :: r => by
    show p ++ ([] ++ joinL [] (q :: r)) = _
    rw [joinL_nil (q :: r)]; simp
theorem tl_len (x : Str) : x.length = (tl x).length := by
  unfold tl; simp [Str.length]
def one (c : Nat) : Str := ⟨#[c]⟩
theorem join_ones (cs : List Nat) : tl (Txt.join "" (cs.map one)) = cs := by
  rw [join_eq, tl_join]
  have e : tl ("" : Str) = [] := by decide
  rw [e, joinL_nil, List.map_map]
  induction cs with
  | nil => rfl
  | cons c cs ih => simpa [one, tl] using ih
theorem nm_cps {x : Str} (h1 : 1 ≤ (tl x).length) (h2 : (tl x).length ≤ 8) (h3 : ∀ c ∈ tl x, c ∈ letters.cps.toList) : isNm x = true := by
  unfold isNm
  simp only [Bool.and_eq_true, decide_eq_true_eq, List.all_eq_true]
  exact ⟨⟨by rw [tl_len]; exact h1, by rw [tl_len]; exact h2⟩, h3⟩
theorem ones_of : ∀ {out : List D}, (∀ x ∈ out, ∃ c ∈ letters.cps.toList, x = .str (one c)) → ∃ cs : List Nat, out = (cs.map one).map D.str ∧ ∀ c ∈ cs, c ∈ letters.cps.toList
  | [], _ => ⟨[], rfl, fun _ m => by cases m⟩
  | x :: out, h => by
    obtain ⟨c, hc, rfl⟩ := h x List.mem_cons_self
    obtain ⟨cs, e, hcs⟩ := ones_of fun y hy => h y (List.mem_cons_of_mem _ hy)
    refine ⟨c :: cs, by rw [e]; rfl, fun z hz => ?_⟩
    rcases List.mem_cons.mp hz with rfl | hz
    · exact hc
    · exact hcs z hz
def spare : Str := "qwertyuiopas"
theorem spare_ones : signsD spare = (spare.cps.toList.map one).map D.str := by unfold signsD one; rw [List.map_map]; rfl
theorem spare_nm : ∀ c ∈ spare.cps.toList, isNm (one c) = true := by decide +kernel
theorem spare_nd : (spare.cps.toList.map one).Nodup := by decide +kernel
theorem spare_left {xs : List Str} (h : xs.length ≤ 11) : ∃ a r, (spare.cps.toList.map one).filter (fun c => !decide (c ∈ xs)) = a :: r ∧ isNm a = true ∧ a ∉ xs := by
  cases e : (spare.cps.toList.map one).filter (fun c => !decide (c ∈ xs)) with
  | nil =>
    exfalso
    have hs : ∀ c ∈ spare.cps.toList.map one, c ∈ xs := fun c hc => by
      have := List.filter_eq_nil_iff.mp e c hc
      simpa using this
    have := sub_len spare_nd hs
    have e2 : (spare.cps.toList.map one).length = 12 := by decide +kernel
    omega
  | cons a r =>
    have hm : a ∈ (spare.cps.toList.map one).filter (fun c => !decide (c ∈ xs)) := by rw [e]; exact List.mem_cons_self
    obtain ⟨h1, h2⟩ := List.mem_filter.mp hm
    obtain ⟨c, hc, rfl⟩ := List.mem_map.mp h1
    exact ⟨_, r, rfl, spare_nm c hc, by simpa using h2⟩
theorem lc_strs {stt : Ev → D → Option Ev} {wt : TDT} {we : TDE} {ρ : Ev} {R : DK} {p : Str → Bool} {zs : List Str} (h : ∀ z ∈ zs, ∃ ρ', stt ρ (.str z) = some ρ' ∧ (∀ R' : Bool → Prop, R' (p z) → wt ρ' R') ∧ ∀ R' : DK, R' (.str z) → we ρ' R') (hz : zs.length ≤ sizeLine) (hR : R (.lst ((zs.filter p).map D.str))) : wLcL stt wt we ρ R (zs.map D.str) [] := by
  refine lc_filter (fun d => match d with | .str z => p z | _ => false) id (zs.map D.str) [] (fun d hd => ?_) (by simpa using hz) ?_
  · obtain ⟨z, hz, rfl⟩ := List.mem_map.mp hd
    obtain ⟨ρ', e, k1, k2⟩ := h z hz
    exact ⟨ρ', e, k1, fun R' _ => k2 R'⟩
  · have e : List.map id (List.filter (fun d => match d with | .str z => p z | _ => false) (zs.map D.str)) = (zs.filter p).map D.str := by
      rw [List.map_id, List.filter_map]; rfl
    rw [List.nil_append, e]
    exact hR
theorem sum_ones : ∀ cs : List Nat, ((cs.map one).map (·.length)).sum = cs.length
  | [] => rfl
  | c :: cs => by
    have h1 : (one c).length = 1 := rfl
    have h2 := sum_ones cs
    rw [List.map_cons, List.map_cons, List.sum_cons, h2, h1, List.length_cons]
    omega
theorem rd_L_word (ds : List D) (R : DK) (hl : ds.length = 2) (h : sp_L_word ds R) : t_L_word { nx := fun _ => R .non, rt := R } (ini [.s, .w] ds 7) := by
  obtain ⟨tk, xs, rfl, e, hz, hR⟩ := h
  show t_L_word _ [Bd.val .st, .wv tk, .non, .non, .non, .non, .non]
  unfold t_L_word
  walk_at "rd0"
  refine draw_i (by decide) (by decide) fun r h0 h1 => ?_
  obtain ⟨x, hx, ex⟩ := atI_in (es := [D.int 1, .int 1, .int 2, .int 8, .int 3, .int 5, .int 4, .int 7, .int 6]) h0 h1
  refine l_Ix rfl ex ?_
  obtain ⟨k, rfl, hk1, hk2⟩ : ∃ k : Nat, x = .int k ∧ 1 ≤ k ∧ k ≤ 8 := by
    simp only [List.mem_cons, List.not_mem_nil, or_false] at hx
    rcases hx with rfl | rfl | rfl | rfl | rfl | rfl | rfl | rfl | rfl
    · exact ⟨1, rfl, by decide, by decide⟩
    · exact ⟨1, rfl, by decide, by decide⟩
    · exact ⟨2, rfl, by decide, by decide⟩
    · exact ⟨8, rfl, by decide, by decide⟩
    · exact ⟨3, rfl, by decide, by decide⟩
    · exact ⟨5, rfl, by decide, by decide⟩
    · exact ⟨4, rfl, by decide, by decide⟩
    · exact ⟨7, rfl, by decide, by decide⟩
    · exact ⟨6, rfl, by decide, by decide⟩
  have er : (rangeD 0 (k : Int).toNat).length = k := by simp [rangeD]
  refine ⟨k, rfl, by omega, by omega, lc_any (fun d => ∃ c ∈ letters.cps.toList, d = .str (one c)) _ [] (fun d hd => ⟨_, rfl, fun R' hR' => ?_⟩) (by rw [er]; exact Nat.le_trans (by simpa using hk2) (by decide : 8 ≤ sizeLine)) fun out ho hp => ?_⟩
  · walk_at "rd0"
    refine draw_i (by decide) (by decide) fun r h0 h1 => ?_
    obtain ⟨c, hc, ec⟩ := atI_in (es := letters.cps.toList) h0 h1
    exact ⟨r, rfl, .inr ⟨letters, c, rfl, by decide, ec, hR' _ ⟨c, hc, rfl⟩⟩⟩
  · obtain ⟨cs, rfl, hcs⟩ := ones_of hp
    rw [er] at ho
    simp only [List.length_map] at ho
    have tj := join_ones cs
    refine ⟨cs.map one, rfl, ?_, ?_⟩
    · rw [sum_ones]
      have e0 : ("" : Str).length = 0 := by decide
      rw [e0]
      omega
    · generalize hxx : Txt.join "" (cs.map one) = x at tj
      have hnm : isNm x = true := nm_cps (by rw [tj, ho]; exact hk1) (by rw [tj, ho]; exact hk2) (by rw [tj]; exact hcs)
      refine l_In (xs := xs) e ?_
      walk_at "rd0"
      by_cases hin : x ∈ xs
      · rw [decide_eq_true hin]
        walk_at "rd0"
        show wLcL _ _ _ _ _ (signsD spare) []
        rw [spare_ones]
        refine lc_strs (p := fun c => !decide (c ∈ xs)) (fun z hz => ⟨_, rfl, fun R' hR' => ?_, fun R' hR' => hR'⟩) (by decide +kernel) ?_
        · walk_at "rd0"
          exact l_In (xs := xs) e ⟨_, rfl, hR'⟩
        · obtain ⟨a, r, ea, h1, h2⟩ := spare_left hz
          rw [ea]
          exact l_Ix rfl at0 (hR a h1 h2)
      · rw [decide_eq_false hin]
        exact hR x hnm hin
def sp_L_words : SpD := fun ds R => ∃ n : Nat, ds = [.st, .int n] ∧ n ≤ 12 ∧ ∀ xs : List Str, xs.length = n → (∀ x ∈ xs, isNm x = true) → xs.Nodup → R (.lst (xs.map D.str))
theorem words_i {n : Nat} {R : DK} (hn : n ≤ 12) (h : ∀ xs : List Str, xs.length = n → (∀ x ∈ xs, isNm x = true) → xs.Nodup → R (.lst (xs.map D.str))) : sp_L_words [.st, .int n] R := ⟨n, rfl, hn, h⟩
def t_L_words : TDS := wSeq (wSetL 2 wNil)
    (wSeq (wFor (wRg1 (wCons (wV .t 1) wNil)) (st1 .s 3)
    (wApp 2 (wCall sp_L_word (wCons (wV .s 0) (wCons (wV .t 2) wNil)))))
    (wRel 2 (wRet (wV .s 2))))
theorem words_loop {E : EndsD} {d1 : D} {n : Nat} (hn : n ≤ 12) (h : ∀ xs : List Str, xs.length = n → (∀ x ∈ xs, isNm x = true) → xs.Nodup → ∀ b, E.nx [.val .st, .val d1, .ol (xs.map D.str), b]) :
    ∀ (ds : List D) (acc : List Str) (b : Bd), acc.length + ds.length = n → (∀ x ∈ acc, isNm x = true) → acc.Nodup → wForL (st1 .s 3) (wApp 2 (wCall sp_L_word (wCons (wV .s 0) (wCons (wV .t 2) wNil)))) E ds [.val .st, .val d1, .ol (acc.map D.str), b]
  | [], acc, b, hl, ha, hd => h acc (by simpa using hl) ha hd b
  | d :: ds, acc, b, hl, ha, hd => by
    refine ⟨_, rfl, acc.map D.str, rfl, ?_⟩
    simp only [List.length_cons] at hl
    walk_at "rd0"
    refine word_i (xs := acc) rfl (by omega) fun x h1 h2 => ⟨?_, ?_⟩
    · simp only [List.length_map]; exact Nat.lt_of_le_of_lt (by omega : acc.length ≤ 1000) big
    · have e : acc.map D.str ++ [D.str x] = (acc ++ [x]).map D.str := by simp
      show wForL _ _ E ds [.val .st, .val d1, .ol (acc.map D.str ++ [D.str x]), .val d]
      rw [e]
      refine words_loop hn h ds _ _ (by simp; omega) (fun y hy => ?_) ?_
      · rcases List.mem_append.mp hy with hy | hy
        · exact ha y hy
        · rw [List.mem_singleton.mp hy]; exact h1
      · rw [List.nodup_append]
        exact ⟨hd, by simp, fun a ha' b hb => by rw [List.mem_singleton.mp hb]; exact fun z => h2 (z ▸ ha')⟩
theorem rd_L_words (ds : List D) (R : DK) (hl : ds.length = 2) (h : sp_L_words ds R) : t_L_words { nx := fun _ => R .non, rt := R } (ini [.s, .s] ds 4) := by
  obtain ⟨n, rfl, hn, hR⟩ := h
  show t_L_words _ [Bd.val .st, .val (.int n), .non, .non]
  unfold t_L_words
  walk_at "rd0"
  refine ⟨n, rfl, by omega, by omega, ?_⟩
  refine words_loop hn ?_ _ [] _ (by simp [rangeD]) (fun _ m => by cases m) List.nodup_nil
  exact fun xs h1 h2 h3 b => ⟨_, rfl, hR xs h1 h2 h3⟩
/-! a drawn order -/
def sp_L_shuffled : SpD := fun ds R => ∃ row es, ds = [.st, row] ∧ itemsOf row = some es ∧ es.length < 1000 ∧ ∀ ys : List D, ys.Perm es → R (.lst ys)
theorem shuffled_i {row : D} {es : List D} {R : DK} (e : itemsOf row = some es) (hz : es.length < 1000) (h : ∀ ys : List D, ys.Perm es → R (.lst ys)) : sp_L_shuffled [.st, row] R := ⟨row, es, rfl, e, hz, h⟩
def t_L_shuffled : TDS := wSeq (wSetLi 2 (wV .s 1))
    (wSeq (wSetL 3 wNil)
    (wSeq (wFor (wRg1 (wCons (wCall semLen (wCons (wV .t 1) wNil)) wNil)) (st1 .s 4)
    (wApop 3 2 (wCall sp_L_draw (wCons (wV .t 0) (wCons (wCall semLen (wCons (wV .t 2) wNil)) wNil)))))
    (wRel 3 (wRet (wV .s 3)))))
theorem list_items {d : D} {es : List D} (e : itemsOf d = some es) : listOf d = some es := by cases d <;> first | exact e | cases e
theorem perm_pop {α : Type} {d : α} : ∀ {es : List α} {n : Nat}, es[n]? = some d → (d :: es.eraseIdx n).Perm es
  | [], n, h => by simp at h
  | e :: es, 0, h => by simp at h; subst h; exact List.Perm.refl _
  | e :: es, n + 1, h => by
    have := perm_pop (es := es) (n := n) (by simpa using h)
    exact (List.Perm.swap e d _).trans (this.cons e)
theorem shuf_loop {E : EndsD} {row : D} {es : List D} (hz : es.length < 1000) (h : ∀ ys : List D, ys.Perm es → ∀ b, E.nx [.val .st, .val row, .ol [], .ol ys, b]) :
    ∀ (ds : List D) (rest acc : List D) (b : Bd), rest.length = ds.length → (acc ++ rest).Perm es → wForL (st1 .s 4) (wApop 3 2 (wCall sp_L_draw (wCons (wV .t 0) (wCons (wCall semLen (wCons (wV .t 2) wNil)) wNil)))) E ds [.val .st, .val row, .ol rest, .ol acc, b]
  | [], rest, acc, b, hl, hp => by
    have : rest = [] := List.length_eq_zero_iff.mp (by simpa using hl)
    subst this
    exact h acc (by simpa using hp) b
  | d :: ds, rest, acc, b, hl, hp => by
    have hlen : acc.length + rest.length = es.length := by simpa using hp.length_eq
    simp only [List.length_cons] at hl
    refine ⟨_, rfl, by decide, acc, rest, rfl, rfl, ?_⟩
    walk_at "rd0"
    simp only [len_iff (n := rest.length) (d := .lst rest) rfl]
    refine draw_i (by omega) (by omega) fun r h0 h1 => ?_
    obtain ⟨n, rfl⟩ := Int.eq_ofNat_of_zero_le h0
    have hn : n < rest.length := by omega
    have hg : rest[n]? = some rest[n] := by simp [hn]
    refine ⟨n, rest[n], rfl, by omega, hg, Nat.lt_trans (by omega : acc.length < 1000) big, ?_⟩
    refine shuf_loop hz h ds (rest.eraseIdx n) (acc ++ [rest[n]]) _ (by rw [List.length_eraseIdx_of_lt hn]; omega) ?_
    rw [List.append_assoc]
    exact (List.Perm.append_left acc (perm_pop hg)).trans hp
theorem rd_L_shuffled (ds : List D) (R : DK) (hl : ds.length = 2) (h : sp_L_shuffled ds R) : t_L_shuffled { nx := fun _ => R .non, rt := R } (ini [.s, .s] ds 5) := by
  obtain ⟨row, es, rfl, e, hz, hR⟩ := h
  show t_L_shuffled _ [Bd.val .st, .val row, .non, .non, .non]
  unfold t_L_shuffled
  walk_at "rd0"
  refine ⟨es, list_items e, ?_⟩
  simp only [len_iff (len_items e)]
  refine ⟨es.length, rfl, by omega, by omega, ?_⟩
  refine shuf_loop hz ?_ _ es [] _ (by simp [rangeD]) (by simp)
  exact fun ys hy b => ⟨_, rfl, hR ys hy⟩
end Tr
end
section
namespace Tr
open PySem PySem.Spec L2 TL
local macro_rules | `(tactic| walk_at "rd0") => `(tactic| simp only [wSeq, wIfS, wOr, wNot, wAnd, wT, wCall, wCons, wNil, wC, wV, wRet, wNext, wSet, bdS, wSetL, wSetD, wIf, wTup, wLst, wIsN, wNotN, w2, wChain, wAndV, wOrV, wNotV, wExp, wIt, wFor, wLc, wRg1, wItS, wD0, wD1, wSl, wO0, wO1, wJoin, wipeB, wSetLi, List.getElem?_cons_zero, List.getElem?_cons_succ, List.set_cons_zero, List.set_cons_succ, x_some, x_bl, x_int, x_str, l_P, l_I0, l_I, l_EqS, l_EqI, l_EqB, l_NeS, l_NeI, Bool.not_true, Bool.not_false, if_true, if_false, Bool.false_eq_true, eq_self_iff_true])
/-! choices -/
theorem cut_to (ds : List D) (n : Nat) : cutD ds none (some (n : Int)) = ds.take n := by
  unfold cutD
  have h1 : HT.sIx ds.length 0 none = 0 := rfl
  have h2 : HT.sIx ds.length ds.length (some (n : Int)) = min n ds.length := by
    exact HT.sIx_nat _ _ _
  rw [h1, h2]
  simp [List.take_eq_take_iff]
def okCh (ks ys : List Str) : Prop := ys ≠ [] ∧ ys.length ≤ 4 ∧ ys.Nodup ∧ (∀ y ∈ ys, y = "" ∨ y ∈ ks) ∧ srt ys = ys
def sp_L_choices : SpD := fun ds R => ∃ xs : List Str, ds = [.st, .lst (xs.map D.str)] ∧ xs ≠ [] ∧ xs.length ≤ 8 ∧ xs.Nodup ∧ (∀ x ∈ xs, isNm x = true) ∧ ∀ ys, okCh xs ys → R (.tup (ys.map D.str))
theorem choices_i {xs : List Str} {R : DK} (h1 : xs ≠ []) (h2 : xs.length ≤ 8) (h3 : xs.Nodup) (h4 : ∀ x ∈ xs, isNm x = true) (h : ∀ ys, okCh xs ys → R (.tup (ys.map D.str))) : sp_L_choices [.st, .lst (xs.map D.str)] R := ⟨xs, rfl, h1, h2, h3, h4, h⟩
def t_L_choices : TDS := wSeq (wSet .s 2 (wCall sp_L_some (wCons (wV .s 0) (wCons (w2 semCat (wV .s 1) (wLst (wCons (wC (.str "")) wNil))) wNil))))
    (wSeq (wIfS (wT (w2 semEqD (wV .t 2) (wLst wNil))) (wSet .s 2 (wLst (wCons (wCall sp_L_pick (wCons (wV .s 0) (wCons (wV .s 1) wNil))) wNil))) wNext)
    (wRet (wCall semTup (wCons (wCall semSrt (wCons (wSl (wV .t 2) wO0 (wO1 (wC (.int 4)))) wNil)) wNil))))
theorem sub_strs {xs : List Str} {sub : List D} (h : sub.Sublist (xs.map D.str)) : ∃ zs : List Str, sub = zs.map D.str ∧ zs.Sublist xs := by
  obtain ⟨zs, h1, h2⟩ := List.sublist_map_iff.mp h
  exact ⟨zs, h2, h1⟩
theorem toPDs_strs : ∀ xs : List Str, toPDs (xs.map D.str) = some (xs.map PyData.str)
  | [] => rfl
  | x :: xs => by simp only [List.map_cons, toPDs, toPD, toPDs_strs xs]
def txtOk (x : Str) : Bool := PyData.strOk x
theorem lay_strs : ∀ {xs : List Str}, (∀ x ∈ xs, txtOk x = true) → PyData.canLayAll0 (xs.map PyData.str) = true ∧ PyData.depthAll (xs.map PyData.str) ≤ 1
  | [], _ => ⟨rfl, Nat.zero_le _⟩
  | x :: xs, h => by
    obtain ⟨h1, h2⟩ := lay_strs fun y hy => h y (List.mem_cons_of_mem _ hy)
    refine ⟨?_, ?_⟩
    · simp only [List.map_cons, PyData.canLayAll0, PyData.canLay0, Bool.and_eq_true]
      exact ⟨h x List.mem_cons_self, h1⟩
    · simp only [List.map_cons, PyData.depthAll, PyData.depth]
      omega
theorem shaped_strs {xs : List Str} (h : ∀ x ∈ xs, txtOk x = true) : SeqAt.shaped (.list (xs.map PyData.str)) = true := by
  obtain ⟨h1, h2⟩ := lay_strs h
  unfold SeqAt.shaped
  rw [Bool.and_eq_true, decide_eq_true_eq]
  exact ⟨by simpa only [PyData.canLay0] using h1, by simp only [PyData.depth]; omega⟩
theorem eqvAll_strs : ∀ xs ys : List Str, PyData.eqvAll (xs.map PyData.str) (ys.map PyData.str) = decide (xs = ys)
  | [], [] => rfl
  | [], _ :: _ => rfl
  | _ :: _, [] => rfl
  | x :: xs, y :: ys => by
    simp only [List.map_cons, PyData.eqvAll, PyData.eqv, eqvAll_strs xs ys]
    by_cases h : x = y <;> simp [h]
theorem toPD_strs (xs : List Str) : toPD (.lst (xs.map D.str)) = some (.list (xs.map PyData.str)) := by simp only [toPD, toPDs_strs]; rfl
theorem eq_strs {xs ys : List Str} {R : DK} (h1 : ∀ x ∈ xs, txtOk x = true) (h2 : ∀ x ∈ ys, txtOk x = true) (h : R (.bl (decide (xs = ys)))) : semEqD (.lst (xs.map D.str)) (.lst (ys.map D.str)) R := by
  refine ⟨_, _, toPD_strs xs, toPD_strs ys, shaped_strs h1, shaped_strs h2, ?_⟩
  simp only [PyData.eqv, eqvAll_strs]
  exact h
theorem ne_strs {xs ys : List Str} {R : DK} (h1 : ∀ x ∈ xs, txtOk x = true) (h2 : ∀ x ∈ ys, txtOk x = true) (h : R (.bl (!decide (xs = ys)))) : semNeD (.lst (xs.map D.str)) (.lst (ys.map D.str)) R := by
  refine ⟨_, _, toPD_strs xs, toPD_strs ys, shaped_strs h1, shaped_strs h2, ?_⟩
  simp only [PyData.eqv, eqvAll_strs]
  exact h
theorem eq_nil {xs : List Str} {R : DK} (h1 : ∀ x ∈ xs, txtOk x = true) (h : R (.bl (decide (xs = [])))) : semEqD (.lst (xs.map D.str)) (.lst []) R := eq_strs (ys := []) h1 (fun _ m => by cases m) h
theorem ne_nil {xs : List Str} {R : DK} (h1 : ∀ x ∈ xs, txtOk x = true) (h : R (.bl (!decide (xs = [])))) : semNeD (.lst (xs.map D.str)) (.lst []) R := ne_strs (ys := []) h1 (fun _ m => by cases m) h
theorem let_ok : ∀ c ∈ letters.cps.toList, c < 0x110000 := by decide +kernel
theorem nm_ok {x : Str} (h : isNm x = true) : txtOk x = true := by
  unfold isNm at h
  simp only [Bool.and_eq_true, List.all_eq_true, decide_eq_true_eq] at h
  unfold txtOk PyData.strOk
  rw [← Array.all_toList, List.all_eq_true]
  intro c hc
  simpa using let_ok c (h.2 c hc)
theorem wd_ok {x : Str} (h : isWd x = true) : txtOk x = true := by
  unfold isWd at h
  simp only [Bool.or_eq_true, decide_eq_true_eq] at h
  rcases h with rfl | h
  · decide +kernel
  · exact nm_ok h
theorem nm_ne {x : Str} (h : isNm x = true) : x ≠ "" := fun e => by subst e; revert h; decide
theorem srt_srt (xs : List Str) : srt (srt xs) = srt xs := srt_of_perm (srt_perm xs)
theorem rd_L_choices (ds : List D) (R : DK) (hl : ds.length = 2) (h : sp_L_choices ds R) : t_L_choices { nx := fun _ => R .non, rt := R } (ini [.s, .s] ds 3) := by
  obtain ⟨xs, rfl, h1, h2, h3, h4, hR⟩ := h
  show t_L_choices _ [Bd.val .st, .val (.lst (xs.map D.str)), .non]
  unfold t_L_choices
  walk_at "rd0"
  refine ⟨_, _, rfl, rfl, ?_, ?_⟩
  · simp only [List.length_map, List.length_cons, List.length_nil]; exact Nat.le_trans (by omega : xs.length + 1 ≤ 1000) (Nat.le_of_lt big)
  have ea : xs.map D.str ++ [D.str ""] = (xs ++ [("" : Str)]).map D.str := by simp
  rw [ea]
  refine some_i rfl (by simp; omega) fun sub hs => ?_
  obtain ⟨zs, rfl, hz⟩ := sub_strs hs
  have nd : (xs ++ [("" : Str)]).Nodup := by
    rw [List.nodup_append]
    exact ⟨h3, by simp, fun a ha b hb => by rw [List.mem_singleton.mp hb]; exact nm_ne (h4 a ha)⟩
  have fin : ∀ zs : List Str, zs ≠ [] → zs.Nodup → (∀ z ∈ zs, z = "" ∨ z ∈ xs) → (∃ ds_1, D.lst (zs.map D.str) = .lst ds_1 ∧ semSrt [.lst (cutD ds_1 none (some 4))] fun d => semTup [d] R) ∨ (∃ ds_1, D.lst (zs.map D.str) = .tup ds_1 ∧ semSrt [.tup (cutD ds_1 none (some 4))] fun d => semTup [d] R) := by
    intro zs n1 n2 n3
    refine .inl ⟨_, rfl, ?_⟩
    rw [show (4 : Int) = ((4 : Nat) : Int) from rfl, cut_to, ← List.map_take]
    have hz4 : (zs.take 4).length ≤ 4 := List.length_take_le _ _
    refine l_srt (by omega) (l_tup rfl (hR _ ⟨?_, ?_, ?_, ?_, srt_srt _⟩))
    · intro e
      have := congrArg List.length e
      rw [srt_len] at this
      cases zs with
      | nil => exact n1 rfl
      | cons a r => simp at this
    · rw [srt_len]; exact hz4
    · exact (srt_perm _).nodup_iff.mpr (List.Sublist.nodup (List.take_sublist _ _) n2)
    · intro y hy
      exact n3 y (List.mem_of_mem_take ((srt_perm _).mem_iff.mp hy))
  refine eq_nil (fun z hm => ?_) ?_
  · have := hz.subset hm
    simp only [List.mem_append, List.mem_singleton] at this
    rcases this with h | rfl
    · exact nm_ok (h4 z h)
    · decide +kernel
  walk_at "rd0"
  by_cases hz0 : zs = []
  · rw [decide_eq_true hz0]
    refine pick_i (es := xs.map D.str) rfl (by simpa using h1) (by simp; omega) fun e he => ?_
    obtain ⟨x, hx, rfl⟩ := List.mem_map.mp he
    exact fin [x] (by simp) (by simp) (fun z hz => .inr (by rw [List.mem_singleton.mp hz]; exact hx))
  · rw [decide_eq_false hz0]
    refine fin zs hz0 (hz.nodup nd) fun z hm => ?_
    have := hz.subset hm
    simp only [List.mem_append, List.mem_singleton] at this
    exact this.symm
/-! values -/
def sp_L_value : SpD := fun ds R => ds = [.st] ∧ ∀ x, isNm x = true → R (.str x)
def t_L_value : TDS := wSeq (wIfS (wT (w2 semEq (wCall sp_L_draw (wCons (wV .t 0) (wCons (wC (.int 5)) wNil))) (wC (.int 0)))) (wRet (wCall sp_L_word (wCons (wV .s 0) (wCons (wLst wNil) wNil)))) wNext)
    (wRet (wCall sp_L_pick (wCons (wV .s 0) (wCons (wLst (wCons (wC (.str "x")) (wCons (wC (.str "y")) wNil))) wNil))))
theorem rd_L_value (ds : List D) (R : DK) (hl : ds.length = 1) (h : sp_L_value ds R) : t_L_value { nx := fun _ => R .non, rt := R } (ini [.s] ds 1) := by
  obtain ⟨rfl, hR⟩ := h
  show t_L_value _ [Bd.val .st]
  unfold t_L_value
  walk_at "rd0"
  refine draw_i (by decide) (by decide) fun r h0 h1 => ?_
  walk_at "rd0"
  by_cases hr : r = 0
  · rw [decide_eq_true hr]
    exact word_i (xs := []) rfl (by simp) fun x hx _ => hR x hx
  · rw [decide_eq_false hr]
    refine pick_i rfl (by simp) (by simp) fun e he => ?_
    simp only [List.mem_cons, List.not_mem_nil, or_false] at he
    rcases he with rfl | rfl
    · exact hR _ (by decide +kernel)
    · exact hR _ (by decide +kernel)
end Tr
end
section
namespace Tr
open PySem PySem.Spec L2 TL
local macro_rules | `(tactic| walk_at "rd0") => `(tactic| simp only [wSeq, wIfS, wOr, wNot, wAnd, wT, wCall, wCons, wNil, wC, wV, wRet, wNext, wSet, bdS, wSetL, wSetD, wIf, wTup, wLst, wIsN, wNotN, w2, wChain, wAndV, wOrV, wNotV, wExp, wIt, wFor, wLc, wRg1, wItS, wD0, wD1, wSl, wO0, wO1, wJoin, wipeB, wSetLi, List.getElem?_cons_zero, List.getElem?_cons_succ, List.set_cons_zero, List.set_cons_succ, x_some, x_bl, x_int, x_str, l_P, l_I0, l_I, l_EqS, l_EqI, l_EqB, l_NeS, l_NeI, Bool.not_true, Bool.not_false, if_true, if_false, Bool.false_eq_true, eq_self_iff_true])

/-! rules -/
def okNs (ns cs : List Str) : Prop := cs.length ≤ 4 ∧ cs.Nodup ∧ (∀ c ∈ cs, c ∈ ns) ∧ srt cs = cs
abbrev tps (xs : List Str) : D := .tup (xs.map D.str)
def okRule (ns ls : List Str) (r : D) : Prop := ∃ cs, okNs ns cs ∧ (r = .tup [.str "bar", tps cs] ∨ r = .tup [.str "self", tps cs] ∨ (∃ v, isNm v = true ∧ r = .tup [.str "tell", tps cs, .str v]) ∨
  (∃ l ∈ ls, ∃ m : Str, (m = "try" ∨ m = "last") ∧ r = .tup [.str "give", tps cs, .str l, .str m]) ∨
  ∃ l ∈ ls, ∃ (u m : Str) (b : Bool), (u = "" ∨ u ∈ ns) ∧ (m = "try" ∨ m = "last") ∧ r = .tup [.str "send", tps cs, .str l, .str u, .str m, .bl b])
structure Names (ns : List Str) (n : Nat) : Prop where
  len : ns.length ≤ n
  nd : ns.Nodup
  nm : ∀ x ∈ ns, isNm x = true
theorem Names.ok {ns : List Str} {n : Nat} (h : Names ns n) : ∀ x ∈ ns, txtOk x = true := fun x m => nm_ok (h.nm x m)
def sp_L_rule : SpD := fun ds R => ∃ ns ls : List Str, ds = [.st, .lst (ns.map D.str), .lst (ls.map D.str)] ∧ Names ns 12 ∧ Names ls 12 ∧ ∀ r, okRule ns ls r → R r
theorem rule_i {ns ls : List Str} {R : DK} (h1 : Names ns 12) (h2 : Names ls 12) (h : ∀ r, okRule ns ls r → R r) : sp_L_rule [.st, .lst (ns.map D.str), .lst (ls.map D.str)] R := ⟨ns, ls, rfl, h1, h2, h⟩
def t_L_rule_8 : TDS := wSeq (wIfS (wT (w2 semEq (wV .t 4) (wC (.int 3)))) (wRet (wTup (wCons (wC (.str "give")) (wCons (wV .s 3) (wCons (wV .s 5) (wCons (wV .s 6) wNil)))))) wNext)
    (wSeq (wSet .s 7 (wCall sp_L_pick (wCons (wV .s 0) (wCons (w2 semCat (wLst (wCons (wC (.str "")) wNil)) (wV .s 1)) wNil))))
    (wRet (wTup (wCons (wC (.str "send")) (wCons (wV .s 3) (wCons (wV .s 5) (wCons (wV .s 7) (wCons (wV .s 6) (wCons (w2 semEq (wCall sp_L_draw (wCons (wV .t 0) (wCons (wC (.int 2)) wNil))) (wC (.int 1))) wNil)))))))))
def t_L_rule_6 : TDS := wSeq (wSet .s 5 (wCall sp_L_pick (wCons (wV .s 0) (wCons (wV .s 2) wNil))))
    (wSeq (wSet .s 6 (wCall sp_L_pick (wCons (wV .s 0) (wCons (wLst (wCons (wC (.str "try")) (wCons (wC (.str "last")) wNil))) wNil))))
    t_L_rule_8)
def t_L_rule_5 : TDS := wSeq (wIfS (wT (w2 semEq (wV .t 4) (wC (.int 2)))) (wRet (wTup (wCons (wC (.str "self")) (wCons (wV .s 3) wNil)))) wNext)
    t_L_rule_6
def t_L_rule_3 : TDS := wSeq (wIfS (wT (w2 semEq (wV .t 4) (wC (.int 0)))) (wRet (wTup (wCons (wC (.str "bar")) (wCons (wV .s 3) wNil)))) wNext)
    (wSeq (wIfS (wOr (wT (w2 semEq (wV .t 4) (wC (.int 1)))) (wAnd (wT (w2 semEqD (wV .t 2) (wLst wNil))) (wT (w2 (semP fun i j => decide (j < i)) (wV .t 4) (wC (.int 2)))))) (wRet (wTup (wCons (wC (.str "tell")) (wCons (wV .s 3) (wCons (wCall sp_L_value (wCons (wV .s 0) wNil)) wNil))))) wNext)
    t_L_rule_5)
def t_L_rule_2 : TDS := wSeq (wSet .s 4 (wCall sp_L_draw (wCons (wV .s 0) (wCons (wC (.int 10)) wNil))))
    t_L_rule_3
def t_L_rule : TDS := wSeq (wSet .s 3 (wTup wNil))
    (wSeq (wIfS (wT (w2 (semP fun i j => decide (j < i)) (wCall sp_L_draw (wCons (wV .t 0) (wCons (wC (.int 3)) wNil))) (wC (.int 0)))) (wSet .s 3 (wCall semTup (wCons (wCall semSrt (wCons (wSl (wCall sp_L_some (wCons (wV .t 0) (wCons (wV .t 1) wNil))) wO0 (wO1 (wC (.int 4)))) wNil)) wNil))) wNext)
    t_L_rule_2)
theorem rule_8 {ns ls : List Str} {R : DK} {E : EndsD} (hE : E.rt = R) (hn : Names ns 12) (hls : Names ls 12) (hR : ∀ r, okRule ns ls r → R r) {cs : List Str} (hcs : okNs ns cs) {k : Int} {l m : Str} {b : Bd} (hl : l ∈ ls) (hm : m = "try" ∨ m = "last") : t_L_rule_8 E [Bd.val .st, .val (.lst (ns.map D.str)), .val (.lst (ls.map D.str)), .val (tps cs), .val (.int k), .val (.str l), .val (.str m), b] := by
  unfold t_L_rule_8
  walk_at "rd0"
  rw [hE]
  by_cases h : k = 3
  · rw [decide_eq_true h]
    exact hR _ ⟨cs, hcs, .inr (.inr (.inr (.inl ⟨l, hl, m, hm, rfl⟩)))⟩
  · rw [decide_eq_false h]
    walk_at "rd0"
    refine ⟨_, _, rfl, rfl, ?_, ?_⟩
    · simp only [List.length_map, List.length_cons, List.length_nil]; exact Nat.le_trans (by have := hn.len; omega : 0 + 1 + ns.length ≤ 1000) (Nat.le_of_lt big)
    · refine pick_i rfl (by simp) (by have := hn.len; simp; omega) fun u hu => ?_
      obtain ⟨u, rfl, hu'⟩ : ∃ z, u = .str z ∧ (z = "" ∨ z ∈ ns) := by
        simp only [List.mem_append, List.mem_singleton, List.mem_map] at hu
        rcases hu with rfl | ⟨z, hz, rfl⟩
        · exact ⟨_, rfl, .inl rfl⟩
        · exact ⟨z, rfl, .inr hz⟩
      refine draw_i (by decide) (by decide) fun r _ _ => ?_
      walk_at "rd0"
      exact hR _ ⟨cs, hcs, .inr (.inr (.inr (.inr ⟨l, hl, u, m, _, hu', hm, rfl⟩)))⟩
theorem rule_3 {ns ls : List Str} {R : DK} {E : EndsD} (hE : E.rt = R) (hn : Names ns 12) (hls : Names ls 12) (hR : ∀ r, okRule ns ls r → R r) {cs : List Str} (hcs : okNs ns cs) {k : Int} (hk : 0 ≤ k) {b5 b6 b7 : Bd} : t_L_rule_3 E [Bd.val .st, .val (.lst (ns.map D.str)), .val (.lst (ls.map D.str)), .val (tps cs), .val (.int k), b5, b6, b7] := by
  unfold t_L_rule_3
  walk_at "rd0"
  rw [hE]
  by_cases h0 : k = 0
  · rw [decide_eq_true h0]
    exact hR _ ⟨cs, hcs, .inl rfl⟩
  rw [decide_eq_false h0]
  walk_at "rd0"
  have tell : sp_L_value [D.st] fun d => R (.tup [.str "tell", tps cs, d]) := ⟨rfl, fun v hv => hR _ ⟨cs, hcs, .inr (.inr (.inl ⟨v, hv, rfl⟩))⟩⟩
  have rest : k ≠ 1 → (ls = [] → k ≤ 2) → t_L_rule_5 E [Bd.val .st, .val (.lst (ns.map D.str)), .val (.lst (ls.map D.str)), .val (tps cs), .val (.int k), b5, b6, b7] := by
    intro h1 hlk
    unfold t_L_rule_5 t_L_rule_6
    walk_at "rd0"
    by_cases h2 : k = 2
    · rw [decide_eq_true h2, hE]
      exact hR _ ⟨cs, hcs, .inr (.inl rfl)⟩
    rw [decide_eq_false h2]
    walk_at "rd0"
    have hne : ls ≠ [] := fun e => by have := hlk e; omega
    refine pick_i (es := ls.map D.str) rfl (by simpa using hne) (by have := hls.len; simp; omega) fun l hl => ?_
    obtain ⟨l, hl', rfl⟩ := List.mem_map.mp hl
    refine pick_i rfl (by simp) (by simp) fun m hm => ?_
    obtain ⟨m, rfl, hm'⟩ : ∃ z : Str, m = .str z ∧ (z = "try" ∨ z = "last") := by
      simp only [List.mem_cons, List.not_mem_nil, or_false] at hm
      rcases hm with rfl | rfl
      · exact ⟨_, rfl, .inl rfl⟩
      · exact ⟨_, rfl, .inr rfl⟩
    exact rule_8 hE hn hls hR hcs hl' hm'
  by_cases h1 : k = 1
  · rw [decide_eq_true h1]
    exact tell
  rw [decide_eq_false h1]
  walk_at "rd0"
  refine eq_nil hls.ok ⟨_, rfl, ?_⟩
  by_cases hl : ls = []
  · rw [decide_eq_true hl]
    by_cases h2 : 2 < k
    · rw [decide_eq_true h2]
      exact tell
    · rw [decide_eq_false h2]
      exact rest h1 fun _ => by omega
  · rw [decide_eq_false hl]
    exact rest h1 fun z => absurd z hl
theorem rule_2 {ns ls : List Str} {R : DK} {E : EndsD} (hE : E.rt = R) (hn : Names ns 12) (hls : Names ls 12) (hR : ∀ r, okRule ns ls r → R r) {cs : List Str} (hcs : okNs ns cs) {b4 b5 b6 b7 : Bd} : t_L_rule_2 E [Bd.val .st, .val (.lst (ns.map D.str)), .val (.lst (ls.map D.str)), .val (tps cs), b4, b5, b6, b7] := by
  unfold t_L_rule_2
  walk_at "rd0"
  exact draw_i (by decide) (by decide) fun k h0 _ => rule_3 hE hn hls hR hcs h0
theorem rd_L_rule (ds : List D) (R : DK) (hl : ds.length = 3) (h : sp_L_rule ds R) : t_L_rule { nx := fun _ => R .non, rt := R } (ini [.s, .s, .s] ds 8) := by
  obtain ⟨ns, ls, rfl, hn, hls, hR⟩ := h
  show t_L_rule _ [Bd.val .st, .val (.lst (ns.map D.str)), .val (.lst (ls.map D.str)), .non, .non, .non, .non, .non]
  unfold t_L_rule
  walk_at "rd0"
  refine draw_i (by decide) (by decide) fun r h0 h1 => ?_
  walk_at "rd0"
  by_cases hr : 0 < r
  · simp only [decide_eq_true hr, if_true]
    refine some_i (es := ns.map D.str) rfl (by have := hn.len; simp; omega) fun sub hs => ?_
    refine .inl ⟨sub, rfl, ?_⟩
    obtain ⟨zs, rfl, hz⟩ := sub_strs hs
    rw [show (4 : Int) = ((4 : Nat) : Int) from rfl, cut_to, ← List.map_take]
    have hz4 : (zs.take 4).length ≤ 4 := List.length_take_le _ _
    refine l_srt (by omega) (l_tup rfl ?_)
    refine rule_2 rfl hn hls hR ⟨by rw [srt_len]; exact hz4, (srt_perm _).nodup_iff.mpr (List.Sublist.nodup (List.take_sublist _ _) (hz.nodup hn.nd)), fun c hc => hz.subset (List.mem_of_mem_take ((srt_perm _).mem_iff.mp hc)), srt_srt _⟩
  · rw [decide_eq_false hr]
    exact rule_2 (cs := []) rfl hn hls hR ⟨by simp, List.nodup_nil, (fun _ m => by cases m), srt_id List.Pairwise.nil⟩
end Tr
end
section
namespace Tr
open PySem PySem.Spec L2 TL
local macro_rules | `(tactic| walk_at "rd0") => `(tactic| simp only [wSeq, wIfS, wOr, wNot, wAnd, wT, wCall, wCons, wNil, wC, wV, wRet, wNext, wSet, bdS, wSetL, wSetD, wIf, wTup, wLst, wIsN, wNotN, w2, wChain, wAndV, wOrV, wNotV, wExp, wIt, wFor, wLc, wRg1, wItS, wD0, wD1, wSl, wO0, wO1, wJoin, wipeB, wSetLi, List.getElem?_cons_zero, List.getElem?_cons_succ, List.set_cons_zero, List.set_cons_succ, x_some, x_bl, x_int, x_str, l_P, l_I0, l_I, l_EqS, l_EqI, l_EqB, l_NeS, l_NeI, Bool.not_true, Bool.not_false, if_true, if_false, Bool.false_eq_true, eq_self_iff_true])

/-! own answers -/
def okAns (ls : List Str) (d : D) : Prop := (∃ v, isNm v = true ∧ d = .tup [.str "value", .str v]) ∨ d = .tup [.str "self"] ∨ ∃ l ∈ ls, d = .tup [.str "link", .str l]
structure okOwn (ns ls : List Str) (ps : List (Str × D)) : Prop where
  nd : (ps.map (·.1)).Nodup
  len : ps.length ≤ 5
  key : ∀ p ∈ ps, p.1 ∈ ns
  ans : ∀ p ∈ ps, okAns ls p.2
def sp_L_own : SpD := fun ds R => ∃ ns ls : List Str, ds = [.st, .lst (ns.map D.str), .lst (ls.map D.str)] ∧ Names ns 12 ∧ Names ls 12 ∧ ∀ ps, okOwn ns ls ps → R (.dct (enc ps))
theorem own_i {ns ls : List Str} {R : DK} (h1 : Names ns 12) (h2 : Names ls 12) (h : ∀ ps, okOwn ns ls ps → R (.dct (enc ps))) : sp_L_own [.st, .lst (ns.map D.str), .lst (ls.map D.str)] R := ⟨ns, ls, rfl, h1, h2, h⟩
def t_L_own : TDS := wSeq (wSetD 3)
    (wSeq (wFor (wIt (wSl (wV .s 1) wO0 (wO1 (wC (.int 5))))) (st1 .s 4)
    (wSeq (wSet .s 5 (wCall sp_L_draw (wCons (wV .s 0) (wCons (wC (.int 8)) wNil))))
    (wSeq (wIfS (wT (w2 semEq (wV .t 5) (wC (.int 0)))) (wPut 3 (wV .t 4) (wTup (wCons (wC (.str "value")) (wCons (wCall sp_L_value (wCons (wV .s 0) wNil)) wNil)))) wNext)
    (wSeq (wIfS (wT (w2 semEq (wV .t 5) (wC (.int 1)))) (wPut 3 (wV .t 4) (wTup (wCons (wC (.str "self")) wNil))) wNext)
    (wIfS (wAnd (wT (w2 semEq (wV .t 5) (wC (.int 2)))) (wT (w2 semNeD (wV .t 2) (wLst wNil)))) (wPut 3 (wV .t 4) (wTup (wCons (wC (.str "link")) (wCons (wCall sp_L_pick (wCons (wV .s 0) (wCons (wV .s 2) wNil))) wNil)))) wNext)))))
    (wRel 3 (wRet (wV .s 3))))
abbrev ownBody : TDS := wSeq (wSet .s 5 (wCall sp_L_draw (wCons (wV .s 0) (wCons (wC (.int 8)) wNil))))
    (wSeq (wIfS (wT (w2 semEq (wV .t 5) (wC (.int 0)))) (wPut 3 (wV .t 4) (wTup (wCons (wC (.str "value")) (wCons (wCall sp_L_value (wCons (wV .s 0) wNil)) wNil)))) wNext)
    (wSeq (wIfS (wT (w2 semEq (wV .t 5) (wC (.int 1)))) (wPut 3 (wV .t 4) (wTup (wCons (wC (.str "self")) wNil))) wNext)
    (wIfS (wAnd (wT (w2 semEq (wV .t 5) (wC (.int 2)))) (wT (w2 semNeD (wV .t 2) (wLst wNil)))) (wPut 3 (wV .t 4) (wTup (wCons (wC (.str "link")) (wCons (wCall sp_L_pick (wCons (wV .s 0) (wCons (wV .s 2) wNil))) wNil)))) wNext)))
abbrev ownSt (ns ls : List Str) (acc : List (Str × D)) (b c : Bd) : Ev := [.val .st, .val (.lst (ns.map D.str)), .val (.lst (ls.map D.str)), .od (enc acc), b, c]
theorem put_enc {acc : List (Str × D)} {x : Str} {d : D} (h : x ∉ acc.map (·.1)) : putD (enc acc) (.inr x) d = enc (acc ++ [(x, d)]) := by
  rw [putD_new]
  · simp [enc]
  · intro z
    simp only [enc, List.map_map, List.mem_map] at z h
    obtain ⟨p, hp, e⟩ := z
    exact h ⟨p, hp, by simpa using e⟩
theorem own_body {ns ls : List Str} {E : EndsD} (hls : Names ls 12) {acc : List (Str × D)} {x : Str} {c : Bd} (hz : acc.length ≤ 5) (hx : x ∉ acc.map (·.1))
    (h0 : ∀ c, E.nx (ownSt ns ls acc (.val (.str x)) c)) (h1 : ∀ d c, okAns ls d → E.nx (ownSt ns ls (acc ++ [(x, d)]) (.val (.str x)) c)) : ownBody E (ownSt ns ls acc (.val (.str x)) c) := by
  unfold ownBody ownSt
  walk_at "rd0"
  refine draw_i (by decide) (by decide) fun k k0 k1 => ?_
  have hz2 : (enc acc).length < sizeLine := by simp only [enc, List.length_map]; exact Nat.lt_trans (by omega : acc.length < 1000) big
  walk_at "rd0"
  by_cases c0 : k = 0
  · subst c0
    simp only [decide_true, if_true]
    refine ⟨enc acc, rfl, ?_⟩
    walk_at "rd0"
    refine ⟨rfl, fun v hv => ⟨.inr x, rfl, hz2, ?_⟩⟩
    rw [put_enc hx]
    have := h1 (.tup [.str "value", .str v]) (.val (.int 0)) (.inl ⟨v, hv, rfl⟩)
    simpa using this
  · simp only [decide_eq_false c0, if_false, Bool.false_eq_true]
    by_cases c1 : k = 1
    · subst c1
      simp only [decide_true, if_true]
      refine ⟨enc acc, rfl, ?_⟩
      walk_at "rd0"
      refine ⟨.inr x, rfl, hz2, ?_⟩
      rw [put_enc hx]
      have := h1 (.tup [.str "self"]) (.val (.int 1)) (.inr (.inl rfl))
      simpa using this
    · simp only [decide_eq_false c1, if_false, Bool.false_eq_true]
      by_cases c2 : k = 2
      · subst c2
        simp only [decide_true, if_true]
        refine ne_nil hls.ok ⟨_, rfl, ?_⟩
        by_cases hl : ls = []
        · simp only [decide_eq_true hl, Bool.not_true, if_false, Bool.false_eq_true]
          exact h0 _
        · simp only [decide_eq_false hl, Bool.not_false, if_true]
          refine ⟨enc acc, rfl, ?_⟩
          walk_at "rd0"
          refine pick_i (es := ls.map D.str) rfl (by simpa using hl) (by have := hls.len; simp; omega) fun l hl => ?_
          obtain ⟨l, hl', rfl⟩ := List.mem_map.mp hl
          refine ⟨.inr x, rfl, hz2, ?_⟩
          rw [put_enc hx]
          exact h1 (.tup [.str "link", .str l]) (.val (.int 2)) (.inr (.inr ⟨l, hl', rfl⟩))
      · simp only [decide_eq_false c2, if_false, Bool.false_eq_true]
        exact h0 _
theorem own_loop {ns ls : List Str} {E : EndsD} (hls : Names ls 12) : ∀ (xs : List Str) (acc : List (Str × D)) (b c : Bd), acc.length + xs.length ≤ 5 → (acc.map (·.1) ++ xs).Nodup → (∀ x ∈ xs, x ∈ ns) → (∀ p ∈ acc, p.1 ∈ ns) → (∀ p ∈ acc, okAns ls p.2) →
    (∀ ps, okOwn ns ls ps → ∀ b c, E.nx (ownSt ns ls ps b c)) → wForL (st1 .s 4) ownBody E (xs.map D.str) (ownSt ns ls acc b c)
  | [], acc, b, c, hz, hn, hx, ha, hb, h => h acc ⟨by simpa using hn, by simpa using hz, ha, hb⟩ b c
  | x :: xs, acc, b, c, hz, hn, hx, ha, hb, h => by
    simp only [List.length_cons] at hz
    have hxn : x ∉ acc.map (·.1) := fun z => by
      rw [List.nodup_append] at hn
      exact hn.2.2 x z x List.mem_cons_self rfl
    have hn1 : (acc.map (·.1) ++ xs).Nodup := List.Sublist.nodup (List.Sublist.append_left (List.sublist_cons_self x xs) _) hn
    refine ⟨_, rfl, own_body hls (by omega) hxn (fun c => own_loop hls xs acc _ _ (by omega) hn1 (fun y m => hx y (List.mem_cons_of_mem _ m)) ha hb h) fun d c hd => ?_⟩
    refine own_loop hls xs (acc ++ [(x, d)]) _ _ (by simp; omega) (by simpa using hn) (fun y m => hx y (List.mem_cons_of_mem _ m)) (fun p m => ?_) (fun p m => ?_) h
    · rcases List.mem_append.mp m with m | m
      · exact ha p m
      · rw [List.mem_singleton.mp m]; exact hx x List.mem_cons_self
    · rcases List.mem_append.mp m with m | m
      · exact hb p m
      · rw [List.mem_singleton.mp m]; exact hd
theorem rd_L_own (ds : List D) (R : DK) (hl : ds.length = 3) (h : sp_L_own ds R) : t_L_own { nx := fun _ => R .non, rt := R } (ini [.s, .s, .s] ds 6) := by
  obtain ⟨ns, ls, rfl, hn, hls, hR⟩ := h
  show t_L_own _ [Bd.val .st, .val (.lst (ns.map D.str)), .val (.lst (ls.map D.str)), .non, .non, .non]
  unfold t_L_own
  walk_at "rd0"
  refine .inl ⟨_, rfl, _, rfl, ?_⟩
  rw [show (5 : Int) = ((5 : Nat) : Int) from rfl, cut_to, ← List.map_take]
  refine own_loop hls (ns.take 5) [] _ _ (by simp; omega) (by simpa using List.Sublist.nodup (List.take_sublist _ _) hn.nd) (fun x m => List.mem_of_mem_take m) (fun _ m => by cases m) (fun _ m => by cases m) ?_
  exact fun ps hp b c => ⟨_, rfl, hR ps hp⟩
/-! links -/
def sp_L_doors : SpD := fun ds R => ∃ m : Nat, ds = [.st, .int m] ∧ m ≤ 12 ∧ ∀ xs, Names xs m → R (.lst (xs.map D.str))
theorem doors_i {m : Nat} {R : DK} (hm : m ≤ 12) (h : ∀ xs, Names xs m → R (.lst (xs.map D.str))) : sp_L_doors [.st, .int m] R := ⟨m, rfl, hm, h⟩
def t_L_doors : TDS := wSeq (wIfS (wOr (wT (w2 semEq (wV .t 1) (wC (.int 0)))) (wT (w2 semEq (wCall sp_L_draw (wCons (wV .t 0) (wCons (wC (.int 6)) wNil))) (wC (.int 0))))) (wRet (wLst wNil)) wNext)
    (wRet (wCall sp_L_words (wCons (wV .s 0) (wCons (wCall semMin (wCons (wV .t 1) (wCons (w2 (semI0 fun i j => i + j) (wC (.int 1)) (wCall sp_L_draw (wCons (wV .t 0) (wCons (w2 (semI0 fun i j => i + j) (wV .t 1) (wC (.int 1))) wNil)))) wNil))) wNil))))
theorem rd_L_doors (ds : List D) (R : DK) (hl : ds.length = 2) (h : sp_L_doors ds R) : t_L_doors { nx := fun _ => R .non, rt := R } (ini [.s, .s] ds 2) := by
  obtain ⟨m, rfl, hm, hR⟩ := h
  show t_L_doors _ [Bd.val .st, .val (.int m)]
  unfold t_L_doors
  walk_at "rd0"
  have no : R (.lst []) := hR [] ⟨by simp, List.nodup_nil, fun _ m => by cases m⟩
  by_cases h0 : (m : Int) = 0
  · rw [decide_eq_true h0]
    exact no
  simp only [decide_eq_false h0, if_false, Bool.false_eq_true]
  refine draw_i (by decide) (by decide) fun r r0 r1 => ?_
  walk_at "rd0"
  by_cases h1 : r = 0
  · rw [decide_eq_true h1]
    exact no
  simp only [decide_eq_false h1, if_false, Bool.false_eq_true]
  refine draw_i (by omega) (by omega) fun q q0 q1 => ?_
  walk_at "rd0"
  refine ⟨_, _, rfl, ?_⟩
  obtain ⟨k, hk, hkm⟩ : ∃ k : Nat, (if 1 + q < (m : Int) then 1 + q else (m : Int)) = (k : Nat) ∧ k ≤ m := by
    by_cases hq : 1 + q < (m : Int)
    · exact ⟨(1 + q).toNat, by rw [if_pos hq]; omega, by omega⟩
    · exact ⟨m, by rw [if_neg hq], Nat.le_refl _⟩
  rw [hk]
  exact words_i (by omega) fun xs e1 e2 e3 => hR xs ⟨by omega, e3, e2⟩
end Tr
end
section
namespace Tr
open PySem PySem.Spec L2 TL
local macro_rules | `(tactic| walk_at "rd0") => `(tactic| simp only [wSeq, wIfS, wOr, wNot, wAnd, wT, wCall, wCons, wNil, wC, wV, wRet, wNext, wSet, bdS, wSetL, wSetD, wIf, wTup, wLst, wIsN, wNotN, w2, wChain, wAndV, wOrV, wNotV, wExp, wIt, wFor, wLc, wRg1, wItS, wD0, wD1, wSl, wO0, wO1, wJoin, wipeB, wSetLi, List.getElem?_cons_zero, List.getElem?_cons_succ, List.set_cons_zero, List.set_cons_succ, x_some, x_bl, x_int, x_str, l_P, l_I0, l_I, l_EqS, l_EqI, l_EqB, l_NeS, l_NeI, Bool.not_true, Bool.not_false, if_true, if_false, Bool.false_eq_true, eq_self_iff_true])

/-! a drawn kind, a drawn house -/
structure Kd where
  nm : Str
  leads : List (Str × List Str)
  own : List (Str × D)
  rules : List D
  hid : Bool
def encL (ls : List (Str × List Str)) : List (Key × D) := enc (ls.map fun p => (p.1, tps p.2))
def Kd.d (k : Kd) : D := .lst [.str k.nm, .dct (encL k.leads), .dct (enc k.own), .lst k.rules, .bl k.hid]
abbrev Kd.ls (k : Kd) : List Str := k.leads.map (·.1)
structure okKd (ks asked : List Str) (L N : Nat) (k : Kd) : Prop where
  ls : Names k.ls L
  ch : ∀ p ∈ k.leads, okCh ks p.2
  own : okOwn asked k.ls k.own
  rl : k.rules.length ≤ N
  ru : ∀ r ∈ k.rules, okRule asked k.ls r
structure okHs (K L A N : Nat) (hs : List Kd) : Prop where
  ks : Names (hs.map (·.nm)) K
  ne : hs ≠ []
  kd : ∃ asked, asked ≠ [] ∧ Names asked A ∧ ∀ k ∈ hs, okKd (hs.map (·.nm)) asked L N k
def sp_L_house : SpD := fun ds R => ∃ K L A N : Nat, ds = [.st, .int K, .int L, .int A, .int N] ∧ (1 ≤ K ∧ K ≤ 8) ∧ L ≤ 12 ∧ (1 ≤ A ∧ A ≤ 12) ∧ N ≤ 100 ∧ ∀ hs, okHs K L A N hs → R (.lst (hs.map Kd.d))
theorem house_i {K L A N : Nat} {R : DK} (h1 : 1 ≤ K ∧ K ≤ 8) (h2 : L ≤ 12) (h3 : 1 ≤ A ∧ A ≤ 12) (h4 : N ≤ 100) (h : ∀ hs, okHs K L A N hs → R (.lst (hs.map Kd.d))) : sp_L_house [.st, .int K, .int L, .int A, .int N] R := ⟨K, L, A, N, rfl, h1, h2, h3, h4, h⟩
def t_L_house_f0 : TDS := wPut 10 (wV .t 11) (wCall sp_L_choices (wCons (wV .s 0) (wCons (wV .s 5) wNil)))
def t_L_house_f1 : TDS := wSeq (wSet .s 9 (wCall sp_L_doors (wCons (wV .s 0) (wCons (wV .s 2) wNil))))
    (wSeq (wSetD 10)
    (wSeq (wFor (wIt (wV .s 9)) (st1 .s 11)
    t_L_house_f0)
    (wSeq (wSet .s 12 (wLc (wRg1 (wCons (wCall sp_L_draw (wCons (wV .t 0) (wCons (w2 (semI0 fun i j => i + j) (wV .t 4) (wC (.int 1))) wNil))) wNil)) (st1 .s 13) wYes (wCall sp_L_rule (wCons (wV .s 0) (wCons (wV .s 6) (wCons (wV .s 9) wNil)))) [13]))
    (wRel 10 (wApp 7 (wLst (wCons (wV .s 8) (wCons (wV .s 10) (wCons (wCall sp_L_own (wCons (wV .s 0) (wCons (wV .s 6) (wCons (wV .s 9) wNil)))) (wCons (wV .s 12) (wCons (w2 semEq (wCall sp_L_draw (wCons (wV .t 0) (wCons (wC (.int 4)) wNil))) (wC (.int 0))) wNil)))))))))))
def t_L_house_2 : TDS := wSeq (wSetL 7 wNil)
    (wSeq (wFor (wIt (wV .s 5)) (st1 .s 8)
    t_L_house_f1)
    (wRel 7 (wRet (wV .s 7))))
def t_L_house : TDS := wSeq (wSet .s 5 (wCall sp_L_words (wCons (wV .s 0) (wCons (w2 (semI0 fun i j => i + j) (wC (.int 1)) (wCall sp_L_draw (wCons (wV .t 0) (wCons (wV .t 1) wNil)))) wNil))))
    (wSeq (wSet .s 6 (wCall sp_L_words (wCons (wV .s 0) (wCons (w2 (semI0 fun i j => i + j) (wC (.int 1)) (wCall sp_L_draw (wCons (wV .t 0) (wCons (wV .t 3) wNil)))) wNil))))
    t_L_house_2)
abbrev hSt (K L A N : Nat) (ks asked : List Str) (b7 b8 b9 b10 b11 b12 b13 : Bd) : Ev := [.val .st, .val (.int K), .val (.int L), .val (.int A), .val (.int N), .val (.lst (ks.map D.str)), .val (.lst (asked.map D.str)), b7, b8, b9, b10, b11, b12, b13]
theorem leads_loop {K L A N : Nat} {ks asked : List Str} {b7 b8 b9 b12 b13 : Bd} {E : EndsD} (hk : Names ks 8) (hne : ks ≠ []) : ∀ (xs : List Str) (acc : List (Str × List Str)) (b : Bd), (acc.map (·.1) ++ xs).Nodup → acc.length + xs.length ≤ 12 → (∀ p ∈ acc, okCh ks p.2) →
    (∀ ls : List (Str × List Str), ls.map (·.1) = acc.map (·.1) ++ xs → (∀ p ∈ ls, okCh ks p.2) → ∀ b, E.nx (hSt K L A N ks asked b7 b8 b9 (.od (encL ls)) b b12 b13)) → wForL (st1 .s 11) t_L_house_f0 E (xs.map D.str) (hSt K L A N ks asked b7 b8 b9 (.od (encL acc)) b b12 b13)
  | [], acc, b, hn, hz, ha, h => h acc (by simp) ha b
  | x :: xs, acc, b, hn, hz, ha, h => by
    simp only [List.length_cons] at hz
    have hxn : x ∉ acc.map (·.1) := fun z => by
      rw [List.nodup_append] at hn
      exact hn.2.2 x z x List.mem_cons_self rfl
    refine ⟨_, rfl, ?_⟩
    unfold t_L_house_f0
    refine ⟨encL acc, rfl, ?_⟩
    walk_at "rd0"
    refine choices_i hne hk.len hk.nd hk.nm fun ys hy => ⟨.inr x, rfl, ?_, ?_⟩
    · simp only [encL, enc, List.length_map]; exact Nat.lt_trans (by omega : acc.length < 1000) big
    · have e : putD (encL acc) (.inr x) (tps ys) = encL (acc ++ [(x, ys)]) := by
        unfold encL
        rw [put_enc]
        · simp
        · rw [List.map_map]; exact hxn
      rw [e]
      refine leads_loop hk hne xs (acc ++ [(x, ys)]) _ (by simpa using hn) (by simp; omega) (fun p m => ?_) (fun ls h1 h2 => h ls (by rw [h1]; simp) h2)
      rcases List.mem_append.mp m with m | m
      · exact ha p m
      · rw [List.mem_singleton.mp m]; exact hy
theorem Names.mono {xs : List Str} {n m : Nat} (h : Names xs n) (hm : n ≤ m) : Names xs m := ⟨Nat.le_trans h.len hm, h.nd, h.nm⟩
theorem house_body {K L A N : Nat} {ks asked : List Str} {acc : List D} {x : Str} {b9 b10 b11 b12 b13 : Bd} {E : EndsD} (hk : Names ks 8) (hne : ks ≠ []) (ha : Names asked 12) (hL : L ≤ 12) (hN : N ≤ 100) (hz : acc.length < 1000)
    (h : ∀ k : Kd, k.nm = x → okKd ks asked L N k → ∀ b9 b10 b11 b12 b13, E.nx (hSt K L A N ks asked (.ol (acc ++ [k.d])) (.val (.str x)) b9 b10 b11 b12 b13)) : t_L_house_f1 E (hSt K L A N ks asked (.ol acc) (.val (.str x)) b9 b10 b11 b12 b13) := by
  unfold t_L_house_f1 hSt
  walk_at "rd0"
  refine doors_i hL fun xs hxs => ⟨_, rfl, ?_⟩
  refine leads_loop hk hne xs [] _ (by simpa using hxs.nd) (by have := hxs.len; simp; omega) (fun _ m => by cases m) fun ls h1 h2 b => ?_
  have h1 : ls.map (·.1) = xs := by simpa using h1
  walk_at "rd0"
  refine draw_i (by omega) (by omega) fun n n0 n1 => ⟨n, rfl, by omega, by omega, ?_⟩
  obtain ⟨m, rfl⟩ := Int.eq_ofNat_of_zero_le n0
  have er : (rangeD 0 (m : Int).toNat).length = m := by simp [rangeD]
  refine lc_any (fun r => okRule asked xs r) _ [] (fun d hd => ⟨_, rfl, fun R' hR' => ?_⟩) (by rw [er]; simp only [List.length_nil, Nat.add_zero]; exact Nat.le_trans (by omega : m ≤ 1000) (Nat.le_of_lt big)) fun rs hr1 hr2 => ?_
  · walk_at "rd0"
    exact rule_i ha (hxs.mono hL) hR'
  · rw [er] at hr1
    refine ⟨_, rfl, acc, rfl, ?_⟩
    walk_at "rd0"
    refine own_i ha (hxs.mono hL) fun ps hp => ?_
    refine draw_i (by decide) (by decide) fun q _ _ => ?_
    walk_at "rd0"
    refine ⟨Nat.lt_trans hz big, ?_⟩
    have e : Kd.ls ⟨x, ls, ps, rs, decide (q = 0)⟩ = xs := h1
    exact h ⟨x, ls, ps, rs, decide (q = 0)⟩ rfl ⟨e ▸ hxs, h2, e ▸ hp, by show rs.length ≤ N; omega, e ▸ hr2⟩ _ _ _ _ _
theorem house_loop {K L A N : Nat} {ks asked : List Str} {E : EndsD} (hk : Names ks 8) (hne : ks ≠ []) (ha : Names asked 12) (hL : L ≤ 12) (hN : N ≤ 100)
    (h : ∀ hs : List Kd, hs.map (·.nm) = ks → (∀ k ∈ hs, okKd ks asked L N k) → ∀ b8 b9 b10 b11 b12 b13, E.nx (hSt K L A N ks asked (.ol (hs.map Kd.d)) b8 b9 b10 b11 b12 b13)) :
    ∀ (xs : List Str) (acc : List Kd) b8 b9 b10 b11 b12 b13, acc.map (·.nm) ++ xs = ks → (∀ k ∈ acc, okKd ks asked L N k) → wForL (st1 .s 8) t_L_house_f1 E (xs.map D.str) (hSt K L A N ks asked (.ol (acc.map Kd.d)) b8 b9 b10 b11 b12 b13)
  | [], acc, b8, b9, b10, b11, b12, b13, e, hc => h acc (by simpa using e) hc _ _ _ _ _ _
  | x :: xs, acc, b8, b9, b10, b11, b12, b13, e, hc => by
    have hl : acc.length ≤ 8 := by
      have h1 := congrArg List.length e
      have h2 := hk.len
      simp only [List.length_append, List.length_map] at h1
      omega
    refine ⟨_, rfl, house_body hk hne ha hL hN (by simp; omega) fun k hk1 hk2 b9 b10 b11 b12 b13 => ?_⟩
    have em : acc.map Kd.d ++ [k.d] = (acc ++ [k]).map Kd.d := by simp
    rw [em]
    refine house_loop hk hne ha hL hN h xs (acc ++ [k]) _ _ _ _ _ _ (by rw [← e]; simp [hk1]) fun k' m => ?_
    rcases List.mem_append.mp m with m | m
    · exact hc k' m
    · rw [List.mem_singleton.mp m]; exact hk2
theorem rd_L_house (ds : List D) (R : DK) (hl : ds.length = 5) (h : sp_L_house ds R) : t_L_house { nx := fun _ => R .non, rt := R } (ini [.s, .s, .s, .s, .s] ds 14) := by
  obtain ⟨K, L, A, N, rfl, hK, hL, hA, hN, hR⟩ := h
  show t_L_house _ [Bd.val .st, .val (.int K), .val (.int L), .val (.int A), .val (.int N), .non, .non, .non, .non, .non, .non, .non, .non, .non]
  unfold t_L_house
  walk_at "rd0"
  refine draw_i (by omega) (by omega) fun n n0 n1 => ?_
  obtain ⟨n, rfl⟩ := Int.eq_ofNat_of_zero_le n0
  walk_at "rd0"
  rw [show (1 : Int) + (n : Nat) = ((n + 1 : Nat) : Int) by omega]
  refine words_i (by omega) fun ks k1 k2 k3 => ?_
  refine draw_i (by omega) (by omega) fun m m0 m1 => ?_
  obtain ⟨m, rfl⟩ := Int.eq_ofNat_of_zero_le m0
  walk_at "rd0"
  rw [show (1 : Int) + (m : Nat) = ((m + 1 : Nat) : Int) by omega]
  refine words_i (by omega) fun asked a1 a2 a3 => ?_
  unfold t_L_house_2
  walk_at "rd0"
  refine ⟨_, rfl, ?_⟩
  have hne : ks ≠ [] := fun e => by rw [e] at k1; simp at k1
  have hna : asked ≠ [] := fun e => by rw [e] at a1; simp at a1
  refine house_loop ⟨by omega, k3, k2⟩ hne ⟨by omega, a3, a2⟩ hL hN ?_ ks [] _ _ _ _ _ _ (by simp) (fun _ m => by cases m)
  intro hs e1 e2 b8 b9 b10 b11 b12 b13
  refine ⟨_, rfl, hR hs ⟨by rw [e1]; exact ⟨by omega, k3, k2⟩, fun e => hne (by rw [← e1, e]; rfl), asked, hna, ⟨by omega, a3, a2⟩, by rw [e1]; exact e2⟩⟩
end Tr
end
section
namespace Tr
open PySem PySem.Spec L2 TL
local macro_rules | `(tactic| walk_at "rd0") => `(tactic| simp only [wSeq, wIfS, wOr, wNot, wAnd, wT, wCall, wCons, wNil, wC, wV, wRet, wNext, wSet, bdS, wSetL, wSetD, wIf, wTup, wLst, wIsN, wNotN, w2, wChain, wAndV, wOrV, wNotV, wExp, wIt, wFor, wLc, wRg1, wItS, wD0, wD1, wSl, wO0, wO1, wJoin, wipeB, wSetLi, List.getElem?_cons_zero, List.getElem?_cons_succ, List.set_cons_zero, List.set_cons_succ, x_some, x_bl, x_int, x_str, l_P, l_I0, l_I, l_EqS, l_EqI, l_EqB, l_NeS, l_NeI, Bool.not_true, Bool.not_false, if_true, if_false, Bool.false_eq_true, eq_self_iff_true])

/-! alike -/
def scal : D → Bool
  | .non => true
  | .bl _ => true
  | .int _ => true
  | .str _ => true
  | _ => false
def likeD : Nat → D → D → Prop
  | 0, _, _ => False
  | n + 1, .dct a, .dct b => (∃ xs ys : List Str, a.map (·.1) = xs.map Sum.inr ∧ b.map (·.1) = ys.map Sum.inr ∧ srt xs = srt ys ∧ xs.length < 64 ∧ ys.length < 64 ∧ (∀ x ∈ xs, txtOk x = true) ∧ ∀ y ∈ ys, txtOk y = true) ∧ (b.map (·.1)).Nodup ∧ ∀ k d, (k, d) ∈ b → ∃ d', valD a k = some d' ∧ likeD n d' d
  | n + 1, .lst a, .lst b => a.length = b.length ∧ b.length < 1000 ∧ ∀ (i : Nat) d d', a[i]? = some d → b[i]? = some d' → likeD n d d'
  | n + 1, .tup a, .tup b => a.length = b.length ∧ b.length < 1000 ∧ ∀ (i : Nat) d d', a[i]? = some d → b[i]? = some d' → likeD n d d'
  | n + 1, a, b => a = b ∧ scal a = true
def sp_L_like (n : Nat) : SpD := fun ds R => ∃ a b, ds = [a, b] ∧ likeD n a b ∧ R (.bl true)
theorem like_i {n : Nat} {a b : D} {R : DK} (h : likeD n a b) (hR : R (.bl true)) : sp_L_like n [a, b] R := ⟨a, b, rfl, h, hR⟩
def t_L_like (n : Nat) (K : PySem.W.Frag): TDS := wSeq (wIfS (wT (wCall semIsi (wCons (wV .t 1) (wCons (wC (.ty "dict")) wNil)))) (wSeq (wIfS (wOr (wNot (wT (wCall semIsi (wCons (wV .t 0) (wCons (wC (.ty "dict")) wNil))))) (wT (w2 semNeD (wCall semSrt (wCons (wCall semLst (wCons (wV .t 0) wNil)) wNil)) (wCall semSrt (wCons (wCall semLst (wCons (wV .t 1) wNil)) wNil))))) (wRet (wC (.bl false))) wNext)
    (wRet (w2 semEqD (wLc (wItK (wV .w 1)) (st1 .s 2) (wNot (wT (wCall (sp_L_like n) (wCons (wDGet (wV .t 0) (wV .t 2)) (wCons (wDGet (wV .t 1) (wV .t 2)) wNil))))) (wV .s 2) [2]) (wLst wNil)))) wNext)
    (wSeq (wIfS (wT (wCall (semIsiT K) (wCons (wV .t 1) (wCons (wTup (wCons (wC (.ty "list")) (wCons (wC (.ty "tuple")) wNil))) wNil)))) (wSeq (wIfS (wOr (wNot (wT (wCall (semIsiT K) (wCons (wV .t 0) (wCons (wTup (wCons (wC (.ty "list")) (wCons (wC (.ty "tuple")) wNil))) wNil))))) (wT (w2 semNe (wCall semIsi (wCons (wV .t 0) (wCons (wC (.ty "list")) wNil))) (wCall semIsi (wCons (wV .t 1) (wCons (wC (.ty "list")) wNil)))))) (wRet (wC (.bl false))) wNext)
    (wSeq (wIfS (wT (w2 semNe (wCall semLen (wCons (wV .t 0) wNil)) (wCall semLen (wCons (wV .t 1) wNil)))) (wRet (wC (.bl false))) wNext)
    (wRet (w2 semEqD (wLc (wRg1 (wCons (wCall semLen (wCons (wV .t 1) wNil)) wNil)) (st1 .s 2) (wNot (wT (wCall (sp_L_like n) (wCons (w2 semIx (wV .t 0) (wV .t 2)) (wCons (w2 semIx (wV .t 1) (wV .t 2)) wNil))))) (wV .s 2) [2]) (wLst wNil))))) wNext)
    (wSeq (wIfS (wT (w2 semNe (wCall semIsi (wCons (wV .t 0) (wCons (wC (.ty "bool")) wNil))) (wCall semIsi (wCons (wV .t 1) (wCons (wC (.ty "bool")) wNil))))) (wRet (wC (.bl false))) wNext)
    (wRet (wAndV (w2 semEq (wCall semIsi (wCons (wV .t 0) (wCons (wC (.ty "int")) wNil))) (wCall semIsi (wCons (wV .t 1) (wCons (wC (.ty "int")) wNil)))) (w2 semEq (wV .t 0) (wV .t 1))))))
theorem pisi_dict {d : D} (h : plainD d = true) (R : DK) : semIsi [d, .ty "dict"] R ↔ R (.bl (isDctD d)) := by
  rw [l_isi, isi_dict h]; exact x_some
theorem pisi_list {d : D} (h : plainD d = true) (R : DK) : semIsi [d, .ty "list"] R ↔ R (.bl (isLstD d)) := by
  rw [l_isi, isi_list h]; exact x_some
theorem pisi_bool {d : D} (h : plainD d = true) (R : DK) : semIsi [d, .ty "bool"] R ↔ R (.bl (isBlD d)) := by
  rw [l_isi, isi_bool h]; exact x_some
theorem pisi_int {d : D} (h : plainD d = true) (R : DK) : semIsi [d, .ty "int"] R ↔ R (.bl (isIntD d)) := by
  rw [l_isi, isi_int h]; exact x_some
theorem pisi_seq {K : PySem.W.Frag} {d : D} (h : plainD d = true) (R : DK) : semIsiT K [d, .tup [.ty "list", .ty "tuple"]] R ↔ R (.bl (isSeqD d)) := by
  rw [l_isiLT, isi_seq h]; exact x_some
theorem lc_none {stt : Ev → D → Option Ev} {wt : TDT} {we : TDE} {ρ : Ev} {R : DK} {ds : List D} (h : ∀ d ∈ ds, ∃ ρ', stt ρ d = some ρ' ∧ ∀ R' : Bool → Prop, R' false → wt ρ' R') (hz : ds.length ≤ sizeLine) (hR : R (.lst [])) : wLcL stt wt we ρ R ds [] := by
  refine lc_filter (fun _ => false) id ds [] (fun d hd => ?_) (by simpa using hz) ?_
  · obtain ⟨ρ', e, k⟩ := h d hd
    exact ⟨ρ', e, k, fun R' z => by cases z⟩
  · have e : ds.filter (fun _ => false) = [] := List.filter_eq_nil_iff.mpr (by simp)
    rw [e]
    exact hR
theorem keys_strs {kvs : List (Key × D)} {xs : List Str} (h : kvs.map (·.1) = xs.map Sum.inr) : (kvs.map fun kv => keyToD kv.1) = xs.map D.str := by
  have e : (kvs.map fun kv => keyToD kv.1) = (kvs.map (·.1)).map keyToD := by rw [List.map_map]; rfl
  rw [e, h, List.map_map]; rfl
theorem eq_nn {R : DK} (h : R (.bl true)) : semEqD (.lst []) (.lst []) R := eq_strs (xs := []) (ys := []) (fun _ m => by cases m) (fun _ m => by cases m) h
theorem like_el {n : Nat} {a b : List D} {x y : D} (ex : itemsOf x = some a) (ey : itemsOf y = some b) (h1 : a.length = b.length) (h3 : ∀ (i : Nat) d d', a[i]? = some d → b[i]? = some d' → likeD n d d') {d : D} (hd : d ∈ rangeD 0 (b.length : Int).toNat) {R' : Bool → Prop} (hR' : R' false) :
    (wNot (wT (wCall (sp_L_like n) (wCons (w2 semIx (wV .t 0) (wV .t 2)) (wCons (w2 semIx (wV .t 1) (wV .t 2)) wNil))))) (List.set (wipeB [Bd.wv x, .wv y, .non] [2]) 2 (bdS .s d)) R' := by
  simp only [rangeD, List.mem_map, List.mem_range] at hd
  obtain ⟨i, hi, rfl⟩ := hd
  have hi : i < b.length := by omega
  walk_at "rd0"
  have ea : a[i]? = some a[i] := by simp [h1, hi]
  have eb : b[i]? = some b[i] := by simp [hi]
  rw [show (0 : Int) + (i : Nat) = (i : Nat) by omega]
  refine l_Ix ex (atN ea) ?_
  refine l_Ix ey (atN eb) ?_
  exact like_i (h3 i _ _ ea eb) ⟨_, rfl, hR'⟩
theorem rg_len {n : Nat} (h : n < 1000) : (rangeD 0 (n : Int).toNat).length ≤ sizeLine := by
  simp [rangeD]; exact Nat.le_of_lt (Nat.lt_trans h big)
theorem rd_L_like (n : Nat) (K : PySem.W.Frag) (ds : List D) (R : DK) (hl : ds.length = 2) (h : sp_L_like (n + 1) ds R) : t_L_like n K { nx := fun _ => R .non, rt := R } (ini [.w, .w] ds 3) := by
  obtain ⟨a, b, rfl, hab, hR⟩ := h
  show t_L_like n K _ [Bd.wv a, .wv b, .non]
  unfold t_L_like
  cases b with
  | dct b =>
    cases a with
    | dct a =>
      obtain ⟨⟨xs, ys, e1, e2, e3, l1, l2, o1, o2⟩, nd, hv⟩ := hab
      have p1 : plainD (.dct a) = true := rfl
      have p2 : plainD (.dct b) = true := rfl
      walk_at "rd0"
      simp only [pisi_dict p1, pisi_dict p2, isDctD]
      walk_at "rd0"
      refine l_lst (es := xs.map D.str) (by simp only [listOf, keys_strs e1]) ?_
      refine l_srt l1 ?_
      refine l_lst (es := ys.map D.str) (by simp only [listOf, keys_strs e2]) ?_
      refine l_srt l2 ?_
      refine ne_strs (fun x m => o1 x ((srt_perm _).mem_iff.mp m)) (fun x m => o2 x ((srt_perm _).mem_iff.mp m)) ⟨_, rfl, ?_⟩
      simp only [e3, decide_true, Bool.not_true, Bool.false_eq_true, if_false]
      simp only [wItK]
      walk_at "rd0"
      refine ⟨b, rfl, lc_none (fun d hd => ⟨_, rfl, fun R' hR' => ?_⟩) ?_ (eq_nn hR)⟩
      · unfold keysD at hd
        obtain ⟨⟨k, v⟩, hm, rfl⟩ := List.mem_map.mp hd
        obtain ⟨d', h1, h2⟩ := hv k v hm
        have ek : keyD (keyToD k) = some k := by cases k <;> rfl
        simp only [wDGet]
        walk_at "rd0"
        exact ⟨a, k, d', rfl, ek, h1, b, k, v, rfl, ek, valD_mem nd hm, like_i h2 ⟨_, rfl, hR'⟩⟩
      · unfold keysD
        have : b.length = ys.length := by simpa using congrArg List.length e2
        simp only [List.length_map, this]
        exact Nat.le_of_lt (Nat.lt_trans (by omega : ys.length < 1000) big)
    | _ => simp [likeD] at hab
  | lst b =>
    cases a with
    | lst a =>
      obtain ⟨h1, h2, h3⟩ := hab
      have p1 : plainD (.lst a) = true := rfl
      have p2 : plainD (.lst b) = true := rfl
      walk_at "rd0"
      simp only [pisi_dict p2, pisi_seq p1, pisi_seq p2, pisi_list p1, pisi_list p2, isDctD, isSeqD, isLstD, len_iff (n := a.length) (d := .lst a) rfl, len_iff (n := b.length) (d := .lst b) rfl]
      walk_at "rd0"
      simp only [l_NeB, x_bl, decide_true, Bool.not_true, if_false, Bool.false_eq_true, h1]
      refine ⟨b.length, rfl, by omega, by omega, lc_none (fun d hd => ⟨_, rfl, fun R' hR' => like_el rfl rfl h1 h3 hd hR'⟩) (rg_len h2) (eq_nn hR)⟩
    | _ => simp [likeD] at hab
  | tup b =>
    cases a with
    | tup a =>
      obtain ⟨h1, h2, h3⟩ := hab
      have p1 : plainD (.tup a) = true := rfl
      have p2 : plainD (.tup b) = true := rfl
      walk_at "rd0"
      simp only [pisi_dict p2, pisi_seq p1, pisi_seq p2, pisi_list p1, pisi_list p2, isDctD, isSeqD, isLstD, len_iff (n := a.length) (d := .tup a) rfl, len_iff (n := b.length) (d := .tup b) rfl]
      walk_at "rd0"
      simp only [l_NeB, x_bl, decide_true, Bool.not_true, if_false, Bool.false_eq_true, h1]
      refine ⟨b.length, rfl, by omega, by omega, lc_none (fun d hd => ⟨_, rfl, fun R' hR' => like_el rfl rfl h1 h3 hd hR'⟩) (rg_len h2) (eq_nn hR)⟩
    | _ => simp [likeD] at hab
  | non =>
    obtain ⟨e, hs⟩ : a = .non ∧ scal a = true := by
      cases a <;> simp [likeD, scal] at hab ⊢ <;> exact hab
    subst e
    have p1 : plainD (.non) = true := rfl
    walk_at "rd0"
    simp only [pisi_dict p1, pisi_seq p1, pisi_bool p1, pisi_int p1, isDctD, isSeqD, isBlD, isIntD]
    walk_at "rd0"
    simp only [l_NeB, x_bl, decide_true, Bool.not_true, if_false, Bool.false_eq_true, l_EqB, l_EqS, l_EqI]
    exact ⟨true, rfl, hR⟩
  | bl x =>
    obtain ⟨e, hs⟩ : a = .bl x ∧ scal a = true := by
      cases a <;> simp [likeD, scal] at hab ⊢ <;> exact hab
    subst e
    have p1 : plainD (.bl x) = true := rfl
    walk_at "rd0"
    simp only [pisi_dict p1, pisi_seq p1, pisi_bool p1, pisi_int p1, isDctD, isSeqD, isBlD, isIntD]
    walk_at "rd0"
    simp only [l_NeB, x_bl, decide_true, Bool.not_true, if_false, Bool.false_eq_true, l_EqB, l_EqS, l_EqI]
    exact hR
  | int x =>
    obtain ⟨e, hs⟩ : a = .int x ∧ scal a = true := by
      cases a <;> simp [likeD, scal] at hab ⊢ <;> exact hab
    subst e
    have p1 : plainD (.int x) = true := rfl
    walk_at "rd0"
    simp only [pisi_dict p1, pisi_seq p1, pisi_bool p1, pisi_int p1, isDctD, isSeqD, isBlD, isIntD]
    walk_at "rd0"
    simp only [l_NeB, x_bl, decide_true, Bool.not_true, if_false, Bool.false_eq_true, l_EqB, l_EqS, l_EqI]
    exact hR
  | str x =>
    obtain ⟨e, hs⟩ : a = .str x ∧ scal a = true := by
      cases a <;> simp [likeD, scal] at hab ⊢ <;> exact hab
    subst e
    have p1 : plainD (.str x) = true := rfl
    walk_at "rd0"
    simp only [pisi_dict p1, pisi_seq p1, pisi_bool p1, pisi_int p1, isDctD, isSeqD, isBlD, isIntD]
    walk_at "rd0"
    simp only [l_NeB, x_bl, decide_true, Bool.not_true, if_false, Bool.false_eq_true, l_EqB, l_EqS, l_EqI]
    exact hR
  | ins C fs => cases a <;> simp [likeD, scal] at hab
  | st => cases a <;> simp [likeD, scal] at hab
  | ty t => cases a <;> simp [likeD, scal] at hab
  | adr t => cases a <;> simp [likeD, scal] at hab
end Tr
end
section
namespace Tr
open PySem PySem.Spec L2 TL
local macro_rules | `(tactic| walk_at "rd0") => `(tactic| simp only [wSeq, wIfS, wOr, wNot, wAnd, wT, wCall, wCons, wNil, wC, wV, wRet, wNext, wSet, bdS, wSetL, wSetD, wIf, wTup, wLst, wIsN, wNotN, w2, wChain, wAndV, wOrV, wNotV, wExp, wIt, wFor, wLc, wRg1, wItS, wD0, wD1, wSl, wO0, wO1, wJoin, wipeB, wSetLi, List.getElem?_cons_zero, List.getElem?_cons_succ, List.set_cons_zero, List.set_cons_succ, x_some, x_bl, x_int, x_str, l_P, l_I0, l_I, l_EqS, l_EqI, l_EqB, l_NeS, l_NeI, Bool.not_true, Bool.not_false, if_true, if_false, Bool.false_eq_true, eq_self_iff_true])

/-! as a list or as a tuple -/
def LoD (es : List D) (d : D) : Prop := d = .lst es ∨ d = .tup es
def sp_L_loose : SpD := fun ds R => ∃ row es, ds = [.st, row] ∧ itemsOf row = some es ∧ ∀ d, LoD es d → R d
theorem loose_i {row : D} {es : List D} {R : DK} (e : itemsOf row = some es) (h : ∀ d, LoD es d → R d) : sp_L_loose [.st, row] R := ⟨row, es, rfl, e, h⟩
def t_L_loose : TDS := wSeq (wIfS (wT (w2 semEq (wCall sp_L_draw (wCons (wV .t 0) (wCons (wC (.int 2)) wNil))) (wC (.int 0)))) (wRet (wCall semLst (wCons (wV .s 1) wNil))) wNext)
    (wRet (wCall semTup (wCons (wV .s 1) wNil)))
theorem rd_L_loose (ds : List D) (R : DK) (hl : ds.length = 2) (h : sp_L_loose ds R) : t_L_loose { nx := fun _ => R .non, rt := R } (ini [.s, .s] ds 2) := by
  obtain ⟨row, es, rfl, e, hR⟩ := h
  show t_L_loose _ [Bd.val .st, .val row]
  unfold t_L_loose
  walk_at "rd0"
  refine draw_i (by decide) (by decide) fun r _ _ => ?_
  walk_at "rd0"
  by_cases hr : r = 0
  · rw [decide_eq_true hr]
    exact l_lst (list_items e) (hR _ (.inl rfl))
  · rw [decide_eq_false hr]
    exact l_tup e (hR _ (.inr rfl))
def LoRule (d0 d : D) : Prop := ∃ r0 cs rest cs' n, d0 = .tup (r0 :: .tup cs :: rest) ∧ cs'.Perm cs ∧ LoD cs' n ∧ LoD (r0 :: n :: rest) d
def sp_L_loose_rule : SpD := fun ds R => ∃ d0, ds = [.st, d0] ∧ (∃ r0 cs rest, d0 = .tup (r0 :: .tup cs :: rest) ∧ cs.length < 100 ∧ rest.length < 100) ∧ ∀ d, LoRule d0 d → R d
theorem loose_rule_i {d0 : D} {R : DK} (e : ∃ r0 cs rest, d0 = .tup (r0 :: .tup cs :: rest) ∧ cs.length < 100 ∧ rest.length < 100) (h : ∀ d, LoRule d0 d → R d) : sp_L_loose_rule [.st, d0] R := ⟨d0, rfl, e, h⟩
def t_L_loose_rule : TDS := wRet (wCall sp_L_loose (wCons (wV .s 0) (wCons (w2 semCat (wLst (wCons (w2 semIx (wV .s 1) (wC (.int 0))) (wCons (wCall sp_L_loose (wCons (wV .s 0) (wCons (wCall sp_L_shuffled (wCons (wV .s 0) (wCons (wCall semLst (wCons (w2 semIx (wV .s 1) (wC (.int 1))) wNil)) wNil))) wNil))) wNil))) (wCall semLst (wCons (wSl (wV .s 1) (wO1 (wC (.int 2))) wO0) wNil))) wNil)))
theorem cut_from (ds : List D) (n : Nat) (h : n ≤ ds.length) : cutD ds (some (n : Int)) none = ds.drop n := by
  unfold cutD
  have h1 : HT.sIx ds.length ds.length none = ds.length := rfl
  rw [h1, HT.sIx_nat]
  have : min n ds.length = n := Nat.min_eq_left h
  rw [this]
  rw [List.take_of_length_le (by simp)]
theorem rd_L_loose_rule (ds : List D) (R : DK) (hl : ds.length = 2) (h : sp_L_loose_rule ds R) : t_L_loose_rule { nx := fun _ => R .non, rt := R } (ini [.s, .s] ds 2) := by
  obtain ⟨d0, rfl, ⟨r0, cs, rest, rfl, hz1, hz2⟩, hR⟩ := h
  show t_L_loose_rule _ [Bd.val .st, .val (.tup (r0 :: .tup cs :: rest))]
  unfold t_L_loose_rule
  walk_at "rd0"
  refine l_Ix rfl at0 ?_
  refine l_Ix rfl at1 ?_
  refine l_lst rfl ?_
  refine shuffled_i rfl (by omega) fun ys hy => ?_
  refine loose_i rfl fun n hn => ?_
  refine .inr ⟨_, rfl, ?_⟩
  rw [show (2 : Int) = ((2 : Nat) : Int) from rfl, cut_from _ 2 (by simp)]
  refine l_lst rfl ⟨_, _, rfl, rfl, ?_, ?_⟩
  · simp only [List.length_cons, List.length_nil, List.length_drop]; exact Nat.le_trans (by omega : 0 + 1 + 1 + (rest.length + 1 + 1 - 2) ≤ 1000) (Nat.le_of_lt big)
  · refine loose_i (es := r0 :: n :: rest) rfl fun d hd => hR d ⟨r0, cs, rest, ys, n, rfl, hy, hn, hd⟩
/-! the parts, loosely -/
def All2 {α β : Type} (P : α → β → Prop) : List α → List β → Prop
  | [], [] => True
  | a :: as, b :: bs => P a b ∧ All2 P as bs
  | _, _ => False
def LoLinks (leads : List (Str × List Str)) (kvs : List (Key × D)) : Prop := ∃ qs : List (Str × List Str), (qs.map (·.1)).Perm (leads.map (·.1)) ∧ (∀ q ∈ qs, ∃ ys, (q.1, ys) ∈ leads ∧ q.2.Perm ys) ∧ kvs = enc (qs.map fun q => (q.1, .lst (q.2.map D.str)))
def LoOwn (own : List (Str × D)) (kvs : List (Key × D)) : Prop := ∃ os : List (Str × D), (os.map (·.1)).Perm (own.map (·.1)) ∧ (∀ o ∈ os, ∃ es, (o.1, .tup es) ∈ own ∧ LoD es o.2) ∧ kvs = enc os
def LoParts (k : Kd) (l o : List (Key × D)) (rs : List D) : Prop := LoLinks k.leads l ∧ LoOwn k.own o ∧ All2 LoRule k.rules rs
structure KdOk (k : Kd) : Prop where
  nl : (k.leads.map (·.1)).Nodup
  ll : k.leads.length < 100
  lc : ∀ p ∈ k.leads, p.2.length < 100
  no : (k.own.map (·.1)).Nodup
  lo : k.own.length < 100
  ot : ∀ p ∈ k.own, ∃ es, p.2 = .tup es ∧ immL es = true
  lr : k.rules.length < 1000
  rt : ∀ r ∈ k.rules, imm r = true ∧ ∃ r0 cs rest, r = .tup (r0 :: .tup cs :: rest) ∧ cs.length < 100 ∧ rest.length < 100
def sp_L_loose_parts : SpD := fun ds R => ∃ k : Kd, ds = [.st, k.d] ∧ KdOk k ∧ ∀ l o rs, LoParts k l o rs → R (.lst [.dct l, .dct o, .lst rs])
theorem loose_parts_i {k : Kd} {R : DK} (hk : KdOk k) (h : ∀ l o rs, LoParts k l o rs → R (.lst [.dct l, .dct o, .lst rs])) : sp_L_loose_parts [.st, k.d] R := ⟨k, rfl, hk, h⟩
def t_L_loose_parts_f0 : TDS := wPut 2 (wV .t 3) (wCall sp_L_shuffled (wCons (wV .s 0) (wCons (wCall semLstI (wCons (wDGet (w2 semIx (wV .t 1) (wC (.int 1))) (wV .t 3)) wNil)) wNil)))
def t_L_loose_parts_f1 : TDS := wPut 4 (wV .t 5) (wCall sp_L_loose (wCons (wV .s 0) (wCons (wImm (wDGet (w2 semIx (wV .t 1) (wC (.int 2))) (wV .t 5))) wNil)))
def t_L_loose_parts_4 : TDS := wRel 2 (wRel 4 (wRet (wLst (wCons (wV .s 2) (wCons (wV .s 4) (wCons (wLc (wIt (w2 semIx (wV .w 1) (wC (.int 3)))) (st1 .w 6) wYes (wCall sp_L_loose_rule (wCons (wV .s 0) (wCons (wImm (wV .t 6)) wNil))) [6]) wNil))))))
def t_L_loose_parts_2 : TDS := wSeq (wSetD 4)
    (wSeq (wFor (wIt (wCall sp_L_shuffled (wCons (wV .s 0) (wCons (wCall semLstI (wCons (w2 semIx (wV .t 1) (wC (.int 2))) wNil)) wNil)))) (st1 .s 5)
    t_L_loose_parts_f1)
    t_L_loose_parts_4)
def t_L_loose_parts : TDS := wSeq (wSetD 2)
    (wSeq (wFor (wIt (wCall sp_L_shuffled (wCons (wV .s 0) (wCons (wCall semLstI (wCons (w2 semIx (wV .t 1) (wC (.int 1))) wNil)) wNil)))) (st1 .s 3)
    t_L_loose_parts_f0)
    t_L_loose_parts_2)
theorem keys_enc (ps : List (Str × D)) : (enc ps).map (fun kv => keyToD kv.1) = (ps.map (·.1)).map D.str := by
  unfold enc; rw [List.map_map, List.map_map]; rfl
theorem perm_strs {xs : List Str} {ys : List D} (h : ys.Perm (xs.map D.str)) : ∃ zs : List Str, ys = zs.map D.str ∧ zs.Perm xs := by
  have : ∃ zs : List Str, ys = zs.map D.str := by
    have hm : ∀ y ∈ ys, ∃ z, y = D.str z := fun y hy => by
      obtain ⟨z, _, rfl⟩ := List.mem_map.mp (h.mem_iff.mp hy)
      exact ⟨z, rfl⟩
    clear h
    induction ys with
    | nil => exact ⟨[], rfl⟩
    | cons y ys ih =>
      obtain ⟨z, rfl⟩ := hm y List.mem_cons_self
      obtain ⟨zs, rfl⟩ := ih fun y hy => hm y (List.mem_cons_of_mem _ hy)
      exact ⟨z :: zs, rfl⟩
  obtain ⟨zs, rfl⟩ := this
  refine ⟨zs, rfl, ?_⟩
  have := h.map (fun d : D => match d with | .str x => x | _ => "")
  simpa [List.map_map, Function.comp_def] using this
theorem mem_lookup {ps : List (Str × D)} {x : Str} {d : D} (h : (ps.map (·.1)).Nodup) (hm : (x, d) ∈ ps) : valD (enc ps) (.inr x) = some d := by
  refine valD_mem ?_ (List.mem_map.mpr ⟨(x, d), hm, rfl⟩)
  have : (enc ps).map (·.1) = (ps.map (·.1)).map Sum.inr := by simp [enc]
  rw [this]
  exact nodup_inr h
abbrev lpSt (k : Kd) (b2 b3 b4 b5 b6 : Bd) : Ev := [.val .st, .wv k.d, b2, b3, b4, b5, b6]
theorem lp_loop0 {k : Kd} (hk : KdOk k) {E : EndsD} {b4 b5 b6 : Bd} : ∀ (xs : List Str) (acc : List (Str × List Str)) (b : Bd), (acc.map (·.1) ++ xs).Perm (k.leads.map (·.1)) → (∀ q ∈ acc, ∃ ys, (q.1, ys) ∈ k.leads ∧ q.2.Perm ys) →
    (∀ l, LoLinks k.leads l → ∀ b, E.nx (lpSt k (.od l) b b4 b5 b6)) → wForL (st1 .s 3) t_L_loose_parts_f0 E (xs.map D.str) (lpSt k (.od (enc (acc.map fun q => (q.1, .lst (q.2.map D.str))))) b b4 b5 b6)
  | [], acc, b, hp, ha, h => h _ ⟨acc, by simpa using hp, ha, rfl⟩ b
  | x :: xs, acc, b, hp, ha, h => by
    have hn : (acc.map (·.1) ++ x :: xs).Nodup := hp.nodup_iff.mpr hk.nl
    have hxn : x ∉ acc.map (·.1) := fun z => by
      rw [List.nodup_append] at hn
      exact hn.2.2 x z x List.mem_cons_self rfl
    have hlen : acc.length + (xs.length + 1) = k.leads.length := by simpa using hp.length_eq
    have hmx : x ∈ k.leads.map (·.1) := hp.mem_iff.mp (by simp)
    obtain ⟨⟨x', ys⟩, hm, rfl⟩ := List.mem_map.mp hmx
    refine ⟨_, rfl, ?_⟩
    unfold t_L_loose_parts_f0
    refine ⟨_, rfl, ?_⟩
    simp only [wDGet]
    walk_at "rd0"
    refine l_Ix rfl at1 ?_
    refine ⟨_, .inr x', tps ys, rfl, rfl, mem_lookup (by rw [List.map_map]; exact hk.nl) (List.mem_map.mpr ⟨(x', ys), hm, rfl⟩), ?_⟩
    refine ⟨_, ys.map D.str, rfl, rfl, immL_mem fun d hd => ?_, ?_⟩
    · obtain ⟨z, _, rfl⟩ := List.mem_map.mp hd; rfl
    have hyl := hk.lc _ hm
    refine shuffled_i rfl (by simp at hyl ⊢; omega) fun zs hz => ⟨.inr x', rfl, ?_, ?_⟩
    · simp only [enc, List.length_map]; exact Nat.lt_trans (by have := hk.ll; omega : acc.length < 1000) big
    obtain ⟨zs, rfl, hz'⟩ := perm_strs hz
    have e : putD (enc (acc.map fun q => (q.1, .lst (q.2.map D.str)))) (.inr x') (.lst (zs.map D.str)) = enc ((acc ++ [(x', zs)]).map fun q => (q.1, .lst (q.2.map D.str))) := by
      rw [put_enc]
      · simp
      · rw [List.map_map]; exact hxn
    rw [e]
    refine lp_loop0 hk xs (acc ++ [(x', zs)]) _ (by simpa using hp) (fun q m => ?_) h
    rcases List.mem_append.mp m with m | m
    · exact ha q m
    · rw [List.mem_singleton.mp m]; exact ⟨ys, hm, hz'⟩
theorem lp_loop1 {k : Kd} (hk : KdOk k) {E : EndsD} {b2 b3 b6 : Bd} : ∀ (xs : List Str) (acc : List (Str × D)) (b : Bd), (acc.map (·.1) ++ xs).Perm (k.own.map (·.1)) → (∀ o ∈ acc, ∃ es, (o.1, .tup es) ∈ k.own ∧ LoD es o.2) →
    (∀ l, LoOwn k.own l → ∀ b, E.nx (lpSt k b2 b3 (.od l) b b6)) → wForL (st1 .s 5) t_L_loose_parts_f1 E (xs.map D.str) (lpSt k b2 b3 (.od (enc acc)) b b6)
  | [], acc, b, hp, ha, h => h _ ⟨acc, by simpa using hp, ha, rfl⟩ b
  | x :: xs, acc, b, hp, ha, h => by
    have hn : (acc.map (·.1) ++ x :: xs).Nodup := hp.nodup_iff.mpr hk.no
    have hxn : x ∉ acc.map (·.1) := fun z => by
      rw [List.nodup_append] at hn
      exact hn.2.2 x z x List.mem_cons_self rfl
    have hlen : acc.length + (xs.length + 1) = k.own.length := by simpa using hp.length_eq
    have hmx : x ∈ k.own.map (·.1) := hp.mem_iff.mp (by simp)
    obtain ⟨⟨x', d⟩, hm, rfl⟩ := List.mem_map.mp hmx
    obtain ⟨es, e1, e2⟩ := hk.ot _ hm
    simp only at e1
    subst e1
    refine ⟨_, rfl, ?_⟩
    unfold t_L_loose_parts_f1
    refine ⟨_, rfl, ?_⟩
    simp only [wDGet, wImm]
    walk_at "rd0"
    refine l_Ix rfl (atN (n := 2) rfl) ?_
    refine ⟨_, .inr x', .tup es, rfl, rfl, mem_lookup hk.no hm, by simpa [imm] using e2, ?_⟩
    refine loose_i rfl fun o ho => ⟨.inr x', rfl, ?_, ?_⟩
    · simp only [enc, List.length_map]; exact Nat.lt_trans (by have := hk.lo; omega : acc.length < 1000) big
    rw [put_enc hxn]
    refine lp_loop1 hk xs (acc ++ [(x', o)]) _ (by simpa using hp) (fun q m => ?_) h
    rcases List.mem_append.mp m with m | m
    · exact ha q m
    · rw [List.mem_singleton.mp m]; exact ⟨es, hm, ho⟩
theorem lc_all2 {stt : Ev → D → Option Ev} {we : TDE} {ρ : Ev} {R : DK} (P : D → D → Prop) : ∀ (ds acc : List D), (∀ d ∈ ds, ∃ ρ', stt ρ d = some ρ' ∧ ∀ R' : DK, (∀ x, P d x → R' x) → we ρ' R') → ds.length + acc.length ≤ sizeLine → (∀ out, All2 P ds out → R (.lst (acc ++ out))) → wLcL stt wYes we ρ R ds acc
  | [], acc, _, _, h => by
    have := h [] trivial
    simpa [wLcL] using this
  | d :: ds, acc, hd, hz, h => by
    obtain ⟨ρ', e, k⟩ := hd d List.mem_cons_self
    refine ⟨ρ', e, ?_⟩
    simp only [wYes, if_true]
    refine k _ fun x hx => ⟨by simp at hz; omega, ?_⟩
    refine lc_all2 P ds (acc ++ [x]) (fun y hy => hd y (List.mem_cons_of_mem _ hy)) (by simp at hz ⊢; omega) fun out ho => ?_
    have := h (x :: out) ⟨hx, ho⟩
    simpa using this
theorem rd_L_loose_parts (ds : List D) (R : DK) (hl : ds.length = 2) (h : sp_L_loose_parts ds R) : t_L_loose_parts { nx := fun _ => R .non, rt := R } (ini [.s, .w] ds 7) := by
  obtain ⟨k, rfl, hk, hR⟩ := h
  show t_L_loose_parts _ [Bd.val .st, .wv k.d, .non, .non, .non, .non, .non]
  unfold t_L_loose_parts
  walk_at "rd0"
  refine l_Ix rfl at1 ?_
  refine ⟨_, (k.leads.map (·.1)).map D.str, rfl, ?_, immL_mem fun d hd => ?_, ?_⟩
  · simp only [listOf, encL, keys_enc, List.map_map]; rfl
  · obtain ⟨z, _, rfl⟩ := List.mem_map.mp hd; rfl
  refine shuffled_i rfl (by have := hk.ll; simp; omega) fun ys hy => ⟨ys, rfl, ?_⟩
  obtain ⟨xs, rfl, hx⟩ := perm_strs hy
  refine lp_loop0 hk xs [] _ (by simpa using hx) (fun _ m => by cases m) fun l hl b => ?_
  unfold t_L_loose_parts_2
  walk_at "rd0"
  refine l_Ix rfl (atN (n := 2) rfl) ?_
  refine ⟨_, (k.own.map (·.1)).map D.str, rfl, ?_, immL_mem fun d hd => ?_, ?_⟩
  · simp only [listOf, keys_enc]
  · obtain ⟨z, _, rfl⟩ := List.mem_map.mp hd; rfl
  refine shuffled_i rfl (by have := hk.lo; simp; omega) fun ys hy => ⟨ys, rfl, ?_⟩
  obtain ⟨xs, rfl, hx⟩ := perm_strs hy
  refine lp_loop1 hk xs [] _ (by simpa using hx) (fun _ m => by cases m) fun o ho b' => ?_
  unfold t_L_loose_parts_4
  refine ⟨_, rfl, _, rfl, ?_⟩
  walk_at "rd0"
  refine l_Ix rfl (atN (n := 3) rfl) ⟨k.rules, rfl, ?_⟩
  refine lc_all2 LoRule k.rules [] (fun r hr => ⟨_, rfl, fun R' hR' => ?_⟩) (by simp only [List.length_nil, Nat.add_zero]; exact Nat.le_of_lt (Nat.lt_trans hk.lr big)) fun rs hrs => ?_
  · obtain ⟨h1, h2⟩ := hk.rt r hr
    walk_at "rd0"
    simp only [wImm]
    walk_at "rd0"
    exact ⟨h1, loose_rule_i h2 hR'⟩
  · exact hR l o rs ⟨hl, ho, hrs⟩
end Tr
end
section
namespace Tr
open PySem PySem.Spec L2 TL
local macro_rules | `(tactic| walk_at "rd0") => `(tactic| simp only [wSeq, wIfS, wOr, wNot, wAnd, wT, wCall, wCons, wNil, wC, wV, wRet, wNext, wSet, bdS, wSetL, wSetD, wIf, wTup, wLst, wIsN, wNotN, w2, wChain, wAndV, wOrV, wNotV, wExp, wIt, wFor, wLc, wRg1, wItS, wD0, wD1, wSl, wO0, wO1, wJoin, wipeB, wSetLi, List.getElem?_cons_zero, List.getElem?_cons_succ, List.set_cons_zero, List.set_cons_succ, x_some, x_bl, x_int, x_str, l_P, l_I0, l_I, l_EqS, l_EqI, l_EqB, l_NeS, l_NeI, Bool.not_true, Bool.not_false, if_true, if_false, Bool.false_eq_true, eq_self_iff_true])

/-! another kind -/
def Changed (k k' : Kd) : Prop :=
  (∃ x, isNm x = true ∧ x ≠ k.nm ∧ k' = { k with nm := x }) ∨
  (∃ x, isNm x = true ∧ x ∉ k.ls ∧ k' = { k with leads := [(x, [""])], own := [], rules := [] }) ∨
  (∃ x, isNm x = true ∧ x ∉ k.own.map (·.1) ∧ k' = { k with own := [(x, .tup [.str "self"])] }) ∨
  k' = { k with rules := k.rules ++ [.tup [.str "bar", .tup []]] } ∨ k' = { k with hid := !k.hid }
def sp_L_changed : SpD := fun ds R => ∃ k : Kd, ds = [.st, k.d] ∧ k.leads.length ≤ 11 ∧ k.own.length ≤ 11 ∧ k.rules.length < 1000 ∧ ∀ k', Changed k k' → R k'.d
theorem changed_i {k : Kd} {R : DK} (h1 : k.leads.length ≤ 11) (h2 : k.own.length ≤ 11) (h3 : k.rules.length < 1000) (h : ∀ k', Changed k k' → R k'.d) : sp_L_changed [.st, k.d] R := ⟨k, rfl, h1, h2, h3, h⟩
def t_L_changed_6 : TDS := wSeq (wIfS (wT (w2 semEq (wV .t 2) (wC (.int 4)))) (wPutL 3 (wC (.int 4)) (wNotV (w2 semIx (wV .t 1) (wC (.int 4))))) wNext)
    (wRel 3 (wRet (wV .s 3)))
def t_L_changed_5 : TDS := wSeq (wIfS (wT (w2 semEq (wV .t 2) (wC (.int 3)))) (wPutL 3 (wC (.int 3)) (w2 semCat (wIxO 3 (wC (.int 3))) (wLst (wCons (wTup (wCons (wC (.str "bar")) (wCons (wTup wNil) wNil))) wNil)))) wNext)
    t_L_changed_6
def t_L_changed_4 : TDS := wSeq (wIfS (wT (w2 semEq (wV .t 2) (wC (.int 2)))) (wPutL 3 (wC (.int 2)) (wD1 (wCall sp_L_word (wCons (wV .t 0) (wCons (wCall semLst (wCons (w2 semIx (wV .t 1) (wC (.int 2))) wNil)) wNil))) (wTup (wCons (wC (.str "self")) wNil)))) wNext)
    t_L_changed_5
def t_L_changed_3 : TDS := wSeq (wIfS (wT (w2 semEq (wV .t 2) (wC (.int 1)))) (wSeq (wPutL 3 (wC (.int 1)) (wD1 (wCall sp_L_word (wCons (wV .t 0) (wCons (wCall semLst (wCons (w2 semIx (wV .t 1) (wC (.int 1))) wNil)) wNil))) (wTup (wCons (wC (.str "")) wNil))))
    (wSeq (wPutL 3 (wC (.int 2)) wD0)
    (wPutL 3 (wC (.int 3)) (wLst wNil)))) wNext)
    t_L_changed_4
def t_L_changed_2 : TDS := wSeq (wIfS (wT (w2 semEq (wV .t 2) (wC (.int 0)))) (wPutL 3 (wC (.int 0)) (wCall sp_L_word (wCons (wV .s 0) (wCons (wLst (wCons (w2 semIx (wV .t 1) (wC (.int 0))) wNil)) wNil)))) wNext)
    t_L_changed_3
def t_L_changed : TDS := wSeq (wSet .s 2 (wCall sp_L_draw (wCons (wV .s 0) (wCons (wC (.int 5)) wNil))))
    (wSeq (wSetL 3 (wCons (w2 semIx (wV .s 1) (wC (.int 0))) (wCons (wCall semDct (wCons (w2 semIx (wV .s 1) (wC (.int 1))) wNil)) (wCons (wCall semDct (wCons (w2 semIx (wV .s 1) (wC (.int 2))) wNil)) (wCons (wCall semLst (wCons (w2 semIx (wV .s 1) (wC (.int 3))) wNil)) (wCons (w2 semIx (wV .s 1) (wC (.int 4))) wNil))))))
    t_L_changed_2)
theorem rd_L_changed (ds : List D) (R : DK) (hl : ds.length = 2) (h : sp_L_changed ds R) : t_L_changed { nx := fun _ => R .non, rt := R } (ini [.s, .s] ds 4) := by
  obtain ⟨k, rfl, h1, h2, h3, hR⟩ := h
  show t_L_changed _ [Bd.val .st, .val k.d, .non, .non]
  have i0 := ix_iff (i := 0) (d := k.d) rfl at0
  have i1 := ix_iff (i := 1) (d := k.d) rfl at1
  have i2 := ix_iff (i := 2) (d := k.d) rfl (atN (n := 2) rfl)
  have i3 := ix_iff (i := 3) (d := k.d) rfl (atN (n := 3) rfl)
  have i4 := ix_iff (i := 4) (d := k.d) rfl (atN (n := 4) rfl)
  unfold t_L_changed
  walk_at "rd0"
  refine draw_i (by decide) (by decide) fun r r0 r1 => ?_
  simp only [i0, i1, i2, i3, i4]
  refine l_dct (l_dct (l_lst rfl ?_))
  have hr : r = 0 ∨ r = 1 ∨ r = 2 ∨ r = 3 ∨ r = 4 := by omega
  unfold t_L_changed_2 t_L_changed_3 t_L_changed_4 t_L_changed_5 t_L_changed_6
  rcases hr with rfl | rfl | rfl | rfl | rfl
  · walk_at "rd0"
    simp only [dec_ite, Int.reduceEq, if_true, if_false, i0, i4]
    refine ⟨_, rfl, ?_⟩
    walk_at "rd0"
    simp only [i0]
    refine word_i (xs := [k.nm]) rfl (by simp) fun x hx hn => ?_
    refine ⟨0, 0, rfl, rfl, _, rfl, ?_⟩
    exact hR { k with nm := x } (.inl ⟨x, hx, by simpa using hn, rfl⟩)
  · walk_at "rd0"
    simp only [dec_ite, Int.reduceEq, if_true, if_false]
    refine ⟨_, rfl, ?_⟩
    walk_at "rd0"
    simp only [i1]
    refine l_lst (es := k.ls.map D.str) (by simp only [listOf, encL, keys_enc, List.map_map]; rfl) ?_
    refine word_i (xs := k.ls) rfl (by simpa using h1) fun x hx hn => ⟨.inr x, rfl, 1, 1, rfl, rfl, ?_⟩
    refine ⟨_, rfl, ?_⟩
    walk_at "rd0"
    refine ⟨2, 2, rfl, rfl, ?_⟩
    refine ⟨_, rfl, ?_⟩
    walk_at "rd0"
    refine ⟨3, 3, rfl, rfl, _, rfl, ?_⟩
    exact hR { k with leads := [(x, [""])], own := [], rules := [] } (.inr (.inl ⟨x, hx, hn, rfl⟩))
  · walk_at "rd0"
    simp only [dec_ite, Int.reduceEq, if_true, if_false]
    refine ⟨_, rfl, ?_⟩
    walk_at "rd0"
    simp only [i2]
    refine l_lst (es := (k.own.map (·.1)).map D.str) (by simp only [listOf, keys_enc]) ?_
    refine word_i (xs := k.own.map (·.1)) rfl (by simpa using h2) fun x hx hn => ⟨.inr x, rfl, 2, 2, rfl, rfl, _, rfl, ?_⟩
    exact hR { k with own := [(x, .tup [.str "self"])] } (.inr (.inr (.inl ⟨x, hx, hn, rfl⟩)))
  · walk_at "rd0"
    simp only [dec_ite, Int.reduceEq, if_true, if_false]
    refine ⟨_, rfl, ?_⟩
    simp only [wIxO]
    walk_at "rd0"
    refine ⟨_, rfl, 3, _, rfl, atN (n := 3) rfl, _, _, rfl, rfl, ?_, 3, 3, rfl, rfl, _, rfl, ?_⟩
    · simp; exact Nat.le_trans (by omega : k.rules.length + 1 ≤ 1000) (Nat.le_of_lt big)
    · exact hR { k with rules := k.rules ++ [.tup [.str "bar", .tup []]] } (.inr (.inr (.inr (.inl rfl))))
  · walk_at "rd0"
    simp only [dec_ite, Int.reduceEq, if_true, if_false]
    refine ⟨_, rfl, ?_⟩
    walk_at "rd0"
    simp only [i4]
    first
      | exact ⟨4, 4, rfl, rfl, _, rfl, hR { k with hid := !k.hid } (.inr (.inr (.inr (.inr rfl))))⟩
      | exact ⟨k.hid, rfl, 4, 4, rfl, rfl, _, rfl, hR { k with hid := !k.hid } (.inr (.inr (.inr (.inr rfl))))⟩
end Tr
end
section
namespace Tr
open PySem PySem.Spec L2
/-! ### own methods, called by an operator -/
section
variable {X : Cx} {CX : CXT} {k : Nat} {C f : Addr} {fd : FuncData} {ps : List Str} {sp : Sp} {E : St → XK} {a b : Expr} {ta tb : TE} {pos : Pos}
/-- the callee runs, somewhere below the running body -/
theorem run_at {A : Around} {pins : List (Addr × Obj)} {σ : L2.St} {H : Hp} {s : Shared} {Q : VK} {us : List Value} {vs : List V} (F : FnOk X.prog X.w X.K X.mg X.base CX k f fd ps sp) (hr : Room k A) (hf : A.frames = X.A.frames) (hb : Binds X.K fd ps []) (hx : PassesAt CX X σ (E σ))
    (I : Inv X pins σ H s) (r : Vals vs us) (h : sp vs H Q (E σ)) : wpAny (model X.prog X.w) A (call (.ref f) us) (EP X pins σ Q) X.xe s := by
  have hl : us.length = ps.length := by rw [← r.length]; exact F.len _ _ _ _ h
  have e0 : Env0 X.prog X.w X.K X.mg X.base A X.stack s H := by
    have e := I.env0
    exact ⟨by rw [hf]; exact e.frames, e.mod, e.bs, e.bsz, e.funs, e.frf, e.hok, e.bare⟩
  have hbb : BindsTo s fd ⟨us, []⟩ (ps.zip us) := by
    have := hb s us I.kIn (by simpa using hl)
    simpa using this
  refine wpAny_call (codeAny_mono (F.run A X.stack s H ⟨us, []⟩ us vs Q (E σ) hr e0 hbb r h) fun r s' hq => ?_)
  cases r with
  | error e => exact hx pins H s e s' I hq
  | ok fl =>
    cases fl with
    | ret u => exact I.after hq
    | next => exact False.elim hq
    | brk => exact False.elim hq
    | cont => exact False.elim hq
def tIxM (C : Addr) (sp : Sp) (E : St → XK) (ta tb : TE) : TE := fun σ H Q => ta σ H fun x H1 => tb σ H1 fun y H2 => ∃ a dx fs, x = .ref a ∧ H2 a = some (.ins C dx fs) ∧ sp [x, y] H2 Q (E σ)
/-- o[i] by an own __getitem__ -/
theorem pe_ixM (F : FnOk X.prog X.w X.K X.mg X.base CX k f fd ps sp) (hm : Meth X.K C "__getitem__" f) (hfi : PySem.W.fnIn X.K f = true) (hr : Room (k + 1) X.A) (hbd : Binds X.K fd ps []) (hx : ∀ σ, PassesAt CX X σ (E σ)) (ha : PE X a ta) (hb : PE X b tb)
    (hsl : ∀ x i, subscripted b true (.ref x) i = runValue (.builtin "lifetime.subscript" ⟨[.ref x, i], []⟩) := by intro _ _; with_unfolding_all rfl) : PE X (.Subscript a b pos) (tIxM C sp E ta tb) := by
  refine ⟨fun pins s σ H Q I h => ?_⟩
  refine PyProof.Rows.Subscript_ (thn (ha.run pins s σ H _ I h) fun v s1 ⟨x, H1, I1, rx, q⟩ => thn (hb.run pins s1 σ H1 _ I1 q) fun u s2 ⟨y, H2, I2, ry, o, dx, fs, ex, ho, q2⟩ => ?_)
  subst ex
  obtain rfl : v = Value.ref o := rx
  obtain ⟨mA, O, _⟩ := ins_get I2.hok ho
  obtain ⟨od, J', _⟩ := O.look
  obtain ⟨m, hF⟩ := I2.fr
  exact PySem.W.sub_K hF I2.ok.mod.kin J' hm.at_ hfi hm.fn (run_at (vs := [.ref o, y]) F hr.in1 rfl hbd (hx σ) I2 (.cons rfl (.cons ry .nil)) q2) (hsl _ _)
/-- x in o by an own __contains__ -/
theorem op_inM (F : FnOk X.prog X.w X.K X.mg X.base CX0 k f fd ps sp) (hm : Meth X.K C "__contains__" f) (hr : Room k X.A) (hbd : Binds X.K fd ps []) : OpR X (compareOp .In) (fun x y H Q => ∃ a dx fs, y = .ref a ∧ H a = some (.ins C dx fs) ∧ sp [y, x] H (fun v H' => ∃ b, v = .bl b ∧ Q (.bl b) H') E0) := by
  intro pins s σ H x y v u Q I rx ry ⟨o, dx, fs, ey, ho, q⟩
  subst ey
  obtain rfl : u = Value.ref o := ry
  obtain ⟨mA, O, _⟩ := ins_get I.hok ho
  obtain ⟨od, J', _⟩ := O.look
  obtain ⟨m, hF⟩ := I.fr
  refine PySem.W.in_K hF I.ok.mod.kin J' hm.at_ hm.fn (wpAny_mono (run_at (E := fun _ => E0) (vs := [.ref o, x]) F hr rfl hbd (fun _ _ _ _ _ _ h => h.elim) I (.cons rfl (.cons rx .nil)) q) (fun r s' z => ?_) fun _ _ x => x)
  obtain ⟨w, H', I', rw', b, eb, q'⟩ := z
  subst eb
  cases rw'
  exact wpAny_truthy_bool ⟨.bl b, H', I', rfl, q'⟩
theorem op_notInM (F : FnOk X.prog X.w X.K X.mg X.base CX0 k f fd ps sp) (hm : Meth X.K C "__contains__" f) (hr : Room k X.A) (hbd : Binds X.K fd ps []) : OpR X (compareOp .NotIn) (fun x y H Q => ∃ a dx fs, y = .ref a ∧ H a = some (.ins C dx fs) ∧ sp [y, x] H (fun v H' => ∃ b, v = .bl b ∧ Q (.bl (!b)) H') E0) := by
  intro pins s σ H x y v u Q I rx ry ⟨o, dx, fs, ey, ho, q⟩
  subst ey
  obtain rfl : u = Value.ref o := ry
  obtain ⟨mA, O, _⟩ := ins_get I.hok ho
  obtain ⟨od, J', _⟩ := O.look
  obtain ⟨m, hF⟩ := I.fr
  refine PySem.W.notIn_K hF I.ok.mod.kin J' hm.at_ hm.fn (wpAny_mono (run_at (E := fun _ => E0) (vs := [.ref o, x]) F hr rfl hbd (fun _ _ _ _ _ _ h => h.elim) I (.cons rfl (.cons rx .nil)) q) (fun r s' z => ?_) fun _ _ x => x)
  obtain ⟨w, H', I', rw', b, eb, q'⟩ := z
  subst eb
  cases rw'
  exact wpAny_truthy_bool ⟨.bl (!b), H', I', rfl, q'⟩
/-- x == y by an own __eq__, two instances of the class -/
theorem op_eqM (F : FnOk X.prog X.w X.K X.mg X.base CX0 k f fd ps sp) (hm : Meth X.K C "__eq__" f) (hr : Room k X.A) (hbd : Binds X.K fd ps []) : OpR X (compareOp .Eq) (fun x y H Q => ∃ a b dx dy fs gs, x = .ref a ∧ y = .ref b ∧ H a = some (.ins C dx fs) ∧ H b = some (.ins C dy gs) ∧ sp [x, y] H (fun v H' => ∃ b, v = .bl b ∧ Q (.bl b) H') E0) := by
  intro pins s σ H x y v u Q I rx ry ⟨o, p, dx, dy, fs, gs, ex, ey, ho, hp, q⟩
  subst ex ey
  obtain rfl : v = Value.ref o := rx
  obtain rfl : u = Value.ref p := ry
  obtain ⟨mA, O, _⟩ := ins_get I.hok ho
  obtain ⟨od, J', _⟩ := O.look
  obtain ⟨mB, O2, _⟩ := ins_get I.hok hp
  obtain ⟨od2, J2, _⟩ := O2.look
  obtain ⟨m, hF⟩ := I.fr
  show wpAny _ _ (richCompare .Eq _ _) _ _ _
  refine PySem.W.cmp_K (op := .Eq) (tb := .ref C) hr.units0 hF I.ok.mod.kin J' J2.type (by simp [PySem.W.notFirst]) hm.at_ hm.fn (wpAny_mono (run_at (E := fun _ => E0) (vs := [.ref o, .ref p]) F hr rfl hbd (fun _ _ _ _ _ _ h => h.elim) I (.cons rfl (.cons rfl .nil)) q) (fun r s' z => ?_) fun _ _ x => x)
  obtain ⟨w, H', I', rw', b, eb, q'⟩ := z
  subst eb
  cases rw'
  exact ⟨.bl b, H', I', rfl, q'⟩
end
/-! ### methods, properties and their promises -/
structure CalM (P : Program) (w : World) (K : PySem.W.Frag) (mg : Str → Option Value) (base : Heap) (k : Nat) (C : Addr) (m : Str) (ps : List Str) (ss : List Sg) (sp : SpD) : Prop where
  ex : ∃ f fd, FnOk P w K mg base CX0 k f fd ps (toSp K ss sp) ∧ Meth K C m f ∧ PySem.W.fnIn K f = true ∧ Binds K fd ps []
structure CalP (P : Program) (w : World) (K : PySem.W.Frag) (mg : Str → Option Value) (base : Heap) (k : Nat) (C : Addr) (m : Str) (ps : List Str) (ss : List Sg) (sp : SpD) : Prop where
  ex : ∃ p f fd, FnOk P w K mg base CX0 k f fd ps (toSp K ss sp) ∧ PropOf K C m p f ∧ Binds K fd ps []
section
variable {X : Cx} {s s0 s1 : Sg} {e o a b : Expr} {es : List Expr} {pos p apos : Pos} {ws : TDA} {wo wa wb : TDE} {ss : List Sg} {sp : SpD} {k : Nat} {C : Addr} {m : Str} {ps : List Str}
theorem de_m {pl : Sem Bool} (c : CalM X.prog X.w X.K X.mg X.base k C m ps (s0 :: ss) sp) (cl : Cls X.K C) (hr : Room k X.A) (ho : DE X (cs s s0) o wo) (ha : DA X (ss.map (cs s)) (e :: es) ws)
    (hst : starEach (e :: es) X.env = (false, eval e X.env) :: starEach es X.env := by rfl) (hpl : (backTo pos (starEach es X.env)).any (·.1) = false := by rfl)
    (ht : eval (.Call (.Attribute o m apos) (e :: es) [] pos) X.env = (do
      let ov ← eval o X.env
      standAt apos.atName
      let (f, first) ← holding [ov] (getMethod ov m pl)
      callWith pos f first (backTo pos (starEach (e :: es) X.env)) (backToKw pos (keywordEach [] X.env))) := by rfl) : DE X s (.Call (.Attribute o m apos) (e :: es) [] pos) (wMeth sp C m wo ws) := by
  obtain ⟨f, fd, F, h1, h2, h3⟩ := c.ex
  exact de_meth (E := E0) (pe_meth ho cl h1 F hr h3 .nil pass0 ha hst hpl ht)
theorem de_m0 {pl : Sem Bool} (c : CalM X.prog X.w X.K X.mg X.base k C m ps [s0] sp) (cl : Cls X.K C) (hr : Room k X.A) (ho : DE X (cs s s0) o wo)
    (ht : eval (.Call (.Attribute o m apos) [] [] pos) X.env = (do
      let ov ← eval o X.env
      standAt apos.atName
      let (f, first) ← holding [ov] (getMethod ov m pl)
      callWith pos f first (backTo pos (starEach [] X.env)) (backToKw pos (keywordEach [] X.env))) := by rfl) : DE X s (.Call (.Attribute o m apos) [] [] pos) (wMeth0 sp C m wo) := by
  obtain ⟨f, fd, F, h1, h2, h3⟩ := c.ex
  exact de_meth0 (E := E0) (pe_meth0 ho cl h1 F hr h3 .nil pass0 ht)
theorem de_p (c : CalP X.prog X.w X.K X.mg X.base k C m ps [s0] sp) (cl : Cls X.K C) (hr : Room (k + 1) X.A) (ho : DE X (cs s s0) o wo) (hab : attributeBase o m X.env (eval o X.env) = eval o X.env := by rfl) : DE X s (.Attribute o m pos) (wProp sp C wo) := by
  obtain ⟨p, f, fd, F, h1, h3⟩ := c.ex
  exact de_prop (E := E0) (pe_prop ho cl h1 F hr h3 .nil (fun _ _ _ _ _ _ _ h => h.elim) hab)
/-- o[i] -/
def wIxM (sp : SpD) (C : Addr) (wa wb : TDE) : TDE := fun ρ R => wa ρ fun x => wb ρ fun y => (∃ fs, x = .ins C fs) ∧ sp [x, y] R
theorem de_ixM (c : CalM X.prog X.w X.K X.mg X.base k C "__getitem__" ps [s0, s1] sp) (hr : Room (k + 1) X.A) (ha : DE X (cs s s0) a wa) (hb : DE X (cs s s1) b wb)
    (hsl : ∀ x i, subscripted b true (.ref x) i = runValue (.builtin "lifetime.subscript" ⟨[.ref x, i], []⟩) := by intro _ _; with_unfolding_all rfl) : DE X s (.Subscript a b pos) (wIxM sp C wa wb) := by
  obtain ⟨f, fd, F, h1, h2, h3⟩ := c.ex
  refine PE_imp (pe_ixM (E := fun _ => E0) F h1 h2 hr h3 (fun _ _ _ _ _ _ _ h => h.elim) ha hb hsl) ?_
  rintro σ H Q ⟨g, M, ρ, R, j, hw, k⟩
  refine ⟨g, M, ρ, _, j, hw, fun x H1 dx f1 j1 r1 hR => ⟨g, M, ρ, _, j1, hR, fun y H2 dy f2 j2 r2 ⟨⟨fs, e1⟩, hR2⟩ => ?_⟩⟩
  subst e1
  have r1' := r1.ov (f2.ov fun _ z => Gh.av_vol z)
  obtain ⟨a, dx', us, rfl, na, h1, h2⟩ := rep_ins.mp r1'
  exact ⟨a, dx', us, rfl, raw_ins h1, call_ok (ss := [s0, s1]) (E := E0) j2 ⟨_, _, _, _, rfl, rfl, r1', _, _, _, _, rfl, rfl, r2, rfl, rfl⟩ hR2 fun v H' d f => k v H' d ((f1.trans f2).trans f)⟩
/-- x in o -/
def semInM (sp : SpD) (C : Addr) (neg : Bool) : D → D → DK → Prop := fun y x R => (∃ fs, x = .ins C fs) ∧ sp [x, y] fun d => ∃ b, d = .bl b ∧ R (.bl (if neg then !b else b))
theorem sem_inM (K : PySem.W.Frag) : Sem2 K (fun x y H Q => ∃ a dx fs, y = .ref a ∧ H a = some (.ins C dx fs) ∧ toSp K [s0, s1] sp [y, x] H (fun v H' => ∃ b, v = .bl b ∧ Q (.bl b) H') E0) (cs s s1) (cs s s0) s (semInM sp C false) := by
  rintro g M σ H ρ x y dx dy R Q j r1 r2 ⟨⟨fs, e1⟩, h⟩ fin
  subst e1
  obtain ⟨a, dx', us, rfl, na, h1, h2⟩ := rep_ins.mp r2
  refine ⟨a, dx', us, rfl, raw_ins h1, call_ok (ss := [s0, s1]) (E := E0) j ⟨_, _, _, _, rfl, rfl, r2, _, _, _, _, rfl, rfl, r1, rfl, rfl⟩ h fun v H' d f j' r' ⟨b, e, hR⟩ => ?_⟩
  subst e
  exact ⟨b, rep_bl.mp r', fin _ H' _ f j' (rep_bl.mpr rfl) hR⟩
theorem sem_notInM (K : PySem.W.Frag) : Sem2 K (fun x y H Q => ∃ a dx fs, y = .ref a ∧ H a = some (.ins C dx fs) ∧ toSp K [s0, s1] sp [y, x] H (fun v H' => ∃ b, v = .bl b ∧ Q (.bl (!b)) H') E0) (cs s s1) (cs s s0) s (semInM sp C true) := by
  rintro g M σ H ρ x y dx dy R Q j r1 r2 ⟨⟨fs, e1⟩, h⟩ fin
  subst e1
  obtain ⟨a, dx', us, rfl, na, h1, h2⟩ := rep_ins.mp r2
  refine ⟨a, dx', us, rfl, raw_ins h1, call_ok (ss := [s0, s1]) (E := E0) j ⟨_, _, _, _, rfl, rfl, r2, _, _, _, _, rfl, rfl, r1, rfl, rfl⟩ h fun v H' d f j' r' ⟨b, e, hR⟩ => ?_⟩
  subst e
  exact ⟨b, rep_bl.mp r', fin _ H' _ f j' (rep_bl.mpr rfl) hR⟩
theorem de_inM (c : CalM X.prog X.w X.K X.mg X.base k C "__contains__" ps [s0, s1] sp) (hr : Room k X.A) (ha : DE X (cs s s1) a wa) (hb : DE X (cs s s0) b wb) (hm : behindInMarks .In b = false := by first | exact nomark _ | rfl) : DE X s (.Compare a [.In] [b] pos) (w2 (semInM sp C false) wa wb) := by
  obtain ⟨f, fd, F, h1, h2, h3⟩ := c.ex
  exact de_cmp (op_inM F h1 hr h3) (sem_inM X.K) ha hb hm
theorem dt_inM (c : CalM X.prog X.w X.K X.mg X.base k C "__contains__" ps [s0, s1] sp) (hr : Room k X.A) (ha : DE X (cs s s1) a wa) (hb : DE X (cs s s0) b wb) (hm : behindInMarks .In b = false := by first | exact nomark _ | rfl) : DT X (.Compare a [.In] [b] pos) (wT (w2 (semInM sp C false) wa wb)) := by
  obtain ⟨f, fd, F, h1, h2, h3⟩ := c.ex
  exact dt_cmp (op_inM F h1 hr h3) (sem_inM X.K) ha hb hm
theorem de_notInM (c : CalM X.prog X.w X.K X.mg X.base k C "__contains__" ps [s0, s1] sp) (hr : Room k X.A) (ha : DE X (cs s s1) a wa) (hb : DE X (cs s s0) b wb) (hm : behindInMarks .NotIn b = false := by first | exact nomark _ | rfl) : DE X s (.Compare a [.NotIn] [b] pos) (w2 (semInM sp C true) wa wb) := by
  obtain ⟨f, fd, F, h1, h2, h3⟩ := c.ex
  exact de_cmp (op_notInM F h1 hr h3) (sem_notInM X.K) ha hb hm
/-- x == y -/
def semEqM (sp : SpD) (C : Addr) : D → D → DK → Prop := fun x y R => (∃ fs gs, x = .ins C fs ∧ y = .ins C gs) ∧ sp [x, y] fun d => ∃ b, d = .bl b ∧ R d
theorem sem_eqM (K : PySem.W.Frag) : Sem2 K (fun x y H Q => ∃ a b dx dy fs gs, x = .ref a ∧ y = .ref b ∧ H a = some (.ins C dx fs) ∧ H b = some (.ins C dy gs) ∧ toSp K [s0, s1] sp [x, y] H (fun v H' => ∃ b, v = .bl b ∧ Q (.bl b) H') E0) (cs s s0) (cs s s1) s (semEqM sp C) := by
  rintro g M σ H ρ x y dx dy R Q j r1 r2 ⟨⟨fs, gs, e1, e2⟩, h⟩ fin
  subst e1 e2
  obtain ⟨a, dx', us, rfl, na, h1, h2⟩ := rep_ins.mp r1
  obtain ⟨b, dy', us', rfl, nb, h3, h4⟩ := rep_ins.mp r2
  refine ⟨a, b, dx', dy', us, us', rfl, rfl, raw_ins h1, raw_ins h3, call_ok (ss := [s0, s1]) (E := E0) j ⟨_, _, _, _, rfl, rfl, r1, _, _, _, _, rfl, rfl, r2, rfl, rfl⟩ h fun v H' d f j' r' ⟨b, e, hR⟩ => ?_⟩
  subst e
  exact ⟨b, rep_bl.mp r', fin _ H' _ f j' (rep_bl.mpr rfl) hR⟩
theorem de_eqM (c : CalM X.prog X.w X.K X.mg X.base k C "__eq__" ps [s0, s1] sp) (hr : Room k X.A) (ha : DE X (cs s s0) a wa) (hb : DE X (cs s s1) b wb) (hm : behindInMarks .Eq b = false := by first | exact nomark _ | rfl) : DE X s (.Compare a [.Eq] [b] pos) (w2 (semEqM sp C) wa wb) := by
  obtain ⟨f, fd, F, h1, h2, h3⟩ := c.ex
  exact de_cmp (op_eqM F h1 hr h3) (sem_eqM X.K) ha hb hm
theorem dt_eqM (c : CalM X.prog X.w X.K X.mg X.base k C "__eq__" ps [s0, s1] sp) (hr : Room k X.A) (ha : DE X (cs s s0) a wa) (hb : DE X (cs s s1) b wb) (hm : behindInMarks .Eq b = false := by first | exact nomark _ | rfl) : DT X (.Compare a [.Eq] [b] pos) (wT (w2 (semEqM sp C) wa wb)) := by
  obtain ⟨f, fd, F, h1, h2, h3⟩ := c.ex
  exact dt_cmp (op_eqM F h1 hr h3) (sem_eqM X.K) ha hb hm
end
end Tr
end
section
namespace Tr
open PySem PySem.Spec L2
/-! ### == of dicts whose values are data -/
inductive HitsV (K : PySem.W.Frag) (H : Hp) (ls : List (Key × V)) : List (Key × V) → Bool → Prop
  | nil : HitsV K H ls [] true
  | miss {k : Key} {v : V} {r : List (Key × V)} : valV ls k = none → HitsV K H ls ((k, v) :: r) false
  | hit {k : Key} {v u : V} {r : List (Key × V)} {p q : PyData} {b : Bool} : valV ls k = some u → Dp K H v p → Dp K H u q → SeqAt.shaped p = true → SeqAt.shaped q = true → HitsV K H ls r b → HitsV K H ls ((k, v) :: r) (PyData.eqv p q && b)
def rEqK (K : PySem.W.Frag) : R2 := fun x y H Q => ∃ a b ks ls r, x = .ref a ∧ y = .ref b ∧ Rd H a (.dK ks) ∧ Rd H b (.dK ls) ∧ HitsV K H ls ks r ∧ Q (.bl (ks.length == ls.length && r)) H
def rNeK (K : PySem.W.Frag) : R2 := fun x y H Q => ∃ a b ks ls r, x = .ref a ∧ y = .ref b ∧ Rd H a (.dK ks) ∧ Rd H b (.dK ls) ∧ HitsV K H ls ks r ∧ Q (.bl (!(ks.length == ls.length && r))) H
section
variable {X : Cx} {pins : List (Addr × Obj)} {σ : L2.St} {H : Hp} {s : Shared}
theorem hitsV_run (I : Inv X pins σ H s) {A : Around} (hu : A.units + 64 < cLine) {ls : List (Key × V)} {vb : List (Key × Value)} (rb : KV ls vb) : ∀ {ks : List (Key × V)} {va : List (Key × Value)} {b : Bool}, KV ks va → HitsV X.K H ls ks b → PySem.W.KeqHitsP X.prog X.w A s vb va b := by
  intro ks
  induction ks with
  | nil => intro va b ra h; cases ra; cases h; exact .nil
  | cons p ps ih =>
    intro va b ra h
    cases ra with
    | cons hd tl =>
      rename_i q qs
      obtain ⟨k, v⟩ := p
      obtain ⟨k', v'⟩ := q
      obtain ⟨h1, h2⟩ := hd
      have e1 : k = k' := h1
      subst e1
      cases h with
      | miss hn =>
        refine .miss ?_
        have rr : RelO none (valueAt vb k) := by rw [← hn]; exact rb.val k
        exact RelO.none_of rr
      | hit hv d1 d2 s1 s2 hr =>
        rename_i u p q b
        have rr : RelO (some u) (valueAt vb k) := by rw [← hv]; exact rb.val k
        obtain ⟨y, hy, ry⟩ := rr.some_of
        obtain ⟨as, r1⟩ := Dp.reads I p v v' d1 h2
        obtain ⟨bs, r2⟩ := Dp.reads I q u y d2 ry
        exact .hit hy (SeqAt.EqAt.eqP (SeqAt.eqAt_reads p q A s v' y as bs r1 r2 (SeqAt.canLay_of_shaped s1) (SeqAt.canLay_of_shaped s2) (SeqAt.room_of_shaped s1 hu))) (ih tl hr)
theorem op_eqK (hu : X.A.units + 65 < cLine) : OpR X (compareOp .Eq) (rEqK X.K) := by
  intro pins s σ H x y v u Q I rx ry ⟨a, b, ks, ls, r, ex, ey, ha, hb, hh, q⟩
  subst ex ey
  obtain rfl : v = Value.ref a := rx
  obtain rfl : u = Value.ref b := ry
  obtain ⟨_, ya, va, ra, da⟩ := dk_rd I.hok ha
  obtain ⟨_, yb, vb, rb, db⟩ := dk_rd I.hok hb
  show wpAny _ _ (richCompare .Eq _ _) _ _ _
  refine PySem.W.rcP_dicts (knd := mixKind X.prog X.w) (r := r) ya yb da db (by omega) (fun _ => hitsV_run I (by show X.A.units + 1 + 64 < cLine; omega) rb ra hh) _ _ ?_
  rw [← ra.length, ← rb.length]
  exact ⟨.bl _, H, I, rfl, q⟩
end
def eqPD (a b : D) : Option Bool := match toPD a, toPD b with
  | some p, some q => if (SeqAt.shaped p && SeqAt.shaped q) = true then some (PyData.eqv p q) else none
  | _, _ => none
def dctHits (ls : List (Key × D)) : List (Key × D) → Option Bool
  | [] => some true
  | (k, d) :: r => match valD ls k with
    | none => some false
    | some u => match eqPD d u, dctHits ls r with
      | some e, some b => some (e && b)
      | _, _ => none
def semEqK : D → D → DK → Prop := fun x y R => ∃ kvs ls b, x = .dct kvs ∧ y = .dct ls ∧ dctHits ls kvs = some b ∧ R (.bl (kvs.length == ls.length && b))
section
variable {K : PySem.W.Frag} {s s1 s2 : Sg}
theorem hits_rep {z : Zo} {A A' : Addr → Prop} {H : Hp} {ls : List (Key × D)} {ws : List (Key × V)} (r2 : RepK K z A' H ls ws) : ∀ {ks : List (Key × D)} {vs : List (Key × V)} {b : Bool}, RepK K z A H ks vs → dctHits ls ks = some b → HitsV K H ws vs b := by
  intro ks
  induction ks with
  | nil =>
    intro vs b r e
    rw [repK_nil.mp r]
    cases e
    exact .nil
  | cons p ps ih =>
    obtain ⟨k, d⟩ := p
    intro vs b r e
    obtain ⟨u, us, rfl, h1, h2⟩ := repK_cons.mp r
    unfold dctHits at e
    rcases r2.val k with ⟨n1, n2⟩ | ⟨d', v', n1, n2, n3⟩
    · rw [n1] at e
      cases e
      exact .miss n2
    · rw [n1] at e
      simp only at e
      split at e
      · rename_i e1 b1 h3 h4
        cases e
        unfold eqPD at h3
        split at h3
        · rename_i p q hp hq
          split at h3
          · rename_i hs
            cases h3
            rw [Bool.and_eq_true] at hs
            exact .hit n2 (toPD_ok hp h1) (toPD_ok hq n3) hs.1 hs.2 (ih h2 h4)
          · cases h3
        · cases h3
      · cases e
theorem sem_EqK : Sem2 K (rEqK K) s1 s2 s semEqK := by
  rintro g M σ H ρ x y dx dy R Q j r1 r2 ⟨kvs, ls, b, rfl, rfl, e, h⟩ fin
  obtain ⟨a, vs, rfl, _, h1, q1⟩ := rep_dct.mp r1
  obtain ⟨c, ws, rfl, _, h2, q2⟩ := rep_dct.mp r2
  refine ⟨a, c, vs, ws, b, rfl, rfl, rd_dK h1, rd_dK h2, hits_rep q2 q1 e, ?_⟩
  rw [q1.len, q2.len]
  exact fin _ H _ Fr.refl j (rep_bl.mpr rfl) h
/-! ### isinstance of an own class -/
/-- what a class must have for isinstance of its instances -/
structure ClsT (K : PySem.W.Frag) (C : Addr) : Prop where
  cl : Cls K C
  fc : PySem.W.findIn K (.ref C) "__class__" = some (some (.builtin "object.__class__"))
  sc : PySem.W.specialIn K (.builtin "object.__class__") "__get__" = some (some (.builtin "getset_descriptor.__get__"))
  tc : PySem.W.takesIn K (.builtin "object.__class__") = some true
  mc : PySem.W.mroIn K C (.type "object") = some true
end
section
variable {X : Cx} {s s1 : Sg} {e : Expr} {pos p p2 : Pos} {w : TDE} {C : Addr} {x : Str}
/-- isinstance(e, C) -/
def wIsiO (K : PySem.W.Frag) (C : Addr) (w : TDE) : TDE := fun ρ R => w ρ fun d => ∃ b, R (.bl b) ∧ ((∃ E fs, d = .ins E fs ∧ ClsT K E ∧ PySem.W.kitOne K (.ref E) (.ref C) = some b) ∨ (plainD d = true ∧ PySem.W.kitOne K (.type (tyN d)) (.ref C) = some b))
theorem de_isiO (hg : Gl X "isinstance") (hm : X.mg "isinstance" = none) (hgx : Gl X x) (hmx : X.mg x = some (.ref C)) (h : DE X s1 e w) (hdx : (x == ("__debug__" : Str)) = false := by decide)
    (he : starEach [e, .Name x p2] X.env = (false, eval e X.env) :: starEach [.Name x p2] X.env := by rfl) (he2 : starEach [.Name x p2] X.env = (false, eval (.Name x p2) X.env) :: starEach [] X.env := by rfl) (hpl : (backTo pos (starEach [.Name x p2] X.env)).any (·.1) = false := by rfl) :
    DE X s (.Call (.Name "isinstance" p) [e, .Name x p2] [] pos) (wIsiO X.K C w) := by
  refine PE_imp (pe_callB call_isi hg hm (by decide +kernel) (pa_cons h (pa_cons (pe_glob hgx hmx (v := .ref C) rfl hdx) pa_nil he2) he) (by decide) (by decide) he hpl) ?_
  rintro σ H Q ⟨g, M, ρ, R, j, hw, k⟩
  refine ⟨g, M, ρ, _, j, hw, fun v H1 d f1 j1 r1 ⟨b, hR, hd⟩ => ?_⟩
  rcases hd with ⟨E, fs, rfl, ct, hk⟩ | ⟨hp, hk⟩
  · obtain ⟨a, dx, us, rfl, _, h1, _⟩ := rep_ins.mp r1
    exact ⟨_, _, _, _, b, rfl, .own C, .base (.ins (raw_ins h1) ct.cl ct.fc ct.sc ct.tc ct.mc), hk, k _ H1 _ f1 j1 (rep_bl.mpr rfl) hR⟩
  · exact ⟨_, _, _, _, b, rfl, .own C, ty_ok j1.ok hp r1, hk, k _ H1 _ f1 j1 (rep_bl.mpr rfl) hR⟩
theorem units65 {k : Nat} {A : Around} (hr : Room k A) : A.units + 65 < cLine := by have := hr.un; omega
theorem kit_self {K : PySem.W.Frag} {C : Addr} : PySem.W.kitOne K (.ref C) (.ref C) = some true := by
  unfold PySem.W.kitOne
  simp
end
section
variable {P : Program} {w : World} {K : PySem.W.Frag} {mg : Str → Option Value} {base : Heap}
theorem fnIn_of {x qual : Str} {params : Arguments} {body : List Stmt} {scope : Scope} {dvs : List V} {kws : List (Str × V)} {f : Addr} {fd : FuncData} (F : FunD K x qual params body scope dvs kws f fd) : PySem.W.fnIn K f = true := by
  obtain ⟨oc, od, dV, kV, doc, pm, an, cdv, ct, osl, rfl, lk, _⟩ := F.ex
  unfold PySem.W.fnIn
  rw [lk]
/-- THE RULE: a method -/
theorem calm_mk {st : Stmt} {x qual : Str} {C f : Addr} {fd : FuncData} {N ps : List Str} {k : Nat} {ss : List Sg} {sp : SpD} (t : TDS) (F : FunD K x qual (defArgs st) (defBody st) (defScope st) [] [] f fd) (hm : Meth K C x f) (S : FnScope N ps (defScope st))
    (hb : ∀ (kV doc pm : Value) (an : Option Addr) (cdv ct : Value) (us : List Value), us.length = ps.length → bindArgs (PySem.W.fnOf x qual (defArgs st) (defBody st) (defScope st) .none kV doc pm an cdv ct) ⟨us, []⟩ = pure (ps.zip us))
    (hbody : ∀ (cdv : Value) (A : Around) (outer : List Env) (s : Shared) (H : Hp) (E : XK), Room k (A.deeper (PyProof.Rows.envOfC qual (defScope st) s.heap.objs.size f cdv)) → PSs (cxOf CX0 P w K mg base N qual (defScope st) f cdv A outer s H E).nox (defBody st) (rdS K t))
    (hread : ∀ ds R, ds.length = ss.length → sp ds R → t { nx := fun _ => R .non, rt := R } (ini ss ds N.length)) (hss : ss.length = ps.length := by rfl) (hN : ps.length ≤ N.length := by decide) : CalM P w K mg base (k + 1) C x ps ss sp :=
  ⟨f, fd, fnD F S hss hN hbody hread, hm, fnIn_of F, F.bindsN hb⟩
/-- a property -/
theorem calp_mk {st : Stmt} {x qual : Str} {C p f : Addr} {fd : FuncData} {N ps : List Str} {k : Nat} {ss : List Sg} {sp : SpD} (t : TDS) (F : FunD K x qual (defArgs st) (defBody st) (defScope st) [] [] f fd) (hm : PropOf K C x p f) (S : FnScope N ps (defScope st))
    (hb : ∀ (kV doc pm : Value) (an : Option Addr) (cdv ct : Value) (us : List Value), us.length = ps.length → bindArgs (PySem.W.fnOf x qual (defArgs st) (defBody st) (defScope st) .none kV doc pm an cdv ct) ⟨us, []⟩ = pure (ps.zip us))
    (hbody : ∀ (cdv : Value) (A : Around) (outer : List Env) (s : Shared) (H : Hp) (E : XK), Room k (A.deeper (PyProof.Rows.envOfC qual (defScope st) s.heap.objs.size f cdv)) → PSs (cxOf CX0 P w K mg base N qual (defScope st) f cdv A outer s H E).nox (defBody st) (rdS K t))
    (hread : ∀ ds R, ds.length = ss.length → sp ds R → t { nx := fun _ => R .non, rt := R } (ini ss ds N.length)) (hss : ss.length = ps.length := by rfl) (hN : ps.length ≤ N.length := by decide) : CalP P w K mg base (k + 1) C x ps ss sp :=
  ⟨p, f, fd, fnD F S hss hN hbody hread, hm, F.bindsN hb⟩
end
end Tr
end
section
namespace Tr
open PySem PySem.Spec L2
local macro_rules | `(tactic| walk_at "rd0") => `(tactic| simp only [wSeq, wIfS, wOr, wNot, wAnd, wT, wCall, wCons, wNil, wC, wV, wRet, wNext, wSet, bdS, wSetL, wSetD, wIf, wTup, wLst, wIsN, wNotN, w2, wChain, wAndV, wOrV, wNotV, wExp, wIt, wFor, wLc, wRg1, wItS, wD0, wD1, wSl, wO0, wO1, wJoin, wipeB, wSetLi, List.getElem?_cons_zero, List.getElem?_cons_succ, List.set_cons_zero, List.set_cons_succ, x_some, x_bl, x_int, x_str, l_P, l_I0, l_I, l_EqS, l_EqI, l_EqB, l_NeS, l_NeI, Bool.not_true, Bool.not_false, if_true, if_false, Bool.false_eq_true, eq_self_iff_true])
/-! ### a Kind -/
structure Kf where
  nm : Str
  l : List (Str × D)
  o : List (Str × D)
  rs : List D
  h : Bool
def Kf.fs (k : Kf) : List (Str × D) := [("called", .str k.nm), ("leads", .dct (enc k.l)), ("fixed", .dct (enc k.o)), ("listed", .lst k.rs), ("veiled", .bl k.h)]
abbrev Kf.d (C : Addr) (k : Kf) : D := .ins C k.fs
structure okPs (ps : List (Str × D)) : Prop where
  nd : (ps.map (·.1)).Nodup
  im : ∀ p ∈ ps, imm p.2 = true
  len : ps.length ≤ 300
structure KfOk (k : Kf) : Prop where
  l : okPs k.l
  o : okPs k.o
  r : immL k.rs = true
def sp_Kind_name (C : Addr) : SpD := fun ds R => ∃ k : Kf, ds = [k.d C] ∧ R (.str k.nm)
def sp_Kind_hidden (C : Addr) : SpD := fun ds R => ∃ k : Kf, ds = [k.d C] ∧ R (.bl k.h)
def sp_Kind_links (C : Addr) : SpD := fun ds R => ∃ k : Kf, ds = [k.d C] ∧ KfOk k ∧ R (.dct (enc k.l))
def sp_Kind_own (C : Addr) : SpD := fun ds R => ∃ k : Kf, ds = [k.d C] ∧ KfOk k ∧ R (.dct (enc k.o))
def sp_Kind_rules (C : Addr) : SpD := fun ds R => ∃ k : Kf, ds = [k.d C] ∧ KfOk k ∧ R (.lst k.rs)
def sp_Kind_getitem (C : Addr) : SpD := fun ds R => ∃ (k : Kf) (x : Str) (d : D), ds = [k.d C, .str x] ∧ KfOk k ∧ k.o.lookup x = some d ∧ R d
def hasO (k : Kf) : D → Bool
  | .str x => (k.o.lookup x).isSome
  | _ => false
def sp_Kind_contains (C : Addr) : SpD := fun ds R => ∃ (k : Kf) (d : D), ds = [k.d C, d] ∧ plainD d = true ∧ R (.bl (hasO k d))
def eqPs (a b : List (Str × D)) : Option Bool := (dctHits (enc b) (enc a)).map fun r => (a.length == b.length && r)
def eqRs (a b : List D) : Option Bool := eqPD (.lst a) (.lst b)
def sp_Kind_eq (K : PySem.W.Frag) (C : Addr) : SpD := fun ds R => ∃ (a b : Kf) (b1 b2 b3 : Bool), ds = [a.d C, b.d C] ∧ ClsT K C ∧ eqPs a.l b.l = some b1 ∧ eqPs a.o b.o = some b2 ∧ eqRs a.rs b.rs = some b3 ∧ R (.bl (decide (a.nm = b.nm) && decide (a.h = b.h) && (b1 && (b2 && b3))))
def t_Kind_init : List TDS := [(wIfS (wNot (wT (wCall sp_is_name (wCons (wV .t 1) wNil)))) wNever wNext),
  (wSet .s 6 (wCall sp_read_links (wCons (wV .t 2) wNil))),
  (wIfS (wT (wIsN (wV .t 6))) wNever wNext),
  (wSet .s 7 (wCall sp_read_own (wCons (wV .t 3) (wCons (wV .t 6) wNil)))),
  (wIfS (wT (wIsN (wV .t 7))) wNever wNext),
  (wSet .s 8 (wCall sp_read_rules (wCons (wV .t 4) (wCons (wV .t 6) wNil)))),
  (wIfS (wT (wIsN (wV .t 8))) wNever wNext),
  (wIfS (wNot (wT (wCall semIsi (wCons (wV .t 5) (wCons (wC (.ty "bool")) wNil))))) wNever wNext)]
def t_Kind_name (CKind : Addr): TDS := wRet (wImm (wFld CKind "called" (wV .t 0)))
def t_Kind_hidden (CKind : Addr): TDS := wRet (wImm (wFld CKind "veiled" (wV .t 0)))
def t_Kind_links (CKind : Addr): TDS := wRet (wDc (wItK (wFld CKind "leads" (wV .w 0))) (st1 .s 1) wYes (wV .t 1) (wImm (wDGet (wFld CKind "leads" (wV .t 0)) (wV .t 1))) [1])
def t_Kind_own (CKind : Addr): TDS := wRet (wDc (wItK (wFld CKind "fixed" (wV .w 0))) (st1 .s 1) wYes (wV .t 1) (wImm (wDGet (wFld CKind "fixed" (wV .t 0)) (wV .t 1))) [1])
def t_Kind_rules (CKind : Addr): TDS := wRet (wCall semLstI (wCons (wFld CKind "listed" (wV .t 0)) wNil))
def t_Kind_getitem (CKind : Addr): TDS := wSeq (wIfS (wOr (wNot (wT (wCall semIsi (wCons (wV .t 1) (wCons (wC (.ty "str")) wNil))))) (wT (wDIn true (wV .t 1) (wFld CKind "fixed" (wV .t 0))))) wNever wNext)
    (wRet (wImm (wDGet (wFld CKind "fixed" (wV .t 0)) (wV .t 1))))
def t_Kind_contains (CKind : Addr): TDS := wRet (wAndV (wCall semIsi (wCons (wV .t 1) (wCons (wC (.ty "str")) wNil))) (wDIn false (wV .t 1) (wFld CKind "fixed" (wV .t 0))))
def t_Kind_eq (K : PySem.W.Frag) (CKind : Addr): TDS := wSeq (wIfS (wNot (wT (wIsiO K CKind (wV .t 1)))) (wRet (wC (.bl false))) wNext)
    (wSeq (wIfS (wOr (wT (w2 semNe (wFld CKind "called" (wV .t 0)) (wFld CKind "called" (wV .t 1)))) (wT (w2 semNe (wFld CKind "veiled" (wV .t 0)) (wFld CKind "veiled" (wV .t 1))))) (wRet (wC (.bl false))) wNext)
    (wRet (wAndV (w2 semEqK (wFld CKind "leads" (wV .t 0)) (wFld CKind "leads" (wV .t 1))) (wAndV (w2 semEqK (wFld CKind "fixed" (wV .t 0)) (wFld CKind "fixed" (wV .t 1))) (w2 semEqD (wFld CKind "listed" (wV .t 0)) (wFld CKind "listed" (wV .t 1)))))))
theorem enc_look {ps : List (Str × D)} (h : (ps.map (·.1)).Nodup) : ((ps.map (·.1)).map fun x => ((Sum.inr x : Key), (ps.lookup x).getD .non)) = enc ps := by
  induction ps with
  | nil => rfl
  | cons p ps ih =>
    obtain ⟨x, d⟩ := p
    rw [List.map_cons, List.nodup_cons] at h
    have e : ∀ y ∈ ps.map (·.1), ((Sum.inr y : Key), (((x, d) :: ps).lookup y).getD .non) = (Sum.inr y, (ps.lookup y).getD .non) := fun y m => by
      have hne : (y == x) = false := by
        rw [beq_eq_false_iff_ne]
        rintro rfl
        exact h.1 m
      rw [List.lookup_cons, hne]
    rw [List.map_cons, List.map_cons, List.map_congr_left e, ih h.2]
    simp [enc]
theorem dc_copy {C : Addr} {f : Str} {fs : List (Str × D)} {ps : List (Str × D)} {R : DK} (hf : fs.lookup f = some (.dct (enc ps))) (ok : okPs ps) (h : R (.dct (enc ps))) :
    wDc (wItK (wFld C f (wV .w 0))) (st1 .s 1) wYes (wV .t 1) (wImm (wDGet (wFld C f (wV .t 0)) (wV .t 1))) [1] [.wv (.ins C fs), .non] R := by
  refine ⟨fs, _, rfl, hf, enc ps, rfl, ?_⟩
  have ek : keysD (enc ps) = (ps.map (·.1)).map D.str := keys_enc ps
  rw [ek]
  refine dc_keys (g := fun x => (ps.lookup x).getD .non) _ [] (fun x m => ⟨[.wv (.ins C fs), .val (.str x)], rfl, fun R' hR => hR, fun R' hR => ?_⟩) (by simpa using nodup_inr ok.nd) (by simp; exact Nat.le_trans ok.len (by decide)) ?_
  · obtain ⟨d, hd⟩ := lookup_some m
    rw [hd] at hR
    have im : imm d = true := by
      obtain ⟨p, hp, e⟩ := List.mem_map.mp m
      have := mem_lookup (x := p.1) (d := p.2) ok.nd hp
      rw [valD_enc, e, hd] at this
      cases this
      exact ok.im p hp
    exact ⟨fs, _, rfl, hf, _, .inr x, d, rfl, rfl, by rw [valD_enc, hd], im, hR⟩
  · simp only [List.nil_append]
    rw [enc_look ok.nd]
    exact h
theorem rd_Kind_name (CKind : Addr) (ds : List D) (R : DK) (hl : ds.length = 1) (h : sp_Kind_name CKind ds R) : t_Kind_name CKind { nx := fun _ => R .non, rt := R } (ini [.w] ds 1) := by
  obtain ⟨k, rfl, hR⟩ := h
  exact ⟨k.fs, _, rfl, rfl, rfl, hR⟩
theorem rd_Kind_hidden (CKind : Addr) (ds : List D) (R : DK) (hl : ds.length = 1) (h : sp_Kind_hidden CKind ds R) : t_Kind_hidden CKind { nx := fun _ => R .non, rt := R } (ini [.w] ds 1) := by
  obtain ⟨k, rfl, hR⟩ := h
  exact ⟨k.fs, _, rfl, rfl, rfl, hR⟩
theorem rd_Kind_links (CKind : Addr) (ds : List D) (R : DK) (hl : ds.length = 1) (h : sp_Kind_links CKind ds R) : t_Kind_links CKind { nx := fun _ => R .non, rt := R } (ini [.w] ds 2) := by
  obtain ⟨k, rfl, ok, hR⟩ := h
  exact dc_copy rfl ok.l hR
theorem rd_Kind_own (CKind : Addr) (ds : List D) (R : DK) (hl : ds.length = 1) (h : sp_Kind_own CKind ds R) : t_Kind_own CKind { nx := fun _ => R .non, rt := R } (ini [.w] ds 2) := by
  obtain ⟨k, rfl, ok, hR⟩ := h
  exact dc_copy rfl ok.o hR
theorem rd_Kind_rules (CKind : Addr) (ds : List D) (R : DK) (hl : ds.length = 1) (h : sp_Kind_rules CKind ds R) : t_Kind_rules CKind { nx := fun _ => R .non, rt := R } (ini [.w] ds 1) := by
  obtain ⟨k, rfl, ok, hR⟩ := h
  exact ⟨k.fs, _, rfl, rfl, _, _, rfl, rfl, ok.r, hR⟩
theorem imm_look {ps : List (Str × D)} (ok : okPs ps) {x : Str} {d : D} (h : ps.lookup x = some d) : imm d = true := by
  have : ∀ {ps : List (Str × D)}, (∀ p ∈ ps, imm p.2 = true) → ps.lookup x = some d → imm d = true := by
    intro ps
    induction ps with
    | nil => intro _ e; cases e
    | cons p ps ih =>
      obtain ⟨y, e0⟩ := p
      intro hi e
      rw [List.lookup_cons] at e
      split at e
      · cases e; exact hi _ List.mem_cons_self
      · exact ih (fun p m => hi p (List.mem_cons_of_mem _ m)) e
  exact this ok.im h
theorem rd_Kind_getitem (CKind : Addr) (ds : List D) (R : DK) (hl : ds.length = 2) (h : sp_Kind_getitem CKind ds R) : t_Kind_getitem CKind { nx := fun _ => R .non, rt := R } (ini [.w, .w] ds 2) := by
  obtain ⟨k, x, d, rfl, ok, hx, hR⟩ := h
  show t_Kind_getitem CKind _ [Bd.wv (k.d CKind), .wv (.str x)]
  have e1 : valD (enc k.o) (.inr x) = some d := by rw [valD_enc, hx]
  unfold t_Kind_getitem
  walk_at "rd0"
  refine l_isi.mpr ⟨true, isi_str rfl, ?_⟩
  walk_at "rd0"
  refine ⟨k.fs, _, rfl, rfl, enc k.o, .inr x, rfl, rfl, ?_⟩
  rw [e1]
  walk_at "rd0"
  rw [if_neg (by simp)]
  exact ⟨k.fs, _, rfl, rfl, _, .inr x, d, rfl, rfl, e1, imm_look ok.o hx, hR⟩
theorem rd_Kind_contains (CKind : Addr) (ds : List D) (R : DK) (hl : ds.length = 2) (h : sp_Kind_contains CKind ds R) : t_Kind_contains CKind { nx := fun _ => R .non, rt := R } (ini [.w, .w] ds 2) := by
  obtain ⟨k, d, rfl, hp, hR⟩ := h
  show t_Kind_contains CKind _ [Bd.wv (k.d CKind), .wv d]
  unfold t_Kind_contains
  walk_at "rd0"
  refine l_isi.mpr ⟨_, isi_str hp, _, rfl, ?_⟩
  cases d with
  | str x =>
    refine ⟨k.fs, _, rfl, rfl, enc k.o, .inr x, rfl, rfl, ?_⟩
    rw [valD_enc]
    exact hR
  | _ => exact hR
theorem rd_Kind_eq (K : PySem.W.Frag) (CKind : Addr) (ds : List D) (R : DK) (hl : ds.length = 2) (h : sp_Kind_eq K CKind ds R) : t_Kind_eq K CKind { nx := fun _ => R .non, rt := R } (ini [.w, .w] ds 2) := by
  obtain ⟨a, b, b1, b2, b3, rfl, ct, h1, h2, h3, hR⟩ := h
  show t_Kind_eq K CKind _ [Bd.wv (a.d CKind), .wv (b.d CKind)]
  unfold t_Kind_eq
  walk_at "rd0"
  refine ⟨true, ⟨true, rfl, ?_⟩, .inl ⟨CKind, b.fs, rfl, ct, kit_self⟩⟩
  walk_at "rd0"
  refine ⟨a.fs, _, rfl, rfl, b.fs, _, rfl, rfl, l_NeS.mpr ?_⟩
  refine ⟨_, rfl, ?_⟩
  by_cases en : a.nm = b.nm
  · rw [decide_eq_true en] at hR ⊢
    walk_at "rd0"
    refine ⟨a.fs, _, rfl, rfl, b.fs, _, rfl, rfl, l_NeB.mpr ?_⟩
    refine ⟨_, rfl, ?_⟩
    by_cases eh : a.h = b.h
    · rw [decide_eq_true eh] at hR ⊢
      walk_at "rd0"
      unfold eqPs at h1 h2
      obtain ⟨r1, k1, rfl⟩ := Option.map_eq_some_iff.mp h1
      obtain ⟨r2, k2, rfl⟩ := Option.map_eq_some_iff.mp h2
      have el : ∀ ps : List (Str × D), (enc ps).length = ps.length := fun ps => by simp [enc]
      refine ⟨a.fs, _, rfl, rfl, b.fs, _, rfl, rfl, enc a.l, enc b.l, r1, rfl, rfl, k1, ?_⟩
      refine ⟨_, rfl, ?_⟩
      rw [el, el]
      cases e1 : (a.l.length == b.l.length && r1) with
      | false => rw [e1] at hR; exact hR
      | true =>
        rw [e1] at hR
        refine ⟨a.fs, _, rfl, rfl, b.fs, _, rfl, rfl, enc a.o, enc b.o, r2, rfl, rfl, k2, _, rfl, ?_⟩
        rw [el, el]
        cases e2 : (a.o.length == b.o.length && r2) with
        | false => rw [e2] at hR; exact hR
        | true =>
          rw [e2] at hR
          refine ⟨a.fs, _, rfl, rfl, b.fs, _, rfl, rfl, ?_⟩
          unfold eqRs eqPD at h3
          split at h3
          · rename_i p q hp hq
            split at h3
            · rename_i hs
              cases h3
              rw [Bool.and_eq_true] at hs
              exact ⟨p, q, hp, hq, hs.1, hs.2, hR⟩
            · cases h3
          · cases h3
    · rw [decide_eq_false eh] at hR ⊢
      walk_at "rd0"
      simpa using hR
  · rw [decide_eq_false en] at hR ⊢
    walk_at "rd0"
    simpa using hR
/-! making one -/
def skey (ps : List (Str × D)) : List (Str × D) := (srt (ps.map (·.1))).map fun x => (x, (ps.lookup x).getD .non)
theorem byKey_skey (ps : List (Str × D)) : byKey ps = enc (skey ps) := by
  unfold byKey skey enc
  rw [List.map_map]
  rfl
def sp_Kind_init : SpM := fun ds R => ∃ (nm : Str) (l o r : D) (h : Bool) (k : Kf), ds = [.str nm, l, o, r, .bl h] ∧ isNm nm = true ∧ (sm l = true ∧ nodupD l = true) ∧ (sm o = true ∧ nodupD o = true) ∧ sm r = true ∧
  readLinks l = .dct (enc k.l) ∧ readOwn o (enc k.l) = .dct (enc k.o) ∧ readRules r (enc k.l) = .lst k.rs ∧ k.nm = nm ∧ k.h = h ∧ R k.fs
theorem init_sm {nm : Str} (h : isNm nm = true) : small (.str nm) = true := by
  unfold isNm at h
  simp only [Bool.and_eq_true, decide_eq_true_eq] at h
  exact decide_eq_true (Nat.le_trans h.1.2 (by decide))
theorem rd_Kind_init {E : EndsD} {b0 : Bd} {nm : Str} {l o r : D} {h : Bool} {k : Kf} (hn : isNm nm = true) (hl : sm l = true ∧ nodupD l = true) (ho : sm o = true ∧ nodupD o = true) (hr : sm r = true)
    (e1 : readLinks l = .dct (enc k.l)) (e2 : readOwn o (enc k.l) = .dct (enc k.o)) (e3 : readRules r (enc k.l) = .lst k.rs)
    (hE : E.nx [b0, .wv (.str nm), .wv l, .wv o, .wv r, .wv (.bl h), .val (.dct (enc k.l)), .val (.dct (enc k.o)), .val (.lst k.rs)]) :
    wSeqs t_Kind_init E [b0, .wv (.str nm), .wv l, .wv o, .wv r, .wv (.bl h), .non, .non, .non] := by
  unfold t_Kind_init wSeqs
  refine ⟨_, rfl, init_sm hn, _, rfl, ?_⟩
  show if (!isNm nm) = true then _ else _
  rw [hn]
  refine ⟨_, rfl, hl.1, hl.2, ?_⟩
  rw [e1]
  refine ⟨_, rfl, ?_⟩
  refine ⟨_, _, rfl, ho.1, ho.2, ?_⟩
  rw [e2]
  refine ⟨_, rfl, ?_⟩
  refine ⟨_, _, rfl, hr, ?_⟩
  rw [e3]
  refine ⟨_, rfl, ?_⟩
  exact ⟨_, _, true, rfl, isi_bool rfl, _, rfl, hE⟩
end Tr
end
section
namespace Tr
open PySem PySem.Spec L2
theorem RepP.weak {K : PySem.W.Frag} {z : Zo} {B B' : Addr → Prop} {H : Hp} : ∀ {ss : List Sg} {ds : List D} {vs : List V}, ss.all (fun q => decide (q ≠ .s)) = true → RepP K z B H ss ds vs → RepP K z B' H ss ds vs := by
  intro ss
  induction ss with
  | nil => intro ds vs _ h; exact h
  | cons q ss ih =>
    intro ds vs h r
    obtain ⟨d, ds', v, vs', e1, e2, r, rs⟩ := r
    rw [List.all_cons, Bool.and_eq_true] at h
    refine ⟨d, ds', v, vs', e1, e2, ?_, ih h.2 rs⟩
    cases q with
    | s => exact absurd h.1 (by decide)
    | w => exact r
    | t => exact r
/-! ### a frame whose first slot is an address -/
theorem J.ini0 {K : PySem.W.Frag} {z : Zo} {B : Addr → Prop} {H : Hp} {ss : List Sg} {ds : List D} {vs : List V} {x : Str} {N : List Str} {p : Addr} (hz : StOk z H) (hB : ∀ b, B b → H b ≠ none) (r : RepP K z B H ss ds vs) (hl : ss.length ≤ N.length) :
    J K ⟨z, B, H, [], []⟩ (fun _ => False) (L2.start (x :: N) (.ref p :: vs)) H (.wv (.adr p) :: Tr.ini ss ds N.length) := by
  have j := J.ini hz hB r hl
  have e : L2.start (x :: N) (.ref p :: vs) = some (.ref p) :: L2.start N vs := by
    unfold L2.start
    simp
  rw [e]
  refine ⟨j.fr, j.ok0, j.ok, j.bz, j.new, j.mt, by simp [j.len], fun i b o h1 h2 => ?_, fun i k q h1 h2 => ?_, j.hid, j.raw⟩
  · cases i with
    | zero =>
      simp at h1 h2
      subst h1 h2
      exact ⟨_, rfl, by simp only [Rep]⟩
    | succ i => exact j.sl i b o (by simpa using h1) (by simpa using h2)
  · have down : ∀ i, OwnAt (.wv (.adr p) :: Tr.ini ss ds N.length) (some (.ref p) :: L2.start N vs) i q → ∃ n, i = n + 1 ∧ OwnAt (Tr.ini ss ds N.length) (L2.start N vs) n q := fun i ⟨⟨b, e1, e2⟩, e3⟩ => by
      cases i with
      | zero => simp at e1; subst e1; cases e2
      | succ n => exact ⟨n, rfl, ⟨b, by simpa using e1, e2⟩, by simpa using e3⟩
    obtain ⟨n, rfl, h1⟩ := down i h1
    obtain ⟨m, rfl, h2⟩ := down k h2
    rw [j.dis n m q h1 h2]
/-! ### storing fields -/
def tStores (K : PySem.W.Frag) : List (Str × Nat) → TS
  | [] => tNext
  | [q] => sFld K (tVar 0) (tVar q.2) q.1
  | q :: r => tSeq (sFld K (tVar 0) (tVar q.2) q.1) (tStores K r)
def vAt (σ : L2.St) (i : Nat) : V := match σ[i]? with
  | some (some v) => v
  | _ => .non
def puts (σ : L2.St) (st : List (Str × Nat)) (ws : List (Str × V)) : List (Str × V) := st.foldl (fun ws q => putF q.1 (vAt σ q.2) ws) ws
theorem putF_len (f : Str) (v : V) : ∀ ws : List (Str × V), (putF f v ws).length ≤ ws.length + 1
  | [] => by simp [putF]
  | (g, x) :: r => by
    unfold putF
    split
    · simp
    · simp only [List.length_cons]
      have := putF_len f v r
      omega
theorem stores_run {K : PySem.W.Frag} {C p dx : Addr} {σ : L2.St} {D : Ends} (cl : Cls K C) (h0 : σ[0]? = some (some (.ref p))) : ∀ (st : List (Str × Nat)) (ws : List (Str × V)) (H : Hp), H p = some (.ins C dx ws) → (∀ q ∈ st, NoAttr K C q.1 ∧ ∃ v, σ[q.2]? = some (some v)) → ws.length + st.length < 1000 →
    (∀ H', (∀ b, b ≠ p → H' b = H b) → H' p = some (.ins C dx (puts σ st ws)) → D.nx σ H') → tStores K st D σ H
  | [], ws, H, hp, hq, hl, k => k H (fun _ _ => rfl) hp
  | [q], ws, H, hp, hq, hl, k => by
    obtain ⟨hn, v, hv⟩ := hq q List.mem_cons_self
    have ev : vAt σ q.2 = v := by unfold vAt; rw [hv]
    refine ⟨v, hv, _, h0, p, C, dx, ws, rfl, hp, cl, hn, by simp at hl; omega, k _ (fun b hb => upd_ne hb) ?_⟩
    rw [upd_same]
    unfold puts
    rw [List.foldl_cons, List.foldl_nil, ev]
  | q :: q2 :: r, ws, H, hp, hq, hl, k => by
    obtain ⟨hn, v, hv⟩ := hq q List.mem_cons_self
    have ev : vAt σ q.2 = v := by unfold vAt; rw [hv]
    refine ⟨v, hv, _, h0, p, C, dx, ws, rfl, hp, cl, hn, by simp at hl; omega, ?_⟩
    refine stores_run cl h0 (q2 :: r) (putF q.1 v ws) _ upd_same (fun x m => hq x (List.mem_cons_of_mem _ m)) (by have := putF_len q.1 v ws; simp at hl ⊢; omega) fun H' e1 e2 => k H' (fun b hb => by rw [e1 b hb, upd_ne hb]) ?_
    rw [e2]
    unfold puts
    rw [List.foldl_cons (b := ws), ev]
/-- what was stored, as trees -/
theorem rep_stored {K : PySem.W.Frag} {z : Zo} {A : Addr → Prop} {H H' : Hp} {p : Addr} {C dx : Addr} {ws : List (Str × V)} (hp : A p) (ho : H p = some (.ins C dx ws)) (e : ∀ b, b ≠ p → H' b = H b) {d : D} {v : V} (r : Rep K z A H d v) : Rep K z A H' d v := by
  refine r.ov ⟨fun b o h t => ?_, fun b o n h => ⟨n, ?_⟩⟩
  · have nb : b ≠ p := fun z => by
      subst z
      cases o <;> first | cases t | skip
      have := raw_tup h
      rw [ho] at this; cases this
    unfold nz
    rw [e b nb]
    exact h
  · have nb : b ≠ p := fun z => by subst z; exact n hp
    unfold nz
    rw [e b nb]
    exact h
/-- a new instance: a part by trees, then stores of slots -/
theorem init_ok {K : PySem.W.Frag} {C p dx : Addr} {z : Zo} {B : Addr → Prop} {H : Hp} {x : Str} {N : List Str} {ss : List Sg} {ds : List D} {us : List V} {ws : List TDS} {st : List (Str × Nat)} {ρ : Ev} {fs : List (Str × D)} {Q : VK} (cl : Cls K C)
    (hp : H p = some (.ins C dx [])) (nvp : ¬ vol z p) (hz : StOk z H) (hB : ∀ b, B b → H b ≠ none) (r : RepP K z (fun b => B b ∨ b = p) H ss ds us) (hl : ss.length ≤ N.length)
    (hn : ∀ q ∈ st, NoAttr K C q.1) (h0 : ρ[0]? = some (.wv (.adr p))) (hst : st.length < 1000)
    (hw : wSeqs ws { nx := fun ρ' => ρ' = ρ, rt := fun _ => False } (.wv (.adr p) :: Tr.ini ss ds N.length))
    (hfs : ∀ (M : Addr → Prop) (σ : L2.St) (H' : Hp), (∀ (i : Nat) (d : D), ρ[i]? = some (Bd.val d) ∨ (ρ[i]? = some (Bd.wv d) ∧ imm d = true) → ∃ v, σ[i]? = some (some v) ∧ Rep K z (fun a => vol z a ∨ B a ∨ a = p) H' d v) → (∀ q ∈ st, ∃ v, σ[q.2]? = some (some v)) ∧ RepF K z (fun a => vol z a ∨ B a ∨ a = p) H' fs (puts σ st []))
    (k : ∀ H' ws, Fr (fun b => vol z b ∨ b = p) H H' → StOk z H' → H' p = some (.ins C dx ws) → RepF K z (fun a => vol z a ∨ B a ∨ a = p) H' fs ws → Q .non H') :
    tSeqs K (tStores K st) ws { nx := fun _ H' => Q .non H', rt := Q } (L2.start (x :: N) (.ref p :: us)) H := by
  have hB' : ∀ b, (B b ∨ b = p) → H b ≠ none := fun b hb => hb.elim (hB b) fun e => by rw [e, hp]; simp
  have j := J.ini0 (x := x) (N := N) (p := p) hz hB' r hl
  refine lks (E := { nx := fun ρ' => ρ' = ρ, rt := fun _ => False }) (fun _ _ _ _ _ _ h => h.elim) (fun _ _ _ _ _ h => h.elim) (fun _ _ _ _ _ h => h.elim) (fun M σ H1 ρ' j1 e => ?_) ws _ _ _ _ j hw
  have e' : ρ' = ρ := e
  subst e'
  obtain ⟨o, eo, v0, rfl, hv0⟩ := j1.getO h0
  have ev : v0 = .ref p := by simpa only [Rep] using hv0
  subst ev
  have hp1 : H1 p = some (.ins C dx []) := j1.fr p _ hp fun zz => absurd zz nvp
  have vals : ∀ (i : Nat) (d : D), ρ'[i]? = some (Bd.val d) ∨ (ρ'[i]? = some (Bd.wv d) ∧ imm d = true) → ∃ v, σ[i]? = some (some v) ∧ Rep K z (fun a => vol z a ∨ B a ∨ a = p) H1 d v := fun i d h => by
    rcases h with h | ⟨h, im⟩
    · obtain ⟨o, eo, v, rfl, hv⟩ := j1.getO h
      exact ⟨v, eo, hv.ov (Ov.less fun b hb => hb.elim .inl fun h => .inr (.inl h))⟩
    · obtain ⟨o, eo, v, rfl, hv⟩ := j1.getO h
      exact ⟨v, eo, hv.imm (fun _ _ e _ => e) im⟩
  obtain ⟨hv, hF⟩ := hfs M σ H1 vals
  refine stores_run cl eo st [] H1 hp1 (fun q m => ⟨hn q m, hv q m⟩) (by simpa using hst) fun H2 e1 e2 => ?_
  have vals2 : ∀ (i : Nat) (d : D), ρ'[i]? = some (Bd.val d) ∨ (ρ'[i]? = some (Bd.wv d) ∧ imm d = true) → ∃ v, σ[i]? = some (some v) ∧ Rep K z (fun a => vol z a ∨ B a ∨ a = p) H2 d v := fun i d h => by
    obtain ⟨v, h1, h2⟩ := vals i d h
    exact ⟨v, h1, rep_stored (p := p) (.inr (.inr rfl)) hp1 e1 h2⟩
  refine k H2 _ ⟨fun b o hb ht => ?_, fun b y u e => ?_⟩ ?_ e2 (hfs M σ H2 vals2).2
  · have nb : b ≠ p ∨ isT o = true := by
      by_cases z : b = p
      · exact .inr (ht (.inr z))
      · exact .inl z
    have nb' : b ≠ p := nb.elim id fun t => fun zz => by
      subst zz
      rw [hp] at hb; cases hb; cases t
    rw [e1 b nb']
    exact j1.fr b o hb fun hv => ht (.inl hv)
  · have nb : b ≠ p := fun zz => by
      subst zz
      rw [e2] at e; cases e
    rw [e1 b nb] at e
    exact j1.fr.nl b y u e
  · have hs := j1.ok
    cases z with
    | none => trivial
    | some q =>
      obtain ⟨n, cells, i, c, h1, h2, h3⟩ := hs
      exact ⟨n, cells, i, c, by rw [e1 _ fun zz => nvp (.inl zz.symm)]; exact h1, by rw [e1 _ fun zz => nvp (.inr zz.symm)]; exact h2, h3⟩
end Tr
end
section
namespace Tr
open PySem PySem.Spec L2
/-- a class whose instances are made by the promise sp: positional parameters ss, keyword-only ones ks (strengths ss2, defaults dvs) -/
structure CalK (P : Program) (w : World) (K : PySem.W.Frag) (mg : Str → Option Value) (base : Heap) (k : Nat) (x : Str) (C : Addr) (ps ks : List Str) (ss ss2 : List Sg) (dvs : List V) (sp : SpM) : Prop where
  ex : ∃ f fd, mg x = some (.ref C) ∧ Mk K C f ∧ FnOk P w K mg base CX0 k f fd ps (toMk K C (ss ++ ss2) sp) ∧ (∃ ds, Vals dvs ds ∧ Binds K fd ps ds) ∧ KBn K fd ps (ss.length + 1) ks (fun us ws => us ++ ws) (fun vs zs => vs ++ zs)
section
variable {X : Cx} {s : Sg} {e : Expr} {es : List Expr} {pos p : Pos} {ws wk : TDA} {ss ss2 : List Sg} {k : Nat} {x : Str} {C : Addr} {ps ks : List Str} {dvs : List V} {sp : SpM} {kws : List Keyword}
theorem de_mkP {more : List D} (c : CalK X.prog X.w X.K X.mg X.base k x C ps ks ss ss2 dvs sp) (hr : Room (k + 1) X.A) (hg : Gl X x) (ha : DA X (ss.map (cs s)) (e :: es) ws) (hm : ∀ g M H, RepA X.K g M H (ss2.map (cs s)) more dvs) (hdb : (x == ("__debug__" : Str)) = false := by decide) (he : starEach (e :: es) X.env = (false, eval e X.env) :: starEach es X.env := by rfl) (hpl : (backTo pos (starEach es X.env)).any (·.1) = false := by rfl) :
    DE X s (.Call (.Name x p) (e :: es) [] pos) (wMk sp C ws more) := by
  obtain ⟨f, fd, h1, h2, F, ⟨ds, h3, h4⟩, h5⟩ := c.ex
  exact de_mk (E := E0) (pe_make h2 F hr hg h1 h4 h3 pass0 ha hdb he hpl) hm
theorem de_mkQ (c : CalK X.prog X.w X.K X.mg X.base k x C ps ks ss ss2 dvs sp) (hr : Room (k + 1) X.A) (hg : Gl X x) (ha : DA X (ss.map (cs s)) (e :: es) ws) (hk : DKw X (ss2.map (cs s)) kws wk) (hl : ss2.length = ks.length := by rfl)
    (hall : (backToKw pos (keywordEach kws X.env)).all (·.1.isSome) = true := by rfl) (hks : (backToKw pos (keywordEach kws X.env)).filterMap (·.1) = ks := by rfl) (hdb : (x == ("__debug__" : Str)) = false := by decide)
    (he : starEach (e :: es) X.env = (false, eval e X.env) :: starEach es X.env := by rfl) (hpl : ((backTo pos (starEach (e :: es) X.env)).any (·.1) || (backToKw pos (keywordEach kws X.env)).any (·.1.isNone)) = false := by rfl) :
    DE X s (.Call (.Name x p) (e :: es) kws pos) (wMkK sp C ws wk) := by
  obtain ⟨f, fd, h1, h2, F, ⟨ds, h3, h4⟩, h5⟩ := c.ex
  exact de_mkK (E := E0) (pe_makeK h2 F hr hg h1 h5 pass0 ha hk hall hks hdb he hpl) rfl hl
end
end Tr
end
section
namespace Tr
open PySem PySem.Spec L2
/-! ### x.clear() -/
def rLClear : V → List V → Hp → VK → Prop := fun x vs H Q => ∃ (a : Addr) (xs : List V), x = .ref a ∧ vs = [] ∧ H a = some (.lst xs) ∧ Q .non (upd H a (.lst []))
theorem mtl_clear {X : Cx} : MtR X "list.clear" rLClear := by
  intro pins s σ H x vs v us Q I rx rv h
  obtain ⟨a, xs, ex, ev, e, q⟩ := h
  subst ex ev
  obtain rfl : v = Value.ref a := rx
  have hus := rv.zero
  subst hus
  obtain ⟨z, its, n, r, e'⟩ := (show ObjOk X.prog X.w H s.heap a (.lst xs) from I.hok a _ e)
  have hl := r.length
  refine call_meets PySem.F.slot_list_clear ⟨_, e', rfl⟩ PySem.F.entry_list_clear (PySem.F.args_list_clear_1 _) (AutoSeq1.list_clear_list_0 a its.toArray n (by rw [List.size_toArray]; omega)) ⟨e', ?_⟩
  exact ⟨.non, _, I.lset (its' := []) e e' (by simp) .nil (by simp), rfl, q⟩
/-- a list or a dict at p -/
def Clr (H : Hp) (p : Addr) : Prop := (∃ xs, H p = some (.lst xs)) ∨ ∃ kvs, H p = some (.dK kvs)
/-- H' is H, but for things in A, which are lists or dicts still -/
structure ClrTo (A : Addr → Prop) (H H' : Hp) : Prop where
  out : ∀ b, ¬ A b → H' b = H b
  in_ : ∀ b, A b → Clr H b → Clr H' b
def tClr (to : TE) : TE := fun σ H Q => to σ H fun x H1 => ∃ p, x = .ref p ∧ Clr H1 p ∧ ∀ H', ClrTo (fun b => b = p) H1 H' → Q .non H'
section
variable {X : Cx} {o : Expr} {to : TE} {apos cpos : Pos}
theorem pe_clr (ho : PE X o to) (hbase : attributeBase o "clear" X.env (eval o X.env) = eval o X.env := by rfl) (hline : (apos.endLine == cpos.line) = true := by rfl) : PE X (.Call (.Attribute o "clear" apos) [] [] cpos) (tClr to) := by
  have h1 := pe_bm0 (apos := apos) (cpos := cpos) PySem.F.plainAttrs_list PySem.F.slot_list_clear PySem.F.type_list_clear mtl_clear ho hbase hline
  have h2 := pe_dclear (apos := apos) (cpos := cpos) ho hbase hline
  refine ⟨fun pins s σ H Q I h => ?_⟩
  refine wpAny_Call_method0_late hbase hline (thn (ho.run pins s σ H _ I h) fun v s1 ⟨x, H1, I1, r1, p, ex, hc, q1⟩ => ?_)
  subst ex
  rcases hc with ⟨xs, hx⟩ | ⟨kvs, hx⟩
  · obtain ⟨k1, k2⟩ := tyV_is (T := "list") I1 r1 (.inl ⟨rfl, xs, SqL.of hx⟩)
    exact ⟨"list", "list.clear", PySem.F.plainAttrs_list, PySem.F.slot_list_clear, PySem.F.type_list_clear, k1, k2, Calls.callWith_builtin rfl (PySem.evalArgs_none (mtl_clear pins s1 σ H1 (.ref p) [] v [] Q I1 r1 .nil ⟨p, xs, rfl, rfl, hx, q1 _ ⟨fun b hb => upd_ne hb, fun b hb _ => by have e : b = p := hb; subst e; exact .inl ⟨_, upd_same⟩⟩⟩))⟩
  · obtain ⟨k1, k2⟩ := tyV_is (T := "dict") I1 r1 (.inr (.inr (.inl ⟨rfl, .inl ⟨kvs, hx⟩⟩)))
    exact ⟨"dict", "dict.clear", PySem.F.plainAttrs_dict, PySem.F.slot_dict_clear, PySem.F.type_dict_clear, k1, k2, Calls.callWith_builtin rfl (PySem.evalArgs_none (mtd_clear pins s1 σ H1 (.ref p) [] v [] Q I1 r1 .nil ⟨p, kvs, rfl, rfl, hx, q1 _ ⟨fun b hb => upd_ne hb, fun b hb _ => by have e : b = p := hb; subst e; exact .inr ⟨_, upd_same⟩⟩⟩))⟩
end
theorem ClrTo.refl {A : Addr → Prop} {H : Hp} : ClrTo A H H := ⟨fun _ _ => rfl, fun _ _ h => h⟩
theorem ClrTo.trans {A : Addr → Prop} {H H1 H2 : Hp} (a : ClrTo A H H1) (b : ClrTo A H1 H2) : ClrTo A H H2 := ⟨fun c hc => (b.out c hc).trans (a.out c hc), fun c hc h => b.in_ c hc (a.in_ c hc h)⟩
theorem ClrTo.mono {A A' : Addr → Prop} {H H1 : Hp} (a : ClrTo A H H1) (h : ∀ b, A b → A' b) (hc : ∀ b, A' b → ¬ A b → H1 b = H b) : ClrTo A' H H1 := ⟨fun c k => a.out c fun z => k (h c z), fun c k r => by
  by_cases z : A c
  · exact a.in_ c z r
  · unfold Clr
    rw [hc c k z]
    exact r⟩
def tExp0 (te : TE) : TS := fun D σ H => te σ H fun _ H1 => D.nx σ H1
/-- for x in l: x.clear() -/
theorem clr_for {K : PySem.W.Frag} {D : Ends} {σ : L2.St} {H : Hp} {a : Addr} {xs : List V} {n : Nat} {A : Addr → Prop} (hn : n < σ.length) (ha : SqL K H a xs) (nA : ∀ H', ClrTo A H H' → SqL K H' a xs) (hx : ∀ x ∈ xs, ∃ p, x = .ref p ∧ A p ∧ Clr H p)
    (k : ∀ σ' H', (∀ j, j ≠ n → σ'[j]? = σ[j]?) → ClrTo A H H' → D.nx σ' H') :
    ∃ W : Nat → Nat → L2.St → Hp → Prop, (∃ m, W 0 m σ H) ∧ ∀ i m σ H, W i m σ H →
      ((Itl K a).stop i H ∧ D.nx σ H) ∨ ((Itl K a).go i H ∧ ∃ N : L2.St → Hp → Prop, (∀ σ' H', N σ' H' → ∃ m', m' < m ∧ W (i + 1) m' σ' H') ∧ ∀ x H', (Itl K a).yld i H x H' → gName n x σ H' fun σ2 H2 => tExp0 (tClr (tVar n)) { D with nx := N, ct := N, bk := D.nx } σ2 H2) := by
  have W0 := walk_list (K := K) (a := a) (xs := xs)
  refine ⟨fun i m σ' H' => m = xs.length - i ∧ i ≤ xs.length ∧ σ'.length = σ.length ∧ (∀ j, j ≠ n → σ'[j]? = σ[j]?) ∧ ClrTo A H H', ⟨xs.length, by simp, Nat.zero_le _, rfl, fun _ _ => rfl, ClrTo.refl⟩, ?_⟩
  rintro i m σ' H' ⟨rfl, hi, hl, hs, hc⟩
  have hq := nA H' hc
  by_cases hlt : i < xs.length
  · refine .inr ⟨W0.goes i H' hlt hq, fun σ2 H2 => σ2.length = σ.length ∧ (∀ j, j ≠ n → σ2[j]? = σ[j]?) ∧ ClrTo A H H2, fun σ2 H2 ⟨e1, e2, e3⟩ => ⟨xs.length - (i + 1), by omega, rfl, hlt, e1, e2, e3⟩, fun x H2 y => ?_⟩
    obtain ⟨e3, e4⟩ := W0.yields i H' x H2 hlt hq y
    subst e3
    obtain ⟨p, rfl, hA, hcp⟩ := hx x (List.mem_of_getElem? e4)
    refine ⟨.ref p, by rw [List.getElem?_set_self (by rw [hl]; exact hn)], p, rfl, hc.in_ p hA hcp, fun H3 h3 => ⟨by simp [hl], fun j hj => ?_, hc.trans (h3.mono (fun b hb => by have e : b = p := hb; subst e; exact hA) fun b _ nb => h3.out b nb)⟩⟩
    rw [List.getElem?_set_ne (Ne.symm hj)]
    exact hs j hj
  · have e : i = xs.length := by omega
    subst e
    exact .inl ⟨W0.stops H' hq, k σ' H' hs hc⟩
end Tr
end
section
namespace Tr
open PySem PySem.Spec L2
/-- lists and dicts -/
def isC : D → Bool
  | .lst _ => true
  | .dct _ => true
  | _ => false
theorem rep_C {K : PySem.W.Frag} {z : Zo} {A : Addr → Prop} {H : Hp} {d : D} {v : V} (h : isC d = true) (r : Rep K z A H d v) : ∃ p, v = .ref p ∧ ¬ A p ∧ ((∃ xs, nz H p = some (.lst xs)) ∨ ∃ kvs, nz H p = some (.dK kvs)) := by
  cases d <;> first | cases h | skip
  · obtain ⟨a, vs, e, n, h1, _⟩ := rep_lst.mp r
    exact ⟨a, e, n, .inl ⟨vs, h1⟩⟩
  · obtain ⟨a, vs, e, n, h1, _⟩ := rep_dct.mp r
    exact ⟨a, e, n, .inr ⟨vs, h1⟩⟩
/-- fresh lists and dicts are not locked -/
theorem clr_of {H H0 : Hp} {z : Zo} {p : Addr} (hl : (∃ xs, nz H p = some (.lst xs)) ∨ ∃ kvs, nz H p = some (.dK kvs)) (hf : ∀ x y, H p ≠ some (.frz x y)) : Clr H p := by
  rcases hl with ⟨xs, h⟩ | ⟨kvs, h⟩
  · rcases nz_cases h with h | ⟨x, h⟩
    · exact .inl ⟨xs, h⟩
    · exact absurd h (hf _ _)
  · rcases nz_cases h with h | ⟨x, h⟩
    · exact .inr ⟨kvs, h⟩
    · exact absurd h (hf _ _)
theorem RepL.dropC {K : PySem.W.Frag} {z : Zo} {A : Addr → Prop} {H : Hp} {ds : List D} {vs : List V} (r : RepL K z A H ds vs) (hc : ∀ d ∈ ds, isC d = true) : ∀ v ∈ vs, ∃ p, v = .ref p ∧ ¬ A p ∧ ((∃ xs, nz H p = some (.lst xs)) ∨ ∃ kvs, nz H p = some (.dK kvs)) := by
  induction ds generalizing vs with
  | nil => rw [repL_nil.mp r]; intro v m; cases m
  | cons d ds ih =>
    obtain ⟨u, us, rfl, r1, r2⟩ := repL_cons.mp r
    intro v m
    rcases List.mem_cons.mp m with rfl | m
    · exact rep_C (hc d List.mem_cons_self) r1
    · exact ih r2 (fun d m => hc d (List.mem_cons_of_mem _ m)) v m
/-- what the clearing of fresh things leaves -/
theorem clr_end {z : Zo} {H0 H H' : Hp} {A : Addr → Prop} (f : Fr (vol z) H0 H) (k : StOk z H) (hA : ∀ b, A b → H0 b = none ∧ ¬ vol z b) (hC : ∀ b, A b → Clr H b) (c : ClrTo A H H') : Fr (vol z) H0 H' ∧ StOk z H' := by
  refine ⟨⟨fun b o hb ht => ?_, fun b x y e => ?_⟩, ?_⟩
  · rw [c.out b fun z => by rw [(hA b z).1] at hb; cases hb]
    exact f b o hb ht
  · by_cases hb : A b
    · rcases c.in_ b hb (hC b hb) with ⟨xs, h⟩ | ⟨xs, h⟩ <;> rw [e] at h <;> cases h
    · rw [c.out b hb] at e
      exact f.nl b x y e
  · cases z with
    | none => trivial
    | some q =>
      obtain ⟨n, cells, i, cc, h1, h2, h3⟩ := k
      exact ⟨n, cells, i, cc, by rw [c.out _ fun zz => (hA _ zz).2 (.inl rfl)]; exact h1, by rw [c.out _ fun zz => (hA _ zz).2 (.inr rfl)]; exact h2, h3⟩
abbrev clrFor (K : PySem.W.Frag) (te : TE) (n : Nat) : TS := tFor (iList K te) (gName n) (tDrop (tClr (tVar n)))
/-- for x in y[k:]: x.clear(), y one's own, its items fresh; behind it return good -/
theorem tail_clr {K : PySem.W.Frag} {g : Gh} {M : Addr → Prop} {σ : L2.St} {H : Hp} {ρ : Ev} {Q : VK} {i m n k : Nat} {ds : List D} {d3 : D} {N0 : L2.St → Hp → Prop} (j : J K g M σ H ρ) (full : ∀ b, g.H0 b ≠ none → g.B b) (h2 : ρ[i]? = some (.ol ds)) (hc : ∀ d ∈ ds.drop k, isC d = true) (h3 : ρ[m]? = some (.val d3)) (him : imm d3 = true) (hnm : m ≠ n) (hn : n < ρ.length)
    (fin : ∀ v H', Fr (vol g.z) g.H0 H' → StOk g.z H' → Rep K g.z (fun a => vol g.z a ∨ g.B a) H' d3 v → Q v H') :
    tSeq (clrFor K (tSl (rSlL K) (tVar i) (tPart (tC (.int (k : Nat)))) tNoPart) n) (tRet (tVar m)) { nx := N0, rt := Q } σ H := by
  obtain ⟨o, eo, p, vs, rfl, mp, hp, r⟩ := j.getO h2
  obtain ⟨o3, eo3, v3, rfl, r3⟩ := j.getO h3
  refine ⟨_, eo, _, rfl, ?_⟩
  refine ⟨p, vs, rfl, SqL.of hp, fun a ha => ⟨a, rfl, ⟨_, SqL.of upd_same⟩, ?_⟩⟩
  have ecut : cutV vs (some (k : Int)) none = vs.drop k := by
    unfold cutV
    rw [HT.sIx_nat, HT.sIx_none]
    rcases Nat.le_total k vs.length with hk | hk
    · rw [Nat.min_eq_left hk, List.take_of_length_le (by simp)]
    · rw [Nat.min_eq_right hk, List.drop_length, List.drop_of_length_le hk]; simp
  rw [ecut]
  have hv := (r.drop k).dropC hc
  have fresh : ∀ b, (∃ x ∈ vs.drop k, x = .ref b) → g.H0 b = none ∧ ¬ vol g.z b ∧ Clr H b := by
    rintro b ⟨x, hx, rfl⟩
    obtain ⟨p', e, nA, hl⟩ := hv _ hx
    cases e
    have h0 : g.H0 b = none := by
      cases q : g.H0 b with
      | none => rfl
      | some o => exact absurd (.inr (.inl (full b (by rw [q]; simp)))) nA
    exact ⟨h0, fun z => nA (.inl z), clr_of (H0 := g.H0) (z := g.z) hl fun x y z => by have := j.fr.nl b x y z; rw [h0] at this; cases this⟩
  have ne : ∀ b, (∃ x ∈ vs.drop k, x = .ref b) → b ≠ a := fun b hb e => by
    subst e
    rcases (fresh b hb).2.2 with ⟨xs, h⟩ | ⟨xs, h⟩ <;> rw [ha] at h <;> cases h
  refine clr_for (A := fun b => ∃ x ∈ vs.drop k, x = .ref b) (by rw [← j.len]; exact hn) (SqL.of upd_same) (fun H' c => ?_) (fun x hx => ?_) fun σ' H' hs c => ?_
  · refine SqL.of ?_
    rw [c.out a fun ⟨x, hx, e⟩ => ne a ⟨x, hx, e⟩ rfl]
    exact upd_same
  · obtain ⟨p', e, nA, hl⟩ := hv _ hx
    refine ⟨p', e, ⟨x, hx, e⟩, ?_⟩
    have := (fresh p' ⟨x, hx, e⟩).2.2
    unfold Clr
    rw [upd_ne (ne p' ⟨x, hx, e⟩)]
    exact this
  · refine ⟨v3, by rw [hs m hnm]; exact eo3, ?_⟩
    have f1 : Fr (vol g.z) g.H0 (upd H a (.lst (vs.drop k))) := j.fr.trans (Fr.laid ha)
    have k1 : StOk g.z (upd H a (.lst (vs.drop k))) := j.ok.laid ha
    obtain ⟨f2, k2⟩ := clr_end f1 k1 (fun b hb => ⟨(fresh b hb).1, (fresh b hb).2.1⟩) (fun b hb => by unfold Clr; rw [upd_ne (ne b hb)]; exact (fresh b hb).2.2) c
    refine fin v3 H' f2 k2 (r3.imm (fun b o h t => ?_) him)
    cases o <;> first | cases t | skip
    have hb := raw_tup h
    have nb : ¬ ∃ x ∈ vs.drop k, x = .ref b := fun hh => by
      rcases (fresh b hh).2.2 with ⟨xs, h⟩ | ⟨xs, h⟩ <;> rw [hb] at h <;> cases h
    exact nz_tup (by rw [c.out b nb, upd_ne (fun z => by rw [z, ha] at hb; cases hb)]; exact hb)
end Tr
end
section
namespace Tr
open PySem PySem.Spec L2 L2H HotX PyProof.Rows
/-! ### a comprehension where an exception is handled: its block keeps the exception pinned -/
abbrev bH (X : Cx) (e : Addr × Obj) (s : Shared) (H : Hp) (scope : Scope) (ce : Env) (fp : List Addr) : Cx := { X.blk s H scope ce fp with pn := [e] }
theorem bH_inv {X : Cx} {e : Addr × Obj} {s s' : Shared} {H H' : Hp} {scope : Scope} {ce : Env} {fp : List Addr} {σ : L2.St} (I : Inv (X.blk s H scope ce fp) [] σ H' s')
    (he : s'.heap.get? e.1 = some e.2 ∧ H' e.1 = none ∧ e.1 ≠ ce.locals ∧ e.1 ∉ frs X.stack ∧ ∀ v, e.2.data ≠ .cell v) : Inv (bH X e s H scope ce fp) [] σ H' s' :=
  ⟨⟨I.ok.mod, I.ok.kind, I.ok.glob, I.ok.blt, I.ok.above, I.ok.inj, I.ok.has, I.ok.cab, I.ok.hd, I.ok.frames, I.ok.stk, I.ok.exf, I.ok.bs, I.ok.bsz, I.ok.noex, I.ok.exfs, I.ok.funs, I.ok.frf⟩, I.os, I.bare, I.base, I.loc, I.cell, I.free, I.freeC,
    fun q hq => by
      have z : q = e := by simpa using (show q ∈ [e] ++ ([] : List (Addr × Obj)) from hq)
      rw [z]
      exact he, I.hok, I.len⟩
theorem bH_hot {X : Cx} {e : Addr × Obj} {s : Shared} {H : Hp} {scope : Scope} {ce : Env} {fp : List Addr} (h : Hot1 X.A e) : HotC (bH X e s H scope ce fp) := ⟨e, h, List.mem_singleton.mpr rfl⟩
/-- what is asked of a part of the block -/
abbrev AllB (X : Cx) (scope : Scope) (f : Cx → Prop) : Prop := ∀ (e : Addr × Obj) (s : Shared) (H : Hp) (C : Addr) (cl : List (Str × Addr)) (fp : List Addr), Hot1 X.A e → f (bH X e s H scope (compEnvC scope cl C X.env) fp)
section
variable {X : Cx}
theorem pe_lcH {elt tg iter : Expr} {ifs : List Expr} {scope : Scope} {own : List (Str × Nat)} {pos : Pos} {wi : TI} {g : TG} {tt : TT} {te : TE} (hot : HotC X) (hN : X.N.Nodup) (hi : PIH X tg iter wi) (bok : BlkOk X.N X.env.scope scope own)
    (hg : AllB X scope fun Y => PG Y tg g) (ht : AllB X scope fun Y => PTs Y ifs tt) (he : AllB X scope fun Y => PE Y elt te) (hfold : ∀ x, foldedSetIterable iter X.env x = pure x := by intro _; rfl) :
    PE X (.ListComp elt [⟨tg, iter, ifs, 0⟩] scope pos) (tLc wi g tt te (own.map (·.2))) := by
  refine ⟨fun pins s σ H Q I h => ?_⟩
  rw [eval_ListComp]
  obtain ⟨ex, hx, hxp⟩ := hot
  have free : ∀ y ∈ scope.names, y.2 = .free → ∃ c, X.env.cells.lookup y.1 = some c := fun y hy z => (bok.free y hy z).elim (fun k => I.ok.has _ (.inl k)) fun k => I.ok.has _ (.inr k)
  refine wpAny_comprehension_free (use := none) rfl hfold (closure_ok free) bok.kind (fun y hy z => by rw [bok.uniq y hy, z]) (thn (hi.run pins s σ H _ I h) fun xv s1 h1 => thn h1 fun iv s2 h2 => ?_)
  obtain ⟨it, fp, tn, Jt, H2, rfl, I2, T, st2, f2, q⟩ := h2
  refine wpAny_newObj_type (newEnv_comp ?_) (by show 0 ≤ sizeLine; decide)
  obtain ⟨W, ⟨m0, w0⟩, turn⟩ := q s2.heap.objs.size (I2.hok.fresh (Nat.le_refl _))
  -- the list that is made
  let s3 : Shared := { s2 with heap := s2.heap.push { cls := .type "list", data := .seq ([] : List Value).toArray } }
  let H3 : Hp := upd H2 s2.heap.objs.size (.lst [])
  have I3 : Inv X pins σ H3 s3 := I2.laid (t' := s2.toks) (fun b o z => Heap.get?_push_of_some _ z) (Nat.le_refl _) ⟨Nat.zero_le _, [], 0, .nil, Heap.get?_push_size _ rfl⟩
  have fsz : ∀ b ∈ fp, b < s2.heap.objs.size := fun b hb => let ⟨_, z, _⟩ := T.obj _ _ st2 b hb; Heap.lt_size z
  have f3 : ∀ b ∈ fp, FpOk X pins H3 b ∧ b < s3.heap.objs.size := fun b hb => by
    refine ⟨⟨?_, (f2 b hb).2⟩, ?_⟩
    · show upd H2 _ _ b = none
      rw [upd_ne (Nat.ne_of_lt (fsz b hb))]
      exact (f2 b hb).1
    · show b < (s2.heap.push _).objs.size
      rw [Heap.size_push]
      exact Nat.lt_succ_of_lt (fsz b hb)
  have st3 : tn 0 s3.heap := T.keep _ _ _ st2 fun b _ o z => Heap.get?_push_of_some _ z
  have I4 := block_start I3 bok hN f3
  have pin3 := I3.pin ex (List.mem_append_left _ hxp)
  have exlt : ex.1 < s3.heap.objs.size := Heap.lt_size pin3.1
  have nstk : ex.1 ∉ frs X.stack := fun hm => (List.mem_cons.mp (I3.stkSub ex.1 hm)).elim pin3.2.2.1 pin3.2.2.2.1
  have I5 := bH_inv (e := ex) I4 ⟨pushCells_keeps _ _ _ _ (Heap.get?_push_of_some _ pin3.1), pin3.2.1, Nat.ne_of_lt exlt, nstk, pin3.2.2.2.2⟩
  have pg := hg ex s3 H3 s3.heap.objs.size (cellsFrom (s3.heap.objs.size + 1) scope.names (cloFrom X.env.cells scope.names [])) fp hx
  have pt := ht ex s3 H3 s3.heap.objs.size (cellsFrom (s3.heap.objs.size + 1) scope.names (cloFrom X.env.cells scope.names [])) fp hx
  have pe := he ex s3 H3 s3.heap.objs.size (cellsFrom (s3.heap.objs.size + 1) scope.names (cloFrom X.env.cells scope.names [])) fp hx
  have hotB := bH_hot (X := X) (e := ex) (s := s3) (H := H3) (scope := scope) (ce := compEnvC scope (cellsFrom (s3.heap.objs.size + 1) scope.names (cloFrom X.env.cells scope.names [])) s3.heap.objs.size X.env) (fp := fp) hx
  have nf3 : ∀ b ∈ fp, H3 b = none := fun b hb => (f3 b hb).1.1
  show codeAny _ _ (.compStart (.ListComp elt [⟨tg, iter, ifs, 0⟩] scope pos) 0 (.ref it) (.ref s2.heap.objs.size) (compEnvC scope (cellsFrom (s3.heap.objs.size + 1) scope.names (cloFrom X.env.cells scope.names [])) s3.heap.objs.size X.env)) (compPost (model X.prog X.w) X.A X.xe none _ (.ref s2.heap.objs.size) s3.heap.objs.size)
    { s3 with heap := pushCells (s3.heap.push { cls := .type "dict", data := .dict #[] }) scope.names }
  have w1 : W 0 m0 H3 := w0
  have st4 : tn 0 (pushCells (s3.heap.push { cls := .type "dict", data := .dict #[] }) scope.names) := T.keep _ _ _ st3 fun b _ o z => pushCells_keeps _ _ _ _ (Heap.get?_push_of_some _ z)
  revert I5 pg pt pe hotB st4 w1
  generalize hB : s2.heap.objs.size = D
  generalize hce : compEnvC scope (cellsFrom (s3.heap.objs.size + 1) scope.names (cloFrom X.env.cells scope.names [])) s3.heap.objs.size X.env = ce
  have cL : ce.locals = s3.heap.objs.size := by subst hce; rfl
  intro I5 pg pt pe hotB w1 st4
  have stat : ∀ {σ' : L2.St} {H' : Hp} {s' : Shared}, Inv (bH X ex s3 H3 scope ce fp) [] σ' H' s' → (∀ b ∈ fp, H' b = none) → ∀ b ∈ fp, FpOk (bH X ex s3 H3 scope ce fp) [] H' b := fun {σ' H' s'} I' hn b hb => by
    refine ⟨hn b hb, (I'.ok.exf b hb).1, I'.ok.exfs b hb, .inl hb, fun x c z => (I'.ok.exf b hb).2 x c z, fun p hp => ?_⟩
    have z : p = ex := by simpa using (show p ∈ [ex] ++ ([] : List (Addr × Obj)) from hp)
    rw [z]
    exact fun zz => (f3 b hb).1.2.2.2.2.2 ex (List.mem_append_left _ hxp) zz
  have loop : codeAny (model X.prog X.w) X.A (.compLoop (.ListComp elt [⟨tg, iter, ifs, 0⟩] scope pos) 0 (.ref it) (.ref D) ce) (compPost (model X.prog X.w) X.A X.xe none (EP X pins σ Q) (.ref D) s3.heap.objs.size) { s3 with heap := pushCells (s3.heap.push { cls := .type "dict", data := .dict #[] }) scope.names } := by
    refine compLoop_any (fun n s' => ∃ i H', Inv (bH X ex s3 H3 scope ce fp) [] (L2.wipe σ (own.map (·.2))) H' s' ∧ tn i s'.heap ∧ (∀ b ∈ fp, H' b = none) ∧ W i n H') ?_ m0 ⟨0, H3, I5, st4, nf3, w1⟩
    rintro n s6 ⟨i, H6, I6, st6, n6, w6⟩
    rcases turn i n H6 w6 with ⟨stop, qq⟩ | ⟨go, Nx, hNx, step⟩
    · refine thnF (T.done (bH X ex s3 H3 scope ce fp) rfl rfl rfl hotB i [] s6 _ H6 (fun _ _ => False) I6 (stat I6 n6) st6 stop) fun r s7 ⟨er, I7⟩ => ?_
      subst er
      have I8 : Inv X pins σ H6 s7 := I3.call' (ch := fp) I7.os I7.base I7.hok I7.bare fun b hb => let z := (f3 b hb).1.2; ⟨z.2.2.1, z.1, z.2.2.2.1, z.2.2.2.2⟩
      have nC : H6 s3.heap.objs.size = none := by rw [← cL]; exact I7.free
      obtain ⟨m, hn, _⟩ := I7.loc
      have hn' : s7.heap.Ns s3.heap.objs.size m := by rw [← cL]; exact hn
      obtain ⟨g0, g1, g2, g3, g4, g5⟩ := I3.fpOk (Nat.le_refl _) nC
      rw [hB] at qq
      exact ⟨m, hn', fun h'' sb => ⟨.ref D, H6, I8.turned (t' := s7.toks) (fun b o hb z => (sb.2 b hb).trans z) g0 g1 g3 g4 g5, rfl, qq⟩⟩
    · refine thnF (T.item (bH X ex s3 H3 scope ce fp) rfl rfl rfl hotB i [] s6 _ H6 (fun _ _ => False) I6 (stat I6 n6) st6 go) fun r s7 ⟨u, er, h7⟩ => ?_
      subst er
      refine thnF h7 fun _ s8 ⟨x, H8, I8, r8, y8, st8, n8⟩ => ?_
      refine thnF (pg.run _ s8 _ H8 x u _ (I8.pinned (stat I8 n8) (T.obj _ _ st8)) r8 (step x H8 y8)) fun _ s9 ⟨σ9, H9, I9, hw9, q9⟩ => ?_
      refine thnF (pt.run _ s9 σ9 H9 _ I9 q9) fun b s10 ⟨H10, I10, q10⟩ => ?_
      have back : ∀ {s' : Shared} {H' : Hp}, Inv (bH X ex s3 H3 scope ce fp) ([] ++ pinsAt fp s8.heap) σ9 H' s' → Nx H' → ∃ m, m < n ∧ ∃ i H', Inv (bH X ex s3 H3 scope ce fp) [] (L2.wipe σ (own.map (·.2))) H' s' ∧ tn i s'.heap ∧ (∀ b ∈ fp, H' b = none) ∧ W i m H' := fun {s' H'} I' nx => by
        obtain ⟨m', hm, w'⟩ := hNx H' nx
        have kept : ∀ b ∈ fp, ∀ o, s8.heap.get? b = some o → s'.heap.get? b = some o ∧ H' b = none := fun b hb o z => by
          have k := I'.pin (b, o) (List.mem_append_right _ (List.mem_append_right _ (mem_pinsAt hb z)))
          exact ⟨k.1, k.2.1⟩
        refine ⟨m', hm, i + 1, H', (I'.unpinned (pins := [])).weak (by rw [← hw9, wipe_length]) (fun j v z => ?_), T.keep _ _ _ st8 fun b hb o z => (kept b hb o z).1, fun b hb => ?_, w'⟩
        · rw [← hw9] at z
          exact (wipe_some z).1
        · obtain ⟨o, z, _⟩ := T.obj _ _ st8 b hb
          exact (kept b hb o z).2
      cases b with
      | false => exact back I10 q10
      | true =>
        refine thnF (pe.run _ s10 σ9 H10 _ I10 q10) fun z s11 ⟨yv, H11, I11, r11, acc, hD, hz, nx⟩ => ?_
        rw [hB] at hD nx
        exact app_ok (X := bH X ex s3 H3 scope ce fp) I11 hD hz r11 fun s12 I12 => back I12 nx
  exact codeAny_compStart_list loop (T.self X.A 0 _ _ _ st4 loop)
end
end Tr
end
section
namespace Tr
open PySem PySem.Spec L2 L2H
/-! ### readings over trees where an exception is handled -/
theorem unitsH {k : Nat} {A : Around} (r : RoomH k A) : A.units + 64 < cLine := by have := r.un; omega
theorem huH {k : Nat} {A : Around} (r : RoomH k A) : A.units + 1 < cLine := by have := r.un; omega
theorem PIH_imp {X : Cx} {tg e : Expr} {t t' : TI} (h : PIH X tg e t) (f : ∀ σ H R, t' σ H R → t σ H R) : PIH X tg e t' := ⟨fun pins s σ H R I q => h.run pins s σ H R I (f _ _ _ q)⟩
section
variable {X : Cx} {s s1 s2 : Sg} {tg a : Expr} {pos : Pos}
theorem di_range1H {p : Pos} {ws : TDA} (hg : Gl X "range") (hm : X.mg "range" = none) (ha : DA X [s1] [a] ws) (hs : starEach [a] X.env = [(false, eval a X.env)] := by rfl) : PIH X tg (.Call (.Name "range" p) [a] [] pos) (rdI X.K s (wRg1 ws)) := by
  refine PIH_imp (pi_range1H hg hm ha hs) ?_
  rintro σ H R ⟨g, M, ρ, R', j, hw, k⟩
  refine ⟨g, M, ρ, _, j, hw, fun vs H1 ds f1 j1 r1 hd => ?_⟩
  obtain ⟨n, e1, h1, h2, hR⟩ := hd
  subst e1
  obtain ⟨v, rfl, r⟩ := repA1 r1
  rw [rep_int.mp r]
  exact ⟨n, rfl, h1, h2, k _ H1 _ [] [] f1 (j1.hideI (fun q hq => nomatch hq) (fun q hq => nomatch hq)) range_walk hR⟩
theorem de_lcH {elt iter : Expr} {ifs : List Expr} {scope : Scope} (own : List (Str × Nat)) {wi : TDA} {gt : TG} {stt : Ev → D → Option Ev} {wt : TDT} {we : TDE} (hot : HotC X) (hN : X.N.Nodup) (hi : PIH X tg iter (rdI X.K s1 wi)) (ok : BlkOk X.N X.env.scope scope own)
    (hg : AllB X scope fun Y => PG Y tg gt) (htg : TgOk X.K s1 gt stt) (htw : TgWipe gt (own.map (·.2))) (ht : AllB X scope fun Y => PTs Y ifs (rdT X.K wt)) (he : AllB X scope fun Y => PE Y elt (rdE X.K s we)) (hs : s ≠ .t := by decide)
    (hfold : ∀ x, foldedSetIterable iter X.env x = pure x := by intro _; rfl) : DE X s (.ListComp elt [⟨tg, iter, ifs, 0⟩] scope pos) (wLc wi stt wt we (own.map (·.2))) :=
  PE_imp (pe_lcH hot hN hi ok hg ht he hfold) (lc_imp hs htg htw)
end
/-! ### defs that are called there -/
structure CalH (P : Program) (w : World) (K : PySem.W.Frag) (mg : Str → Option Value) (base : Heap) (k : Nat) (x : Str) (ps : List Str) (ss : List Sg) (sp : SpD) : Prop where
  ex : ∃ f fd, FnH P w K mg base CX0 k f fd ps (toSp K ss sp) ∧ mg x = some (.ref f) ∧ PySem.W.keepIn K (.ref f) = true ∧ Binds K fd ps []
structure CalMH (P : Program) (w : World) (K : PySem.W.Frag) (mg : Str → Option Value) (base : Heap) (k : Nat) (C : Addr) (m : Str) (ps : List Str) (ss : List Sg) (sp : SpD) : Prop where
  ex : ∃ f fd, FnH P w K mg base CX0 k f fd ps (toSp K ss sp) ∧ Meth K C m f ∧ PySem.W.fnIn K f = true ∧ Binds K fd ps []
section
variable {P : Program} {w : World} {K : PySem.W.Frag} {mg : Str → Option Value} {base : Heap} {x qual : Str} {params : Arguments} {body : List Stmt} {scope : Scope} {dvs : List V} {kws : List (Str × V)} {f : Addr} {fd : FuncData}
theorem fnDH {N ps : List Str} {k : Nat} {ss : List Sg} {sp : SpD} {t : TDS} (F : FunD K x qual params body scope dvs kws f fd) (S : FnScope N ps scope) (hss : ss.length = ps.length) (hN : ps.length ≤ N.length)
    (hbody : ∀ (cdv : Value) (A : Around) (outer : List Env) (s : Shared) (H : Hp) (E : XK) (p : Addr × Obj), RoomH k (A.deeper (PyProof.Rows.envOfC qual scope s.heap.objs.size f cdv)) → HotC (cxH CX0 P w K mg base N qual scope f cdv A outer s H E p).nox → PSs (cxH CX0 P w K mg base N qual scope f cdv A outer s H E p).nox body (rdS K t))
    (hread : ∀ ds R, ds.length = ss.length → sp ds R → t { nx := fun _ => R .non, rt := R } (ini ss ds N.length)) : FnH P w K mg base CX0 (k + 1) f fd ps (toSp K ss sp) := by
  obtain ⟨oc, od, dV, kV, doc, pm, an, cdv, ct, osl, rfl, lk, hcd, _, _⟩ := F.ex
  refine fn_ofH lk hcd S (fun vs H Q E h => ?_) fun A outer s H vs Q E p hot hr h => ?_
  · obtain ⟨z, B, ds, R, _, _, r, _⟩ := h
    rw [r.len.1, hss]
  · obtain ⟨z, B, ds, R, hz, hB, r, hs, k⟩ := h
    refine ⟨rdS K t, (hbody cdv A outer s H E p hr ⟨p, ⟨hot.1, hot.2⟩, List.mem_singleton.mpr rfl⟩).nox, ⟨z, B, H, [], []⟩, fun _ => False, _, _, J.ini hz hB r (by rw [hss]; exact hN), hread ds R r.len.2 hs, ⟨fun M σ H' ρ j h => ?_, fun v H' d f' k' r' h => ?_, fun _ _ _ _ _ h => h.elim, fun _ _ _ _ _ h => h.elim⟩⟩
    · exact k .non H' .non j.fr j.ok (rep_non.mpr rfl) h
    · exact k v H' d f' k' r' h
theorem calh_mk {st : Stmt} {x : Str} {f : Addr} {fd : FuncData} {N ps : List Str} {k : Nat} {ss : List Sg} {sp : SpD} (t : TDS) (F : FunD K x x (defArgs st) (defBody st) (defScope st) [] [] f fd) (hm : mg x = some (.ref f)) (S : FnScope N ps (defScope st))
    (hb : ∀ (kV doc pm : Value) (an : Option Addr) (cdv ct : Value) (us : List Value), us.length = ps.length → bindArgs (PySem.W.fnOf x x (defArgs st) (defBody st) (defScope st) .none kV doc pm an cdv ct) ⟨us, []⟩ = pure (ps.zip us))
    (hbody : ∀ (cdv : Value) (A : Around) (outer : List Env) (s : Shared) (H : Hp) (E : XK) (p : Addr × Obj), RoomH k (A.deeper (PyProof.Rows.envOfC x (defScope st) s.heap.objs.size f cdv)) → HotC (cxH CX0 P w K mg base N x (defScope st) f cdv A outer s H E p).nox → PSs (cxH CX0 P w K mg base N x (defScope st) f cdv A outer s H E p).nox (defBody st) (rdS K t))
    (hread : ∀ ds R, ds.length = ss.length → sp ds R → t { nx := fun _ => R .non, rt := R } (ini ss ds N.length)) (hss : ss.length = ps.length := by rfl) (hN : ps.length ≤ N.length := by decide) : CalH P w K mg base (k + 1) x ps ss sp :=
  ⟨f, fd, fnDH F S hss hN hbody hread, hm, F.kp, F.bindsN hb⟩
theorem calmh_mk {st : Stmt} {x qual : Str} {C f : Addr} {fd : FuncData} {N ps : List Str} {k : Nat} {ss : List Sg} {sp : SpD} (t : TDS) (F : FunD K x qual (defArgs st) (defBody st) (defScope st) [] [] f fd) (hm : Meth K C x f) (S : FnScope N ps (defScope st))
    (hb : ∀ (kV doc pm : Value) (an : Option Addr) (cdv ct : Value) (us : List Value), us.length = ps.length → bindArgs (PySem.W.fnOf x qual (defArgs st) (defBody st) (defScope st) .none kV doc pm an cdv ct) ⟨us, []⟩ = pure (ps.zip us))
    (hbody : ∀ (cdv : Value) (A : Around) (outer : List Env) (s : Shared) (H : Hp) (E : XK) (p : Addr × Obj), RoomH k (A.deeper (PyProof.Rows.envOfC qual (defScope st) s.heap.objs.size f cdv)) → HotC (cxH CX0 P w K mg base N qual (defScope st) f cdv A outer s H E p).nox → PSs (cxH CX0 P w K mg base N qual (defScope st) f cdv A outer s H E p).nox (defBody st) (rdS K t))
    (hread : ∀ ds R, ds.length = ss.length → sp ds R → t { nx := fun _ => R .non, rt := R } (ini ss ds N.length)) (hss : ss.length = ps.length := by rfl) (hN : ps.length ≤ N.length := by decide) : CalMH P w K mg base (k + 1) C x ps ss sp :=
  ⟨f, fd, fnDH F S hss hN hbody hread, hm, fnIn_of F, F.bindsN hb⟩
end
section
variable {X : Cx} {s s0 s1 : Sg} {e a b : Expr} {es : List Expr} {pos p : Pos} {ws : TDA} {wa wb : TDE} {ss : List Sg} {sp : SpD} {k : Nat} {x : Str} {C : Addr} {ps : List Str}
theorem de_fnH (c : CalH X.prog X.w X.K X.mg X.base k x ps ss sp) (hr : RoomH k X.A) (hc : HotC X) (hg : Gl X x) (ha : DA X (ss.map (cs s)) (e :: es) ws) (hdb : (x == ("__debug__" : Str)) = false := by decide) (he : starEach (e :: es) X.env = (false, eval e X.env) :: starEach es X.env := by rfl) (hpl : (backTo pos (starEach es X.env)).any (·.1) = false := by rfl) :
    DE X s (.Call (.Name x p) (e :: es) [] pos) (wCall sp ws) := by
  obtain ⟨f, fd, F, h1, h2, h3⟩ := c.ex
  refine PE_imp (pe_callH (E := fun _ => E0) F hr hc hg h1 h2 h3 (fun _ _ _ _ _ _ _ h => h.elim) ha hdb he hpl) ?_
  rintro σ H Q ⟨g, M, ρ, R, j, hw, k⟩
  refine ⟨g, M, ρ, _, j, hw, fun vs H1 ds f1 j1 r1 hR => ?_⟩
  exact call_ok j1 r1 hR fun v H' d f => k v H' d (f1.trans f)
/-- the callee runs -/
theorem run_atH {fd : FuncData} {f : Addr} {sp : Sp} {pins : List (Addr × Obj)} {σ : L2.St} {H : Hp} {s : Shared} {Q : VK} {us : List Value} {vs : List V} (F : FnH X.prog X.w X.K X.mg X.base CX0 k f fd ps sp) (hr : RoomH k X.A) (hc : HotC X) (hb : Binds X.K fd ps [])
    (I : Inv X pins σ H s) (r : Vals vs us) (h : sp vs H Q E0) : wpAny (model X.prog X.w) X.A (call (.ref f) us) (EP X pins σ Q) X.xe s := run_fnH (E := fun _ => E0) F hr hc hb (fun _ _ _ _ _ _ h => h.elim) I r h
theorem op_inMH {fd : FuncData} {f : Addr} {sp : Sp} (F : FnH X.prog X.w X.K X.mg X.base CX0 k f fd ps sp) (hm : Meth X.K C "__contains__" f) (hr : RoomH k X.A) (hc : HotC X) (hbd : Binds X.K fd ps []) : OpR X (compareOp .In) (fun x y H Q => ∃ a dx fs, y = .ref a ∧ H a = some (.ins C dx fs) ∧ sp [y, x] H (fun v H' => ∃ b, v = .bl b ∧ Q (.bl b) H') E0) := by
  intro pins s σ H x y v u Q I rx ry ⟨o, dx, fs, ey, ho, q⟩
  subst ey
  obtain rfl : u = Value.ref o := ry
  obtain ⟨mA, O, _⟩ := ins_get I.hok ho
  obtain ⟨od, J', _⟩ := O.look
  obtain ⟨m, hF⟩ := I.fr
  refine PySem.W.in_K hF I.ok.mod.kin J' hm.at_ hm.fn (wpAny_mono (run_atH (vs := [.ref o, x]) F hr hc hbd I (.cons rfl (.cons rx .nil)) q) (fun r s' z => ?_) fun _ _ x => x)
  obtain ⟨w, H', I', rw', b, eb, q'⟩ := z
  subst eb
  cases rw'
  exact wpAny_truthy_bool ⟨.bl b, H', I', rfl, q'⟩
theorem de_inMH (c : CalMH X.prog X.w X.K X.mg X.base k C "__contains__" ps [s0, s1] sp) (hr : RoomH k X.A) (hc : HotC X) (ha : DE X (cs s s1) a wa) (hb : DE X (cs s s0) b wb) (hm : behindInMarks .In b = false := by first | exact nomark _ | rfl) : DE X s (.Compare a [.In] [b] pos) (w2 (semInM sp C false) wa wb) := by
  obtain ⟨f, fd, F, h1, h2, h3⟩ := c.ex
  exact de_cmp (op_inMH F h1 hr hc h3) (sem_inM X.K) ha hb hm
end
end Tr
end
section
namespace Tr
open PySem PySem.Spec L2 PyProof.Rows
/-! ### an own exception whose __init__ says self.what = what, raised where nothing is handled -/
theorem pmk_oexN {X : Cx} {e : Expr} {es : List Expr} {ta : TA} {p pos : Pos} {x : Str} {C fI : Addr} {k : Nat} {fd : FuncData} {ps : List Str} {sp : Sp} (T : OexC X.K C) (iC : PySem.W.findIn X.K (.ref C) "__init__" = some (some (.ref fI))) (tI : PySem.W.typeIn X.K (.ref fI) = some (.type "function"))
    (F1 : FnOk X.prog X.w X.K X.mg X.base CX0 k fI fd ps sp) (hr : Room (k + 1) X.A) (hb : Binds X.K fd ps []) (hg : Gl X x) (hm : X.mg x = some (.ref C)) (ha : PA X (e :: es) ta) (hdb : (x == ("__debug__" : Str)) = false := by decide)
    (he : starEach (e :: es) X.env = (false, eval e X.env) :: starEach es X.env := by rfl) (hpl : (backTo pos (starEach es X.env)).any (·.1) = false := by rfl) : L2N.PMk X (.Call (.Name x p) (e :: es) [] pos) (tMkO C sp [] ta) := by
  intro pins s σ H Q I h
  obtain ⟨nm, qn, N, bs, bm, sn, sub, ab, col, dd, k0, k1, k2, k3, k5, hC, hbm⟩ := T.cls
  refine wpAny_Call_Name_kw (ld_glob I hg hm ?_ hdb)
  refine PySem.W.callWith_K (h₀ := X.base) I.ok.mod.kin T.kC (thn (ha.run pos pins s σ H _ I h) fun us s1 hs1 => ?_) he hpl
  obtain ⟨vs, H1, I1, r1, hz, q1⟩ := hs1
  refine ⟨I1.kIn, (show wpAny _ _ (call (.ref C) us) _ _ _ from ?_)⟩
  obtain ⟨hp, gg, dr, tk, os⟩ := s1
  -- the exception's place
  let at_ : Addr := hp.objs.size + 1
  let hp' : Heap := (hp.push (PySem.W.kdv_tup us)).push (PySem.HandSPX.excO C hp.objs.size)
  have old : ∀ b o, hp.get? b = some o → hp'.get? b = some o := fun b o z => Heap.get?_push_of_some _ (Heap.get?_push_of_some _ z)
  have here : hp'.get? at_ = some (PySem.HandSPX.excO C hp.objs.size) := by
    show ((hp.push (PySem.W.kdv_tup us)).push (PySem.HandSPX.excO C hp.objs.size)).get? (hp.objs.size + 1) = _
    heap_get
  have I2 : Inv X pins σ (upd H1 at_ (exo at_ C none)) ⟨hp', gg, dr, tk, os⟩ := I1.laid (t' := tk) (a := at_) (o := exo at_ C none) (h' := hp') old (Nat.le_succ _) (exo_ok here)
  have hq := q1 at_ (I1.hok.fresh (Nat.le_succ _))
  rw [List.append_nil] at hq
  have r2 : Vals (V.ref at_ :: vs) (Value.ref at_ :: us) := .cons rfl r1
  have hl : (Value.ref at_ :: us ++ []).length = ps.length := by
    rw [List.append_nil, ← r2.length, F1.len _ _ _ _ hq]
  have b2 := hb _ (Value.ref at_ :: us) I2.kIn hl
  rw [List.append_nil] at b2
  have hus : us.length ≤ sizeLine := by rw [← r1.length]; exact Nat.le_trans hz (by decide)
  refine wpAny_call (PySem.HandSPX.call_own F.excBase_ValueError (fun Y => PySem.HandSPX.refsVE_contains Y bm hbm) (I1.kIn _ _ hC) (PySem.W.looks_findIn I1.kIn iC) (fun self => PySem.W.bind_fn I1.kIn self tI) hus (codeAny_mono (F1.run _ X.stack _ _ ⟨Value.ref at_ :: us, []⟩ (Value.ref at_ :: us) _ _ (fun _ _ _ => False) (hr.make C us []) (I2.env0.make C us []) b2 r2 hq) fun r s' hq' => ?_))
  rcases r with er | fl
  · exact False.elim hq'
  · cases fl with
    | ret u =>
      obtain ⟨v, H2, os2, bare2, un2, hok2, rv, ev, d, fs, ea, ed, hd1, q2⟩ := hq'
      subst ev
      obtain ⟨h2, g2, d2, t2, os'⟩ := s'
      obtain ⟨t0, G, J', kG, ge, hoe, na⟩ := mk_end0 (d2 := d2) (t2 := t2) I1 (Nat.le_succ _) old un2 hok2 os2 bare2 ea ed hd1
      exact ⟨rv, at_, _, _, ⟨G, g2, d2, t2, os'⟩, _, .ref C, some d, rfl, J', kG, ge, hoe, ⟨rfl, rfl, fun vs' z => by cases z; rfl⟩, rfl, rfl, na, rfl, bare2, raises_own T.exC T.tyC, q2⟩
    | next => exact False.elim hq'
    | brk => exact False.elim hq'
    | cont => exact False.elim hq'
/-- what __init__ promises -/
def spWhat (C : Addr) : Sp := fun vs H Q _ => ∃ a v, vs = [.ref a, v] ∧ H a = some (exo a C none) ∧ ∀ dx, H dx = none → dx ≠ a → Q .non (upd (upd H dx (exd dx [("what", v)])) a (exo a C (some dx)))
/-- what the text says of the class x at C -/
structure ExcT (K : PySem.W.Frag) (mg : Str → Option Value) (x : Str) (C fI : Addr) : Prop where
  mg_ : mg x = some (.ref C)
  ox : OexC K C
  xf : XfC K C
  noW : PySem.W.findIn K (.ref C) "what" = some none
  iC : PySem.W.findIn K (.ref C) "__init__" = some (some (.ref fI))
  tI : PySem.W.typeIn K (.ref fI) = some (.type "function")
theorem upd_del {H : Hp} {a dx : Addr} {o o' u : HO} {xd : HO} (ha : H a = none) (hd : dx ≠ a) : upd (del (upd (upd (upd H a o) dx u) a o') a) dx xd = upd H dx xd := by
  funext b
  by_cases h1 : b = dx
  · subst h1; rw [upd_same, upd_same]
  · rw [upd_ne h1, upd_ne h1]
    by_cases h2 : b = a
    · subst h2; rw [del_same, ha]
    · rw [del_ne h2, upd_ne h2, upd_ne h1, upd_ne h2]
/-- the making's question, answered -/
theorem mk_what {C : Addr} {v : V} {H : Hp} {Q : XK} (h : ∀ d, H d = none → Q (.ref C) (some d) (upd H d (.xd [("what", v)]))) : [v].length ≤ 1000 ∧ ∀ a, H a = none → spWhat C (.ref a :: ([v] ++ [])) (upd H a (exo a C none))
    (fun v H2 => v = .non ∧ ∃ (d : Addr) (fs : List (Str × V)), H2 a = some (exo a C (some d)) ∧ H2 d = some (exd d fs) ∧ H d = none ∧ Q (.ref C) (some d) (upd (del H2 a) d (.xd fs))) (fun _ _ _ => False) := by
  refine ⟨by simp, fun a ha => ⟨a, v, rfl, upd_same, fun dx hd ne => ⟨rfl, dx, [("what", v)], upd_same, ?_, ?_, ?_⟩⟩⟩
  · rw [upd_ne ne, upd_same]
  · rw [upd_ne ne] at hd; exact hd
  · rw [upd_del ha ne]
    rw [upd_ne ne] at hd
    exact h dx hd
section
variable {X : Cx} {e : Expr} {te : TE} {p pos pos' : Pos} {x : Str} {C fI : Addr} {k : Nat} {fd : FuncData} {W : WX}
theorem ps_raiseW (hc : X.calm = true) (tk : L2N.Takes X W) (T : ExcT X.K X.mg x C fI) (F1 : FnOk X.prog X.w X.K X.mg X.base CX0 k fI fd ["self", "what"] (spWhat C)) (hr : Room (k + 1) X.A) (hb : Binds X.K fd ["self", "what"] []) (hg : Gl X x) (ha : PE X e te) (hdb : (x == ("__debug__" : Str)) = false := by decide)
    (he : starEach [e] X.env = (false, eval e X.env) :: starEach [] X.env := by rfl) : PS X (.Raise (some (.Call (.Name x p) [e] [] pos)) none pos') (fun _ σ H => tMkO C (spWhat C) [] (tCons te tNil) σ H fun cls d H' => W cls d σ H') :=
  L2N.ps_raise hc tk (pmk_oexN T.ox T.iC T.tI F1 hr hb hg T.mg_ (pa_cons ha pa_nil he) hdb he)
end
end Tr
end
section
namespace Tr
open PySem PySem.Spec L2
local macro_rules | `(tactic| walk_at "rd0") => `(tactic| simp only [wSeq, wIfS, wOr, wNot, wAnd, wT, wCall, wCons, wNil, wC, wV, wRet, wNext, wSet, bdS, wSetL, wSetD, wIf, wTup, wLst, wIsN, wNotN, w2, wChain, wAndV, wOrV, wNotV, wExp, wIt, wFor, wLc, wRg1, wItS, wD0, wD1, wSl, wO0, wO1, wJoin, wipeB, wSetLi, List.getElem?_cons_zero, List.getElem?_cons_succ, List.set_cons_zero, List.set_cons_succ, x_some, x_bl, x_int, x_str, l_P, l_I0, l_I, l_EqS, l_EqI, l_EqB, l_NeS, l_NeI, Bool.not_true, Bool.not_false, if_true, if_false, Bool.false_eq_true, eq_self_iff_true])
mutual
def noD : D → Bool
  | .dct _ => false
  | .lst ds => noDL ds
  | .tup ds => noDL ds
  | _ => true
def noDL : List D → Bool
  | [] => true
  | d :: ds => noD d && noDL ds
end
theorem noDL_get : ∀ {ds : List D} {i : Nat} {d : D}, noDL ds = true → ds[i]? = some d → noD d = true
  | [], i, d, _, e => by simp at e
  | x :: ds, 0, d, h, e => by
    simp only [noDL, Bool.and_eq_true] at h
    simp at e; subst e; exact h.1
  | x :: ds, i + 1, d, h, e => by
    simp only [noDL, Bool.and_eq_true] at h
    exact noDL_get (i := i) h.2 (by simpa using e)
def sp_L_likeH (n : Nat) : SpD := fun ds R => ∃ a b, ds = [a, b] ∧ likeD n a b ∧ noD b = true ∧ R (.bl true)
def t_L_likeH (n : Nat) (K : PySem.W.Frag): TDS := wSeq (wIfS (wT (wCall semIsi (wCons (wV .t 1) (wCons (wC (.ty "dict")) wNil)))) wNever wNext)
    (wSeq (wIfS (wT (wCall (semIsiT K) (wCons (wV .t 1) (wCons (wTup (wCons (wC (.ty "list")) (wCons (wC (.ty "tuple")) wNil))) wNil)))) (wSeq (wIfS (wOr (wNot (wT (wCall (semIsiT K) (wCons (wV .t 0) (wCons (wTup (wCons (wC (.ty "list")) (wCons (wC (.ty "tuple")) wNil))) wNil))))) (wT (w2 semNe (wCall semIsi (wCons (wV .t 0) (wCons (wC (.ty "list")) wNil))) (wCall semIsi (wCons (wV .t 1) (wCons (wC (.ty "list")) wNil)))))) (wRet (wC (.bl false))) wNext)
    (wSeq (wIfS (wT (w2 semNe (wCall semLen (wCons (wV .t 0) wNil)) (wCall semLen (wCons (wV .t 1) wNil)))) (wRet (wC (.bl false))) wNext)
    (wRet (w2 semEqD (wLc (wRg1 (wCons (wCall semLen (wCons (wV .t 1) wNil)) wNil)) (st1 .s 2) (wNot (wT (wCall (sp_L_likeH n) (wCons (w2 semIx (wV .t 0) (wV .t 2)) (wCons (w2 semIx (wV .t 1) (wV .t 2)) wNil))))) (wV .s 2) [2]) (wLst wNil))))) wNext)
    (wSeq (wIfS (wT (w2 semNe (wCall semIsi (wCons (wV .t 0) (wCons (wC (.ty "bool")) wNil))) (wCall semIsi (wCons (wV .t 1) (wCons (wC (.ty "bool")) wNil))))) (wRet (wC (.bl false))) wNext)
    (wRet (wAndV (w2 semEq (wCall semIsi (wCons (wV .t 0) (wCons (wC (.ty "int")) wNil))) (wCall semIsi (wCons (wV .t 1) (wCons (wC (.ty "int")) wNil)))) (w2 semEq (wV .t 0) (wV .t 1))))))
theorem like_elH {n : Nat} {a b : List D} {x y : D} (ex : itemsOf x = some a) (ey : itemsOf y = some b) (h1 : a.length = b.length) (h3 : ∀ (i : Nat) d d', a[i]? = some d → b[i]? = some d' → likeD n d d') (hno : noDL b = true) {d : D} (hd : d ∈ rangeD 0 (b.length : Int).toNat) {R' : Bool → Prop} (hR' : R' false) :
    semIx x d fun u => semIx y d fun v => sp_L_likeH n [u, v] fun c => ∃ b, c = .bl b ∧ R' (!b) := by
  unfold rangeD at hd
  obtain ⟨i, hi, rfl⟩ := List.mem_map.mp hd
  have hi : i < b.length := by simpa using hi
  have ea : a[i]? = some a[i] := by simp [h1, hi]
  have eb : b[i]? = some b[i] := by simp [hi]
  rw [show (0 : Int) + (i : Nat) = (i : Nat) by omega]
  refine l_Ix ex (atN ea) ?_
  refine l_Ix ey (atN eb) ?_
  exact ⟨_, _, rfl, h3 i _ _ ea eb, noDL_get hno eb, _, rfl, hR'⟩
theorem rd_L_likeH (n : Nat) (K : PySem.W.Frag) (ds : List D) (R : DK) (hl : ds.length = 2) (h : sp_L_likeH (n + 1) ds R) : t_L_likeH n K { nx := fun _ => R .non, rt := R } (ini [.w, .w] ds 3) := by
  obtain ⟨a, b, rfl, hab, hno, hR⟩ := h
  show t_L_likeH n K _ [Bd.wv a, .wv b, .non]
  unfold t_L_likeH
  cases b with
  | dct b => cases hno
  | lst b =>
    cases a with
    | lst a =>
      obtain ⟨h1, h2, h3⟩ := hab
      have p1 : plainD (.lst a) = true := rfl
      have p2 : plainD (.lst b) = true := rfl
      walk_at "rd0"
      simp only [pisi_dict p2, pisi_seq p1, pisi_seq p2, pisi_list p1, pisi_list p2, isDctD, isSeqD, isLstD, len_iff (n := a.length) (d := .lst a) rfl, len_iff (n := b.length) (d := .lst b) rfl]
      walk_at "rd0"
      simp only [l_NeB, x_bl, decide_true, Bool.not_true, if_false, Bool.false_eq_true, h1]
      refine ⟨b.length, rfl, by omega, by omega, lc_none (fun d hd => ⟨_, rfl, fun R' hR' => like_elH rfl rfl h1 h3 (show noDL b = true from hno) hd hR'⟩) (rg_len h2) (eq_nn hR)⟩
    | _ => simp [likeD] at hab
  | tup b =>
    cases a with
    | tup a =>
      obtain ⟨h1, h2, h3⟩ := hab
      have p1 : plainD (.tup a) = true := rfl
      have p2 : plainD (.tup b) = true := rfl
      walk_at "rd0"
      simp only [pisi_dict p2, pisi_seq p1, pisi_seq p2, pisi_list p1, pisi_list p2, isDctD, isSeqD, isLstD, len_iff (n := a.length) (d := .tup a) rfl, len_iff (n := b.length) (d := .tup b) rfl]
      walk_at "rd0"
      simp only [l_NeB, x_bl, decide_true, Bool.not_true, if_false, Bool.false_eq_true, h1]
      refine ⟨b.length, rfl, by omega, by omega, lc_none (fun d hd => ⟨_, rfl, fun R' hR' => like_elH rfl rfl h1 h3 (show noDL b = true from hno) hd hR'⟩) (rg_len h2) (eq_nn hR)⟩
    | _ => simp [likeD] at hab
  | non =>
    obtain ⟨e, hs⟩ : a = .non ∧ scal a = true := by
      cases a <;> simp [likeD, scal] at hab ⊢ <;> exact hab
    subst e
    have p1 : plainD (.non) = true := rfl
    walk_at "rd0"
    simp only [pisi_dict p1, pisi_seq p1, pisi_bool p1, pisi_int p1, isDctD, isSeqD, isBlD, isIntD]
    walk_at "rd0"
    simp only [l_NeB, x_bl, decide_true, Bool.not_true, if_false, Bool.false_eq_true, l_EqB, l_EqS, l_EqI]
    exact ⟨true, rfl, hR⟩
  | bl x =>
    obtain ⟨e, hs⟩ : a = .bl x ∧ scal a = true := by
      cases a <;> simp [likeD, scal] at hab ⊢ <;> exact hab
    subst e
    have p1 : plainD (.bl x) = true := rfl
    walk_at "rd0"
    simp only [pisi_dict p1, pisi_seq p1, pisi_bool p1, pisi_int p1, isDctD, isSeqD, isBlD, isIntD]
    walk_at "rd0"
    simp only [l_NeB, x_bl, decide_true, Bool.not_true, if_false, Bool.false_eq_true, l_EqB, l_EqS, l_EqI]
    exact hR
  | int x =>
    obtain ⟨e, hs⟩ : a = .int x ∧ scal a = true := by
      cases a <;> simp [likeD, scal] at hab ⊢ <;> exact hab
    subst e
    have p1 : plainD (.int x) = true := rfl
    walk_at "rd0"
    simp only [pisi_dict p1, pisi_seq p1, pisi_bool p1, pisi_int p1, isDctD, isSeqD, isBlD, isIntD]
    walk_at "rd0"
    simp only [l_NeB, x_bl, decide_true, Bool.not_true, if_false, Bool.false_eq_true, l_EqB, l_EqS, l_EqI]
    exact hR
  | str x =>
    obtain ⟨e, hs⟩ : a = .str x ∧ scal a = true := by
      cases a <;> simp [likeD, scal] at hab ⊢ <;> exact hab
    subst e
    have p1 : plainD (.str x) = true := rfl
    walk_at "rd0"
    simp only [pisi_dict p1, pisi_seq p1, pisi_bool p1, pisi_int p1, isDctD, isSeqD, isBlD, isIntD]
    walk_at "rd0"
    simp only [l_NeB, x_bl, decide_true, Bool.not_true, if_false, Bool.false_eq_true, l_EqB, l_EqS, l_EqI]
    exact hR
  | ins C fs => cases a <;> simp [likeD, scal] at hab
  | st => cases a <;> simp [likeD, scal] at hab
  | ty t => cases a <;> simp [likeD, scal] at hab
  | adr t => cases a <;> simp [likeD, scal] at hab

/-! a Kind of a drawn kind -/
def t_L_kind (CKind : Addr): TDS := wRet (wMkK sp_Kind_init CKind (wCons (w2 semIx (wV .t 0) (wC (.int 0))) (wCons (wCall semDct (wCons (w2 semIx (wV .t 0) (wC (.int 1))) wNil)) (wCons (wCall semDct (wCons (w2 semIx (wV .t 0) (wC (.int 2))) wNil)) (wCons (wCall semLst (wCons (w2 semIx (wV .t 0) (wC (.int 3))) wNil)) wNil)))) (wCons (w2 semIx (wV .t 0) (wC (.int 4))) wNil))
def sp_L_kind (C : Addr) : SpD := fun ds R => ∃ (q : Kd) (k : Kf), ds = [q.d] ∧ isNm q.nm = true ∧ (sm (.dct (encL q.leads)) = true ∧ nodupD (.dct (encL q.leads)) = true) ∧ (sm (.dct (enc q.own)) = true ∧ nodupD (.dct (enc q.own)) = true) ∧ sm (.lst q.rules) = true ∧
  readLinks (.dct (encL q.leads)) = .dct (enc k.l) ∧ readOwn (.dct (enc q.own)) (enc k.l) = .dct (enc k.o) ∧ readRules (.lst q.rules) (enc k.l) = .lst k.rs ∧ k.nm = q.nm ∧ k.h = q.hid ∧ R (k.d C)
theorem rd_L_kind (CKind : Addr) (ds : List D) (R : DK) (hl : ds.length = 1) (h : sp_L_kind CKind ds R) : t_L_kind CKind { nx := fun _ => R .non, rt := R } (ini [.w] ds 1) := by
  obtain ⟨q, k, rfl, h1, h2, h3, h4, h5, h6, h7, h8, h9, hR⟩ := h
  show t_L_kind CKind _ [Bd.wv q.d]
  refine l_Ix (i := 0) rfl (atN (n := 0) rfl) ?_
  refine l_Ix (i := 1) rfl (atN (n := 1) rfl) ⟨_, rfl, ?_⟩
  refine l_Ix (i := 2) rfl (atN (n := 2) rfl) ⟨_, rfl, ?_⟩
  refine l_Ix (i := 3) rfl (atN (n := 3) rfl) ⟨_, _, rfl, rfl, ?_⟩
  refine l_Ix (i := 4) rfl (atN (n := 4) rfl) ?_
  exact ⟨q.nm, _, _, _, q.hid, k, rfl, h1, h2, h3, h4, h5, h6, h7, h8, h9, hR⟩
/-! what it tells -/
def t_L_tells (CKind : Addr) (n : Nat) : List TDS := [(wSetL 2 (wCons (wProp (sp_Kind_name CKind) CKind (wV .t 0)) (wCons (wProp (sp_Kind_hidden CKind) CKind (wV .t 0)) (wCons (wMeth0 (sp_Kind_links CKind) CKind "links" (wV .t 0)) (wCons (wMeth0 (sp_Kind_own CKind) CKind "own" (wV .t 0)) (wCons (wMeth0 (sp_Kind_rules CKind) CKind "rules" (wV .t 0)) wNil)))))),
  (wSet .s 3 (wCall (sp_L_like n) (wCons (wV .t 2) (wCons (wLst (wCons (w2 semIx (wV .t 1) (wC (.int 0))) (wCons (w2 semIx (wV .t 1) (wC (.int 4))) (wCons (w2 semIx (wV .t 1) (wC (.int 1))) (wCons (w2 semIx (wV .t 1) (wC (.int 2))) (wCons (w2 semIx (wV .t 1) (wC (.int 3))) wNil)))))) wNil))))]
def toldP (k : Kf) : List D := [.str k.nm, .bl k.h, .dct (enc k.l), .dct (enc k.o), .lst k.rs]
def dueP (q : Kd) : List D := [.str q.nm, .bl q.hid, .dct (encL q.leads), .dct (enc q.own), .lst q.rules]
def sp_L_tells (C : Addr) (n : Nat) : SpD := fun ds R => ∃ (k : Kf) (q : Kd), ds = [k.d C, q.d] ∧ KfOk k ∧ likeD n (.lst (toldP k)) (.lst (dueP q)) ∧ R (.bl true)
theorem rd_L_tells {C : Addr} {n : Nat} {E : EndsD} {k : Kf} {q : Kd} (ok : KfOk k) (hk : likeD n (.lst (toldP k)) (.lst (dueP q))) (hE : E.nx [.wv (k.d C), .wv q.d, .ol (toldP k), .val (.bl true), .non]) : wSeqs (t_L_tells C n) E [.wv (k.d C), .wv q.d, .non, .non, .non] := by
  unfold t_L_tells wSeqs
  refine ⟨⟨k.fs, rfl⟩, k, rfl, ?_⟩
  refine ⟨⟨k.fs, rfl⟩, k, rfl, ?_⟩
  refine ⟨⟨k.fs, rfl, rfl⟩, k, rfl, ok, ?_⟩
  refine ⟨⟨k.fs, rfl, rfl⟩, k, rfl, ok, ?_⟩
  refine ⟨⟨k.fs, rfl, rfl⟩, k, rfl, ok, ?_⟩
  refine l_Ix (i := 0) rfl (atN (n := 0) rfl) ?_
  refine l_Ix (i := 4) rfl (atN (n := 4) rfl) ?_
  refine l_Ix (i := 1) rfl (atN (n := 1) rfl) ?_
  refine l_Ix (i := 2) rfl (atN (n := 2) rfl) ?_
  refine l_Ix (i := 3) rfl (atN (n := 3) rfl) ?_
  exact ⟨_, _, rfl, hk, hE⟩
end Tr
end
section
namespace Tr
open PySem PySem.Spec L2
def topS (i : Nat) : Stmt := PySem.Challenge.pw_onwardasks_k01_kind_told.main.body.getD i (.Pass ⟨0, 0, 0, 0⟩)
structure Blt (mg : Str → Option Value) : Prop where
  abs_ : mg "abs" = none
  all_ : mg "all" = none
  any_ : mg "any" = none
  bool_ : mg "bool" = none
  dict_ : mg "dict" = none
  enumerate_ : mg "enumerate" = none
  int_ : mg "int" = none
  isinstance_ : mg "isinstance" = none
  len_ : mg "len" = none
  list_ : mg "list" = none
  max_ : mg "max" = none
  min_ : mg "min" = none
  range_ : mg "range" = none
  sorted_ : mg "sorted" = none
  str_ : mg "str" = none
  tuple_ : mg "tuple" = none
structure Glb (K : PySem.W.Frag) (mg : Str → Option Value) : Prop where
  MOST_LINKS : ∃ t, mg "MOST_LINKS" = some (.int 2 t)
  MOST_OWN : ∃ t, mg "MOST_OWN" = some (.int 5 t)
  MOST_RULES : ∃ t, mg "MOST_RULES" = some (.int 300 t)
  LETTERS : ∃ t, mg "LETTERS" = some (.str letters t)
  MANNERS : ∃ a vs, mg "MANNERS" = some (.ref a) ∧ KTup K a vs ∧ (manners).map toV = vs.map some

structure TxtKind (K : PySem.W.Frag) (mg : Str → Option Value) (C : Addr) : Prop where
  mg_ : mg "Kind" = some (.ref C)
  cl : Cls K C
  ct : ClsT K C
  n_called : NoAttr K C "called"
  n_leads : NoAttr K C "leads"
  n_fixed : NoAttr K C "fixed"
  n_listed : NoAttr K C "listed"
  n_veiled : NoAttr K C "veiled"

section
variable {P : Program} {w : World} {K : PySem.W.Frag} {mg : Str → Option Value} {base : Heap} {f : Addr} {fd : FuncData}

abbrev s_Kind_name : Stmt := inClass (topS 24) 1
abbrev n_Kind_name : List Str := ["self"]
theorem sc_Kind_name : FnScope n_Kind_name ["self"] (defScope s_Kind_name) := ⟨rfl, rfl, rfl, by decide +kernel, rfl, by decide +kernel, by decide +kernel⟩
theorem ok_Kind_name (T : Blt mg) {CKind : Addr} (TKind : TxtKind K mg CKind) {pp : Addr} (F : FunD K "name" "Kind.name" (defArgs s_Kind_name) (defBody s_Kind_name) (defScope s_Kind_name) [] [] f fd) (hm : PropOf K CKind "name" pp f) : CalP P w K mg base 1 CKind "name" ["self"] [.w] (sp_Kind_name CKind) := by
  refine calp_mk (st := s_Kind_name) (k := 0) (t_Kind_name CKind) F hm sc_Kind_name (fun _ _ _ _ _ _ us hl => match us, hl with | [_], _ => rfl) (fun cdv A outer s H E hr => ?_) (rd_Kind_name CKind)
  exact (dss_one (ds_ret (de_imm (de_fld TKind.cl TKind.n_called (de_v 0)))))
abbrev s_Kind_hidden : Stmt := inClass (topS 24) 2
abbrev n_Kind_hidden : List Str := ["self"]
theorem sc_Kind_hidden : FnScope n_Kind_hidden ["self"] (defScope s_Kind_hidden) := ⟨rfl, rfl, rfl, by decide +kernel, rfl, by decide +kernel, by decide +kernel⟩
theorem ok_Kind_hidden (T : Blt mg) {CKind : Addr} (TKind : TxtKind K mg CKind) {pp : Addr} (F : FunD K "hidden" "Kind.hidden" (defArgs s_Kind_hidden) (defBody s_Kind_hidden) (defScope s_Kind_hidden) [] [] f fd) (hm : PropOf K CKind "hidden" pp f) : CalP P w K mg base 1 CKind "hidden" ["self"] [.w] (sp_Kind_hidden CKind) := by
  refine calp_mk (st := s_Kind_hidden) (k := 0) (t_Kind_hidden CKind) F hm sc_Kind_hidden (fun _ _ _ _ _ _ us hl => match us, hl with | [_], _ => rfl) (fun cdv A outer s H E hr => ?_) (rd_Kind_hidden CKind)
  exact (dss_one (ds_ret (de_imm (de_fld TKind.cl TKind.n_veiled (de_v 0)))))
abbrev s_Kind_links : Stmt := inClass (topS 24) 3
abbrev n_Kind_links : List Str := ["self", "link"]
theorem sc_Kind_links : FnScope n_Kind_links ["self"] (defScope s_Kind_links) := ⟨rfl, rfl, rfl, by decide +kernel, rfl, by decide +kernel, by decide +kernel⟩
theorem ok_Kind_links (T : Blt mg) {CKind : Addr} (TKind : TxtKind K mg CKind) (F : FunD K "links" "Kind.links" (defArgs s_Kind_links) (defBody s_Kind_links) (defScope s_Kind_links) [] [] f fd) (hm : Meth K CKind "links" f) : CalM P w K mg base 1 CKind "links" ["self"] [.w] (sp_Kind_links CKind) := by
  refine calm_mk (st := s_Kind_links) (k := 0) (t_Kind_links CKind) F hm sc_Kind_links (fun _ _ _ _ _ _ us hl => match us, hl with | [_], _ => rfl) (fun cdv A outer s H E hr => ?_) (rd_Kind_links CKind)
  exact (dss_one (ds_ret (de_dcK (s2 := .t) [("link", 1)] rfl sc_Kind_links.nd (path_f (s := .w) 0 TKind.cl TKind.n_leads) (blkOk_by (N := n_Kind_links) (sc := defScope s_Kind_links) (by decide +kernel)) (fun _ _ _ _ _ => (pg_name (i := 1) sc_Kind_links.nd rfl (Or.inl rfl))) tg1 tw1 (fun _ _ _ _ _ => dts_nil) (fun _ _ _ _ _ => (de_v 1)) (fun _ _ _ _ _ => (de_imm (de_dget (s2 := .t) (hu_of hr) (de_fld TKind.cl TKind.n_leads (de_v 0)) (de_v 1)))))))
abbrev s_Kind_own : Stmt := inClass (topS 24) 4
abbrev n_Kind_own : List Str := ["self", "name"]
theorem sc_Kind_own : FnScope n_Kind_own ["self"] (defScope s_Kind_own) := ⟨rfl, rfl, rfl, by decide +kernel, rfl, by decide +kernel, by decide +kernel⟩
theorem ok_Kind_own (T : Blt mg) {CKind : Addr} (TKind : TxtKind K mg CKind) (F : FunD K "own" "Kind.own" (defArgs s_Kind_own) (defBody s_Kind_own) (defScope s_Kind_own) [] [] f fd) (hm : Meth K CKind "own" f) : CalM P w K mg base 1 CKind "own" ["self"] [.w] (sp_Kind_own CKind) := by
  refine calm_mk (st := s_Kind_own) (k := 0) (t_Kind_own CKind) F hm sc_Kind_own (fun _ _ _ _ _ _ us hl => match us, hl with | [_], _ => rfl) (fun cdv A outer s H E hr => ?_) (rd_Kind_own CKind)
  exact (dss_one (ds_ret (de_dcK (s2 := .t) [("name", 1)] rfl sc_Kind_own.nd (path_f (s := .w) 0 TKind.cl TKind.n_fixed) (blkOk_by (N := n_Kind_own) (sc := defScope s_Kind_own) (by decide +kernel)) (fun _ _ _ _ _ => (pg_name (i := 1) sc_Kind_own.nd rfl (Or.inl rfl))) tg1 tw1 (fun _ _ _ _ _ => dts_nil) (fun _ _ _ _ _ => (de_v 1)) (fun _ _ _ _ _ => (de_imm (de_dget (s2 := .t) (hu_of hr) (de_fld TKind.cl TKind.n_fixed (de_v 0)) (de_v 1)))))))
abbrev s_Kind_rules : Stmt := inClass (topS 24) 5
abbrev n_Kind_rules : List Str := ["self"]
theorem sc_Kind_rules : FnScope n_Kind_rules ["self"] (defScope s_Kind_rules) := ⟨rfl, rfl, rfl, by decide +kernel, rfl, by decide +kernel, by decide +kernel⟩
theorem ok_Kind_rules (T : Blt mg) {CKind : Addr} (TKind : TxtKind K mg CKind) (F : FunD K "rules" "Kind.rules" (defArgs s_Kind_rules) (defBody s_Kind_rules) (defScope s_Kind_rules) [] [] f fd) (hm : Meth K CKind "rules" f) : CalM P w K mg base 1 CKind "rules" ["self"] [.w] (sp_Kind_rules CKind) := by
  refine calm_mk (st := s_Kind_rules) (k := 0) (t_Kind_rules CKind) F hm sc_Kind_rules (fun _ _ _ _ _ _ us hl => match us, hl with | [_], _ => rfl) (fun cdv A outer s H E hr => ?_) (rd_Kind_rules CKind)
  exact (dss_one (ds_ret (de_callTy (c_lst rfl) (sem_lstI (s1 := .t)) (by rfl) T.list_ (by decide +kernel) (da_cons (de_fld TKind.cl TKind.n_listed (de_v 0)) da_nil))))
abbrev s_Kind_getitem : Stmt := inClass (topS 24) 6
abbrev n_Kind_getitem : List Str := ["self", "name"]
theorem sc_Kind_getitem : FnScope n_Kind_getitem ["self", "name"] (defScope s_Kind_getitem) := ⟨rfl, rfl, rfl, by decide +kernel, rfl, by decide +kernel, by decide +kernel⟩
theorem ok_Kind_getitem (T : Blt mg) {CKind : Addr} (TKind : TxtKind K mg CKind) (F : FunD K "__getitem__" "Kind.__getitem__" (defArgs s_Kind_getitem) (defBody s_Kind_getitem) (defScope s_Kind_getitem) [] [] f fd) (hm : Meth K CKind "__getitem__" f) : CalM P w K mg base 1 CKind "__getitem__" ["self", "name"] [.w, .w] (sp_Kind_getitem CKind) := by
  refine calm_mk (st := s_Kind_getitem) (k := 0) (t_Kind_getitem CKind) F hm sc_Kind_getitem (fun _ _ _ _ _ _ us hl => match us, hl with | [_, _], _ => rfl) (fun cdv A outer s H E hr => ?_) (rd_Kind_getitem CKind)
  exact (dss_cons (ds_if (dw_pt (dw_or (dt_not (dt_val (s := .t) (de_callB call_isi (sem_isi (s1 := .t) (s2 := .t)) (by rfl) T.isinstance_ (by decide +kernel) (da_cons (de_v 1) (da_cons (de_ty (by rfl) T.str_ (by decide +kernel)) da_nil))))) (dw_or1 (dt_dnotin (s1 := .t) (s2 := .t) (hu_of hr) (de_v 1) (de_fld TKind.cl TKind.n_fixed (de_v 0))))))
      (dss_one ds_never)
      dss_nil)
      (dss_one (ds_ret (de_imm (de_dget (s2 := .t) (hu_of hr) (de_fld TKind.cl TKind.n_fixed (de_v 0)) (de_v 1))))))
abbrev s_Kind_contains : Stmt := inClass (topS 24) 7
abbrev n_Kind_contains : List Str := ["self", "name"]
theorem sc_Kind_contains : FnScope n_Kind_contains ["self", "name"] (defScope s_Kind_contains) := ⟨rfl, rfl, rfl, by decide +kernel, rfl, by decide +kernel, by decide +kernel⟩
theorem ok_Kind_contains (T : Blt mg) {CKind : Addr} (TKind : TxtKind K mg CKind) (F : FunD K "__contains__" "Kind.__contains__" (defArgs s_Kind_contains) (defBody s_Kind_contains) (defScope s_Kind_contains) [] [] f fd) (hm : Meth K CKind "__contains__" f) : CalM P w K mg base 1 CKind "__contains__" ["self", "name"] [.w, .w] (sp_Kind_contains CKind) := by
  refine calm_mk (st := s_Kind_contains) (k := 0) (t_Kind_contains CKind) F hm sc_Kind_contains (fun _ _ _ _ _ _ us hl => match us, hl with | [_, _], _ => rfl) (fun cdv A outer s H E hr => ?_) (rd_Kind_contains CKind)
  exact (dss_one (ds_ret (de_and (de_callB call_isi (sem_isi (s1 := .t) (s2 := .t)) (by rfl) T.isinstance_ (by decide +kernel) (da_cons (de_v 1) (da_cons (de_ty (by rfl) T.str_ (by decide +kernel)) da_nil))) (de_one (de_din (s1 := .t) (s2 := .t) (hu_of hr) (de_v 1) (de_fld TKind.cl TKind.n_fixed (de_v 0)))))))
abbrev s_Kind_eq : Stmt := inClass (topS 24) 9
abbrev n_Kind_eq : List Str := ["self", "other"]
theorem sc_Kind_eq : FnScope n_Kind_eq ["self", "other"] (defScope s_Kind_eq) := ⟨rfl, rfl, rfl, by decide +kernel, rfl, by decide +kernel, by decide +kernel⟩
theorem ok_Kind_eq (T : Blt mg) {CKind : Addr} (TKind : TxtKind K mg CKind) (F : FunD K "__eq__" "Kind.__eq__" (defArgs s_Kind_eq) (defBody s_Kind_eq) (defScope s_Kind_eq) [] [] f fd) (hm : Meth K CKind "__eq__" f) : CalM P w K mg base 1 CKind "__eq__" ["self", "other"] [.w, .w] (sp_Kind_eq K CKind) := by
  refine calm_mk (st := s_Kind_eq) (k := 0) (t_Kind_eq K CKind) F hm sc_Kind_eq (fun _ _ _ _ _ _ us hl => match us, hl with | [_, _], _ => rfl) (fun cdv A outer s H E hr => ?_) (rd_Kind_eq K CKind)
  exact (dss_cons (ds_if (dt_not (dt_val (s := .t) (de_isiO (s1 := .t) (by rfl) T.isinstance_ (by rfl) TKind.mg_ (de_v 1))))
      (dss_one (ds_ret de_bl))
      dss_nil)
      (dss_cons (ds_if (dw_pt (dw_or (dt_cmp (s := .t) op_ne (sem_Ne (s1 := .t) (s2 := .t)) (de_fld TKind.cl TKind.n_called (de_v 0)) (de_fld TKind.cl TKind.n_called (de_v 1))) (dw_or1 (dt_cmp (s := .t) op_ne (sem_Ne (s1 := .t) (s2 := .t)) (de_fld TKind.cl TKind.n_veiled (de_v 0)) (de_fld TKind.cl TKind.n_veiled (de_v 1))))))
      (dss_one (ds_ret de_bl))
      dss_nil)
      (dss_one (ds_ret (de_and (de_cmp (op_eqK (units65 hr)) (sem_EqK (s1 := .t) (s2 := .t)) (de_fld TKind.cl TKind.n_leads (de_v 0)) (de_fld TKind.cl TKind.n_leads (de_v 1))) (de_and (de_cmp (op_eqK (units65 hr)) (sem_EqK (s1 := .t) (s2 := .t)) (de_fld TKind.cl TKind.n_fixed (de_v 0)) (de_fld TKind.cl TKind.n_fixed (de_v 1))) (de_one (de_cmp (op_eqD hr.units) (sem_EqD (s1 := .t) (s2 := .t)) (de_fld TKind.cl TKind.n_listed (de_v 0)) (de_fld TKind.cl TKind.n_listed (de_v 1))))))))))
abbrev s_Kind_init : Stmt := inClass (topS 24) 0
abbrev n_Kind_init : List Str := ["self", "name", "links", "own", "rules", "hidden", "leads", "fixed", "listed"]
theorem sc_Kind_init : FnScope n_Kind_init ["self", "name", "links", "own", "rules", "hidden"] (defScope s_Kind_init) := ⟨rfl, rfl, rfl, by decide +kernel, rfl, by decide +kernel, by decide +kernel⟩
abbrev FKind (K : PySem.W.Frag) (f : Addr) (fd : FuncData) : Prop := FunD K "__init__" "Kind.__init__" (defArgs s_Kind_init) (defBody s_Kind_init) (defScope s_Kind_init) [] [("hidden", .bl false)] f fd
theorem ok_Kind_init (T : Blt mg) {CKind : Addr} (TKind : TxtKind K mg CKind) (C_is_name : Cal P w K mg base 1 "is_name" ["value"] [.w] sp_is_name) (C_read_links : Cal P w K mg base 4 "read_links" ["value"] [.w] sp_read_links) (C_read_own : Cal P w K mg base 3 "read_own" ["value", "links"] [.w, .w] sp_read_own) (C_read_rules : Cal P w K mg base 5 "read_rules" ["value", "links"] [.w, .w] sp_read_rules) (F : FKind K f fd) : FnOk P w K mg base CX0 6 f fd ["self", "name", "links", "own", "rules", "hidden"] (toMk K CKind [.w, .w, .w, .w, .w] sp_Kind_init) := by
  refine F.ok sc_Kind_init (fun vs H Q E h => ?_) fun cdv A outer s H vs Q E hr h => ?_
  · obtain ⟨z, B, p, dx, us, ds, R, rfl, hp, nvp, hz, hB, r, _⟩ := h
    have := r.len.1
    simp at this ⊢
    exact this
  · obtain ⟨z, B, p, dx, us, ds, R, rfl, hp, nvp, hz, hB, r, ⟨nm, l, o, rr, h0, k, rfl, hn, hl, ho, hrr, e1, e2, e3, ek1, ek2, hR⟩, kk⟩ := h
    refine ⟨tSeqs K (tSeq (sFld K (tVar 0) (tVar 1) "called") (tSeq (sFld K (tVar 0) (tVar 6) "leads") (tSeq (sFld K (tVar 0) (tVar 7) "fixed") (tSeq (sFld K (tVar 0) (tVar 8) "listed") (sFld K (tVar 0) (tVar 5) "veiled"))))) t_Kind_init, PSs.nox ?_, ?_⟩
    · exact (pss_cons (ds_if (dt_not (dt_val (s := .t) (de_fn C_is_name (hr.mono (by decide)) (by rfl) (da_cons (de_v 1) da_nil))))
      (dss_one ds_never)
      dss_nil)
      (pss_cons (ds_set 6 sc_Kind_init.nd (de_fn C_read_links (hr.mono (by decide)) (by rfl) (da_cons (de_v 2) da_nil)))
      (pss_cons (ds_if (dt_isN (s := .t) (de_v 6))
      (dss_one ds_never)
      dss_nil)
      (pss_cons (ds_set 7 sc_Kind_init.nd (de_fn C_read_own (hr.mono (by decide)) (by rfl) (da_cons (de_v 3) (da_cons (de_v 6) da_nil))))
      (pss_cons (ds_if (dt_isN (s := .t) (de_v 7))
      (dss_one ds_never)
      dss_nil)
      (pss_cons (ds_set 8 sc_Kind_init.nd (de_fn C_read_rules (hr.mono (by decide)) (by rfl) (da_cons (de_v 4) (da_cons (de_v 6) da_nil))))
      (pss_cons (ds_if (dt_isN (s := .t) (de_v 8))
      (dss_one ds_never)
      dss_nil)
      (pss_cons (ds_if (dt_not (dt_val (s := .t) (de_callB call_isi (sem_isi (s1 := .t) (s2 := .t)) (by rfl) T.isinstance_ (by decide +kernel) (da_cons (de_v 5) (da_cons (de_ty (by rfl) T.bool_ (by decide +kernel)) da_nil)))))
      (dss_one ds_never)
      dss_nil)
      (pss_cons (ps_fld (pv 0) (pv 1) rfl)
      (pss_cons (ps_fld (pv 0) (pv 6) rfl)
      (pss_cons (ps_fld (pv 0) (pv 7) rfl)
      (pss_cons (ps_fld (pv 0) (pv 8) rfl)
      (pss_one (ps_fld (pv 0) (pv 5) rfl))))))))))))))
    · refine (show tSeqs K (tStores K [("called", 1), ("leads", 6), ("fixed", 7), ("listed", 8), ("veiled", 5)]) t_Kind_init _ _ _ from ?_)
      refine init_ok (N := ["name", "links", "own", "rules", "hidden", "leads", "fixed", "listed"]) (ρ := [.wv (.adr p), .wv (.str nm), .wv l, .wv o, .wv rr, .wv (.bl h0), .val (.dct (enc k.l)), .val (.dct (enc k.o)), .val (.lst k.rs)]) (fs := k.fs) TKind.cl hp nvp hz hB (r.weak rfl) (by decide) (fun q m => ?_) rfl (by decide) (rd_Kind_init hn hl ho hrr e1 e2 e3 rfl) (fun M σ H' hv => ?_) fun H' ws fr st hp' hF => kk H' ws k.fs fr st hp' hF hR
      · simp only [List.mem_cons, List.not_mem_nil, or_false] at m
        rcases m with rfl | rfl | rfl | rfl | rfl
        · exact TKind.n_called
        · exact TKind.n_leads
        · exact TKind.n_fixed
        · exact TKind.n_listed
        · exact TKind.n_veiled
      · obtain ⟨v1, s1, r1⟩ := hv 1 (.str nm) (.inr ⟨rfl, rfl⟩)
        obtain ⟨v5, s5, r5⟩ := hv 5 (.bl h0) (.inr ⟨rfl, rfl⟩)
        obtain ⟨v6, s6, r6⟩ := hv 6 _ (.inl rfl)
        obtain ⟨v7, s7, r7⟩ := hv 7 _ (.inl rfl)
        obtain ⟨v8, s8, r8⟩ := hv 8 _ (.inl rfl)
        have a1 : vAt σ 1 = v1 := by unfold vAt; rw [s1]
        have a5 : vAt σ 5 = v5 := by unfold vAt; rw [s5]
        have a6 : vAt σ 6 = v6 := by unfold vAt; rw [s6]
        have a7 : vAt σ 7 = v7 := by unfold vAt; rw [s7]
        have a8 : vAt σ 8 = v8 := by unfold vAt; rw [s8]
        refine ⟨fun q m => ?_, ?_⟩
        · simp only [List.mem_cons, List.not_mem_nil, or_false] at m
          rcases m with rfl | rfl | rfl | rfl | rfl
          · exact ⟨_, s1⟩
          · exact ⟨_, s6⟩
          · exact ⟨_, s7⟩
          · exact ⟨_, s8⟩
          · exact ⟨_, s5⟩
        · have ep : puts σ [("called", 1), ("leads", 6), ("fixed", 7), ("listed", 8), ("veiled", 5)] [] = ([("called", v1), ("leads", v6), ("fixed", v7), ("listed", v8), ("veiled", v5)] : List (Str × V)) := by
            rw [← a1, ← a5, ← a6, ← a7, ← a8]
            rfl
          rw [ep]
          subst ek1 ek2
          exact repF_cons.mpr ⟨_, _, rfl, r1, repF_cons.mpr ⟨_, _, rfl, r6, repF_cons.mpr ⟨_, _, rfl, r7, repF_cons.mpr ⟨_, _, rfl, r8, repF_cons.mpr ⟨_, _, rfl, r5, repF_nil.mpr rfl⟩⟩⟩⟩⟩
theorem b_Kind (F : FKind K f fd) : ∃ ds, Vals [.bl false] ds ∧ Binds K fd ["self", "name", "links", "own", "rules", "hidden"] ds := F.binds0 5 (by simp) rfl fun D doc pm an cdv ct us ks l1 l2 => match us, ks, l1, l2 with
  | [_, _, _, _, _], [_], _, _ => ⟨_, _, _, _, _, _, rfl, rfl, rfl⟩
theorem bk_Kind (F : FKind K f fd) : ∃ mv : List Value, KBn K fd ["self", "name", "links", "own", "rules", "hidden"] 5 ["hidden"] (fun us ws => us ++ ws) (fun vs zs => vs ++ zs) := F.kbinds0 5 ["hidden"] [] (fun us mv ws => us ++ ws) (by simp) (by simp) (fun r1 r2 r3 => r1.append r3) fun D doc pm an cdv ct us mv ws l1 l2 l3 => match us, ws, l1, l3 with
  | [_, _, _, _, _], [_], _, _ => rfl

end
end Tr
end
section
namespace Tr
open PySem PySem.Spec L2 L2H
section
variable {P : Program} {w : World} {K : PySem.W.Frag} {mg : Str → Option Value} {base : Heap} {f : Addr} {fd : FuncData}

abbrev s_L_like : Stmt := topS 40
abbrev n_L_like : List Str := ["_law_told", "_law_due", "_law_k"]
theorem sc_L_like : FnScope n_L_like ["_law_told", "_law_due"] (defScope s_L_like) := ⟨rfl, rfl, rfl, by decide +kernel, rfl, by decide +kernel, by decide +kernel⟩
theorem st_L_like {k n : Nat} (T : Blt mg) (C__law_like : Cal P w K mg base k "_law_like" ["_law_told", "_law_due"] [.w, .w] (sp_L_like n)) (F : FunD K "_law_like" "_law_like" (defArgs s_L_like) (defBody s_L_like) (defScope s_L_like) [] [] f fd) (hm : mg "_law_like" = some (.ref f)) : Cal P w K mg base (k + 1) "_law_like" ["_law_told", "_law_due"] [.w, .w] (sp_L_like (n + 1)) := by
  refine cal_mk (st := s_L_like) (k := k) (t_L_like n K) F hm sc_L_like (fun _ _ _ _ _ _ us hl => match us, hl with | [_, _], _ => rfl) (fun cdv A outer s H E hr => ?_) (rd_L_like n K)
  exact (dss_cons (ds_if (dt_val (s := .t) (de_callB call_isi (sem_isi (s1 := .t) (s2 := .t)) (by rfl) T.isinstance_ (by decide +kernel) (da_cons (de_v 1) (da_cons (de_ty (by rfl) T.dict_ (by decide +kernel)) da_nil))))
      (dss_cons (ds_if (dw_pt (dw_or (dt_not (dt_val (s := .t) (de_callB call_isi (sem_isi (s1 := .t) (s2 := .t)) (by rfl) T.isinstance_ (by decide +kernel) (da_cons (de_v 0) (da_cons (de_ty (by rfl) T.dict_ (by decide +kernel)) da_nil))))) (dw_or1 (dt_cmp (s := .t) (op_neD hr.units) (sem_NeD (s1 := .t) (s2 := .t)) (de_callB (c_srt rfl) (sem_srt (s1 := .t)) (by rfl) T.sorted_ (by decide +kernel) (da_cons (de_callTy (c_lst rfl) sem_lst (by rfl) T.list_ (by decide +kernel) (da_cons (de_v 0) da_nil)) da_nil)) (de_callB (c_srt rfl) (sem_srt (s1 := .t)) (by rfl) T.sorted_ (by decide +kernel) (da_cons (de_callTy (c_lst rfl) sem_lst (by rfl) T.list_ (by decide +kernel) (da_cons (de_v 1) da_nil)) da_nil))))))
      (dss_one (ds_ret de_bl))
      dss_nil)
      (dss_one (ds_ret (de_cmp (op_eqD hr.units) (sem_EqD (s1 := .s) (s2 := .t)) (de_lcK  [("_law_k", 2)] rfl sc_L_like.nd (path_v (s := .w) 1) (blkOk_by (N := n_L_like) (sc := defScope s_L_like) (by decide +kernel)) (fun _ _ _ _ _ => (pg_name (i := 2) sc_L_like.nd rfl (Or.inl rfl))) tg1 tw1 (fun _ _ _ _ _ => (dts_one (dt_not (dt_val (s := .t) (de_fn C__law_like hr (by rfl) (da_cons (de_dget (s2 := .t) (hu_of hr) (de_v 0) (de_v 2)) (da_cons (de_dget (s2 := .t) (hu_of hr) (de_v 1) (de_v 2)) da_nil))))))) (fun _ _ _ _ _ => (de_v 2))) (de_lst (ss := []) da_nil)))))
      dss_nil)
      (dss_cons (ds_if (dt_val (s := .t) (de_callB c_isiT (sem_isiT (s1 := .t) (s2 := .s)) (by rfl) T.isinstance_ (by decide +kernel) (da_cons (de_v 1) (da_cons (de_tup (ss := [.s, .s]) (da_cons (de_ty (by rfl) T.list_ (by decide +kernel)) (da_cons (de_ty (by rfl) T.tuple_ (by decide +kernel)) da_nil))) da_nil))))
      (dss_cons (ds_if (dw_pt (dw_or (dt_not (dt_val (s := .t) (de_callB c_isiT (sem_isiT (s1 := .t) (s2 := .s)) (by rfl) T.isinstance_ (by decide +kernel) (da_cons (de_v 0) (da_cons (de_tup (ss := [.s, .s]) (da_cons (de_ty (by rfl) T.list_ (by decide +kernel)) (da_cons (de_ty (by rfl) T.tuple_ (by decide +kernel)) da_nil))) da_nil))))) (dw_or1 (dt_cmp (s := .t) op_ne (sem_Ne (s1 := .t) (s2 := .t)) (de_callB call_isi (sem_isi (s1 := .t) (s2 := .t)) (by rfl) T.isinstance_ (by decide +kernel) (da_cons (de_v 0) (da_cons (de_ty (by rfl) T.list_ (by decide +kernel)) da_nil))) (de_callB call_isi (sem_isi (s1 := .t) (s2 := .t)) (by rfl) T.isinstance_ (by decide +kernel) (da_cons (de_v 1) (da_cons (de_ty (by rfl) T.list_ (by decide +kernel)) da_nil)))))))
      (dss_one (ds_ret de_bl))
      dss_nil)
      (dss_cons (ds_if (dt_cmp (s := .t) op_ne (sem_Ne (s1 := .t) (s2 := .t)) (de_callB c_len (sem_len (s1 := .t)) (by rfl) T.len_ (by decide +kernel) (da_cons (de_v 0) da_nil)) (de_callB c_len (sem_len (s1 := .t)) (by rfl) T.len_ (by decide +kernel) (da_cons (de_v 1) da_nil)))
      (dss_one (ds_ret de_bl))
      dss_nil)
      (dss_one (ds_ret (de_cmp (op_eqD hr.units) (sem_EqD (s1 := .s) (s2 := .t)) (de_lc (s1 := .s) [("_law_k", 2)] rfl sc_L_like.nd (di_range1 (s1 := .t) (by rfl) T.range_ (da_cons (de_callB c_len (sem_len (s1 := .t)) (by rfl) T.len_ (by decide +kernel) (da_cons (de_v 1) da_nil)) da_nil)) (blkOk_by (N := n_L_like) (sc := defScope s_L_like) (by decide +kernel)) (fun _ _ _ _ _ => (pg_name (i := 2) sc_L_like.nd rfl (Or.inl rfl))) tg1 tw1 (fun _ _ _ _ _ => (dts_one (dt_not (dt_val (s := .t) (de_fn C__law_like hr (by rfl) (da_cons (de_ix (s2 := .t) (de_v 0) (de_v 2)) (da_cons (de_ix (s2 := .t) (de_v 1) (de_v 2)) da_nil))))))) (fun _ _ _ _ _ => (de_v 2))) (de_lst (ss := []) da_nil))))))
      dss_nil)
      (dss_cons (ds_if (dt_cmp (s := .t) op_ne (sem_Ne (s1 := .t) (s2 := .t)) (de_callB call_isi (sem_isi (s1 := .t) (s2 := .t)) (by rfl) T.isinstance_ (by decide +kernel) (da_cons (de_v 0) (da_cons (de_ty (by rfl) T.bool_ (by decide +kernel)) da_nil))) (de_callB call_isi (sem_isi (s1 := .t) (s2 := .t)) (by rfl) T.isinstance_ (by decide +kernel) (da_cons (de_v 1) (da_cons (de_ty (by rfl) T.bool_ (by decide +kernel)) da_nil))))
      (dss_one (ds_ret de_bl))
      dss_nil)
      (dss_one (ds_ret (de_and (de_cmp op_eq (sem_Eq (s1 := .t) (s2 := .t)) (de_callB call_isi (sem_isi (s1 := .t) (s2 := .t)) (by rfl) T.isinstance_ (by decide +kernel) (da_cons (de_v 0) (da_cons (de_ty (by rfl) T.int_ (by decide +kernel)) da_nil))) (de_callB call_isi (sem_isi (s1 := .t) (s2 := .t)) (by rfl) T.isinstance_ (by decide +kernel) (da_cons (de_v 1) (da_cons (de_ty (by rfl) T.int_ (by decide +kernel)) da_nil)))) (de_one (de_cmp op_eq (sem_Eq (s1 := .t) (s2 := .t)) (de_v 0) (de_v 1)))))))))
theorem stH_L_like {k n : Nat} (T : Blt mg) (CH__law_like : CalH P w K mg base k "_law_like" ["_law_told", "_law_due"] [.w, .w] (sp_L_likeH n)) (F : FunD K "_law_like" "_law_like" (defArgs s_L_like) (defBody s_L_like) (defScope s_L_like) [] [] f fd) (hm : mg "_law_like" = some (.ref f)) : CalH P w K mg base (k + 1) "_law_like" ["_law_told", "_law_due"] [.w, .w] (sp_L_likeH (n + 1)) := by
  refine calh_mk (st := s_L_like) (k := k) (t_L_likeH n K) F hm sc_L_like (fun _ _ _ _ _ _ us hl => match us, hl with | [_, _], _ => rfl) (fun cdv A outer s H E p hr hot => ?_) (rd_L_likeH n K)
  exact (dss_cons (ds_if (dt_val (s := .t) (de_callB call_isi (sem_isi (s1 := .t) (s2 := .t)) (by rfl) T.isinstance_ (by decide +kernel) (da_cons (de_v 1) (da_cons (de_ty (by rfl) T.dict_ (by decide +kernel)) da_nil))))
      dss_never
      dss_nil)
      (dss_cons (ds_if (dt_val (s := .t) (de_callB c_isiT (sem_isiT (s1 := .t) (s2 := .s)) (by rfl) T.isinstance_ (by decide +kernel) (da_cons (de_v 1) (da_cons (de_tup (ss := [.s, .s]) (da_cons (de_ty (by rfl) T.list_ (by decide +kernel)) (da_cons (de_ty (by rfl) T.tuple_ (by decide +kernel)) da_nil))) da_nil))))
      (dss_cons (ds_if (dw_pt (dw_or (dt_not (dt_val (s := .t) (de_callB c_isiT (sem_isiT (s1 := .t) (s2 := .s)) (by rfl) T.isinstance_ (by decide +kernel) (da_cons (de_v 0) (da_cons (de_tup (ss := [.s, .s]) (da_cons (de_ty (by rfl) T.list_ (by decide +kernel)) (da_cons (de_ty (by rfl) T.tuple_ (by decide +kernel)) da_nil))) da_nil))))) (dw_or1 (dt_cmp (s := .t) op_ne (sem_Ne (s1 := .t) (s2 := .t)) (de_callB call_isi (sem_isi (s1 := .t) (s2 := .t)) (by rfl) T.isinstance_ (by decide +kernel) (da_cons (de_v 0) (da_cons (de_ty (by rfl) T.list_ (by decide +kernel)) da_nil))) (de_callB call_isi (sem_isi (s1 := .t) (s2 := .t)) (by rfl) T.isinstance_ (by decide +kernel) (da_cons (de_v 1) (da_cons (de_ty (by rfl) T.list_ (by decide +kernel)) da_nil)))))))
      (dss_one (ds_ret de_bl))
      dss_nil)
      (dss_cons (ds_if (dt_cmp (s := .t) op_ne (sem_Ne (s1 := .t) (s2 := .t)) (de_callB c_len (sem_len (s1 := .t)) (by rfl) T.len_ (by decide +kernel) (da_cons (de_v 0) da_nil)) (de_callB c_len (sem_len (s1 := .t)) (by rfl) T.len_ (by decide +kernel) (da_cons (de_v 1) da_nil)))
      (dss_one (ds_ret de_bl))
      dss_nil)
      (dss_one (ds_ret (de_cmp (op_eqD (unitsH hr)) (sem_EqD (s1 := .s) (s2 := .t)) (de_lcH (s1 := .s) [("_law_k", 2)] hot sc_L_like.nd (di_range1H (s1 := .t) (by rfl) T.range_ (da_cons (de_callB c_len (sem_len (s1 := .t)) (by rfl) T.len_ (by decide +kernel) (da_cons (de_v 1) da_nil)) da_nil)) (blkOk_by (N := n_L_like) (sc := defScope s_L_like) (by decide +kernel)) (fun _ _ _ _ _ _ hb => (pg_name (i := 2) sc_L_like.nd rfl (Or.inl rfl))) tg1 tw1 (fun _ _ _ _ _ _ hb => (dts_one (dt_not (dt_val (s := .t) (de_fnH CH__law_like hr (bH_hot hb) (by rfl) (da_cons (de_ix (s2 := .t) (de_v 0) (de_v 2)) (da_cons (de_ix (s2 := .t) (de_v 1) (de_v 2)) da_nil))))))) (fun _ _ _ _ _ _ hb => (de_v 2))) (de_lst (ss := []) da_nil))))))
      dss_nil)
      (dss_cons (ds_if (dt_cmp (s := .t) op_ne (sem_Ne (s1 := .t) (s2 := .t)) (de_callB call_isi (sem_isi (s1 := .t) (s2 := .t)) (by rfl) T.isinstance_ (by decide +kernel) (da_cons (de_v 0) (da_cons (de_ty (by rfl) T.bool_ (by decide +kernel)) da_nil))) (de_callB call_isi (sem_isi (s1 := .t) (s2 := .t)) (by rfl) T.isinstance_ (by decide +kernel) (da_cons (de_v 1) (da_cons (de_ty (by rfl) T.bool_ (by decide +kernel)) da_nil))))
      (dss_one (ds_ret de_bl))
      dss_nil)
      (dss_one (ds_ret (de_and (de_cmp op_eq (sem_Eq (s1 := .t) (s2 := .t)) (de_callB call_isi (sem_isi (s1 := .t) (s2 := .t)) (by rfl) T.isinstance_ (by decide +kernel) (da_cons (de_v 0) (da_cons (de_ty (by rfl) T.int_ (by decide +kernel)) da_nil))) (de_callB call_isi (sem_isi (s1 := .t) (s2 := .t)) (by rfl) T.isinstance_ (by decide +kernel) (da_cons (de_v 1) (da_cons (de_ty (by rfl) T.int_ (by decide +kernel)) da_nil)))) (de_one (de_cmp op_eq (sem_Eq (s1 := .t) (s2 := .t)) (de_v 0) (de_v 1)))))))))
theorem ok_L_like (T : Blt mg) (F : FunD K "_law_like" "_law_like" (defArgs s_L_like) (defBody s_L_like) (defScope s_L_like) [] [] f fd) (hm : mg "_law_like" = some (.ref f)) : ∀ n, Cal P w K mg base n "_law_like" ["_law_told", "_law_due"] [.w, .w] (sp_L_like n)
  | 0 => ⟨f, fd, ⟨fun vs H Q E h => by obtain ⟨_, _, _, _, _, _, _, ⟨_, _, _, h, _⟩, _⟩ := h; exact h.elim, fun A outer s H args us vs Q E _ _ _ _ h => by obtain ⟨_, _, _, _, _, _, _, ⟨_, _, _, h, _⟩, _⟩ := h; exact h.elim⟩, hm, F.kp, F.bindsN (fun _ _ _ _ _ _ us hl => match us, hl with | [_, _], _ => rfl)⟩
  | n + 1 => st_L_like T (ok_L_like T F hm n) F hm
theorem okH_L_like (T : Blt mg) (F : FunD K "_law_like" "_law_like" (defArgs s_L_like) (defBody s_L_like) (defScope s_L_like) [] [] f fd) (hm : mg "_law_like" = some (.ref f)) : ∀ n, CalH P w K mg base n "_law_like" ["_law_told", "_law_due"] [.w, .w] (sp_L_likeH n)
  | 0 => ⟨f, fd, ⟨fun vs H Q E h => by obtain ⟨_, _, _, _, _, _, _, ⟨_, _, _, h, _⟩, _⟩ := h; exact h.elim, fun A outer s H args us vs Q E p _ _ _ _ _ _ h => by obtain ⟨_, _, _, _, _, _, _, ⟨_, _, _, h, _⟩, _⟩ := h; exact h.elim⟩, hm, F.kp, F.bindsN (fun _ _ _ _ _ _ us hl => match us, hl with | [_, _], _ => rfl)⟩
  | n + 1 => stH_L_like T (okH_L_like T F hm n) F hm
theorem okH_Kind_contains (T : Blt mg) {CKind : Addr} (TKind : TxtKind K mg CKind) (F : FunD K "__contains__" "Kind.__contains__" (defArgs s_Kind_contains) (defBody s_Kind_contains) (defScope s_Kind_contains) [] [] f fd) (hm : Meth K CKind "__contains__" f) : CalMH P w K mg base 1 CKind "__contains__" ["self", "name"] [.w, .w] (sp_Kind_contains CKind) := by
  refine calmh_mk (st := s_Kind_contains) (k := 0) (t_Kind_contains CKind) F hm sc_Kind_contains (fun _ _ _ _ _ _ us hl => match us, hl with | [_, _], _ => rfl) (fun cdv A outer s H E p hr hot => ?_) (rd_Kind_contains CKind)
  exact (dss_one (ds_ret (de_and (de_callB call_isi (sem_isi (s1 := .t) (s2 := .t)) (by rfl) T.isinstance_ (by decide +kernel) (da_cons (de_v 1) (da_cons (de_ty (by rfl) T.str_ (by decide +kernel)) da_nil))) (de_one (de_din (s1 := .t) (s2 := .t) (huH hr) (de_v 1) (de_fld TKind.cl TKind.n_fixed (de_v 0)))))))
abbrev s_L_kind : Stmt := topS 39
abbrev n_L_kind : List Str := ["_law_kind_here"]
theorem sc_L_kind : FnScope n_L_kind ["_law_kind_here"] (defScope s_L_kind) := ⟨rfl, rfl, rfl, by decide +kernel, rfl, by decide +kernel, by decide +kernel⟩
theorem ok_L_kind (T : Blt mg) {CKind : Addr} (TKind : TxtKind K mg CKind) (CK_Kind : CalK P w K mg base 6 "Kind" CKind ["self", "name", "links", "own", "rules", "hidden"] ["hidden"] [.w, .w, .w, .w] [.w] [.bl false] sp_Kind_init) (F : FunD K "_law_kind" "_law_kind" (defArgs s_L_kind) (defBody s_L_kind) (defScope s_L_kind) [] [] f fd) (hm : mg "_law_kind" = some (.ref f)) : Cal P w K mg base 8 "_law_kind" ["_law_kind_here"] [.w] (sp_L_kind CKind) := by
  refine cal_mk (st := s_L_kind) (k := 7) (t_L_kind CKind) F hm sc_L_kind (fun _ _ _ _ _ _ us hl => match us, hl with | [_], _ => rfl) (fun cdv A outer s H E hr => ?_) (rd_L_kind CKind)
  exact (dss_one (ds_ret (de_mkQ CK_Kind (hr.mono (by decide)) (by rfl) (da_cons (de_ix (s2 := .t) (de_v 0) de_int) (da_cons (de_callTy call_dictD sem_dct (by rfl) T.dict_ (by decide +kernel) (da_cons (de_ix (s2 := .t) (de_v 0) de_int) da_nil)) (da_cons (de_callTy call_dictD sem_dct (by rfl) T.dict_ (by decide +kernel) (da_cons (de_ix (s2 := .t) (de_v 0) de_int) da_nil)) (da_cons (de_callTy (c_lst rfl) sem_lst (by rfl) T.list_ (by decide +kernel) (da_cons (de_ix (s2 := .t) (de_v 0) de_int) da_nil)) da_nil)))) (dk_cons (de_ix (s2 := .t) (de_v 0) de_int) dk_nil))))
abbrev s_L_tells : Stmt := topS 44
abbrev n_L_tells : List Str := ["_law_told", "_law_kind_here", "_law_parts", "_law_good", "_law_part"]
theorem sc_L_tells : FnScope n_L_tells ["_law_told", "_law_kind_here"] (defScope s_L_tells) := ⟨rfl, rfl, rfl, by decide +kernel, rfl, by decide +kernel, by decide +kernel⟩
theorem ok_L_tells {n : Nat} (hn : 3 ≤ n) (T : Blt mg) {CKind : Addr} (TKind : TxtKind K mg CKind) (C__law_like : Cal P w K mg base n "_law_like" ["_law_told", "_law_due"] [.w, .w] (sp_L_like n)) (CP_Kind_hidden : CalP P w K mg base 1 CKind "hidden" ["self"] [.w] (sp_Kind_hidden CKind)) (CM_Kind_links : CalM P w K mg base 1 CKind "links" ["self"] [.w] (sp_Kind_links CKind)) (CP_Kind_name : CalP P w K mg base 1 CKind "name" ["self"] [.w] (sp_Kind_name CKind)) (CM_Kind_own : CalM P w K mg base 1 CKind "own" ["self"] [.w] (sp_Kind_own CKind)) (CM_Kind_rules : CalM P w K mg base 1 CKind "rules" ["self"] [.w] (sp_Kind_rules CKind)) (F : FunD K "_law_tells" "_law_tells" (defArgs s_L_tells) (defBody s_L_tells) (defScope s_L_tells) [] [] f fd) (hm : mg "_law_tells" = some (.ref f)) : Cal P w K mg base (n + 1) "_law_tells" ["_law_told", "_law_kind_here"] [.w, .w] (sp_L_tells CKind n) := by
  refine ⟨f, fd, ?_, hm, F.kp, F.bindsN (fun _ _ _ _ _ _ us hl => match us, hl with | [_, _], _ => rfl)⟩
  refine F.ok sc_L_tells (fun vs H Q E h => ?_) fun cdv A outer s H vs Q E hr h => ?_
  · obtain ⟨z, B, ds, R, _, _, r, _⟩ := h
    exact r.len.1
  · obtain ⟨z, B, ds, R, hz, hB, r, ⟨k, q, rfl, ok, hk, hR⟩, kk⟩ := h
    refine ⟨tSeqs K (tSeq (clrFor K (tSl (rSlL K) (tVar 2) (tPart (tC (.int (2 : Nat)))) tNoPart) 4) (tRet (tVar 3))) (t_L_tells CKind n), PSs.nox ?_, ?_⟩
    · refine pss_cons ?a (pss_cons ?b (pss_cons ?c (pss_one ?d)))
      case a => exact (ds_setL (ss := [.s, .s, .s, .s, .s]) 2 sc_L_tells.nd (da_cons (de_p (s := .s) (s0 := .w) CP_Kind_name TKind.cl (hr.mono (by omega)) (de_v 0)) (da_cons (de_p (s := .s) (s0 := .w) CP_Kind_hidden TKind.cl (hr.mono (by omega)) (de_v 0)) (da_cons (de_m0 (s := .s) (s0 := .w) CM_Kind_links TKind.cl (hr.mono (by omega)) (de_v 0)) (da_cons (de_m0 (s := .s) (s0 := .w) CM_Kind_own TKind.cl (hr.mono (by omega)) (de_v 0)) (da_cons (de_m0 (s := .s) (s0 := .w) CM_Kind_rules TKind.cl (hr.mono (by omega)) (de_v 0)) da_nil))))))
      case b => exact (ds_set 3 sc_L_tells.nd (de_fn C__law_like hr (by rfl) (da_cons (de_v 2) (da_cons (de_lst (ss := [.t, .t, .t, .t, .t]) (da_cons (de_ix (s2 := .t) (de_v 1) de_int) (da_cons (de_ix (s2 := .t) (de_v 1) de_int) (da_cons (de_ix (s2 := .t) (de_v 1) de_int) (da_cons (de_ix (s2 := .t) (de_v 1) de_int) (da_cons (de_ix (s2 := .t) (de_v 1) de_int) da_nil)))))) da_nil))))
      case c => exact (ps_for PassesOwn.never rfl (pi_list (pe_slice sl_list (pv 2) (po_some pe_int) po_none)) (pg_name (i := 4) sc_L_tells.nd rfl (by first | exact Or.inl rfl | exact Or.inr rfl)) (pss_one (ps_expr (pe_clr (pv 4)))))
      case d => exact ps_ret (pv 3)
    · have j := J.ini (N := n_L_tells) hz (B := fun b => H b ≠ none) (fun _ h => h) (r.weak rfl) (by decide)
      refine lks (E := { nx := fun ρ => ρ = [.wv (k.d CKind), .wv q.d, .ol (toldP k), .val (.bl true), .non], rt := fun _ => False }) (fun _ _ _ _ _ _ h => h.elim) (fun _ _ _ _ _ h => h.elim) (fun _ _ _ _ _ h => h.elim) (fun M σ H1 ρ' j1 e => ?_) (t_L_tells CKind n) _ _ _ _ j (rd_L_tells ok hk rfl)
      have e' : ρ' = _ := e
      subst e'
      refine tail_clr (k := 2) (ds := toldP k) (d3 := .bl true) j1 (fun _ h => h) rfl (fun d hd => ?_) rfl rfl (by decide) (by show 4 < 5; decide) fun v H' f' k' r' => ?_
      · simp only [toldP, List.drop_succ_cons, List.drop_zero, List.mem_cons, List.not_mem_nil, or_false] at hd
        rcases hd with rfl | rfl | rfl <;> rfl
      · exact kk v H' (.bl true) f' k' (r'.imm (fun _ _ e _ => e) rfl) hR

abbrev s_NoName_init : Stmt := inClass (topS 3) 0
theorem sc_NoName_init : FnScope ["self", "what"] ["self", "what"] (defScope s_NoName_init) := ⟨rfl, rfl, rfl, by decide +kernel, rfl, by decide +kernel, by decide +kernel⟩
theorem ok_NoName_init {C : Addr} (T : ExcT K mg "NoName" C f) (F : FunD K "__init__" "NoName.__init__" (defArgs s_NoName_init) (defBody s_NoName_init) (defScope s_NoName_init) [] [] f fd) : FnOk P w K mg base CX0 1 f fd ["self", "what"] (spWhat C) := by
  refine F.ok sc_NoName_init (fun vs H Q E h => ?_) fun cdv A outer s H vs Q E hr h => ?_
  · obtain ⟨a, v, rfl, _⟩ := h
    rfl
  · obtain ⟨a, v, rfl, ha, hq⟩ := h
    refine ⟨_, PSs.nox (pss_one (ps_ost (pv 0) (pv 1))), ?_⟩
    exact ⟨v, rfl, .ref a, rfl, a, C, rfl, T.ox, T.noW, .inl ⟨ha, fun dx h1 h2 => hq dx h1 h2⟩⟩
theorem b_NoName_init (F : FunD K "__init__" "NoName.__init__" (defArgs s_NoName_init) (defBody s_NoName_init) (defScope s_NoName_init) [] [] f fd) : Binds K fd ["self", "what"] [] := F.bindsN (fun _ _ _ _ _ _ us hl => match us, hl with | [_, _], _ => rfl)

end
end Tr
end
section
namespace Tr
open PySem PySem.Spec L2 L2H
def sp_L_not_own (C : Addr) (n : Nat) : SpD := fun ds R => ∃ (k : Kf) (dn : D), ds = [k.d C, dn] ∧ plainD dn = true ∧ hasO k dn = false ∧ likeD n dn dn ∧ noD dn = true ∧ R (.bl true)
theorem hot_of {X : Cx} {a : Addr} {oe : Obj} {cls : Value} {d : Option Addr} {pn : List (Addr × Obj)} (hz : L2N.Zn cls d oe) (hf : ∃ vs, oe.data = .fields vs) : HotC (X.suite a ((a, oe) :: pn)) := by
  obtain ⟨vs, e⟩ := hf
  exact ⟨(a, oe), ⟨rfl, vs, e, hz.2.2 vs e⟩, List.mem_cons_self⟩

section
variable {P : Program} {w : World} {K : PySem.W.Frag} {mg : Str → Option Value} {base : Heap} {f : Addr} {fd : FuncData}

def spGetX (K : PySem.W.Frag) (C CN : Addr) : Sp := fun vs H Q E => ∃ (z : Zo) (k : Kf) (dn : D) (vt vn : V), vs = [vt, vn] ∧ StOk z H ∧ Rep K z (vol z) H (k.d C) vt ∧ Rep K z (vol z) H dn vn ∧ plainD dn = true ∧ hasO k dn = false ∧
  ∀ H' d v, Fr (vol z) H H' → StOk z H' → H' d = none → Rep K z (vol z) H' dn v → E (.ref CN) (some d) (upd H' d (.xd [("what", v)]))
theorem okX_Kind_getitem (T : Blt mg) {CKind CN fN : Addr} {fdN : FuncData} (TKind : TxtKind K mg CKind) (TN : ExcT K mg "NoName" CN fN) (FN : FunD K "__init__" "NoName.__init__" (defArgs s_NoName_init) (defBody s_NoName_init) (defScope s_NoName_init) [] [] fN fdN)
    (F : FunD K "__getitem__" "Kind.__getitem__" (defArgs s_Kind_getitem) (defBody s_Kind_getitem) (defScope s_Kind_getitem) [] [] f fd) : FnOk P w K mg base (L2N.CX P w) 3 f fd ["self", "name"] (spGetX K CKind CN) := by
  refine F.ok sc_Kind_getitem (fun vs H Q E h => ?_) fun cdv A outer s H vs Q E hr h => ?_
  · obtain ⟨z, k, dn, vt, vn, rfl, _⟩ := h
    rfl
  · obtain ⟨z, k, dn, vt, vn, rfl, hz, rt, rn, hp, ho, kk⟩ := h
    refine ⟨tSeq (tIfS (rdT K (wOr (wNot (wT (wCall semIsi (wCons (wV .t 1) (wCons (wC (.ty "str")) wNil))))) (wT (wDIn true (wV .t 1) (wFld CKind "fixed" (wV .t 0)))))) _ tNext) tNever, pss_cons (ps_if (dw_pt (dw_or (dt_not (dt_val (s := .t) (de_callB call_isi (sem_isi (s1 := .t) (s2 := .t)) (by rfl) T.isinstance_ (by decide +kernel) (da_cons (de_v 1) (da_cons (de_ty (by rfl) T.str_ (by decide +kernel)) da_nil))))) (dw_or1 (dt_dnotin (s1 := .t) (s2 := .t) (hu_of hr) (de_v 1) (de_fld TKind.cl TKind.n_fixed (de_v 0)))))) (pss_one (ps_raiseW rfl (L2N.takes_of rfl rfl rfl rfl) TN (ok_NoName_init TN FN) (hr.mono (by decide)) (b_NoName_init FN) (by rfl) (pv 1))) pss_nil) pss_never, ?_⟩
    have j := J.ini (N := n_Kind_getitem) (K := K) (ss := [.w, .w]) (ds := [k.d CKind, dn]) (vs := [vt, vn]) hz (B := fun _ => False) (fun _ h => h.elim) ⟨_, _, _, _, rfl, rfl, rt, _, _, _, _, rfl, rfl, rn, rfl, rfl⟩ (by decide)
    refine ⟨_, _, _, fun b => b = true, j, ?_, fun b H1 f1 j1 hb => ?_⟩
    · show (wOr (wNot (wT (wCall semIsi (wCons (wV .t 1) (wCons (wC (.ty "str")) wNil))))) (wT (wDIn true (wV .t 1) (wFld CKind "fixed" (wV .t 0))))) [Bd.wv (k.d CKind), .wv dn] _
      refine ⟨_, _, _, rfl, isi_str hp, _, rfl, ?_⟩
      cases dn with
      | str x =>
        refine ⟨k.fs, _, rfl, rfl, enc k.o, .inr x, rfl, rfl, _, rfl, ?_⟩
        rw [valD_enc]
        have : (k.o.lookup x).isSome = false := ho
        rw [this]
        rfl
      | _ => rfl
    · have hb' : b = true := hb
      subst hb'
      show tMkO CN (spWhat CN) [] (tCons (tVar 1) tNil) _ H1 _
      have e1 : (ini [.w, .w] [k.d CKind, dn] n_Kind_getitem.length)[1]? = some (.wv dn) := rfl
      obtain ⟨o, eo, v, rfl, hv⟩ := j1.getO e1
      refine ⟨v, eo, mk_what fun d hd => ?_⟩
      exact kk H1 d v f1 j1.ok hd (hv.ov (Ov.less fun b hb => .inl hb))

abbrev s_L_not_own : Stmt := topS 45
abbrev n_L_not_own : List Str := ["_law_told", "_law_name", "e"]
theorem sc_L_not_own : FnScope n_L_not_own ["_law_told", "_law_name"] (defScope s_L_not_own) := ⟨rfl, rfl, rfl, by decide +kernel, rfl, by decide +kernel, by decide +kernel⟩
theorem takes0N {X : Cx} : L2N.Takes X (fun _ _ _ _ => False) := fun u s' ⟨_, _, _, _, _, _, _, _, _, _, _, _, _, _, _, _, h⟩ => h.elim
theorem ok_L_not_own {n : Nat} (hn : 4 ≤ n) (T : Blt mg) {CKind CN fN fG : Addr} {fdG : FuncData} (TKind : TxtKind K mg CKind) (TN : ExcT K mg "NoName" CN fN) (te : PySem.W.exmOne K (.ref CN) (.ref CN) = some true)
    (FG : FnOk P w K mg base (L2N.CX P w) 3 fG fdG ["self", "name"] (spGetX K CKind CN)) (hmG : Meth K CKind "__getitem__" fG) (hfi : PySem.W.fnIn K fG = true) (bG : Binds K fdG ["self", "name"] [])
    (CH__law_like : CalH P w K mg base n "_law_like" ["_law_told", "_law_due"] [.w, .w] (sp_L_likeH n)) (CH_con : CalMH P w K mg base 1 CKind "__contains__" ["self", "name"] [.w, .w] (sp_Kind_contains CKind))
    (F : FunD K "_law_not_own" "_law_not_own" (defArgs s_L_not_own) (defBody s_L_not_own) (defScope s_L_not_own) [] [] f fd) (hm : mg "_law_not_own" = some (.ref f)) : Cal P w K mg base (n + 1) "_law_not_own" ["_law_told", "_law_name"] [.w, .w] (sp_L_not_own CKind n) := by
  obtain ⟨fL, fdL, FL, mL, kL, bL⟩ := CH__law_like.ex
  obtain ⟨fC, fdC, FC, mC, iC, bC⟩ := CH_con.ex
  refine ⟨f, fd, ?_, hm, F.kp, F.bindsN (fun _ _ _ _ _ _ us hl => match us, hl with | [_, _], _ => rfl)⟩
  refine F.ok sc_L_not_own (fun vs H Q E h => ?_) fun cdv A outer s H vs Q E hr h => ?_
  · obtain ⟨z, B, ds, R, _, _, r, _⟩ := h
    exact r.len.1
  · obtain ⟨z, B, ds, R, hz, hB, r, ⟨k, dn, rfl, hp, ho, hk, hno, hR⟩, kk⟩ := h
    obtain ⟨d1, ds1, vt, vs1, e1, rfl, rt, d2, ds2, vn, vs2, e2, rfl, rn, rfl, rfl⟩ := r
    cases e1
    cases e2
    have rt : Rep K z (vol z) H (k.d CKind) vt := rt
    have rn : Rep K z (vol z) H dn vn := rn
    refine ⟨_, pss_cons (L2N.ps_try_as (i := 2) rfl rfl sc_L_not_own.nd rfl rfl ⟨rfl, by decide, .inl TN.mg_⟩ takes0N
        (fun W pn xe tk _ => pss_one (ps_expr (pe_ixM FG hmG hfi (hr.mono (by omega)) bG (fun σ => L2N.passAt tk σ) (pv 0) (pv 1))))
        (fun a oe cls d pn hzn hf => pss_one (ps_ret (pe_and (pe_callH (E := fun _ => E0) FL (roomH_mark hr _) (hot_of hzn hf) (by rfl) mL kL bL (fun _ _ _ _ _ _ _ h => h.elim) (pa_cons (pe_xf TN.xf TN.noW hzn.zc hf (pv 2)) (pa_cons (pv 1) pa_nil)))
          (pe_one (pe_not (pe_cmpR (op_inMH FC mC (roomH_mark (hr.mono (by omega)) _) (hot_of hzn hf) bC) (pv 1) (pv 0) rfl)))))))
      (pss_one (ps_ret pe_bl)), ?_⟩
    obtain ⟨a0, dx0, ws0, rfl, na0, hn0, rf0⟩ := rep_ins.mp rt
    refine ⟨_, rfl, _, rfl, a0, dx0, ws0, rfl, raw_ins hn0, z, k, dn, _, _, rfl, hz, rt, rn, hp, ho, fun H1 d v f1 k1 hd rv => ?_⟩
    refine ⟨true, te, fun _ a ha => ?_, fun q => Bool.noConfusion q⟩
    have f2 : Fr (vol z) H1 (upd H1 d (.xd [("what", v)])) := Fr.laid hd
    have k2 : StOk z (upd H1 d (.xd [("what", v)])) := k1.laid hd
    have rt2 := (rt.ov (f1.ov fun _ z => z)).ov (f2.ov fun _ z => z)
    have rn2 := (rn.ov (f1.ov fun _ z => z)).ov (f2.ov fun _ z => z)
    have rv2 := rv.ov (f2.ov fun _ z => z)
    refine ⟨_, rfl, rfl, rfl, d, _, v, rfl, upd_same, rfl, _, rfl, ?_⟩
    refine ⟨z, fun _ => False, [dn, dn], _, k2, fun _ h => h.elim, ⟨_, _, _, _, rfl, rfl, rv2, _, _, _, _, rfl, rfl, rn2, rfl, rfl⟩, ⟨dn, dn, rfl, hk, hno, rfl⟩, fun u H3 d3 f3 k3 r3 e3 => ?_⟩
    have e3' : d3 = .bl true := e3.symm
    subst e3'
    refine ⟨true, rep_bl.mp r3, ?_⟩
    have rt3 := rt2.ov (f3.ov fun _ z => z)
    have rn3 := rn2.ov (f3.ov fun _ z => z)
    obtain ⟨a1, dx1, ws1, ea1, na1, hn1, rf1⟩ := rep_ins.mp rt3
    cases ea1
    refine ⟨_, rfl, _, rfl, a0, dx1, ws1, rfl, raw_ins hn1, ?_⟩
    refine ⟨z, fun _ => False, [k.d CKind, dn], _, k3, fun _ h => h.elim, ⟨_, _, _, _, rfl, rfl, rt3, _, _, _, _, rfl, rfl, rn3, rfl, rfl⟩, ⟨k, dn, rfl, hp, rfl⟩, fun u4 H4 d4 f4 k4 r4 e4 => ?_⟩
    have e4' : d4 = .bl (hasO k dn) := e4.symm
    subst e4'
    rw [ho] at r4
    refine ⟨false, rep_bl.mp r4, false, rfl, ?_⟩
    exact kk (.bl true) H4 (.bl true) (((f1.trans f2).trans f3).trans f4) k4 (rep_bl.mpr rfl) hR

end
end Tr
end
section
namespace Tr
open PySem PySem.Spec L2
/-! ### lists that grow -/
abbrev more : V := .str "more"
structure Grow (S : Addr → Prop) (N : Nat) (H0 H : Hp) : Prop where
  out : ∀ b, ¬ S b → H b = H0 b
  in_ : ∀ b, S b → ∃ xs k, H0 b = some (.lst xs) ∧ k ≤ N ∧ H b = some (.lst (xs ++ List.replicate k more))
theorem Grow.refl {S : Addr → Prop} {H : Hp} (h : ∀ b, S b → ∃ xs, H b = some (.lst xs)) : Grow S 0 H H := ⟨fun _ _ => rfl, fun b hb => by
  obtain ⟨xs, e⟩ := h b hb
  exact ⟨xs, 0, e, Nat.le_refl _, by simpa using e⟩⟩
theorem Grow.mono {S : Addr → Prop} {N N' : Nat} {H0 H : Hp} (g : Grow S N H0 H) (h : N ≤ N') : Grow S N' H0 H := ⟨g.out, fun b hb => by
  obtain ⟨xs, k, e1, e2, e3⟩ := g.in_ b hb
  exact ⟨xs, k, e1, Nat.le_trans e2 h, e3⟩⟩
theorem Grow.app {S : Addr → Prop} {N : Nat} {H0 H : Hp} {p : Addr} {ys : List V} (g : Grow S N H0 H) (hp : S p) (e : H p = some (.lst ys)) : Grow S (N + 1) H0 (upd H p (.lst (ys ++ [more]))) := by
  refine ⟨fun b hb => ?_, fun b hb => ?_⟩
  · rw [upd_ne (fun z => by subst z; exact hb hp)]; exact g.out b hb
  · by_cases z : b = p
    · subst z
      obtain ⟨xs, k, e1, e2, e3⟩ := g.in_ b hb
      rw [e] at e3
      cases e3
      refine ⟨xs, k + 1, e1, by omega, ?_⟩
      rw [upd_same, List.append_assoc, ← List.replicate_succ']
    · obtain ⟨xs, k, e1, e2, e3⟩ := g.in_ b hb
      exact ⟨xs, k, e1, by omega, by rw [upd_ne z]; exact e3⟩
theorem Grow.lock {S : Addr → Prop} {N : Nat} {H0 H : Hp} {a : Addr} {o : HO} (g : Grow S N H0 H) (na : ¬ S a) : Grow S N (upd H0 a o) (upd H a o) := by
  refine ⟨fun b hb => ?_, fun b hb => ?_⟩
  · by_cases z : b = a
    · subst z; rw [upd_same, upd_same]
    · rw [upd_ne z, upd_ne z]; exact g.out b hb
  · have z : b ≠ a := fun z => by subst z; exact na hb
    obtain ⟨xs, k, e1, e2, e3⟩ := g.in_ b hb
    exact ⟨xs, k, by rw [upd_ne z]; exact e1, e2, by rw [upd_ne z]; exact e3⟩
theorem upd_back {H : Hp} {a : Addr} {o o' : HO} (h : H a = some o) : upd (upd H a o') a o = H := by
  funext b
  by_cases z : b = a
  · subst z; rw [upd_same, h]
  · rw [upd_ne z, upd_ne z]
/-! ### what is passed to be spoiled -/
def TupV (K : PySem.W.Frag) (H : Hp) (q : Addr) (xs : List V) : Prop := H q = some (.tup xs) ∨ KTup K q xs
def LsV (H : Hp) (S : Addr → Prop) (v : V) : Prop := ∃ p xs, v = .ref p ∧ S p ∧ H p = some (.lst xs) ∧ xs.length ≤ 1000
def LtV (K : PySem.W.Frag) (H : Hp) (S : Addr → Prop) (v : V) : Prop := LsV H S v ∨ ∃ q xs, v = .ref q ∧ ¬ S q ∧ TupV K H q xs
def RuV (K : PySem.W.Frag) (H : Hp) (S : Addr → Prop) (v : V) : Prop := ∃ q x0 n rest, v = .ref q ∧ LtV K H S n ∧ ((S q ∧ H q = some (.lst (x0 :: n :: rest)) ∧ (x0 :: n :: rest).length ≤ 1000) ∨ (¬ S q ∧ TupV K H q (x0 :: n :: rest)))
structure PartsV (K : PySem.W.Frag) (H : Hp) (S : Addr → Prop) (r a b c : Addr) (la lb : List (Key × V)) (lc : List V) : Prop where
  ls : ∀ b, S b → ∃ xs, H b = some (.lst xs)
  root : H r = some (.lst [.ref a, .ref b, .ref c])
  nr : ¬ S r
  da : H a = some (.dK la)
  db : H b = some (.dK lb)
  dc : H c = some (.lst lc)
  nc : ¬ S c
  va : ∀ q ∈ la, LsV H S q.2
  vb : ∀ q ∈ lb, LtV K H S q.2
  vc : ∀ v ∈ lc, RuV K H S v
  za : la.length ≤ 300
  zb : lb.length ≤ 300
  zc : lc.length ≤ 300
theorem LsV.now {S : Addr → Prop} {N : Nat} {H0 H : Hp} {v : V} (h : LsV H0 S v) (g : Grow S N H0 H) (hN : N ≤ 2000) : ∃ p ys, v = .ref p ∧ S p ∧ H p = some (.lst ys) ∧ ys.length < sizeLine := by
  obtain ⟨p, xs, rfl, hp, e, hz⟩ := h
  obtain ⟨xs', k, e1, e2, e3⟩ := g.in_ p hp
  rw [e] at e1
  cases e1
  refine ⟨p, _, rfl, hp, e3, ?_⟩
  simp
  exact Nat.lt_of_le_of_lt (by omega : xs.length + k ≤ 3000) (by decide)
theorem TupV.now {K : PySem.W.Frag} {S : Addr → Prop} {N : Nat} {H0 H : Hp} {q : Addr} {xs : List V} (h : TupV K H0 q xs) (nq : ¬ S q) (g : Grow S N H0 H) : TupV K H q xs := h.imp (fun h => by rw [g.out q nq]; exact h) id
theorem tup_ty {K : PySem.W.Frag} {H : Hp} {q : Addr} {xs : List V} (h : TupV K H q xs) : TyX K H (.ref q) (.type "tuple") := by
  rcases h with h | ⟨o, its, n, h1, h2, _⟩
  · exact .base (.tup h)
  · exact .kTuple h1 h2
theorem tup_sq {K : PySem.W.Frag} {H : Hp} {q : Addr} {xs : List V} (h : TupV K H q xs) : SqT K H q xs := h.imp (fun h => .inl h) id
/-! readings -/
abbrev eP (K : PySem.W.Frag) (n : Int) : TE := tOp (rIx K) (tVar 0) (tC (.int n))
abbrev eD (K : PySem.W.Frag) (n : Int) (i : Nat) : TE := tDGet (eP K n) (tVar i)
abbrev aM (K : PySem.W.Frag) (to : TE) : TS := tDrop (tBM K "list" rAppend to (tCons (tC more) tNil))
abbrev isL (K : PySem.W.Frag) (te : TE) : TT := tTest (tCB (rIsi K) (tCons te (tCons (tC (.ty "list")) tNil)))
theorem for_any {J : It} {n : Nat} {D : Ends} {gt : TG} {tb : TS} {σ : L2.St} {H : Hp} (I : Nat → L2.St → Hp → Prop) (h0 : I 0 σ H) (go : ∀ i σ H, I i σ H → i < n → J.go i H) (stop : ∀ σ H, I n σ H → J.stop n H ∧ D.nx σ H)
    (step : ∀ i σ H x H', I i σ H → i < n → J.yld i H x H' → gt x σ H' fun σ2 H2 => tb { D with nx := I (i + 1), ct := I (i + 1), bk := D.nx } σ2 H2) :
    ∃ W : Nat → Nat → L2.St → Hp → Prop, (∃ m, W 0 m σ H) ∧ ∀ i m σ H, W i m σ H →
      (J.stop i H ∧ D.nx σ H) ∨ (J.go i H ∧ ∃ N : L2.St → Hp → Prop, (∀ σ' H', N σ' H' → ∃ m', m' < m ∧ W (i + 1) m' σ' H') ∧ ∀ x H', J.yld i H x H' → gt x σ H' fun σ2 H2 => tb { D with nx := N, ct := N, bk := D.nx } σ2 H2) := by
  refine ⟨fun i m σ H => m = n - i ∧ i ≤ n ∧ I i σ H, ⟨n, by simp, Nat.zero_le _, h0⟩, ?_⟩
  rintro i m σ H ⟨rfl, hi, h⟩
  by_cases hlt : i < n
  · exact .inr ⟨go i σ H h hlt, I (i + 1), fun σ' H' h' => ⟨n - (i + 1), by omega, rfl, hlt, h'⟩, fun x H' y => step i σ H x H' h hlt y⟩
  · have e : i = n := by omega
    subst e
    exact .inl (stop σ H h)
theorem val_mem {kvs : List (Key × V)} {i : Nat} {k : Key} {v : V} (h : kvs[i]? = some (k, v)) : ∃ u, valV kvs k = some u ∧ (k, u) ∈ kvs := by
  have hm := List.mem_of_getElem? h
  unfold valV
  cases q : kvs.find? (fun kv => decide (kv.1 = k)) with
  | none =>
    have := List.find?_eq_none.mp q (k, v) hm
    simp at this
  | some kv =>
    refine ⟨kv.2, rfl, ?_⟩
    have h1 := List.find?_some q
    have h2 := List.mem_of_find?_eq_some q
    have e : kv.1 = k := by simpa using h1
    rw [← e]
    exact h2
section
variable {K : PySem.W.Frag} {H0 : Hp} {S : Addr → Prop} {r a b c : Addr} {la lb : List (Key × V)} {lc : List V}
theorem PartsV.nsa (P : PartsV K H0 S r a b c la lb lc) : ¬ S a := fun h => by obtain ⟨xs, e⟩ := P.ls a h; rw [P.da] at e; cases e
theorem PartsV.nsb (P : PartsV K H0 S r a b c la lb lc) : ¬ S b := fun h => by obtain ⟨xs, e⟩ := P.ls b h; rw [P.db] at e; cases e
/-- the slots: the first stays -/
def Sl0 (r : Addr) (σ : L2.St) : Prop := σ.length = 4 ∧ σ[0]? = some (some (.ref r))
theorem Sl0.set {r : Addr} {σ : L2.St} (h : Sl0 r σ) {i : Nat} (hi : i ≠ 0) (v : V) : Sl0 r (σ.set i (some v)) := ⟨by simp [h.1], by rw [List.getElem?_set_ne hi]; exact h.2⟩
theorem Sl0.get {r : Addr} {σ : L2.St} (h : Sl0 r σ) {i : Nat} (hi : i < 4) (v : V) : (σ.set i (some v))[i]? = some (some v) := List.getElem?_set_self (by rw [h.1]; exact hi)
theorem isL_t {te : TE} {σ : L2.St} {H : Hp} {Q : Bool → Hp → Prop} {p : Addr} {ys : List V} (h : ∀ Q' : VK, Q' (.ref p) H → te σ H Q') (e : H p = some (.lst ys)) (q : Q true H) : isL K te σ H Q := by
  refine h _ ⟨_, _, _, _, true, rfl, .ty _, .base (.lst e), kit_ty (by decide +kernel), true, rfl, q⟩
theorem isL_f {te : TE} {σ : L2.St} {H : Hp} {Q : Bool → Hp → Prop} {p : Addr} {ys : List V} (h : ∀ Q' : VK, Q' (.ref p) H → te σ H Q') (e : TupV K H p ys) (q : Q false H) : isL K te σ H Q := by
  refine h _ ⟨_, _, _, _, false, rfl, .ty _, tup_ty e, kit_ty (by decide +kernel), false, rfl, q⟩
theorem aM_i {te : TE} {σ : L2.St} {H : Hp} {D : Ends} {p : Addr} {ys : List V} (h : ∀ Q' : VK, Q' (.ref p) H → te σ H Q') (e : H p = some (.lst ys)) (hz : ys.length < sizeLine) (q : D.nx σ (upd H p (.lst (ys ++ [more])))) : aM K te D σ H :=
  h _ ⟨.inl ⟨rfl, ys, SqL.of e⟩, p, ys, more, rfl, rfl, e, hz, q⟩
theorem spoil1 (P : PartsV K H0 S r a b c la lb lc) {D : Ends} {σ : L2.St} (hs : Sl0 r σ) (k : ∀ σ' H', Sl0 r σ' → Grow S 300 H0 H' → D.nx σ' H') : tLock (tFor (iKeys (eP K 0)) (gName 1) (aM K (eD K 0 1))) D σ H0 := by
  refine ⟨a, .dK la, P.da, trivial, fun od => ?_⟩
  have nra : r ≠ a := fun z => by have := P.root; rw [z, P.da] at this; cases this
  have ep : ∀ (σ : L2.St) (H : Hp) (Q : VK), σ[0]? = some (some (.ref r)) → H r = some (.lst [.ref a, .ref b, .ref c]) → Q (.ref a) H → eP K 0 σ H Q := fun σ H Q h1 h2 h3 => ⟨_, h1, .inl ⟨r, _, 0, _, rfl, rfl, SqL.of h2, atN (n := 0) rfl, h3⟩⟩
  refine ep _ _ _ hs.2 (by rw [upd_ne nra]; exact P.root) ⟨a, od, rfl, .inl ⟨la, upd_same, ?_⟩⟩
  have W := walk_keys (d := a) (o := od) (kvs := la)
  have lk : ∀ {N H}, Grow S N (upd H0 a (.frz od (.dK la))) H → H a = some (.frz od (.dK la)) := fun {N H} g => by rw [g.out a P.nsa, upd_same]
  refine for_any (n := la.length) (fun i σ' H' => Sl0 r σ' ∧ Grow S i (upd H0 a (.frz od (.dK la))) H') ⟨hs, (Grow.refl P.ls).lock P.nsa⟩ (fun i σ' H' h hi => W.goes i H' hi (lk h.2)) (fun σ' H' h => ⟨W.stops H' (lk h.2), lk h.2, k _ _ h.1 ?_⟩) (fun i σ' H' x H2 h hi y => ?_)
  · have g := (h.2.lock (o := .dK la) P.nsa).mono P.za
    rw [upd_back P.da] at g
    exact g
  · obtain ⟨e3, kk, v, e4, e5⟩ := W.yields i H' x H2 hi (lk h.2) y
    subst e5
    cases e3
    obtain ⟨u, e6, hm⟩ := val_mem e4
    have hu : LsV (upd H0 a (.frz od (.dK la))) S u := by
      obtain ⟨p, xs, rfl, hp, e, hz⟩ := P.va _ hm
      exact ⟨p, xs, rfl, hp, by rw [upd_ne (fun z => by subst z; exact P.nsa hp)]; exact e, hz⟩
    obtain ⟨p, ys, rfl, hp, hy, hz⟩ := hu.now h.2 (by have := P.za; omega)
    have hr : H' r = some (.lst [.ref a, .ref b, .ref c]) := by rw [h.2.out r P.nr, upd_ne nra]; exact P.root
    refine aM_i (p := p) (fun Q' q => ?_) hy hz ⟨h.1.set (by decide) _, h.2.app hp hy⟩
    exact ep _ _ _ (h.1.set (by decide) _).2 hr ⟨_, h.1.get (by decide) _, a, .ref p, rfl, .inl ⟨la, kk, .inr ⟨od, lk h.2⟩, rfl, e6.symm⟩, q⟩
theorem spoil2 (P : PartsV K H0 S r a b c la lb lc) {D : Ends} {σ : L2.St} {H1 : Hp} (hs : Sl0 r σ) (g1 : Grow S 300 H0 H1) (k : ∀ σ' H', Sl0 r σ' → Grow S 600 H0 H' → D.nx σ' H') : tLock (tFor (iKeys (eP K 1)) (gName 2) (tIfS (isL K (eD K 1 2)) (aM K (eD K 1 2)) tNext)) D σ H1 := by
  have db1 : H1 b = some (.dK lb) := by rw [g1.out b P.nsb]; exact P.db
  refine ⟨b, .dK lb, db1, trivial, fun od => ?_⟩
  have nrb : r ≠ b := fun z => by have := P.root; rw [z, P.db] at this; cases this
  have ep : ∀ (σ : L2.St) (H : Hp) (Q : VK), σ[0]? = some (some (.ref r)) → H r = some (.lst [.ref a, .ref b, .ref c]) → Q (.ref b) H → eP K 1 σ H Q := fun σ H Q h1 h2 h3 => ⟨_, h1, .inl ⟨r, _, 1, _, rfl, rfl, SqL.of h2, atN (n := 1) rfl, h3⟩⟩
  have root1 : H1 r = some (.lst [.ref a, .ref b, .ref c]) := by rw [g1.out r P.nr]; exact P.root
  refine ep _ _ _ hs.2 (by rw [upd_ne nrb]; exact root1) ⟨b, od, rfl, .inl ⟨lb, upd_same, ?_⟩⟩
  have W := walk_keys (d := b) (o := od) (kvs := lb)
  have lk : ∀ {N H}, Grow S N (upd H0 b (.frz od (.dK lb))) H → H b = some (.frz od (.dK lb)) := fun {N H} g => by rw [g.out b P.nsb, upd_same]
  refine for_any (n := lb.length) (fun i σ' H' => Sl0 r σ' ∧ Grow S (300 + i) (upd H0 b (.frz od (.dK lb))) H') ⟨hs, g1.lock P.nsb⟩ (fun i σ' H' h hi => W.goes i H' hi (lk h.2)) (fun σ' H' h => ⟨W.stops H' (lk h.2), lk h.2, k _ _ h.1 ?_⟩) (fun i σ' H' x H2 h hi y => ?_)
  · have g := (h.2.lock (o := .dK lb) P.nsb).mono (show 300 + lb.length ≤ 600 by have := P.zb; omega)
    rw [upd_back P.db] at g
    exact g
  · obtain ⟨e3, kk, v, e4, e5⟩ := W.yields i H' x H2 hi (lk h.2) y
    subst e5
    cases e3
    obtain ⟨u, e6, hm⟩ := val_mem e4
    have hr : H' r = some (.lst [.ref a, .ref b, .ref c]) := by rw [h.2.out r P.nr, upd_ne nrb]; exact P.root
    have ed : ∀ Q' : VK, Q' u H' → eD K 1 2 (σ'.set 2 (some (kV kk))) H' Q' := fun Q' q => ep _ _ _ (h.1.set (by decide) _).2 hr ⟨_, h.1.get (by decide) _, b, u, rfl, .inl ⟨lb, kk, .inr ⟨od, lk h.2⟩, rfl, e6.symm⟩, q⟩
    rcases P.vb _ hm with hu | ⟨q, xs, rfl, nq, hq⟩
    · have hu' : LsV (upd H0 b (.frz od (.dK lb))) S u := by
        obtain ⟨p, xs, rfl, hp, e, hz⟩ := hu
        exact ⟨p, xs, rfl, hp, by rw [upd_ne (fun z => by subst z; exact P.nsb hp)]; exact e, hz⟩
      obtain ⟨p, ys, rfl, hp, hy, hz⟩ := hu'.now h.2 (by have := P.zb; omega)
      refine isL_t (p := p) ed hy ?_
      exact aM_i (p := p) ed hy hz ⟨h.1.set (by decide) _, h.2.app hp hy⟩
    · have nqb : ¬ (∃ xs, H0 q = some (.tup xs)) ∨ q ≠ b := by
        by_cases z : q = b
        · left; rintro ⟨xs, e⟩; rw [z, P.db] at e; cases e
        · exact .inr z
      have hq' : TupV K (upd H0 b (.frz od (.dK lb))) q xs := by
        rcases hq with hq | hq
        · refine .inl ?_
          rw [upd_ne (fun z => by rw [z, P.db] at hq; cases hq)]
          exact hq
        · exact .inr hq
      refine isL_f (p := q) ed (hq'.now nq h.2) ?_
      exact ⟨h.1.set (by decide) _, h.2.mono (by omega)⟩
abbrev eX (K : PySem.W.Frag) : TE := tOp (rIx K) (tVar 3) (tC (.int 1))
theorem spoil3 (P : PartsV K H0 S r a b c la lb lc) {D : Ends} {σ : L2.St} {H1 : Hp} (hs : Sl0 r σ) (g1 : Grow S 600 H0 H1) (k : ∀ σ' H', Grow S 1200 H0 H' → D.nx σ' H') : tFor (iList K (eP K 2)) (gName 3) (tSeq (tIfS (isL K (eX K)) (aM K (eX K)) tNext) (tIfS (isL K (tVar 3)) (aM K (tVar 3)) tNext)) D σ H1 := by
  have root : ∀ {N H}, Grow S N H0 H → H r = some (.lst [.ref a, .ref b, .ref c]) := fun {N H} g => by rw [g.out r P.nr]; exact P.root
  have lc_ : ∀ {N H}, Grow S N H0 H → SqL K H c lc := fun {N H} g => SqL.of (by rw [g.out c P.nc]; exact P.dc)
  refine ⟨_, hs.2, .inl ⟨r, _, 2, _, rfl, rfl, SqL.of (root g1), atN (n := 2) rfl, c, rfl, ⟨_, lc_ g1⟩, ?_⟩⟩
  have W := walk_list (K := K) (a := c) (xs := lc)
  refine for_any (n := lc.length) (fun i σ' H' => Sl0 r σ' ∧ Grow S (600 + 2 * i) H0 H') ⟨hs, g1⟩ (fun i σ' H' h hi => W.goes i H' hi (lc_ h.2)) (fun σ' H' h => ⟨W.stops H' (lc_ h.2), k _ _ (h.2.mono (by have := P.zc; omega))⟩) (fun i σ' H' x H2 h hi y => ?_)
  obtain ⟨e3, e4⟩ := W.yields i H' x H2 hi (lc_ h.2) y
  subst e3
  obtain ⟨q, x0, n, rest, rfl, hn, hq⟩ := P.vc _ (List.mem_of_getElem? e4)
  have s1 := h.1.set (i := 3) (by decide) (.ref q)
  have g3 := h.1.get (i := 3) (by decide) (.ref q)
  have zc := P.zc
  -- x[1], at any later heap
  have ex : ∀ {N H}, Grow S N H0 H → ∀ Q' : VK, Q' n H → eX K (σ'.set 3 (some (.ref q))) H Q' := fun {N H} g Q' qq => by
    refine ⟨_, g3, ?_⟩
    rcases hq with ⟨hS, e, _⟩ | ⟨nS, ht⟩
    · obtain ⟨xs, kk, e1, e2, e3⟩ := g.in_ q hS
      rw [e] at e1
      cases e1
      exact .inl ⟨q, _, 1, n, rfl, rfl, SqL.of e3, atN (n := 1) (by simp), qq⟩
    · exact .inr (.inl ⟨q, _, 1, n, rfl, rfl, tup_sq (ht.now nS g), atN (n := 1) rfl, qq⟩)
  -- behind the first test
  have second : ∀ {H}, Grow S (600 + 2 * i + 1) H0 H → tIfS (isL K (tVar 3)) (aM K (tVar 3)) tNext { D with nx := fun σ H => Sl0 r σ ∧ Grow S (600 + 2 * (i + 1)) H0 H, ct := fun σ H => Sl0 r σ ∧ Grow S (600 + 2 * (i + 1)) H0 H, bk := D.nx } (σ'.set 3 (some (.ref q))) H := fun {H} g => by
    have ev : ∀ Q' : VK, Q' (.ref q) H → tVar 3 (σ'.set 3 (some (.ref q))) H Q' := fun Q' qq => ⟨_, g3, qq⟩
    rcases hq with ⟨hS, e, hz⟩ | ⟨nS, ht⟩
    · obtain ⟨p, ys, ep, hp, hy, hz'⟩ := LsV.now (v := .ref q) ⟨q, _, rfl, hS, e, hz⟩ g (by omega)
      cases ep
      refine isL_t (p := q) ev hy ?_
      exact aM_i (p := q) ev hy hz' ⟨s1, (g.app hp hy).mono (by omega)⟩
    · exact isL_f (p := q) ev (ht.now nS g) ⟨s1, g.mono (by omega)⟩
  show tSeq _ _ _ _ _
  rcases hn with hn | ⟨t, xs, rfl, nt, ht⟩
  · obtain ⟨p, ys, rfl, hp, hy, hz⟩ := hn.now h.2 (by omega)
    refine isL_t (p := p) (ex h.2) hy ?_
    exact aM_i (p := p) (ex h.2) hy hz (second (h.2.app hp hy))
  · exact isL_f (p := t) (ex h.2) (ht.now nt h.2) (second (h.2.mono (by omega)))
end
end Tr
end
section
namespace Tr
open PySem PySem.Spec L2
local macro_rules | `(tactic| walk_at "rd0") => `(tactic| simp only [wSeq, wIfS, wOr, wNot, wAnd, wT, wCall, wCons, wNil, wC, wV, wRet, wNext, wSet, bdS, wSetL, wSetD, wIf, wTup, wLst, wIsN, wNotN, w2, wChain, wAndV, wOrV, wNotV, wExp, wIt, wFor, wLc, wRg1, wItS, wD0, wD1, wSl, wO0, wO1, wJoin, wipeB, wSetLi, List.getElem?_cons_zero, List.getElem?_cons_succ, List.set_cons_zero, List.set_cons_succ, x_some, x_bl, x_int, x_str, l_P, l_I0, l_I, l_EqS, l_EqI, l_EqB, l_NeS, l_NeI, Bool.not_true, Bool.not_false, if_true, if_false, Bool.false_eq_true, eq_self_iff_true])
/-! the draws' state is made -/
def sp_L_state : SpD := fun ds R => ∃ ns : List Int, ds = [.lst (ns.map D.int)] ∧ ns.length ≤ 63 ∧ ∀ cs : List Int, cs ≠ [] → R (.lst [.lst (cs.map D.int), .int 0, .int 0])
def t_L_state : TDS := wSeq (wSet .s 1 (wLc (wIt (wSl (wV .w 0) wO0 (wO1 (wC (.int 63))))) (st1 .w 2) wYes (wCall semAbs (wCons (wCall semInt1 (wCons (wV .t 2) wNil)) wNil)) [2]))
    (wSeq (wIfS (wT (w2 semEqD (wV .t 1) (wLst wNil))) (wSet .s 1 (wLst (wCons (wC (.int 0)) wNil))) wNext)
    (wRet (wLst (wCons (wV .s 1) (wCons (wC (.int 0)) (wCons (wC (.int 0)) wNil))))))
theorem toPDs_ints : ∀ xs : List Int, toPDs (xs.map D.int) = some (xs.map PyData.int)
  | [] => rfl
  | x :: xs => by simp only [List.map_cons, toPDs, toPD, toPDs_ints xs]
theorem lay_ints : ∀ xs : List Int, PyData.canLayAll0 (xs.map PyData.int) = true ∧ PyData.depthAll (xs.map PyData.int) ≤ 1
  | [] => ⟨rfl, by simp [PyData.depthAll]⟩
  | x :: xs => by
    obtain ⟨h1, h2⟩ := lay_ints xs
    refine ⟨by simp [PyData.canLayAll0, PyData.canLay0, h1], ?_⟩
    simp only [List.map_cons, PyData.depthAll, PyData.depth]
    omega
theorem shaped_ints (xs : List Int) : SeqAt.shaped (.list (xs.map PyData.int)) = true := by
  obtain ⟨h1, h2⟩ := lay_ints xs
  unfold SeqAt.shaped
  rw [Bool.and_eq_true, decide_eq_true_eq]
  refine ⟨h1, ?_⟩
  simp only [PyData.depth]
  omega
theorem cutD_to {ds : List D} {n : Nat} (h : ds.length ≤ n) : cutD ds none (some (n : Int)) = ds := by rw [cut_to]; exact List.take_of_length_le h
theorem rd_L_state (ds : List D) (R : DK) (hl : ds.length = 1) (h : sp_L_state ds R) : t_L_state { nx := fun _ => R .non, rt := R } (ini [.w] ds 3) := by
  obtain ⟨ns, rfl, hz, hR⟩ := h
  show t_L_state _ [Bd.wv (.lst (ns.map D.int)), .non, .non]
  unfold t_L_state
  walk_at "rd0"
  refine .inl ⟨_, rfl, _, rfl, ?_⟩
  rw [show ((63 : Int)) = ((63 : Nat) : Int) from rfl, cutD_to (by simpa using hz)]
  refine lc_any (fun x => ∃ i, x = .int i) _ _ (fun d hd => ?_) (by simp; exact Nat.le_trans hz (by decide)) fun out ho hx => ?_
  · obtain ⟨i, _, rfl⟩ := List.mem_map.mp hd
    exact ⟨_, rfl, fun R' h' => ⟨_, rfl, _, rfl, h' _ ⟨_, rfl⟩⟩⟩
  · have : ∃ cs : List Int, out = cs.map D.int := by
      clear ho
      induction out with
      | nil => exact ⟨[], rfl⟩
      | cons d out ih =>
        obtain ⟨i, rfl⟩ := hx d List.mem_cons_self
        obtain ⟨cs, rfl⟩ := ih fun x m => hx x (List.mem_cons_of_mem _ m)
        exact ⟨i :: cs, rfl⟩
    obtain ⟨cs, rfl⟩ := this
    simp only [List.nil_append]
    have e0 : toPD (.lst (cs.map D.int)) = some (.list (cs.map PyData.int)) := by simp only [toPD, toPDs_ints]; rfl
    refine ⟨_, _, e0, rfl, shaped_ints cs, rfl, _, rfl, ?_⟩
    cases cs with
    | nil => exact hR [0] (by simp)
    | cons c cs => exact hR (c :: cs) (by simp)
end Tr
end
section
namespace Tr
open PySem PySem.Spec L2 L2H
section
variable {P : Program} {w : World} {K : PySem.W.Frag} {mg : Str → Option Value} {base : Heap} {f : Addr} {fd : FuncData}

abbrev s_L_spoil_inside : Stmt := topS 47
abbrev n_L_spoil_inside : List Str := ["_law_parts", "_law_link", "_law_name", "_law_rule_here"]
theorem sc_L_spoil_inside : FnScope n_L_spoil_inside ["_law_parts"] (defScope s_L_spoil_inside) := ⟨rfl, rfl, rfl, by decide +kernel, rfl, by decide +kernel, by decide +kernel⟩
def spSpoil (K : PySem.W.Frag) : Sp := fun vs H Q _ => ∃ (S : Addr → Prop) (r a b c : Addr) (la lb : List (Key × V)) (lc : List V), vs = [.ref r] ∧ PartsV K H S r a b c la lb lc ∧ ∀ H', Grow S 1200 H H' → Q .non H'
theorem ok_L_spoil_inside (T : Blt mg) (F : FunD K "_law_spoil_inside" "_law_spoil_inside" (defArgs s_L_spoil_inside) (defBody s_L_spoil_inside) (defScope s_L_spoil_inside) [] [] f fd) : FnOk P w K mg base CX0 1 f fd ["_law_parts"] (spSpoil K) := by
  refine F.ok sc_L_spoil_inside (fun vs H Q E h => ?_) fun cdv A outer s H vs Q E hr h => ?_
  · obtain ⟨S, r, a, b, c, la, lb, lc, rfl, _⟩ := h
    rfl
  · obtain ⟨S, r, a, b, c, la, lb, lc, rfl, PV, k⟩ := h
    refine ⟨tSeq (tLock (tFor (iKeys (eP K 0)) (gName 1) (aM K (eD K 0 1)))) (tSeq (tLock (tFor (iKeys (eP K 1)) (gName 2) (tIfS (isL K (eD K 1 2)) (aM K (eD K 1 2)) tNext))) (tFor (iList K (eP K 2)) (gName 3) (tSeq (tIfS (isL K (eX K)) (aM K (eX K)) tNext) (tIfS (isL K (tVar 3)) (aM K (tVar 3)) tNext)))), PSs.nox ?_, ?_⟩
    · refine pss_cons ?a (pss_cons ?b (pss_one ?c))
      case a => exact (ps_lock (ps_for PassesOwn.never rfl (pi_keys (pe_ix ix_seq (pv 0) pe_int (fun _ _ => rfl))) (pg_name (i := 1) sc_L_spoil_inside.nd rfl (by first | exact Or.inl rfl | exact Or.inr rfl)) (pss_one (ps_expr (pe_bm PySem.F.plainAttrs_list PySem.F.slot_list_append PySem.F.type_list_append mt_append (pe_dget (hu_of hr) (pe_ix ix_seq (pv 0) pe_int (fun _ _ => rfl)) (pv 1) (fun _ _ => rfl)) (pa_cons pe_str pa_nil))))))
      case b => exact (ps_lock (ps_for PassesOwn.never rfl (pi_keys (pe_ix ix_seq (pv 0) pe_int (fun _ _ => rfl))) (pg_name (i := 2) sc_L_spoil_inside.nd rfl (by first | exact Or.inl rfl | exact Or.inr rfl)) (pss_one (ps_if (pt_val (pe_callB call_isi (by rfl) T.isinstance_ (by decide +kernel) (pa_cons (pe_dget (hu_of hr) (pe_ix ix_seq (pv 0) pe_int (fun _ _ => rfl)) (pv 2) (fun _ _ => rfl)) (pa_cons (pe_bltn (by rfl) T.list_ (by decide +kernel) (v := .ty "list") rfl (by decide) (by decide)) pa_nil)))) (pss_one (ps_expr (pe_bm PySem.F.plainAttrs_list PySem.F.slot_list_append PySem.F.type_list_append mt_append (pe_dget (hu_of hr) (pe_ix ix_seq (pv 0) pe_int (fun _ _ => rfl)) (pv 2) (fun _ _ => rfl)) (pa_cons pe_str pa_nil)))) pss_nil))))
      case c => exact (ps_for PassesOwn.never rfl (pi_list (pe_ix ix_seq (pv 0) pe_int (fun _ _ => rfl))) (pg_name (i := 3) sc_L_spoil_inside.nd rfl (by first | exact Or.inl rfl | exact Or.inr rfl)) (pss_cons (ps_if (pt_val (pe_callB call_isi (by rfl) T.isinstance_ (by decide +kernel) (pa_cons (pe_ix ix_seq (pv 3) pe_int (fun _ _ => rfl)) (pa_cons (pe_bltn (by rfl) T.list_ (by decide +kernel) (v := .ty "list") rfl (by decide) (by decide)) pa_nil)))) (pss_one (ps_expr (pe_bm PySem.F.plainAttrs_list PySem.F.slot_list_append PySem.F.type_list_append mt_append (pe_ix ix_seq (pv 3) pe_int (fun _ _ => rfl)) (pa_cons pe_str pa_nil)))) pss_nil) (pss_one (ps_if (pt_val (pe_callB call_isi (by rfl) T.isinstance_ (by decide +kernel) (pa_cons (pv 3) (pa_cons (pe_bltn (by rfl) T.list_ (by decide +kernel) (v := .ty "list") rfl (by decide) (by decide)) pa_nil)))) (pss_one (ps_expr (pe_bm PySem.F.plainAttrs_list PySem.F.slot_list_append PySem.F.type_list_append mt_append (pv 3) (pa_cons pe_str pa_nil)))) pss_nil))))
    · refine spoil1 PV ⟨rfl, rfl⟩ fun σ1 H1 s1 g1 => ?_
      refine spoil2 PV s1 g1 fun σ2 H2 s2 g2 => ?_
      exact spoil3 PV s2 g2 fun σ3 H3 g3 => k H3 g3

abbrev s_L_draw : Stmt := topS 27
abbrev n_L_draw : List Str := ["_law_state_here", "_law_many", "_law_cells", "_law_place", "_law_number", "_law_mixed"]
theorem sc_L_draw : FnScope n_L_draw ["_law_state_here", "_law_many"] (defScope s_L_draw) := ⟨rfl, rfl, rfl, by decide +kernel, rfl, by decide +kernel, by decide +kernel⟩
theorem ok_L_draw (T : Blt mg) (F : FunD K "_law_draw" "_law_draw" (defArgs s_L_draw) (defBody s_L_draw) (defScope s_L_draw) [] [] f fd) (hm : mg "_law_draw" = some (.ref f)) : Cal P w K mg base 1 "_law_draw" ["_law_state_here", "_law_many"] [.s, .s] sp_L_draw := by
  refine ⟨f, fd, ?_, hm, F.kp, F.bindsN (fun _ _ _ _ _ _ us hl => match us, hl with | [_, _], _ => rfl)⟩
  refine F.ok sc_L_draw (fun vs H Q E h => ?_) fun cdv A outer s H vs Q E hr h => ?_
  · obtain ⟨z, B, ds, R, _, _, r, _⟩ := h
    exact r.len.1
  · obtain ⟨z, B, ds, R, hz, hB, r, ⟨m, rfl, h0, h1, hR⟩, k⟩ := h
    obtain ⟨d1, ds1, v1, vs1, e1, rfl, r1, d2, ds2, v2, vs2, e2, rfl, r2, rfl, rfl⟩ := r
    cases e1
    cases e2
    obtain ⟨q, rfl, rfl⟩ : ∃ q, z = some q ∧ v1 = .ref q.1 := by simpa only [Rep] using r1
    have := rep_int.mp r2
    subst this
    obtain ⟨qne, cells, i, c, hq1, hq2, hne⟩ := hz
    have ld : ∀ {x}, Loc (defScope s_L_draw) x → Loc (defScope s_L_draw) x := fun h => h
    refine ⟨_, pss_cons (ps_set (i := 2) sc_L_draw.nd rfl (.inl rfl) (pe_ix ix_seq (pv 0) pe_int (fun _ _ => rfl)))
      (pss_cons (ps_set (i := 3) sc_L_draw.nd rfl (.inl rfl) (pe_op op_mod (pe_callTy call_int1 (by rfl) T.int_ (by decide +kernel) (pa_cons (pe_ix ix_seq (pv 0) pe_int (fun _ _ => rfl)) pa_nil)) (pe_callB call_len (by rfl) T.len_ (by decide +kernel) (pa_cons (pv 2) pa_nil))))
      (pss_cons (ps_asg (pe_op op_add (pe_ix ix_seq (pv 0) pe_int (fun _ _ => rfl)) pe_int) (pg_sub (pv 0) pe_int set_list (fun _ => rfl)))
      (pss_cons (ps_set (i := 4) sc_L_draw.nd rfl (.inl rfl) (pe_ix ix_seq (pv 2) (pv 3) (fun _ _ => rfl)))
      (pss_cons (ps_if (pt_cmpR op_ge (pv 4) (pe_op op_pow pe_int pe_int) rfl)
        (pss_cons (ps_asg (pe_op op_fdiv (pv 4) (pv 1)) (pg_sub (pv 2) (pv 3) set_list (fun _ => rfl)))
          (pss_one (ps_ret (pe_op op_mod (pe_callTy call_int1 (by rfl) T.int_ (by decide +kernel) (pa_cons (pv 4) pa_nil)) (pv 1)))))
        pss_nil)
      (pss_cons (ps_asg (pe_op op_add (pe_ix ix_seq (pv 0) pe_int (fun _ _ => rfl)) pe_int) (pg_sub (pv 0) pe_int set_list (fun _ => rfl)))
      (pss_cons (ps_set (i := 5) sc_L_draw.nd rfl (.inl rfl) (pe_op op_mod (pe_callTy call_int1 (by rfl) T.int_ (by decide +kernel) (pa_cons (pe_op op_mul (pe_op op_add (pe_op op_add (pv 4) (pe_op op_mul pe_int (pe_ix ix_seq (pv 0) pe_int (fun _ _ => rfl)))) pe_int) pe_int) pa_nil)) pe_int))
      (pss_cons (ps_set (i := 5) sc_L_draw.nd rfl (.inl rfl) (pe_op op_mod (pe_callTy call_int1 (by rfl) T.int_ (by decide +kernel) (pa_cons (pe_op op_mul (pv 5) (pe_op op_add (pe_op op_fdiv (pv 5) pe_int) pe_int)) pa_nil)) pe_int))
      (pss_cons (ps_set (i := 5) sc_L_draw.nd rfl (.inl rfl) (pe_op op_mod (pe_callTy call_int1 (by rfl) T.int_ (by decide +kernel) (pa_cons (pe_op op_mul (pv 5) (pe_op op_add (pe_op op_fdiv (pv 5) pe_int) pe_int)) pa_nil)) pe_int))
      (pss_one (ps_ret (pe_op op_mod (pe_callTy call_int1 (by rfl) T.int_ (by decide +kernel) (pa_cons (pe_op op_fdiv (pv 5) pe_int) pa_nil)) (pv 1)))))))))))), ?_⟩
    have fin : ∀ (cells' : List Int) (i' c' r : Int) (H' : Hp), (∀ b, b ≠ q.1 → b ≠ q.2 → H' b = H b) → H' q.1 = some (.lst [.ref q.2, .int i', .int c']) → H' q.2 = some (.lst (cells'.map V.int)) → cells' ≠ [] → 0 ≤ r → r < m → Q (.int r) H' := by
      intro cells' i' c' r H' g1 g2 g3 g4 g5 g6
      refine k (.int r) H' (.int r) ⟨fun b o hb hv => ?_, fun b x y e => ?_⟩ ⟨qne, cells', i', c', g2, g3, g4⟩ (rep_int.mpr rfl) (hR r g5 g6)
      · by_cases b1 : b = q.1
        · have := hv (.inl b1)
          subst b1
          rw [hq1] at hb; cases hb; cases this
        · by_cases b2 : b = q.2
          · have := hv (.inr b2)
            subst b2
            rw [hq2] at hb; cases hb; cases this
          · rw [g1 b b1 b2]; exact hb
      · have b1 : b ≠ q.1 := fun z => by subst z; rw [g2] at e; cases e
        have b2 : b ≠ q.2 := fun z => by subst z; rw [g3] at e; cases e
        rw [g1 b b1 b2] at e; exact e
    have hpos : 0 < cells.length := List.length_pos_iff.mpr hne
    have hm1 : (0 : Int) ≤ i % (cells.length : Nat) := Int.emod_nonneg _ (by omega)
    have hm2 : i % ((cells.length : Nat) : Int) < (cells.length : Nat) := Int.emod_lt_of_pos _ (by omega)
    obtain ⟨j, hj⟩ := Int.eq_ofNat_of_zero_le hm1
    have hjl : j < cells.length := by omega
    have hat : atI (cells.map V.int) (j : Nat) = some (.int cells[j]) := atN (by simp [hjl])
    have hix : ixN (cells.map V.int).length (j : Nat) = some j := by
      unfold ixN
      rw [if_pos (by omega), if_pos (by simp; omega)]
      rfl
    have e10 : ixN 3 1 = some 1 := rfl
    have e20 : ixN 3 2 = some 2 := rfl
    have q1' : ∀ xs : HO, upd H q.1 xs q.2 = some (.lst (cells.map V.int)) := fun xs => by rw [upd_ne (fun z => qne z.symm)]; exact hq2
    refine ⟨_, rfl, .inl ⟨q.1, _, 0, .ref q.2, rfl, rfl, SqL.of hq1, at0, ?_⟩⟩
    refine ⟨_, rfl, .inl ⟨q.1, _, 1, .int i, rfl, rfl, SqL.of hq1, at1, .inl ⟨i, rfl, ?_⟩⟩⟩
    refine ⟨_, rfl, _, cells.length, rfl, .inl ⟨_, SqL.of hq2, by simp⟩, i, _, rfl, rfl, by omega, ?_⟩
    show tSeq _ _ _ [some (.ref q.1), some (.int m), some (.ref q.2), some (.int (i % ((cells.length : Nat) : Int))), none, none] H
    rw [hj]
    refine ⟨_, rfl, .inl ⟨q.1, _, 1, .int i, rfl, rfl, SqL.of hq1, at1, i, 1, rfl, rfl, _, rfl, q.1, _, 1, 1, rfl, rfl, hq1, e10, ?_⟩⟩
    show tSeq _ _ _ [some (.ref q.1), some (.int m), some (.ref q.2), some (.int (j : Nat)), none, none] (upd H q.1 (.lst [.ref q.2, .int (i + 1), .int c]))
    refine ⟨_, rfl, _, rfl, .inl ⟨q.2, _, j, _, rfl, rfl, SqL.of (q1' _), hat, ?_⟩⟩
    refine ⟨_, rfl, 10, 18, rfl, rfl, ⟨by decide, by decide, by decide⟩, _, _, rfl, rfl, _, rfl, ?_⟩
    generalize hn : cells[j] = n
    generalize hX : upd H q.1 (.lst [.ref q.2, .int (i + 1), .int c]) = H1
    have x1 : H1 q.1 = some (.lst [.ref q.2, .int (i + 1), .int c]) := by rw [← hX]; exact upd_same
    have x2 : H1 q.2 = some (.lst (cells.map V.int)) := by rw [← hX]; exact q1' _
    have x3 : ∀ b, b ≠ q.1 → b ≠ q.2 → H1 b = H b := fun b h1 _ => by rw [← hX]; exact upd_ne h1
    show (if decide _ = true then tSeq _ _ _ [some (.ref q.1), some (.int m), some (.ref q.2), some (.int (j : Nat)), some (.int n), none] H1 else tSeq _ _ _ [some (.ref q.1), some (.int m), some (.ref q.2), some (.int (j : Nat)), some (.int n), none] H1)
    split
    · refine ⟨_, rfl, _, rfl, n, m, rfl, rfl, ⟨h0, by omega⟩, _, rfl, _, rfl, q.2, _, j, j, rfl, rfl, x2, hix, ?_⟩
      refine ⟨_, rfl, .inl ⟨n, rfl, _, rfl, n, m, rfl, rfl, h0, ?_⟩⟩
      have es : (cells.map V.int).set j (.int (n / m)) = (cells.set j (n / m)).map V.int := by rw [List.map_set]
      refine fin (cells.set j (n / m)) (i + 1) c (n % m) _ (fun b b1 b2 => ?_) ?_ ?_ ?_ (Int.emod_nonneg _ (by omega)) (Int.emod_lt_of_pos _ h0)
      · rw [upd_ne b2]; exact x3 b b1 b2
      · rw [upd_ne qne]; exact x1
      · rw [upd_same, es]
      · intro z
        exact hne (by simpa using congrArg List.length z)
    · refine ⟨_, rfl, .inl ⟨q.1, _, 2, .int c, rfl, rfl, SqL.of x1, atN (n := 2) rfl, c, 1, rfl, rfl, _, rfl, q.1, _, 2, 2, rfl, rfl, x1, e20, ?_⟩⟩
      show tSeq _ _ _ [some (.ref q.1), some (.int m), some (.ref q.2), some (.int (j : Nat)), some (.int n), none] (upd H1 q.1 (.lst [.ref q.2, .int (i + 1), .int (c + 1)]))
      generalize hY : upd H1 q.1 (.lst [.ref q.2, .int (i + 1), .int (c + 1)]) = H2
      have y1 : H2 q.1 = some (.lst [.ref q.2, .int (i + 1), .int (c + 1)]) := by rw [← hY]; exact upd_same
      have y2 : H2 q.2 = some (.lst (cells.map V.int)) := by rw [← hY, upd_ne (fun z => qne z.symm)]; exact x2
      have y3 : ∀ b, b ≠ q.1 → b ≠ q.2 → H2 b = H b := fun b h1 h2 => by rw [← hY, upd_ne h1]; exact x3 b h1 h2
      refine ⟨_, rfl, _, rfl, .inl ⟨q.1, _, 2, .int (c + 1), rfl, rfl, SqL.of y1, atN (n := 2) rfl, 7919, c + 1, rfl, rfl, .inl ⟨by decide, by decide⟩, n, _, rfl, rfl, _, 1, rfl, rfl, _, 48271, rfl, rfl, .inr ⟨by decide, by decide⟩, .inl ⟨_, rfl, _, 2147483647, rfl, rfl, (by decide : (0 : Int) < 2147483647), ?_⟩⟩⟩
      show tSeq _ _ _ [some (.ref q.1), some (.int m), some (.ref q.2), some (.int (j : Nat)), some (.int n), some (.int ((n + 7919 * (c + 1) + 1) * 48271 % 2147483647))] H2
      generalize hm1 : (n + 7919 * (c + 1) + 1) * 48271 % 2147483647 = m1
      have b1 : 0 ≤ m1 ∧ m1 < 2147483647 := by rw [← hm1]; exact ⟨Int.emod_nonneg _ (by decide), Int.emod_lt_of_pos _ (by decide)⟩
      refine ⟨_, rfl, _, rfl, m1, 1009, rfl, rfl, ⟨by decide, by decide⟩, _, 69621, rfl, rfl, m1, _, rfl, rfl, .inl ⟨by omega, by omega⟩, .inl ⟨_, rfl, _, 2147483647, rfl, rfl, (by decide : (0 : Int) < 2147483647), ?_⟩⟩
      show tSeq _ _ _ [some (.ref q.1), some (.int m), some (.ref q.2), some (.int (j : Nat)), some (.int n), some (.int (m1 * (m1 / 1009 + 69621) % 2147483647))] H2
      generalize hm2 : m1 * (m1 / 1009 + 69621) % 2147483647 = m2
      have b2 : 0 ≤ m2 ∧ m2 < 2147483647 := by rw [← hm2]; exact ⟨Int.emod_nonneg _ (by decide), Int.emod_lt_of_pos _ (by decide)⟩
      refine ⟨_, rfl, _, rfl, m2, 2003, rfl, rfl, ⟨by decide, by decide⟩, _, 40692, rfl, rfl, m2, _, rfl, rfl, .inl ⟨by omega, by omega⟩, .inl ⟨_, rfl, _, 2147483399, rfl, rfl, (by decide : (0 : Int) < 2147483399), ?_⟩⟩
      refine ⟨_, rfl, _, 16, rfl, rfl, ⟨by decide, by decide⟩, .inl ⟨_, rfl, _, rfl, _, m, rfl, rfl, h0, ?_⟩⟩
      exact fin cells (i + 1) (c + 1) _ H2 y3 y1 y2 hne (Int.emod_nonneg _ (by omega)) (Int.emod_lt_of_pos _ h0)

abbrev s_is_name : Stmt := topS 6
abbrev n_is_name : List Str := ["value", "letter"]
theorem sc_is_name : FnScope n_is_name ["value"] (defScope s_is_name) := ⟨rfl, rfl, rfl, by decide +kernel, rfl, by decide +kernel, by decide +kernel⟩
theorem ok_is_name (T : Blt mg) (G : Glb K mg) (F : FunD K "is_name" "is_name" (defArgs s_is_name) (defBody s_is_name) (defScope s_is_name) [] [] f fd) (hm : mg "is_name" = some (.ref f)) : Cal P w K mg base 1 "is_name" ["value"] [.w] sp_is_name := by
  refine cal_mk (st := s_is_name) (k := 0) t_is_name F hm sc_is_name (fun _ _ _ _ _ _ us hl => match us, hl with | [_], _ => rfl) (fun cdv A outer s H E hr => ?_) (rd_is_name )
  exact (dss_cons (ds_if (dw_pt (dw_or (dt_not (dt_val (s := .t) (de_callB call_isi (sem_isi (s1 := .t) (s2 := .t)) (by rfl) T.isinstance_ (by decide +kernel) (da_cons (de_v 0) (da_cons (de_ty (by rfl) T.str_ (by decide +kernel)) da_nil))))) (dw_or1 (dt_not (dt_chain (s := .t) (s1 := .t) (s2 := .t) (s3 := .t) (sx := .t) op_le op_le sem_P sem_P de_int (de_callB c_len (sem_len (s1 := .t)) (by rfl) T.len_ (by decide +kernel) (da_cons (de_v 0) da_nil)) de_int)))))
      (dss_one (ds_ret de_bl))
      dss_nil)
      (dss_one (ds_ret (de_callB (cr_all rfl) (sem_all (s1 := .s)) (by rfl) T.all_ (by decide +kernel) (da_cons (de_lc (s1 := .s) [("letter", 1)] rfl sc_is_name.nd (di_str (s1 := .t) (de_v 0)) (blkOk_by (N := n_is_name) (sc := defScope s_is_name) (by decide +kernel)) (fun _ _ _ _ _ => (pg_name (i := 1) sc_is_name.nd rfl (Or.inl rfl))) tg1 tw1 (fun _ _ _ _ _ => dts_nil) (fun _ _ _ _ _ => (de_cmp op_in_sign (sem_InS (s1 := .t) (s2 := .t)) (de_v 1) (de_gstr (by rfl) G.LETTERS)))) da_nil)))))
abbrev s_is_word : Stmt := topS 7
abbrev n_is_word : List Str := ["value"]
theorem sc_is_word : FnScope n_is_word ["value"] (defScope s_is_word) := ⟨rfl, rfl, rfl, by decide +kernel, rfl, by decide +kernel, by decide +kernel⟩
theorem ok_is_word (T : Blt mg) (C_is_name : Cal P w K mg base 1 "is_name" ["value"] [.w] sp_is_name) (F : FunD K "is_word" "is_word" (defArgs s_is_word) (defBody s_is_word) (defScope s_is_word) [] [] f fd) (hm : mg "is_word" = some (.ref f)) : Cal P w K mg base 2 "is_word" ["value"] [.w] sp_is_word := by
  refine cal_mk (st := s_is_word) (k := 1) t_is_word F hm sc_is_word (fun _ _ _ _ _ _ us hl => match us, hl with | [_], _ => rfl) (fun cdv A outer s H E hr => ?_) (rd_is_word )
  exact (dss_one (ds_ret (de_and (de_callB call_isi (sem_isi (s1 := .t) (s2 := .t)) (by rfl) T.isinstance_ (by decide +kernel) (da_cons (de_v 0) (da_cons (de_ty (by rfl) T.str_ (by decide +kernel)) da_nil))) (de_one (de_or (de_cmp op_eq (sem_Eq (s1 := .t) (s2 := .t)) (de_v 0) de_str) (de_one (de_fn C_is_name (hr.mono (by decide)) (by rfl) (da_cons (de_v 0) da_nil))))))))
abbrev s_is_row_of : Stmt := topS 8
abbrev n_is_row_of : List Str := ["value", "least", "most"]
theorem sc_is_row_of : FnScope n_is_row_of ["value", "least", "most"] (defScope s_is_row_of) := ⟨rfl, rfl, rfl, by decide +kernel, rfl, by decide +kernel, by decide +kernel⟩
theorem ok_is_row_of (T : Blt mg) (F : FunD K "is_row_of" "is_row_of" (defArgs s_is_row_of) (defBody s_is_row_of) (defScope s_is_row_of) [] [] f fd) (hm : mg "is_row_of" = some (.ref f)) : Cal P w K mg base 1 "is_row_of" ["value", "least", "most"] [.w, .w, .w] sp_is_row_of := by
  refine cal_mk (st := s_is_row_of) (k := 0) (t_is_row_of K) F hm sc_is_row_of (fun _ _ _ _ _ _ us hl => match us, hl with | [_, _, _], _ => rfl) (fun cdv A outer s H E hr => ?_) (rd_is_row_of K)
  exact (dss_one (ds_ret (de_and (de_callB c_isiT (sem_isiT (s1 := .t) (s2 := .s)) (by rfl) T.isinstance_ (by decide +kernel) (da_cons (de_v 0) (da_cons (de_tup (ss := [.s, .s]) (da_cons (de_ty (by rfl) T.list_ (by decide +kernel)) (da_cons (de_ty (by rfl) T.tuple_ (by decide +kernel)) da_nil))) da_nil))) (de_one (de_chain (s1 := .t) (s2 := .t) (s3 := .t) (sx := .t) op_le op_le sem_P sem_P (de_v 1) (de_callB c_len (sem_len (s1 := .t)) (by rfl) T.len_ (by decide +kernel) (da_cons (de_v 0) da_nil)) (de_v 2))))))
abbrev s_read_choices : Stmt := topS 14
abbrev n_read_choices : List Str := ["value", "seen", "choice"]
theorem sc_read_choices : FnScope n_read_choices ["value"] (defScope s_read_choices) := ⟨rfl, rfl, rfl, by decide +kernel, rfl, by decide +kernel, by decide +kernel⟩
theorem ok_read_choices (T : Blt mg) (C_is_row_of : Cal P w K mg base 1 "is_row_of" ["value", "least", "most"] [.w, .w, .w] sp_is_row_of) (C_is_word : Cal P w K mg base 2 "is_word" ["value"] [.w] sp_is_word) (F : FunD K "read_choices" "read_choices" (defArgs s_read_choices) (defBody s_read_choices) (defScope s_read_choices) [] [] f fd) (hm : mg "read_choices" = some (.ref f)) : Cal P w K mg base 3 "read_choices" ["value"] [.w] sp_read_choices := by
  refine cal_mk (st := s_read_choices) (k := 2) t_read_choices F hm sc_read_choices (fun _ _ _ _ _ _ us hl => match us, hl with | [_], _ => rfl) (fun cdv A outer s H E hr => ?_) (rd_read_choices )
  exact (dss_cons (ds_if (dt_not (dt_val (s := .t) (de_fn C_is_row_of (hr.mono (by decide)) (by rfl) (da_cons (de_v 0) (da_cons de_int (da_cons de_int da_nil))))))
      (dss_one (ds_ret de_non))
      dss_nil)
      (dss_cons (ds_setL (ss := []) 1 sc_read_choices.nd da_nil)
      (dss_cons (ds_for (s := .w) PassesOwn.never rfl (di_it (s := .w) (de_v 0)) (pg_name (i := 2) sc_read_choices.nd rfl (by first | exact Or.inl rfl | exact Or.inr rfl)) tg1
      (dss_cons (ds_if (dw_pt (dw_or (dt_not (dt_val (s := .t) (de_fn C_is_word (hr.mono (by decide)) (by rfl) (da_cons (de_v 2) da_nil)))) (dw_or1 (dt_cmp (s := .t) op_in_seq (sem_In (s1 := .t) (s2 := .t)) (de_v 2) (de_v 1)))))
      (dss_one (ds_ret de_non))
      dss_nil)
      (dss_one (ds_app 1 (de_imm (de_v 2))))))
      (dss_one (ds_ret (de_callTy call_tuple_of sem_tup (by rfl) T.tuple_ (by decide +kernel) (da_cons (de_callB (c_srt rfl) (sem_srt (s1 := .t)) (by rfl) T.sorted_ (by decide +kernel) (da_cons (de_v 1) da_nil)) da_nil)))))))
abbrev s_read_links : Stmt := topS 15
abbrev n_read_links : List Str := ["value", "links", "link", "choices"]
theorem sc_read_links : FnScope n_read_links ["value"] (defScope s_read_links) := ⟨rfl, rfl, rfl, by decide +kernel, rfl, by decide +kernel, by decide +kernel⟩
theorem ok_read_links (T : Blt mg) (G : Glb K mg) (C_is_name : Cal P w K mg base 1 "is_name" ["value"] [.w] sp_is_name) (C_read_choices : Cal P w K mg base 3 "read_choices" ["value"] [.w] sp_read_choices) (F : FunD K "read_links" "read_links" (defArgs s_read_links) (defBody s_read_links) (defScope s_read_links) [] [] f fd) (hm : mg "read_links" = some (.ref f)) : Cal P w K mg base 4 "read_links" ["value"] [.w] sp_read_links := by
  refine cal_mk (st := s_read_links) (k := 3) t_read_links F hm sc_read_links (fun _ _ _ _ _ _ us hl => match us, hl with | [_], _ => rfl) (fun cdv A outer s H E hr => ?_) (rd_read_links )
  exact (dss_cons (ds_if (dw_pt (dw_or (dt_not (dt_val (s := .t) (de_callB call_isi (sem_isi (s1 := .t) (s2 := .t)) (by rfl) T.isinstance_ (by decide +kernel) (da_cons (de_v 0) (da_cons (de_ty (by rfl) T.dict_ (by decide +kernel)) da_nil))))) (dw_or1 (dt_cmp (s := .t) op_gt (sem_P (s1 := .t) (s2 := .t)) (de_callB c_len (sem_len (s1 := .t)) (by rfl) T.len_ (by decide +kernel) (da_cons (de_v 0) da_nil)) (de_gint (by rfl) G.MOST_LINKS)))))
      (dss_one (ds_ret de_non))
      dss_nil)
      (dss_cons (ds_setD 1 sc_read_links.nd)
      (dss_cons (ds_forK (s := .s) PassesOwn.never rfl (path_v (s := .w) 0) (pg_name (i := 2) sc_read_links.nd rfl (by first | exact Or.inl rfl | exact Or.inr rfl)) tg1
      (dss_cons (ds_if (dt_not (dt_val (s := .t) (de_fn C_is_name (hr.mono (by decide)) (by rfl) (da_cons (de_v 2) da_nil))))
      (dss_one (ds_ret de_non))
      dss_nil)
      (dss_cons (ds_set 3 sc_read_links.nd (de_fn C_read_choices (hr.mono (by decide)) (by rfl) (da_cons (de_dget (s2 := .t) (hu_of hr) (de_v 0) (de_v 2)) da_nil)))
      (dss_cons (ds_if (dt_isN (s := .t) (de_v 3))
      (dss_one (ds_ret de_non))
      dss_nil)
      (dss_one (ds_put (s := .t) 1 (hu_of hr) (de_v 2) (de_v 3)))))))
      (dss_one (ds_rel 1 (ds_ret (de_dc (s1 := .s) (s2 := .t) [("link", 2)] rfl sc_read_links.nd (di_it (s := .s) (de_callB (c_srt rfl) (sem_srt (s1 := .t)) (by rfl) T.sorted_ (by decide +kernel) (da_cons (de_v 1) da_nil))) (blkOk_by (N := n_read_links) (sc := defScope s_read_links) (by decide +kernel)) (fun _ _ _ _ _ => (pg_name (i := 2) sc_read_links.nd rfl (Or.inl rfl))) tg1 tw1 (fun _ _ _ _ _ => dts_nil) (fun _ _ _ _ _ => (de_v 2)) (fun _ _ _ _ _ => (de_dget (s2 := .t) (hu_of hr) (de_v 1) (de_v 2))))))))))
abbrev s_read_names : Stmt := topS 16
abbrev n_read_names : List Str := ["value", "seen", "name"]
theorem sc_read_names : FnScope n_read_names ["value"] (defScope s_read_names) := ⟨rfl, rfl, rfl, by decide +kernel, rfl, by decide +kernel, by decide +kernel⟩
theorem ok_read_names (T : Blt mg) (C_is_name : Cal P w K mg base 1 "is_name" ["value"] [.w] sp_is_name) (C_is_row_of : Cal P w K mg base 1 "is_row_of" ["value", "least", "most"] [.w, .w, .w] sp_is_row_of) (F : FunD K "read_names" "read_names" (defArgs s_read_names) (defBody s_read_names) (defScope s_read_names) [] [] f fd) (hm : mg "read_names" = some (.ref f)) : Cal P w K mg base 2 "read_names" ["value"] [.w] sp_read_names := by
  refine cal_mk (st := s_read_names) (k := 1) t_read_names F hm sc_read_names (fun _ _ _ _ _ _ us hl => match us, hl with | [_], _ => rfl) (fun cdv A outer s H E hr => ?_) (rd_read_names )
  exact (dss_cons (ds_if (dt_not (dt_val (s := .t) (de_fn C_is_row_of (hr.mono (by decide)) (by rfl) (da_cons (de_v 0) (da_cons de_int (da_cons de_int da_nil))))))
      (dss_one (ds_ret de_non))
      dss_nil)
      (dss_cons (ds_setL (ss := []) 1 sc_read_names.nd da_nil)
      (dss_cons (ds_for (s := .w) PassesOwn.never rfl (di_it (s := .w) (de_v 0)) (pg_name (i := 2) sc_read_names.nd rfl (by first | exact Or.inl rfl | exact Or.inr rfl)) tg1
      (dss_cons (ds_if (dw_pt (dw_or (dt_not (dt_val (s := .t) (de_fn C_is_name (hr.mono (by decide)) (by rfl) (da_cons (de_v 2) da_nil)))) (dw_or1 (dt_cmp (s := .t) op_in_seq (sem_In (s1 := .t) (s2 := .t)) (de_v 2) (de_v 1)))))
      (dss_one (ds_ret de_non))
      dss_nil)
      (dss_one (ds_app 1 (de_imm (de_v 2))))))
      (dss_one (ds_ret (de_callTy call_tuple_of sem_tup (by rfl) T.tuple_ (by decide +kernel) (da_cons (de_callB (c_srt rfl) (sem_srt (s1 := .t)) (by rfl) T.sorted_ (by decide +kernel) (da_cons (de_v 1) da_nil)) da_nil)))))))
abbrev s_is_link : Stmt := topS 17
abbrev n_is_link : List Str := ["value", "links"]
theorem sc_is_link : FnScope n_is_link ["value", "links"] (defScope s_is_link) := ⟨rfl, rfl, rfl, by decide +kernel, rfl, by decide +kernel, by decide +kernel⟩
theorem ok_is_link (T : Blt mg) (F : FunD K "is_link" "is_link" (defArgs s_is_link) (defBody s_is_link) (defScope s_is_link) [] [] f fd) (hm : mg "is_link" = some (.ref f)) : Cal P w K mg base 1 "is_link" ["value", "links"] [.w, .w] sp_is_link := by
  refine cal_mk (st := s_is_link) (k := 0) t_is_link F hm sc_is_link (fun _ _ _ _ _ _ us hl => match us, hl with | [_, _], _ => rfl) (fun cdv A outer s H E hr => ?_) (rd_is_link )
  exact (dss_one (ds_ret (de_and (de_callB call_isi (sem_isi (s1 := .t) (s2 := .t)) (by rfl) T.isinstance_ (by decide +kernel) (da_cons (de_v 0) (da_cons (de_ty (by rfl) T.str_ (by decide +kernel)) da_nil))) (de_one (de_din (s1 := .t) (s2 := .t) (hu_of hr) (de_v 0) (de_v 1))))))
abbrev s_is_manner : Stmt := topS 18
abbrev n_is_manner : List Str := ["value"]
theorem sc_is_manner : FnScope n_is_manner ["value"] (defScope s_is_manner) := ⟨rfl, rfl, rfl, by decide +kernel, rfl, by decide +kernel, by decide +kernel⟩
theorem ok_is_manner (T : Blt mg) (G : Glb K mg) (F : FunD K "is_manner" "is_manner" (defArgs s_is_manner) (defBody s_is_manner) (defScope s_is_manner) [] [] f fd) (hm : mg "is_manner" = some (.ref f)) : Cal P w K mg base 1 "is_manner" ["value"] [.w] sp_is_manner := by
  refine cal_mk (st := s_is_manner) (k := 0) t_is_manner F hm sc_is_manner (fun _ _ _ _ _ _ us hl => match us, hl with | [_], _ => rfl) (fun cdv A outer s H E hr => ?_) (rd_is_manner )
  exact (dss_one (ds_ret (de_and (de_callB call_isi (sem_isi (s1 := .t) (s2 := .t)) (by rfl) T.isinstance_ (by decide +kernel) (da_cons (de_v 0) (da_cons (de_ty (by rfl) T.str_ (by decide +kernel)) da_nil))) (de_one (de_cmp op_in_seq (sem_In (s1 := .t) (s2 := .t)) (de_v 0) (de_gtupE (by rfl) G.MANNERS))))))
abbrev s_read_answer : Stmt := topS 19
abbrev n_read_answer : List Str := ["value", "links"]
theorem sc_read_answer : FnScope n_read_answer ["value", "links"] (defScope s_read_answer) := ⟨rfl, rfl, rfl, by decide +kernel, rfl, by decide +kernel, by decide +kernel⟩
theorem ok_read_answer (T : Blt mg) (C_is_link : Cal P w K mg base 1 "is_link" ["value", "links"] [.w, .w] sp_is_link) (C_is_name : Cal P w K mg base 1 "is_name" ["value"] [.w] sp_is_name) (C_is_row_of : Cal P w K mg base 1 "is_row_of" ["value", "least", "most"] [.w, .w, .w] sp_is_row_of) (F : FunD K "read_answer" "read_answer" (defArgs s_read_answer) (defBody s_read_answer) (defScope s_read_answer) [] [] f fd) (hm : mg "read_answer" = some (.ref f)) : Cal P w K mg base 2 "read_answer" ["value", "links"] [.w, .w] sp_read_answer := by
  refine cal_mk (st := s_read_answer) (k := 1) t_read_answer F hm sc_read_answer (fun _ _ _ _ _ _ us hl => match us, hl with | [_, _], _ => rfl) (fun cdv A outer s H E hr => ?_) (rd_read_answer )
  exact (dss_cons (ds_if (dw_pt (dw_or (dt_not (dt_val (s := .t) (de_fn C_is_row_of (hr.mono (by decide)) (by rfl) (da_cons (de_v 0) (da_cons de_int (da_cons de_int da_nil)))))) (dw_or1 (dt_not (dt_val (s := .t) (de_callB call_isi (sem_isi (s1 := .t) (s2 := .t)) (by rfl) T.isinstance_ (by decide +kernel) (da_cons (de_ix (s2 := .t) (de_v 0) de_int) (da_cons (de_ty (by rfl) T.str_ (by decide +kernel)) da_nil))))))))
      (dss_one (ds_ret de_non))
      dss_nil)
      (dss_cons (ds_if (dt_cmp (s := .t) op_eq (sem_Eq (s1 := .t) (s2 := .t)) (de_callB c_len (sem_len (s1 := .t)) (by rfl) T.len_ (by decide +kernel) (da_cons (de_v 0) da_nil)) de_int)
      (dss_one (ds_ret (de_if (dt_cmp (s := .t) op_eq (sem_Eq (s1 := .t) (s2 := .t)) (de_ix (s2 := .t) (de_v 0) de_int) de_str) (de_tup (ss := [.s]) (da_cons de_str da_nil)) de_non)))
      dss_nil)
      (dss_cons (ds_if (dw_pt (dw_and (dt_cmp (s := .t) op_eq (sem_Eq (s1 := .t) (s2 := .t)) (de_ix (s2 := .t) (de_v 0) de_int) de_str) (dw_and1 (dt_val (s := .t) (de_fn C_is_name (hr.mono (by decide)) (by rfl) (da_cons (de_ix (s2 := .t) (de_v 0) de_int) da_nil))))))
      (dss_one (ds_ret (de_tup (ss := [.s, .s]) (da_cons de_str (da_cons (de_imm (de_ix (s2 := .t) (de_v 0) de_int)) da_nil)))))
      dss_nil)
      (dss_cons (ds_if (dw_pt (dw_and (dt_cmp (s := .t) op_eq (sem_Eq (s1 := .t) (s2 := .t)) (de_ix (s2 := .t) (de_v 0) de_int) de_str) (dw_and1 (dt_val (s := .t) (de_fn C_is_link (hr.mono (by decide)) (by rfl) (da_cons (de_ix (s2 := .t) (de_v 0) de_int) (da_cons (de_v 1) da_nil)))))))
      (dss_one (ds_ret (de_tup (ss := [.s, .s]) (da_cons de_str (da_cons (de_imm (de_ix (s2 := .t) (de_v 0) de_int)) da_nil)))))
      dss_nil)
      (dss_one (ds_ret de_non))))))
abbrev s_read_own : Stmt := topS 20
abbrev n_read_own : List Str := ["value", "links", "own", "name", "answer"]
theorem sc_read_own : FnScope n_read_own ["value", "links"] (defScope s_read_own) := ⟨rfl, rfl, rfl, by decide +kernel, rfl, by decide +kernel, by decide +kernel⟩
theorem ok_read_own (T : Blt mg) (G : Glb K mg) (C_is_name : Cal P w K mg base 1 "is_name" ["value"] [.w] sp_is_name) (C_read_answer : Cal P w K mg base 2 "read_answer" ["value", "links"] [.w, .w] sp_read_answer) (F : FunD K "read_own" "read_own" (defArgs s_read_own) (defBody s_read_own) (defScope s_read_own) [] [] f fd) (hm : mg "read_own" = some (.ref f)) : Cal P w K mg base 3 "read_own" ["value", "links"] [.w, .w] sp_read_own := by
  refine cal_mk (st := s_read_own) (k := 2) t_read_own F hm sc_read_own (fun _ _ _ _ _ _ us hl => match us, hl with | [_, _], _ => rfl) (fun cdv A outer s H E hr => ?_) (rd_read_own )
  exact (dss_cons (ds_if (dw_pt (dw_or (dt_not (dt_val (s := .t) (de_callB call_isi (sem_isi (s1 := .t) (s2 := .t)) (by rfl) T.isinstance_ (by decide +kernel) (da_cons (de_v 0) (da_cons (de_ty (by rfl) T.dict_ (by decide +kernel)) da_nil))))) (dw_or1 (dt_cmp (s := .t) op_gt (sem_P (s1 := .t) (s2 := .t)) (de_callB c_len (sem_len (s1 := .t)) (by rfl) T.len_ (by decide +kernel) (da_cons (de_v 0) da_nil)) (de_gint (by rfl) G.MOST_OWN)))))
      (dss_one (ds_ret de_non))
      dss_nil)
      (dss_cons (ds_setD 2 sc_read_own.nd)
      (dss_cons (ds_forK (s := .s) PassesOwn.never rfl (path_v (s := .w) 0) (pg_name (i := 3) sc_read_own.nd rfl (by first | exact Or.inl rfl | exact Or.inr rfl)) tg1
      (dss_cons (ds_if (dt_not (dt_val (s := .t) (de_fn C_is_name (hr.mono (by decide)) (by rfl) (da_cons (de_v 3) da_nil))))
      (dss_one (ds_ret de_non))
      dss_nil)
      (dss_cons (ds_set 4 sc_read_own.nd (de_fn C_read_answer (hr.mono (by decide)) (by rfl) (da_cons (de_dget (s2 := .t) (hu_of hr) (de_v 0) (de_v 3)) (da_cons (de_v 1) da_nil))))
      (dss_cons (ds_if (dt_isN (s := .t) (de_v 4))
      (dss_one (ds_ret de_non))
      dss_nil)
      (dss_one (ds_put (s := .t) 2 (hu_of hr) (de_v 3) (de_v 4)))))))
      (dss_one (ds_rel 2 (ds_ret (de_dc (s1 := .s) (s2 := .t) [("name", 3)] rfl sc_read_own.nd (di_it (s := .s) (de_callB (c_srt rfl) (sem_srt (s1 := .t)) (by rfl) T.sorted_ (by decide +kernel) (da_cons (de_v 2) da_nil))) (blkOk_by (N := n_read_own) (sc := defScope s_read_own) (by decide +kernel)) (fun _ _ _ _ _ => (pg_name (i := 3) sc_read_own.nd rfl (Or.inl rfl))) tg1 tw1 (fun _ _ _ _ _ => dts_nil) (fun _ _ _ _ _ => (de_v 3)) (fun _ _ _ _ _ => (de_dget (s2 := .t) (hu_of hr) (de_v 2) (de_v 3))))))))))
abbrev s_read_send : Stmt := topS 21
abbrev n_read_send : List Str := ["value", "names", "links"]
theorem sc_read_send : FnScope n_read_send ["value", "names", "links"] (defScope s_read_send) := ⟨rfl, rfl, rfl, by decide +kernel, rfl, by decide +kernel, by decide +kernel⟩
theorem ok_read_send (T : Blt mg) (C_is_link : Cal P w K mg base 1 "is_link" ["value", "links"] [.w, .w] sp_is_link) (C_is_manner : Cal P w K mg base 1 "is_manner" ["value"] [.w] sp_is_manner) (C_is_word : Cal P w K mg base 2 "is_word" ["value"] [.w] sp_is_word) (F : FunD K "read_send" "read_send" (defArgs s_read_send) (defBody s_read_send) (defScope s_read_send) [] [] f fd) (hm : mg "read_send" = some (.ref f)) : Cal P w K mg base 3 "read_send" ["value", "names", "links"] [.w, .s, .w] sp_read_send := by
  refine cal_mk (st := s_read_send) (k := 2) t_read_send F hm sc_read_send (fun _ _ _ _ _ _ us hl => match us, hl with | [_, _, _], _ => rfl) (fun cdv A outer s H E hr => ?_) (rd_read_send )
  exact (dss_cons (ds_if (dw_pt (dw_or (dt_not (dt_val (s := .t) (de_fn C_is_link (hr.mono (by decide)) (by rfl) (da_cons (de_ix (s2 := .t) (de_v 0) de_int) (da_cons (de_v 2) da_nil))))) (dw_or1 (dt_not (dt_val (s := .t) (de_fn C_is_word (hr.mono (by decide)) (by rfl) (da_cons (de_ix (s2 := .t) (de_v 0) de_int) da_nil)))))))
      (dss_one (ds_ret de_non))
      dss_nil)
      (dss_cons (ds_if (dw_pt (dw_or (dt_not (dt_val (s := .t) (de_fn C_is_manner (hr.mono (by decide)) (by rfl) (da_cons (de_ix (s2 := .t) (de_v 0) de_int) da_nil)))) (dw_or1 (dt_not (dt_val (s := .t) (de_callB call_isi (sem_isi (s1 := .t) (s2 := .t)) (by rfl) T.isinstance_ (by decide +kernel) (da_cons (de_ix (s2 := .t) (de_v 0) de_int) (da_cons (de_ty (by rfl) T.bool_ (by decide +kernel)) da_nil))))))))
      (dss_one (ds_ret de_non))
      dss_nil)
      (dss_one (ds_ret (de_tup (ss := [.s, .s, .s, .s, .s, .s]) (da_cons de_str (da_cons (de_v 1) (da_cons (de_imm (de_ix (s2 := .t) (de_v 0) de_int)) (da_cons (de_imm (de_ix (s2 := .t) (de_v 0) de_int)) (da_cons (de_imm (de_ix (s2 := .t) (de_v 0) de_int)) (da_cons (de_imm (de_ix (s2 := .t) (de_v 0) de_int)) da_nil)))))))))))
abbrev s_read_rule : Stmt := topS 22
abbrev n_read_rule : List Str := ["value", "links", "names"]
theorem sc_read_rule : FnScope n_read_rule ["value", "links"] (defScope s_read_rule) := ⟨rfl, rfl, rfl, by decide +kernel, rfl, by decide +kernel, by decide +kernel⟩
theorem ok_read_rule (T : Blt mg) (C_is_link : Cal P w K mg base 1 "is_link" ["value", "links"] [.w, .w] sp_is_link) (C_is_manner : Cal P w K mg base 1 "is_manner" ["value"] [.w] sp_is_manner) (C_is_name : Cal P w K mg base 1 "is_name" ["value"] [.w] sp_is_name) (C_is_row_of : Cal P w K mg base 1 "is_row_of" ["value", "least", "most"] [.w, .w, .w] sp_is_row_of) (C_read_names : Cal P w K mg base 2 "read_names" ["value"] [.w] sp_read_names) (C_read_send : Cal P w K mg base 3 "read_send" ["value", "names", "links"] [.w, .s, .w] sp_read_send) (F : FunD K "read_rule" "read_rule" (defArgs s_read_rule) (defBody s_read_rule) (defScope s_read_rule) [] [] f fd) (hm : mg "read_rule" = some (.ref f)) : Cal P w K mg base 4 "read_rule" ["value", "links"] [.w, .w] sp_read_rule := by
  refine cal_mk (st := s_read_rule) (k := 3) t_read_rule F hm sc_read_rule (fun _ _ _ _ _ _ us hl => match us, hl with | [_, _], _ => rfl) (fun cdv A outer s H E hr => ?_) (rd_read_rule )
  exact (dss_cons (ds_if (dw_pt (dw_or (dt_not (dt_val (s := .t) (de_fn C_is_row_of (hr.mono (by decide)) (by rfl) (da_cons (de_v 0) (da_cons de_int (da_cons de_int da_nil)))))) (dw_or1 (dt_not (dt_val (s := .t) (de_callB call_isi (sem_isi (s1 := .t) (s2 := .t)) (by rfl) T.isinstance_ (by decide +kernel) (da_cons (de_ix (s2 := .t) (de_v 0) de_int) (da_cons (de_ty (by rfl) T.str_ (by decide +kernel)) da_nil))))))))
      (dss_one (ds_ret de_non))
      dss_nil)
      (dss_cons (ds_set 2 sc_read_rule.nd (de_fn C_read_names (hr.mono (by decide)) (by rfl) (da_cons (de_ix (s2 := .t) (de_v 0) de_int) da_nil)))
      (dss_cons (ds_if (dt_isN (s := .t) (de_v 2))
      (dss_one (ds_ret de_non))
      dss_nil)
      (dss_cons (ds_if (dw_pt (dw_and (dt_cmp (s := .t) op_eq (sem_Eq (s1 := .t) (s2 := .t)) (de_callB c_len (sem_len (s1 := .t)) (by rfl) T.len_ (by decide +kernel) (da_cons (de_v 0) da_nil)) de_int) (dw_and1 (dw_pt (dw_or (dt_cmp (s := .t) op_eq (sem_Eq (s1 := .t) (s2 := .t)) (de_ix (s2 := .t) (de_v 0) de_int) de_str) (dw_or1 (dt_cmp (s := .t) op_eq (sem_Eq (s1 := .t) (s2 := .t)) (de_ix (s2 := .t) (de_v 0) de_int) de_str)))))))
      (dss_one (ds_ret (de_tup (ss := [.s, .s]) (da_cons (de_imm (de_ix (s2 := .t) (de_v 0) de_int)) (da_cons (de_v 2) da_nil)))))
      dss_nil)
      (dss_cons (ds_if (dw_pt (dw_and (dt_cmp (s := .t) op_eq (sem_Eq (s1 := .t) (s2 := .t)) (de_callB c_len (sem_len (s1 := .t)) (by rfl) T.len_ (by decide +kernel) (da_cons (de_v 0) da_nil)) de_int) (dw_and (dt_cmp (s := .t) op_eq (sem_Eq (s1 := .t) (s2 := .t)) (de_ix (s2 := .t) (de_v 0) de_int) de_str) (dw_and1 (dt_val (s := .t) (de_fn C_is_name (hr.mono (by decide)) (by rfl) (da_cons (de_ix (s2 := .t) (de_v 0) de_int) da_nil)))))))
      (dss_one (ds_ret (de_tup (ss := [.s, .s, .s]) (da_cons de_str (da_cons (de_v 2) (da_cons (de_imm (de_ix (s2 := .t) (de_v 0) de_int)) da_nil))))))
      dss_nil)
      (dss_cons (ds_if (dw_pt (dw_and (dt_cmp (s := .t) op_eq (sem_Eq (s1 := .t) (s2 := .t)) (de_callB c_len (sem_len (s1 := .t)) (by rfl) T.len_ (by decide +kernel) (da_cons (de_v 0) da_nil)) de_int) (dw_and (dt_cmp (s := .t) op_eq (sem_Eq (s1 := .t) (s2 := .t)) (de_ix (s2 := .t) (de_v 0) de_int) de_str) (dw_and (dt_val (s := .t) (de_fn C_is_link (hr.mono (by decide)) (by rfl) (da_cons (de_ix (s2 := .t) (de_v 0) de_int) (da_cons (de_v 1) da_nil)))) (dw_and1 (dt_val (s := .t) (de_fn C_is_manner (hr.mono (by decide)) (by rfl) (da_cons (de_ix (s2 := .t) (de_v 0) de_int) da_nil))))))))
      (dss_one (ds_ret (de_tup (ss := [.s, .s, .s, .s]) (da_cons de_str (da_cons (de_v 2) (da_cons (de_imm (de_ix (s2 := .t) (de_v 0) de_int)) (da_cons (de_imm (de_ix (s2 := .t) (de_v 0) de_int)) da_nil)))))))
      dss_nil)
      (dss_cons (ds_if (dw_pt (dw_and (dt_cmp (s := .t) op_eq (sem_Eq (s1 := .t) (s2 := .t)) (de_callB c_len (sem_len (s1 := .t)) (by rfl) T.len_ (by decide +kernel) (da_cons (de_v 0) da_nil)) de_int) (dw_and1 (dt_cmp (s := .t) op_eq (sem_Eq (s1 := .t) (s2 := .t)) (de_ix (s2 := .t) (de_v 0) de_int) de_str))))
      (dss_one (ds_ret (de_fn C_read_send (hr.mono (by decide)) (by rfl) (da_cons (de_v 0) (da_cons (de_v 2) (da_cons (de_v 1) da_nil))))))
      dss_nil)
      (dss_one (ds_ret de_non)))))))))
abbrev s_read_rules : Stmt := topS 23
abbrev n_read_rules : List Str := ["value", "links", "rules", "part", "rule"]
theorem sc_read_rules : FnScope n_read_rules ["value", "links"] (defScope s_read_rules) := ⟨rfl, rfl, rfl, by decide +kernel, rfl, by decide +kernel, by decide +kernel⟩
theorem ok_read_rules (T : Blt mg) (G : Glb K mg) (C_is_row_of : Cal P w K mg base 1 "is_row_of" ["value", "least", "most"] [.w, .w, .w] sp_is_row_of) (C_read_rule : Cal P w K mg base 4 "read_rule" ["value", "links"] [.w, .w] sp_read_rule) (F : FunD K "read_rules" "read_rules" (defArgs s_read_rules) (defBody s_read_rules) (defScope s_read_rules) [] [] f fd) (hm : mg "read_rules" = some (.ref f)) : Cal P w K mg base 5 "read_rules" ["value", "links"] [.w, .w] sp_read_rules := by
  refine cal_mk (st := s_read_rules) (k := 4) t_read_rules F hm sc_read_rules (fun _ _ _ _ _ _ us hl => match us, hl with | [_, _], _ => rfl) (fun cdv A outer s H E hr => ?_) (rd_read_rules )
  exact (dss_cons (ds_if (dt_not (dt_val (s := .t) (de_fn C_is_row_of (hr.mono (by decide)) (by rfl) (da_cons (de_v 0) (da_cons de_int (da_cons (de_gint (by rfl) G.MOST_RULES) da_nil))))))
      (dss_one (ds_ret de_non))
      dss_nil)
      (dss_cons (ds_setL (ss := []) 2 sc_read_rules.nd da_nil)
      (dss_cons (ds_for (s := .w) PassesOwn.never rfl (di_it (s := .w) (de_v 0)) (pg_name (i := 3) sc_read_rules.nd rfl (by first | exact Or.inl rfl | exact Or.inr rfl)) tg1
      (dss_cons (ds_set 4 sc_read_rules.nd (de_fn C_read_rule (hr.mono (by decide)) (by rfl) (da_cons (de_v 3) (da_cons (de_v 1) da_nil))))
      (dss_cons (ds_if (dt_isN (s := .t) (de_v 4))
      (dss_one (ds_ret de_non))
      dss_nil)
      (dss_one (ds_app 2 (de_v 4))))))
      (dss_one (ds_rel 2 (ds_ret (de_v 2)))))))
abbrev s_L_state : Stmt := topS 26
abbrev n_L_state : List Str := ["_law_script", "_law_cells", "_law_cell"]
theorem sc_L_state : FnScope n_L_state ["_law_script"] (defScope s_L_state) := ⟨rfl, rfl, rfl, by decide +kernel, rfl, by decide +kernel, by decide +kernel⟩
theorem ok_L_state (T : Blt mg) (F : FunD K "_law_state" "_law_state" (defArgs s_L_state) (defBody s_L_state) (defScope s_L_state) [] [] f fd) (hm : mg "_law_state" = some (.ref f)) : Cal P w K mg base 1 "_law_state" ["_law_script"] [.w] sp_L_state := by
  refine cal_mk (st := s_L_state) (k := 0) t_L_state F hm sc_L_state (fun _ _ _ _ _ _ us hl => match us, hl with | [_], _ => rfl) (fun cdv A outer s H E hr => ?_) (rd_L_state )
  exact (dss_cons (ds_setLc (s1 := .w) (s := .s) 1 [("_law_cell", 2)] rfl sc_L_state.nd (sw_true rfl rfl rfl (by decide +kernel)) (di_it (s := .w) (de_sl (de_v 0) do_none (do_some (s := .t) de_int))) (blkOk_by (N := n_L_state) (sc := defScope s_L_state) (by decide +kernel)) (fun _ _ _ _ _ => (pg_name (i := 2) sc_L_state.nd rfl (Or.inl rfl))) tg1 tw1 (fun _ _ _ _ _ => dts_nil) (fun _ _ _ _ _ => (de_callB call_abs (sem_abs (s1 := .t)) (by rfl) T.abs_ (by decide +kernel) (da_cons (de_callTy call_int1 (sem_int1 (s1 := .t)) (by rfl) T.int_ (by decide +kernel) (da_cons (de_v 2) da_nil)) da_nil))))
      (dss_cons (ds_if (dt_cmp (s := .t) (op_eqD hr.units) (sem_EqD (s1 := .t) (s2 := .t)) (de_v 1) (de_lst (ss := []) da_nil))
      (dss_one (ds_set 1 sc_L_state.nd (de_lst (ss := [.s]) (da_cons de_int da_nil))))
      dss_nil)
      (dss_one (ds_ret (de_lst (ss := [.s, .s, .s]) (da_cons (de_v 1) (da_cons de_int (da_cons de_int da_nil))))))))
abbrev s_L_pick : Stmt := topS 28
abbrev n_L_pick : List Str := ["_law_state_here", "_law_row"]
theorem sc_L_pick : FnScope n_L_pick ["_law_state_here", "_law_row"] (defScope s_L_pick) := ⟨rfl, rfl, rfl, by decide +kernel, rfl, by decide +kernel, by decide +kernel⟩
theorem ok_L_pick (T : Blt mg) (C__law_draw : Cal P w K mg base 1 "_law_draw" ["_law_state_here", "_law_many"] [.s, .s] sp_L_draw) (F : FunD K "_law_pick" "_law_pick" (defArgs s_L_pick) (defBody s_L_pick) (defScope s_L_pick) [] [] f fd) (hm : mg "_law_pick" = some (.ref f)) : Cal P w K mg base 2 "_law_pick" ["_law_state_here", "_law_row"] [.s, .s] sp_L_pick := by
  refine cal_mk (st := s_L_pick) (k := 1) t_L_pick F hm sc_L_pick (fun _ _ _ _ _ _ us hl => match us, hl with | [_, _], _ => rfl) (fun cdv A outer s H E hr => ?_) (rd_L_pick )
  exact (dss_one (ds_ret (de_ix (s2 := .t) (de_v 1) (de_fn C__law_draw (hr.mono (by decide)) (by rfl) (da_cons (de_v 0) (da_cons (de_callB c_len (sem_len (s1 := .t)) (by rfl) T.len_ (by decide +kernel) (da_cons (de_v 1) da_nil)) da_nil))))))
abbrev s_L_word : Stmt := topS 29
abbrev n_L_word : List Str := ["_law_state_here", "_law_taken", "_law_letters", "_law_size", "_law_word_here", "_law_k", "_law_other"]
theorem sc_L_word : FnScope n_L_word ["_law_state_here", "_law_taken"] (defScope s_L_word) := ⟨rfl, rfl, rfl, by decide +kernel, rfl, by decide +kernel, by decide +kernel⟩
theorem ok_L_word (T : Blt mg) (C__law_draw : Cal P w K mg base 1 "_law_draw" ["_law_state_here", "_law_many"] [.s, .s] sp_L_draw) (F : FunD K "_law_word" "_law_word" (defArgs s_L_word) (defBody s_L_word) (defScope s_L_word) [] [] f fd) (hm : mg "_law_word" = some (.ref f)) : Cal P w K mg base 2 "_law_word" ["_law_state_here", "_law_taken"] [.s, .w] sp_L_word := by
  refine cal_mk (st := s_L_word) (k := 1) t_L_word F hm sc_L_word (fun _ _ _ _ _ _ us hl => match us, hl with | [_, _], _ => rfl) (fun cdv A outer s H E hr => ?_) (rd_L_word )
  exact (dss_cons (ds_set 2 sc_L_word.nd de_str)
      (dss_cons (ds_set 3 sc_L_word.nd (de_ix (s2 := .t) (de_lst (ss := [.s, .s, .s, .s, .s, .s, .s, .s, .s]) (da_cons de_int (da_cons de_int (da_cons de_int (da_cons de_int (da_cons de_int (da_cons de_int (da_cons de_int (da_cons de_int (da_cons de_int da_nil)))))))))) (de_fn C__law_draw (hr.mono (by decide)) (by rfl) (da_cons (de_v 0) (da_cons de_int da_nil)))))
      (dss_cons (ds_set 4 sc_L_word.nd (de_join (s1 := .t) (s2 := .s) de_str (de_lc (s1 := .s) [("_law_k", 5)] rfl sc_L_word.nd (di_range1 (s1 := .t) (by rfl) T.range_ (da_cons (de_v 3) da_nil)) (blkOk_by (N := n_L_word) (sc := defScope s_L_word) (by decide +kernel)) (fun _ _ _ _ _ => (pg_name (i := 5) sc_L_word.nd rfl (Or.inl rfl))) tg1 tw1 (fun _ _ _ _ _ => dts_nil) (fun _ _ _ _ _ => (de_ix (s2 := .t) (de_v 2) (de_fn C__law_draw (hr.mono (by decide)) (by rfl) (da_cons (de_v 0) (da_cons de_int da_nil))))))))
      (dss_cons (ds_if (dt_cmp (s := .t) op_in_seq (sem_In (s1 := .t) (s2 := .t)) (de_v 4) (de_v 1))
      (dss_one (ds_ret (de_ix (s2 := .t) (de_lc (s1 := .s) [("_law_other", 6)] rfl sc_L_word.nd (di_str (s1 := .t) de_str) (blkOk_by (N := n_L_word) (sc := defScope s_L_word) (by decide +kernel)) (fun _ _ _ _ _ => (pg_name (i := 6) sc_L_word.nd rfl (Or.inl rfl))) tg1 tw1 (fun _ _ _ _ _ => (dts_one (dt_cmp (s := .t) op_notIn_seq (sem_In (s1 := .t) (s2 := .t)) (de_v 6) (de_v 1)))) (fun _ _ _ _ _ => (de_v 6))) de_int)))
      dss_nil)
      (dss_one (ds_ret (de_v 4)))))))
abbrev s_L_words : Stmt := topS 30
abbrev n_L_words : List Str := ["_law_state_here", "_law_many", "_law_words_here", "_law_k"]
theorem sc_L_words : FnScope n_L_words ["_law_state_here", "_law_many"] (defScope s_L_words) := ⟨rfl, rfl, rfl, by decide +kernel, rfl, by decide +kernel, by decide +kernel⟩
theorem ok_L_words (T : Blt mg) (C__law_word : Cal P w K mg base 2 "_law_word" ["_law_state_here", "_law_taken"] [.s, .w] sp_L_word) (F : FunD K "_law_words" "_law_words" (defArgs s_L_words) (defBody s_L_words) (defScope s_L_words) [] [] f fd) (hm : mg "_law_words" = some (.ref f)) : Cal P w K mg base 3 "_law_words" ["_law_state_here", "_law_many"] [.s, .s] sp_L_words := by
  refine cal_mk (st := s_L_words) (k := 2) t_L_words F hm sc_L_words (fun _ _ _ _ _ _ us hl => match us, hl with | [_, _], _ => rfl) (fun cdv A outer s H E hr => ?_) (rd_L_words )
  exact (dss_cons (ds_setL (ss := []) 2 sc_L_words.nd da_nil)
      (dss_cons (ds_for (s := .s) PassesOwn.never rfl (di_range1 (s1 := .t) (by rfl) T.range_ (da_cons (de_v 1) da_nil)) (pg_name (i := 3) sc_L_words.nd rfl (by first | exact Or.inl rfl | exact Or.inr rfl)) tg1
      (dss_one (ds_app 2 (de_fn C__law_word (hr.mono (by decide)) (by rfl) (da_cons (de_v 0) (da_cons (de_v 2) da_nil))))))
      (dss_one (ds_rel 2 (ds_ret (de_v 2))))))
abbrev s_L_some : Stmt := topS 31
abbrev n_L_some : List Str := ["_law_state_here", "_law_row", "_law_part"]
theorem sc_L_some : FnScope n_L_some ["_law_state_here", "_law_row"] (defScope s_L_some) := ⟨rfl, rfl, rfl, by decide +kernel, rfl, by decide +kernel, by decide +kernel⟩
theorem ok_L_some (T : Blt mg) (C__law_draw : Cal P w K mg base 1 "_law_draw" ["_law_state_here", "_law_many"] [.s, .s] sp_L_draw) (F : FunD K "_law_some" "_law_some" (defArgs s_L_some) (defBody s_L_some) (defScope s_L_some) [] [] f fd) (hm : mg "_law_some" = some (.ref f)) : Cal P w K mg base 2 "_law_some" ["_law_state_here", "_law_row"] [.s, .s] sp_L_some := by
  refine cal_mk (st := s_L_some) (k := 1) t_L_some F hm sc_L_some (fun _ _ _ _ _ _ us hl => match us, hl with | [_, _], _ => rfl) (fun cdv A outer s H E hr => ?_) (rd_L_some )
  exact (dss_one (ds_ret (de_lc (s1 := .s) [("_law_part", 2)] rfl sc_L_some.nd (di_it (s := .s) (de_v 1)) (blkOk_by (N := n_L_some) (sc := defScope s_L_some) (by decide +kernel)) (fun _ _ _ _ _ => (pg_name (i := 2) sc_L_some.nd rfl (Or.inl rfl))) tg1 tw1 (fun _ _ _ _ _ => (dts_one (dt_cmp (s := .t) op_eq (sem_Eq (s1 := .t) (s2 := .t)) (de_fn C__law_draw (hr.mono (by decide)) (by rfl) (da_cons (de_v 0) (da_cons de_int da_nil))) de_int))) (fun _ _ _ _ _ => (de_v 2)))))
abbrev s_L_shuffled : Stmt := topS 32
abbrev n_L_shuffled : List Str := ["_law_state_here", "_law_row", "_law_rest", "_law_mixed", "_law_k"]
theorem sc_L_shuffled : FnScope n_L_shuffled ["_law_state_here", "_law_row"] (defScope s_L_shuffled) := ⟨rfl, rfl, rfl, by decide +kernel, rfl, by decide +kernel, by decide +kernel⟩
theorem ok_L_shuffled (T : Blt mg) (C__law_draw : Cal P w K mg base 1 "_law_draw" ["_law_state_here", "_law_many"] [.s, .s] sp_L_draw) (F : FunD K "_law_shuffled" "_law_shuffled" (defArgs s_L_shuffled) (defBody s_L_shuffled) (defScope s_L_shuffled) [] [] f fd) (hm : mg "_law_shuffled" = some (.ref f)) : Cal P w K mg base 2 "_law_shuffled" ["_law_state_here", "_law_row"] [.s, .s] sp_L_shuffled := by
  refine cal_mk (st := s_L_shuffled) (k := 1) t_L_shuffled F hm sc_L_shuffled (fun _ _ _ _ _ _ us hl => match us, hl with | [_, _], _ => rfl) (fun cdv A outer s H E hr => ?_) (rd_L_shuffled )
  exact (dss_cons (ds_setLi 2 sc_L_shuffled.nd rfl (by rfl) T.list_ (de_v 1))
      (dss_cons (ds_setL (ss := []) 3 sc_L_shuffled.nd da_nil)
      (dss_cons (ds_for (s := .s) PassesOwn.never rfl (di_range1 (s1 := .t) (by rfl) T.range_ (da_cons (de_callB c_len (sem_len (s1 := .t)) (by rfl) T.len_ (by decide +kernel) (da_cons (de_v 1) da_nil)) da_nil)) (pg_name (i := 4) sc_L_shuffled.nd rfl (by first | exact Or.inl rfl | exact Or.inr rfl)) tg1
      (dss_one (ds_apop (s := .t) 3 2 (de_fn C__law_draw (hr.mono (by decide)) (by rfl) (da_cons (de_v 0) (da_cons (de_callB c_len (sem_len (s1 := .t)) (by rfl) T.len_ (by decide +kernel) (da_cons (de_v 2) da_nil)) da_nil))))))
      (dss_one (ds_rel 3 (ds_ret (de_v 3)))))))
abbrev s_L_choices : Stmt := topS 33
abbrev n_L_choices : List Str := ["_law_state_here", "_law_kinds", "_law_chosen"]
theorem sc_L_choices : FnScope n_L_choices ["_law_state_here", "_law_kinds"] (defScope s_L_choices) := ⟨rfl, rfl, rfl, by decide +kernel, rfl, by decide +kernel, by decide +kernel⟩
theorem ok_L_choices (T : Blt mg) (C__law_pick : Cal P w K mg base 2 "_law_pick" ["_law_state_here", "_law_row"] [.s, .s] sp_L_pick) (C__law_some : Cal P w K mg base 2 "_law_some" ["_law_state_here", "_law_row"] [.s, .s] sp_L_some) (F : FunD K "_law_choices" "_law_choices" (defArgs s_L_choices) (defBody s_L_choices) (defScope s_L_choices) [] [] f fd) (hm : mg "_law_choices" = some (.ref f)) : Cal P w K mg base 3 "_law_choices" ["_law_state_here", "_law_kinds"] [.s, .s] sp_L_choices := by
  refine cal_mk (st := s_L_choices) (k := 2) t_L_choices F hm sc_L_choices (fun _ _ _ _ _ _ us hl => match us, hl with | [_, _], _ => rfl) (fun cdv A outer s H E hr => ?_) (rd_L_choices )
  exact (dss_cons (ds_set 2 sc_L_choices.nd (de_fn C__law_some (hr.mono (by decide)) (by rfl) (da_cons (de_v 0) (da_cons (de_bin op_catR sem_Cat (de_v 1) (de_lst (ss := [.s]) (da_cons de_str da_nil))) da_nil))))
      (dss_cons (ds_if (dt_cmp (s := .t) (op_eqD hr.units) (sem_EqD (s1 := .t) (s2 := .t)) (de_v 2) (de_lst (ss := []) da_nil))
      (dss_one (ds_set 2 sc_L_choices.nd (de_lst (ss := [.s]) (da_cons (de_fn C__law_pick (hr.mono (by decide)) (by rfl) (da_cons (de_v 0) (da_cons (de_v 1) da_nil))) da_nil))))
      dss_nil)
      (dss_one (ds_ret (de_callTy call_tuple_of sem_tup (by rfl) T.tuple_ (by decide +kernel) (da_cons (de_callB (c_srt rfl) (sem_srt (s1 := .t)) (by rfl) T.sorted_ (by decide +kernel) (da_cons (de_sl (de_v 2) do_none (do_some (s := .t) de_int)) da_nil)) da_nil))))))
abbrev s_L_value : Stmt := topS 34
abbrev n_L_value : List Str := ["_law_state_here"]
theorem sc_L_value : FnScope n_L_value ["_law_state_here"] (defScope s_L_value) := ⟨rfl, rfl, rfl, by decide +kernel, rfl, by decide +kernel, by decide +kernel⟩
theorem ok_L_value (T : Blt mg) (C__law_draw : Cal P w K mg base 1 "_law_draw" ["_law_state_here", "_law_many"] [.s, .s] sp_L_draw) (C__law_pick : Cal P w K mg base 2 "_law_pick" ["_law_state_here", "_law_row"] [.s, .s] sp_L_pick) (C__law_word : Cal P w K mg base 2 "_law_word" ["_law_state_here", "_law_taken"] [.s, .w] sp_L_word) (F : FunD K "_law_value" "_law_value" (defArgs s_L_value) (defBody s_L_value) (defScope s_L_value) [] [] f fd) (hm : mg "_law_value" = some (.ref f)) : Cal P w K mg base 3 "_law_value" ["_law_state_here"] [.s] sp_L_value := by
  refine cal_mk (st := s_L_value) (k := 2) t_L_value F hm sc_L_value (fun _ _ _ _ _ _ us hl => match us, hl with | [_], _ => rfl) (fun cdv A outer s H E hr => ?_) (rd_L_value )
  exact (dss_cons (ds_if (dt_cmp (s := .t) op_eq (sem_Eq (s1 := .t) (s2 := .t)) (de_fn C__law_draw (hr.mono (by decide)) (by rfl) (da_cons (de_v 0) (da_cons de_int da_nil))) de_int)
      (dss_one (ds_ret (de_fn C__law_word (hr.mono (by decide)) (by rfl) (da_cons (de_v 0) (da_cons (de_lst (ss := []) da_nil) da_nil)))))
      dss_nil)
      (dss_one (ds_ret (de_fn C__law_pick (hr.mono (by decide)) (by rfl) (da_cons (de_v 0) (da_cons (de_lst (ss := [.s, .s]) (da_cons de_str (da_cons de_str da_nil))) da_nil))))))
abbrev s_L_rule : Stmt := topS 35
abbrev n_L_rule : List Str := ["_law_state_here", "_law_names", "_law_links", "_law_chosen", "_law_sort", "_law_link", "_law_manner", "_law_under"]
theorem sc_L_rule : FnScope n_L_rule ["_law_state_here", "_law_names", "_law_links"] (defScope s_L_rule) := ⟨rfl, rfl, rfl, by decide +kernel, rfl, by decide +kernel, by decide +kernel⟩
theorem ok_L_rule (T : Blt mg) (C__law_draw : Cal P w K mg base 1 "_law_draw" ["_law_state_here", "_law_many"] [.s, .s] sp_L_draw) (C__law_pick : Cal P w K mg base 2 "_law_pick" ["_law_state_here", "_law_row"] [.s, .s] sp_L_pick) (C__law_some : Cal P w K mg base 2 "_law_some" ["_law_state_here", "_law_row"] [.s, .s] sp_L_some) (C__law_value : Cal P w K mg base 3 "_law_value" ["_law_state_here"] [.s] sp_L_value) (F : FunD K "_law_rule" "_law_rule" (defArgs s_L_rule) (defBody s_L_rule) (defScope s_L_rule) [] [] f fd) (hm : mg "_law_rule" = some (.ref f)) : Cal P w K mg base 4 "_law_rule" ["_law_state_here", "_law_names", "_law_links"] [.s, .s, .s] sp_L_rule := by
  refine cal_mk (st := s_L_rule) (k := 3) t_L_rule F hm sc_L_rule (fun _ _ _ _ _ _ us hl => match us, hl with | [_, _, _], _ => rfl) (fun cdv A outer s H E hr => ?_) (rd_L_rule )
  exact (dss_cons (ds_set 3 sc_L_rule.nd (de_tup (ss := []) da_nil))
      (dss_cons (ds_if (dt_cmp (s := .t) op_gt (sem_P (s1 := .t) (s2 := .t)) (de_fn C__law_draw (hr.mono (by decide)) (by rfl) (da_cons (de_v 0) (da_cons de_int da_nil))) de_int)
      (dss_one (ds_set 3 sc_L_rule.nd (de_callTy call_tuple_of sem_tup (by rfl) T.tuple_ (by decide +kernel) (da_cons (de_callB (c_srt rfl) (sem_srt (s1 := .t)) (by rfl) T.sorted_ (by decide +kernel) (da_cons (de_sl (de_fn C__law_some (hr.mono (by decide)) (by rfl) (da_cons (de_v 0) (da_cons (de_v 1) da_nil))) do_none (do_some (s := .t) de_int)) da_nil)) da_nil))))
      dss_nil)
      (dss_cons (ds_set 4 sc_L_rule.nd (de_fn C__law_draw (hr.mono (by decide)) (by rfl) (da_cons (de_v 0) (da_cons de_int da_nil))))
      (dss_cons (ds_if (dt_cmp (s := .t) op_eq (sem_Eq (s1 := .t) (s2 := .t)) (de_v 4) de_int)
      (dss_one (ds_ret (de_tup (ss := [.s, .s]) (da_cons de_str (da_cons (de_v 3) da_nil)))))
      dss_nil)
      (dss_cons (ds_if (dw_pt (dw_or (dt_cmp (s := .t) op_eq (sem_Eq (s1 := .t) (s2 := .t)) (de_v 4) de_int) (dw_or1 (dw_pt (dw_and (dt_cmp (s := .t) (op_eqD hr.units) (sem_EqD (s1 := .t) (s2 := .t)) (de_v 2) (de_lst (ss := []) da_nil)) (dw_and1 (dt_cmp (s := .t) op_gt (sem_P (s1 := .t) (s2 := .t)) (de_v 4) de_int)))))))
      (dss_one (ds_ret (de_tup (ss := [.s, .s, .s]) (da_cons de_str (da_cons (de_v 3) (da_cons (de_fn C__law_value (hr.mono (by decide)) (by rfl) (da_cons (de_v 0) da_nil)) da_nil))))))
      dss_nil)
      (dss_cons (ds_if (dt_cmp (s := .t) op_eq (sem_Eq (s1 := .t) (s2 := .t)) (de_v 4) de_int)
      (dss_one (ds_ret (de_tup (ss := [.s, .s]) (da_cons de_str (da_cons (de_v 3) da_nil)))))
      dss_nil)
      (dss_cons (ds_set 5 sc_L_rule.nd (de_fn C__law_pick (hr.mono (by decide)) (by rfl) (da_cons (de_v 0) (da_cons (de_v 2) da_nil))))
      (dss_cons (ds_set 6 sc_L_rule.nd (de_fn C__law_pick (hr.mono (by decide)) (by rfl) (da_cons (de_v 0) (da_cons (de_lst (ss := [.s, .s]) (da_cons de_str (da_cons de_str da_nil))) da_nil))))
      (dss_cons (ds_if (dt_cmp (s := .t) op_eq (sem_Eq (s1 := .t) (s2 := .t)) (de_v 4) de_int)
      (dss_one (ds_ret (de_tup (ss := [.s, .s, .s, .s]) (da_cons de_str (da_cons (de_v 3) (da_cons (de_v 5) (da_cons (de_v 6) da_nil)))))))
      dss_nil)
      (dss_cons (ds_set 7 sc_L_rule.nd (de_fn C__law_pick (hr.mono (by decide)) (by rfl) (da_cons (de_v 0) (da_cons (de_bin op_catR sem_Cat (de_lst (ss := [.s]) (da_cons de_str da_nil)) (de_v 1)) da_nil))))
      (dss_one (ds_ret (de_tup (ss := [.s, .s, .s, .s, .s, .s]) (da_cons de_str (da_cons (de_v 3) (da_cons (de_v 5) (da_cons (de_v 7) (da_cons (de_v 6) (da_cons (de_cmp op_eq (sem_Eq (s1 := .t) (s2 := .t)) (de_fn C__law_draw (hr.mono (by decide)) (by rfl) (da_cons (de_v 0) (da_cons de_int da_nil))) de_int) da_nil)))))))))))))))))))
abbrev s_L_own : Stmt := topS 36
abbrev n_L_own : List Str := ["_law_state_here", "_law_names", "_law_links", "_law_own_here", "_law_name", "_law_sort"]
theorem sc_L_own : FnScope n_L_own ["_law_state_here", "_law_names", "_law_links"] (defScope s_L_own) := ⟨rfl, rfl, rfl, by decide +kernel, rfl, by decide +kernel, by decide +kernel⟩
theorem ok_L_own (T : Blt mg) (C__law_draw : Cal P w K mg base 1 "_law_draw" ["_law_state_here", "_law_many"] [.s, .s] sp_L_draw) (C__law_pick : Cal P w K mg base 2 "_law_pick" ["_law_state_here", "_law_row"] [.s, .s] sp_L_pick) (C__law_value : Cal P w K mg base 3 "_law_value" ["_law_state_here"] [.s] sp_L_value) (F : FunD K "_law_own" "_law_own" (defArgs s_L_own) (defBody s_L_own) (defScope s_L_own) [] [] f fd) (hm : mg "_law_own" = some (.ref f)) : Cal P w K mg base 4 "_law_own" ["_law_state_here", "_law_names", "_law_links"] [.s, .s, .s] sp_L_own := by
  refine cal_mk (st := s_L_own) (k := 3) t_L_own F hm sc_L_own (fun _ _ _ _ _ _ us hl => match us, hl with | [_, _, _], _ => rfl) (fun cdv A outer s H E hr => ?_) (rd_L_own )
  exact (dss_cons (ds_setD 3 sc_L_own.nd)
      (dss_cons (ds_for (s := .s) PassesOwn.never rfl (di_it (s := .s) (de_sl (de_v 1) do_none (do_some (s := .t) de_int))) (pg_name (i := 4) sc_L_own.nd rfl (by first | exact Or.inl rfl | exact Or.inr rfl)) tg1
      (dss_cons (ds_set 5 sc_L_own.nd (de_fn C__law_draw (hr.mono (by decide)) (by rfl) (da_cons (de_v 0) (da_cons de_int da_nil))))
      (dss_cons (ds_if (dt_cmp (s := .t) op_eq (sem_Eq (s1 := .t) (s2 := .t)) (de_v 5) de_int)
      (dss_one (ds_put (s := .t) 3 (hu_of hr) (de_v 4) (de_tup (ss := [.s, .s]) (da_cons de_str (da_cons (de_fn C__law_value (hr.mono (by decide)) (by rfl) (da_cons (de_v 0) da_nil)) da_nil)))))
      dss_nil)
      (dss_cons (ds_if (dt_cmp (s := .t) op_eq (sem_Eq (s1 := .t) (s2 := .t)) (de_v 5) de_int)
      (dss_one (ds_put (s := .t) 3 (hu_of hr) (de_v 4) (de_tup (ss := [.s]) (da_cons de_str da_nil))))
      dss_nil)
      (dss_one (ds_if (dw_pt (dw_and (dt_cmp (s := .t) op_eq (sem_Eq (s1 := .t) (s2 := .t)) (de_v 5) de_int) (dw_and1 (dt_cmp (s := .t) (op_neD hr.units) (sem_NeD (s1 := .t) (s2 := .t)) (de_v 2) (de_lst (ss := []) da_nil)))))
      (dss_one (ds_put (s := .t) 3 (hu_of hr) (de_v 4) (de_tup (ss := [.s, .s]) (da_cons de_str (da_cons (de_fn C__law_pick (hr.mono (by decide)) (by rfl) (da_cons (de_v 0) (da_cons (de_v 2) da_nil))) da_nil)))))
      dss_nil))))))
      (dss_one (ds_rel 3 (ds_ret (de_v 3))))))
abbrev s_L_doors : Stmt := topS 37
abbrev n_L_doors : List Str := ["_law_state_here", "_law_most"]
theorem sc_L_doors : FnScope n_L_doors ["_law_state_here", "_law_most"] (defScope s_L_doors) := ⟨rfl, rfl, rfl, by decide +kernel, rfl, by decide +kernel, by decide +kernel⟩
theorem ok_L_doors (T : Blt mg) (C__law_draw : Cal P w K mg base 1 "_law_draw" ["_law_state_here", "_law_many"] [.s, .s] sp_L_draw) (C__law_words : Cal P w K mg base 3 "_law_words" ["_law_state_here", "_law_many"] [.s, .s] sp_L_words) (F : FunD K "_law_doors" "_law_doors" (defArgs s_L_doors) (defBody s_L_doors) (defScope s_L_doors) [] [] f fd) (hm : mg "_law_doors" = some (.ref f)) : Cal P w K mg base 4 "_law_doors" ["_law_state_here", "_law_most"] [.s, .s] sp_L_doors := by
  refine cal_mk (st := s_L_doors) (k := 3) t_L_doors F hm sc_L_doors (fun _ _ _ _ _ _ us hl => match us, hl with | [_, _], _ => rfl) (fun cdv A outer s H E hr => ?_) (rd_L_doors )
  exact (dss_cons (ds_if (dw_pt (dw_or (dt_cmp (s := .t) op_eq (sem_Eq (s1 := .t) (s2 := .t)) (de_v 1) de_int) (dw_or1 (dt_cmp (s := .t) op_eq (sem_Eq (s1 := .t) (s2 := .t)) (de_fn C__law_draw (hr.mono (by decide)) (by rfl) (da_cons (de_v 0) (da_cons de_int da_nil))) de_int))))
      (dss_one (ds_ret (de_lst (ss := []) da_nil)))
      dss_nil)
      (dss_one (ds_ret (de_fn C__law_words (hr.mono (by decide)) (by rfl) (da_cons (de_v 0) (da_cons (de_callB (call_min2 rfl) (sem_min (s1 := .t) (s2 := .t)) (by rfl) T.min_ (by decide +kernel) (da_cons (de_v 1) (da_cons (de_bin op_add (sem_I0 (s1 := .t) (s2 := .t)) de_int (de_fn C__law_draw (hr.mono (by decide)) (by rfl) (da_cons (de_v 0) (da_cons (de_bin op_add (sem_I0 (s1 := .t) (s2 := .t)) (de_v 1) de_int) da_nil)))) da_nil))) da_nil))))))
abbrev s_L_house : Stmt := topS 38
abbrev n_L_house : List Str := ["_law_state_here", "_law_kinds", "_law_links", "_law_names", "_law_rules", "_law_words_here", "_law_asked", "_law_house_here", "_law_word_here", "_law_doors_here", "_law_leads", "_law_door", "_law_listed", "_law_k"]
theorem sc_L_house : FnScope n_L_house ["_law_state_here", "_law_kinds", "_law_links", "_law_names", "_law_rules"] (defScope s_L_house) := ⟨rfl, rfl, rfl, by decide +kernel, rfl, by decide +kernel, by decide +kernel⟩
theorem ok_L_house (T : Blt mg) (C__law_choices : Cal P w K mg base 3 "_law_choices" ["_law_state_here", "_law_kinds"] [.s, .s] sp_L_choices) (C__law_doors : Cal P w K mg base 4 "_law_doors" ["_law_state_here", "_law_most"] [.s, .s] sp_L_doors) (C__law_draw : Cal P w K mg base 1 "_law_draw" ["_law_state_here", "_law_many"] [.s, .s] sp_L_draw) (C__law_own : Cal P w K mg base 4 "_law_own" ["_law_state_here", "_law_names", "_law_links"] [.s, .s, .s] sp_L_own) (C__law_rule : Cal P w K mg base 4 "_law_rule" ["_law_state_here", "_law_names", "_law_links"] [.s, .s, .s] sp_L_rule) (C__law_words : Cal P w K mg base 3 "_law_words" ["_law_state_here", "_law_many"] [.s, .s] sp_L_words) (F : FunD K "_law_house" "_law_house" (defArgs s_L_house) (defBody s_L_house) (defScope s_L_house) [] [] f fd) (hm : mg "_law_house" = some (.ref f)) : Cal P w K mg base 5 "_law_house" ["_law_state_here", "_law_kinds", "_law_links", "_law_names", "_law_rules"] [.s, .s, .s, .s, .s] sp_L_house := by
  refine cal_mk (st := s_L_house) (k := 4) t_L_house F hm sc_L_house (fun _ _ _ _ _ _ us hl => match us, hl with | [_, _, _, _, _], _ => rfl) (fun cdv A outer s H E hr => ?_) (rd_L_house )
  exact (dss_cons (ds_set 5 sc_L_house.nd (de_fn C__law_words (hr.mono (by decide)) (by rfl) (da_cons (de_v 0) (da_cons (de_bin op_add (sem_I0 (s1 := .t) (s2 := .t)) de_int (de_fn C__law_draw (hr.mono (by decide)) (by rfl) (da_cons (de_v 0) (da_cons (de_v 1) da_nil)))) da_nil))))
      (dss_cons (ds_set 6 sc_L_house.nd (de_fn C__law_words (hr.mono (by decide)) (by rfl) (da_cons (de_v 0) (da_cons (de_bin op_add (sem_I0 (s1 := .t) (s2 := .t)) de_int (de_fn C__law_draw (hr.mono (by decide)) (by rfl) (da_cons (de_v 0) (da_cons (de_v 3) da_nil)))) da_nil))))
      (dss_cons (ds_setL (ss := []) 7 sc_L_house.nd da_nil)
      (dss_cons (ds_for (s := .s) PassesOwn.never rfl (di_it (s := .s) (de_v 5)) (pg_name (i := 8) sc_L_house.nd rfl (by first | exact Or.inl rfl | exact Or.inr rfl)) tg1
      (dss_cons (ds_set 9 sc_L_house.nd (de_fn C__law_doors (hr.mono (by decide)) (by rfl) (da_cons (de_v 0) (da_cons (de_v 2) da_nil))))
      (dss_cons (ds_setD 10 sc_L_house.nd)
      (dss_cons (ds_for (s := .s) PassesOwn.never rfl (di_it (s := .s) (de_v 9)) (pg_name (i := 11) sc_L_house.nd rfl (by first | exact Or.inl rfl | exact Or.inr rfl)) tg1
      (dss_one (ds_put (s := .t) 10 (hu_of hr) (de_v 11) (de_fn C__law_choices (hr.mono (by decide)) (by rfl) (da_cons (de_v 0) (da_cons (de_v 5) da_nil))))))
      (dss_cons (ds_setLc (s1 := .s) (s := .s) 12 [("_law_k", 13)] rfl sc_L_house.nd (sw_true rfl rfl rfl (by decide +kernel)) (di_range1 (s1 := .t) (by rfl) T.range_ (da_cons (de_fn C__law_draw (hr.mono (by decide)) (by rfl) (da_cons (de_v 0) (da_cons (de_bin op_add (sem_I0 (s1 := .t) (s2 := .t)) (de_v 4) de_int) da_nil))) da_nil)) (blkOk_by (N := n_L_house) (sc := defScope s_L_house) (by decide +kernel)) (fun _ _ _ _ _ => (pg_name (i := 13) sc_L_house.nd rfl (Or.inl rfl))) tg1 tw1 (fun _ _ _ _ _ => dts_nil) (fun _ _ _ _ _ => (de_fn C__law_rule (hr.mono (by decide)) (by rfl) (da_cons (de_v 0) (da_cons (de_v 6) (da_cons (de_v 9) da_nil))))))
      (dss_one (ds_rel 10 (ds_app 7 (de_lst (ss := [.s, .s, .s, .s, .s]) (da_cons (de_v 8) (da_cons (de_v 10) (da_cons (de_fn C__law_own (hr.mono (by decide)) (by rfl) (da_cons (de_v 0) (da_cons (de_v 6) (da_cons (de_v 9) da_nil)))) (da_cons (de_v 12) (da_cons (de_cmp op_eq (sem_Eq (s1 := .t) (s2 := .t)) (de_fn C__law_draw (hr.mono (by decide)) (by rfl) (da_cons (de_v 0) (da_cons de_int da_nil))) de_int) da_nil))))))))))))))
      (dss_one (ds_rel 7 (ds_ret (de_v 7))))))))
abbrev s_L_loose : Stmt := topS 41
abbrev n_L_loose : List Str := ["_law_state_here", "_law_row"]
theorem sc_L_loose : FnScope n_L_loose ["_law_state_here", "_law_row"] (defScope s_L_loose) := ⟨rfl, rfl, rfl, by decide +kernel, rfl, by decide +kernel, by decide +kernel⟩
theorem ok_L_loose (T : Blt mg) (C__law_draw : Cal P w K mg base 1 "_law_draw" ["_law_state_here", "_law_many"] [.s, .s] sp_L_draw) (F : FunD K "_law_loose" "_law_loose" (defArgs s_L_loose) (defBody s_L_loose) (defScope s_L_loose) [] [] f fd) (hm : mg "_law_loose" = some (.ref f)) : Cal P w K mg base 2 "_law_loose" ["_law_state_here", "_law_row"] [.s, .s] sp_L_loose := by
  refine cal_mk (st := s_L_loose) (k := 1) t_L_loose F hm sc_L_loose (fun _ _ _ _ _ _ us hl => match us, hl with | [_, _], _ => rfl) (fun cdv A outer s H E hr => ?_) (rd_L_loose )
  exact (dss_cons (ds_if (dt_cmp (s := .t) op_eq (sem_Eq (s1 := .t) (s2 := .t)) (de_fn C__law_draw (hr.mono (by decide)) (by rfl) (da_cons (de_v 0) (da_cons de_int da_nil))) de_int)
      (dss_one (ds_ret (de_callTy (c_lst rfl) sem_lst (by rfl) T.list_ (by decide +kernel) (da_cons (de_v 1) da_nil))))
      dss_nil)
      (dss_one (ds_ret (de_callTy call_tuple_of sem_tup (by rfl) T.tuple_ (by decide +kernel) (da_cons (de_v 1) da_nil)))))
abbrev s_L_loose_rule : Stmt := topS 42
abbrev n_L_loose_rule : List Str := ["_law_state_here", "_law_rule_here"]
theorem sc_L_loose_rule : FnScope n_L_loose_rule ["_law_state_here", "_law_rule_here"] (defScope s_L_loose_rule) := ⟨rfl, rfl, rfl, by decide +kernel, rfl, by decide +kernel, by decide +kernel⟩
theorem ok_L_loose_rule (T : Blt mg) (C__law_loose : Cal P w K mg base 2 "_law_loose" ["_law_state_here", "_law_row"] [.s, .s] sp_L_loose) (C__law_shuffled : Cal P w K mg base 2 "_law_shuffled" ["_law_state_here", "_law_row"] [.s, .s] sp_L_shuffled) (F : FunD K "_law_loose_rule" "_law_loose_rule" (defArgs s_L_loose_rule) (defBody s_L_loose_rule) (defScope s_L_loose_rule) [] [] f fd) (hm : mg "_law_loose_rule" = some (.ref f)) : Cal P w K mg base 3 "_law_loose_rule" ["_law_state_here", "_law_rule_here"] [.s, .s] sp_L_loose_rule := by
  refine cal_mk (st := s_L_loose_rule) (k := 2) t_L_loose_rule F hm sc_L_loose_rule (fun _ _ _ _ _ _ us hl => match us, hl with | [_, _], _ => rfl) (fun cdv A outer s H E hr => ?_) (rd_L_loose_rule )
  exact (dss_one (ds_ret (de_fn C__law_loose (hr.mono (by decide)) (by rfl) (da_cons (de_v 0) (da_cons (de_bin op_catR sem_Cat (de_lst (ss := [.s, .s]) (da_cons (de_ix (s2 := .t) (de_v 1) de_int) (da_cons (de_fn C__law_loose (hr.mono (by decide)) (by rfl) (da_cons (de_v 0) (da_cons (de_fn C__law_shuffled (hr.mono (by decide)) (by rfl) (da_cons (de_v 0) (da_cons (de_callTy (c_lst rfl) sem_lst (by rfl) T.list_ (by decide +kernel) (da_cons (de_ix (s2 := .t) (de_v 1) de_int) da_nil)) da_nil))) da_nil))) da_nil))) (de_callTy (c_lst rfl) sem_lst (by rfl) T.list_ (by decide +kernel) (da_cons (de_sl (de_v 1) (do_some (s := .t) de_int) do_none) da_nil))) da_nil)))))
abbrev s_L_loose_parts : Stmt := topS 43
abbrev n_L_loose_parts : List Str := ["_law_state_here", "_law_kind_here", "_law_links", "_law_link", "_law_own_here", "_law_name", "_law_rule_here"]
theorem sc_L_loose_parts : FnScope n_L_loose_parts ["_law_state_here", "_law_kind_here"] (defScope s_L_loose_parts) := ⟨rfl, rfl, rfl, by decide +kernel, rfl, by decide +kernel, by decide +kernel⟩
theorem ok_L_loose_parts (T : Blt mg) (C__law_loose : Cal P w K mg base 2 "_law_loose" ["_law_state_here", "_law_row"] [.s, .s] sp_L_loose) (C__law_loose_rule : Cal P w K mg base 3 "_law_loose_rule" ["_law_state_here", "_law_rule_here"] [.s, .s] sp_L_loose_rule) (C__law_shuffled : Cal P w K mg base 2 "_law_shuffled" ["_law_state_here", "_law_row"] [.s, .s] sp_L_shuffled) (F : FunD K "_law_loose_parts" "_law_loose_parts" (defArgs s_L_loose_parts) (defBody s_L_loose_parts) (defScope s_L_loose_parts) [] [] f fd) (hm : mg "_law_loose_parts" = some (.ref f)) : Cal P w K mg base 4 "_law_loose_parts" ["_law_state_here", "_law_kind_here"] [.s, .w] sp_L_loose_parts := by
  refine cal_mk (st := s_L_loose_parts) (k := 3) t_L_loose_parts F hm sc_L_loose_parts (fun _ _ _ _ _ _ us hl => match us, hl with | [_, _], _ => rfl) (fun cdv A outer s H E hr => ?_) (rd_L_loose_parts )
  exact (dss_cons (ds_setD 2 sc_L_loose_parts.nd)
      (dss_cons (ds_for (s := .s) PassesOwn.never rfl (di_it (s := .s) (de_fn C__law_shuffled (hr.mono (by decide)) (by rfl) (da_cons (de_v 0) (da_cons (de_callTy (c_lst rfl) (sem_lstI (s1 := .t)) (by rfl) T.list_ (by decide +kernel) (da_cons (de_ix (s2 := .t) (de_v 1) de_int) da_nil)) da_nil)))) (pg_name (i := 3) sc_L_loose_parts.nd rfl (by first | exact Or.inl rfl | exact Or.inr rfl)) tg1
      (dss_one (ds_put (s := .t) 2 (hu_of hr) (de_v 3) (de_fn C__law_shuffled (hr.mono (by decide)) (by rfl) (da_cons (de_v 0) (da_cons (de_callTy (c_lst rfl) (sem_lstI (s1 := .t)) (by rfl) T.list_ (by decide +kernel) (da_cons (de_dget (s2 := .t) (hu_of hr) (de_ix (s2 := .t) (de_v 1) de_int) (de_v 3)) da_nil)) da_nil))))))
      (dss_cons (ds_setD 4 sc_L_loose_parts.nd)
      (dss_cons (ds_for (s := .s) PassesOwn.never rfl (di_it (s := .s) (de_fn C__law_shuffled (hr.mono (by decide)) (by rfl) (da_cons (de_v 0) (da_cons (de_callTy (c_lst rfl) (sem_lstI (s1 := .t)) (by rfl) T.list_ (by decide +kernel) (da_cons (de_ix (s2 := .t) (de_v 1) de_int) da_nil)) da_nil)))) (pg_name (i := 5) sc_L_loose_parts.nd rfl (by first | exact Or.inl rfl | exact Or.inr rfl)) tg1
      (dss_one (ds_put (s := .t) 4 (hu_of hr) (de_v 5) (de_fn C__law_loose (hr.mono (by decide)) (by rfl) (da_cons (de_v 0) (da_cons (de_imm (de_dget (s2 := .t) (hu_of hr) (de_ix (s2 := .t) (de_v 1) de_int) (de_v 5))) da_nil))))))
      (dss_one (ds_rel 2 (ds_rel 4 (ds_ret (de_lst (ss := [.s, .s, .s]) (da_cons (de_v 2) (da_cons (de_v 4) (da_cons (de_lc (s1 := .w) [("_law_rule_here", 6)] rfl sc_L_loose_parts.nd (di_it (s := .w) (de_ix (s2 := .t) (de_v 1) de_int)) (blkOk_by (N := n_L_loose_parts) (sc := defScope s_L_loose_parts) (by decide +kernel)) (fun _ _ _ _ _ => (pg_name (i := 6) sc_L_loose_parts.nd rfl (Or.inl rfl))) tg1 tw1 (fun _ _ _ _ _ => dts_nil) (fun _ _ _ _ _ => (de_fn C__law_loose_rule (hr.mono (by decide)) (by rfl) (da_cons (de_v 0) (da_cons (de_imm (de_v 6)) da_nil))))) da_nil))))))))))))
abbrev s_L_changed : Stmt := topS 46
abbrev n_L_changed : List Str := ["_law_state_here", "_law_kind_here", "_law_part", "_law_other"]
theorem sc_L_changed : FnScope n_L_changed ["_law_state_here", "_law_kind_here"] (defScope s_L_changed) := ⟨rfl, rfl, rfl, by decide +kernel, rfl, by decide +kernel, by decide +kernel⟩
theorem ok_L_changed (T : Blt mg) (C__law_draw : Cal P w K mg base 1 "_law_draw" ["_law_state_here", "_law_many"] [.s, .s] sp_L_draw) (C__law_word : Cal P w K mg base 2 "_law_word" ["_law_state_here", "_law_taken"] [.s, .w] sp_L_word) (F : FunD K "_law_changed" "_law_changed" (defArgs s_L_changed) (defBody s_L_changed) (defScope s_L_changed) [] [] f fd) (hm : mg "_law_changed" = some (.ref f)) : Cal P w K mg base 3 "_law_changed" ["_law_state_here", "_law_kind_here"] [.s, .s] sp_L_changed := by
  refine cal_mk (st := s_L_changed) (k := 2) t_L_changed F hm sc_L_changed (fun _ _ _ _ _ _ us hl => match us, hl with | [_, _], _ => rfl) (fun cdv A outer s H E hr => ?_) (rd_L_changed )
  exact (dss_cons (ds_set 2 sc_L_changed.nd (de_fn C__law_draw (hr.mono (by decide)) (by rfl) (da_cons (de_v 0) (da_cons de_int da_nil))))
      (dss_cons (ds_setL (ss := [.s, .s, .s, .s, .s]) 3 sc_L_changed.nd (da_cons (de_ix (s2 := .t) (de_v 1) de_int) (da_cons (de_callTy call_dictD sem_dct (by rfl) T.dict_ (by decide +kernel) (da_cons (de_ix (s2 := .t) (de_v 1) de_int) da_nil)) (da_cons (de_callTy call_dictD sem_dct (by rfl) T.dict_ (by decide +kernel) (da_cons (de_ix (s2 := .t) (de_v 1) de_int) da_nil)) (da_cons (de_callTy (c_lst rfl) sem_lst (by rfl) T.list_ (by decide +kernel) (da_cons (de_ix (s2 := .t) (de_v 1) de_int) da_nil)) (da_cons (de_ix (s2 := .t) (de_v 1) de_int) da_nil))))))
      (dss_cons (ds_if (dt_cmp (s := .t) op_eq (sem_Eq (s1 := .t) (s2 := .t)) (de_v 2) de_int)
      (dss_one (ds_putL (s := .t) 3 de_int (de_fn C__law_word (hr.mono (by decide)) (by rfl) (da_cons (de_v 0) (da_cons (de_lst (ss := [.t]) (da_cons (de_ix (s2 := .t) (de_v 1) de_int) da_nil)) da_nil)))))
      dss_nil)
      (dss_cons (ds_if (dt_cmp (s := .t) op_eq (sem_Eq (s1 := .t) (s2 := .t)) (de_v 2) de_int)
      (dss_cons (ds_putL (s := .t) 3 de_int (de_d1 (s1 := .t) (de_fn C__law_word (hr.mono (by decide)) (by rfl) (da_cons (de_v 0) (da_cons (de_callTy (c_lst rfl) sem_lst (by rfl) T.list_ (by decide +kernel) (da_cons (de_ix (s2 := .t) (de_v 1) de_int) da_nil)) da_nil))) (de_tup (ss := [.s]) (da_cons de_str da_nil))))
      (dss_cons (ds_putL (s := .t) 3 de_int de_d0)
      (dss_one (ds_putL (s := .t) 3 de_int (de_lst (ss := []) da_nil)))))
      dss_nil)
      (dss_cons (ds_if (dt_cmp (s := .t) op_eq (sem_Eq (s1 := .t) (s2 := .t)) (de_v 2) de_int)
      (dss_one (ds_putL (s := .t) 3 de_int (de_d1 (s1 := .t) (de_fn C__law_word (hr.mono (by decide)) (by rfl) (da_cons (de_v 0) (da_cons (de_callTy (c_lst rfl) sem_lst (by rfl) T.list_ (by decide +kernel) (da_cons (de_ix (s2 := .t) (de_v 1) de_int) da_nil)) da_nil))) (de_tup (ss := [.s]) (da_cons de_str da_nil)))))
      dss_nil)
      (dss_cons (ds_if (dt_cmp (s := .t) op_eq (sem_Eq (s1 := .t) (s2 := .t)) (de_v 2) de_int)
      (dss_one (ds_putL (s := .t) 3 de_int (de_bin op_catR sem_Cat (de_ixO (s2 := .t) 3 de_int) (de_lst (ss := [.s]) (da_cons (de_tup (ss := [.s, .s]) (da_cons de_str (da_cons (de_tup (ss := []) da_nil) da_nil))) da_nil)))))
      dss_nil)
      (dss_cons (ds_if (dt_cmp (s := .t) op_eq (sem_Eq (s1 := .t) (s2 := .t)) (de_v 2) de_int)
      (dss_one (ds_putL (s := .t) 3 de_int (de_not (s1 := .t) (de_ix (s2 := .t) (de_v 1) de_int))))
      dss_nil)
      (dss_one (ds_rel 3 (ds_ret (de_v 3)))))))))))
end
end Tr
end
section
namespace Tr
open PySem PySem.Spec L2 L2H
section
variable {P : Program} {w : World} {K : PySem.W.Frag} {mg : Str → Option Value} {base : Heap} {f : Addr} {fd : FuncData}

def spState (K : PySem.W.Frag) : Sp := fun vs H Q _ => ∃ (a : Addr) (ns : List Int), vs = [.ref a] ∧ SqL K H a (ns.map V.int) ∧ ns.length ≤ 63 ∧
  ∀ H' q1 q2 (cs : List Int), (∀ b o, H b = some o → H' b = some o) → (∀ b x y, H' b = some (.frz x y) → H b = some (.frz x y)) → H q1 = none → H q2 = none → q1 ≠ q2 → H' q1 = some (.lst [.ref q2, .int 0, .int 0]) → H' q2 = some (.lst (cs.map V.int)) → cs ≠ [] → Q (.ref q1) H'
theorem dp_ints {K : PySem.W.Frag} {H : Hp} : ∀ cs : List Int, DpAll K H (cs.map V.int) (cs.map PyData.int)
  | [] => .nil
  | c :: cs => .cons (.int c) (dp_ints cs)
theorem okR_L_state (T : Blt mg) (F : FunD K "_law_state" "_law_state" (defArgs s_L_state) (defBody s_L_state) (defScope s_L_state) [] [] f fd) : FnOk P w K mg base CX0 1 f fd ["_law_script"] (spState K) := by
  refine F.ok sc_L_state (fun vs H Q E h => ?_) fun cdv A outer s H vs Q E hr h => ?_
  · obtain ⟨a, ns, rfl, _⟩ := h
    rfl
  · obtain ⟨a, ns, rfl, hS, hz, kk⟩ := h
    refine ⟨_, PSs.nox (pss_cons (ps_setLc (i := 1) (own := [("_law_cell", 2)]) (g := gName 2) (tt := tYes) rfl sc_L_state.nd rfl rfl (sw_true rfl rfl rfl (by decide +kernel)) (pi_list (pe_slice sl_list (pv 0) po_none (po_some pe_int))) (blkOk_by (N := n_L_state) (sc := defScope s_L_state) (by decide +kernel)) (fun _ _ _ _ _ => pg_name (i := 2) sc_L_state.nd rfl (Or.inl rfl)) (fun _ _ _ _ _ => pts_nil)
        (fun _ _ _ _ _ => pe_callB call_abs (by rfl) T.abs_ (by decide +kernel) (pa_cons (pe_callTy call_int1 (by rfl) T.int_ (by decide +kernel) (pa_cons (pv 2) pa_nil)) pa_nil)))
      (pss_cons (ps_if (pt_cmpR (op_eqD hr.units) (pv 1) (pe_lst pa_nil) rfl) (pss_one (ps_set (i := 1) sc_L_state.nd rfl (.inl rfl) (pe_lst (pa_cons pe_int pa_nil)))) pss_nil)
      (pss_one (ps_ret (pe_lst (pa_cons (pv 1) (pa_cons pe_int (pa_cons pe_int pa_nil)))))))), ?_⟩
    have cut : cutV (ns.map V.int) none (some 63) = ns.map V.int := by
      unfold cutV
      rw [show ((63 : Int)) = ((63 : Nat) : Int) from rfl, HT.sIx_nat, HT.sIx_none, List.drop_zero, Nat.sub_zero]
      exact List.take_of_length_le (by simp; omega)
    refine ⟨_, rfl, _, rfl, a, _, rfl, hS, fun p hp => ⟨p, rfl, ⟨_, SqL.of upd_same⟩, fun Dl hD => ?_⟩⟩
    rw [cut]
    have nDp : Dl ≠ p := fun z => by rw [cut, z, upd_same] at hD; cases hD
    have W0 := walk_list (K := K) (a := p) (xs := ns.map V.int)
    have Sq : ∀ o : HO, SqL K (upd (upd H p (.lst (ns.map V.int))) Dl o) p (ns.map V.int) := fun o => SqL.of (by rw [upd_ne (Ne.symm nDp), upd_same])
    have hD' : H Dl = none := by
      rw [upd_ne nDp] at hD
      exact hD
    refine ⟨fun i m H' => m = ns.length - i ∧ i ≤ ns.length ∧ ∃ cs : List Int, cs.length = i ∧ H' = upd (upd H p (.lst (ns.map V.int))) Dl (.lst (cs.map V.int)), ⟨_, rfl, Nat.zero_le _, [], rfl, rfl⟩, ?_⟩
    rintro i m H' ⟨rfl, hi, cs, hc, rfl⟩
    by_cases hlt : i < ns.length
    · refine .inr ⟨W0.goes i _ (by simpa using hlt) (Sq _), fun H2 => ∃ cs : List Int, cs.length = i + 1 ∧ H2 = upd (upd H p (.lst (ns.map V.int))) Dl (.lst (cs.map V.int)), fun H2 ⟨cs', h1, h2⟩ => ⟨ns.length - (i + 1), by omega, rfl, hlt, cs', h1, h2⟩, fun x H2 y => ?_⟩
      obtain ⟨e3, e4⟩ := W0.yields i _ x H2 (by simpa using hlt) (Sq _) y
      subst e3
      have e5 : x = .int ns[i] := by simpa [hlt] using e4.symm
      subst e5
      refine ⟨rfl, ?_⟩
      unfold tYes
      dsimp only
      rw [if_pos rfl]
      refine ⟨_, rfl, .inl ⟨_, rfl, _, rfl, cs.map V.int, upd_same, by simp [hc]; exact Nat.lt_of_lt_of_le (by omega : i < 64) (by decide), cs ++ [if ns[i] < 0 then -ns[i] else ns[i]], by simp [hc], ?_⟩⟩
      rw [List.map_append, List.map_cons, List.map_nil]
      funext b
      by_cases zb : b = Dl
      · subst zb; rw [upd_same, upd_same]
      · rw [upd_ne zb, upd_ne zb, upd_ne zb]
    · have e : i = ns.length := by omega
      refine .inl ⟨by rw [e, show ns.length = (ns.map V.int).length by simp]; exact W0.stops _ (Sq _), ?_⟩
      refine ⟨_, rfl, by show 0 ≤ sizeLine; decide, fun l hl => ?_⟩
      refine ⟨_, _, .lst (SqL.of (by rw [upd_ne (fun z => by rw [← z, upd_same] at hl; cases hl)]; exact upd_same)) (dp_ints cs), .lst (SqL.of upd_same) .nil, shaped_ints cs, rfl, _, rfl, ?_⟩
      have kp : ∀ b o, H b = some o → upd (upd (upd H p (.lst (ns.map V.int))) Dl (.lst (cs.map V.int))) l (.lst []) b = some o := fun b o hb => by
        rw [upd_ne (fun z => by
          rw [← z] at hl
          rw [upd_ne (fun z2 => by rw [z2, hD'] at hb; cases hb), upd_ne (fun z2 => by rw [z2, hp] at hb; cases hb)] at hl
          rw [hb] at hl; cases hl), upd_ne (fun z2 => by rw [z2, hD'] at hb; cases hb), upd_ne (fun z2 => by rw [z2, hp] at hb; cases hb)]
        exact hb
      have nl : ∀ b x y, upd (upd (upd H p (.lst (ns.map V.int))) Dl (.lst (cs.map V.int))) l (.lst []) b = some (.frz x y) → H b = some (.frz x y) := fun b x y e => nl_upd rfl b x y (nl_upd rfl b x y (nl_upd rfl b x y e))
      have hl' : ∀ {b o}, H b = some o → b ≠ l := fun {b o} hb z => by
        have := kp b o hb
        rw [z, upd_same] at this
        rw [z] at hb
        have q := hl
        rw [upd_ne (fun z2 => by rw [z2, hD'] at hb; cases hb), upd_ne (fun z2 => by rw [z2, hp] at hb; cases hb), hb] at q
        cases q
      cases cs with
      | nil =>
        refine ⟨by show 1 ≤ sizeLine; decide, fun c hcc => ?_⟩
        refine ⟨_, rfl, by show 3 ≤ sizeLine; decide, fun q1 hq1 => ?_⟩
        have c1 : q1 ≠ c := fun z => by rw [z, upd_same] at hq1; cases hq1
        have old : ∀ b o, H b = some o → b ≠ q1 ∧ b ≠ c := fun b o hb => by
          refine ⟨fun z => ?_, fun z => ?_⟩
          · rw [← z, upd_ne (fun z2 => by rw [← z2, kp b o hb] at hcc; cases hcc), kp b o hb] at hq1; cases hq1
          · rw [← z, kp b o hb] at hcc; cases hcc
        have hN : ∀ b, (∀ o, H b = some o → False) → H b = none := fun b h => by
          cases q : H b with
          | none => rfl
          | some o => exact (h o q).elim
        refine kk _ q1 c [0] (fun b o hb => ?_) (fun b x y e => nl b x y (nl_upd rfl b x y (nl_upd rfl b x y e))) (hN q1 fun o ho => (old q1 o ho).1 rfl) (hN c fun o ho => (old c o ho).2 rfl) c1 upd_same ?_ (by simp)
        · rw [upd_ne (old b o hb).1, upd_ne (old b o hb).2]; exact kp b o hb
        · rw [upd_ne (Ne.symm c1)]; exact upd_same
      | cons c0 cs0 =>
        refine ⟨_, rfl, by show 3 ≤ sizeLine; decide, fun q1 hq1 => ?_⟩
        have old : ∀ b o, H b = some o → b ≠ q1 := fun b o hb z => by rw [← z, kp b o hb] at hq1; cases hq1
        have nq : q1 ≠ Dl := fun z => by
          rw [z, upd_ne (fun z2 => by rw [← z2, upd_same] at hl; cases hl), upd_same] at hq1; cases hq1
        have hN : H q1 = none := by
          cases q : H q1 with
          | none => rfl
          | some o => exact absurd rfl (old q1 o q)
        refine kk _ q1 Dl (c0 :: cs0) (fun b o hb => ?_) (fun b x y e => nl b x y (nl_upd rfl b x y e)) hN hD' nq upd_same ?_ (by simp)
        · rw [upd_ne (old b o hb)]; exact kp b o hb
        · rw [upd_ne (Ne.symm nq), upd_ne (fun z2 => by rw [← z2, upd_same] at hl; cases hl)]; exact upd_same

end
end Tr
end
section
namespace Tr
open PySem PySem.Spec L2
/-! ### trees of texts, flags and tuples -/
def okT : Nat → D → Bool
  | _, .str x => txtOk x && decide (x.length ≤ 1000)
  | _, .bl _ => true
  | n + 1, .tup ds => decide (ds.length < 1000) && ds.all (okT n)
  | _, _ => false
theorem okT_imm : ∀ (n : Nat) (d : D), okT n d = true → imm d = true := by
  intro n
  induction n with
  | zero => intro d h; cases d <;> simp_all [okT, imm]
  | succ n ih =>
    intro d h
    cases d <;> first | (simp [okT] at h; done) | (simp [imm]; done) | skip
    rename_i ds
    simp only [okT, Bool.and_eq_true, List.all_eq_true] at h
    simp only [imm]
    have : ∀ l : List D, (∀ d ∈ l, okT n d = true) → immL l = true := by
      intro l
      induction l with
      | nil => intro _; rfl
      | cons x l il => intro hl; simp only [immL, Bool.and_eq_true]; exact ⟨ih x (hl x (by simp)), il fun d hd => hl d (by simp [hd])⟩
    exact this ds h.2
theorem big1 : 1000 ≤ sizeLine := by decide
theorem okT_sm : ∀ (n : Nat) (d : D), okT n d = true → sm d = true := by
  intro n
  induction n with
  | zero => intro d h; cases d <;> simp_all [okT, sm]; exact Nat.le_trans h.2 big1
  | succ n ih =>
    intro d h
    cases d <;> first | (simp [okT] at h; done) | (simp [sm]; done) | skip
    · simp [okT] at h; simp [sm]; exact Nat.le_trans h.2 big1
    rename_i ds
    simp only [okT, Bool.and_eq_true, List.all_eq_true] at h
    simp only [sm]
    have : ∀ l : List D, (∀ d ∈ l, okT n d = true) → smL l = true := by
      intro l
      induction l with
      | nil => intro _; rfl
      | cons x l il => intro hl; simp only [smL, Bool.and_eq_true]; exact ⟨ih x (hl x (by simp)), il fun d hd => hl d (by simp [hd])⟩
    exact this ds h.2
theorem like_refl : ∀ (n : Nat) (d : D), okT n d = true → likeD (n + 1) d d := by
  intro n
  induction n with
  | zero => intro d h; cases d <;> simp_all [okT, likeD, scal]
  | succ n ih =>
    intro d h
    cases d <;> first | (simp [okT] at h; done) | (simp [likeD, scal]; done) | skip
    rename_i ds
    simp only [okT, Bool.and_eq_true, List.all_eq_true, decide_eq_true_eq] at h
    refine ⟨rfl, h.1, fun i d d' e1 e2 => ?_⟩
    rw [e1] at e2
    cases e2
    exact ih d (h.2 d (List.mem_of_getElem? e1))
theorem like_up : ∀ (n : Nat) (a b : D), likeD n a b → likeD (n + 1) a b := by
  intro n
  induction n with
  | zero => intro a b h; simp [likeD] at h
  | succ n ih =>
    intro a b h
    cases a <;> cases b <;> first | exact h | skip
    · exact ⟨h.1, h.2.1, fun i d d' e1 e2 => ih _ _ (h.2.2 i d d' e1 e2)⟩
    · exact ⟨h.1, h.2.1, fun i d d' e1 e2 => ih _ _ (h.2.2 i d d' e1 e2)⟩
    · refine ⟨h.1, h.2.1, fun k d m => ?_⟩
      obtain ⟨d', e, l⟩ := h.2.2 k d m
      exact ⟨d', e, ih _ _ l⟩
theorem like_le {n m : Nat} {a b : D} (h : likeD n a b) (hm : n ≤ m) : likeD m a b := by
  induction hm with
  | refl => exact h
  | step _ ih => exact like_up _ _ _ ih
theorem okT_up : ∀ (n : Nat) (d : D), okT n d = true → okT (n + 1) d = true := by
  intro n
  induction n with
  | zero => intro d h; cases d <;> simp_all [okT]
  | succ n ih =>
    intro d h
    cases d <;> first | exact h | skip
    rename_i ds
    simp only [okT, Bool.and_eq_true, List.all_eq_true] at h ⊢
    exact ⟨h.1, fun d hd => ih d (h.2 d hd)⟩
theorem okT_pd : ∀ (n : Nat) (d : D), okT n d = true → ∃ p, toPD d = some p ∧ p.canLay0 = true ∧ p.depth ≤ n := by
  intro n
  induction n with
  | zero => intro d h; cases d <;> simp_all [okT, toPD, PyData.canLay0, PyData.depth]; exact h.1
  | succ n ih =>
    intro d h
    cases d <;> first | (simp [okT] at h; done) | exact ⟨_, rfl, rfl, Nat.zero_le _⟩ | skip
    · simp [okT] at h; exact ⟨_, rfl, h.1, Nat.zero_le _⟩
    rename_i ds
    simp only [okT, Bool.and_eq_true, List.all_eq_true] at h
    have : ∀ l : List D, (∀ d ∈ l, okT n d = true) → ∃ ps, toPDs l = some ps ∧ PyData.canLayAll0 ps = true ∧ PyData.depthAll ps ≤ n := by
      intro l
      induction l with
      | nil => intro _; exact ⟨[], rfl, rfl, Nat.zero_le _⟩
      | cons x l il =>
        intro hl
        obtain ⟨p, e1, e2, e3⟩ := ih x (hl x (by simp))
        obtain ⟨ps, e4, e5, e6⟩ := il fun d hd => hl d (by simp [hd])
        exact ⟨p :: ps, by simp only [toPDs, e1, e4], by simp only [PyData.canLayAll0, e2, e5]; rfl, by simp only [PyData.depthAll]; omega⟩
    obtain ⟨ps, e1, e2, e3⟩ := this ds h.2
    exact ⟨.tuple ps, by simp only [toPD, e1]; rfl, by simpa only [PyData.canLay0] using e2, by simp only [PyData.depth]; omega⟩
theorem okTs_pd {n : Nat} : ∀ l : List D, (∀ d ∈ l, okT n d = true) → ∃ ps, toPDs l = some ps ∧ ps.length = l.length ∧ PyData.canLayAll0 ps = true ∧ PyData.depthAll ps ≤ n := by
  intro l
  induction l with
  | nil => intro _; exact ⟨[], rfl, rfl, rfl, Nat.zero_le _⟩
  | cons x l il =>
    intro hl
    obtain ⟨p, e1, e2, e3⟩ := okT_pd n x (hl x (by simp))
    obtain ⟨ps, e4, e0, e5, e6⟩ := il fun d hd => hl d (by simp [hd])
    exact ⟨p :: ps, by simp only [toPDs, e1, e4], by simp [e0], by simp only [PyData.canLayAll0, e2, e5]; rfl, by simp only [PyData.depthAll]; omega⟩
theorem shp {n : Nat} (hn : n ≤ 60) {p : PyData} (h1 : p.canLay0 = true) (h2 : p.depth ≤ n + 1) : SeqAt.shaped p = true := by
  unfold SeqAt.shaped
  rw [Bool.and_eq_true, decide_eq_true_eq]
  exact ⟨h1, by omega⟩
theorem eqPD_def {n : Nat} (hn : n ≤ 60) {a b : D} (ha : okT n a = true) (hb : okT n b = true) : ∃ r, eqPD a b = some r := by
  obtain ⟨p, e1, e2, e3⟩ := okT_pd n a ha
  obtain ⟨q, e4, e5, e6⟩ := okT_pd n b hb
  unfold eqPD
  rw [e1, e4]
  simp only [shp hn e2 (by omega), shp hn e5 (by omega)]
  exact ⟨_, rfl⟩
theorem eqPD_refl {n : Nat} (hn : n ≤ 60) {a : D} (ha : okT n a = true) : eqPD a a = some true := by
  obtain ⟨p, e1, e2, e3⟩ := okT_pd n a ha
  unfold eqPD
  rw [e1]
  simp only [shp hn e2 (by omega)]
  rw [show PyData.eqv p p = true from PySem.SeqAt.eqv_refl p e2]
  rfl
theorem eqvAll_len : ∀ a b : List PyData, PyData.eqvAll a b = true → a.length = b.length
  | [], [], _ => rfl
  | [], _ :: _, h => by simp [PyData.eqvAll] at h
  | _ :: _, [], h => by simp [PyData.eqvAll] at h
  | x :: a, y :: b, h => by
    simp only [PyData.eqvAll, Bool.and_eq_true] at h
    simp [eqvAll_len a b h.2]
theorem eqRs_def {n : Nat} (hn : n ≤ 60) {a b : List D} (ha : ∀ d ∈ a, okT n d = true) (hb : ∀ d ∈ b, okT n d = true) : ∃ r, eqRs a b = some r ∧ (r = true → a.length = b.length) ∧ (a = b → r = true) := by
  obtain ⟨ps, e1, e0, e2, e3⟩ := okTs_pd a ha
  obtain ⟨qs, e4, f0, e5, e6⟩ := okTs_pd b hb
  unfold eqRs eqPD
  simp only [toPD, e1, e4, Option.map_some]
  simp only [shp hn (p := .list ps) (by simpa only [PyData.canLay0] using e2) (by simp only [PyData.depth]; omega), shp hn (p := .list qs) (by simpa only [PyData.canLay0] using e5) (by simp only [PyData.depth]; omega)]
  refine ⟨_, rfl, fun h => ?_, fun h => ?_⟩
  · simp only [PyData.eqv] at h
    have := eqvAll_len _ _ h
    omega
  · subst h
    rw [e1] at e4
    cases e4
    exact PySem.SeqAt.eqv_refl _ (by simpa only [PyData.canLay0] using e2)
/-! ### pairs by key -/
theorem look_mem {ps : List (Str × D)} {x : Str} {d : D} (h : (ps.map (·.1)).Nodup) (m : (x, d) ∈ ps) : ps.lookup x = some d := by rw [← valD_enc]; exact mem_lookup h m
theorem mem_look {ps : List (Str × D)} {x : Str} {d : D} (h : ps.lookup x = some d) : (x, d) ∈ ps := by
  induction ps with
  | nil => cases h
  | cons p ps ih =>
    obtain ⟨y, e⟩ := p
    rw [List.lookup_cons] at h
    split at h
    · rename_i q
      have : x = y := by simpa using q
      cases h; subst this; exact List.mem_cons_self
    · exact List.mem_cons_of_mem _ (ih h)
theorem skey_keys (ps : List (Str × D)) : (skey ps).map (·.1) = srt (ps.map (·.1)) := by
  unfold skey
  rw [List.map_map]
  exact List.map_id _
theorem skey_nd {ps : List (Str × D)} (h : (ps.map (·.1)).Nodup) : ((skey ps).map (·.1)).Nodup := by rw [skey_keys]; exact (srt_perm _).nodup_iff.mpr h
theorem skey_len (ps : List (Str × D)) : (skey ps).length = ps.length := by unfold skey; rw [List.length_map, srt_len, List.length_map]
theorem skey_mem {ps : List (Str × D)} (h : (ps.map (·.1)).Nodup) {p : Str × D} : p ∈ skey ps ↔ p ∈ ps := by
  unfold skey
  rw [List.mem_map]
  constructor
  · rintro ⟨x, hx, rfl⟩
    have hx := (srt_perm _).mem_iff.mp hx
    obtain ⟨d, e⟩ := lookup_some hx
    rw [e]
    exact mem_look e
  · intro m
    refine ⟨p.1, (srt_perm _).mem_iff.mpr (List.mem_map.mpr ⟨p, m, rfl⟩), ?_⟩
    rw [look_mem h (x := p.1) (d := p.2) m]
    rfl
theorem skey_look {ps : List (Str × D)} (h : (ps.map (·.1)).Nodup) (x : Str) : (skey ps).lookup x = ps.lookup x := by
  cases e : ps.lookup x with
  | some d => exact look_mem (skey_nd h) ((skey_mem h).mpr (mem_look e))
  | none =>
    cases e2 : (skey ps).lookup x with
    | none => rfl
    | some d =>
      have := look_mem h ((skey_mem h).mp (mem_look e2))
      rw [e] at this; cases this
theorem skey_perm {as bs : List (Str × D)} (hp : (as.map (·.1)).Perm (bs.map (·.1))) (hb : (bs.map (·.1)).Nodup) (hs : ∀ a ∈ as, a ∈ bs) : skey as = skey bs := by
  unfold skey
  rw [srt_of_perm hp]
  refine List.map_congr_left fun x hx => ?_
  have hx := (srt_perm _).mem_iff.mp hx
  obtain ⟨d, e⟩ := lookup_some (hp.mem_iff.mpr hx)
  rw [e, look_mem hb (hs _ (mem_look e))]
theorem readKV_enc {f : D → D} : ∀ (ps acc : List (Str × D)), (∀ p ∈ ps, isNm p.1 = true ∧ isNon (f p.2) = false) → readKV f (enc ps) acc = some (acc ++ ps.map fun p => (p.1, f p.2))
  | [], acc, _ => by simp [enc, readKV]
  | (x, d) :: ps, acc, h => by
    have h0 := h (x, d) (by simp)
    have ih := readKV_enc (f := f) ps (acc ++ [(x, f d)]) fun p hp => h p (by simp [hp])
    unfold enc at ih ⊢
    simp only [List.map_cons, readKV, h0.1, h0.2, if_true, if_false, Bool.false_eq_true, ih, List.append_assoc, List.singleton_append]
theorem readDict_enc {f : D → D} {n : Nat} {ps : List (Str × D)} (hn : ps.length ≤ n) (h : ∀ p ∈ ps, isNm p.1 = true ∧ isNon (f p.2) = false) : readDict f n (.dct (enc ps)) = .dct (enc (skey (ps.map fun p => (p.1, f p.2)))) := by
  unfold readDict
  simp only [readKV_enc ps [] h, List.nil_append]
  rw [if_pos (by simpa [enc] using hn), byKey_skey]
theorem nodup_enc {ps : List (Str × D)} (h : (ps.map (·.1)).Nodup) : nodupD (.dct (enc ps)) = true := by
  have e : (enc ps).map (·.1) = (ps.map (·.1)).map Sum.inr := by simp [enc]
  simp only [nodupD, e, decide_eq_true_eq]
  exact nodup_inr h
theorem nm_len {x : Str} (h : isNm x = true) : x.length ≤ 1000 := by
  unfold isNm at h
  simp only [Bool.and_eq_true, decide_eq_true_eq] at h
  omega
theorem sm_enc : ∀ {ps : List (Str × D)}, (∀ p ∈ ps, isNm p.1 = true ∧ sm p.2 = true) → sm (.dct (enc ps)) = true := by
  intro ps h
  simp only [sm]
  induction ps with
  | nil => rfl
  | cons p ps ih =>
    obtain ⟨x, d⟩ := p
    have h0 := h (x, d) (by simp)
    have := ih fun p hp => h p (by simp [hp])
    unfold enc at this ⊢
    simp only [List.map_cons, smK, Bool.and_eq_true, decide_eq_true_eq]
    exact ⟨Nat.le_trans (nm_len h0.1) big1, h0.2, this⟩
theorem smL_all : ∀ {ds : List D}, (∀ d ∈ ds, sm d = true) → smL ds = true
  | [], _ => rfl
  | d :: ds, h => by simp only [smL, Bool.and_eq_true]; exact ⟨h d (by simp), smL_all fun x hx => h x (by simp [hx])⟩
/-! ### rows of texts -/
theorem readStrs_ok {ok : D → Bool} : ∀ (xs acc : List Str), (∀ x ∈ xs, ok (.str x) = true) → (acc ++ xs).Nodup → readStrs ok (xs.map D.str) acc = some (acc ++ xs)
  | [], acc, _, _ => by simp [readStrs]
  | x :: xs, acc, h, hn => by
    have hx : x ∉ acc := fun m => by
      have := List.nodup_append.mp hn
      exact this.2.2 x m x (by simp) rfl
    have ih := readStrs_ok (ok := ok) xs (acc ++ [x]) (fun y hy => h y (by simp [hy])) (by simpa using hn)
    simp only [List.map_cons, readStrs, h x (by simp), hx, decide_false, Bool.not_false, Bool.and_self, if_true, ih]
    simp
theorem readList_ok {ok : D → Bool} {a b : Int} {d : D} {zs ys : List Str} (hi : itemsOf d = some (zs.map D.str)) (hp : zs.Perm ys) (ha : a ≤ ys.length) (hb : (ys.length : Int) ≤ b) (ho : ∀ y ∈ ys, ok (.str y) = true) (hn : ys.Nodup) (hs : srt ys = ys) : readList ok a b d = tps ys := by
  unfold readList isRowD
  rw [hi]
  simp only [List.length_map, hp.length_eq, decide_eq_true ha, decide_eq_true hb, Bool.and_self, if_true]
  rw [readStrs_ok zs [] (fun z hz => ho z (hp.mem_iff.mp hz)) (by simpa using hp.nodup_iff.mpr hn)]
  simp only [List.nil_append]
  rw [srt_of_perm hp, hs]
/-! ### kinds that can be read -/
structure OkC (ys : List Str) : Prop where
  ne : ys ≠ []
  le : ys.length ≤ 4
  nd : ys.Nodup
  wd : ∀ y ∈ ys, isWd y = true
  st : srt ys = ys
structure OkN (cs : List Str) : Prop where
  le : cs.length ≤ 4
  nd : cs.Nodup
  nm : ∀ y ∈ cs, isNm y = true
  st : srt cs = cs
def OkR (ls : List Str) (r : D) : Prop := ∃ cs, OkN cs ∧ (r = .tup [.str "bar", tps cs] ∨ r = .tup [.str "self", tps cs] ∨ (∃ v, isNm v = true ∧ r = .tup [.str "tell", tps cs, .str v]) ∨
  (∃ l ∈ ls, ∃ m : Str, (m = "try" ∨ m = "last") ∧ r = .tup [.str "give", tps cs, .str l, .str m]) ∨
  ∃ l ∈ ls, ∃ (u m : Str) (b : Bool), isWd u = true ∧ (m = "try" ∨ m = "last") ∧ r = .tup [.str "send", tps cs, .str l, .str u, .str m, .bl b])
structure Gd (n : Nat) (q : Kd) : Prop where
  nm : isNm q.nm = true
  ls : Names q.ls 2
  ch : ∀ p ∈ q.leads, OkC p.2
  on : (q.own.map (·.1)).Nodup
  ol : q.own.length ≤ 5
  om : ∀ p ∈ q.own, isNm p.1 = true
  oa : ∀ p ∈ q.own, okAns q.ls p.2
  rl : q.rules.length ≤ n
  ru : ∀ r ∈ q.rules, OkR q.ls r
def lead (q : Kd) : List (Str × D) := q.leads.map fun p => (p.1, tps p.2)
def kfOf (q : Kd) : Kf := ⟨q.nm, skey (lead q), skey q.own, q.rules, q.hid⟩
theorem lead_keys (q : Kd) : (lead q).map (·.1) = q.ls := by unfold lead; rw [List.map_map]; rfl
theorem wd_ok2 {x : Str} (h : isWd x = true) : txtOk x = true ∧ x.length ≤ 1000 := by
  unfold isWd at h
  rcases Bool.or_eq_true _ _ |>.mp h with h | h
  · have : x = "" := by simpa using h
    subst this
    exact ⟨by decide +kernel, by decide⟩
  · exact ⟨nm_ok h, nm_len h⟩
theorem nm_wd {x : Str} (h : isNm x = true) : isWd x = true := by unfold isWd; rw [h, Bool.or_true]
theorem okT_tps {xs : List Str} (hl : xs.length < 1000) (h : ∀ x ∈ xs, isWd x = true) (n : Nat) : okT (n + 1) (tps xs) = true := by
  simp only [okT, Bool.and_eq_true, decide_eq_true_eq, List.length_map, List.all_eq_true]
  refine ⟨hl, fun d hd => ?_⟩
  obtain ⟨x, hx, rfl⟩ := List.mem_map.mp hd
  have := wd_ok2 (h x hx)
  cases n <;> simp [okT, this.1, this.2]
theorem okT_str {n : Nat} {x : Str} (h : isWd x = true) : okT n (.str x) = true := by
  have := wd_ok2 h
  cases n <;> simp [okT, this.1, this.2]
theorem OkC.t {ys : List Str} (h : OkC ys) (n : Nat) : okT (n + 1) (tps ys) = true := okT_tps (by have := h.le; omega) h.wd n
theorem OkN.t {ys : List Str} (h : OkN ys) (n : Nat) : okT (n + 1) (tps ys) = true := okT_tps (by have := h.le; omega) (fun y hy => nm_wd (h.nm y hy)) n
theorem w_value : isWd "value" = true := by decide +kernel
theorem w_self : isWd "self" = true := by decide +kernel
theorem w_link : isWd "link" = true := by decide +kernel
theorem w_bar : isWd "bar" = true := by decide +kernel
theorem w_tell : isWd "tell" = true := by decide +kernel
theorem w_give : isWd "give" = true := by decide +kernel
theorem w_send : isWd "send" = true := by decide +kernel
theorem w_try : isWd "try" = true := by decide +kernel
theorem w_last : isWd "last" = true := by decide +kernel
theorem ans_t {ls : List Str} (hl : ∀ l ∈ ls, isNm l = true) {d : D} (h : okAns ls d) : ∃ es : List Str, d = tps es ∧ es.length ≤ 2 ∧ ∀ e ∈ es, isWd e = true := by
  rcases h with ⟨v, hv, rfl⟩ | rfl | ⟨l, hm, rfl⟩
  · exact ⟨["value", v], rfl, by simp, fun e he => by simp at he; rcases he with rfl | rfl; exact w_value; exact nm_wd hv⟩
  · exact ⟨["self"], rfl, by simp, fun e he => by simp at he; subst he; exact w_self⟩
  · exact ⟨["link", l], rfl, by simp, fun e he => by simp at he; rcases he with rfl | rfl; exact w_link; exact nm_wd (hl _ hm)⟩
theorem okT_cons {n : Nat} {ds : List D} (hl : ds.length < 1000) (h : ∀ d ∈ ds, okT n d = true) : okT (n + 1) (.tup ds) = true := by
  simp only [okT, Bool.and_eq_true, decide_eq_true_eq, List.all_eq_true]
  exact ⟨hl, h⟩
theorem rule_t {ls : List Str} (hl : ∀ l ∈ ls, isNm l = true) {r : D} (h : OkR ls r) : okT 2 r = true := by
  obtain ⟨cs, hc, h⟩ := h
  have t := hc.t 0
  have mm : ∀ {m : Str}, m = "try" ∨ m = "last" → isWd m = true := fun h => by rcases h with rfl | rfl; exact w_try; exact w_last
  rcases h with rfl | rfl | ⟨v, hv, rfl⟩ | ⟨l, hm, m, hmm, rfl⟩ | ⟨l, hm, u, m, b, hu, hmm, rfl⟩
  · refine okT_cons (by simp) fun d hd => ?_
    simp only [List.mem_cons, List.not_mem_nil, or_false] at hd
    rcases hd with rfl | rfl
    · exact okT_str w_bar
    · exact t
  · refine okT_cons (by simp) fun d hd => ?_
    simp only [List.mem_cons, List.not_mem_nil, or_false] at hd
    rcases hd with rfl | rfl
    · exact okT_str w_self
    · exact t
  · refine okT_cons (by simp) fun d hd => ?_
    simp only [List.mem_cons, List.not_mem_nil, or_false] at hd
    rcases hd with rfl | rfl | rfl
    · exact okT_str w_tell
    · exact t
    · exact okT_str (nm_wd hv)
  · refine okT_cons (by simp) fun d hd => ?_
    simp only [List.mem_cons, List.not_mem_nil, or_false] at hd
    rcases hd with rfl | rfl | rfl | rfl
    · exact okT_str w_give
    · exact t
    · exact okT_str (nm_wd (hl _ hm))
    · exact okT_str (mm hmm)
  · refine okT_cons (by simp) fun d hd => ?_
    simp only [List.mem_cons, List.not_mem_nil, or_false] at hd
    rcases hd with rfl | rfl | rfl | rfl | rfl | rfl
    · exact okT_str w_send
    · exact t
    · exact okT_str (nm_wd (hl _ hm))
    · exact okT_str hu
    · exact okT_str (mm hmm)
    · rfl
end Tr
end
section
namespace Tr
open PySem PySem.Spec L2
/-! ### what is read of a kind's parts -/
theorem lo_items {es : List D} {d : D} (h : LoD es d) : itemsOf d = some es := by rcases h with rfl | rfl <;> rfl
theorem lo_sm {es : List D} {d : D} (h : LoD es d) (hs : smL es = true) : sm d = true := by rcases h with rfl | rfl <;> simpa only [sm] using hs
theorem isLink_ok {q : Kd} {n : Nat} (g : Gd n q) {l : Str} (h : l ∈ q.ls) : isLinkD (.str l) (enc (skey (lead q))) = true := by
  have nd : ((lead q).map (·.1)).Nodup := by rw [lead_keys]; exact g.ls.nd
  obtain ⟨d, e⟩ := lookup_some (ps := lead q) (x := l) (by rw [lead_keys]; exact h)
  simp only [isLinkD, valD_enc, skey_look nd, e, Option.isSome_some]
theorem choices_ok {d : D} {zs ys : List Str} (hi : itemsOf d = some (zs.map D.str)) (hp : zs.Perm ys) (h : OkC ys) : readChoices d = tps ys :=
  readList_ok hi hp (by have := List.length_pos_iff.mpr h.ne; omega) (by have := h.le; omega) (fun y hy => h.wd y hy) h.nd h.st
theorem names_ok {d : D} {zs ys : List Str} (hi : itemsOf d = some (zs.map D.str)) (hp : zs.Perm ys) (h : OkN ys) : readNames d = tps ys :=
  readList_ok hi hp (by omega) (by have := h.le; omega) (fun y hy => h.nm y hy) h.nd h.st
structure Reads (q : Kd) (l o r : D) : Prop where
  sl : sm l = true
  nl : nodupD l = true
  so : sm o = true
  no : nodupD o = true
  sr : sm r = true
  rl : readLinks l = .dct (enc (kfOf q).l)
  ro : readOwn o (enc (kfOf q).l) = .dct (enc (kfOf q).o)
  rr : readRules r (enc (kfOf q).l) = .lst (kfOf q).rs
theorem smL_strs {zs : List Str} (h : ∀ z ∈ zs, isWd z = true) : smL (zs.map D.str) = true := smL_all fun d hd => by
  obtain ⟨x, hx, rfl⟩ := List.mem_map.mp hd
  exact okT_sm 0 _ (okT_str (h x hx))
theorem links_gen {q : Kd} {n : Nat} (g : Gd n q) {ps : List (Str × D)} (hk : (ps.map (·.1)).Perm q.ls) (hv : ∀ p ∈ ps, ∃ zs ys : List Str, (p.1, ys) ∈ q.leads ∧ zs.Perm ys ∧ LoD (zs.map D.str) p.2) :
    readLinks (.dct (enc ps)) = .dct (enc (skey (lead q))) ∧ sm (.dct (enc ps)) = true ∧ nodupD (.dct (enc ps)) = true := by
  have nd : ((lead q).map (·.1)).Nodup := by rw [lead_keys]; exact g.ls.nd
  have hnm : ∀ p ∈ ps, isNm p.1 = true := fun p hp => g.ls.nm p.1 (hk.mem_iff.mp (List.mem_map.mpr ⟨p, hp, rfl⟩))
  have hr : ∀ p ∈ ps, ∃ ys, (p.1, ys) ∈ q.leads ∧ readChoices p.2 = tps ys := fun p hp => by
    obtain ⟨zs, ys, m, pm, lo⟩ := hv p hp
    exact ⟨ys, m, choices_ok (lo_items lo) pm (g.ch _ m)⟩
  refine ⟨?_, sm_enc fun p hp => ⟨hnm p hp, ?_⟩, nodup_enc (hk.nodup_iff.mpr g.ls.nd)⟩
  · unfold readLinks
    rw [readDict_enc (f := readChoices) (n := 2) (by
      have := hk.length_eq; have h2 := g.ls.len; rw [List.length_map] at this; omega) fun p hp => ⟨hnm p hp, by obtain ⟨ys, _, e⟩ := hr p hp; rw [e]; rfl⟩]
    rw [skey_perm (bs := lead q) (by rw [List.map_map, lead_keys]; exact hk) nd fun a ha => ?_]
    obtain ⟨p, hp, rfl⟩ := List.mem_map.mp ha
    obtain ⟨ys, m, e⟩ := hr p hp
    show (p.1, readChoices p.2) ∈ lead q
    rw [e]
    exact List.mem_map.mpr ⟨(p.1, ys), m, rfl⟩
  · obtain ⟨zs, ys, m, pm, lo⟩ := hv p hp
    exact lo_sm lo (smL_strs fun z hz => (g.ch _ m).wd z (pm.mem_iff.mp hz))
theorem answer_ok {q : Kd} {n : Nat} (g : Gd n q) {es : List D} {d : D} (h : okAns q.ls (.tup es)) (lo : LoD es d) : readAnswer d (enc (skey (lead q))) = .tup es := by
  unfold readAnswer
  rw [lo_items lo]
  rcases h with ⟨v, hv, e⟩ | e | ⟨l, hm, e⟩
  · cases e
    have : isNameD (.str v) = true := hv
    simp only [this, and_self, if_true]
  · cases e
    simp only [if_true]
  · cases e
    simp only [isLink_ok g hm, and_self, if_true]
    rw [if_neg (fun z => absurd z.1 (by decide))]
theorem own_gen {q : Kd} {n : Nat} (g : Gd n q) {ps : List (Str × D)} (hk : (ps.map (·.1)).Perm (q.own.map (·.1))) (hv : ∀ p ∈ ps, ∃ es, (p.1, .tup es) ∈ q.own ∧ LoD es p.2) :
    readOwn (.dct (enc ps)) (enc (skey (lead q))) = .dct (enc (skey q.own)) ∧ sm (.dct (enc ps)) = true ∧ nodupD (.dct (enc ps)) = true := by
  have hnm : ∀ p ∈ ps, isNm p.1 = true := fun p hp => by
    obtain ⟨es, m, _⟩ := hv p hp
    exact g.om (p.1, .tup es) m
  have hr : ∀ p ∈ ps, ∃ es, (p.1, .tup es) ∈ q.own ∧ readAnswer p.2 (enc (skey (lead q))) = .tup es := fun p hp => by
    obtain ⟨es, m, lo⟩ := hv p hp
    exact ⟨es, m, answer_ok g (g.oa _ m) lo⟩
  refine ⟨?_, sm_enc fun p hp => ⟨hnm p hp, ?_⟩, nodup_enc (hk.nodup_iff.mpr g.on)⟩
  · unfold readOwn
    rw [readDict_enc (n := 5) (by
      have := hk.length_eq; have h2 := g.ol; rw [List.length_map, List.length_map] at this; omega) fun p hp => ⟨hnm p hp, by obtain ⟨ys, _, e⟩ := hr p hp; rw [e]; rfl⟩]
    rw [skey_perm (bs := q.own) (by rw [List.map_map]; exact hk) g.on fun a ha => ?_]
    obtain ⟨p, hp, rfl⟩ := List.mem_map.mp ha
    obtain ⟨ys, m, e⟩ := hr p hp
    show (p.1, readAnswer p.2 _) ∈ q.own
    rw [e]
    exact m
  · obtain ⟨es, m, lo⟩ := hv p hp
    obtain ⟨xs, e, _, hw⟩ := ans_t g.ls.nm (g.oa _ m)
    refine lo_sm lo ?_
    cases e
    exact smL_strs hw
def unS : D → Str
  | .str x => x
  | _ => ""
theorem perm_strs2 {cs : List D} {ys : List Str} (h : cs.Perm (ys.map D.str)) : ∃ zs : List Str, cs = zs.map D.str ∧ zs.Perm ys := by
  refine ⟨cs.map unS, ?_, ?_⟩
  · rw [List.map_map]
    have : ∀ d ∈ cs, (D.str ∘ unS) d = d := fun d hd => by
      obtain ⟨y, _, rfl⟩ := List.mem_map.mp (h.mem_iff.mp hd)
      rfl
    rw [List.map_congr_left this, List.map_id']
  · have := h.map unS
    rw [List.map_map] at this
    have e : (unS ∘ D.str) = id := rfl
    rw [e, List.map_id] at this
    exact this
theorem rule_ok {q : Kd} {n : Nat} (g : Gd n q) {r0 m d : D} {cs cs' rest : List D} (h : OkR q.ls (.tup (r0 :: .tup cs :: rest))) (hp : cs'.Perm cs) (lm : LoD cs' m) (ld : LoD (r0 :: m :: rest) d) : readRule d (enc (skey (lead q))) = .tup (r0 :: .tup cs :: rest) ∧ sm d = true := by
  have ht := rule_t g.ls.nm h
  obtain ⟨ys, hc, h⟩ := h
  have key : cs = ys.map D.str → readNames m = tps ys ∧ sm m = true := fun e => by
    subst e
    obtain ⟨zs, rfl, pz⟩ := perm_strs2 hp
    exact ⟨names_ok (lo_items lm) pz hc, lo_sm lm (smL_strs fun z hz => nm_wd (hc.nm z (pz.mem_iff.mp hz)))⟩
  have hsm : cs = ys.map D.str → sm d = true := fun e => by
    refine lo_sm ld ?_
    have h2 := okT_sm 2 _ ht
    simp only [sm, smL, Bool.and_eq_true] at h2 ⊢
    exact ⟨h2.1, (key e).2, h2.2.2⟩
  have isn : isNon (tps ys) = false := rfl
  unfold readRule
  rw [lo_items ld]
  have mn : ∀ {x : Str}, x = "try" ∨ x = "last" → isMannerD (.str x) = true := fun h => by rcases h with rfl | rfl <;> rfl
  rcases h with e | e | ⟨v, hv, e⟩ | ⟨l, hm, x, hmm, e⟩ | ⟨l, hm, u, x, b, hu, hmm, e⟩
  · cases e
    refine ⟨?_, hsm rfl⟩
    simp only [(key rfl).1, isn, Bool.false_eq_true, if_false]
    rfl
  · cases e
    refine ⟨?_, hsm rfl⟩
    simp only [(key rfl).1, isn, Bool.false_eq_true, if_false]
    rfl
  · cases e
    have : isNameD (.str v) = true := hv
    refine ⟨?_, hsm rfl⟩
    simp only [(key rfl).1, isn, Bool.false_eq_true, if_false, this, and_self, if_true]
  · cases e
    refine ⟨?_, hsm rfl⟩
    simp only [(key rfl).1, isn, Bool.false_eq_true, if_false, isLink_ok g hm, mn hmm, and_self, if_true]
  · cases e
    have : isWordD (.str u) = true := hu
    have hb : isBlD (.bl b) = true := rfl
    refine ⟨?_, hsm rfl⟩
    simp only [(key rfl).1, isn, Bool.false_eq_true, if_false, if_true, readSend, isLink_ok g hm, mn hmm, this, hb, and_self]
theorem rule_shape {ls : List Str} {r : D} (h : OkR ls r) : ∃ r0 cs rest, r = .tup (r0 :: .tup cs :: rest) ∧ cs.length ≤ 4 ∧ rest.length ≤ 4 := by
  obtain ⟨ys, hc, h⟩ := h
  have := hc.le
  rcases h with e | e | ⟨v, hv, e⟩ | ⟨l, hm, x, hmm, e⟩ | ⟨l, hm, u, x, b, hu, hmm, e⟩ <;> subst e <;> exact ⟨_, _, _, rfl, by simpa using hc.le, by simp⟩
theorem rules_gen {q : Kd} {n : Nat} (g : Gd n q) : ∀ {rs ds : List D} (acc : List D), (∀ r ∈ rs, OkR q.ls r) → All2 (fun r d => ∃ r0 cs rest cs' m, r = .tup (r0 :: .tup cs :: rest) ∧ cs'.Perm cs ∧ LoD cs' m ∧ LoD (r0 :: m :: rest) d) rs ds →
    readAll (fun x => readRule x (enc (skey (lead q)))) ds acc = some (acc ++ rs) ∧ smL ds = true ∧ ds.length = rs.length
  | [], [], acc, _, _ => by simp [readAll, smL]
  | [], _ :: _, _, _, h => h.elim
  | _ :: _, [], _, _, h => h.elim
  | r :: rs, d :: ds, acc, hr, h => by
    obtain ⟨⟨r0, cs, rest, cs', m, e, hp, lm, ld⟩, h2⟩ := h
    subst e
    obtain ⟨e1, e2⟩ := rule_ok g (hr _ (by simp)) hp lm ld
    obtain ⟨i1, i2, i3⟩ := rules_gen g (acc ++ [.tup (r0 :: .tup cs :: rest)]) (fun r hr' => hr r (by simp [hr'])) h2
    refine ⟨?_, by simp only [smL, Bool.and_eq_true]; exact ⟨e2, i2⟩, by simp [i3]⟩
    have isn : isNon (.tup (r0 :: .tup cs :: rest)) = false := rfl
    simp only [readAll, e1, isn, Bool.false_eq_true, if_false, i1, List.append_assoc, List.singleton_append]
theorem rules_end {q : Kd} {n : Nat} (g : Gd n q) (hn : n ≤ 300) {ds : List D} (h : All2 (fun r d => ∃ r0 cs rest cs' m, r = .tup (r0 :: .tup cs :: rest) ∧ cs'.Perm cs ∧ LoD cs' m ∧ LoD (r0 :: m :: rest) d) q.rules ds) :
    readRules (.lst ds) (enc (skey (lead q))) = .lst q.rules ∧ sm (.lst ds) = true := by
  obtain ⟨e1, e2, e3⟩ := rules_gen g [] g.ru h
  refine ⟨?_, by simpa only [sm] using e2⟩
  have hl := g.rl
  unfold readRules isRowD
  simp only [itemsOf, e1, List.nil_append]
  rw [decide_eq_true (by omega), decide_eq_true (by omega)]
  rfl
theorem All2.imp {α β : Type} {P Q : α → β → Prop} (h : ∀ a b, P a b → Q a b) : ∀ {as : List α} {bs : List β}, All2 P as bs → All2 Q as bs
  | [], [], _ => trivial
  | [], _ :: _, x => x.elim
  | _ :: _, [], x => x.elim
  | _ :: _, _ :: _, x => ⟨h _ _ x.1, All2.imp h x.2⟩
theorem All2.self {α : Type} {P : α → α → Prop} : ∀ {as : List α}, (∀ a ∈ as, P a a) → All2 P as as
  | [], _ => trivial
  | a :: as, h => ⟨h a (by simp), All2.self fun x hx => h x (by simp [hx])⟩
theorem reads_lo {q : Kd} {n : Nat} (g : Gd n q) (hn : n ≤ 300) {l o : List (Key × D)} {rs : List D} (h : LoParts q l o rs) : Reads q (.dct l) (.dct o) (.lst rs) := by
  obtain ⟨⟨qs, h1, h2, rfl⟩, ⟨os, h3, h4, rfl⟩, h5⟩ := h
  obtain ⟨a1, a2, a3⟩ := links_gen g (ps := qs.map fun q => (q.1, .lst (q.2.map D.str))) (by rw [List.map_map]; exact h1) fun p hp => by
    obtain ⟨x, hx, rfl⟩ := List.mem_map.mp hp
    obtain ⟨ys, m, pm⟩ := h2 x hx
    exact ⟨x.2, ys, m, pm, .inl rfl⟩
  obtain ⟨b1, b2, b3⟩ := own_gen g h3 h4
  obtain ⟨c1, c2⟩ := rules_end g hn (h5.imp fun _ _ x => x)
  exact ⟨a2, a3, b2, b3, c2, a1, b1, c1⟩
theorem reads_self {q : Kd} {n : Nat} (g : Gd n q) (hn : n ≤ 300) : Reads q (.dct (encL q.leads)) (.dct (enc q.own)) (.lst q.rules) := by
  obtain ⟨a1, a2, a3⟩ := links_gen g (ps := lead q) (by rw [lead_keys]) fun p hp => by
    obtain ⟨x, hx, rfl⟩ := List.mem_map.mp hp
    exact ⟨x.2, x.2, hx, List.Perm.refl _, .inr rfl⟩
  obtain ⟨b1, b2, b3⟩ := own_gen g (List.Perm.refl _) fun p hp => by
    obtain ⟨es, e, _, _⟩ := ans_t g.ls.nm (g.oa p hp)
    exact ⟨es.map D.str, by rw [← (show p.2 = .tup (es.map D.str) from e)]; exact hp, .inr e⟩
  obtain ⟨c1, c2⟩ := rules_end g hn (All2.self fun r hr => by
    obtain ⟨r0, cs, rest, e, _⟩ := rule_shape (g.ru r hr)
    exact ⟨r0, cs, rest, cs, .tup cs, e, List.Perm.refl _, .inr rfl, .inr e⟩)
  exact ⟨a2, a3, b2, b3, c2, a1, b1, c1⟩
/-! ### the Kind -/
theorem lead_nd {q : Kd} {n : Nat} (g : Gd n q) : ((lead q).map (·.1)).Nodup := by rw [lead_keys]; exact g.ls.nd
theorem lead_t {q : Kd} {n : Nat} (g : Gd n q) : ∀ p ∈ lead q, okT 1 p.2 = true := fun p hp => by
  obtain ⟨x, hx, rfl⟩ := List.mem_map.mp hp
  exact (g.ch x hx).t 0
theorem own_t {q : Kd} {n : Nat} (g : Gd n q) : ∀ p ∈ q.own, okT 1 p.2 = true := fun p hp => by
  obtain ⟨es, e, h1, h2⟩ := ans_t g.ls.nm (g.oa p hp)
  rw [e]
  exact okT_tps (by omega) h2 0
theorem rules_t {q : Kd} {n : Nat} (g : Gd n q) : ∀ r ∈ q.rules, okT 2 r = true := fun r hr => rule_t g.ls.nm (g.ru r hr)
theorem immL_all : ∀ {ds : List D}, (∀ d ∈ ds, imm d = true) → immL ds = true
  | [], _ => rfl
  | d :: ds, h => by simp only [immL, Bool.and_eq_true]; exact ⟨h d (by simp), immL_all fun x hx => h x (by simp [hx])⟩
theorem kfok {q : Kd} {n : Nat} (g : Gd n q) : KfOk (kfOf q) := by
  refine ⟨⟨skey_nd (lead_nd g), fun p hp => okT_imm 1 _ (lead_t g p ((skey_mem (lead_nd g)).mp hp)), ?_⟩, ⟨skey_nd g.on, fun p hp => okT_imm 1 _ (own_t g p ((skey_mem g.on).mp hp)), ?_⟩, immL_all fun r hr => okT_imm 2 _ (rules_t g r hr)⟩
  · show (skey (lead q)).length ≤ 300
    rw [skey_len]
    have := g.ls.len
    unfold lead
    simp only [List.length_map] at this ⊢
    omega
  · show (skey q.own).length ≤ 300
    rw [skey_len]
    have := g.ol
    omega
theorem kdok {q : Kd} {n : Nat} (g : Gd n q) (hn : n ≤ 300) : KdOk q := by
  refine ⟨g.ls.nd, by have := g.ls.len; simp only [List.length_map] at this; omega, fun p hp => by have := (g.ch p hp).le; omega, g.on, by have := g.ol; omega, fun p hp => ?_, by have := g.rl; omega, fun r hr => ⟨okT_imm 2 _ (rules_t g r hr), ?_⟩⟩
  · obtain ⟨es, e, h1, h2⟩ := ans_t g.ls.nm (g.oa p hp)
    refine ⟨_, e, ?_⟩
    have := okT_imm 1 _ (own_t g p hp)
    rw [e] at this
    simpa only [imm] using this
  · obtain ⟨r0, cs, rest, e, h1, h2⟩ := rule_shape (g.ru r hr)
    exact ⟨r0, cs, rest, e, by omega, by omega⟩
/-! ### told as due -/
theorem like_dct {n : Nat} {ps : List (Str × D)} (nd : (ps.map (·.1)).Nodup) (hl : ps.length < 64) (hm : ∀ p ∈ ps, isNm p.1 = true) (hv : ∀ p ∈ ps, likeD n p.2 p.2) : likeD (n + 1) (.dct (enc (skey ps))) (.dct (enc ps)) := by
  have ek : ∀ qs : List (Str × D), (enc qs).map (·.1) = (qs.map (·.1)).map Sum.inr := fun qs => by simp [enc]
  have nmk : ∀ x ∈ ps.map (·.1), txtOk x = true := fun x hx => by
    obtain ⟨p, hp, rfl⟩ := List.mem_map.mp hx
    exact nm_ok (hm p hp)
  refine ⟨⟨srt (ps.map (·.1)), ps.map (·.1), by rw [ek, skey_keys], ek ps, srt_of_perm (srt_perm _), by rw [srt_len, List.length_map]; exact hl, by simpa using hl, fun x hx => nmk x ((srt_perm _).mem_iff.mp hx), nmk⟩, by rw [ek]; exact nodup_inr nd, fun k d m => ?_⟩
  obtain ⟨p, hp, e⟩ := List.mem_map.mp m
  cases e
  exact ⟨p.2, by rw [valD_enc, skey_look nd]; exact look_mem nd hp, hv p hp⟩
theorem told_like {q : Kd} {n : Nat} (g : Gd n q) (hn : n ≤ 300) : likeD 5 (.lst (toldP (kfOf q))) (.lst (dueP q)) := by
  refine ⟨rfl, by simp [dueP], fun i d d' e1 e2 => ?_⟩
  match i, e1, e2 with
  | 0, e1, e2 => cases e1; cases e2; exact ⟨rfl, rfl⟩
  | 1, e1, e2 => cases e1; cases e2; exact ⟨rfl, rfl⟩
  | 2, e1, e2 =>
    cases e1; cases e2
    refine like_le (n := 3) (like_dct (ps := lead q) (lead_nd g) ?_ ?_ fun p hp => like_refl 1 _ (lead_t g p hp)) (by decide)
    · have := g.ls.len; unfold lead; simp only [List.length_map] at this ⊢; omega
    · intro p hp
      exact g.ls.nm p.1 (by rw [← lead_keys]; exact List.mem_map.mpr ⟨p, hp, rfl⟩)
  | 3, e1, e2 =>
    cases e1; cases e2
    exact like_le (n := 3) (like_dct (ps := q.own) g.on (by have := g.ol; omega) g.om fun p hp => like_refl 1 _ (own_t g p hp)) (by decide)
  | 4, e1, e2 =>
    cases e1; cases e2
    refine ⟨rfl, by have := g.rl; omega, fun i d d' e1 e2 => ?_⟩
    have : (q.rules)[i]? = some d := e1
    rw [this] at e2
    cases e2
    exact like_refl 2 _ (rules_t g d (List.mem_of_getElem? this))
  | i + 5, e1, e2 => simp [toldP] at e1
/-! ### equal and not -/
theorem hits_def {a b : List (Str × D)} (ha : ∀ p ∈ a, okT 1 p.2 = true) (hb : ∀ p ∈ b, okT 1 p.2 = true) : ∃ r, dctHits (enc b) (enc a) = some r ∧ (r = true → ∀ p ∈ a, p.1 ∈ b.map (·.1)) := by
  induction a with
  | nil => exact ⟨true, rfl, fun _ p hp => by cases hp⟩
  | cons p a ih =>
    obtain ⟨x, d⟩ := p
    obtain ⟨r, e, hr⟩ := ih fun p hp => ha p (by simp [hp])
    have ec : enc ((x, d) :: a) = (Sum.inr x, d) :: enc a := rfl
    rw [ec]
    simp only [dctHits, valD_enc, e]
    cases h : b.lookup x with
    | none => exact ⟨false, rfl, fun z => by cases z⟩
    | some u =>
      obtain ⟨t, et⟩ := eqPD_def (n := 1) (by decide) (a := d) (b := u) (ha (x, d) (by simp)) (hb _ (mem_look h))
      simp only [et]
      refine ⟨t && r, rfl, fun z p hp => ?_⟩
      rw [Bool.and_eq_true] at z
      rcases List.mem_cons.mp hp with rfl | hp
      · exact List.mem_map.mpr ⟨_, mem_look h, rfl⟩
      · exact hr z.2 p hp
theorem hits_refl {a b : List (Str × D)} (ha : ∀ p ∈ a, okT 1 p.2 = true ∧ b.lookup p.1 = some p.2) : dctHits (enc b) (enc a) = some true := by
  induction a with
  | nil => rfl
  | cons p a ih =>
    obtain ⟨x, d⟩ := p
    have ec : enc ((x, d) :: a) = (Sum.inr x, d) :: enc a := rfl
    have h0 := ha (x, d) (by simp)
    rw [ec]
    simp only [dctHits, valD_enc, ih fun p hp => ha p (by simp [hp]), h0.2, eqPD_refl (n := 1) (by decide) h0.1]
    rfl
theorem eqPs_self {a : List (Str × D)} (nd : (a.map (·.1)).Nodup) (ha : ∀ p ∈ a, okT 1 p.2 = true) : eqPs a a = some true := by
  unfold eqPs
  rw [hits_refl fun p hp => ⟨ha p hp, look_mem nd hp⟩]
  simp
theorem eqPs_def {a b : List (Str × D)} (ha : ∀ p ∈ a, okT 1 p.2 = true) (hb : ∀ p ∈ b, okT 1 p.2 = true) : ∃ r, eqPs a b = some r ∧ (r = true → a.length = b.length ∧ ∀ p ∈ a, p.1 ∈ b.map (·.1)) := by
  obtain ⟨r, e, h⟩ := hits_def ha hb
  unfold eqPs
  rw [e]
  refine ⟨_, rfl, fun z => ?_⟩
  rw [Bool.and_eq_true] at z
  exact ⟨by simpa using z.1, h z.2⟩
theorem sk_t {ps : List (Str × D)} (nd : (ps.map (·.1)).Nodup) (h : ∀ p ∈ ps, okT 1 p.2 = true) : ∀ p ∈ skey ps, okT 1 p.2 = true := fun p hp => h p ((skey_mem nd).mp hp)
theorem kind_eq {q : Kd} {n : Nat} (g : Gd n q) {K : PySem.W.Frag} {C : Addr} (ct : ClsT K C) {R : DK} (h : R (.bl true)) : sp_Kind_eq K C [(kfOf q).d C, (kfOf q).d C] R := by
  obtain ⟨r, e, _, hr⟩ := eqRs_def (n := 2) (by decide) (rules_t g) (rules_t g)
  have := hr rfl
  subst this
  refine ⟨kfOf q, kfOf q, true, true, true, rfl, ct, eqPs_self (skey_nd (lead_nd g)) (sk_t (lead_nd g) (lead_t g)), eqPs_self (skey_nd g.on) (sk_t g.on (own_t g)), e, ?_⟩
  simpa using h
theorem kind_cmp {q q' : Kd} {n n' : Nat} (g : Gd n q) (g' : Gd n' q') {K : PySem.W.Frag} {C : Addr} (ct : ClsT K C) {R : DK} (h : R (.bl false))
    (hd : q.nm = q'.nm → q.hid = q'.hid → (q.ls.length = q'.ls.length ∧ ∀ x ∈ q.ls, x ∈ q'.ls) → (q.own.length = q'.own.length ∧ ∀ x ∈ q.own.map (·.1), x ∈ q'.own.map (·.1)) → q.rules.length = q'.rules.length → False) :
    sp_Kind_eq K C [(kfOf q).d C, (kfOf q').d C] R := by
  obtain ⟨r3, e3, h3, _⟩ := eqRs_def (n := 2) (by decide) (rules_t g) (rules_t g')
  obtain ⟨r1, e1, h1⟩ := eqPs_def (sk_t (lead_nd g) (lead_t g)) (sk_t (lead_nd g') (lead_t g'))
  obtain ⟨r2, e2, h2⟩ := eqPs_def (sk_t g.on (own_t g)) (sk_t g'.on (own_t g'))
  refine ⟨kfOf q, kfOf q', r1, r2, r3, rfl, ct, e1, e2, e3, ?_⟩
  have : (decide ((kfOf q).nm = (kfOf q').nm) && decide ((kfOf q).h = (kfOf q').h) && (r1 && (r2 && r3))) = false := by
    cases hh : (decide ((kfOf q).nm = (kfOf q').nm) && decide ((kfOf q).h = (kfOf q').h) && (r1 && (r2 && r3))) with
    | false => rfl
    | true =>
      simp only [Bool.and_eq_true, decide_eq_true_eq] at hh
      obtain ⟨⟨en, eh⟩, z1, z2, z3⟩ := hh
      obtain ⟨l1, m1⟩ := h1 z1
      obtain ⟨l2, m2⟩ := h2 z2
      refine (hd en eh ⟨?_, fun x hx => ?_⟩ ⟨?_, fun x hx => ?_⟩ (h3 z3)).elim
      · rw [skey_len, skey_len] at l1
        unfold lead at l1
        simpa using l1
      · rw [← lead_keys] at hx
        obtain ⟨p, hp, rfl⟩ := List.mem_map.mp hx
        have := m1 p ((skey_mem (lead_nd g)).mpr hp)
        rw [skey_keys, lead_keys] at this
        exact (srt_perm _).mem_iff.mp this
      · rw [skey_len, skey_len] at l2
        exact l2
      · obtain ⟨p, hp, rfl⟩ := List.mem_map.mp hx
        have := m2 p ((skey_mem g.on).mpr hp)
        rw [skey_keys] at this
        exact (srt_perm _).mem_iff.mp this
  rw [this]
  exact h
theorem changed_gd {q q' : Kd} {n : Nat} (g : Gd n q) (h : Changed q q') : Gd (n + 1) q' := by
  rcases h with ⟨x, hx, _, rfl⟩ | ⟨x, hx, _, rfl⟩ | ⟨x, hx, _, rfl⟩ | rfl | rfl
  · exact ⟨hx, g.ls, g.ch, g.on, g.ol, g.om, g.oa, Nat.le_succ_of_le g.rl, g.ru⟩
  · refine ⟨g.nm, ⟨by simp [Kd.ls], by simp [Kd.ls], fun y hy => ?_⟩, fun p hp => ?_, by simp, by simp, fun p hp => (by cases hp), fun p hp => (by cases hp), by simp, fun r hr => (by cases hr)⟩
    · simp at hy; subst hy; exact hx
    · simp at hp; subst hp
      exact ⟨by simp, by simp, by simp, fun y hy => by simp at hy; subst hy; decide +kernel, srt_id (by simp)⟩
  · refine ⟨g.nm, g.ls, g.ch, by simp, by simp, fun p hp => ?_, fun p hp => ?_, Nat.le_succ_of_le g.rl, g.ru⟩
    · simp at hp; subst hp; exact hx
    · simp at hp; subst hp; exact .inr (.inl rfl)
  · refine ⟨g.nm, g.ls, g.ch, g.on, g.ol, g.om, g.oa, by simp; exact g.rl, fun r hr => ?_⟩
    rcases List.mem_append.mp hr with hr | hr
    · exact g.ru r hr
    · simp at hr; subst hr
      exact ⟨[], ⟨by simp, by simp, fun y hy => (by cases hy), srt_id (by simp)⟩, .inl rfl⟩
  · exact ⟨g.nm, g.ls, g.ch, g.on, g.ol, g.om, g.oa, Nat.le_succ_of_le g.rl, g.ru⟩
theorem changed_ne {q q' : Kd} {n : Nat} (g : Gd n q) (h : Changed q q') {K : PySem.W.Frag} {C : Addr} (ct : ClsT K C) {R : DK} (hR : R (.bl false)) : sp_Kind_eq K C [(kfOf q).d C, (kfOf q').d C] R := by
  refine kind_cmp g (changed_gd g h) ct hR fun e1 e2 e3 e4 e5 => ?_
  rcases h with ⟨x, hx, hn, rfl⟩ | ⟨x, hx, hn, rfl⟩ | ⟨x, hx, hn, rfl⟩ | rfl | rfl
  · exact hn e1.symm
  · obtain ⟨l1, m1⟩ := e3
    simp only [Kd.ls, List.map_cons, List.map_nil, List.length_cons, List.length_nil] at l1 m1
    obtain ⟨y, hy⟩ := List.length_eq_one_iff.mp l1
    have hm : y ∈ q.leads.map (·.1) := by rw [hy]; simp
    have := m1 y hm
    simp at this
    subst this
    exact hn hm
  · obtain ⟨l1, m1⟩ := e4
    simp only [List.map_cons, List.map_nil, List.length_cons, List.length_nil] at l1 m1
    obtain ⟨y, hy⟩ := List.length_eq_one_iff.mp (show (q.own.map (·.1)).length = 1 by simpa using l1)
    have hm : y ∈ q.own.map (·.1) := by rw [hy]; simp
    have := m1 y hm
    simp at this
    subst this
    exact hn hm
  · simp at e5
  · simp at e2
theorem changed_en {q q' : Kd} {n : Nat} (g : Gd n q) (h : Changed q q') {K : PySem.W.Frag} {C : Addr} (ct : ClsT K C) {R : DK} (hR : R (.bl false)) : sp_Kind_eq K C [(kfOf q').d C, (kfOf q).d C] R := by
  refine kind_cmp (changed_gd g h) g ct hR fun e1 e2 e3 e4 e5 => ?_
  rcases h with ⟨x, hx, hn, rfl⟩ | ⟨x, hx, hn, rfl⟩ | ⟨x, hx, hn, rfl⟩ | rfl | rfl
  · exact hn e1
  · exact hn (e3.2 x (by simp [Kd.ls]))
  · exact hn (e4.2 x (by simp))
  · simp at e5
  · simp at e2
/-! ### names -/
theorem has_own {q : Kd} {n : Nat} (g : Gd n q) {x : Str} (h : x ∈ q.own.map (·.1)) : ∃ d, (kfOf q).o.lookup x = some d ∧ valD (enc q.own) (.inr x) = some d ∧ likeD 2 d d := by
  obtain ⟨d, e⟩ := lookup_some h
  exact ⟨d, by show (skey q.own).lookup x = _; rw [skey_look g.on, e], by rw [valD_enc, e], like_refl 1 _ (own_t g _ (mem_look e))⟩
theorem not_has {q : Kd} {n : Nat} (g : Gd n q) {x : Str} (h : x ∉ q.own.map (·.1)) : hasO (kfOf q) (.str x) = false := by
  show ((skey q.own).lookup x).isSome = false
  rw [skey_look g.on]
  cases e : q.own.lookup x with
  | none => rfl
  | some d => exact absurd (List.mem_map.mpr ⟨_, mem_look e, rfl⟩) h
theorem not_nm {q : Kd} {n : Nat} (g : Gd n q) {x : Str} (h : isNm x = false) : hasO (kfOf q) (.str x) = false := not_has g fun m => by
  obtain ⟨p, hp, rfl⟩ := List.mem_map.mp m
  rw [g.om p hp] at h
  cases h
/-! ### drawn kinds -/
theorem okkd_gd {ks asked : List Str} {n A : Nat} {q : Kd} (hk : ∀ x ∈ ks, isNm x = true) (ha : Names asked A) (hn : isNm q.nm = true) (h : okKd ks asked 2 n q) : Gd n q := by
  refine ⟨hn, h.ls, fun p hp => ?_, h.own.nd, h.own.len, fun p hp => ha.nm _ (h.own.key p hp), h.own.ans, h.rl, fun r hr => ?_⟩
  · obtain ⟨a, b, c, d, e⟩ := h.ch p hp
    refine ⟨a, b, c, fun y hy => ?_, e⟩
    rcases d y hy with rfl | m
    · decide +kernel
    · exact nm_wd (hk y m)
  · obtain ⟨cs, ⟨c1, c2, c3, c4⟩, h⟩ := h.ru r hr
    refine ⟨cs, ⟨c1, c2, fun y hy => ha.nm y (c3 y hy), c4⟩, ?_⟩
    rcases h with e | e | e | e | ⟨l, hm, u, x, b, hu, hmm, e⟩
    · exact .inl e
    · exact .inr (.inl e)
    · exact .inr (.inr (.inl e))
    · exact .inr (.inr (.inr (.inl e)))
    · refine .inr (.inr (.inr (.inr ⟨l, hm, u, x, b, ?_, hmm, e⟩)))
      rcases hu with rfl | m
      · decide +kernel
      · exact nm_wd (ha.nm u m)
theorem okhs_gd {K A n : Nat} {hs : List Kd} (h : okHs K 2 A n hs) : ∀ q ∈ hs, Gd n q := fun q hq => by
  obtain ⟨asked, _, ha, hk⟩ := h.kd
  exact okkd_gd h.ks.nm ha (h.ks.nm _ (List.mem_map.mpr ⟨q, hq, rfl⟩)) (hk q hq)
end Tr
end
section
namespace Tr
open PySem PySem.Spec L2
/-! ### what stands of old lies apart -/
def Apart (K : PySem.W.Frag) (H : Hp) : Prop := ∀ a o, K.lookup a = some o → H a = none
theorem inv_apart {X : Cx} {pins : List (Addr × Obj)} {σ : L2.St} {H : Hp} {s : Shared} (I : Inv X pins σ H s) : Apart X.K H := fun a o h => (I.bs a o (I.mod.kin a o h)).2
theorem pss_apart {X : Cx} {sts : List Stmt} {t : TS} (h : PSs X sts t) : PSs X sts (fun D σ H => Apart X.K H → t D σ H) := ⟨fun pins s σ H D I k => h.run pins s σ H D I (k (inv_apart I))⟩
/-! ### a frame from scratch -/
theorem J.start {K : PySem.W.Frag} {z : Zo} {B : Addr → Prop} {H : Hp} {σ : L2.St} {ρ : Ev} (hz : StOk z H) (hB : ∀ b, B b → H b ≠ none) (hl : ρ.length = σ.length) (hs : ∀ (i : Nat) b o, ρ[i]? = some b → σ[i]? = some o → SlotR K ⟨z, B, H, [], []⟩ (fun _ => False) H b o) (ho : ∀ b ∈ ρ, b.own = false) :
    J K ⟨z, B, H, [], []⟩ (fun _ => False) σ H ρ := by
  refine ⟨Fr.refl, hz, hz, hB, fun _ h => h.elim, fun _ h => h.elim, hl, hs, fun i j p ⟨⟨b, e1, e2⟩, _⟩ _ => ?_, fun q hq => absurd hq (by simp), fun q hq => absurd hq (by simp)⟩
  rw [ho b (List.mem_of_getElem? e1)] at e2
  cases e2
/-! ### x[i], a dict, walked through -/
section
variable {X : Cx} {s : Sg} {pos : Pos}
def wIxP (i : Nat) (s : Sg) (n : Int) : TDE := fun ρ R => wV s i ρ fun x => ∃ ds d, x = .lst ds ∧ atI ds n = some d ∧ R d
theorem path_ix (i : Nat) {x : Str} {n : Int} {p1 p2 : Pos} {kd : Nat} (hs : s ≠ .t := by decide) (hN : X.N[i]? = some x := by rfl) (hv : Vis X.env.scope x := by first | exact Or.inl rfl | exact Or.inr (Or.inl rfl) | exact Or.inr (Or.inr rfl)) (hd : (x == ("__debug__" : Str)) = false := by decide) (hcd : (x == ("__classdict__" : Str)) = false := by decide) :
    PathOk X s (.Subscript (.Name x p1) (.Constant (.int n) kd p2) pos) (tOp (rIx X.K) (tVar i) (tC (.int n))) (wIxP i s n) (fun σ H v => ∃ a vs, σ[i]? = some (some (.ref a)) ∧ nz H a = some (.lst vs) ∧ atI vs n = some v) := by
  refine ⟨pe_ix ix_seq (pe_var hN hv hd hcd) pe_int (fun _ _ => rfl), fun σ H Q v ⟨a, vs, h1, h2, h3⟩ q => ⟨_, h1, .inl ⟨a, vs, n, v, rfl, rfl, .inl (rd_lst h2), h3, q⟩⟩, fun g M σ H ρ R j hw => ?_, fun σ H v a o k ⟨b, vs, h1, h2, h3⟩ h => ⟨b, vs, h1, ?_, h3⟩⟩
  · obtain ⟨v, d, h1, h2, ds, d', e1, e2, hR⟩ := wV_get hs j hw
    subst e1
    obtain ⟨a, vs, rfl, _, h3, h4⟩ := rep_lst.mp h2
    obtain ⟨u, h6, h7⟩ := atI_rep h4 e2
    exact ⟨u, d', ⟨a, vs, h1, h3, h6⟩, h7, hR⟩
  · have nb : b ≠ a := fun z => by
      rw [z, nz_dK h] at h2; cases h2
    rw [nz_upd_ne nb]; exact h2
end
/-! ### for x in l: x.clear(), l of three -/
theorem clr_for3 {K : PySem.W.Frag} {D : Ends} {σ : L2.St} {H : Hp} {r a b c : Addr} {n m : Nat} {la lb : List (Key × V)} {lc : List V} (hn : n < σ.length) (hr : H r = some (.lst [.ref a, .ref b, .ref c])) (ha : H a = some (.dK la)) (hb : H b = some (.dK lb)) (hc : H c = some (.lst lc)) (nrc : r ≠ c) (hm : σ[m]? = some (some (.ref r)))
    (k : ∀ σ' H', σ'.length = σ.length → (∀ j, j ≠ n → σ'[j]? = σ[j]?) → ClrTo (fun p => p = a ∨ p = b ∨ p = c) H H' → D.nx σ' H') : tFor (iList K (tVar m)) (gName n) (tDrop (tClr (tVar n))) D σ H := by
  refine ⟨_, hm, r, rfl, ⟨_, SqL.of hr⟩, ?_⟩
  have na : r ≠ a := fun z => by rw [z, ha] at hr; cases hr
  have nb : r ≠ b := fun z => by rw [z, hb] at hr; cases hr
  have hq : ∀ H', ClrTo (fun p => p = a ∨ p = b ∨ p = c) H H' → SqL K H' r [.ref a, .ref b, .ref c] := fun H' h => SqL.of (by rw [h.out r (fun z => z.elim na fun z => z.elim nb nrc)]; exact hr)
  have W0 := walk_list (K := K) (a := r) (xs := [.ref a, .ref b, .ref c])
  refine for_any (n := 3) (fun i σ' H' => σ'.length = σ.length ∧ (∀ j, j ≠ n → σ'[j]? = σ[j]?) ∧ ClrTo (fun p => p = a ∨ p = b ∨ p = c) H H') ⟨rfl, fun _ _ => rfl, ClrTo.refl⟩ (fun i σ' H' h hi => W0.goes i H' hi (hq H' h.2.2)) (fun σ' H' h => ⟨W0.stops H' (hq H' h.2.2), k σ' H' h.1 h.2.1 h.2.2⟩) (fun i σ' H' x H2 h hi y => ?_)
  obtain ⟨e3, e4⟩ := W0.yields i H' x H2 hi (hq H' h.2.2) y
  subst e3
  have hx : ∃ p, x = .ref p ∧ (p = a ∨ p = b ∨ p = c) ∧ Clr H p := by
    have := List.mem_of_getElem? e4
    simp only [List.mem_cons, List.not_mem_nil, or_false] at this
    rcases this with rfl | rfl | rfl
    · exact ⟨a, rfl, .inl rfl, .inr ⟨_, ha⟩⟩
    · exact ⟨b, rfl, .inr (.inl rfl), .inr ⟨_, hb⟩⟩
    · exact ⟨c, rfl, .inr (.inr rfl), .inl ⟨_, hc⟩⟩
  obtain ⟨p, rfl, hp, hcp⟩ := hx
  refine ⟨.ref p, by rw [List.getElem?_set_self (by rw [h.1]; exact hn)], p, rfl, h.2.2.in_ p hp hcp, fun H3 h3 => ⟨by simp [h.1], fun j hj => ?_, h.2.2.trans (h3.mono (fun b hb => by have e : b = p := hb; subst e; exact hp) fun b _ nb => h3.out b nb)⟩⟩
  rw [List.getElem?_set_ne (Ne.symm hj)]
  exact h.2.1 j hj
/-! ### the loose parts in the heap -/
section
variable {K : PySem.W.Frag} {z : Zo} {NA : Addr → Prop} {H : Hp}
theorem lst_raw (nf : ∀ b x y, ¬ NA b → H b ≠ some (.frz x y)) {a : Addr} {o : HO} (n : ¬ NA a) (h : nz H a = some o) : H a = some o := by
  rcases nz_cases h with h | ⟨x, h⟩
  · exact h
  · exact absurd h (nf a x o n)
theorem strs_rep {xs : List Str} {vs : List V} (r : RepL K z NA H (xs.map D.str) vs) : vs = xs.map V.str := by
  induction xs generalizing vs with
  | nil => exact repL_nil.mp r
  | cons x xs ih =>
    obtain ⟨u, us, rfl, r1, r2⟩ := repL_cons.mp r
    rw [rep_str.mp r1, ih r2]
    rfl
theorem repK_mem {l : List (Key × D)} {ws : List (Key × V)} (r : RepK K z NA H l ws) : ∀ q ∈ ws, ∃ d, (q.1, d) ∈ l ∧ Rep K z NA H d q.2 := by
  induction l generalizing ws with
  | nil => simp only [RepK] at r; subst r; intro q hq; cases hq
  | cons p l ih =>
    obtain ⟨k, d⟩ := p
    simp only [RepK] at r
    obtain ⟨u, us, rfl, r1, r2⟩ := r
    intro q hq
    rcases List.mem_cons.mp hq with rfl | hq
    · exact ⟨d, by simp, r1⟩
    · obtain ⟨d', m, r'⟩ := ih r2 q hq
      exact ⟨d', by simp [m], r'⟩
theorem repL_mem {l : List D} {ws : List V} (r : RepL K z NA H l ws) : ∀ q ∈ ws, ∃ d, d ∈ l ∧ Rep K z NA H d q := by
  induction l generalizing ws with
  | nil => rw [repL_nil.mp r]; intro q hq; cases hq
  | cons d l ih =>
    obtain ⟨u, us, rfl, r1, r2⟩ := repL_cons.mp r
    intro q hq
    rcases List.mem_cons.mp hq with rfl | hq
    · exact ⟨d, by simp, r1⟩
    · obtain ⟨d', m, r'⟩ := ih r2 q hq
      exact ⟨d', by simp [m], r'⟩
theorem repK_len {l : List (Key × D)} {ws : List (Key × V)} (r : RepK K z NA H l ws) : ws.length = l.length := by
  induction l generalizing ws with
  | nil => simp only [RepK] at r; subst r; rfl
  | cons p l ih =>
    obtain ⟨k, d⟩ := p
    simp only [RepK] at r
    obtain ⟨u, us, rfl, r1, r2⟩ := r
    simp [ih r2]
theorem All2.len {α β : Type} {P : α → β → Prop} : ∀ {as : List α} {bs : List β}, All2 P as bs → as.length = bs.length
  | [], [], _ => rfl
  | [], _ :: _, x => x.elim
  | _ :: _, [], x => x.elim
  | _ :: _, _ :: _, x => by simp [All2.len x.2]
theorem All2.mem {α β : Type} {P : α → β → Prop} : ∀ {as : List α} {bs : List β}, All2 P as bs → ∀ b ∈ bs, ∃ a ∈ as, P a b
  | [], [], _, b, m => by cases m
  | [], _ :: _, x, _, _ => x.elim
  | _ :: _, [], x, _, _ => x.elim
  | a :: as, c :: bs, x, b, m => by
    rcases List.mem_cons.mp m with rfl | m
    · exact ⟨a, by simp, x.1⟩
    · obtain ⟨a', m', p⟩ := All2.mem x.2 b m
      exact ⟨a', by simp [m'], p⟩
/-- what holds of the parts -/
structure PartsR (K : PySem.W.Frag) (H : Hp) (NA : Addr → Prop) (v : V) (r a b c : Addr) (la lb : List (Key × V)) (lc : List V) : Prop where
  v : v = .ref r
  pv : PartsV K H (fun p => ¬ NA p ∧ (∃ xs, H p = some (.lst xs)) ∧ p ≠ r ∧ p ≠ c) r a b c la lb lc
  na : ¬ NA a
  nb : ¬ NA b
  nc : ¬ NA c
  rc : r ≠ c
theorem parts_of {q : Kd} {n : Nat} (g : Gd n q) (hn : n ≤ 100) (ap : Apart K H) (nf : ∀ b x y, ¬ NA b → H b ≠ some (.frz x y)) {l o : List (Key × D)} {rs : List D} (lo : LoParts q l o rs) {v : V} (rep : Rep K z NA H (.lst [.dct l, .dct o, .lst rs]) v) :
    ∃ r a b c la lb lc, PartsR K H NA v r a b c la lb lc := by
  obtain ⟨r, vs, rfl, nr, hr, rr⟩ := rep_lst.mp rep
  obtain ⟨v1, vs1, rfl, r1, rr⟩ := repL_cons.mp rr
  obtain ⟨v2, vs2, rfl, r2, rr⟩ := repL_cons.mp rr
  obtain ⟨v3, vs3, rfl, r3, rr⟩ := repL_cons.mp rr
  rw [repL_nil.mp rr] at hr
  obtain ⟨a, la, rfl, na, ha, ra⟩ := rep_dct.mp r1
  obtain ⟨b, lb, rfl, nb, hb, rb⟩ := rep_dct.mp r2
  obtain ⟨c, lc, rfl, nc, hc, rc⟩ := rep_lst.mp r3
  have hr := lst_raw nf nr hr
  have ha := lst_raw nf na ha
  have hb := lst_raw nf nb hb
  have hc := lst_raw nf nc hc
  obtain ⟨⟨qs, h1, h2, rfl⟩, ⟨os, h3, h4, rfl⟩, h5⟩ := lo
  have rulesOk : ∀ d ∈ rs, ∃ (x : Str) (m : D) (rest : List D) (zs : List Str), LoD (.str x :: m :: rest) d ∧ LoD (zs.map D.str) m ∧ zs.length ≤ 4 ∧ rest.length ≤ 4 := fun d hd => by
    obtain ⟨r, hrm, r0, cs, rest, cs', m, e, pm, lm, ld⟩ := h5.mem d hd
    obtain ⟨ys, hy, h⟩ := g.ru r hrm
    have key : cs = ys.map D.str → ∃ zs : List Str, LoD (zs.map D.str) m ∧ zs.length ≤ 4 := fun e => by
      subst e
      obtain ⟨zs, rfl, pz⟩ := perm_strs2 pm
      exact ⟨zs, lm, by have := pz.length_eq; have := hy.le; omega⟩
    rcases h with e' | e' | ⟨v, _, e'⟩ | ⟨l, _, x, _, e'⟩ | ⟨l, _, u, x, bb, _, _, e'⟩ <;> rw [e] at e' <;> cases e' <;> obtain ⟨zs, lz, hz⟩ := key rfl <;> exact ⟨_, _, _, zs, ld, lz, hz, by simp⟩
  -- r is not c
  have nrc : r ≠ c := fun e => by
    subst e
    rw [hr] at hc
    cases hc
    obtain ⟨d, hd, rd⟩ := repL_mem rc (.ref a) (by simp)
    obtain ⟨x, m, rest, zs, ld, _⟩ := rulesOk d hd
    rcases ld with rfl | rfl
    · obtain ⟨p, us, e, _, hp, _⟩ := rep_lst.mp rd
      cases e
      rw [nz_dK ha] at hp; cases hp
    · obtain ⟨p, us, e, hp, _⟩ := rep_tup.mp rd
      cases e
      rcases hp with hp | ⟨o, its, k, hk, _⟩
      · rw [nz_dK ha] at hp; cases hp
      · rw [ap _ _ hk] at ha; cases ha
  -- a list of texts is neither
  have lcref : ∀ u ∈ lc, ∃ p, u = .ref p := fun u hu => by
    obtain ⟨d, hd, rd⟩ := repL_mem rc u hu
    obtain ⟨x, m, rest, zs, ld, _⟩ := rulesOk d hd
    rcases ld with rfl | rfl
    · obtain ⟨p, us, e, _⟩ := rep_lst.mp rd; exact ⟨p, e⟩
    · obtain ⟨p, us, e, _⟩ := rep_tup.mp rd; exact ⟨p, e⟩
  have neR : ∀ {p : Addr} {x : Str} {us : List V}, H p = some (.lst (.str x :: us)) → p ≠ r ∧ p ≠ c := fun {p x us} hp => by
    refine ⟨fun e => ?_, fun e => ?_⟩
    · subst e; rw [hr] at hp; cases hp
    · subst e; rw [hc] at hp; cases hp
      obtain ⟨p', e⟩ := lcref (.str x) (by simp)
      cases e
  refine ⟨r, a, b, c, la, lb, lc, rfl, ⟨fun p hp => hp.2.1, hr, fun h => h.2.2.1 rfl, ha, hb, hc, fun h => h.2.2.2 rfl, fun u hu => ?_, fun u hu => ?_, fun u hu => ?_, ?_, ?_, ?_⟩, na, nb, nc, nrc⟩
  · obtain ⟨d, hd, rd⟩ := repK_mem ra u hu
    obtain ⟨w, hw, e⟩ := List.mem_map.mp hd
    obtain ⟨y, hy, rfl⟩ := List.mem_map.mp hw
    have e2 : D.lst (y.2.map D.str) = d := congrArg Prod.snd e
    subst e2
    obtain ⟨ys, m, pm⟩ := h2 y hy
    have okc := g.ch _ m
    obtain ⟨p, us, e, np, hp, rp⟩ := rep_lst.mp rd
    have hp := lst_raw nf np hp
    have := strs_rep rp
    subst this
    have hne : y.2 ≠ [] := fun e => okc.ne (by have := pm.length_eq; rw [e] at this; exact List.length_eq_zero_iff.mp this.symm)
    have nn : p ≠ r ∧ p ≠ c := by
      cases e2 : y.2 with
      | nil => exact absurd e2 hne
      | cons x xs => rw [e2] at hp; exact neR hp
    exact ⟨p, _, e, ⟨np, ⟨_, hp⟩, nn.1, nn.2⟩, hp, by rw [List.length_map, pm.length_eq]; have : ys.length ≤ 4 := okc.le; omega⟩
  · obtain ⟨d, hd, rd⟩ := repK_mem rb u hu
    obtain ⟨w, hw, e⟩ := List.mem_map.mp hd
    have e2 : w.2 = d := congrArg Prod.snd e
    subst e2
    obtain ⟨es, m, ld⟩ := h4 w hw
    obtain ⟨xs, ex, hl, hx⟩ := ans_t g.ls.nm (g.oa _ m)
    cases ex
    have hne : xs ≠ [] := fun e => by
      subst e
      rcases g.oa _ m with ⟨v, _, e⟩ | e | ⟨l, _, e⟩ <;> cases e
    rcases ld with e' | e'
    · rw [e'] at rd
      obtain ⟨p, us, e, np, hp, rp⟩ := rep_lst.mp rd
      have hp := lst_raw nf np hp
      have := strs_rep rp
      subst this
      have nn : p ≠ r ∧ p ≠ c := by
        cases e2 : xs with
        | nil => exact absurd e2 hne
        | cons x xs => rw [e2] at hp; exact neR hp
      exact .inl ⟨p, _, e, ⟨np, ⟨_, hp⟩, nn.1, nn.2⟩, hp, by rw [List.length_map]; omega⟩
    · rw [e'] at rd
      obtain ⟨p, us, e, hp, rp⟩ := rep_tup.mp rd
      refine .inr ⟨p, us, e, fun hS => ?_, ?_⟩
      · obtain ⟨_, ⟨xs', hx'⟩, _⟩ := hS
        rcases hp with hp | ⟨o, its, k, hk, _⟩
        · rw [nz_lst hx'] at hp; cases hp
        · rw [ap _ _ hk] at hx'; cases hx'
      · exact hp.imp raw_tup id
  · obtain ⟨d, hd, rd⟩ := repL_mem rc u hu
    obtain ⟨x, m, rest, zs, ld, lm, hz, hrl⟩ := rulesOk d hd
    -- the names
    have names : ∀ {w : V}, Rep K z NA H m w → LtV K H (fun p => ¬ NA p ∧ (∃ xs, H p = some (.lst xs)) ∧ p ≠ r ∧ p ≠ c) w := fun {w} rm => by
      rcases lm with e' | e'
      · rw [e'] at rm
        obtain ⟨p, us, e, np, hp, rp⟩ := rep_lst.mp rm
        have hp := lst_raw nf np hp
        have := strs_rep rp
        subst this
        have nn : p ≠ r ∧ p ≠ c := by
          cases e2 : zs with
          | nil =>
            rw [e2] at hp
            refine ⟨fun e => ?_, fun e => ?_⟩
            · subst e; rw [hr] at hp; cases hp
            · subst e; rw [hc] at hp; cases hp; cases hu
          | cons x xs => rw [e2] at hp; exact neR hp
        exact .inl ⟨p, _, e, ⟨np, ⟨_, hp⟩, nn.1, nn.2⟩, hp, by rw [List.length_map]; omega⟩
      · rw [e'] at rm
        obtain ⟨p, us, e, hp, rp⟩ := rep_tup.mp rm
        refine .inr ⟨p, us, e, fun hS => ?_, ?_⟩
        · obtain ⟨_, ⟨xs', hx'⟩, _⟩ := hS
          rcases hp with hp | ⟨o, its, k, hk, _⟩
          · rw [nz_lst hx'] at hp; cases hp
          · rw [ap _ _ hk] at hx'; cases hx'
        · exact hp.imp raw_tup id
    rcases ld with e' | e'
    · rw [e'] at rd
      obtain ⟨p, us, e, np, hp, rp⟩ := rep_lst.mp rd
      obtain ⟨u0, us0, rfl, q0, rp0⟩ := repL_cons.mp rp
      obtain ⟨u1, us1, rfl, q1, rp1⟩ := repL_cons.mp rp0
      have := rep_str.mp q0
      subst this
      have hp := lst_raw nf np hp
      have nn := neR hp
      exact ⟨p, _, u1, us1, e, names q1, .inl ⟨⟨np, ⟨_, hp⟩, nn.1, nn.2⟩, hp, by have := rp1.len; simp only [List.length_cons]; omega⟩⟩
    · rw [e'] at rd
      obtain ⟨p, us, e, hp, rp⟩ := rep_tup.mp rd
      obtain ⟨u0, us, rfl, q0, rp⟩ := repL_cons.mp rp
      obtain ⟨u1, us, rfl, q1, rp⟩ := repL_cons.mp rp
      refine ⟨p, u0, u1, us, e, names q1, .inr ⟨fun hS => ?_, hp.imp raw_tup id⟩⟩
      obtain ⟨_, ⟨xs', hx'⟩, _⟩ := hS
      rcases hp with hp | ⟨o, its, k, hk, _⟩
      · rw [nz_lst hx'] at hp; cases hp
      · rw [ap _ _ hk] at hx'; cases hx'
  · rw [repK_len ra]
    have e1 := h1.length_eq
    have := g.ls.len
    simp only [enc, List.length_map] at e1 this ⊢
    omega
  · rw [repK_len rb]
    have e1 := h3.length_eq
    have := g.ol
    simp only [enc, List.length_map] at e1 this ⊢
    omega
  · have := rc.len
    have e1 := h5.len
    have := g.rl
    omega
end
end Tr
end
section
namespace Tr
open PySem PySem.Spec L2
local macro_rules | `(tactic| walk_at "rd0") => `(tactic| simp only [wSeq, wIfS, wOr, wNot, wAnd, wT, wCall, wCons, wNil, wC, wV, wRet, wNext, wSet, bdS, wSetL, wSetD, wIf, wTup, wLst, wIsN, wNotN, w2, wChain, wAndV, wOrV, wNotV, wExp, wIt, wFor, wLc, wRg1, wItS, wD0, wD1, wSl, wO0, wO1, wJoin, wipeB, wSetLi, List.getElem?_cons_zero, List.getElem?_cons_succ, List.set_cons_zero, List.set_cons_succ, x_some, x_bl, x_int, x_str, l_P, l_I0, l_I, l_EqS, l_EqI, l_EqB, l_NeS, l_NeI, Bool.not_true, Bool.not_false, if_true, if_false, Bool.false_eq_true, eq_self_iff_true])

def t_law_1 (K : PySem.W.Frag) (CKind : Addr) : TDS := wSet .s 2 (wCall sp_L_house (wCons (wV .s 1) (wCons (wC (.int 4)) (wCons (wC (.int 2)) (wCons (wC (.int 6)) (wCons (wC (.int 7)) wNil))))))
def t_law_2 (K : PySem.W.Frag) (CKind : Addr) : TDS := wSet .s 3 (wCall sp_L_pick (wCons (wV .s 1) (wCons (wV .s 2) wNil)))
def t_law_4 (K : PySem.W.Frag) (CKind : Addr) : TDS := wIfS (wOr (wT (w2 semIx (wV .t 3) (wC (.int 4)))) (wT (w2 semEq (wCall sp_L_draw (wCons (wV .t 1) (wCons (wC (.int 2)) wNil))) (wC (.int 0))))) (wSet .s 5 (wMkK sp_Kind_init CKind (wCons (w2 semIx (wV .t 3) (wC (.int 0))) (wCons (w2 semIx (wV .t 4) (wC (.int 0))) (wCons (w2 semIx (wV .t 4) (wC (.int 1))) (wCons (w2 semIx (wV .t 4) (wC (.int 2))) wNil)))) (wCons (w2 semIx (wV .t 3) (wC (.int 4))) wNil))) (wSet .s 5 (wMk sp_Kind_init CKind (wCons (w2 semIx (wV .t 3) (wC (.int 0))) (wCons (w2 semIx (wV .t 4) (wC (.int 0))) (wCons (w2 semIx (wV .t 4) (wC (.int 1))) (wCons (w2 semIx (wV .t 4) (wC (.int 2))) wNil)))) [.bl false]))
def t_law_7 (K : PySem.W.Frag) (CKind : Addr) : TDS := wIfS (wOr (wNot (wT (wCall (sp_L_tells CKind 5) (wCons (wV .t 5) (wCons (wV .t 3) wNil))))) (wNot (wT (wCall (sp_L_tells CKind 5) (wCons (wV .t 5) (wCons (wV .t 3) wNil)))))) (wRet (wC (.bl false))) wNext
def t_law_8 (K : PySem.W.Frag) (CKind : Addr) : TDS := wFor (wItK (wIxP 3 .s 2)) (st1 .s 7)
    (wIfS (wOr (wNot (wT (w2 (semInM (sp_Kind_contains CKind) CKind false) (wV .t 7) (wV .t 5)))) (wNot (wT (wCall (sp_L_like 5) (wCons (wIxM (sp_Kind_getitem CKind) CKind (wV .t 5) (wV .t 7)) (wCons (wDGet (w2 semIx (wV .t 3) (wC (.int 2))) (wV .t 7)) wNil)))))) (wRet (wC (.bl false))) wNext)
def t_law_9 (K : PySem.W.Frag) (CKind : Addr) : TDS := wSet .s 8 (wLst (wCons (wC .non) (wCons (wC (.int 3)) (wCons (wC (.bl true)) (wCons (wTup (wCons (wC (.str "a")) wNil)) (wCons (wLst (wCons (wC (.str "a")) wNil)) (wCons (wC (.str "A")) (wCons (wC (.str "")) (wCons (wC (.str "abcdefghi")) (wCons (wNeg (wC (.int 1))) (wCons (wCall sp_L_word (wCons (wV .s 1) (wCons (wCall semLst (wCons (w2 semIx (wV .t 3) (wC (.int 2))) wNil)) wNil))) wNil)))))))))))
def t_law_10 (K : PySem.W.Frag) (CKind : Addr) : TDS := wIfS (wT (w2 semNeD (wLc (wIt (wV .s 8)) (st1 .s 7) (wNot (wT (wCall (sp_L_not_own CKind 5) (wCons (wV .t 5) (wCons (wV .t 7) wNil))))) (wV .s 7) [7]) (wLst wNil))) (wRet (wC (.bl false))) wNext
def t_law_11 (K : PySem.W.Frag) (CKind : Addr) : TDS := wSet .s 9 (wCall (sp_L_kind CKind) (wCons (wV .t 3) wNil))
def t_law_12 (K : PySem.W.Frag) (CKind : Addr) : TDS := wSet .s 10 (wCall (sp_L_kind CKind) (wCons (wCall sp_L_changed (wCons (wV .t 1) (wCons (wV .t 3) wNil))) wNil))
def t_law_13 (K : PySem.W.Frag) (CKind : Addr) : TDS := wRet (wAndV (w2 (semEqM (sp_Kind_eq K CKind) CKind) (wV .t 5) (wV .t 9)) (wAndV (w2 (semEqM (sp_Kind_eq K CKind) CKind) (wV .t 9) (wV .t 5)) (wAndV (wNotV (w2 (semEqM (sp_Kind_eq K CKind) CKind) (wV .t 5) (wV .t 10))) (wNotV (w2 (semEqM (sp_Kind_eq K CKind) CKind) (wV .t 10) (wV .t 5))))))
def t_law_rest (K : PySem.W.Frag) (CKind : Addr) : TDS := wSeq (t_law_7 K CKind) (wSeq (t_law_8 K CKind) (wSeq (t_law_9 K CKind) (wSeq (t_law_10 K CKind) (wSeq (t_law_11 K CKind) (wSeq (t_law_12 K CKind) (t_law_13 K CKind))))))
theorem rd_law_1 {K : PySem.W.Frag} {C : Addr} {E : EndsD} {b0 b2 b3 b4 b5 b6 b7 b8 b9 b10 : Bd} (h : ∀ hs, okHs 4 2 6 7 hs → E.nx [b0, .val .st, .val (.lst (hs.map Kd.d)), b3, b4, b5, b6, b7, b8, b9, b10]) : t_law_1 K C E [b0, .val .st, b2, b3, b4, b5, b6, b7, b8, b9, b10] :=
  ⟨4, 2, 6, 7, rfl, by decide, by decide, by decide, by decide, h⟩
theorem rd_law_2 {K : PySem.W.Frag} {C : Addr} {E : EndsD} {b0 b3 b4 b5 b6 b7 b8 b9 b10 : Bd} {hs : List Kd} (ok : okHs 4 2 6 7 hs) (h : ∀ q ∈ hs, E.nx [b0, .val .st, .val (.lst (hs.map Kd.d)), .val q.d, b4, b5, b6, b7, b8, b9, b10]) : t_law_2 K C E [b0, .val .st, .val (.lst (hs.map Kd.d)), b3, b4, b5, b6, b7, b8, b9, b10] := by
  refine ⟨_, _, rfl, rfl, ?_, ?_, fun e he => ?_⟩
  · simpa using ok.ne
  · have := ok.ks.len
    simp only [List.length_map] at this ⊢
    omega
  · obtain ⟨q, hq, rfl⟩ := List.mem_map.mp he
    exact h q hq
theorem kind_init {q : Kd} {l o r : D} {n : Nat} (g : Gd n q) (rd : Reads q l o r) {R : List (Str × D) → Prop} (h : R (kfOf q).fs) : sp_Kind_init [.str q.nm, l, o, r, .bl q.hid] R :=
  ⟨q.nm, l, o, r, q.hid, kfOf q, rfl, g.nm, ⟨rd.sl, rd.nl⟩, ⟨rd.so, rd.no⟩, rd.sr, rd.rl, rd.ro, rd.rr, rfl, rfl, h⟩
theorem rd_law_4 {K : PySem.W.Frag} {C : Addr} {E : EndsD} {b0 b2 b5 b6 b7 b8 b9 b10 : Bd} {q : Kd} {v : V} {l o r : D} (g : Gd 7 q) (rd : Reads q l o r) (h : E.nx [b0, .val .st, b2, .val q.d, .xv v (.lst [l, o, r]), .val ((kfOf q).d C), b6, b7, b8, b9, b10]) :
    t_law_4 K C E [b0, .val .st, b2, .val q.d, .xv v (.lst [l, o, r]), b5, b6, b7, b8, b9, b10] := by
  have i0 := ix_iff (i := 0) (d := q.d) rfl at0
  have i4 := ix_iff (i := 4) (d := q.d) rfl (atN (n := 4) rfl)
  have p0 := ix_iff (i := 0) (d := .lst [l, o, r]) rfl at0
  have p1 := ix_iff (i := 1) (d := .lst [l, o, r]) rfl at1
  have p2 := ix_iff (i := 2) (d := .lst [l, o, r]) rfl (atN (n := 2) rfl)
  unfold t_law_4
  walk_at "rd0"
  simp only [i4, wMkK, wMk, i0, p0, p1, p2]
  walk_at "rd0"
  simp only [i4, wMkK, wMk, i0, p0, p1, p2]
  cases hh : q.hid with
  | true =>
    rw [if_pos rfl]
    have := kind_init (R := fun fs => E.nx [b0, .val .st, b2, .val q.d, .xv v (.lst [l, o, r]), .val (.ins C fs), b6, b7, b8, b9, b10]) g rd h
    rw [hh] at this
    exact this
  | false =>
    rw [if_neg (by decide)]
    refine draw_i (by decide) (by decide) fun r0 h0 h1 => ?_
    have := kind_init (R := fun fs => E.nx [b0, .val .st, b2, .val q.d, .xv v (.lst [l, o, r]), .val (.ins C fs), b6, b7, b8, b9, b10]) g rd h
    rw [hh] at this
    walk_at "rd0"
    split
    · exact this
    · exact this
theorem tells_i {C : Addr} {q : Kd} (g : Gd 7 q) {R : DK} (h : R (.bl true)) : sp_L_tells C 5 [(kfOf q).d C, q.d] R := ⟨kfOf q, q, rfl, kfok g, told_like g (by decide), h⟩
theorem rd_law_7 {K : PySem.W.Frag} {C : Addr} {E : EndsD} {q : Kd} {b0 b2 b4 b6 b7 b8 b9 b10 : Bd} (g : Gd 7 q) (h : E.nx [b0, .val .st, b2, .val q.d, b4, .val ((kfOf q).d C), b6, b7, b8, b9, b10]) : t_law_7 K C E [b0, .val .st, b2, .val q.d, b4, .val ((kfOf q).d C), b6, b7, b8, b9, b10] := by
  unfold t_law_7
  walk_at "rd0"
  refine tells_i g ⟨true, rfl, ?_⟩
  walk_at "rd0"
  refine tells_i g ⟨true, rfl, ?_⟩
  walk_at "rd0"
  exact h
theorem rd_law_8 {K : PySem.W.Frag} {C : Addr} {E : EndsD} {q : Kd} {b0 b2 b4 b6 b7 b8 b9 b10 : Bd} (g : Gd 7 q) (h : ∀ b7, E.nx [b0, .val .st, b2, .val q.d, b4, .val ((kfOf q).d C), b6, b7, b8, b9, b10]) : t_law_8 K C E [b0, .val .st, b2, .val q.d, b4, .val ((kfOf q).d C), b6, b7, b8, b9, b10] := by
  unfold t_law_8
  refine ⟨_, _, rfl, atN (n := 2) rfl, _, rfl, ?_⟩
  have ek : keysD (enc q.own) = (q.own.map (·.1)).map D.str := keys_enc q.own
  rw [ek]
  have i2 := ix_iff (i := 2) (d := q.d) rfl (atN (n := 2) rfl)
  have key : ∀ (xs : List Str), (∀ x ∈ xs, x ∈ q.own.map (·.1)) → ∀ b7, wForL (st1 .s 7) (wIfS (wOr (wNot (wT (w2 (semInM (sp_Kind_contains C) C false) (wV .t 7) (wV .t 5)))) (wNot (wT (wCall (sp_L_like 5) (wCons (wIxM (sp_Kind_getitem C) C (wV .t 5) (wV .t 7)) (wCons (wDGet (w2 semIx (wV .t 3) (wC (.int 2))) (wV .t 7)) wNil)))))) (wRet (wC (.bl false))) wNext) E (xs.map D.str) [b0, .val .st, b2, .val q.d, b4, .val ((kfOf q).d C), b6, b7, b8, b9, b10] := by
    intro xs
    induction xs with
    | nil => intro _ b7; exact h b7
    | cons x xs ih =>
      intro hx b7
      obtain ⟨d, e1, e2, e3⟩ := has_own g (hx x (by simp))
      refine ⟨_, rfl, ?_⟩
      have hh : hasO (kfOf q) (.str x) = true := by
        show ((kfOf q).o.lookup x).isSome = true
        rw [e1]; rfl
      walk_at "rd0"
      refine ⟨⟨_, rfl⟩, kfOf q, .str x, rfl, rfl, true, by rw [hh], true, rfl, ?_⟩
      walk_at "rd0"
      refine ⟨⟨_, rfl⟩, kfOf q, x, d, rfl, kfok g, e1, ?_⟩
      simp only [wDGet]
      walk_at "rd0"
      simp only [i2]
      refine ⟨_, .inr x, d, rfl, rfl, e2, d, d, rfl, like_le e3 (by decide), true, rfl, ?_⟩
      walk_at "rd0"
      exact ih (fun y hy => hx y (by simp [hy])) _
  exact key _ (fun x hx => hx) b7
abbrev strange (x : Str) : List D := [.non, .int 3, .bl true, .tup [.str "a"], .lst [.str "a"], .str "A", .str "", .str "abcdefghi", .int (-1), .str x]
theorem rd_law_9 {K : PySem.W.Frag} {C : Addr} {E : EndsD} {q : Kd} {b0 b2 b4 b5 b6 b7 b8 b9 b10 : Bd} (g : Gd 7 q) (h : ∀ x, isNm x = true → x ∉ q.own.map (·.1) → E.nx [b0, .val .st, b2, .val q.d, b4, b5, b6, b7, .val (.lst (strange x)), b9, b10]) : t_law_9 K C E [b0, .val .st, b2, .val q.d, b4, b5, b6, b7, b8, b9, b10] := by
  have i2 := ix_iff (i := 2) (d := q.d) rfl (atN (n := 2) rfl)
  unfold t_law_9
  walk_at "rd0"
  simp only [wNeg]
  walk_at "rd0"
  simp only [i2]
  refine l_lst (es := (q.own.map (·.1)).map D.str) (by simp only [listOf, keys_enc]) ?_
  refine word_i (xs := q.own.map (·.1)) rfl (by simp only [List.length_map]; have := g.ol; omega) fun x hx hn => ?_
  exact h x hx hn
theorem like_small {d : D} (h : okT 1 d = true) : likeD 5 d d := like_le (like_refl 1 d h) (by decide)
theorem strange_ok {q : Kd} (g : Gd 7 q) {x : Str} (hx : isNm x = true) (hn : x ∉ q.own.map (·.1)) : ∀ d ∈ strange x, plainD d = true ∧ hasO (kfOf q) d = false ∧ likeD 5 d d ∧ noD d = true := by
  intro d hd
  simp only [strange, List.mem_cons, List.not_mem_nil, or_false] at hd
  rcases hd with rfl | rfl | rfl | rfl | rfl | rfl | rfl | rfl | rfl | rfl
  · exact ⟨rfl, rfl, ⟨rfl, rfl⟩, rfl⟩
  · exact ⟨rfl, rfl, ⟨rfl, rfl⟩, rfl⟩
  · exact ⟨rfl, rfl, ⟨rfl, rfl⟩, rfl⟩
  · exact ⟨rfl, rfl, like_small (by decide +kernel), rfl⟩
  · refine ⟨rfl, rfl, ⟨rfl, by decide, fun i d d' e1 e2 => ?_⟩, rfl⟩
    rw [e1] at e2
    cases e2
    have := List.mem_of_getElem? e1
    simp at this
    subst this
    exact ⟨rfl, rfl⟩
  · exact ⟨rfl, not_nm g (by decide +kernel), ⟨rfl, rfl⟩, rfl⟩
  · exact ⟨rfl, not_nm g (by decide +kernel), ⟨rfl, rfl⟩, rfl⟩
  · exact ⟨rfl, not_nm g (by decide +kernel), ⟨rfl, rfl⟩, rfl⟩
  · exact ⟨rfl, rfl, ⟨rfl, rfl⟩, rfl⟩
  · exact ⟨rfl, not_has g hn, ⟨rfl, rfl⟩, rfl⟩
theorem rd_law_10 {K : PySem.W.Frag} {C : Addr} {E : EndsD} {q : Kd} {b0 b2 b4 b6 b7 b9 b10 : Bd} (g : Gd 7 q) {x : Str} (hx : isNm x = true) (hn : x ∉ q.own.map (·.1)) (h : E.nx [b0, .val .st, b2, .val q.d, b4, .val ((kfOf q).d C), b6, b7, .val (.lst (strange x)), b9, b10]) : t_law_10 K C E [b0, .val .st, b2, .val q.d, b4, .val ((kfOf q).d C), b6, b7, .val (.lst (strange x)), b9, b10] := by
  unfold t_law_10
  walk_at "rd0"
  refine ⟨_, rfl, ?_⟩
  refine lc_none (fun d hd => ⟨_, rfl, fun R' hR' => ?_⟩) (by show 10 ≤ sizeLine; decide) ?_
  · obtain ⟨k1, k2, k3, k4⟩ := strange_ok g hx hn d hd
    walk_at "rd0"
    exact ⟨kfOf q, d, rfl, k1, k2, k3, k4, true, rfl, hR'⟩
  · refine ne_nil (xs := []) (fun _ m => by cases m) ⟨false, rfl, ?_⟩
    walk_at "rd0"
    exact h
theorem kind_i {C : Addr} {q : Kd} {n : Nat} (g : Gd n q) (hn : n ≤ 300) {R : DK} (h : R ((kfOf q).d C)) : sp_L_kind C [q.d] R := by
  have rd := reads_self g hn
  exact ⟨q, kfOf q, rfl, g.nm, ⟨rd.sl, rd.nl⟩, ⟨rd.so, rd.no⟩, rd.sr, rd.rl, rd.ro, rd.rr, rfl, rfl, h⟩
theorem rd_law_rest {K : PySem.W.Frag} {C : Addr} {E : EndsD} {q : Kd} {b0 b2 b4 b6 b7 b8 b9 b10 : Bd} (g : Gd 7 q) (ct : ClsT K C) (h : E.rt (.bl true)) : t_law_rest K C E [b0, .val .st, b2, .val q.d, b4, .val ((kfOf q).d C), b6, b7, b8, b9, b10] := by
  unfold t_law_rest
  refine rd_law_7 (K := K) g (rd_law_8 (K := K) g fun b7 => rd_law_9 (K := K) (C := C) g fun x hx hn => rd_law_10 (K := K) g hx hn ?_)
  simp only [t_law_11, t_law_12, t_law_13]
  walk_at "rd0"
  refine kind_i g (by decide) ?_
  refine changed_i (by have := g.ls.len; simp only [List.length_map] at this; omega) (by have := g.ol; omega) (by have := g.rl; omega) fun q' hq => ?_
  refine kind_i (changed_gd g hq) (by decide) ?_
  refine ⟨⟨_, _, rfl, rfl⟩, kind_eq g ct ⟨true, rfl, true, rfl, ?_⟩⟩
  walk_at "rd0"
  refine ⟨⟨_, _, rfl, rfl⟩, kind_eq g ct ⟨true, rfl, true, rfl, ?_⟩⟩
  walk_at "rd0"
  exact ⟨⟨_, _, rfl, rfl⟩, changed_ne g hq ct ⟨false, rfl, false, rfl, ⟨_, _, rfl, rfl⟩, changed_en g hq ct ⟨false, rfl, false, rfl, h⟩⟩⟩
end Tr
end
section
namespace Tr
open PySem PySem.Spec L2 L2H
section
variable {P : Program} {w : World} {K : PySem.W.Frag} {mg : Str → Option Value} {base : Heap} {f : Addr} {fd : FuncData}

abbrev s_law : Stmt := topS 48
abbrev n_law : List Str := ["_law_script", "_law_state_here", "_law_house_here", "_law_kind_here", "_law_parts", "_law_told", "_law_part", "_law_name", "_law_strange", "_law_twin", "_law_other"]
theorem sc_law : FnScope n_law ["_law_script"] (defScope s_law) := ⟨rfl, rfl, rfl, by decide +kernel, rfl, by decide +kernel, by decide +kernel⟩
theorem J.mk2 {z : Zo} {B : Addr → Prop} {H : Hp} {σ : L2.St} {ρ : Ev} (hz : StOk z H) (hB : ∀ b, B b → H b ≠ none) (hs : All2 (fun b o => SlotR K ⟨z, B, H, [], []⟩ (fun _ => False) H b o ∧ b.own = false) ρ σ) : J K ⟨z, B, H, [], []⟩ (fun _ => False) σ H ρ := by
  have get : ∀ {ρ : Ev} {σ : L2.St}, All2 (fun b o => SlotR K ⟨z, B, H, [], []⟩ (fun _ => False) H b o ∧ b.own = false) ρ σ → ∀ (i : Nat) b o, ρ[i]? = some b → σ[i]? = some o → SlotR K ⟨z, B, H, [], []⟩ (fun _ => False) H b o := by
    intro ρ
    induction ρ with
    | nil => intro σ h i b o e; simp at e
    | cons b0 ρ ih =>
      intro σ h i b o e1 e2
      cases σ with
      | nil => exact h.elim
      | cons o0 σ =>
        cases i with
        | zero => simp at e1 e2; subst e1 e2; exact h.1.1
        | succ i => exact ih h.2 i b o (by simpa using e1) (by simpa using e2)
  have own : ∀ {ρ : Ev} {σ : L2.St}, All2 (fun b o => SlotR K ⟨z, B, H, [], []⟩ (fun _ => False) H b o ∧ b.own = false) ρ σ → ∀ b ∈ ρ, b.own = false := by
    intro ρ
    induction ρ with
    | nil => intro σ h b m; cases m
    | cons b0 ρ ih =>
      intro σ h b m
      cases σ with
      | nil => exact h.elim
      | cons o0 σ =>
        rcases List.mem_cons.mp m with rfl | m
        · exact h.1.2
        · exact ih h.2 b m
  exact J.start hz hB hs.len (get hs) (own hs)
def spLaw (K : PySem.W.Frag) : Sp := fun vs H Q _ => ∃ (a : Addr) (ns : List Int), vs = [.ref a] ∧ SqL K H a (ns.map V.int) ∧ ns.length ≤ 63 ∧ ∀ H', Q (.bl true) H'
theorem rep_st {z : Zo} {A A' : Addr → Prop} {H H' : Hp} {v : V} (r : Rep K z A H .st v) : Rep K z A' H' .st v := by
  simp only [Rep] at r ⊢
  exact r
theorem eleven {σ : L2.St} (h : σ.length = 11) : ∃ a b c d e f g i j k l, σ = [a, b, c, d, e, f, g, i, j, k, l] := by
  match σ, h with
  | [a, b, c, d, e, f, g, i, j, k, l], _ => exact ⟨_, _, _, _, _, _, _, _, _, _, _, rfl⟩
set_option maxHeartbeats 8000000 in
theorem ok_law (T : Blt mg) {CKind : Addr} (TKind : TxtKind K mg CKind) (C__law_house : Cal P w K mg base 5 "_law_house" ["_law_state_here", "_law_kinds", "_law_links", "_law_names", "_law_rules"] [.s, .s, .s, .s, .s] sp_L_house) (C__law_pick : Cal P w K mg base 2 "_law_pick" ["_law_state_here", "_law_row"] [.s, .s] sp_L_pick) (C__law_loose_parts : Cal P w K mg base 4 "_law_loose_parts" ["_law_state_here", "_law_kind_here"] [.s, .w] sp_L_loose_parts) (C__law_draw : Cal P w K mg base 1 "_law_draw" ["_law_state_here", "_law_many"] [.s, .s] sp_L_draw) (C__law_word : Cal P w K mg base 2 "_law_word" ["_law_state_here", "_law_taken"] [.s, .w] sp_L_word) (C__law_changed : Cal P w K mg base 3 "_law_changed" ["_law_state_here", "_law_kind_here"] [.s, .s] sp_L_changed) (C__law_like : Cal P w K mg base 5 "_law_like" ["_law_told", "_law_due"] [.w, .w] (sp_L_like 5)) (C__law_tells : Cal P w K mg base 6 "_law_tells" ["_law_told", "_law_kind_here"] [.w, .w] (sp_L_tells CKind 5)) (C__law_not_own : Cal P w K mg base 6 "_law_not_own" ["_law_told", "_law_name"] [.w, .w] (sp_L_not_own CKind 5)) (C__law_kind : Cal P w K mg base 8 "_law_kind" ["_law_kind_here"] [.w] (sp_L_kind CKind)) (CK_Kind : CalK P w K mg base 6 "Kind" CKind ["self", "name", "links", "own", "rules", "hidden"] ["hidden"] [.w, .w, .w, .w] [.w] [.bl false] sp_Kind_init) (CM_Kind_getitem : CalM P w K mg base 1 CKind "__getitem__" ["self", "name"] [.w, .w] (sp_Kind_getitem CKind)) (CM_Kind_eq : CalM P w K mg base 1 CKind "__eq__" ["self", "other"] [.w, .w] (sp_Kind_eq K CKind)) (CM_Kind_contains : CalM P w K mg base 1 CKind "__contains__" ["self", "name"] [.w, .w] (sp_Kind_contains CKind)) {fS : Addr} {fdS : FuncData} (FS : FnOk P w K mg base CX0 1 fS fdS ["_law_script"] (spState K)) (mS : mg "_law_state" = some (.ref fS)) (kS : PySem.W.keepIn K (.ref fS) = true) (bS : Binds K fdS ["_law_script"] []) {fP : Addr} {fdP : FuncData} (FP : FnOk P w K mg base CX0 1 fP fdP ["_law_parts"] (spSpoil K)) (mP : mg "_law_spoil_inside" = some (.ref fP)) (kP : PySem.W.keepIn K (.ref fP) = true) (bP : Binds K fdP ["_law_parts"] []) (F : FunD K "law" "law" (defArgs s_law) (defBody s_law) (defScope s_law) [] [] f fd) : FnOk P w K mg base CX0 9 f fd ["_law_script"] (spLaw K) := by
  obtain ⟨fL, fdL, FL, mL, kL, bL⟩ := C__law_loose_parts.ex
  refine F.ok sc_law (fun vs H Q E h => ?_) fun cdv A outer s H vs Q E hr h => ?_
  · obtain ⟨a, ns, rfl, _⟩ := h
    rfl
  · obtain ⟨a, ns, rfl, hS, hz, kk⟩ := h
    refine ⟨tSeq (tAsg (tCall (spState K) [] E0 (tCons (tVar 0) tNil)) (gName 1)) (tSeq (rdS K (t_law_1 K CKind)) (tSeq (rdS K (t_law_2 K CKind)) (tSeq (tAsg (tCall (toSp K [.s, .w] sp_L_loose_parts) [] E0 (tCons (tVar 1) (tCons (tVar 3) tNil))) (gName 4)) (tSeq (rdS K (t_law_4 K CKind)) (fun D σ H => Apart K H → tSeq (tDrop (tCall (spSpoil K) [] E0 (tCons (tVar 4) tNil))) (tSeq (clrFor K (tVar 4) 6) (rdS K (t_law_rest K CKind))) D σ H))))), PSs.nox ?body, ?read⟩
    case body =>
      refine pss_cons ?a (pss_cons ?b (pss_cons ?c (pss_cons ?d (pss_cons ?e (pss_apart (pss_cons ?f (pss_cons ?g ?h)))))))
      case a => exact (ps_set (i := 1) sc_law.nd rfl (.inl rfl) (pe_call FS (hr.mono (by decide)) (by rfl) mS kS bS .nil pass0 (pa_cons (pv 0) pa_nil)))
      case b => unfold t_law_1; exact (ds_set 2 sc_law.nd (de_fn C__law_house (hr.mono (by decide)) (by rfl) (da_cons (de_v 1) (da_cons de_int (da_cons de_int (da_cons de_int (da_cons de_int da_nil)))))))
      case c => unfold t_law_2; exact (ds_set 3 sc_law.nd (de_fn C__law_pick (hr.mono (by decide)) (by rfl) (da_cons (de_v 1) (da_cons (de_v 2) da_nil))))
      case d => exact (ps_set (i := 4) sc_law.nd rfl (.inl rfl) (pe_call FL (hr.mono (by decide)) (by rfl) mL kL bL .nil pass0 (pa_cons (pv 1) (pa_cons (pv 3) pa_nil))))
      case e => unfold t_law_4; exact (ds_if (dw_pt (dw_or (dt_val (s := .t) (de_ix (s2 := .t) (de_v 3) de_int)) (dw_or1 (dt_cmp (s := .t) op_eq (sem_Eq (s1 := .t) (s2 := .t)) (de_fn C__law_draw (hr.mono (by decide)) (by rfl) (da_cons (de_v 1) (da_cons de_int da_nil))) de_int))))
      (dss_one (ds_set 5 sc_law.nd (de_mkQ CK_Kind (hr.mono (by decide)) (by rfl) (da_cons (de_ix (s2 := .t) (de_v 3) de_int) (da_cons (de_ix (s2 := .t) (de_v 4) de_int) (da_cons (de_ix (s2 := .t) (de_v 4) de_int) (da_cons (de_ix (s2 := .t) (de_v 4) de_int) da_nil)))) (dk_cons (de_ix (s2 := .t) (de_v 3) de_int) dk_nil))))
      (dss_one (ds_set 5 sc_law.nd (de_mkP (more := [.bl false]) CK_Kind (hr.mono (by decide)) (by rfl) (da_cons (de_ix (s2 := .t) (de_v 3) de_int) (da_cons (de_ix (s2 := .t) (de_v 4) de_int) (da_cons (de_ix (s2 := .t) (de_v 4) de_int) (da_cons (de_ix (s2 := .t) (de_v 4) de_int) da_nil)))) (fun _ _ _ => ⟨_, _, _, _, rfl, rfl, rep_bl.mpr rfl, rfl, rfl⟩)))))
      case f => exact (ps_expr (pe_call FP (hr.mono (by decide)) (by rfl) mP kP bP .nil pass0 (pa_cons (pv 4) pa_nil)))
      case g => exact (ps_for PassesOwn.never rfl (pi_list (pv 4)) (pg_name (i := 6) sc_law.nd rfl (by first | exact Or.inl rfl | exact Or.inr rfl)) (pss_one (ps_expr (pe_clr (pv 6)))))
      case h =>
        unfold t_law_rest
        refine dss_cons ?h7 (dss_cons ?h8 (dss_cons ?h9 (dss_cons ?h10 (dss_cons ?h11 (dss_cons ?h12 (dss_one ?h13))))))
        case h7 => unfold t_law_7; exact (ds_if (dw_pt (dw_or (dt_not (dt_val (s := .t) (de_fn C__law_tells (hr.mono (by decide)) (by rfl) (da_cons (de_v 5) (da_cons (de_v 3) da_nil))))) (dw_or1 (dt_not (dt_val (s := .t) (de_fn C__law_tells (hr.mono (by decide)) (by rfl) (da_cons (de_v 5) (da_cons (de_v 3) da_nil))))))))
      (dss_one (ds_ret de_bl))
      dss_nil)
        case h8 => unfold t_law_8; exact (ds_forK (s := .s) PassesOwn.never rfl (path_ix (s := .s) 3) (pg_name (i := 7) sc_law.nd rfl (by first | exact Or.inl rfl | exact Or.inr rfl)) tg1
      (dss_one (ds_if (dw_pt (dw_or (dt_not (dt_inM (s := .t) CM_Kind_contains (hr.mono (by decide)) (de_v 7) (de_v 5))) (dw_or1 (dt_not (dt_val (s := .t) (de_fn C__law_like (hr.mono (by decide)) (by rfl) (da_cons (de_ixM CM_Kind_getitem (hr.mono (by decide)) (de_v 5) (de_v 7)) (da_cons (de_dget (s2 := .t) (hu_of hr) (de_ix (s2 := .t) (de_v 3) de_int) (de_v 7)) da_nil))))))))
      (dss_one (ds_ret de_bl))
      dss_nil)))
        case h9 => unfold t_law_9; exact (ds_set 8 sc_law.nd (de_lst (ss := [.s, .s, .s, .s, .s, .s, .s, .s, .s, .s]) (da_cons de_non (da_cons de_int (da_cons de_bl (da_cons (de_tup (ss := [.s]) (da_cons de_str da_nil)) (da_cons (de_lst (ss := [.s]) (da_cons de_str da_nil)) (da_cons de_str (da_cons de_str (da_cons de_str (da_cons (de_neg (s1 := .t) de_int) (da_cons (de_fn C__law_word (hr.mono (by decide)) (by rfl) (da_cons (de_v 1) (da_cons (de_callTy (c_lst rfl) sem_lst (by rfl) T.list_ (by decide +kernel) (da_cons (de_ix (s2 := .t) (de_v 3) de_int) da_nil)) da_nil))) da_nil))))))))))))
        case h10 => unfold t_law_10; exact (ds_if (dt_cmp (s := .t) (op_neD hr.units) (sem_NeD (s1 := .s) (s2 := .t)) (de_lc (s1 := .s) [("_law_name", 7)] rfl sc_law.nd (di_it (s := .s) (de_v 8)) (blkOk_by (N := n_law) (sc := defScope s_law) (by decide +kernel)) (fun _ _ _ _ _ => (pg_name (i := 7) sc_law.nd rfl (Or.inl rfl))) tg1 tw1 (fun _ _ _ _ _ => (dts_one (dt_not (dt_val (s := .t) (de_fn C__law_not_own (hr.mono (by decide)) (by rfl) (da_cons (de_v 5) (da_cons (de_v 7) da_nil))))))) (fun _ _ _ _ _ => (de_v 7))) (de_lst (ss := []) da_nil))
      (dss_one (ds_ret de_bl))
      dss_nil)
        case h11 => unfold t_law_11; exact (ds_set 9 sc_law.nd (de_fn C__law_kind (hr.mono (by decide)) (by rfl) (da_cons (de_v 3) da_nil)))
        case h12 => unfold t_law_12; exact (ds_set 10 sc_law.nd (de_fn C__law_kind (hr.mono (by decide)) (by rfl) (da_cons (de_fn C__law_changed (hr.mono (by decide)) (by rfl) (da_cons (de_v 1) (da_cons (de_v 3) da_nil))) da_nil)))
        case h13 => unfold t_law_13; exact (ds_ret (de_and (de_eqM (s := .s) CM_Kind_eq (hr.mono (by decide)) (de_v 5) (de_v 9)) (de_and (de_eqM (s := .s) CM_Kind_eq (hr.mono (by decide)) (de_v 9) (de_v 5)) (de_and (de_not (s1 := .t) (de_eqM (s := .t) CM_Kind_eq (hr.mono (by decide)) (de_v 5) (de_v 10))) (de_one (de_not (s1 := .t) (de_eqM (s := .t) CM_Kind_eq (hr.mono (by decide)) (de_v 10) (de_v 5))))))))
    -- the state
    refine ⟨_, rfl, a, ns, rfl, hS, hz, fun H1 q1 q2 cs kp nl n1 n2 n12 e1 e2 ne => ?_⟩
    let z : Zo := some (q1, q2)
    have j1 : J K ⟨z, fun _ => False, H1, [], []⟩ (fun _ => False) ((L2.start n_law [.ref a]).set 1 (some (.ref q1))) H1 [.non, .val .st, .non, .non, .non, .non, .non, .non, .non, .non, .non] := by
      refine J.mk2 ⟨n12, cs, 0, 0, e1, e2, ne⟩ (fun _ h => h.elim) ?_
      exact ⟨⟨trivial, rfl⟩, ⟨⟨_, rfl, by simp only [Rep]; exact ⟨_, rfl, rfl⟩⟩, rfl⟩, ⟨trivial, rfl⟩, ⟨trivial, rfl⟩, ⟨trivial, rfl⟩, ⟨trivial, rfl⟩, ⟨trivial, rfl⟩, ⟨trivial, rfl⟩, ⟨trivial, rfl⟩, ⟨trivial, rfl⟩, ⟨trivial, rfl⟩, trivial⟩
    -- the house, the kind
    refine ⟨_, _, _, { nx := fun ρ => ∃ hs, okHs 4 2 6 7 hs ∧ ρ = [.non, .val .st, .val (.lst (hs.map Kd.d)), .non, .non, .non, .non, .non, .non, .non, .non], rt := fun _ => False }, j1, rd_law_1 fun hs ok => ⟨hs, ok, rfl⟩, ⟨fun M2 σ2 H2a ρ2 j2 e => ?_, fun _ _ _ _ _ _ h => h.elim, fun _ _ _ _ _ h => h.elim, fun _ _ _ _ _ h => h.elim⟩⟩
    obtain ⟨hs, ok, rfl⟩ := e
    refine ⟨_, _, _, { nx := fun ρ => ∃ q ∈ hs, ρ = [.non, .val .st, .val (.lst (hs.map Kd.d)), .val q.d, .non, .non, .non, .non, .non, .non, .non], rt := fun _ => False }, j2, rd_law_2 ok fun q hq => ⟨q, hq, rfl⟩, ⟨fun M3 σ3 H2 ρ3 j3 e => ?_, fun _ _ _ _ _ _ h => h.elim, fun _ _ _ _ _ h => h.elim, fun _ _ _ _ _ h => h.elim⟩⟩
    obtain ⟨q, hq, rfl⟩ := e
    have g := okhs_gd ok q hq
    obtain ⟨o1, eo1, v1, rfl, r1⟩ := j3.getO (i := 1) rfl
    obtain ⟨o3, eo3, v3, rfl, r3⟩ := j3.getO (i := 3) rfl
    -- the parts
    refine ⟨v1, eo1, v3, eo3, z, fun b => H2 b ≠ none, [.st, q.d], fun d => ∃ l o rs, LoParts q l o rs ∧ d = .lst [.dct l, .dct o, .lst rs], j3.ok, fun b h => h, ⟨_, _, _, _, rfl, rfl, rep_st r1, _, _, _, _, rfl, rfl, r3.ov (Ov.less fun b hb => .inl hb), rfl, rfl⟩, loose_parts_i (kdok g (by decide)) fun l o rs lo => ⟨l, o, rs, lo, rfl⟩, fun v4 H3 d f3 k3 r4 e => ?_⟩
    obtain ⟨l, o, rs, lo, rfl⟩ := e
    let A4 : Addr → Prop := fun b => H2 b = none ∧ H3 b ≠ none
    have ov34 : Ov (Gh.av ⟨z, fun _ => False, H1, [], []⟩ M3 .s) (Gh.av ⟨z, A4, H3, [], []⟩ (fun _ => False) .s) H2 H3 := by
      refine ⟨f3.nz1, fun b o n e => ⟨fun hb => ?_, f3.nz2 (fun zz => n (.inl zz)) e⟩⟩
      rcases hb with hb | hb | hb
      · exact n (.inl hb)
      · rw [nz_none' hb.1] at e; cases e
      · exact hb
    have l3 := j3.len
    obtain ⟨s0, s1, s2, s3, s4, s5, s6, s7, s8, s9, s10, rfl⟩ := eleven (σ := σ3) (by rw [← l3]; rfl)
    cases eo1
    cases eo3
    have j4 : J K ⟨z, A4, H3, [], []⟩ (fun _ => False) [s0, some v1, s2, some v3, some v4, s5, s6, s7, s8, s9, s10] H3 [.non, .val .st, .non, .val q.d, .xv v4 (.lst [.dct l, .dct o, .lst rs]), .non, .non, .non, .non, .non, .non] := by
      refine J.mk2 k3 (fun b h => h.2) ?_
      exact ⟨⟨trivial, rfl⟩, ⟨⟨_, rfl, rep_st r1⟩, rfl⟩, ⟨trivial, rfl⟩, ⟨⟨_, rfl, r3.ov ov34⟩, rfl⟩, ⟨⟨rfl, r4.ov (Ov.less fun b hb => hb.elim .inl False.elim)⟩, rfl⟩, ⟨trivial, rfl⟩, ⟨trivial, rfl⟩, ⟨trivial, rfl⟩, ⟨trivial, rfl⟩, ⟨trivial, rfl⟩, ⟨trivial, rfl⟩, trivial⟩
    -- the Kind
    refine ⟨_, _, _, { nx := fun ρ => ρ = [.non, .val .st, .non, .val q.d, .xv v4 (.lst [.dct l, .dct o, .lst rs]), .val ((kfOf q).d CKind), .non, .non, .non, .non, .non], rt := fun _ => False }, j4, rd_law_4 g (reads_lo g (by decide) lo) rfl, ⟨fun M5 σ5 H4 ρ5 j5 e ap => ?_, fun _ _ _ _ _ _ h => h.elim, fun _ _ _ _ _ h => h.elim, fun _ _ _ _ _ h => h.elim⟩⟩
    have e' : ρ5 = _ := e
    subst e'
    have f4 : Fr (vol z) H3 H4 := j5.fr
    let NA : Addr → Prop := fun b => vol z b ∨ H2 b ≠ none ∨ H3 b = none
    have ov4 : Ov (avB z fun b => H2 b ≠ none) NA H3 H4 := by
      refine ⟨f4.nz1, fun b o n e => ⟨fun hb => ?_, f4.nz2 (fun zz => n (.inl zz)) e⟩⟩
      rcases hb with hb | hb | hb
      · exact n (.inl hb)
      · exact n (.inr hb)
      · rw [nz_none' hb] at e; cases e
    have nf : ∀ b x y, ¬ NA b → H4 b ≠ some (.frz x y) := fun b x y n e => by
      have := f3.nl b x y (f4.nl b x y e)
      exact n (.inr (.inl (by rw [this]; exact fun h => nomatch h)))
    obtain ⟨r, a', b', c', la, lb, lc, PR⟩ := parts_of g (by decide) ap nf lo (r4.ov ov4)
    obtain ⟨o4, eo4, e4, _⟩ := j5.getO (i := 4) rfl
    subst e4
    have ev := PR.v
    subst ev
    have PV := PR.pv
    -- spoilt
    refine ⟨.ref r, eo4, _, r, a', b', c', la, lb, lc, rfl, PV, fun H5 gr => ?_⟩
    refine clr_for3 (n := 6) (m := 4) (r := r) (a := a') (b := b') (c := c') (by rw [← j5.len]; show 6 < 11; decide) (by rw [gr.out r PV.nr]; exact PV.root) (by rw [gr.out a' PV.nsa]; exact PV.da) (by rw [gr.out b' PV.nsb]; exact PV.db) (by rw [gr.out c' PV.nc]; exact PV.dc) PR.rc eo4 fun σ6 H6 hl hσ hc => ?_
    have keep : ∀ b, NA b → H6 b = H4 b := fun b hb => by
      rw [hc.out b (fun h => by rcases h with rfl | rfl | rfl; exact PR.na hb; exact PR.nb hb; exact PR.nc hb), gr.out b (fun h => h.1 hb)]
    have tups : ∀ b xs, H4 b = some (.tup xs) → H6 b = some (.tup xs) := fun b xs hb => by
      rw [hc.out b (fun h => by
        rcases h with rfl | rfl | rfl
        · rw [PV.da] at hb; cases hb
        · rw [PV.db] at hb; cases hb
        · rw [PV.dc] at hb; cases hb), gr.out b (fun h => by obtain ⟨ys, e⟩ := h.2.1; rw [hb] at e; cases e)]
      exact hb
    have hz6 : StOk z H6 := by
      obtain ⟨n, cells, i, c, h1, h2, h3⟩ := j5.ok
      exact ⟨n, cells, i, c, by rw [keep _ (.inl (.inl rfl))]; exact h1, by rw [keep _ (.inl (.inr rfl))]; exact h2, h3⟩
    have ov6 : Ov (Gh.av ⟨z, A4, H3, [], []⟩ M5 .s) (Gh.av ⟨z, fun _ => False, H6, [], []⟩ (fun _ => False) .s) H4 H6 := by
      refine ⟨fun b o e t => ?_, fun b o n e => ⟨fun hb => ?_, ?_⟩⟩
      · cases o <;> first | cases t | skip
        exact nz_tup (tups b _ (raw_tup e))
      · rcases hb with hb | hb | hb
        · exact n (.inl hb)
        · exact hb
        · exact hb
      · have hb : NA b := by
          by_cases h2 : H2 b = none
          · by_cases h3 : H3 b = none
            · exact .inr (.inr h3)
            · exact absurd (.inr (.inl ⟨h2, h3⟩)) n
          · exact .inr (.inl h2)
        unfold nz at e ⊢
        rw [keep b hb]
        exact e
    obtain ⟨o5, eo5, v5, rfl, r5⟩ := j5.getO (i := 5) rfl
    obtain ⟨o3', eo3', v3', rfl, r3'⟩ := j5.getO (i := 3) rfl
    obtain ⟨o1', eo1', v1', rfl, r1'⟩ := j5.getO (i := 1) rfl
    have hσ1 := hσ 1 (by decide)
    have hσ3 := hσ 3 (by decide)
    have hσ5 := hσ 5 (by decide)
    rw [eo1'] at hσ1
    rw [eo3'] at hσ3
    rw [eo5] at hσ5
    obtain ⟨t0, t1, t2, t3, t4, t5, t6, t7, t8, t9, t10, rfl⟩ := eleven (σ := σ6) (by rw [hl, ← j5.len]; rfl)
    cases hσ1
    cases hσ3
    cases hσ5
    have j6 : J K ⟨z, fun _ => False, H6, [], []⟩ (fun _ => False) [t0, some v1', t2, some v3', t4, some v5, t6, t7, t8, t9, t10] H6 [.non, .val .st, .non, .val q.d, .non, .val ((kfOf q).d CKind), .non, .non, .non, .non, .non] := by
      refine J.mk2 hz6 (fun _ h => h.elim) ?_
      exact ⟨⟨trivial, rfl⟩, ⟨⟨_, rfl, rep_st r1'⟩, rfl⟩, ⟨trivial, rfl⟩, ⟨⟨_, rfl, r3'.ov ov6⟩, rfl⟩, ⟨trivial, rfl⟩, ⟨⟨_, rfl, r5.ov ov6⟩, rfl⟩, ⟨trivial, rfl⟩, ⟨trivial, rfl⟩, ⟨trivial, rfl⟩, ⟨trivial, rfl⟩, ⟨trivial, rfl⟩, trivial⟩
    refine ⟨_, _, _, { nx := fun _ => False, rt := fun d => d = .bl true }, j6, rd_law_rest g TKind.ct rfl, ⟨fun _ _ _ _ _ h => h.elim, fun v H' d _ _ r' e => ?_, fun _ _ _ _ _ h => h.elim, fun _ _ _ _ _ h => h.elim⟩⟩
    have e' : d = _ := e
    subst e'
    rw [rep_bl.mp r']
    exact kk H'
end
end Tr
end
section
namespace Tr
open PySem PySem.Spec L2
/-! ### a function at an address -/
abbrev FnS : Type := Option (Addr × Addr × List (Str × Addr) × Str × Str × Arguments × FuncBody × Scope)
def obD : Data → FnS
  | .func u => some (u.globals, u.builtins, u.closure, u.name, u.qualname, u.params, u.body, u.scope)
  | _ => none
def obF (K : PySem.W.Frag) (a : Addr) : FnS := (K.lookup a).bind fun o => obD o.data
def goD (K : PySem.W.Frag) (q : Str) : Data → Bool
  | .func u => PySem.W.codeIn K u.code q && (He.dflB K u.defaults [] && He.kwdB K u.kwdefaults [])
  | _ => false
def goF (K : PySem.W.Frag) (a : Addr) (q : Str) : Bool := PySem.W.keepIn K (.ref a) && ((K.lookup a).map fun o => goD K q o.data).getD false
theorem funF {K : PySem.W.Frag} {a : Addr} {x q : Str} {ar : Arguments} {bo : List Stmt} {sc : Scope} (e : obF K a = some (mainGlobals, builtinsNs, [], x, q, ar, .stmts bo, sc)) (c : goF K a q = true) : ∃ fd, FunD K x q ar bo sc [] [] a fd := by
  obtain ⟨kp, c⟩ := Bool.and_eq_true_iff.mp c
  unfold obF at e
  cases lk : K.lookup a with
  | none => rw [lk] at e; cases e
  | some o =>
    rw [lk] at e c
    obtain ⟨oc, od, dt, osl⟩ := o
    change obD dt = _ at e
    change goD K q dt = true at c
    cases dt <;> first | (cases e; done) | skip
    rename_i u
    obtain ⟨c1, c⟩ := Bool.and_eq_true_iff.mp c
    obtain ⟨c2, c3⟩ := Bool.and_eq_true_iff.mp c
    obtain ⟨y1, y2, y3, y4, y5, y6, y7, y8, y9, y10, y11, y12, y13, y14, y15⟩ := u
    simp only [obD, Option.some.injEq, Prod.mk.injEq] at e
    obtain ⟨z1, z2, z3, z4, z5, z6, z7, z8⟩ := e
    subst z1 z2 z3 z4 z5 z6 z7 z8
    exact ⟨_, ⟨oc, od, y8, y9, y10, y11, y12, y13, y14, osl, rfl, lk, c1, He.dflB_ok c2, He.kwdB_ok c3⟩, kp⟩
/-! ### properties -/
def gAd (K : PySem.W.Frag) (x m : Str) : Addr := match PySem.W.recIn K (He.ma K (He.ga K x) m) "property" with
  | some (.ref g :: _) => g
  | _ => 0
def prB (K : PySem.W.Frag) (x m : Str) : Bool := He.eqO (PySem.W.findIn K (.ref (He.ga K x)) m) (some (some (.ref (He.ma K (He.ga K x) m)))) && (He.eqO (PySem.W.specialIn K (.ref (He.ma K (He.ga K x) m)) "__get__") (some (some (.builtin "property.__get__"))) &&
  (decide (PySem.W.takesIn K (.ref (He.ma K (He.ga K x) m)) = some true) && ((PySem.W.recIn K (He.ma K (He.ga K x) m) "property").map fun l => decide (l.head? = some (.ref (gAd K x m)))).getD false))
theorem prB_ok {K : PySem.W.Frag} {x m : Str} (h : prB K x m = true) : PropOf K (He.ga K x) m (He.ma K (He.ga K x) m) (gAd K x m) := by
  obtain ⟨h1, h⟩ := Bool.and_eq_true_iff.mp h
  obtain ⟨h2, h⟩ := Bool.and_eq_true_iff.mp h
  obtain ⟨h3, h4⟩ := Bool.and_eq_true_iff.mp h
  refine ⟨He.eqO_ok h1, He.eqO_ok h2, of_decide_eq_true h3, ?_⟩
  cases q : PySem.W.recIn K (He.ma K (He.ga K x) m) "property" with
  | none => rw [q] at h4; cases h4
  | some l =>
    rw [q] at h4
    have e : l.head? = some (.ref (gAd K x m)) := of_decide_eq_true h4
    cases l with
    | nil => cases e
    | cons v r =>
      have e2 : v = .ref (gAd K x m) := by simpa using e
      exact ⟨r, by rw [e2]⟩
/-! ### own classes -/
def ctB (K : PySem.W.Frag) (C : Addr) : Bool := He.eqO (PySem.W.findIn K (.ref C) "__class__") (some (some (.builtin "object.__class__"))) && (He.eqO (PySem.W.specialIn K (.builtin "object.__class__") "__get__") (some (some (.builtin "getset_descriptor.__get__"))) &&
  (decide (PySem.W.takesIn K (.builtin "object.__class__") = some true) && decide (PySem.W.mroIn K C (.type "object") = some true)))
theorem ctB_ok {K : PySem.W.Frag} {C : Addr} (cl : Cls K C) (h : ctB K C = true) : ClsT K C := by
  obtain ⟨h1, h⟩ := Bool.and_eq_true_iff.mp h
  obtain ⟨h2, h⟩ := Bool.and_eq_true_iff.mp h
  obtain ⟨h3, h4⟩ := Bool.and_eq_true_iff.mp h
  exact ⟨cl, He.eqO_ok h1, He.eqO_ok h2, of_decide_eq_true h3, of_decide_eq_true h4⟩
/-! ### own exceptions -/
def slB (sl : List (Option Value)) : Bool := decide (sl.length = 6) && decide (sl[4]? = some (some (.builtin "ValueError.__new__")))
def cdB (C : Addr) (d : ClassData) : Bool := decide (d.mro.head? = some (.ref C)) && (PySem.HandSPX.refsVE d.mro.tail && (d.hasDict && !d.hasDel))
def dtB (C : Addr) : Data → Bool
  | .cls d => cdB C d
  | _ => false
def exB (K : PySem.W.Frag) (C : Addr) : Bool := ((K.lookup C).map fun o => decide (o.cls = .type "type") && (slB o.slots.toList && dtB C o.data)).getD false
theorem exB_ok {K : PySem.W.Frag} {C : Addr} (h : exB K C = true) : ∃ nm q N bs bm sn sub ab col dd k0 k1 k2 k3 k5, K.lookup C = some (excClassObj nm q C N bs bm true sn sub ab col dd k0 k1 k2 k3 k5 "ValueError.__new__") ∧ PySem.HandSPX.refsVE bm = true := by
  unfold exB at h
  cases lk : K.lookup C with
  | none => rw [lk] at h; cases h
  | some o =>
    rw [lk] at h
    obtain ⟨oc, od, dt, ⟨sl⟩⟩ := o
    have h' : (decide (oc = .type "type") && (slB sl && dtB C dt)) = true := h
    obtain ⟨h1, h'⟩ := Bool.and_eq_true_iff.mp h'
    obtain ⟨h2, h3⟩ := Bool.and_eq_true_iff.mp h'
    clear h h'
    have e1 : oc = .type "type" := of_decide_eq_true h1
    subst e1
    obtain ⟨h4, h5⟩ := Bool.and_eq_true_iff.mp h2
    have l6 : sl.length = 6 := of_decide_eq_true h4
    have l4 : sl[4]? = some (some (.builtin "ValueError.__new__")) := of_decide_eq_true h5
    cases dt <;> first | (cases h3; done) | skip
    rename_i d
    obtain ⟨h6, h⟩ := Bool.and_eq_true_iff.mp (show cdB C d = true from h3)
    obtain ⟨h7, h⟩ := Bool.and_eq_true_iff.mp h
    obtain ⟨h8, h9⟩ := Bool.and_eq_true_iff.mp h
    obtain ⟨nm, bs, mro, ns, qn, hd, sn, sub, ab, col, del⟩ := d
    have e8 : hd = true := h8
    have e9 : del = false := by simpa using h9
    subst e8 e9
    have e6 : mro.head? = some (.ref C) := of_decide_eq_true h6
    cases mro with
    | nil => cases e6
    | cons v bm =>
      have e7 : v = .ref C := by simpa using e6
      subst e7
      match sl, l6 with
      | [k0, k1, k2, k3, k4, k5], _ =>
        have e10 : k4 = some (.builtin "ValueError.__new__") := by simpa using l4
        subst e10
        exact ⟨nm, qn, ns, bs, bm, sn, sub, ab, col, od, k0, k1, k2, k3, k5, rfl, h7⟩
def etB (K : PySem.W.Frag) (x : Str) : Bool := exB K (He.ga K x) && (He.eqO (PySem.W.findIn K (.ref (He.ga K x)) "__setattr__") (some (some (.builtin "object.__setattr__"))) && (decide (PySem.W.subIn K (.ref (He.ga K x)) (.type "BaseException") = some true) && (decide (PySem.W.typeIn K (.ref (He.ga K x)) = some (.type "type")) &&
  (PySem.W.keepIn K (.ref (He.ga K x)) && (xfB K (He.ga K x) && (He.eqO (PySem.W.findIn K (.ref (He.ga K x)) "what") (some none) && (He.eqO (PySem.W.findIn K (.ref (He.ga K x)) "__init__") (some (some (.ref (He.ma K (He.ga K x) "__init__")))) && decide (PySem.W.typeIn K (.ref (He.ma K (He.ga K x) "__init__")) = some (.type "function")))))))))
theorem etB_ok {K : PySem.W.Frag} {mg : Str → Option Value} {x : Str} (hm : mg x = some (.ref (He.ga K x))) (h : etB K x = true) : ExcT K mg x (He.ga K x) (He.ma K (He.ga K x) "__init__") := by
  obtain ⟨h1, h⟩ := Bool.and_eq_true_iff.mp h
  obtain ⟨h2, h⟩ := Bool.and_eq_true_iff.mp h
  obtain ⟨h3, h⟩ := Bool.and_eq_true_iff.mp h
  obtain ⟨h4, h⟩ := Bool.and_eq_true_iff.mp h
  obtain ⟨h5, h⟩ := Bool.and_eq_true_iff.mp h
  obtain ⟨h6, h⟩ := Bool.and_eq_true_iff.mp h
  obtain ⟨h7, h⟩ := Bool.and_eq_true_iff.mp h
  obtain ⟨h8, h9⟩ := Bool.and_eq_true_iff.mp h
  exact ⟨hm, ⟨exB_ok h1, He.eqO_ok h2, of_decide_eq_true h3, of_decide_eq_true h4, h5⟩, xfB_ok h6, He.eqO_ok h7, He.eqO_ok h8, of_decide_eq_true h9⟩
/-! ### the Hook: defs, getters, one more Bool -/
structure GetD where
  cl : Str
  nm : Str
  qn : Str
  st : Stmt
def GetD.val (d : GetD) : FnS := some (mainGlobals, builtinsNs, [], d.nm, d.qn, defArgs d.st, .stmts (defBody d.st), defScope d.st)
def GetD.ad (K : PySem.W.Frag) (d : GetD) : Addr := gAd K d.cl d.nm
abbrev AlP : Type := (He.AlD × List FnS) × Bool
def obP (fa : List He.Fa) (fn : List He.DefD) (gs : List GetD) (ex : PySem.W.Frag → Bool) (K : PySem.W.Frag) : AlP := ((He.obsD fa fn K, gs.map fun d => obF K (d.ad K)), ex K && gs.all fun d => goF K (d.ad K) d.qn && prB K d.cl d.nm)
structure SaysP (fa : List He.Fa) (fn : List He.DefD) (gs : List GetD) (ex : PySem.W.Frag → Bool) (K : PySem.W.Frag) : Prop where
  d : He.SaysD fa fn K
  g : ∀ d ∈ gs, (∃ fd, FunD K d.nm d.qn (defArgs d.st) (defBody d.st) (defScope d.st) [] [] (d.ad K) fd) ∧ PropOf K (He.ga K d.cl) d.nm (He.ma K (He.ga K d.cl) d.nm) (d.ad K)
  more : ex K = true
theorem saysP_of {fa : List He.Fa} {fn : List He.DefD} {gs : List GetD} {ex : PySem.W.Frag → Bool} {K : PySem.W.Frag} (e : obP fa fn gs ex K = ((He.valD fn, gs.map GetD.val), true)) : SaysP fa fn gs ex K := by
  have e1 : He.obsD fa fn K = He.valD fn := congrArg (fun z : AlP => z.1.1) e
  have e2 : (gs.map fun d => obF K (d.ad K)) = gs.map GetD.val := congrArg (fun z : AlP => z.1.2) e
  have e3 : (ex K && gs.all fun d => goF K (d.ad K) d.qn && prB K d.cl d.nm) = true := congrArg (fun z : AlP => z.2) e
  obtain ⟨h1, h2⟩ := Bool.and_eq_true_iff.mp e3
  refine ⟨e1, fun d hd => ?_, h1⟩
  obtain ⟨h3, h4⟩ := Bool.and_eq_true_iff.mp (List.all_eq_true.mp h2 d hd)
  have e4 : obF K (d.ad K) = d.val := List.map_inj_left.mp e2 d hd
  exact ⟨funF e4 h3, prB_ok h4⟩
def obPG (n : Nat) (fa : List He.Fa) (fn : List He.DefD) (gs : List GetD) (ex : PySem.W.Frag → Bool) (g : Addr → Option Obj) : AlP := obP fa fn gs ex (He.frG g (He.asD g n))
def hookP (n : Nat) (fa : List He.Fa) (fn : List He.DefD) (gs : List GetD) (ex : PySem.W.Frag → Bool) : PySem.W.Hook where
  α := AlP
  obs := fun s => obPG n fa fn gs ex s.heap.get?
  val := fun _ => ((He.valD fn, gs.map GetD.val), true)
  says := fun _ h => ∃ K : PySem.W.Frag, K.In h ∧ SaysP fa fn gs ex K
  of := fun _ _ e => ⟨_, He.frG_in, saysP_of e⟩
  keeps := fun _ _ _ c k => by
    obtain ⟨K, hK, c⟩ := c
    exact ⟨K, PySem.W.Frag.In.keeps hK k, c⟩
theorem obPG_eq {n : Nat} {fa : List He.Fa} {fn : List He.DefD} {gs : List GetD} {ex : PySem.W.Frag → Bool} {g : Addr → Option Obj} {s : Shared} (h : ∀ a, g a = s.heap.get? a) : obPG n fa fn gs ex g = (hookP n fa fn gs ex).obs s := by
  obtain rfl : g = s.heap.get? := funext h
  rfl
end Tr
end
section
namespace Tr
open PySem PySem.Spec PyProof.Rows L2
def hd0 : He.DefD := ⟨("NoName", some "__init__"), "__init__", "NoName.__init__", defArgs ((inClass (topS 3) 0)), defBody ((inClass (topS 3) 0)), defScope ((inClass (topS 3) 0)), [], []⟩
def hd1 : He.DefD := ⟨("is_name", none), "is_name", "is_name", defArgs (topS 6), defBody (topS 6), defScope (topS 6), [], []⟩
def hd2 : He.DefD := ⟨("is_word", none), "is_word", "is_word", defArgs (topS 7), defBody (topS 7), defScope (topS 7), [], []⟩
def hd3 : He.DefD := ⟨("is_row_of", none), "is_row_of", "is_row_of", defArgs (topS 8), defBody (topS 8), defScope (topS 8), [], []⟩
def hd4 : He.DefD := ⟨("read_choices", none), "read_choices", "read_choices", defArgs (topS 14), defBody (topS 14), defScope (topS 14), [], []⟩
def hd5 : He.DefD := ⟨("read_links", none), "read_links", "read_links", defArgs (topS 15), defBody (topS 15), defScope (topS 15), [], []⟩
def hd6 : He.DefD := ⟨("read_names", none), "read_names", "read_names", defArgs (topS 16), defBody (topS 16), defScope (topS 16), [], []⟩
def hd7 : He.DefD := ⟨("is_link", none), "is_link", "is_link", defArgs (topS 17), defBody (topS 17), defScope (topS 17), [], []⟩
def hd8 : He.DefD := ⟨("is_manner", none), "is_manner", "is_manner", defArgs (topS 18), defBody (topS 18), defScope (topS 18), [], []⟩
def hd9 : He.DefD := ⟨("read_answer", none), "read_answer", "read_answer", defArgs (topS 19), defBody (topS 19), defScope (topS 19), [], []⟩
def hd10 : He.DefD := ⟨("read_own", none), "read_own", "read_own", defArgs (topS 20), defBody (topS 20), defScope (topS 20), [], []⟩
def hd11 : He.DefD := ⟨("read_send", none), "read_send", "read_send", defArgs (topS 21), defBody (topS 21), defScope (topS 21), [], []⟩
def hd12 : He.DefD := ⟨("read_rule", none), "read_rule", "read_rule", defArgs (topS 22), defBody (topS 22), defScope (topS 22), [], []⟩
def hd13 : He.DefD := ⟨("read_rules", none), "read_rules", "read_rules", defArgs (topS 23), defBody (topS 23), defScope (topS 23), [], []⟩
def hd14 : He.DefD := ⟨("Kind", some "__init__"), "__init__", "Kind.__init__", defArgs ((inClass (topS 24) 0)), defBody ((inClass (topS 24) 0)), defScope ((inClass (topS 24) 0)), [], [("hidden", .bl false)]⟩
def hd15 : He.DefD := ⟨("Kind", some "links"), "links", "Kind.links", defArgs ((inClass (topS 24) 3)), defBody ((inClass (topS 24) 3)), defScope ((inClass (topS 24) 3)), [], []⟩
def hd16 : He.DefD := ⟨("Kind", some "own"), "own", "Kind.own", defArgs ((inClass (topS 24) 4)), defBody ((inClass (topS 24) 4)), defScope ((inClass (topS 24) 4)), [], []⟩
def hd17 : He.DefD := ⟨("Kind", some "rules"), "rules", "Kind.rules", defArgs ((inClass (topS 24) 5)), defBody ((inClass (topS 24) 5)), defScope ((inClass (topS 24) 5)), [], []⟩
def hd18 : He.DefD := ⟨("Kind", some "__getitem__"), "__getitem__", "Kind.__getitem__", defArgs ((inClass (topS 24) 6)), defBody ((inClass (topS 24) 6)), defScope ((inClass (topS 24) 6)), [], []⟩
def hd19 : He.DefD := ⟨("Kind", some "__contains__"), "__contains__", "Kind.__contains__", defArgs ((inClass (topS 24) 7)), defBody ((inClass (topS 24) 7)), defScope ((inClass (topS 24) 7)), [], []⟩
def hd20 : He.DefD := ⟨("Kind", some "__eq__"), "__eq__", "Kind.__eq__", defArgs ((inClass (topS 24) 9)), defBody ((inClass (topS 24) 9)), defScope ((inClass (topS 24) 9)), [], []⟩
def hd21 : He.DefD := ⟨("_law_state", none), "_law_state", "_law_state", defArgs (topS 26), defBody (topS 26), defScope (topS 26), [], []⟩
def hd22 : He.DefD := ⟨("_law_draw", none), "_law_draw", "_law_draw", defArgs (topS 27), defBody (topS 27), defScope (topS 27), [], []⟩
def hd23 : He.DefD := ⟨("_law_pick", none), "_law_pick", "_law_pick", defArgs (topS 28), defBody (topS 28), defScope (topS 28), [], []⟩
def hd24 : He.DefD := ⟨("_law_word", none), "_law_word", "_law_word", defArgs (topS 29), defBody (topS 29), defScope (topS 29), [], []⟩
def hd25 : He.DefD := ⟨("_law_words", none), "_law_words", "_law_words", defArgs (topS 30), defBody (topS 30), defScope (topS 30), [], []⟩
def hd26 : He.DefD := ⟨("_law_some", none), "_law_some", "_law_some", defArgs (topS 31), defBody (topS 31), defScope (topS 31), [], []⟩
def hd27 : He.DefD := ⟨("_law_shuffled", none), "_law_shuffled", "_law_shuffled", defArgs (topS 32), defBody (topS 32), defScope (topS 32), [], []⟩
def hd28 : He.DefD := ⟨("_law_choices", none), "_law_choices", "_law_choices", defArgs (topS 33), defBody (topS 33), defScope (topS 33), [], []⟩
def hd29 : He.DefD := ⟨("_law_value", none), "_law_value", "_law_value", defArgs (topS 34), defBody (topS 34), defScope (topS 34), [], []⟩
def hd30 : He.DefD := ⟨("_law_rule", none), "_law_rule", "_law_rule", defArgs (topS 35), defBody (topS 35), defScope (topS 35), [], []⟩
def hd31 : He.DefD := ⟨("_law_own", none), "_law_own", "_law_own", defArgs (topS 36), defBody (topS 36), defScope (topS 36), [], []⟩
def hd32 : He.DefD := ⟨("_law_doors", none), "_law_doors", "_law_doors", defArgs (topS 37), defBody (topS 37), defScope (topS 37), [], []⟩
def hd33 : He.DefD := ⟨("_law_house", none), "_law_house", "_law_house", defArgs (topS 38), defBody (topS 38), defScope (topS 38), [], []⟩
def hd34 : He.DefD := ⟨("_law_kind", none), "_law_kind", "_law_kind", defArgs (topS 39), defBody (topS 39), defScope (topS 39), [], []⟩
def hd35 : He.DefD := ⟨("_law_like", none), "_law_like", "_law_like", defArgs (topS 40), defBody (topS 40), defScope (topS 40), [], []⟩
def hd36 : He.DefD := ⟨("_law_loose", none), "_law_loose", "_law_loose", defArgs (topS 41), defBody (topS 41), defScope (topS 41), [], []⟩
def hd37 : He.DefD := ⟨("_law_loose_rule", none), "_law_loose_rule", "_law_loose_rule", defArgs (topS 42), defBody (topS 42), defScope (topS 42), [], []⟩
def hd38 : He.DefD := ⟨("_law_loose_parts", none), "_law_loose_parts", "_law_loose_parts", defArgs (topS 43), defBody (topS 43), defScope (topS 43), [], []⟩
def hd39 : He.DefD := ⟨("_law_tells", none), "_law_tells", "_law_tells", defArgs (topS 44), defBody (topS 44), defScope (topS 44), [], []⟩
def hd40 : He.DefD := ⟨("_law_not_own", none), "_law_not_own", "_law_not_own", defArgs (topS 45), defBody (topS 45), defScope (topS 45), [], []⟩
def hd41 : He.DefD := ⟨("_law_changed", none), "_law_changed", "_law_changed", defArgs (topS 46), defBody (topS 46), defScope (topS 46), [], []⟩
def hd42 : He.DefD := ⟨("_law_spoil_inside", none), "_law_spoil_inside", "_law_spoil_inside", defArgs (topS 47), defBody (topS 47), defScope (topS 47), [], []⟩
def hd43 : He.DefD := ⟨("law", none), "law", "law", defArgs (topS 48), defBody (topS 48), defScope (topS 48), [], []⟩
def hfn : List He.DefD := ([hd0, hd1, hd2, hd3, hd4, hd5, hd6, hd7, hd8, hd9, hd10, hd11, hd12, hd13, hd14, hd15, hd16, hd17, hd18, hd19, hd20, hd21, hd22, hd23, hd24, hd25, hd26, hd27, hd28, hd29] : List He.DefD) ++ ([hd30, hd31, hd32, hd33, hd34, hd35, hd36, hd37, hd38, hd39, hd40, hd41, hd42, hd43] : List He.DefD)
def hg0 : GetD := ⟨"Kind", "name", "Kind.name", (inClass (topS 24) 1)⟩
def hg1 : GetD := ⟨"Kind", "hidden", "Kind.hidden", (inClass (topS 24) 2)⟩
def hgs : List GetD := [hg0, hg1]
def hfa : List He.Fa := ([.glo "is_name", .glo "is_word", .glo "is_row_of", .glo "read_choices", .glo "read_links", .glo "read_names", .glo "is_link", .glo "is_manner", .glo "read_answer", .glo "read_own", .glo "read_send", .glo "read_rule", .glo "read_rules", .glo "_law_state", .glo "_law_draw", .glo "_law_pick", .glo "_law_word", .glo "_law_words", .glo "_law_some", .glo "_law_shuffled", .glo "_law_choices", .glo "_law_value", .glo "_law_rule", .glo "_law_own", .glo "_law_doors", .glo "_law_house", .glo "_law_kind", .glo "_law_like", .glo "_law_loose", .glo "_law_loose_rule"] : List He.Fa) ++ ([.glo "_law_loose_parts", .glo "_law_tells", .glo "_law_not_own", .glo "_law_changed", .glo "_law_spoil_inside", .glo "law", .free "abs", .free "all", .free "any", .free "bool", .free "dict", .free "enumerate", .free "int", .free "isinstance", .free "len", .free "list", .free "max", .free "min", .free "range", .free "sorted", .free "str", .free "tuple", .glo "Kind", .glo "NoName", .glo "MANNERS", .cls "Kind", .mkr "Kind", .meth "Kind" "links", .meth "Kind" "own", .meth "Kind" "rules"] : List He.Fa) ++ ([.meth "Kind" "__getitem__", .meth "Kind" "__contains__", .meth "Kind" "__eq__", .noat "Kind" "called", .noat "Kind" "leads", .noat "Kind" "fixed", .noat "Kind" "listed", .noat "Kind" "veiled", .int "MOST_LINKS" 2, .int "MOST_OWN" 5, .int "MOST_RULES" 300, .str "LETTERS" letters, .exm "NoName" "NoName" true] : List He.Fa)
def hex (K : PySem.W.Frag) : Bool := etB K "NoName" && (ctB K (He.ga K "Kind") && (He.tupB K "MANNERS" [.str "try", .str "last"] && PySem.W.fnIn K (He.ma K (He.ga K "Kind") "__getitem__")))
abbrev hR : PySem.W.OpenRow := PySem.W.OpenLaw.row PySem.Challenge.rw_onwardasks_k01_kind_told
def hloose : List Str := (["AskError", "BadKind", "NoName", "LETTERS", "is_name", "is_word", "is_row_of", "MOST_LINKS", "MOST_OWN", "MOST_RULES", "MANNERS", "read_choices", "read_links", "read_names", "is_link", "is_manner", "read_answer", "read_own", "read_send", "read_rule", "read_rules", "Kind", "_law_state", "_law_draw", "_law_pick", "_law_word", "_law_words", "_law_some", "_law_shuffled", "_law_choices"] : List Str) ++ (["_law_value", "_law_rule", "_law_own", "_law_doors", "_law_house", "_law_kind", "_law_like", "_law_loose", "_law_loose_rule", "_law_loose_parts", "_law_tells", "_law_not_own", "_law_changed", "_law_spoil_inside"] : List Str)
abbrev hhk : PySem.W.Hook := hookP 7 hfa hfn hgs hex
def hob (s : PySem.W.SharedT) : AlP := obPG 7 hfa hfn hgs hex (HandSHeadRun.getT s)
theorem hob_eq (s : PySem.W.SharedT) : hob s = hhk.obs s.abs := obPG_eq (HandSHeadRun.getT_eq s)
theorem hrun (w : World) : HandSHeadRun.RunEq hR (PySem.W.view hR.prog [48]) hhk hob 6000 hloose w := by
  intro os
  kernel_rfl
end Tr
end
section
namespace Tr
open PySem PySem.Spec PyProof.Rows L2 L2H
theorem ktup_of {K : PySem.W.Frag} {a : Addr} {vs : List V} (h : SqT K (fun _ => none) a vs) : KTup K a vs := by
  rcases h with h | h
  · rcases h with h | ⟨o, h⟩ <;> cases h
  · exact h
theorem hall {P : Program} {w : World} {K : PySem.W.Frag} {h base : Heap} {mg : Str → Option Value} {fL : Addr} {fdL : FuncData} (X : K.In h) (G0 : h.Ns mainGlobals mg) (c : SaysP hfa hfn hgs hex K) (FL : FunD K "law" "law" (defArgs s_law) (defBody s_law) (defScope s_law) [] [] fL fdL) : FnOk P w K mg base CX0 9 fL fdL ["_law_script"] (spLaw K) := by
  obtain ⟨fd0, F0⟩ := c.d.def_ 0 (d := hd0) rfl
  obtain ⟨fd1, F1⟩ := c.d.def_ 1 (d := hd1) rfl
  obtain ⟨fd2, F2⟩ := c.d.def_ 2 (d := hd2) rfl
  obtain ⟨fd3, F3⟩ := c.d.def_ 3 (d := hd3) rfl
  obtain ⟨fd4, F4⟩ := c.d.def_ 4 (d := hd4) rfl
  obtain ⟨fd5, F5⟩ := c.d.def_ 5 (d := hd5) rfl
  obtain ⟨fd6, F6⟩ := c.d.def_ 6 (d := hd6) rfl
  obtain ⟨fd7, F7⟩ := c.d.def_ 7 (d := hd7) rfl
  obtain ⟨fd8, F8⟩ := c.d.def_ 8 (d := hd8) rfl
  obtain ⟨fd9, F9⟩ := c.d.def_ 9 (d := hd9) rfl
  obtain ⟨fd10, F10⟩ := c.d.def_ 10 (d := hd10) rfl
  obtain ⟨fd11, F11⟩ := c.d.def_ 11 (d := hd11) rfl
  obtain ⟨fd12, F12⟩ := c.d.def_ 12 (d := hd12) rfl
  obtain ⟨fd13, F13⟩ := c.d.def_ 13 (d := hd13) rfl
  obtain ⟨fd14, F14⟩ := c.d.def_ 14 (d := hd14) rfl
  obtain ⟨fd15, F15⟩ := c.d.def_ 15 (d := hd15) rfl
  obtain ⟨fd16, F16⟩ := c.d.def_ 16 (d := hd16) rfl
  obtain ⟨fd17, F17⟩ := c.d.def_ 17 (d := hd17) rfl
  obtain ⟨fd18, F18⟩ := c.d.def_ 18 (d := hd18) rfl
  obtain ⟨fd19, F19⟩ := c.d.def_ 19 (d := hd19) rfl
  obtain ⟨fd20, F20⟩ := c.d.def_ 20 (d := hd20) rfl
  obtain ⟨fd21, F21⟩ := c.d.def_ 21 (d := hd21) rfl
  obtain ⟨fd22, F22⟩ := c.d.def_ 22 (d := hd22) rfl
  obtain ⟨fd23, F23⟩ := c.d.def_ 23 (d := hd23) rfl
  obtain ⟨fd24, F24⟩ := c.d.def_ 24 (d := hd24) rfl
  obtain ⟨fd25, F25⟩ := c.d.def_ 25 (d := hd25) rfl
  obtain ⟨fd26, F26⟩ := c.d.def_ 26 (d := hd26) rfl
  obtain ⟨fd27, F27⟩ := c.d.def_ 27 (d := hd27) rfl
  obtain ⟨fd28, F28⟩ := c.d.def_ 28 (d := hd28) rfl
  obtain ⟨fd29, F29⟩ := c.d.def_ 29 (d := hd29) rfl
  obtain ⟨fd30, F30⟩ := c.d.def_ 30 (d := hd30) rfl
  obtain ⟨fd31, F31⟩ := c.d.def_ 31 (d := hd31) rfl
  obtain ⟨fd32, F32⟩ := c.d.def_ 32 (d := hd32) rfl
  obtain ⟨fd33, F33⟩ := c.d.def_ 33 (d := hd33) rfl
  obtain ⟨fd34, F34⟩ := c.d.def_ 34 (d := hd34) rfl
  obtain ⟨fd35, F35⟩ := c.d.def_ 35 (d := hd35) rfl
  obtain ⟨fd36, F36⟩ := c.d.def_ 36 (d := hd36) rfl
  obtain ⟨fd37, F37⟩ := c.d.def_ 37 (d := hd37) rfl
  obtain ⟨fd38, F38⟩ := c.d.def_ 38 (d := hd38) rfl
  obtain ⟨fd39, F39⟩ := c.d.def_ 39 (d := hd39) rfl
  obtain ⟨fd40, F40⟩ := c.d.def_ 40 (d := hd40) rfl
  obtain ⟨fd41, F41⟩ := c.d.def_ 41 (d := hd41) rfl
  obtain ⟨fd42, F42⟩ := c.d.def_ 42 (d := hd42) rfl
  have T : Blt mg := ⟨He.free_ok X G0 (c.d.fact 36 (f := .free "abs") rfl), He.free_ok X G0 (c.d.fact 37 (f := .free "all") rfl), He.free_ok X G0 (c.d.fact 38 (f := .free "any") rfl), He.free_ok X G0 (c.d.fact 39 (f := .free "bool") rfl), He.free_ok X G0 (c.d.fact 40 (f := .free "dict") rfl), He.free_ok X G0 (c.d.fact 41 (f := .free "enumerate") rfl), He.free_ok X G0 (c.d.fact 42 (f := .free "int") rfl), He.free_ok X G0 (c.d.fact 43 (f := .free "isinstance") rfl), He.free_ok X G0 (c.d.fact 44 (f := .free "len") rfl), He.free_ok X G0 (c.d.fact 45 (f := .free "list") rfl), He.free_ok X G0 (c.d.fact 46 (f := .free "max") rfl), He.free_ok X G0 (c.d.fact 47 (f := .free "min") rfl), He.free_ok X G0 (c.d.fact 48 (f := .free "range") rfl), He.free_ok X G0 (c.d.fact 49 (f := .free "sorted") rfl), He.free_ok X G0 (c.d.fact 50 (f := .free "str") rfl), He.free_ok X G0 (c.d.fact 51 (f := .free "tuple") rfl)⟩
  obtain ⟨x1, x2⟩ := Bool.and_eq_true_iff.mp c.more
  obtain ⟨x3, x4⟩ := Bool.and_eq_true_iff.mp x2
  obtain ⟨x5, x6⟩ := Bool.and_eq_true_iff.mp x4
  have G : Glb K mg := ⟨He.int_ok X G0 (c.d.fact 68 (f := .int "MOST_LINKS" 2) rfl), He.int_ok X G0 (c.d.fact 69 (f := .int "MOST_OWN" 5) rfl), He.int_ok X G0 (c.d.fact 70 (f := .int "MOST_RULES" 300) rfl), He.str_ok X G0 (c.d.fact 71 (f := .str "LETTERS" letters) rfl), He.ga K "MANNERS", _, (He.glo_ok X G0 (c.d.fact 54 (f := .glo "MANNERS") rfl)), ktup_of (He.tupB_ok x5 fun _ => none), rfl⟩
  have cl := He.cls_ok (c.d.fact 55 (f := .cls "Kind") rfl)
  have TKind : TxtKind K mg (He.ga K "Kind") := ⟨(He.glo_ok X G0 (c.d.fact 52 (f := .glo "Kind") rfl)), cl, ctB_ok cl x3, He.noat_ok (c.d.fact 63 (f := .noat "Kind" "called") rfl), He.noat_ok (c.d.fact 64 (f := .noat "Kind" "leads") rfl), He.noat_ok (c.d.fact 65 (f := .noat "Kind" "fixed") rfl), He.noat_ok (c.d.fact 66 (f := .noat "Kind" "listed") rfl), He.noat_ok (c.d.fact 67 (f := .noat "Kind" "veiled") rfl)⟩
  have TN := etB_ok (He.glo_ok X G0 (c.d.fact 53 (f := .glo "NoName") rfl)) x1
  have te := He.exm_ok (c.d.fact 72 (f := .exm "NoName" "NoName" true) rfl)
  have C__law_draw := ok_L_draw (P := P) (w := w) (base := base) T F22 (He.glo_ok X G0 (c.d.fact 14 (f := .glo "_law_draw") rfl))
  have C_is_name := ok_is_name (P := P) (w := w) (base := base) T G F1 (He.glo_ok X G0 (c.d.fact 0 (f := .glo "is_name") rfl))
  have C_is_word := ok_is_word (P := P) (w := w) (base := base) T C_is_name F2 (He.glo_ok X G0 (c.d.fact 1 (f := .glo "is_word") rfl))
  have C_is_row_of := ok_is_row_of (P := P) (w := w) (base := base) T F3 (He.glo_ok X G0 (c.d.fact 2 (f := .glo "is_row_of") rfl))
  have C_read_choices := ok_read_choices (P := P) (w := w) (base := base) T C_is_row_of C_is_word F4 (He.glo_ok X G0 (c.d.fact 3 (f := .glo "read_choices") rfl))
  have C_read_links := ok_read_links (P := P) (w := w) (base := base) T G C_is_name C_read_choices F5 (He.glo_ok X G0 (c.d.fact 4 (f := .glo "read_links") rfl))
  have C_read_names := ok_read_names (P := P) (w := w) (base := base) T C_is_name C_is_row_of F6 (He.glo_ok X G0 (c.d.fact 5 (f := .glo "read_names") rfl))
  have C_is_link := ok_is_link (P := P) (w := w) (base := base) T F7 (He.glo_ok X G0 (c.d.fact 6 (f := .glo "is_link") rfl))
  have C_is_manner := ok_is_manner (P := P) (w := w) (base := base) T G F8 (He.glo_ok X G0 (c.d.fact 7 (f := .glo "is_manner") rfl))
  have C_read_answer := ok_read_answer (P := P) (w := w) (base := base) T C_is_link C_is_name C_is_row_of F9 (He.glo_ok X G0 (c.d.fact 8 (f := .glo "read_answer") rfl))
  have C_read_own := ok_read_own (P := P) (w := w) (base := base) T G C_is_name C_read_answer F10 (He.glo_ok X G0 (c.d.fact 9 (f := .glo "read_own") rfl))
  have C_read_send := ok_read_send (P := P) (w := w) (base := base) T C_is_link C_is_manner C_is_word F11 (He.glo_ok X G0 (c.d.fact 10 (f := .glo "read_send") rfl))
  have C_read_rule := ok_read_rule (P := P) (w := w) (base := base) T C_is_link C_is_manner C_is_name C_is_row_of C_read_names C_read_send F12 (He.glo_ok X G0 (c.d.fact 11 (f := .glo "read_rule") rfl))
  have C_read_rules := ok_read_rules (P := P) (w := w) (base := base) T G C_is_row_of C_read_rule F13 (He.glo_ok X G0 (c.d.fact 12 (f := .glo "read_rules") rfl))
  have C__law_pick := ok_L_pick (P := P) (w := w) (base := base) T C__law_draw F23 (He.glo_ok X G0 (c.d.fact 15 (f := .glo "_law_pick") rfl))
  have C__law_word := ok_L_word (P := P) (w := w) (base := base) T C__law_draw F24 (He.glo_ok X G0 (c.d.fact 16 (f := .glo "_law_word") rfl))
  have C__law_words := ok_L_words (P := P) (w := w) (base := base) T C__law_word F25 (He.glo_ok X G0 (c.d.fact 17 (f := .glo "_law_words") rfl))
  have C__law_some := ok_L_some (P := P) (w := w) (base := base) T C__law_draw F26 (He.glo_ok X G0 (c.d.fact 18 (f := .glo "_law_some") rfl))
  have C__law_shuffled := ok_L_shuffled (P := P) (w := w) (base := base) T C__law_draw F27 (He.glo_ok X G0 (c.d.fact 19 (f := .glo "_law_shuffled") rfl))
  have C__law_choices := ok_L_choices (P := P) (w := w) (base := base) T C__law_pick C__law_some F28 (He.glo_ok X G0 (c.d.fact 20 (f := .glo "_law_choices") rfl))
  have C__law_value := ok_L_value (P := P) (w := w) (base := base) T C__law_draw C__law_pick C__law_word F29 (He.glo_ok X G0 (c.d.fact 21 (f := .glo "_law_value") rfl))
  have C__law_rule := ok_L_rule (P := P) (w := w) (base := base) T C__law_draw C__law_pick C__law_some C__law_value F30 (He.glo_ok X G0 (c.d.fact 22 (f := .glo "_law_rule") rfl))
  have C__law_own := ok_L_own (P := P) (w := w) (base := base) T C__law_draw C__law_pick C__law_value F31 (He.glo_ok X G0 (c.d.fact 23 (f := .glo "_law_own") rfl))
  have C__law_doors := ok_L_doors (P := P) (w := w) (base := base) T C__law_draw C__law_words F32 (He.glo_ok X G0 (c.d.fact 24 (f := .glo "_law_doors") rfl))
  have C__law_house := ok_L_house (P := P) (w := w) (base := base) T C__law_choices C__law_doors C__law_draw C__law_own C__law_rule C__law_words F33 (He.glo_ok X G0 (c.d.fact 25 (f := .glo "_law_house") rfl))
  have C__law_loose := ok_L_loose (P := P) (w := w) (base := base) T C__law_draw F36 (He.glo_ok X G0 (c.d.fact 28 (f := .glo "_law_loose") rfl))
  have C__law_loose_rule := ok_L_loose_rule (P := P) (w := w) (base := base) T C__law_loose C__law_shuffled F37 (He.glo_ok X G0 (c.d.fact 29 (f := .glo "_law_loose_rule") rfl))
  have C__law_loose_parts := ok_L_loose_parts (P := P) (w := w) (base := base) T C__law_loose C__law_loose_rule C__law_shuffled F38 (He.glo_ok X G0 (c.d.fact 30 (f := .glo "_law_loose_parts") rfl))
  have C__law_changed := ok_L_changed (P := P) (w := w) (base := base) T C__law_draw C__law_word F41 (He.glo_ok X G0 (c.d.fact 33 (f := .glo "_law_changed") rfl))
  obtain ⟨⟨gd0, G0F⟩, G0P⟩ := c.g hg0 (by simp [hgs])
  obtain ⟨⟨gd1, G1F⟩, G1P⟩ := c.g hg1 (by simp [hgs])
  have CP_Kind_name := ok_Kind_name (P := P) (w := w) (base := base) T TKind G0F G0P
  have CP_Kind_hidden := ok_Kind_hidden (P := P) (w := w) (base := base) T TKind G1F G1P
  have CM_Kind_links := ok_Kind_links (P := P) (w := w) (base := base) T TKind F15 (He.meth_ok (c.d.fact 57 (f := .meth "Kind" "links") rfl))
  have CM_Kind_own := ok_Kind_own (P := P) (w := w) (base := base) T TKind F16 (He.meth_ok (c.d.fact 58 (f := .meth "Kind" "own") rfl))
  have CM_Kind_rules := ok_Kind_rules (P := P) (w := w) (base := base) T TKind F17 (He.meth_ok (c.d.fact 59 (f := .meth "Kind" "rules") rfl))
  have CM_Kind_getitem := ok_Kind_getitem (P := P) (w := w) (base := base) T TKind F18 (He.meth_ok (c.d.fact 60 (f := .meth "Kind" "__getitem__") rfl))
  have CM_Kind_contains := ok_Kind_contains (P := P) (w := w) (base := base) T TKind F19 (He.meth_ok (c.d.fact 61 (f := .meth "Kind" "__contains__") rfl))
  have CM_Kind_eq := ok_Kind_eq (P := P) (w := w) (base := base) T TKind F20 (He.meth_ok (c.d.fact 62 (f := .meth "Kind" "__eq__") rfl))
  have K0 : FKind K _ _ := F14
  obtain ⟨_, bkK⟩ := bk_Kind K0
  have CK_Kind : CalK P w K mg base 6 "Kind" (He.ga K "Kind") ["self", "name", "links", "own", "rules", "hidden"] ["hidden"] [.w, .w, .w, .w] [.w] [.bl false] sp_Kind_init := ⟨_, _, (He.glo_ok X G0 (c.d.fact 52 (f := .glo "Kind") rfl)), He.mkr_ok (c.d.fact 56 (f := .mkr "Kind") rfl), ok_Kind_init (P := P) (w := w) (base := base) T TKind C_is_name C_read_links C_read_own C_read_rules K0, b_Kind K0, bkK⟩
  have C__law_like := ok_L_like (P := P) (w := w) (base := base) T F35 (He.glo_ok X G0 (c.d.fact 27 (f := .glo "_law_like") rfl)) 5
  have CH__law_like := okH_L_like (P := P) (w := w) (base := base) T F35 (He.glo_ok X G0 (c.d.fact 27 (f := .glo "_law_like") rfl)) 5
  have CH_con := okH_Kind_contains (P := P) (w := w) (base := base) T TKind F19 (He.meth_ok (c.d.fact 61 (f := .meth "Kind" "__contains__") rfl))
  have C__law_kind := ok_L_kind (P := P) (w := w) (base := base) T TKind CK_Kind F34 (He.glo_ok X G0 (c.d.fact 26 (f := .glo "_law_kind") rfl))
  have C__law_tells := ok_L_tells (P := P) (w := w) (base := base) (n := 5) (by decide) T TKind C__law_like CP_Kind_hidden CM_Kind_links CP_Kind_name CM_Kind_own CM_Kind_rules F39 (He.glo_ok X G0 (c.d.fact 31 (f := .glo "_law_tells") rfl))
  have FG := okX_Kind_getitem (P := P) (w := w) (base := base) T TKind TN F0 F18
  have C__law_not_own := ok_L_not_own (P := P) (w := w) (base := base) (n := 5) (by decide) T TKind TN te FG (He.meth_ok (c.d.fact 60 (f := .meth "Kind" "__getitem__") rfl)) x6 (F18.bindsN (fun _ _ _ _ _ _ us hl => match us, hl with | [_, _], _ => rfl)) CH__law_like CH_con F40 (He.glo_ok X G0 (c.d.fact 32 (f := .glo "_law_not_own") rfl))
  exact ok_law T TKind C__law_house C__law_pick C__law_loose_parts C__law_draw C__law_word C__law_changed C__law_like C__law_tells C__law_not_own C__law_kind CK_Kind CM_Kind_getitem CM_Kind_eq CM_Kind_contains (okR_L_state T F21) (He.glo_ok X G0 (c.d.fact 13 (f := .glo "_law_state") rfl)) F21.kp (F21.bindsN (fun _ _ _ _ _ _ us hl => match us, hl with | [_], _ => rfl)) (ok_L_spoil_inside T F42) (He.glo_ok X G0 (c.d.fact 34 (f := .glo "_law_spoil_inside") rfl)) F42.kp (F42.bindsN (fun _ _ _ _ _ _ us hl => match us, hl with | [_], _ => rfl)) FL
theorem hfacts {P : Program} {w : World} {K : PySem.W.Frag} {h : Heap} {mg : Str → Option Value} {f : Addr} (X : K.In h) (G0 : h.Ns mainGlobals mg) (e0 : mg ("law" : Str) = some (.ref f)) (c : SaysP hfa hfn hgs hex K) :
    ∃ fd : FuncData, (∀ (s : Shared) (v : Value), BindsTo s fd ⟨[v], []⟩ [("_law_script", v)]) ∧ ∀ base : Heap, K.In base → base.Ns mainGlobals mg → FnOk P w K mg base CX0 9 f fd ["_law_script"] (spLaw K) := by
  obtain ⟨fd, F⟩ := c.d.def_ 43 (d := hd43) rfl
  have e1 := e0.symm.trans (He.glo_ok X G0 (c.d.fact 35 (f := .glo "law") rfl))
  cases e1
  have b := F.bindsA (ps := ["_law_script"]) (fun _ _ _ _ _ _ us hl => match us, hl with | [_], _ => rfl)
  exact ⟨fd, fun s v => b s [v] rfl, fun base _ _ => hall X G0 c F⟩
end Tr

open PySem PySem.W PySem.Calls PyProof.Rows
theorem PySem.Challenge.cw_onwardasks_k01_kind_told_holds : PySem.Challenge.rw_onwardasks_k01_kind_told.Holds := by
  w_on; o_law
  refine HandSHeadRun.head_any (r := OpenLaw.row PySem.Challenge.rw_onwardasks_k01_kind_told) (q := view (OpenLaw.row PySem.Challenge.rw_onwardasks_k01_kind_told).prog [48]) (H := Tr.hhk) (ob := Tr.hob) (M := 6000) (loose := Tr.hloose) (d := HandSHeadRun.topDef (OpenLaw.row PySem.Challenge.rw_onwardasks_k01_kind_told).prog 48) (kwd := []) Tr.hob_eq
    (by kernel_rfl) (fun s => by kernel_rfl) Tr.hrun (by kernel_rfl) (by kernel_rfl) (by kernel_rfl) (by rfl) (by first | assumption | decide +kernel) (by decide +kernel) ⟨rfl, rfl, rfl, rfl, rfl, by decide +kernel⟩ ?hw ?hc
  case hw => w_witness2
  case hc =>
    refine L2.walk_ofE (l := PySem.Challenge.rw_onwardasks_k01_kind_told) (n := 63) (k := 9) (x := "_law_script") (CX := L2.CX0) rfl (by decide) (by kernel_rfl) ⟨rfl, by decide, by decide⟩ ?F (fun _ _ _ _ z => z)
    intro w mg fa h Y G e0
    obtain ⟨K, KX, c⟩ := Y
    have e1 : mg ("law" : PySem.Str) = some (.ref fa) := by
      have e : (HandSHeadRun.topDef (OpenLaw.row PySem.Challenge.rw_onwardasks_k01_kind_told).prog 48).name = ("law" : PySem.Str) := by kernel_rfl
      rw [← e]
      exact e0
    obtain ⟨fd, hb, hF⟩ := Tr.hfacts (P := (PySem.Challenge.rw_onwardasks_k01_kind_told).prog) (w := w) KX G e1 c
    exact ⟨K, fd, Tr.spLaw K, KX, hb, fun H a ns hl _ hS => ⟨a, ns, rfl, hS, hl, fun _ => rfl⟩, hF⟩
end
