import PyProof.Rows.All
import Wide.All
import OpenK.AllK
import Wide.FinOn
import HandS.ForMost
import HandS.ForExc
import HandS.CallSlots
import HandS.Star
import HandS.DictComp
import HandS.FStr
import HandS.Zip
import HandS.TupAny
import HandS.TupMul
import HandS.Property
import HandS.Deep
import HandS.Wide
import HandS.IsInst
import HandS.Conv
import HandS.RaiseMore
import HandS.DictTup
import HandS.Flow
import HandS.Style
import HandS.StrMore
import HandS.SetKeys
import HandS.Lambda
import PyProof.RowDictHeap
import HandS.ExcIs
import HandS.ExcField
import KE.KExcIs
import KE.KExcSuper
import HandS.ExcValue
import HandS.Ends
import PySem.Challenge.RW_turnaways_k00_errors
set_option Elab.async false
set_option linter.all false
set_option maxRecDepth 100000
set_option maxHeartbeats 2000000
/-! TB1: plain values D over a store of cells, and what it means that an abstract heap bears them. -/
namespace L2
namespace Tu
open PySem PySem.Spec PyProof.Rows

/-- a value: what nobody changes any more stands by value, what may change by its number in the store -/
inductive D where
  | non | bl (b : Bool) | int (i : Int) | str (x : Str) | tup (xs : List D) | lst (xs : List D) | dk (ks : List Key) (xs : List D) | dt (ks : List (List Key)) (xs : List D)
  | ins (c : Str) (fs : List Str) (xs : List D) | exc (c : Str) (d : D) | obj (n : Nat) | ty (n : String) | nam (x : Str)
/-- an object that may change -/
inductive Cell where
  | lst (xs : List D)
  | dk (ks : List Key) (xs : List D)
  | dt (ks : List (List Key)) (xs : List D)
  | ins (c : Str) (fs : List Str) (xs : List D)
abbrev Store := List Cell
/-- what stands there -/
def D.at (S : Store) : D → Option Cell
  | .lst xs => some (.lst xs)
  | .dk ks xs => some (.dk ks xs)
  | .dt ks xs => some (.dt ks xs)
  | .ins c fs xs => some (.ins c fs xs)
  | .obj n => S[n]?
  | _ => none
/-- how something ends: a value, an error of the package (its class by name, its value), or nothing that is told -/
inductive Res (α : Type) where
  | ok (a : α) (S : Store)
  | exc (c : Str) (d : D) (S : Store)
  | bad
def Res.bind {α β : Type} (r : Res α) (k : α → Store → Res β) : Res β := match r with
  | .ok a S => k a S
  | .exc c d S => .exc c d S
  | .bad => .bad
/-- what an operation by values gives -/
def Res.of {α : Type} : Option (α × Store) → Res α
  | some (a, S) => .ok a S
  | none => .bad
abbrev Env := List (Option D)
abbrev Tbl := List (Addr × Str)

/-- the abstract heap, where the store's objects stand, the store, what nobody may read -/
structure Wd where
  H : Hp
  m : Nat → Addr
  S : Store
  B : Addr → Prop

/-- the written part holds the table of modules: a dict -/
def SysK (K : PySem.W.Frag) : Prop := ∃ o es n, K.lookup sysModules = some o ∧ o.data = .dict es n
def sysB (K : PySem.W.Frag) : Bool := match K.lookup sysModules with
  | some ⟨_, _, .dict _ _, _⟩ => true
  | _ => false
theorem sysK_of {K : PySem.W.Frag} (h : sysB K = true) : SysK K := by
  unfold sysB at h
  split at h
  · rename_i e
    exact ⟨_, _, _, e, rfl⟩
  · cases h
/-- an exception object of the class at C, its own dict at dd, raised or not -/
def ExX (C dd a : Addr) : HO := .ext fun h => ∃ (oe : Obj) (vs : Array Value), h.get? a = some oe ∧ Zc (.ref C) (some dd) oe ∧ oe.data = .fields vs
/-- no table of code objects -/
def NT (o : HO) : Prop := ∀ ps, o ≠ .tbl ps
/-- objects that may change -/
def Pl : HO → Prop
  | .lst _ => True
  | .dK _ => True
  | .dT _ => True
  | .ins _ _ _ => True
  | _ => False
theorem Pl.nt {o : HO} (h : Pl o) : NT o := fun ps e => by subst e; exact h
/-- the same, or a dict that is locked now -/
def Ke (o o' : HO) : Prop := o' = o ∨ ∃ ob, o' = .frz ob o ∧ ((∃ kvs, o = .dK kvs) ∨ ∃ kvs, o = .dT kvs)
theorem Ke.refl (o : HO) : Ke o o := .inl rfl
theorem Ke.nt {o o' : HO} (h : Ke o o') (n : NT o) : NT o' := by
  rcases h with rfl | ⟨ob, rfl, _⟩
  · exact n
  · exact fun ps e => by cases e
theorem Ke.trans {o o1 o2 : HO} (a : Ke o o1) (b : Ke o1 o2) : Ke o o2 := by
  rcases a with rfl | ⟨ob, rfl, h⟩
  · exact b
  · rcases b with rfl | ⟨ob', rfl, h'⟩
    · exact .inr ⟨ob, rfl, h⟩
    · rcases h' with ⟨_, e⟩ | ⟨_, e⟩ <;> cases e
theorem Ke.eq {o o' : HO} (h : Ke o o') (n1 : ∀ kvs, o ≠ .dK kvs) (n2 : ∀ kvs, o ≠ .dT kvs) : o' = o := by
  rcases h with h | ⟨ob, _, ⟨kvs, e⟩ | ⟨kvs, e⟩⟩
  · exact h
  · exact absurd e (n1 kvs)
  · exact absurd e (n2 kvs)
/-- nobody's to change -/
def NC (w : Wd) (a : Addr) : Prop := ∀ i, i < w.S.length → w.m i ≠ a
def Off (w : Wd) (a : Addr) : Prop := NC w a ∧ ¬ w.B a
/-- a list that is written in the program -/
def WL (K : PySem.W.Frag) (a : Addr) (vs : List V) : Prop := ∃ (o : Obj) (its : Array Value) (n : Nat), K.lookup a = some o ∧ o.cls = .type "list" ∧ o.dict = none ∧ o.data = .seq its n ∧ its.size ≤ sizeLine ∧ Vals vs its.toList
def StL (K : PySem.W.Frag) (w : Wd) (a : Addr) (vs : List V) : Prop := (w.H a = some (.lst vs) ∧ Off w a) ∨ (∃ o, w.H a = some (.frz o (.lst vs))) ∨ WL K a vs
def StK (w : Wd) (a : Addr) (kvs : List (Key × V)) : Prop := (w.H a = some (.dK kvs) ∧ Off w a) ∨ ∃ o, w.H a = some (.frz o (.dK kvs))
def StT (w : Wd) (a : Addr) (kvs : List (List Key × V)) : Prop := (w.H a = some (.dT kvs) ∧ Off w a) ∨ ∃ o, w.H a = some (.frz o (.dT kvs))
theorem StL.l {K : PySem.W.Frag} {w : Wd} {a : Addr} {vs : List V} (h : StL K w a vs) : SqL K w.H a vs := by
  rcases h with ⟨h, _⟩ | h | h
  · exact .inl (.inl h)
  · exact .inl (.inr h)
  · exact .inr h
section
variable (K : PySem.W.Frag) (mg : Str → Option Value) (T : Tbl)
mutual
def RV (w : Wd) : D → V → Prop
  | .non, v => v = .non
  | .bl b, v => v = .bl b
  | .int i, v => v = .int i
  | .str x, v => v = .str x
  | .tup ds, v => ∃ a vs, v = .ref a ∧ SqT K w.H a vs ∧ RVs w ds vs
  | .lst ds, v => ∃ a vs, v = .ref a ∧ StL K w a vs ∧ RVs w ds vs
  | .dk ks ds, v => ∃ a kvs, v = .ref a ∧ StK w a kvs ∧ kvs.map (·.1) = ks ∧ RVs w ds (kvs.map (·.2))
  | .dt ks ds, v => ∃ a kvs, v = .ref a ∧ StT w a kvs ∧ kvs.map (·.1) = ks ∧ RVs w ds (kvs.map (·.2))
  | .ins c fs ds, v => ∃ a C dx vs, v = .ref a ∧ mg c = some (.ref C) ∧ w.H a = some (.ins C dx vs) ∧ Off w a ∧ vs.map (·.1) = fs ∧ RVs w ds (vs.map (·.2))
  | .exc c d, v => ∃ a C dd u, v = .ref a ∧ mg c = some (.ref C) ∧ w.H a = some (ExX C dd a) ∧ Off w a ∧ w.H dd = some (.xd [(("value" : Str), u)]) ∧ RV w d u
  | .obj i, v => i < w.S.length ∧ v = .ref (w.m i)
  | .ty s, v => v = .ty s
  | .nam x, v => ∃ a, mg x = some (.ref a) ∧ v = .ref a
def RVs (w : Wd) : List D → List V → Prop
  | [], vs => vs = []
  | d :: ds, vs => ∃ v vs', vs = v :: vs' ∧ RV w d v ∧ RVs w ds vs'
end
def RC (w : Wd) (a : Addr) : Cell → Prop
  | .lst ds => ∃ vs, w.H a = some (.lst vs) ∧ RVs K mg w ds vs
  | .dk ks ds => ∃ kvs : List (Key × V), w.H a = some (.dK kvs) ∧ kvs.map (·.1) = ks ∧ RVs K mg w ds (kvs.map (·.2))
  | .dt ks ds => ∃ kvs : List (List Key × V), w.H a = some (.dT kvs) ∧ kvs.map (·.1) = ks ∧ RVs K mg w ds (kvs.map (·.2))
  | .ins c fs ds => ∃ C dx vs, mg c = some (.ref C) ∧ w.H a = some (.ins C dx vs) ∧ vs.map (·.1) = fs ∧ RVs K mg w ds (vs.map (·.2))
structure Ok (w : Wd) : Prop where
  inj : ∀ i j, i < w.S.length → j < w.S.length → w.m i = w.m j → i = j
  cell : ∀ i c, w.S[i]? = some c → RC K mg w (w.m i) c
  tabs : LamX.Tabs T w.H
  nb : ∀ i, i < w.S.length → ¬ w.B (w.m i)
end

/-- what is kept from one moment to a later one -/
structure Ex (w w' : Wd) : Prop where
  len : w.S.length ≤ w'.S.length
  mu : ∀ i, i < w.S.length → w'.m i = w.m i
  frame : ∀ a o, w.H a = some o → NT o → NC w a → ∃ o', w'.H a = some o' ∧ Ke o o'
  tup : ∀ a xs, w.H a = some (.tup xs) → w'.H a = some (.tup xs)
  frz : ∀ a o u, w.H a = some (.frz o u) → w'.H a = some (.frz o u)
  xd : ∀ a fs, w.H a = some (.xd fs) → w'.H a = some (.xd fs)
  live : ∀ a o, w.H a = some o → NT o → ∃ o', w'.H a = some o' ∧ NT o'
  fresh : ∀ i, w.S.length ≤ i → i < w'.S.length → ∀ o, w.H (w'.m i) = some o → ¬ NT o
  bar : ∀ a o, w.H a = some o → NT o → (w'.B a ↔ w.B a)
  hidd : ∀ a o, w.H a = some o → NT o → NC w a → w.B a → w'.H a = some o

section
variable {K : PySem.W.Frag} {mg : Str → Option Value} {T : Tbl} {w w' w1 w2 : Wd}
theorem Ex.refl (w : Wd) : Ex w w := ⟨Nat.le_refl _, fun _ _ => rfl, fun _ o h _ _ => ⟨o, h, .inl rfl⟩, fun _ _ h => h, fun _ _ _ h => h, fun _ _ h => h, fun _ o h n => ⟨o, h, n⟩, fun i h1 h2 => absurd h2 (by omega), fun _ _ _ _ => Iff.rfl, fun _ _ h _ _ _ => h⟩
theorem Ex.nc (e : Ex w w') {a : Addr} {o : HO} (h : w.H a = some o) (n : NT o) (f : NC w a) : NC w' a := fun i hi z => by
  by_cases hl : i < w.S.length
  · rw [e.mu i hl] at z
    exact f i hl z
  · exact e.fresh i (by omega) hi o (by rw [z]; exact h) n
theorem Ex.off (e : Ex w w') {a : Addr} {o : HO} (h : w.H a = some o) (n : NT o) (f : Off w a) : Off w' a := ⟨e.nc h n f.1, fun z => f.2 ((e.bar a o h n).mp z)⟩
theorem Ex.trans (a : Ex w w1) (b : Ex w1 w2) : Ex w w2 where
  len := Nat.le_trans a.len b.len
  mu := fun i hi => (b.mu i (Nat.lt_of_lt_of_le hi a.len)).trans (a.mu i hi)
  frame := fun c o h n f => by
    obtain ⟨o1, h1, k1⟩ := a.frame c o h n f
    obtain ⟨o2, h2, k2⟩ := b.frame c o1 h1 (k1.nt n) (a.nc h n f)
    exact ⟨o2, h2, k1.trans k2⟩
  tup := fun c xs h => b.tup c xs (a.tup c xs h)
  frz := fun c o u h => b.frz c o u (a.frz c o u h)
  xd := fun c fs h => b.xd c fs (a.xd c fs h)
  live := fun c o h n => let ⟨o1, h1, n1⟩ := a.live c o h n; b.live c o1 h1 n1
  fresh := fun i h1 h2 o h n => by
    by_cases hl : i < w1.S.length
    · rw [b.mu i hl] at h
      exact a.fresh i h1 hl o h n
    · obtain ⟨o1, e1, n1⟩ := a.live _ o h n
      exact b.fresh i (by omega) h2 o1 e1 n1
  bar := fun c o h n => let ⟨o1, h1, n1⟩ := a.live c o h n; (b.bar c o1 h1 n1).trans (a.bar c o h n)
  hidd := fun c o h n f z => b.hidd c o (a.hidd c o h n f z) n (a.nc h n f) ((a.bar c o h n).mpr z)
/-- what is read for ever is read later -/
structure Per (K : PySem.W.Frag) (w w' : Wd) : Prop where
  t : ∀ a vs, SqT K w.H a vs → SqT K w'.H a vs
  z : ∀ a o u, w.H a = some (.frz o u) → w'.H a = some (.frz o u)
  o : ∀ a x, w.H a = some x → NT x → Off w a → ∃ x', w'.H a = some x' ∧ Ke x x'
  f : ∀ a x, w.H a = some x → NT x → Off w a → Off w' a
  xd : ∀ a fs, w.H a = some (.xd fs) → w'.H a = some (.xd fs)
theorem Ex.rd (e : Ex w w') {a : Addr} {xs : List V} (h : SqT K w.H a xs) : SqT K w'.H a xs := by
  rcases h with (h | ⟨o, h⟩) | h
  · exact .inl (.inl (e.tup a xs h))
  · exact .inl (.inr ⟨o, e.frz a o _ h⟩)
  · exact .inr h
theorem Ex.per (e : Ex w w') : Per K w w' := ⟨fun _ _ => e.rd, e.frz, fun a x h n f => e.frame a x h n f.1, fun _ _ h n f => e.off h n f, e.xd⟩
theorem nt_lst {vs : List V} : NT (.lst vs) := fun _ e => by cases e
theorem nt_dK {vs : List (Key × V)} : NT (.dK vs) := fun _ e => by cases e
theorem nt_dT {vs : List (List Key × V)} : NT (.dT vs) := fun _ e => by cases e
theorem nt_ins {C dx : Addr} {vs : List (Str × V)} : NT (.ins C dx vs) := fun _ e => by cases e
theorem nt_exx {C dd a : Addr} : NT (ExX C dd a) := fun _ e => by cases e
theorem StL.to (p : Per K w w') {a : Addr} {vs : List V} (h : StL K w a vs) : StL K w' a vs := by
  rcases h with ⟨h, f⟩ | ⟨o, h⟩ | h
  · obtain ⟨x, hx, k⟩ := p.o a _ h nt_lst f
    have e := k.eq (fun _ z => by cases z) (fun _ z => by cases z)
    subst e
    exact .inl ⟨hx, p.f a _ h nt_lst f⟩
  · exact .inr (.inl ⟨o, p.z a o _ h⟩)
  · exact .inr (.inr h)
theorem StK.to (p : Per K w w') {a : Addr} {vs : List (Key × V)} (h : StK w a vs) : StK w' a vs := by
  rcases h with ⟨h, f⟩ | ⟨o, h⟩
  · obtain ⟨x, hx, k⟩ := p.o a _ h nt_dK f
    rcases k with rfl | ⟨ob, rfl, _⟩
    · exact .inl ⟨hx, p.f a _ h nt_dK f⟩
    · exact .inr ⟨ob, hx⟩
  · exact .inr ⟨o, p.z a o _ h⟩
theorem StT.to (p : Per K w w') {a : Addr} {vs : List (List Key × V)} (h : StT w a vs) : StT w' a vs := by
  rcases h with ⟨h, f⟩ | ⟨o, h⟩
  · obtain ⟨x, hx, k⟩ := p.o a _ h nt_dT f
    rcases k with rfl | ⟨ob, rfl, _⟩
    · exact .inl ⟨hx, p.f a _ h nt_dT f⟩
    · exact .inr ⟨ob, hx⟩
  · exact .inr ⟨o, p.z a o _ h⟩
section
variable (hs : Per K w w') (hl : w.S.length ≤ w'.S.length) (hm : ∀ i, i < w.S.length → w'.m i = w.m i)
include hs hl hm
mutual
theorem rv_to : ∀ (d : D) (v : V), RV K mg w d v → RV K mg w' d v
  | .non, _, h => by unfold RV at h ⊢; exact h
  | .bl b, _, h => by unfold RV at h ⊢; exact h
  | .int i, _, h => by unfold RV at h ⊢; exact h
  | .str x, _, h => by unfold RV at h ⊢; exact h
  | .tup ds, _, h => by
    unfold RV at h ⊢
    obtain ⟨a, vs, h1, h2, h3⟩ := h
    exact ⟨a, vs, h1, hs.t a vs h2, rvs_to ds vs h3⟩
  | .lst ds, _, h => by
    unfold RV at h ⊢
    obtain ⟨a, vs, h1, h2, h3⟩ := h
    exact ⟨a, vs, h1, h2.to hs, rvs_to ds vs h3⟩
  | .dk ks ds, _, h => by
    unfold RV at h ⊢
    obtain ⟨a, vs, h1, h2, h3, h4⟩ := h
    exact ⟨a, vs, h1, h2.to hs, h3, rvs_to ds _ h4⟩
  | .dt ks ds, _, h => by
    unfold RV at h ⊢
    obtain ⟨a, vs, h1, h2, h3, h4⟩ := h
    exact ⟨a, vs, h1, h2.to hs, h3, rvs_to ds _ h4⟩
  | .ins c fs ds, _, h => by
    unfold RV at h ⊢
    obtain ⟨a, C, dx, vs, h1, h2, h3, h4, h5, h6⟩ := h
    obtain ⟨x, hx, k⟩ := hs.o a _ h3 nt_ins h4
    have e := k.eq (fun _ z => by cases z) (fun _ z => by cases z)
    subst e
    exact ⟨a, C, dx, vs, h1, h2, hx, hs.f a _ h3 nt_ins h4, h5, rvs_to ds _ h6⟩
  | .exc c d, _, h => by
    unfold RV at h ⊢
    obtain ⟨a, C, dd, u, h1, h2, h3, h4, h5, h6⟩ := h
    obtain ⟨x, hx, k⟩ := hs.o a _ h3 nt_exx h4
    have e := k.eq (fun _ z => by cases z) (fun _ z => by cases z)
    subst e
    exact ⟨a, C, dd, u, h1, h2, hx, hs.f a _ h3 nt_exx h4, hs.xd _ _ h5, rv_to d u h6⟩
  | .obj i, _, h => by
    unfold RV at h ⊢
    obtain ⟨h1, h2⟩ := h
    exact ⟨Nat.lt_of_lt_of_le h1 hl, by rw [hm i h1]; exact h2⟩
  | .ty s, _, h => by unfold RV at h ⊢; exact h
  | .nam x, _, h => by unfold RV at h ⊢; exact h
theorem rvs_to : ∀ (ds : List D) (vs : List V), RVs K mg w ds vs → RVs K mg w' ds vs
  | [], _, h => by unfold RVs at h ⊢; exact h
  | d :: ds, _, h => by
    unfold RVs at h ⊢
    obtain ⟨v, vs', h1, h2, h3⟩ := h
    exact ⟨v, vs', h1, rv_to d v h2, rvs_to ds vs' h3⟩
end
theorem rc_to {a : Addr} {c : Cell} (h : RC K mg w a c) (ha : w'.H a = w.H a) : RC K mg w' a c := by
  cases c with
  | lst ds =>
    obtain ⟨vs, h1, h2⟩ := h
    exact ⟨vs, ha.trans h1, rvs_to hs hl hm _ _ h2⟩
  | dk ks ds =>
    obtain ⟨vs, h1, h2, h3⟩ := h
    exact ⟨vs, ha.trans h1, h2, rvs_to hs hl hm _ _ h3⟩
  | dt ks ds =>
    obtain ⟨vs, h1, h2, h3⟩ := h
    exact ⟨vs, ha.trans h1, h2, rvs_to hs hl hm _ _ h3⟩
  | ins c fs ds =>
    obtain ⟨C, dx, vs, h0, h1, h2, h3⟩ := h
    exact ⟨C, dx, vs, h0, ha.trans h1, h2, rvs_to hs hl hm _ _ h3⟩
end
theorem Ex.rv (e : Ex w w') (d : D) (v : V) (h : RV K mg w d v) : RV K mg w' d v := rv_to e.per e.len e.mu d v h
theorem Ex.rvs (e : Ex w w') (ds : List D) (vs : List V) (h : RVs K mg w ds vs) : RVs K mg w' ds vs := rvs_to e.per e.len e.mu ds vs h
theorem Ex.rc (e : Ex w w') {a : Addr} {c : Cell} (h : RC K mg w a c) (ha : w'.H a = w.H a) : RC K mg w' a c := rc_to e.per e.len e.mu h ha
theorem RVs.len : ∀ {ds : List D} {vs : List V}, RVs K mg w ds vs → vs.length = ds.length
  | [], _, h => by unfold RVs at h; subst h; rfl
  | d :: ds, _, h => by
    unfold RVs at h
    obtain ⟨v, vs', h1, h2, h3⟩ := h
    subst h1
    simp [RVs.len h3]
theorem RVs.get : ∀ {ds : List D} {vs : List V} {i : Nat} {d : D}, RVs K mg w ds vs → ds[i]? = some d → ∃ v, vs[i]? = some v ∧ RV K mg w d v
  | [], _, _, _, _, e => by simp at e
  | d :: ds, _, i, x, h, e => by
    unfold RVs at h
    obtain ⟨v, vs', h1, h2, h3⟩ := h
    subst h1
    cases i with
    | zero =>
      simp at e
      subst e
      exact ⟨v, rfl, h2⟩
    | succ i =>
      obtain ⟨u, hu, r⟩ := RVs.get (i := i) h3 (by simpa using e)
      exact ⟨u, by simpa using hu, r⟩
theorem RVs.nil : RVs K mg w [] [] := by unfold RVs; rfl
theorem RVs.cons {d : D} {v : V} {ds : List D} {vs : List V} (h : RV K mg w d v) (t : RVs K mg w ds vs) : RVs K mg w (d :: ds) (v :: vs) := by
  unfold RVs
  exact ⟨v, vs, rfl, h, t⟩
theorem RVs.inv {d : D} {ds : List D} {vs : List V} (h : RVs K mg w (d :: ds) vs) : ∃ v vs', vs = v :: vs' ∧ RV K mg w d v ∧ RVs K mg w ds vs' := by
  unfold RVs at h
  exact h
theorem RVs.inv0 {vs : List V} (h : RVs K mg w [] vs) : vs = [] := by
  unfold RVs at h
  exact h
theorem RVs.app : ∀ {ds es : List D} {vs us : List V}, RVs K mg w ds vs → RVs K mg w es us → RVs K mg w (ds ++ es) (vs ++ us)
  | [], _, _, _, h, t => by
    have e := h.inv0
    subst e
    exact t
  | d :: ds, _, _, _, h, t => by
    obtain ⟨v, vs', rfl, h2, h3⟩ := h.inv
    exact RVs.cons h2 (RVs.app h3 t)
theorem RVs.take {n : Nat} : ∀ {ds : List D} {vs : List V}, RVs K mg w ds vs → RVs K mg w (ds.take n) (vs.take n) := by
  induction n with
  | zero => intro ds vs _; simp; exact RVs.nil
  | succ n ih =>
    intro ds vs h
    cases ds with
    | nil => rw [h.inv0]; simp; exact RVs.nil
    | cons d ds =>
      obtain ⟨v, vs', rfl, h2, h3⟩ := h.inv
      simp
      exact RVs.cons h2 (ih h3)
theorem RVs.drop {n : Nat} : ∀ {ds : List D} {vs : List V}, RVs K mg w ds vs → RVs K mg w (ds.drop n) (vs.drop n) := by
  induction n with
  | zero => intro ds vs h; simpa using h
  | succ n ih =>
    intro ds vs h
    cases ds with
    | nil => rw [h.inv0]; simp; exact RVs.nil
    | cons d ds =>
      obtain ⟨v, vs', rfl, h2, h3⟩ := h.inv
      simp
      exact ih h3
theorem RVs.set {d : D} {v : V} (r : RV K mg w d v) : ∀ {i : Nat} {ds : List D} {vs : List V}, RVs K mg w ds vs → RVs K mg w (ds.set i d) (vs.set i v) := by
  intro i
  induction i with
  | zero =>
    intro ds vs h
    cases ds with
    | nil => rw [h.inv0]; simp; exact RVs.nil
    | cons e ds =>
      obtain ⟨u, vs', rfl, h2, h3⟩ := h.inv
      simp
      exact RVs.cons r h3
  | succ i ih =>
    intro ds vs h
    cases ds with
    | nil => rw [h.inv0]; simp; exact RVs.nil
    | cons e ds =>
      obtain ⟨u, vs', rfl, h2, h3⟩ := h.inv
      simp
      exact RVs.cons h2 (ih h3)
theorem RVs.rev : ∀ {ds : List D} {vs : List V}, RVs K mg w ds vs → RVs K mg w ds.reverse vs.reverse
  | [], _, h => by rw [h.inv0]; exact RVs.nil
  | d :: ds, _, h => by
    obtain ⟨v, vs', rfl, h2, h3⟩ := h.inv
    simp only [List.reverse_cons]
    exact (RVs.rev h3).app (RVs.cons h2 RVs.nil)
/-- what a cell's object is -/
theorem RC.pl {a : Addr} {c : Cell} (h : RC K mg w a c) : ∃ o, w.H a = some o ∧ Pl o := by
  cases c with
  | lst ds =>
    obtain ⟨vs, h1, h2⟩ := h
    exact ⟨_, h1, trivial⟩
  | dk ks ds =>
    obtain ⟨vs, h1, h2, h3⟩ := h
    exact ⟨_, h1, trivial⟩
  | dt ks ds =>
    obtain ⟨vs, h1, h2, h3⟩ := h
    exact ⟨_, h1, trivial⟩
  | ins c fs ds =>
    obtain ⟨C, dx, vs, h0, h1, h2, h3⟩ := h
    exact ⟨_, h1, trivial⟩
theorem Ok.pl (k : Ok K mg T w) {i : Nat} (hi : i < w.S.length) : ∃ o, w.H (w.m i) = some o ∧ Pl o := (k.cell i w.S[i] (by simp [hi])).pl

/-! ### tables -/
theorem tabs_to {H H' : Hp} (t : LamX.Tabs T H) (h : ∀ b o, H b = some o → ¬ Pl o → H' b = some o) : LamX.Tabs T H' := fun p hp => by
  obtain ⟨ps, h1, h2, h3⟩ := t p hp
  refine ⟨ps, h _ _ h1 (fun z => z), h2, fun pos cv hc => ?_⟩
  obtain ⟨c, e1, e2⟩ := h3 pos cv hc
  exact ⟨c, e1, h _ _ e2 (fun z => by unfold LamX.CodeO at z; exact z)⟩

/-! ### steps of a world -/
theorem ne_new {p a : Addr} {H : Hp} {x : HO} (hp : H p = none) (h : H a = some x) : a ≠ p := fun e => by rw [e, hp] at h; cases h
theorem Ok.nat (k : Ok K mg T w) {p : Addr} (hp : w.H p = none) : NC w p := fun i hi e => by
  obtain ⟨x, hx, _⟩ := k.pl hi
  rw [e, hp] at hx
  cases hx
/-- a new tuple (or another new object that the store doesn't bear) -/
def Wd.lay (w : Wd) (p : Addr) (o : HO) : Wd := ⟨upd w.H p o, w.m, w.S, fun a => w.B a ∧ a ≠ p⟩
theorem Ex.lay {p : Addr} {o : HO} (hp : w.H p = none) : Ex w (w.lay p o) := by
  have ne : ∀ a x, w.H a = some x → a ≠ p := fun a x h => ne_new hp h
  exact ⟨Nat.le_refl _, fun _ _ => rfl, fun a x h _ _ => ⟨x, (upd_ne (ne a x h)).trans h, .inl rfl⟩, fun a x h => (upd_ne (ne a _ h)).trans h, fun a x y h => (upd_ne (ne a _ h)).trans h, fun a x h => (upd_ne (ne a _ h)).trans h, fun a x h n => ⟨x, (upd_ne (ne a x h)).trans h, n⟩, fun i h1 h2 => absurd (show i < w.S.length from h2) (by omega), fun a x h n => ⟨fun z => z.1, fun z => ⟨z, ne a x h⟩⟩, fun a x h _ _ _ => (upd_ne (ne a x h)).trans h⟩
theorem Ok.lay (k : Ok K mg T w) {p : Addr} {o : HO} (hp : w.H p = none) : Ok K mg T (w.lay p o) :=
  ⟨k.inj, fun i c h => by
    have q := k.cell i c h
    obtain ⟨x, hx, _⟩ := q.pl
    exact (Ex.lay hp).rc q (upd_ne (show w.m i ≠ p from fun e => by rw [e, hp] at hx; cases hx)), tabs_to k.tabs fun b o h _ => (upd_ne (ne_new hp h)).trans h, fun i hi z => k.nb i hi z.1⟩
theorem Ok.layOff (k : Ok K mg T w) {p : Addr} {o : HO} (hp : w.H p = none) : Off (w.lay p o) p := ⟨k.nat hp, fun z => z.2 rfl⟩
/-- a new object that nobody may read as yet -/
def Wd.hid (w : Wd) (p : Addr) (o : HO) : Wd := ⟨upd w.H p o, w.m, w.S, fun a => w.B a ∨ a = p⟩
theorem Ex.hid {p : Addr} {o : HO} (hp : w.H p = none) : Ex w (w.hid p o) := by
  have ne : ∀ a x, w.H a = some x → a ≠ p := fun a x h => ne_new hp h
  exact ⟨Nat.le_refl _, fun _ _ => rfl, fun a x h _ _ => ⟨x, (upd_ne (ne a x h)).trans h, .inl rfl⟩, fun a x h => (upd_ne (ne a _ h)).trans h, fun a x y h => (upd_ne (ne a _ h)).trans h, fun a x h => (upd_ne (ne a _ h)).trans h, fun a x h n => ⟨x, (upd_ne (ne a x h)).trans h, n⟩, fun i h1 h2 => absurd (show i < w.S.length from h2) (by omega), fun a x h n => ⟨fun z => z.elim id fun e => absurd e (ne a x h), .inl⟩, fun a x h _ _ _ => (upd_ne (ne a x h)).trans h⟩
theorem Ok.hid (k : Ok K mg T w) {p : Addr} {o : HO} (hp : w.H p = none) : Ok K mg T (w.hid p o) :=
  ⟨k.inj, fun i c h => by
    have q := k.cell i c h
    obtain ⟨x, hx, _⟩ := q.pl
    exact (Ex.hid hp).rc q (upd_ne (show w.m i ≠ p from fun e => by rw [e, hp] at hx; cases hx)), tabs_to k.tabs fun b o h _ => (upd_ne (ne_new hp h)).trans h, fun i hi z => z.elim (k.nb i hi) (k.nat hp i hi)⟩
/-- a new cell -/
def Wd.new (w : Wd) (p : Addr) (o : HO) (c : Cell) : Wd := ⟨upd w.H p o, fun i => if i = w.S.length then p else w.m i, w.S ++ [c], fun a => w.B a ∧ a ≠ p⟩
theorem Wd.new_m {p : Addr} {o : HO} {c : Cell} {i : Nat} (h : i < w.S.length) : (w.new p o c).m i = w.m i := if_neg (by omega)
theorem Wd.new_at {p : Addr} {o : HO} {c : Cell} : (w.new p o c).m w.S.length = p := if_pos rfl
theorem Wd.new_len {p : Addr} {o : HO} {c : Cell} : (w.new p o c).S.length = w.S.length + 1 := by show (w.S ++ [c]).length = _; simp
theorem Ex.new {p : Addr} {o : HO} {c : Cell} (hp : w.H p = none) : Ex w (w.new p o c) := by
  have ne : ∀ a x, w.H a = some x → a ≠ p := fun a x h => ne_new hp h
  refine ⟨by rw [Wd.new_len]; omega, fun i h => Wd.new_m h, fun a x h _ _ => ⟨x, (upd_ne (ne a x h)).trans h, .inl rfl⟩, fun a x h => (upd_ne (ne a _ h)).trans h, fun a x y h => (upd_ne (ne a _ h)).trans h, fun a x h => (upd_ne (ne a _ h)).trans h, fun a x h n => ⟨x, (upd_ne (ne a x h)).trans h, n⟩, fun i h1 h2 x hx => ?_, fun a x h n => ⟨fun z => z.1, fun z => ⟨z, ne a x h⟩⟩, fun a x h _ _ _ => (upd_ne (ne a x h)).trans h⟩
  rw [Wd.new_len] at h2
  have e : i = w.S.length := by omega
  subst e
  rw [Wd.new_at, hp] at hx
  cases hx
/-- the injectivity and so on of a store with one more -/
theorem more_inj {m : Nat → Addr} {n : Nat} {p : Addr} (inj : ∀ i j, i < n → j < n → m i = m j → i = j) (lv : ∀ i, i < n → m i ≠ p) : ∀ i j, i < n + 1 → j < n + 1 → (if i = n then p else m i) = (if j = n then p else m j) → i = j := fun i j hi hj e => by
  by_cases h1 : i = n
  · by_cases h2 : j = n
    · omega
    · rw [if_pos h1, if_neg h2] at e
      exact absurd e.symm (lv j (by omega))
  · by_cases h2 : j = n
    · rw [if_neg h1, if_pos h2] at e
      exact absurd e (lv i (by omega))
    · rw [if_neg h1, if_neg h2] at e
      exact inj i j (by omega) (by omega) e
theorem Ok.new (k : Ok K mg T w) {p : Addr} {o : HO} {c : Cell} (hp : w.H p = none) (hc : RC K mg (w.new p o c) p c) : Ok K mg T (w.new p o c) := by
  have lv := k.nat hp
  refine ⟨fun i j hi hj e => ?_, fun i c' h => ?_, tabs_to k.tabs fun b o h _ => (upd_ne (ne_new hp h)).trans h, fun i hi z => ?_⟩
  · rw [Wd.new_len] at hi hj
    exact more_inj k.inj lv i j hi hj e
  · have h' : (w.S ++ [c])[i]? = some c' := h
    by_cases h1 : i < w.S.length
    · rw [List.getElem?_append_left h1] at h'
      rw [Wd.new_m h1]
      exact (Ex.new hp).rc (k.cell i c' h') (upd_ne (lv i h1))
    · have z : i = w.S.length := by
        have := (List.getElem?_eq_some_iff.mp h').1
        simp at this
        omega
      subst z
      simp at h'
      subst h'
      rw [Wd.new_at]
      exact hc
  · rw [Wd.new_len] at hi
    by_cases h1 : i < w.S.length
    · rw [Wd.new_m h1] at z
      exact k.nb i h1 z.1
    · have e : i = w.S.length := by omega
      subst e
      rw [Wd.new_at] at z
      exact z.2 rfl
/-- a cell written -/
def Wd.put (w : Wd) (i : Nat) (o : HO) (c : Cell) : Wd := ⟨upd w.H (w.m i) o, w.m, w.S.set i c, w.B⟩
theorem Ex.put (k : Ok K mg T w) {i : Nat} {o : HO} {c c0 : Cell} (hi : w.S[i]? = some c0) (no : NT o) : Ex w (w.put i o c) := by
  have hl : i < w.S.length := (List.getElem?_eq_some_iff.mp hi).1
  obtain ⟨x, hx, pl⟩ := (k.cell i c0 hi).pl
  have nx : ∀ a u, w.H a = some u → ¬ Pl u → a ≠ w.m i := fun a u h n e => by
    rw [e, hx] at h
    cases h
    exact n pl
  refine ⟨by show _ ≤ (w.S.set i c).length; simp, fun _ _ => rfl, fun a u h _ f => ⟨u, (upd_ne (Ne.symm (f i hl))).trans h, .inl rfl⟩, fun a u h => (upd_ne (nx a _ h id)).trans h, fun a u y h => (upd_ne (nx a _ h id)).trans h, fun a u h => (upd_ne (nx a _ h id)).trans h, fun a u h n => ?_, fun j h1 h2 => ?_, fun a x h n => Iff.rfl, fun a x h _ f _ => (upd_ne (Ne.symm (f i hl))).trans h⟩
  · by_cases e : a = w.m i
    · exact ⟨o, by rw [e]; exact upd_same, no⟩
    · exact ⟨u, (upd_ne e).trans h, n⟩
  · have h2 : j < (w.S.set i c).length := h2
    rw [List.length_set] at h2
    omega
theorem Ok.put (k : Ok K mg T w) {i : Nat} {o : HO} {c c0 : Cell} (hi : w.S[i]? = some c0) (no : NT o) (hc : RC K mg (w.put i o c) (w.m i) c) : Ok K mg T (w.put i o c) := by
  have hl : i < w.S.length := (List.getElem?_eq_some_iff.mp hi).1
  have hz : (w.S.set i c).length = w.S.length := List.length_set
  obtain ⟨x, hx, pl⟩ := (k.cell i c0 hi).pl
  refine ⟨fun a b ha hb e => k.inj a b (hz ▸ ha) (hz ▸ hb) e, fun j c' h => ?_, tabs_to k.tabs fun b u h n => (upd_ne (fun e => ?_)).trans h, fun j hj => k.nb j (hz ▸ hj)⟩
  · have h' : (w.S.set i c)[j]? = some c' := h
    by_cases e : j = i
    · subst e
      rw [List.getElem?_set_self hl] at h'
      cases h'
      exact hc
    · rw [List.getElem?_set_ne (Ne.symm e)] at h'
      have hj : j < w.S.length := (List.getElem?_eq_some_iff.mp h').1
      exact (Ex.put k hi no).rc (k.cell j c' h') (upd_ne fun z => e (k.inj j i hj hl z))
  · rw [e, hx] at h
    cases h
    exact n pl
/-- what nobody may read is changed -/
def Wd.re (w : Wd) (p : Addr) (o : HO) : Wd := ⟨upd w.H p o, w.m, w.S, w.B⟩
/-- from the moment ahead of the object -/
theorem Ex.re {w0 : Wd} {p : Addr} {o : HO} (hp : w0.H p = none) (e : Ex w0 w) : Ex w0 (w.re p o) where
  len := e.len
  mu := e.mu
  frame := fun a x h n f => let ⟨y, hy, ky⟩ := e.frame a x h n f; ⟨y, (upd_ne (ne_new hp h)).trans hy, ky⟩
  tup := fun a x h => (upd_ne (ne_new hp h)).trans (e.tup a x h)
  frz := fun a x y h => (upd_ne (ne_new hp h)).trans (e.frz a x y h)
  xd := fun a x h => (upd_ne (ne_new hp h)).trans (e.xd a x h)
  live := fun a x h n => let ⟨y, hy, ny⟩ := e.live a x h n; ⟨y, (upd_ne (ne_new hp h)).trans hy, ny⟩
  fresh := e.fresh
  bar := e.bar
  hidd := fun a x h n f z => (upd_ne (ne_new hp h)).trans (e.hidd a x h n f z)
theorem Per.re {p : Addr} {o o0 : HO} (hp : w.H p = some o0) (pl : Pl o0) (hb : w.B p) : Per K w (w.re p o) := by
  have nx : ∀ a u, w.H a = some u → ¬ Pl u → a ≠ p := fun a u h n e => by
    rw [e, hp] at h
    cases h
    exact n pl
  refine ⟨fun a vs h => ?_, fun a u y h => (upd_ne (nx a _ h id)).trans h, fun a u h _ f => ⟨u, (upd_ne (fun e => f.2 (by rw [e]; exact hb))).trans h, .inl rfl⟩, fun a u _ _ f => f, fun a u h => (upd_ne (nx a _ h id)).trans h⟩
  rcases h with (h | ⟨x, h⟩) | h
  · exact .inl (.inl ((upd_ne (nx a _ h id)).trans h))
  · exact .inl (.inr ⟨x, (upd_ne (nx a _ h id)).trans h⟩)
  · exact .inr h
theorem Ok.re (k : Ok K mg T w) {p : Addr} {o o0 : HO} (hp : w.H p = some o0) (pl : Pl o0) (hb : w.B p) (hn : NC w p) :
    Ok K mg T (w.re p o) ∧ (∀ d v, RV K mg w d v → RV K mg (w.re p o) d v) ∧ (∀ ds vs, RVs K mg w ds vs → RVs K mg (w.re p o) ds vs) := by
  have pr : Per K w (w.re p o) := Per.re hp pl hb
  exact ⟨⟨k.inj, fun i c h => rc_to pr (Nat.le_refl _) (fun _ _ => rfl) (k.cell i c h) (upd_ne (hn i (List.getElem?_eq_some_iff.mp (show w.S[i]? = some c from h)).1)), tabs_to k.tabs fun b u h n => (upd_ne (fun e => by
    rw [e, hp] at h
    cases h
    exact n pl)).trans h, k.nb⟩, rv_to pr (Nat.le_refl _) fun _ _ => rfl, rvs_to pr (Nat.le_refl _) fun _ _ => rfl⟩
/-- what nobody might read may be read now -/
def Wd.bare (w : Wd) (p : Addr) : Wd := ⟨w.H, w.m, w.S, fun a => w.B a ∧ a ≠ p⟩
theorem Ex.bare {w0 : Wd} {p : Addr} (hp : w0.H p = none) (e : Ex w0 w) : Ex w0 (w.bare p) :=
  ⟨e.len, e.mu, e.frame, e.tup, e.frz, e.xd, e.live, e.fresh, fun a x h n => ⟨fun z => (e.bar a x h n).mp z.1, fun z => ⟨(e.bar a x h n).mpr z, ne_new hp h⟩⟩, e.hidd⟩
theorem Per.bare {p : Addr} : Per K w (w.bare p) := ⟨fun _ _ h => h, fun _ _ _ h => h, fun a x h _ _ => ⟨x, h, .inl rfl⟩, fun a x h n f => ⟨f.1, fun z => f.2 z.1⟩, fun _ _ h => h⟩
theorem Ok.bare (k : Ok K mg T w) {p : Addr} : Ok K mg T (w.bare p) ∧ (∀ d v, RV K mg w d v → RV K mg (w.bare p) d v) ∧ (∀ ds vs, RVs K mg w ds vs → RVs K mg (w.bare p) ds vs) :=
  ⟨⟨k.inj, fun i c h => rc_to Per.bare (Nat.le_refl _) (fun _ _ => rfl) (k.cell i c h) rfl, k.tabs, fun i hi z => k.nb i hi z.1⟩, rv_to Per.bare (Nat.le_refl _) fun _ _ => rfl, rvs_to Per.bare (Nat.le_refl _) fun _ _ => rfl⟩
/-- .. and is a cell -/
def Wd.own (w : Wd) (p : Addr) (c : Cell) : Wd := ⟨w.H, fun i => if i = w.S.length then p else w.m i, w.S ++ [c], fun a => w.B a ∧ a ≠ p⟩
theorem Wd.own_m {p : Addr} {c : Cell} {i : Nat} (h : i < w.S.length) : (w.own p c).m i = w.m i := if_neg (by omega)
theorem Wd.own_at {p : Addr} {c : Cell} : (w.own p c).m w.S.length = p := if_pos rfl
theorem Wd.own_len {p : Addr} {c : Cell} : (w.own p c).S.length = w.S.length + 1 := by show (w.S ++ [c]).length = _; simp
/-- from the moment ahead of the new object -/
theorem Ex.own {w0 : Wd} {p : Addr} {c : Cell} (hp : w0.H p = none) (e : Ex w0 w) : Ex w0 (w.own p c) where
  len := by rw [Wd.own_len]; have := e.len; omega
  mu := fun i h => (Wd.own_m (Nat.lt_of_lt_of_le h e.len)).trans (e.mu i h)
  frame := e.frame
  tup := e.tup
  frz := e.frz
  xd := e.xd
  live := e.live
  fresh := fun i h1 h2 o h => by
    by_cases hl : i < w.S.length
    · rw [Wd.own_m hl] at h
      exact e.fresh i h1 hl o h
    · rw [Wd.own_len] at h2
      have z : i = w.S.length := by omega
      subst z
      rw [Wd.own_at, hp] at h
      cases h
  bar := fun a x h n => ⟨fun z => (e.bar a x h n).mp z.1, fun z => ⟨(e.bar a x h n).mpr z, ne_new hp h⟩⟩
  hidd := e.hidd
/-- a step by which a barred object becomes a cell: what is read is kept -/
theorem Per.own {p : Addr} {c : Cell} (hb : w.B p) : Per K w (w.own p c) := by
  refine ⟨fun _ _ h => h, fun _ _ _ h => h, fun a x h _ _ => ⟨x, h, .inl rfl⟩, fun a x h n f => ⟨fun i hi z => ?_, fun z => f.2 z.1⟩, fun _ _ h => h⟩
  rw [Wd.own_len] at hi
  by_cases hl : i < w.S.length
  · rw [Wd.own_m hl] at z
    exact f.1 i hl z
  · have e : i = w.S.length := by omega
    subst e
    rw [Wd.own_at] at z
    subst z
    exact f.2 hb
theorem Ok.own (k : Ok K mg T w) {p : Addr} {c : Cell} (hb : w.B p) (hn : NC w p) (r : RC K mg w p c) :
    Ok K mg T (w.own p c) ∧ RV K mg (w.own p c) (.obj w.S.length) (.ref p) := by
  have hl : w.S.length ≤ (w.own p c).S.length := by rw [Wd.own_len]; omega
  have to : ∀ {a : Addr} {c' : Cell}, RC K mg w a c' → RC K mg (w.own p c) a c' := fun h => rc_to (w := w) (w' := w.own p c) (Per.own hb) hl (fun i hi => Wd.own_m hi) h rfl
  refine ⟨⟨fun i j hi hj e => ?_, fun i c' h => ?_, k.tabs, fun i hi z => ?_⟩, ?_⟩
  · rw [Wd.own_len] at hi hj
    exact more_inj k.inj hn i j hi hj e
  · have h' : (w.S ++ [c])[i]? = some c' := h
    by_cases h1 : i < w.S.length
    · rw [List.getElem?_append_left h1] at h'
      rw [Wd.own_m h1]
      exact to (k.cell i c' h')
    · have z : i = w.S.length := by
        have := (List.getElem?_eq_some_iff.mp h').1
        simp at this
        omega
      subst z
      simp at h'
      subst h'
      rw [Wd.own_at]
      exact to r
  · rw [Wd.own_len] at hi
    by_cases h1 : i < w.S.length
    · rw [Wd.own_m h1] at z
      exact k.nb i h1 z.1
    · have e : i = w.S.length := by omega
      subst e
      rw [Wd.own_at] at z
      exact z.2 rfl
  · unfold RV
    exact ⟨by rw [Wd.own_len]; omega, by rw [Wd.own_at]⟩
/-- a dict is locked for ever -/
def Wd.lock (w : Wd) (p : Addr) (ob : Obj) (u : HO) : Wd := ⟨upd w.H p (.frz ob u), w.m, w.S, w.B⟩
theorem Ex.lock {p : Addr} {ob : Obj} {u : HO} (hp : w.H p = some u) (hd : (∃ kvs, u = .dK kvs) ∨ ∃ kvs, u = .dT kvs) (hb : ¬ w.B p) : Ex w (w.lock p ob u) := by
  have pl : Pl u := by rcases hd with ⟨_, rfl⟩ | ⟨_, rfl⟩ <;> exact trivial
  have nx : ∀ a x, w.H a = some x → ¬ Pl x → a ≠ p := fun a x h n e => by
    rw [e, hp] at h
    cases h
    exact n pl
  refine ⟨Nat.le_refl _, fun _ _ => rfl, fun a x h _ f => ?_, fun a u h => (upd_ne (nx a _ h id)).trans h, fun a u y h => (upd_ne (nx a _ h id)).trans h, fun a u h => (upd_ne (nx a _ h id)).trans h, fun a x h n => ?_, fun j h1 h2 => absurd (show j < w.S.length from h2) (by omega), fun a x h n => Iff.rfl, fun a x h _ _ z => (upd_ne (fun e => hb (by rw [← e]; exact z))).trans h⟩
  · by_cases e : a = p
    · subst e
      rw [hp] at h
      cases h
      exact ⟨_, upd_same, .inr ⟨ob, rfl, hd⟩⟩
    · exact ⟨x, (upd_ne e).trans h, .inl rfl⟩
  · by_cases e : a = p
    · exact ⟨.frz ob u, by rw [e]; exact upd_same, fun ps z => by cases z⟩
    · exact ⟨x, (upd_ne e).trans h, n⟩
theorem Ok.lock (k : Ok K mg T w) {p : Addr} {ob : Obj} {u : HO} (hp : w.H p = some u) (hd : (∃ kvs, u = .dK kvs) ∨ ∃ kvs, u = .dT kvs) (hf : Off w p) : Ok K mg T (w.lock p ob u) := by
  have pl : Pl u := by rcases hd with ⟨_, rfl⟩ | ⟨_, rfl⟩ <;> exact trivial
  exact ⟨k.inj, fun i c h => (Ex.lock hp hd hf.2).rc (k.cell i c h) (upd_ne (hf.1 i (List.getElem?_eq_some_iff.mp (show w.S[i]? = some c from h)).1)), tabs_to k.tabs fun b x h n => (upd_ne (fun e => by
    rw [e, hp] at h
    cases h
    exact n pl)).trans h, k.nb⟩
/-- the tables of code objects have grown -/
def Wd.tab (w : Wd) (H : Hp) : Wd := ⟨H, w.m, w.S, w.B⟩
theorem Ex.tab {H : Hp} (e : LamX.ExtN w.H H) : Ex w (w.tab H) :=
  ⟨Nat.le_refl _, fun _ _ => rfl, fun a x h n _ => ⟨x, e a x h n, .inl rfl⟩, fun a u h => e a _ h (fun _ z => by cases z), fun a u y h => e a _ h (fun _ z => by cases z), fun a u h => e a _ h (fun _ z => by cases z), fun a x h n => ⟨x, e a x h n, n⟩, fun j h1 h2 => absurd (show j < w.S.length from h2) (by omega), fun a x h n => Iff.rfl, fun a x h n _ _ => e a x h n⟩
theorem Ok.tab (k : Ok K mg T w) {H : Hp} (e : LamX.ExtN w.H H) (t : LamX.Tabs T H) : Ok K mg T (w.tab H) :=
  ⟨k.inj, fun i c h => by
    obtain ⟨x, hx, pl⟩ := (k.cell i c h).pl
    exact (Ex.tab e).rc (k.cell i c h) ((e _ _ hx pl.nt).trans hx.symm), t, k.nb⟩
/-! ### a call's end: what it has made and nobody else may change is for ever so -/
end
end Tu
end L2
set_option Elab.async false
set_option linter.all false
set_option maxRecDepth 100000
set_option maxHeartbeats 2000000
/-! TB2: what a plain reckoning says of a judgement of the hand layer: the ends, their binding, the environment. -/
namespace L2
namespace Tu
open PySem PySem.Spec PyProof.Rows

section
variable (K : PySem.W.Frag) (mg : Str → Option Value) (T : Tbl)
/-- the names' values -/
structure RE (w : Wd) (ρ : Env) (σ : St) : Prop where
  len : σ.length = ρ.length
  get : ∀ (i : Nat) (d : D), ρ[i]? = some (some d) → ∃ v, σ[i]? = some (some v) ∧ RV K mg w d v
/-- what is wanted behind a reckoning that gives r -/
def out {α β : Type} (R : Wd → α → β → Prop) (W : WX) (σ : St) (r : Res α) (w : Wd) (Q : β → Hp → Prop) : Prop := match r with
  | .ok a S => ∀ (w' : Wd) (x : β), w'.S = S → Ex w w' → Ok K mg T w' → R w' a x → Q x w'.H
  | .exc c d S => ∀ (w' : Wd) (C dd : Addr) (v : V), w'.S = S → Ex w w' → Ok K mg T w' → mg c = some (.ref C) → w'.H dd = some (.xd [(("value" : Str), v)]) → RV K mg w' d v → W (.ref C) (some dd) σ w'.H
  | .bad => False
/-- .. of an operation by values -/
def outO {α β : Type} (R : Wd → α → β → Prop) (r : Option (α × Store)) (w : Wd) (Q : β → Hp → Prop) : Prop := match r with
  | some (a, S) => ∀ (w' : Wd) (x : β), w'.S = S → Ex w w' → Ok K mg T w' → R w' a x → Q x w'.H
  | none => False
def RB (_ : Wd) (a b : Bool) : Prop := b = a
/-- an expression's reading by a plain reckoning -/
def tD (W : WX) (m : Env → Store → Res D) : TE := fun σ H Q => ∃ w ρ, w.H = H ∧ Ok K mg T w ∧ RE K mg w ρ σ ∧ out K mg T (RV K mg) W σ (m ρ w.S) w Q
def tDT (W : WX) (m : Env → Store → Res Bool) : TT := fun σ H Q => ∃ w ρ, w.H = H ∧ Ok K mg T w ∧ RE K mg w ρ σ ∧ out K mg T RB W σ (m ρ w.S) w Q
def tDA (W : WX) (m : Env → Store → Res (List D)) : TA := fun σ H Q => ∃ w ρ, w.H = H ∧ Ok K mg T w ∧ RE K mg w ρ σ ∧ out K mg T (RVs K mg) W σ (m ρ w.S) w Q
/-- an operation by values -/
def rO2 (f : D → D → Store → Option (D × Store)) : R2 := fun x y H Q => ∃ w a b, w.H = H ∧ Ok K mg T w ∧ RV K mg w a x ∧ RV K mg w b y ∧ outO K mg T (RV K mg) (f a b w.S) w Q
def rO1 (f : D → Store → Option (D × Store)) : V → Hp → VK → Prop := fun x H Q => ∃ w a, w.H = H ∧ Ok K mg T w ∧ RV K mg w a x ∧ outO K mg T (RV K mg) (f a w.S) w Q
def rON (f : List D → Store → Option (D × Store)) : List V → Hp → VK → Prop := fun xs H Q => ∃ w as, w.H = H ∧ Ok K mg T w ∧ RVs K mg w as xs ∧ outO K mg T (RV K mg) (f as w.S) w Q
def rOM (f : D → List D → Store → Option (D × Store)) : V → List V → Hp → VK → Prop := fun x xs H Q => ∃ w a as, w.H = H ∧ Ok K mg T w ∧ RV K mg w a x ∧ RVs K mg w as xs ∧ outO K mg T (RV K mg) (f a as w.S) w Q
end

section
variable {K : PySem.W.Frag} {mg : Str → Option Value} {T : Tbl} {w w' w1 w2 : Wd}
theorem RE.mono {ρ : Env} {σ : St} (h : RE K mg w ρ σ) (e : Ex w w') : RE K mg w' ρ σ := ⟨h.len, fun i d q => let ⟨v, h1, h2⟩ := h.get i d q; ⟨v, h1, Ex.rv e d v h2⟩⟩
theorem RE.set {ρ : Env} {σ : St} (h : RE K mg w ρ σ) {i : Nat} {d : D} {v : V} (r : RV K mg w d v) : RE K mg w (ρ.set i (some d)) (σ.set i (some v)) := by
  refine ⟨by simp [h.len], fun j x q => ?_⟩
  by_cases e : j = i
  · subst e
    have hl : j < ρ.length := by
      have := (List.getElem?_eq_some_iff.mp q).1
      simpa using this
    rw [List.getElem?_set_self hl] at q
    cases q
    exact ⟨v, List.getElem?_set_self (by rw [h.len]; exact hl), r⟩
  · rw [List.getElem?_set_ne (Ne.symm e)] at q ⊢
    exact h.get j x q
theorem RE.unset {ρ : Env} {σ : St} (h : RE K mg w ρ σ) (i : Nat) : RE K mg w (ρ.set i none) (σ.set i none) := by
  refine ⟨by simp [h.len], fun j x q => ?_⟩
  by_cases e : j = i
  · subst e
    have hl : j < ρ.length := by
      have := (List.getElem?_eq_some_iff.mp q).1
      simpa using this
    rw [List.getElem?_set_self hl] at q
    cases q
  · rw [List.getElem?_set_ne (Ne.symm e)] at q ⊢
    exact h.get j x q
section
variable {α β γ δ : Type} {R : Wd → α → β → Prop} {R' : Wd → γ → δ → Prop} {W : WX} {σ : St}
theorem out.shift {r : Res α} {Q : β → Hp → Prop} (h : out K mg T R W σ r w Q) (e : Ex w w1) : out K mg T R W σ r w1 Q := by
  cases r with
  | ok a S => exact fun w' x h1 h2 h3 h4 => h w' x h1 (e.trans h2) h3 h4
  | exc c d S => exact fun w' C dd v h1 h2 h3 h4 h5 h6 => h w' C dd v h1 (e.trans h2) h3 h4 h5 h6
  | bad => exact h
theorem outO.shift {r : Option (α × Store)} {Q : β → Hp → Prop} (h : outO K mg T R r w Q) (e : Ex w w1) : outO K mg T R r w1 Q := by
  cases r with
  | some a => exact fun w' x h1 h2 h3 h4 => h w' x h1 (e.trans h2) h3 h4
  | none => exact h
theorem out.mono {r : Res α} {Q Q' : β → Hp → Prop} (h : out K mg T R W σ r w Q) (hq : ∀ x H, Q x H → Q' x H) : out K mg T R W σ r w Q' := by
  cases r with
  | ok a S => exact fun w' x h1 h2 h3 h4 => hq _ _ (h w' x h1 h2 h3 h4)
  | exc c d S => exact h
  | bad => exact h
/-- THE BINDING: behind the first the second's wish stands, at a later world -/
theorem out.bind {r : Res α} {k : α → Store → Res γ} {Q : δ → Hp → Prop} (h : out K mg T R' W σ (r.bind k) w Q) :
    out K mg T R W σ r w (fun x H1 => ∃ w1 a, w1.H = H1 ∧ Ex w w1 ∧ Ok K mg T w1 ∧ R w1 a x ∧ out K mg T R' W σ (k a w1.S) w1 Q) := by
  cases r with
  | ok a S => exact fun w' x h1 h2 h3 h4 => ⟨w', a, rfl, h2, h3, h4, by rw [h1]; exact out.shift h h2⟩
  | exc c d S => exact h
  | bad => exact h
theorem out.of {r : Option (α × Store)} {Q : β → Hp → Prop} (h : out K mg T R W σ (Res.of r) w Q) : outO K mg T R r w Q := by
  cases r with
  | some a => exact h
  | none => exact h
/-- what is given -/
theorem out.give {a : α} {x : β} {Q : β → Hp → Prop} (h : out K mg T R W σ (.ok a w.S) w Q) (k : Ok K mg T w) (r : R w a x) : Q x w.H := h w x rfl (Ex.refl w) k r
theorem outO.give {a : α} {x : β} {S : Store} {Q : β → Hp → Prop} (h : outO K mg T R (some (a, S)) w Q) (k : Ok K mg T w) (r : R w a x) (e : w.S = S) : Q x w.H := h w x e (Ex.refl w) k r
theorem outO.at {a : α} {x : β} {S : Store} {Q : β → Hp → Prop} (h : outO K mg T R (some (a, S)) w Q) (e : w'.S = S) (x' : Ex w w') (k : Ok K mg T w') (r : R w' a x) : Q x w'.H := h w' x e x' k r
end
end

/-! ### weaker readings -/
section
variable {T : Tbl} {X : Cx}
theorem pe_weak {e : Expr} {t t' : TE} (h : PE X e t) (hw : ∀ σ H Q, t' σ H Q → t σ H Q) : PE X e t' := ⟨fun pins s σ H Q I q => h.run pins s σ H Q I (hw σ H Q q)⟩
theorem pt_weak {e : Expr} {t t' : TT} (h : PT X e t) (hw : ∀ σ H Q, t' σ H Q → t σ H Q) : PT X e t' := ⟨fun pins s σ H Q I q => h.run pins s σ H Q I (hw σ H Q q)⟩
theorem pw_weak {e : Expr} {t t' : TT} (h : PW X e t) (hw : ∀ σ H Q, t' σ H Q → t σ H Q) : PW X e t' := ⟨fun wh pins s σ H Q I q => h.run wh pins s σ H Q I (hw σ H Q q)⟩
theorem pa_weak {es : List Expr} {t t' : TA} (h : PA X es t) (hw : ∀ σ H Q, t' σ H Q → t σ H Q) : PA X es t' := ⟨fun pos pins s σ H Q I q => h.run pos pins s σ H Q I (hw σ H Q q)⟩
theorem ps_weak {st : Stmt} {t t' : TS} (h : PS X st t) (hw : ∀ D σ H, t' D σ H → t D σ H) : PS X st t' := ⟨fun pins s σ H D I q => h.run pins s σ H D I (hw D σ H q)⟩
theorem pss_weak {st : List Stmt} {t t' : TS} (h : PSs X st t) (hw : ∀ D σ H, t' D σ H → t D σ H) : PSs X st t' := ⟨fun pins s σ H D I q => h.run pins s σ H D I (hw D σ H q)⟩
end

/-! ### expressions by their parts -/
section
variable {T : Tbl} {X : Cx} {W : WX} {a b c : Expr} {ma mb mc : Env → Store → Res D} {pos : Pos}
theorem de_con {e : Expr} {d : D} {v : V} (h : PE X e (tC v)) (r : ∀ w, RV X.K X.mg w d v) : PE X e (tD X.K X.mg T W fun _ S => .ok d S) :=
  pe_weak h fun σ H Q ⟨w, ρ, e, k, re, q⟩ => by subst e; exact q.give k (r w)
theorem de_var {i : Nat} {x : Str} (hN : X.N[i]? = some x) (hv : Vis X.env.scope x) (hd : (x == ("__debug__" : Str)) = false) (hcd : (x == ("__classdict__" : Str)) = false) :
    PE X (.Name x pos) (tD X.K X.mg T W fun ρ S => match ρ[i]? with | some (some d) => .ok d S | _ => .bad) := by
  refine pe_weak (pe_var hN hv hd hcd) fun σ H Q ⟨w, ρ, e, k, re, q⟩ => ?_
  subst e
  dsimp only at q
  split at q
  · rename_i d hd
    obtain ⟨v, h1, h2⟩ := re.get i d hd
    exact ⟨v, h1, q.give k h2⟩
  · exact q.elim
theorem de_op {op : Operator} {f : D → D → Store → Option (D × Store)} (ho : OpR X (binaryOp op) (rO2 X.K X.mg T f)) (ha : PE X a (tD X.K X.mg T W ma)) (hb : PE X b (tD X.K X.mg T W mb)) :
    PE X (.BinOp a op b pos) (tD X.K X.mg T W fun ρ S => (ma ρ S).bind fun x S1 => (mb ρ S1).bind fun y S2 => Res.of (f x y S2)) := by
  refine pe_weak (pe_op ho ha hb) fun σ H Q ⟨w, ρ, e, k, re, q⟩ => ?_
  subst e
  refine ⟨w, ρ, rfl, k, re, q.bind.mono ?_⟩
  rintro x H1 ⟨w1, d1, rfl, e1, k1, r1, q1⟩
  refine ⟨w1, ρ, rfl, k1, re.mono e1, q1.bind.mono ?_⟩
  rintro y H2 ⟨w2, d2, rfl, e2, k2, r2, q2⟩
  exact ⟨w2, d1, d2, rfl, k2, Ex.rv e2 _ _ r1, r2, q2.of⟩
theorem de_un {op : UnaryOp} {f : D → Store → Option (D × Store)} (ho : UnR X (unaryOp op) (rO1 X.K X.mg T f)) (ha : PE X a (tD X.K X.mg T W ma)) :
    PE X (.UnaryOp op a pos) (tD X.K X.mg T W fun ρ S => (ma ρ S).bind fun x S1 => Res.of (f x S1)) := by
  refine pe_weak (pe_un ho ha) fun σ H Q ⟨w, ρ, e, k, re, q⟩ => ?_
  subst e
  refine ⟨w, ρ, rfl, k, re, q.bind.mono ?_⟩
  rintro x H1 ⟨w1, d1, rfl, e1, k1, r1, q1⟩
  exact ⟨w1, d1, rfl, k1, r1, q1.of⟩
theorem de_cmp {op : CmpOp} {f : D → D → Store → Option (D × Store)} (ho : OpR X (compareOp op) (rO2 X.K X.mg T f)) (ha : PE X a (tD X.K X.mg T W ma)) (hb : PE X b (tD X.K X.mg T W mb)) (hm : behindInMarks op b = false) :
    PE X (.Compare a [op] [b] pos) (tD X.K X.mg T W fun ρ S => (ma ρ S).bind fun x S1 => (mb ρ S1).bind fun y S2 => Res.of (f x y S2)) := by
  refine pe_weak (pe_cmpR ho ha hb hm) fun σ H Q ⟨w, ρ, e, k, re, q⟩ => ?_
  subst e
  refine ⟨w, ρ, rfl, k, re, q.bind.mono ?_⟩
  rintro x H1 ⟨w1, d1, rfl, e1, k1, r1, q1⟩
  refine ⟨w1, ρ, rfl, k1, re.mono e1, q1.bind.mono ?_⟩
  rintro y H2 ⟨w2, d2, rfl, e2, k2, r2, q2⟩
  exact ⟨w2, d1, d2, rfl, k2, Ex.rv e2 _ _ r1, r2, q2.of⟩
end
end Tu
end L2
set_option Elab.async false
set_option linter.all false
set_option maxRecDepth 100000
set_option maxHeartbeats 2000000
/-! TB3: what is written, as a small tree with names by slots; what it comes to, over plain values. -/
namespace L2
namespace Tu
open PySem PySem.Spec PyProof.Rows

/-! ### the tree -/
mutual
inductive IE : Type
  | var (i : Nat)
  | con (d : D)
  | glo (x : Str)
  | lst (fl : Bool) (es : IEs) | tup (es : IEs)
  | bin (op : Operator) (a b : IE)
  | neg (a : IE)
  | not (a : IE)
  | bop (an : Bool) (es : IEs)
  | cmp (op : CmpOp) (a b : IE)
  | cmp2 (op op' : CmpOp) (a b c : IE)
  | ite (c : IC) (a b : IE)
  | idx (a b : IE)
  | slc (a : IE) (lo hi : IO)
  | fld (a : IE) (f : Str)
  | fn (f : Str) (es : IEs)
  | mk (c : Str) (es : IEs)
  | bi (fl : Bool) (f : Str) (es : IEs)
  | isi (a : IE) (c : Str)
  | me (a : IE) (m : Str) (es : IEs)
  | mb (a : IE) (m : Str) (es : IEs)
  | lrg (fl : Bool) (e : IE)
  | nev
  | lc (fl : Bool) (own : List (Str × Nat)) (elt : IE) (tg : IT) (it : II) (ifs : ICs)
  | dic (fl : Bool) (ks : List Str) (es : IEs)
inductive IC : Type
  | val (e : IE)
  | not (c : IC)
  | bop (an : Bool) (cs : ICs)
  | cmp (op : CmpOp) (a b : IE)
  | cmp2 (op op' : CmpOp) (a b c : IE)
inductive ICs : Type
  | nil
  | cons (c : IC) (cs : ICs)
inductive IEs : Type
  | nil
  | cons (e : IE) (es : IEs)
  | star (e : IE) (es : IEs)
inductive IO : Type
  | no
  | is (e : IE)
inductive IT : Type
  | name (i : Nat)
  | tup (ts : ITs)
inductive ITs : Type
  | nil
  | cons (t : IT) (ts : ITs)
inductive II : Type
  | val (e : IE)
  | rng (e : IE)
  | enu (e : IE)
  | zip (a b : IE)
end
mutual
inductive IS : Type
  | set (i : Nat) (e : IE)
  | unp (ts : ITs) (e : IE)
  | par (i j : Nat) (a b : IE)
  | put (o k v : IE)
  | stf (o : IE) (f : Str) (v : IE)
  | expr (e : IE)
  | ret (e : IE)
  | retN
  | ife (c : IC) (a b : ISs)
  | for_ (t : IT) (it : II) (b : ISs)
  | rai (c : Str) (e : IE)
  | pas
  | never
inductive ISs : Type
  | nil
  | cons (s : IS) (ss : ISs)
end

/-! ### how a statement ends -/
inductive RS where
  | nx (ρ : Env) (S : Store)
  | rt (d : D) (S : Store)
  | ct (ρ : Env) (S : Store)
  | bk (ρ : Env) (S : Store)
  | ex (c : Str) (d : D) (ρ : Env) (S : Store)
  | bad
def RS.seq (r : RS) (k : Env → Store → RS) : RS := match r with
  | .nx ρ S => k ρ S
  | r => r
/-- an expression's end within a statement -/
def Res.st {α : Type} (r : Res α) (ρ : Env) (k : α → Store → RS) : RS := match r with
  | .ok a S => k a S
  | .exc c d S => .ex c d ρ S
  | .bad => .bad

/-! ### what the module gives: defs, classes, constants -/
structure Nm where
  fns : List Str
  cls : List Str
  xcs : List Str
  iss : List Str
structure Gl0 extends Nm where
  fn : Str → List D → Store → Res D
  ma : Str → List D → Store → Res D
  me : Str → Str → List D → Store → Res D
  con : Str → Option D
  fld : Str → Str → Option (D → Store → Res D)
  isi : Str → Str → Bool

/-! ### operations by values -/
section
open Classical
noncomputable section
/-- a new list: a cell, or for ever so -/
def mkL (fl : Bool) (xs : List D) (S : Store) : D × Store := if fl = true then (.obj S.length, S ++ [.lst xs]) else (.lst xs, S)
def mkK (fl : Bool) (ks : List Key) (xs : List D) (S : Store) : D × Store := if fl = true then (.obj S.length, S ++ [.dk ks xs]) else (.dk ks xs, S)
def addF : D → D → Store → Option (D × Store)
  | .int i, .int j, S => some (.int (i + j), S)
  | .str x, .str y, S => if x.length + y.length ≤ sizeLine then some (.str (x ++ y), S) else none
  | .tup xs, .tup ys, S => if xs.length + ys.length ≤ sizeLine then some (.tup (xs ++ ys), S) else none
  | a, b, S => match a.at S, b.at S with
    | some (.lst xs), some (.lst ys) => if xs.length + ys.length ≤ sizeLine then some (.lst (xs ++ ys), S) else none
    | _, _ => none
def subF : D → D → Store → Option (D × Store)
  | .int i, .int j, S => some (.int (i - j), S)
  | _, _, _ => none
def mulF : D → D → Store → Option (D × Store)
  | .int i, .int j, S => if CMulW i j then some (.int (i * j), S) else none
  | _, _, _ => none
def fdivF : D → D → Store → Option (D × Store)
  | .int i, .int j, S => if CDivW i j then some (.int (i / j), S) else none
  | _, _, _ => none
def modF : D → D → Store → Option (D × Store)
  | .int i, .int j, S => if 0 < j then some (.int (i % j), S) else none
  | _, _, _ => none
def powF : D → D → Store → Option (D × Store)
  | .int i, .int j, S => if 0 ≤ j ∧ ((i.natAbs.log2 + 1 : Nat) : Int) * j ≤ 2 ^ 27 then some (.int (i ^ j.toNat), S) else none
  | _, _, _ => none
def binF : Operator → D → D → Store → Option (D × Store)
  | .Add => addF | .Sub => subF | .Mult => mulF | .FloorDiv => fdivF | .Mod => modF | .Pow => powF | _ => fun _ _ _ => none
def negF : D → Store → Option (D × Store)
  | .int i, S => some (.int (-i), S)
  | _, _ => none
/-- truth -/
def truC : Option Cell → Option Bool
  | some (.lst xs) => some (!xs.isEmpty)
  | some (.dk ks _) => some (!ks.isEmpty)
  | _ => none
def truF : D → Store → Option (Bool × Store)
  | .non, S => some (false, S)
  | .bl b, S => some (b, S)
  | .int i, S => some (i != 0, S)
  | .str x, S => if x.length ≤ sizeLine then some ((x.length : Int) != 0, S) else none
  | .tup xs, S => some (!xs.isEmpty, S)
  | .lst xs, S => some (!xs.isEmpty, S)
  | .obj n, S => (truC S[n]?).map fun b => (b, S)
  | _, _ => none
def keyPy : Key → PyData
  | .inl i => .int i
  | .inr x => .str x
mutual
/-- as data; rd: what is read of cells -/
def pyW (rd : Nat → Option PyData) : D → Option PyData
  | .non => some .none
  | .bl b => some (.bool b)
  | .int i => some (.int i)
  | .str x => some (.str x)
  | .tup xs => (pysW rd xs).map .tuple
  | .lst xs => (pysW rd xs).map .list
  | .dk ks xs => (pysW rd xs).map fun ps => .dict ((ks.map keyPy).zip ps)
  | .dt _ _ => none
  | .ins _ _ _ => none
  | .exc _ _ => none
  | .obj a => rd a
  | .ty _ => none
  | .nam _ => none
def pysW (rd : Nat → Option PyData) : List D → Option (List PyData)
  | [] => some []
  | x :: xs => match pyW rd x, pysW rd xs with
    | some p, some ps => some (p :: ps)
    | _, _ => none
end
def rdP (S : Store) : Nat → Nat → Option PyData
  | 0, _ => none
  | n + 1, a => match S[a]? with
    | some (.lst xs) => (pysW (rdP S n) xs).map .list
    | some (.dk ks xs) => (pysW (rdP S n) xs).map fun ps => .dict ((ks.map keyPy).zip ps)
    | _ => none
def toPy (S : Store) (d : D) : Option PyData := pyW (rdP S 8) d
/-- == of data -/
def eqP (a b : D) (S : Store) : Option Bool := match toPy S a, toPy S b with
  | some p, some q => if SeqAt.shaped p = true ∧ SeqAt.shaped q = true then some (PyData.eqv p q) else none
  | _, _ => none
def eqB (a b : D) (S : Store) : Option Bool := match a, b with
  | .str x, .str y => some (x == y)
  | .int i, .int j => some (i == j)
  | a, b => eqP a b S
def isNon : D → Bool
  | .non => true
  | _ => false
def cmpF : CmpOp → D → D → Store → Option (D × Store)
  | .Eq, a, b, S => (eqB a b S).map fun c => (.bl c, S)
  | .NotEq, a, b, S => (eqB a b S).map fun c => (.bl (!c), S)
  | .Lt, .int i, .int j, S => some (.bl (decide (i < j)), S)
  | .LtE, .int i, .int j, S => some (.bl (decide (i ≤ j)), S)
  | .Gt, .int i, .int j, S => some (.bl (decide (j < i)), S)
  | .GtE, .int i, .int j, S => some (.bl (decide (j ≤ i)), S)
  | .Is, a, .non, S => some (.bl (isNon a), S)
  | .IsNot, a, .non, S => some (.bl (!isNon a), S)
  | _, _, _, _ => none
/-- a[b] -/
def idxF : D → D → Store → Option (D × Store)
  | .tup xs, .int i, S => (atI xs i).map fun d => (d, S)
  | a, .int i, S => match a.at S with
    | some (.lst xs) => (atI xs i).map fun d => (d, S)
    | _ => none
  | _, _, _ => none
/-- a[b] = v -/
def putF : D → D → D → Store → Option Store
  | .obj a, .int i, v, S => match S[a]? with
    | some (.lst xs) => (ixN xs.length i).map fun j => S.set a (.lst (xs.set j v))
    | _ => none
  | _, _, _, _ => none
def itemsOf : D → Store → Option (List D)
  | .tup xs, _ => some xs
  | d, S => match d.at S with
    | some (.lst xs) => some xs
    | _ => none
/-! ### the built-ins -/
def biLen : List D → Store → Option (D × Store)
  | [.str x], S => if x.length ≤ sizeLine then some (.int x.length, S) else none
  | [d], S => (itemsOf d S).map fun xs => (.int xs.length, S)
  | _, _ => none
def biAbs : List D → Store → Option (D × Store)
  | [.int i], S => some (.int (if i < 0 then -i else i), S)
  | _, _ => none
def biInt : List D → Store → Option (D × Store)
  | [.int i], S => some (.int i, S)
  | [.bl b], S => some (.int (if b then 1 else 0), S)
  | _, _ => none
def biMax : List D → Store → Option (D × Store)
  | [.int i, .int j], S => some (.int (if j > i then j else i), S)
  | _, _ => none
def biMin : List D → Store → Option (D × Store)
  | [.int i, .int j], S => some (.int (if j < i then j else i), S)
  | _, _ => none
def biRepr : List D → Store → Option (D × Store)
  | [d], S => match toPy S d with
    | some p => if p.showable = true ∧ p.shown.length ≤ sizeLine ∧ p.depth ≤ 60 then some (.str p.shown, S) else none
    | none => none
  | _, _ => none
/-- truths of a list that holds nothing else -/
def bools : List D → Option (List Bool)
  | [] => some []
  | .bl b :: r => (bools r).map fun bs => b :: bs
  | _ => none
def lstOf (d : D) (S : Store) : Option (List D) := match d.at S with
  | some (.lst xs) => some xs
  | _ => none
def biAll : List D → Store → Option (D × Store)
  | [d], S => (lstOf d S).bind fun xs => (bools xs).map fun bs => (.bl (bs.all id), S)
  | _, _ => none
def biAny : List D → Store → Option (D × Store)
  | [d], S => (lstOf d S).bind fun xs => (bools xs).map fun bs => (.bl (bs.any id), S)
  | _, _ => none
/-- list(l), list(t) -/
def biList (fl : Bool) : List D → Store → Option (D × Store)
  | [d], S => (itemsOf d S).bind fun xs => if xs.length ≤ sizeLine then some (mkL fl xs S) else none
  | _, _ => none
def biF (fl : Bool) (f : Str) : List D → Store → Option (D × Store) :=
  if f = "len" then biLen else if f = "abs" then biAbs else if f = "int" then biInt else if f = "max" then biMax else if f = "min" then biMin
  else if f = "repr" then biRepr else if f = "all" then biAll else if f = "any" then biAny else if f = "list" then biList fl else fun _ _ => none
/-- e.value of an exception -/
def fldF (G : Gl0) (f : Str) : D → Store → Option (D × Store)
  | .exc c d, S => if f = "value" ∧ c ∈ G.xcs then some (d, S) else none
  | _, _ => none
/-- isinstance(x, c) -/
def isiF (G : Gl0) (c : Str) : D → Store → Option (D × Store)
  | .exc c' _, S => if c' ∈ G.xcs then some (.bl (G.isi c' c), S) else none
  | _, _ => none
/-! ### methods of built-in types -/
def meAppend : D → List D → Store → Option (D × Store)
  | .obj a, [x], S => match S[a]? with
    | some (.lst xs) => if xs.length < sizeLine then some (.non, S.set a (.lst (xs ++ [x]))) else none
    | _ => none
  | _, _, _ => none
def meExtend : D → List D → Store → Option (D × Store)
  | .obj a, [b], S => match S[a]?, lstOf b S with
    | some (.lst xs), some ys => if xs.length + ys.length ≤ sizeLine then some (.non, S.set a (.lst (xs ++ ys))) else none
    | _, _ => none
  | _, _, _ => none
def meF (m : Str) : D → List D → Store → Option (D × Store) :=
  if m = "append" then meAppend else if m = "extend" then meExtend else fun _ _ _ => none
end
end
/-! ### what the tree comes to -/
def asgT : IT → D → Env → Option Env
  | .name i, d, ρ => some (ρ.set i (some d))
  | .tup ts, d, ρ => match d with
    | .tup ds => asgTs ts ds ρ
    | _ => none
where asgTs : ITs → List D → Env → Option Env
  | .nil, ds, ρ => match ds with
    | [] => some ρ
    | _ => none
  | .cons t ts, ds, ρ => match ds with
    | d :: ds => (asgT t d ρ).bind fun ρ' => asgTs ts ds ρ'
    | [] => none
end Tu
end L2
set_option Elab.async false
set_option linter.all false
set_option maxRecDepth 100000
set_option maxHeartbeats 2000000
/-! TB4: what the tree comes to. -/
namespace L2
namespace Tu
open PySem PySem.Spec PyProof.Rows
open Classical

def Res.noX {α : Type} : Res α → Res α
  | .exc _ _ _ => .bad
  | r => r
/-- what a loop walks: its items, and that they are still these -/
structure Src where
  items : List D
  same : Store → Prop
noncomputable section
/-- the type of which a method of this name is, here -/
def isT (m : Str) (x : D) (S : Store) : Bool := if m = "append" ∨ m = "extend" then (lstOf x S).isSome else false
def lcRun (same : Store → Prop) (body : D → Store → Res (Option D)) : List D → List D → Store → Res (List D)
  | [], acc, S => if same S then .ok acc S else .bad
  | d :: r, acc, S => if same S then (body d S).bind fun o S1 => match o with
      | some y => if acc.length < sizeLine then lcRun same body r (acc ++ [y]) S1 else .bad
      | none => lcRun same body r acc S1
    else .bad
def forRun (same : Store → Prop) (body : D → Env → Store → RS) : List D → Env → Store → RS
  | [], ρ, S => if same S then .nx ρ S else .bad
  | d :: r, ρ, S => if same S then (match body d ρ S with
      | .nx ρ' S' => forRun same body r ρ' S'
      | .ct ρ' S' => forRun same body r ρ' S'
      | .bk ρ' S' => .nx ρ' S'
      | e => e)
    else .bad
def wipeE (ρ : Env) : List Nat → Env
  | [] => ρ
  | i :: r => (wipeE ρ r).set i none
/-- a turn of a comprehension: the item is bound, the tests, the element -/
def lcBody (is : List Nat) (mg_ : D → Env → Option Env) (mt : Env → Store → Res Bool) (me : Env → Store → Res D) (ρ : Env) : D → Store → Res (Option D) := fun d S2 => match mg_ d (wipeE ρ is) with
  | some ρ' => Res.noX ((mt ρ' S2).bind fun b S3 => if b = true then (me ρ' S3).bind fun y S4 => .ok (some y) S4 else .ok none S3)
  | none => .bad
/-- a turn of a for: the item is bound, the body -/
def forBody (mg_ : D → Env → Option Env) (mb : Env → Store → RS) : D → Env → Store → RS := fun d ρ S => match mg_ d ρ with
  | some ρ' => mb ρ' S
  | none => .bad
def enumFrom (n : Nat) : List D → List D
  | [] => []
  | d :: r => .tup [.int n, d] :: enumFrom (n + 1) r

/-- what is walked stays: a frozen one always does -/
def stays (d : D) (xs : List D) (S : Store) : Prop := match d with
  | .obj a => S[a]? = some (.lst xs)
  | _ => True
def srcV : D → Store → Res Src := fun d S1 => match itemsOf d S1 with
    | some xs => .ok ⟨xs, stays d xs⟩ S1
    | none => .bad
def srcR : D → Store → Res Src := fun d S1 => match d with
    | .int n => if n ≤ 1000000 ∧ -1000000 ≤ n then .ok ⟨(List.range n.toNat).map fun (i : Nat) => D.int (i : Int), fun _ => True⟩ S1 else .bad
    | _ => .bad
def srcE : D → Store → Res Src := fun d S1 => match lstOf d S1 with
    | some xs => .ok ⟨enumFrom 0 xs, stays d xs⟩ S1
    | none => .bad
/-- a new list's end -/
def resL (fl : Bool) (xs : List D) (S : Store) : Res D := .ok (mkL fl xs S).1 (mkL fl xs S).2
def resK (fl : Bool) (ks : List Key) (xs : List D) (S : Store) : Res D := .ok (mkK fl ks xs S).1 (mkK fl ks xs S).2
section
variable (G : Gl0)
mutual
def ev : IE → Env → Store → Res D
  | .var i, ρ, S => match ρ[i]? with
    | some (some d) => .ok d S
    | _ => .bad
  | .con d, _, S => .ok d S
  | .glo x, _, S => match G.con x with
    | some d => .ok d S
    | none => .bad
  | .lst fl es, ρ, S => (evs es ρ S).bind fun ds S1 => if ds.length ≤ sizeLine then resL fl ds S1 else .bad
  | .tup es, ρ, S => (evs es ρ S).bind fun ds S1 => if ds.length ≤ sizeLine then .ok (.tup ds) S1 else .bad
  | .bin op a b, ρ, S => (ev a ρ S).bind fun x S1 => (ev b ρ S1).bind fun y S2 => Res.of (binF op x y S2)
  | .neg a, ρ, S => (ev a ρ S).bind fun x S1 => Res.of (negF x S1)
  | .not a, ρ, S => (ev a ρ S).bind fun x S1 => (Res.of (truF x S1)).bind fun b S2 => .ok (.bl (!b)) S2
  | .bop an es, ρ, S => evB an es ρ S
  | .cmp op a b, ρ, S => (ev a ρ S).bind fun x S1 => (ev b ρ S1).bind fun y S2 => Res.of (cmpF op x y S2)
  | .cmp2 op op' a b c, ρ, S => (ev a ρ S).bind fun x S1 => (ev b ρ S1).bind fun y S2 => (Res.of (cmpF op x y S2)).bind fun z S3 => match z with
    | .bl true => (ev c ρ S3).bind fun v S4 => Res.of (cmpF op' y v S4)
    | .bl false => .ok (.bl false) S3
    | _ => .bad
  | .ite c a b, ρ, S => (evT c ρ S).bind fun t S1 => if t = true then ev a ρ S1 else ev b ρ S1
  | .idx a b, ρ, S => (ev a ρ S).bind fun x S1 => (ev b ρ S1).bind fun y S2 => Res.of (idxF x y S2)
  | .slc _ _ _, _, _ => .bad
  | .fld a f, ρ, S => (ev a ρ S).bind fun x S1 => Res.of (fldF G f x S1)
  | .fn f es, ρ, S => (evs es ρ S).bind fun ds S1 => G.fn f ds S1
  | .mk c es, ρ, S => (evs es ρ S).bind fun ds S1 => G.ma c ds S1
  | .bi fl f es, ρ, S => (evs es ρ S).bind fun ds S1 => Res.of (biF fl f ds S1)
  | .isi a c, ρ, S => (ev a ρ S).bind fun x S1 => Res.of (isiF G c x S1)
  | .me _ _ _, _, _ => .bad
  | .mb a m es, ρ, S => (ev a ρ S).bind fun x S1 => if isT m x S1 = true then (evs es ρ S1).bind fun ds S2 => Res.of (meF m x ds S2) else .bad
  | .lrg fl e, ρ, S => (ev e ρ S).bind fun d S1 => match d with
    | .int n => if 0 ≤ n ∧ n ≤ 16777216 then resL fl ((List.range n.toNat).map fun (i : Nat) => D.int (i : Int)) S1 else .bad
    | _ => .bad
  | .lc fl own elt tg it ifs, ρ, S => (evI it ρ S).bind fun s S1 =>
      (lcRun s.same (lcBody (own.map (·.2)) (asgT tg) (fun ρ' S' => evA ifs ρ' S') (fun ρ' S' => ev elt ρ' S') ρ) s.items [] S1).bind fun ds S5 => resL fl ds S5
  | .nev, _, _ => .bad
  | .dic fl ks es, ρ, S => (evs es ρ S).bind fun ds S1 => if ds.length = ks.length ∧ ds.length ≤ 15 ∧ ks.Nodup then resK fl (ks.map Sum.inr) ds S1 else .bad
def evs : IEs → Env → Store → Res (List D)
  | .nil, _, S => .ok [] S
  | .cons e es, ρ, S => (ev e ρ S).bind fun d S1 => (evs es ρ S1).bind fun ds S2 => .ok (d :: ds) S2
  | .star e es, ρ, S => (ev e ρ S).bind fun d S1 => match itemsOf d S1 with
    | some xs => (evs es ρ S1).bind fun ds S2 => .ok (xs ++ ds) S2
    | none => .bad
/-- a test -/
def evT : IC → Env → Store → Res Bool
  | .val e, ρ, S => (ev e ρ S).bind fun x S1 => Res.of (truF x S1)
  | .not a, ρ, S => (evT a ρ S).bind fun b S1 => .ok (!b) S1
  | .bop an cs, ρ, S => evBT an cs ρ S
  | .cmp op a b, ρ, S => (ev a ρ S).bind fun x S1 => (ev b ρ S1).bind fun y S2 => (Res.of (cmpF op x y S2)).bind fun z S3 => match z with
    | .bl c => .ok c S3
    | _ => .bad
  | .cmp2 op op' a b c, ρ, S => (ev a ρ S).bind fun x S1 => (ev b ρ S1).bind fun y S2 => (Res.of (cmpF op x y S2)).bind fun z S3 => match z with
    | .bl true => (ev c ρ S3).bind fun v S4 => (Res.of (cmpF op' y v S4)).bind fun t S5 => match t with
      | .bl c => .ok c S5
      | _ => .bad
    | .bl false => .ok false S3
    | _ => .bad
/-- and, or, of bools -/
def evB (an : Bool) : IEs → Env → Store → Res D
  | .nil, _, _ => .bad
  | .star _ _, _, _ => .bad
  | .cons e .nil, ρ, S => ev e ρ S
  | .cons e (.cons e2 es), ρ, S => (ev e ρ S).bind fun x S1 => match x with
      | .bl c => if c = an then evB an (.cons e2 es) ρ S1 else .ok (.bl c) S1
      | _ => .bad
  | .cons _ (.star _ _), _, _ => .bad
/-- .. as tests -/
def evBT (an : Bool) : ICs → Env → Store → Res Bool
  | .nil, _, _ => .bad
  | .cons e .nil, ρ, S => evT e ρ S
  | .cons e (.cons e2 es), ρ, S => (evT e ρ S).bind fun c S1 => if c = an then evBT an (.cons e2 es) ρ S1 else .ok c S1
/-- the tests of a comprehension -/
def evA : ICs → Env → Store → Res Bool
  | .nil, _, S => .ok true S
  | .cons e .nil, ρ, S => evT e ρ S
  | .cons _ (.cons _ _), _, _ => .bad
def evI : II → Env → Store → Res Src
  | .val e, ρ, S => (ev e ρ S).bind srcV
  | .rng e, ρ, S => (ev e ρ S).bind srcR
  | .enu e, ρ, S => (ev e ρ S).bind srcE
  | .zip _ _, _, _ => .bad
end
mutual
def exS : IS → Env → Store → RS
  | .set i e, ρ, S => (ev G e ρ S).st ρ fun d S1 => .nx (ρ.set i (some d)) S1
  | .unp ts e, ρ, S => (ev G e ρ S).st ρ fun d S1 => match asgT (.tup ts) d ρ with
    | some ρ' => .nx ρ' S1
    | none => .bad
  | .par i j a b, ρ, S => (ev G a ρ S).st ρ fun x S1 => (ev G b ρ S1).st ρ fun y S2 => .nx ((ρ.set i (some x)).set j (some y)) S2
  | .put o k v, ρ, S => (ev G v ρ S).st ρ fun x S1 => (ev G o ρ S1).st ρ fun y S2 => (ev G k ρ S2).st ρ fun z S3 => match putF y z x S3 with
    | some S4 => .nx ρ S4
    | none => .bad
  | .stf _ _ _, _, _ => .bad
  | .expr e, ρ, S => (ev G e ρ S).st ρ fun _ S1 => .nx ρ S1
  | .ret e, ρ, S => (ev G e ρ S).st ρ fun d S1 => .rt d S1
  | .retN, _, S => .rt .non S
  | .ife c a b, ρ, S => (evT G c ρ S).st ρ fun t S1 => if t = true then exSs a ρ S1 else exSs b ρ S1
  | .for_ t it b, ρ, S => (evI G it ρ S).st ρ fun s S1 => forRun s.same (forBody (asgT t) fun ρ2 S2 => exSs b ρ2 S2) s.items ρ S1
  | .rai _ _, _, _ => .bad
  | .pas, ρ, S => .nx ρ S
  | .never, _, _ => .bad
def exSs : ISs → Env → Store → RS
  | .nil, ρ, S => .nx ρ S
  | .cons s ss, ρ, S => (exS s ρ S).seq fun ρ' S' => exSs ss ρ' S'
end
/-- a def's end -/
def RS.res : RS → Res D
  | .nx _ S => .ok .non S
  | .rt d S => .ok d S
  | .ex c d _ S => .exc c d S
  | _ => .bad
end
end
end Tu
end L2
set_option Elab.async false
set_option linter.all false
set_option maxRecDepth 100000
set_option maxHeartbeats 2000000
/-! TB5: each operation by values does what the plain function says. -/
namespace L2
namespace Tu
open PySem PySem.Spec PyProof.Rows
open Classical
section
variable {K : PySem.W.Frag} {mg : Str → Option Value} {T : Tbl} {w : Wd} {v : V}
theorem rv_non : RV K mg w .non v ↔ v = .non := by unfold RV; exact Iff.rfl
theorem rv_bl {b : Bool} : RV K mg w (.bl b) v ↔ v = .bl b := by unfold RV; exact Iff.rfl
theorem rv_int {i : Int} : RV K mg w (.int i) v ↔ v = .int i := by unfold RV; exact Iff.rfl
theorem rv_str {x : Str} : RV K mg w (.str x) v ↔ v = .str x := by unfold RV; exact Iff.rfl
theorem rv_tup {ds : List D} : RV K mg w (.tup ds) v ↔ ∃ a vs, v = .ref a ∧ SqT K w.H a vs ∧ RVs K mg w ds vs := by unfold RV; exact Iff.rfl
theorem rv_obj {i : Nat} : RV K mg w (.obj i) v ↔ i < w.S.length ∧ v = .ref (w.m i) := by unfold RV; exact Iff.rfl
theorem rv_nam {x : Str} : RV K mg w (.nam x) v ↔ ∃ a, mg x = some (.ref a) ∧ v = .ref a := by unfold RV; exact Iff.rfl
theorem rv_lst {ds : List D} : RV K mg w (.lst ds) v ↔ ∃ a vs, v = .ref a ∧ StL K w a vs ∧ RVs K mg w ds vs := by unfold RV; exact Iff.rfl
theorem rv_dk {ks : List Key} {ds : List D} : RV K mg w (.dk ks ds) v ↔ ∃ a kvs, v = .ref a ∧ StK w a kvs ∧ kvs.map (·.1) = ks ∧ RVs K mg w ds (kvs.map (·.2)) := by unfold RV; exact Iff.rfl
theorem rv_dt {ks : List (List Key)} {ds : List D} : RV K mg w (.dt ks ds) v ↔ ∃ a kvs, v = .ref a ∧ StT w a kvs ∧ kvs.map (·.1) = ks ∧ RVs K mg w ds (kvs.map (·.2)) := by unfold RV; exact Iff.rfl
theorem rv_ins {c : Str} {fs : List Str} {ds : List D} : RV K mg w (.ins c fs ds) v ↔ ∃ a C dx vs, v = .ref a ∧ mg c = some (.ref C) ∧ w.H a = some (.ins C dx vs) ∧ Off w a ∧ vs.map (·.1) = fs ∧ RVs K mg w ds (vs.map (·.2)) := by unfold RV; exact Iff.rfl
theorem rv_exc {c : Str} {d : D} : RV K mg w (.exc c d) v ↔ ∃ a C dd u, v = .ref a ∧ mg c = some (.ref C) ∧ w.H a = some (ExX C dd a) ∧ Off w a ∧ w.H dd = some (.xd [(("value" : Str), u)]) ∧ RV K mg w d u := by rw [RV]
theorem rv_ty {x : String} : RV K mg w (.ty x) v ↔ v = .ty x := by unfold RV; exact Iff.rfl
theorem Ok.lst (k : Ok K mg T w) {i : Nat} {xs : List D} (h : w.S[i]? = some (.lst xs)) : ∃ vs, w.H (w.m i) = some (.lst vs) ∧ RVs K mg w xs vs := k.cell i _ h
theorem Ok.new_lst (k : Ok K mg T w) {p : Addr} {xs : List D} {vs : List V} (hp : w.H p = none) (r : RVs K mg w xs vs) :
    Ok K mg T (w.new p (.lst vs) (.lst xs)) := k.new hp ⟨vs, upd_same, Ex.rvs (Ex.new hp) _ _ r⟩
theorem rv_new {p : Addr} {o : HO} {c : Cell} : RV K mg (w.new p o c) (.obj w.S.length) (.ref p) := rv_obj.mpr ⟨by rw [Wd.new_len]; omega, by rw [Wd.new_at]⟩
theorem rv_newtup {p : Addr} {ds : List D} {vs : List V} (hp : w.H p = none) (r : RVs K mg w ds vs) : RV K mg (w.lay p (.tup vs)) (.tup ds) (.ref p) :=
  rv_tup.mpr ⟨p, vs, rfl, SqT.of upd_same, Ex.rvs (Ex.lay hp) _ _ r⟩
theorem rv_newlst (k : Ok K mg T w) {p : Addr} {ds : List D} {vs : List V} (hp : w.H p = none) (r : RVs K mg w ds vs) : RV K mg (w.lay p (.lst vs)) (.lst ds) (.ref p) :=
  rv_lst.mpr ⟨p, vs, rfl, .inl ⟨upd_same, k.layOff hp⟩, Ex.rvs (Ex.lay hp) _ _ r⟩
/-- a list at a place -/
theorem at_lst (k : Ok K mg T w) {d : D} {xs : List D} (r : RV K mg w d v) (h : d.at w.S = some (.lst xs)) : ∃ a vs, v = .ref a ∧ SqL K w.H a vs ∧ RVs K mg w xs vs := by
  cases d <;> simp only [D.at, Option.some.injEq, Cell.lst.injEq, reduceCtorEq] at h
  · subst h
    obtain ⟨a, vs, h1, h2, h3⟩ := rv_lst.mp r
    exact ⟨a, vs, h1, h2.l, h3⟩
  · obtain ⟨vs, h1, h2⟩ := k.lst h
    exact ⟨_, vs, (rv_obj.mp r).2, SqL.of h1, h2⟩
theorem lstOf_at {d : D} {S : Store} {xs : List D} (h : lstOf d S = some xs) : d.at S = some (.lst xs) := by
  unfold lstOf at h
  split at h
  · rename_i e
    cases h
    exact e
  · cases h
theorem items_at (k : Ok K mg T w) {d : D} {xs : List D} (r : RV K mg w d v) (h : itemsOf d w.S = some xs) : ∃ a vs, v = .ref a ∧ (SqT K w.H a vs ∨ SqL K w.H a vs) ∧ RVs K mg w xs vs := by
  unfold itemsOf at h
  split at h
  · cases h
    obtain ⟨a, vs, h1, h2, h3⟩ := rv_tup.mp r
    exact ⟨a, vs, h1, .inl h2, h3⟩
  · split at h
    · rename_i e
      cases h
      obtain ⟨a, vs, h1, h2, h3⟩ := at_lst k r e
      exact ⟨a, vs, h1, .inr h2, h3⟩
    · cases h
/-- a new tuple's wish -/
theorem outO.newtup {ds : List D} {vs : List V} {Q : V → Hp → Prop} (h : outO K mg T (RV K mg) (some (D.tup ds, w.S)) w Q) (k : Ok K mg T w) (r : RVs K mg w ds vs) : ∀ p, w.H p = none → Q (.ref p) (upd w.H p (.tup vs)) :=
  fun p hp => h (w.lay p (.tup vs)) (.ref p) rfl (Ex.lay hp) (k.lay hp) (rv_newtup hp r)
/-- a new list's wish -/
theorem outO.newlst {fl : Bool} {ds : List D} {vs : List V} {Q : V → Hp → Prop} (h : outO K mg T (RV K mg) (some (mkL fl ds w.S)) w Q) (k : Ok K mg T w) (r : RVs K mg w ds vs) : ∀ p, w.H p = none → Q (.ref p) (upd w.H p (.lst vs)) := fun p hp => by
  cases fl with
  | true => exact h (w.new p (.lst vs) (.lst ds)) (.ref p) rfl (Ex.new hp) (k.new_lst hp r) rv_new
  | false => exact h (w.lay p (.lst vs)) (.ref p) rfl (Ex.lay hp) (k.lay hp) (rv_newlst k hp r)
theorem out.newlst {W : WX} {σ : St} {fl : Bool} {ds : List D} {vs : List V} {Q : V → Hp → Prop} (h : out K mg T (RV K mg) W σ (resL fl ds w.S) w Q) (k : Ok K mg T w) (r : RVs K mg w ds vs) : ∀ p, w.H p = none → Q (.ref p) (upd w.H p (.lst vs)) :=
  outO.newlst (fl := fl) (by cases fl <;> exact h) k r
theorem outO.frzlst {ds : List D} {vs : List V} {Q : V → Hp → Prop} (h : outO K mg T (RV K mg) (some (D.lst ds, w.S)) w Q) (k : Ok K mg T w) (r : RVs K mg w ds vs) : ∀ p, w.H p = none → Q (.ref p) (upd w.H p (.lst vs)) :=
  outO.newlst (fl := false) h k r
theorem RVs.at {xs : List D} {vs : List V} {i : Int} {d : D} (r : RVs K mg w xs vs) (h : atI xs i = some d) : ∃ u, atI vs i = some u ∧ RV K mg w d u := by
  unfold atI at h ⊢
  rw [r.len]
  cases e : ixN xs.length i with
  | none => rw [e] at h; cases h
  | some j =>
    rw [e] at h
    obtain ⟨u, h1, h2⟩ := r.get (i := j) h
    exact ⟨u, h1, h2⟩
end
section
variable {T : Tbl} {X : Cx}
theorem intBits_le {i : Int} : Builtin.Int.intBits i ≤ i.natAbs.log2 + 1 := by
  unfold Builtin.Int.intBits
  split <;> omega
theorem op_catL : OpR X (binaryOp .Add) (fun x y H Q => ∃ l b xs zs, x = .ref l ∧ y = .ref b ∧ SqL X.K H l xs ∧ SqL X.K H b zs ∧ xs.length + zs.length ≤ sizeLine ∧ ∀ p, H p = none → Q (.ref p) (upd H p (.lst (xs ++ zs)))) := by
  intro pins s σ H x y v u Q I rx ry h
  obtain ⟨l, b, xs, zs, rfl, rfl, hH, hB, hz, q⟩ := h
  cases rx
  cases ry
  obtain ⟨its, r, ⟨⟨cls, dd, data, sl⟩, n, ho, hc, hdd, hd⟩, z⟩ := I.list hH
  obtain ⟨its2, r2, ⟨⟨cls2, dd2, data2, sl2⟩, n2, ho2, hc2, hdd2, hd2⟩, z2⟩ := I.list hB
  simp only at hc hd hc2 hd2
  subst hc hd hc2 hd2
  have l1 := r.length
  have l2 := r2.length
  have e : its.toArray ++ its2.toArray = (its ++ its2).toArray := by simp
  refine concat_meets ⟨_, ho, rfl⟩ ⟨_, ho2, rfl⟩ noFill_list_add seq_list_add PySem.F.slot_list_add PySem.F.entry_list_add (PySem.F.args_list_add_2 _ _) (list_addW l b its.toArray its2.toArray n n2 dd dd2 sl sl2 (by simp only [List.size_toArray]; omega)) ⟨ho, ho2, ?_⟩
  rw [e]
  exact ⟨.ref _, _, I.lnew (t' := s.toks) (r.append r2) (by rw [List.length_append]; omega), rfl, q _ I.fresh⟩
theorem opR_add : OpR X (binaryOp .Add) (rO2 X.K X.mg T addF) := by
  rintro pins s σ H x y v u Q I rx ry ⟨w, a, b, rfl, k, ra, rb, q⟩
  unfold addF at q
  split at q
  · exact op_add pins s σ w.H x y v u Q I rx ry ⟨_, _, rv_int.mp ra, rv_int.mp rb, q.give k (rv_int.mpr rfl) rfl⟩
  · split at q
    · exact op_add_str pins s σ w.H x y v u Q I rx ry ⟨_, _, rv_str.mp ra, rv_str.mp rb, by assumption, q.give k (rv_str.mpr rfl) rfl⟩
    · exact False.elim q
  · split at q
    · obtain ⟨p, xs, e1, h1, r1⟩ := rv_tup.mp ra
      obtain ⟨p', ys, e2, h2, r2⟩ := rv_tup.mp rb
      refine op_catA pins s σ w.H x y v u Q I rx ry ⟨p, p', xs, ys, e1, e2, h1, h2, by rw [r1.len, r2.len]; assumption, fun e => ?_, fun _ e => ?_, fun _ _ => q.newtup k (r1.app r2)⟩
      · refine q.give k (rv_tup.mpr ⟨p', ys, rfl, h2, ?_⟩) rfl
        have z := r1.app r2
        rw [e] at z
        exact z
      · refine q.give k (rv_tup.mpr ⟨p, xs, rfl, h1, ?_⟩) rfl
        have z := r1.app r2
        rw [e, List.append_nil] at z
        exact z
    · exact False.elim q
  · split at q
    · rename_i xs ys hx hy
      split at q
      · obtain ⟨p, vs, e1, h1, r1⟩ := at_lst k ra hx
        obtain ⟨p', us, e2, h2, r2⟩ := at_lst k rb hy
        exact op_catL pins s σ w.H x y v u Q I rx ry ⟨p, p', vs, us, e1, e2, h1, h2, by rw [r1.len, r2.len]; assumption, q.frzlst k (r1.app r2)⟩
      · exact False.elim q
    · exact False.elim q
theorem opR_sub : OpR X (binaryOp .Sub) (rO2 X.K X.mg T subF) := by
  rintro pins s σ H x y v u Q I rx ry ⟨w, a, b, rfl, k, ra, rb, q⟩
  cases a <;> cases b <;> try exact False.elim q
  rename_i i j
  exact op_sub pins s σ w.H x y v u Q I rx ry ⟨i, j, rv_int.mp ra, rv_int.mp rb, q.give k (rv_int.mpr rfl) rfl⟩
theorem opR_mul : OpR X (binaryOp .Mult) (rO2 X.K X.mg T mulF) := by
  rintro pins s σ H x y v u Q I rx ry ⟨w, a, b, rfl, k, ra, rb, q⟩
  cases a <;> cases b <;> try exact False.elim q
  rename_i i j
  dsimp only [mulF] at q
  split at q
  · exact op_mulW pins s σ w.H x y v u Q I rx ry ⟨i, j, rv_int.mp ra, rv_int.mp rb, by assumption, q.give k (rv_int.mpr rfl) rfl⟩
  · exact False.elim q
theorem opR_fdiv : OpR X (binaryOp .FloorDiv) (rO2 X.K X.mg T fdivF) := by
  rintro pins s σ H x y v u Q I rx ry ⟨w, a, b, rfl, k, ra, rb, q⟩
  cases a <;> cases b <;> try exact False.elim q
  rename_i i j
  dsimp only [fdivF] at q
  split at q
  · exact op_fdivW pins s σ w.H x y v u Q I rx ry ⟨i, j, rv_int.mp ra, rv_int.mp rb, by assumption, q.give k (rv_int.mpr rfl) rfl⟩
  · exact False.elim q
theorem opR_mod : OpR X (binaryOp .Mod) (rO2 X.K X.mg T modF) := by
  rintro pins s σ H x y v u Q I rx ry ⟨w, a, b, rfl, k, ra, rb, q⟩
  cases a <;> cases b <;> try exact False.elim q
  rename_i i j
  dsimp only [modF] at q
  split at q
  · exact op_mod pins s σ w.H x y v u Q I rx ry ⟨i, j, rv_int.mp ra, rv_int.mp rb, by assumption, q.give k (rv_int.mpr rfl) rfl⟩
  · exact False.elim q
theorem opR_pow : OpR X (binaryOp .Pow) (rO2 X.K X.mg T powF) := by
  rintro pins s σ H x y v u Q I rx ry ⟨w, a, b, rfl, k, ra, rb, q⟩
  cases a <;> cases b <;> try exact False.elim q
  rename_i i j
  dsimp only [powF] at q
  split at q
  · rename_i hc
    have e1 := rv_int.mp ra
    have e2 := rv_int.mp rb
    subst e1
    subst e2
    obtain ⟨t, rfl⟩ := rx
    obtain ⟨t', rfl⟩ := ry
    have hb : (Builtin.Int.intBits i : Int) * j ≤ 2 ^ 27 := by
      refine Int.le_trans (Int.mul_le_mul_of_nonneg_right ?_ hc.1) hc.2
      exact Int.ofNat_le.mpr intBits_le
    exact pow_int hc.1 hb ⟨.int _, w.H, I.tok _, ⟨_, rfl⟩, q.give k (rv_int.mpr rfl) rfl⟩
  · exact False.elim q
theorem opR_bin (op : Operator) : OpR X (binaryOp op) (rO2 X.K X.mg T (binF op)) := by
  cases op
  · exact opR_add
  · exact opR_sub
  · exact opR_mul
  · rintro pins s σ H x y v u Q I rx ry ⟨w, a, b, rfl, k, ra, rb, q⟩; exact False.elim q
  · rintro pins s σ H x y v u Q I rx ry ⟨w, a, b, rfl, k, ra, rb, q⟩; exact False.elim q
  · exact opR_mod
  · exact opR_pow
  · rintro pins s σ H x y v u Q I rx ry ⟨w, a, b, rfl, k, ra, rb, q⟩; exact False.elim q
  · rintro pins s σ H x y v u Q I rx ry ⟨w, a, b, rfl, k, ra, rb, q⟩; exact False.elim q
  · rintro pins s σ H x y v u Q I rx ry ⟨w, a, b, rfl, k, ra, rb, q⟩; exact False.elim q
  · rintro pins s σ H x y v u Q I rx ry ⟨w, a, b, rfl, k, ra, rb, q⟩; exact False.elim q
  · rintro pins s σ H x y v u Q I rx ry ⟨w, a, b, rfl, k, ra, rb, q⟩; exact False.elim q
  · exact opR_fdiv
theorem unR_neg : UnR X (unaryOp .USub) (rO1 X.K X.mg T negF) := by
  rintro pins s σ H x v Q I rx ⟨w, a, rfl, k, ra, q⟩
  cases a <;> try exact False.elim q
  rename_i i
  exact un_neg pins s σ w.H x v Q I rx ⟨i, rv_int.mp ra, q.give k (rv_int.mpr rfl) rfl⟩
end
end Tu
end L2
set_option Elab.async false
set_option linter.all false
set_option maxRecDepth 100000
set_option maxHeartbeats 2000000
/-! TB6: data as a whole (== and repr), comparisons, items, truth. -/
namespace L2
namespace Tu
open PySem PySem.Spec PyProof.Rows
open Classical
section
variable {T : Tbl} {X : Cx} {pins : List (Addr × Obj)} {σ : St} {s : Shared} {w : Wd}
theorem key_reads {h : Heap} (k : Key) (key : Value) (e : (mixKind X.prog X.w).is k key = true) : Reads h key (keyPy k) [] := by
  rw [mixKind_is] at e
  rcases keyIs_shape e with ⟨i, t, rfl, rfl⟩ | ⟨x, t, rfl, rfl⟩
  · exact .int i t
  · exact .str x t
/-- the pairs of a dict, read -/
theorem pairs_reads {h : Heap} : ∀ {vs : List (Key × V)} {us : List (Key × Value)} {ps : List PyData} {as : List Addr}, KV vs us → ReadsAll h (us.map (·.2)) ps as →
    PyProof.V.PairsRead h keyPy us (((vs.map (·.1)).map keyPy).zip ps) as
  | [], [], _, _, .nil, .nil => .nil
  | (k', v) :: vs, (k2, u) :: us, _, _, .cons ⟨e1, _⟩ t, .cons r rs => by
    have e1' : k' = k2 := e1
    subst e1'
    exact .cons r (pairs_reads t rs)
theorem kv_vals : ∀ {vs : List (Key × V)} {us : List (Key × Value)}, KV vs us → Vals (vs.map (·.2)) (us.map (·.2))
  | [], [], .nil => .nil
  | _ :: _, _ :: _, .cons ⟨_, r⟩ t => .cons r (kv_vals t)
theorem sys_no (I : Inv X pins σ w.H s) (hk : SysK X.K) {b : Addr} {o : Obj} (h : s.heap.get? b = some o) (hn : ∀ es n, o.data ≠ .dict es n) : sysModules ≠ b := fun z => by
  obtain ⟨q, es, n, e1, e2⟩ := hk
  have y := I.kIn _ _ e1
  rw [z, h] at y
  cases y
  exact hn es n e2
theorem StK.ok {b : Addr} {vs : List (Key × V)} (I : Inv X pins σ w.H s) (h : StK w b vs) : ObjOk X.prog X.w w.H s.heap b (.dK vs) := by
  rcases h with ⟨h, _⟩ | ⟨o, h⟩
  · exact I.hok b _ h
  · exact (show ObjOk X.prog X.w w.H s.heap b (.frz o (.dK vs)) from I.hok b _ h).2
theorem dk_no {b : Addr} {vs : List (Key × V)} (h : ObjOk X.prog X.w w.H s.heap b (.dK vs)) : sysModules ≠ b := fun z => by
  have q := h.2.1
  rw [← z] at q
  simp at q
/-- what is read of a value, of a list of them -/
def RdV (X : Cx) (w : Wd) (s : Shared) (d : D) (p : PyData) : Prop := ∀ (v : V) (u : Value), RV X.K X.mg w d v → RelV v u → ∃ as, Reads s.heap u p as ∧ sysModules ∉ as
def RdVs (X : Cx) (w : Wd) (s : Shared) (ds : List D) (ps : List PyData) : Prop := ∀ (vs : List V) (us : List Value), RVs X.K X.mg w ds vs → Vals vs us → ∃ as, ReadsAll s.heap us ps as ∧ sysModules ∉ as
theorem rd_list (hsk : SysK X.K) (I : Inv X pins σ w.H s) {a : Addr} {ds : List D} {vs : List V} {ps : List PyData} (h : SqL X.K w.H a vs) (r : RVs X.K X.mg w ds vs) (q : RdVs X w s ds ps) : ∃ as, Reads s.heap (.ref a) (.list ps) as ∧ sysModules ∉ as := by
  obtain ⟨its, rv, ⟨o, m, ho, hc, _, hd⟩, _⟩ := I.list h
  obtain ⟨as, q1, hn⟩ := q vs its r rv
  exact ⟨a :: as, .list ho hc hd (by simpa using q1), fun z => (List.mem_cons.mp z).elim (sys_no I hsk ho fun _ _ z => by rw [hd] at z; cases z) hn⟩
theorem rd_dict (I : Inv X pins σ w.H s) {a : Addr} {ds : List D} {vs : List (Key × V)} {ps : List PyData} (h : ObjOk X.prog X.w w.H s.heap a (.dK vs)) (r : RVs X.K X.mg w ds (vs.map (·.2))) (q : RdVs X w s ds ps) : ∃ as, Reads s.heap (.ref a) (.dict (((vs.map (·.1)).map keyPy).zip ps)) as ∧ sysModules ∉ as := by
  obtain ⟨_, _, us, kv, hd⟩ := id h
  obtain ⟨as, q1, hn⟩ := q _ (us.map (·.2)) r (kv_vals kv)
  exact ⟨a :: as, PyProof.V.reads_dictOf (key_reads (X := X)) hd (pairs_reads kv q1), fun z => (List.mem_cons.mp z).elim (dk_no h) hn⟩
section
variable (hsk : SysK X.K) (I : Inv X pins σ w.H s) (k : Ok X.K X.mg T w) {rd : Nat → Option PyData} (hrd : ∀ a p, rd a = some p → RdV X w s (.obj a) p)
include hsk I hrd
mutual
theorem rd_w : ∀ (d : D) (p : PyData), pyW rd d = some p → RdV X w s d p
  | .non, p, h => fun v u r ru => by
    rw [pyW] at h
    cases h
    have e := rv_non.mp r
    subst e
    cases ru
    exact ⟨[], .none, by simp⟩
  | .bl b, p, h => fun v u r ru => by
    rw [pyW] at h
    cases h
    have e := rv_bl.mp r
    subst e
    cases ru
    exact ⟨[], .bool b, by simp⟩
  | .int i, p, h => fun v u r ru => by
    rw [pyW] at h
    cases h
    have e := rv_int.mp r
    subst e
    obtain ⟨t, rfl⟩ := ru
    exact ⟨[], .int i t, by simp⟩
  | .str x, p, h => fun v u r ru => by
    rw [pyW] at h
    cases h
    have e := rv_str.mp r
    subst e
    obtain ⟨t, rfl⟩ := ru
    exact ⟨[], .str x t, by simp⟩
  | .tup xs, p, h => fun v u r ru => by
    rw [pyW] at h
    cases e : pysW rd xs with
    | none => rw [e] at h; cases h
    | some ps =>
      rw [e] at h
      cases h
      obtain ⟨a, vs, e2, hs, rs⟩ := rv_tup.mp r
      subst e2
      cases ru
      obtain ⟨its, rv, ⟨o, ho, hc, m, hd⟩, _⟩ := I.tuple hs
      obtain ⟨as, q, hn⟩ := rd_ws xs ps e vs its rs rv
      exact ⟨as, .tuple ho hc hd (by simpa using q), hn⟩
  | .lst xs, p, h => fun v u r ru => by
    rw [pyW] at h
    cases e : pysW rd xs with
    | none => rw [e] at h; cases h
    | some ps =>
      rw [e] at h
      cases h
      obtain ⟨a, vs, e2, hs, rs⟩ := rv_lst.mp r
      subst e2
      cases ru
      exact rd_list hsk I hs.l rs (rd_ws xs ps e)
  | .dk ks xs, p, h => fun v u r ru => by
    rw [pyW] at h
    cases e : pysW rd xs with
    | none => rw [e] at h; cases h
    | some ps =>
      rw [e] at h
      cases h
      obtain ⟨a, vs, e2, hs, rfl, rs⟩ := rv_dk.mp r
      subst e2
      cases ru
      exact rd_dict I (hs.ok I) rs (rd_ws xs ps e)
  | .dt _ _, p, h => by rw [pyW] at h; cases h
  | .ins _ _ _, p, h => by rw [pyW] at h; cases h
  | .exc _ _, p, h => by rw [pyW] at h; cases h
  | .obj a, p, h => by
    rw [pyW] at h
    exact hrd a p h
  | .ty _, p, h => by rw [pyW] at h; cases h
  | .nam _, p, h => by rw [pyW] at h; cases h
theorem rd_ws : ∀ (ds : List D) (ps : List PyData), pysW rd ds = some ps → RdVs X w s ds ps
  | [], ps, h => fun vs us r ru => by
    rw [pysW] at h
    cases h
    have e := r.inv0
    subst e
    cases ru
    exact ⟨[], .nil, by simp⟩
  | x :: xs, ps, h => fun vs us r ru => by
    rw [pysW] at h
    obtain ⟨v, vs', rfl, r1, r2⟩ := r.inv
    cases ru with
    | cons q1 q2 =>
      cases e : pyW rd x with
      | none => rw [e] at h; cases h
      | some p =>
        rw [e] at h
        cases e2 : pysW rd xs with
        | none => rw [e2] at h; cases h
        | some ps' =>
          rw [e2] at h
          cases h
          obtain ⟨as, a1, a2⟩ := rd_w x p e v _ r1 q1
          obtain ⟨bs, b1, b2⟩ := rd_ws xs ps' e2 vs' _ r2 q2
          exact ⟨as ++ bs, .cons a1 b1, fun z => (List.mem_append.mp z).elim a2 b2⟩
end
end
theorem rd_P (hsk : SysK X.K) (I : Inv X pins σ w.H s) (k : Ok X.K X.mg T w) : ∀ (n a : Nat) (p : PyData), rdP w.S n a = some p → RdV X w s (.obj a) p
  | 0, a, p, h => by rw [rdP] at h; cases h
  | n + 1, a, p, h => fun v u r ru => by
    rw [rdP] at h
    obtain ⟨hl, e2⟩ := rv_obj.mp r
    subst e2
    cases ru
    split at h
    · rename_i xs hx
      obtain ⟨vs, hv, rs⟩ := k.lst hx
      cases e : pysW (rdP w.S n) xs with
      | none => rw [e] at h; cases h
      | some ps =>
        rw [e] at h
        cases h
        exact rd_list hsk I (SqL.of hv) rs (rd_ws hsk I (rd_P hsk I k n) xs ps e)
    · rename_i ks xs hx
      obtain ⟨vs, hv, rfl, rs⟩ := k.cell a _ hx
      cases e : pysW (rdP w.S n) xs with
      | none => rw [e] at h; cases h
      | some ps =>
        rw [e] at h
        cases h
        exact rd_dict I (I.hok _ _ hv) rs (rd_ws hsk I (rd_P hsk I k n) xs ps e)
    · cases h
theorem rd_of {d : D} {v : V} {u : Value} {p : PyData} (hsk : SysK X.K) (I : Inv X pins σ w.H s) (k : Ok X.K X.mg T w) (h : toPy w.S d = some p) (r : RV X.K X.mg w d v) (ru : RelV v u) : ∃ as, Reads s.heap u p as ∧ sysModules ∉ as :=
  rd_w hsk I (rd_P hsk I k 8) d p h v u r ru
end
section
variable {T : Tbl} {X : Cx}
theorem rv_isnon {K : PySem.W.Frag} {mg : Str → Option Value} {w : Wd} {a : D} {v : V} (r : RV K mg w a v) : decide (v = V.non) = isNon a := by
  cases a with
  | non => have e := rv_non.mp r; subst e; rfl
  | bl b => have e := rv_bl.mp r; subst e; rfl
  | int i => have e := rv_int.mp r; subst e; rfl
  | str i => have e := rv_str.mp r; subst e; rfl
  | tup i => obtain ⟨a, vs, e, _⟩ := rv_tup.mp r; subst e; rfl
  | lst i => obtain ⟨a, vs, e, _⟩ := rv_lst.mp r; subst e; rfl
  | dk i j => obtain ⟨a, vs, e, _⟩ := rv_dk.mp r; subst e; rfl
  | dt i j => obtain ⟨a, vs, e, _⟩ := rv_dt.mp r; subst e; rfl
  | ins i j l => obtain ⟨a, _, _, _, e, _⟩ := rv_ins.mp r; subst e; rfl
  | exc i j => obtain ⟨a, _, _, _, e, _⟩ := rv_exc.mp r; subst e; rfl
  | obj i => have e := (rv_obj.mp r).2; subst e; rfl
  | ty i => have e := rv_ty.mp r; subst e; rfl
  | nam i => obtain ⟨a, _, e⟩ := rv_nam.mp r; subst e; rfl
theorem opR_cmp (hsk : SysK X.K) (hu : X.A.units + 64 < cLine) (op : CmpOp) : OpR X (compareOp op) (rO2 X.K X.mg T (cmpF op)) := by
  rintro pins s σ H x y v u Q I rx ry ⟨w, a, b, rfl, k, ra, rb, q⟩
  have eqs : ∀ c, eqP a b w.S = some c → ∃ p q, (∃ as, Reads s.heap v p as) ∧ (∃ bs, Reads s.heap u q bs) ∧ SeqAt.shaped p = true ∧ SeqAt.shaped q = true ∧ c = PyData.eqv p q := fun c hc => by
    unfold eqP at hc
    split at hc
    · rename_i p q hp hq
      split at hc
      · rename_i hs
        cases hc
        obtain ⟨as, r1, _⟩ := rd_of hsk I k hp ra rx
        obtain ⟨bs, r2, _⟩ := rd_of hsk I k hq rb ry
        exact ⟨p, q, ⟨as, r1⟩, ⟨bs, r2⟩, hs.1, hs.2, rfl⟩
      · cases hc
    · cases hc
  cases op with
  | Eq =>
    cases e : eqB a b w.S with
    | none =>
      dsimp only [cmpF] at q
      rw [e] at q
      exact False.elim q
    | some c =>
      dsimp only [cmpF] at q
      rw [e] at q
      unfold eqB at e
      split at e
      · cases e
        rw [rv_str.mp ra] at rx
        rw [rv_str.mp rb] at ry
        exact op_eq pins s σ w.H _ _ v u Q I rx ry ⟨rfl, by rw [dec_str]; exact q.give k (rv_bl.mpr rfl) rfl⟩
      · cases e
        rw [rv_int.mp ra] at rx
        rw [rv_int.mp rb] at ry
        exact op_eq pins s σ w.H _ _ v u Q I rx ry ⟨rfl, by rw [dec_int]; exact q.give k (rv_bl.mpr rfl) rfl⟩
      · obtain ⟨p, q', ⟨as, r1⟩, ⟨bs, r2⟩, s1, s2, rfl⟩ := eqs c e
        exact SeqAt.compareEq_shaped r1 r2 s1 s2 hu ⟨.bl _, w.H, I, rfl, q.give k (rv_bl.mpr rfl) rfl⟩
  | NotEq =>
    cases e : eqB a b w.S with
    | none =>
      dsimp only [cmpF] at q
      rw [e] at q
      exact False.elim q
    | some c =>
      dsimp only [cmpF] at q
      rw [e] at q
      unfold eqB at e
      split at e
      · cases e
        rw [rv_str.mp ra] at rx
        rw [rv_str.mp rb] at ry
        exact op_ne pins s σ w.H _ _ v u Q I rx ry ⟨rfl, by rw [dec_str]; exact q.give k (rv_bl.mpr rfl) rfl⟩
      · cases e
        rw [rv_int.mp ra] at rx
        rw [rv_int.mp rb] at ry
        exact op_ne pins s σ w.H _ _ v u Q I rx ry ⟨rfl, by rw [dec_int]; exact q.give k (rv_bl.mpr rfl) rfl⟩
      · obtain ⟨p, q', ⟨as, r1⟩, ⟨bs, r2⟩, s1, s2, rfl⟩ := eqs c e
        exact SeqAt.compareNe_shaped r1 r2 s1 s2 hu ⟨.bl _, w.H, I, rfl, q.give k (rv_bl.mpr rfl) rfl⟩
  | Lt =>
    cases a <;> cases b <;> try exact False.elim q
    exact op_lt pins s σ w.H x y v u Q I rx ry ⟨_, _, rv_int.mp ra, rv_int.mp rb, q.give k (rv_bl.mpr rfl) rfl⟩
  | LtE =>
    cases a <;> cases b <;> try exact False.elim q
    exact op_le pins s σ w.H x y v u Q I rx ry ⟨_, _, rv_int.mp ra, rv_int.mp rb, q.give k (rv_bl.mpr rfl) rfl⟩
  | Gt =>
    cases a <;> cases b <;> try exact False.elim q
    exact op_gt pins s σ w.H x y v u Q I rx ry ⟨_, _, rv_int.mp ra, rv_int.mp rb, q.give k (rv_bl.mpr rfl) rfl⟩
  | GtE =>
    cases a <;> cases b <;> try exact False.elim q
    exact op_ge pins s σ w.H x y v u Q I rx ry ⟨_, _, rv_int.mp ra, rv_int.mp rb, q.give k (rv_bl.mpr rfl) rfl⟩
  | Is =>
    cases b <;> try (cases a <;> exact False.elim q)
    have q' : outO X.K X.mg T (RV X.K X.mg) (some (D.bl (isNon a), w.S)) w Q := by cases a <;> exact q
    refine op_isN pins s σ w.H x y v u Q I rx ry ⟨rv_non.mp rb, ?_⟩
    exact q'.give k (rv_bl.mpr (by rw [rv_isnon ra])) rfl
  | IsNot =>
    cases b <;> try (cases a <;> exact False.elim q)
    have q' : outO X.K X.mg T (RV X.K X.mg) (some (D.bl (!isNon a), w.S)) w Q := by cases a <;> exact q
    refine op_notN pins s σ w.H x y v u Q I rx ry ⟨rv_non.mp rb, ?_⟩
    exact q'.give k (rv_bl.mpr (by rw [rv_isnon ra])) rfl
  | In => cases a <;> cases b <;> exact False.elim q
  | NotIn => cases a <;> cases b <;> exact False.elim q
/-- a[b] -/
theorem ixR_idx : IxR X (rO2 X.K X.mg T idxF) := by
  rintro value slice pins s σ H x y v u Q I rx ry ⟨w, a, b, rfl, k, ra, rb, q⟩ hs
  unfold idxF at q
  split at q
  · rename_i xs i
    cases e : atI xs i with
    | none => rw [e] at q; exact False.elim q
    | some d =>
      rw [e] at q
      obtain ⟨p, vs, e1, h1, r1⟩ := rv_tup.mp ra
      obtain ⟨z, hz, rz⟩ := r1.at e
      exact ix_tup value slice pins s σ w.H x y v u Q I rx ry ⟨p, vs, i, z, e1, rv_int.mp rb, h1, hz, q.give k rz rfl⟩ hs
  · rename_i i _
    split at q
    · rename_i xs hx
      cases e : atI xs i with
      | none => rw [e] at q; exact False.elim q
      | some d =>
        rw [e] at q
        obtain ⟨p, vs, e1, h1, r1⟩ := at_lst k ra hx
        obtain ⟨z, hz, rz⟩ := r1.at e
        exact ix_list value slice pins s σ w.H x y v u Q I rx ry ⟨p, vs, i, z, e1, rv_int.mp rb, h1, hz, q.give k rz rfl⟩ hs
    · exact False.elim q
  · exact False.elim q
theorem isEmpty_rvs {K : PySem.W.Frag} {mg : Str → Option Value} {w : Wd} {ds : List D} {vs : List V} (r : RVs K mg w ds vs) : vs.isEmpty = ds.isEmpty := by
  cases ds with
  | nil => rw [r.inv0]; rfl
  | cons d ds =>
    obtain ⟨v, vs', rfl, _, _⟩ := r.inv
    rfl
/-- truth -/
theorem isEmpty_map {α β : Type} {xs : List α} {ys : List β} {f : α → β} (h : xs.map f = ys) : xs.isEmpty = ys.isEmpty := by
  subst h
  cases xs <;> rfl
theorem truV_of {w : Wd} {a : D} {x : V} {c : Bool} {S : Store} (k : Ok X.K X.mg T w) (ra : RV X.K X.mg w a x) (h : truF a w.S = some (c, S)) : TruV X.K x w.H c ∧ S = w.S := by
  have lst : ∀ {d : D} {xs : List D}, RV X.K X.mg w d x → d.at w.S = some (.lst xs) → TruV X.K x w.H (!xs.isEmpty) := fun r hx => by
    obtain ⟨p, vs, e1, h1, r1⟩ := at_lst k r hx
    subst e1
    exact .inl ⟨vs, h1, by rw [isEmpty_rvs r1]⟩
  cases a with
  | non => cases h; have e := rv_non.mp ra; subst e; exact ⟨rfl, rfl⟩
  | bl b => cases h; have e := rv_bl.mp ra; subst e; exact ⟨rfl, rfl⟩
  | int i => cases h; have e := rv_int.mp ra; subst e; exact ⟨rfl, rfl⟩
  | str z =>
    dsimp only [truF] at h
    split at h
    · cases h; have e := rv_str.mp ra; subst e; exact ⟨⟨by assumption, rfl⟩, rfl⟩
    · cases h
  | tup xs =>
    cases h
    obtain ⟨p, vs, e1, h1, r1⟩ := rv_tup.mp ra
    subst e1
    exact ⟨.inr (.inl ⟨vs, h1, by rw [isEmpty_rvs r1]⟩), rfl⟩
  | lst xs =>
    cases h
    exact ⟨lst ra rfl, rfl⟩
  | obj n =>
    dsimp only [truF] at h
    cases e : w.S[n]? with
    | none => rw [e] at h; cases h
    | some cc =>
      rw [e] at h
      cases cc with
      | lst xs =>
        cases h
        exact ⟨lst ra e, rfl⟩
      | dk ks xs =>
        cases h
        have e1 := (rv_obj.mp ra).2
        subst e1
        obtain ⟨vs, h1, hk, _⟩ := k.cell n _ e
        have e2 : ks.isEmpty = vs.isEmpty := (isEmpty_map hk).symm
        rw [e2]
        exact ⟨.inr (.inr ⟨vs, h1, rfl⟩), rfl⟩
      | _ => cases h
  | _ => cases h
end
end Tu
end L2
set_option Elab.async false
set_option linter.all false
set_option maxRecDepth 100000
set_option maxHeartbeats 2000000
/-! TB7: calls: a def's promise where the guards are known, and its rules. -/
namespace L2
namespace Tu
open PySem PySem.Spec PyProof.Rows
open Classical
/-- the def at f keeps the promise -/
structure FnG (P : Program) (w : World) (K : PySem.W.Frag) (mg : Str → Option Value) (base : Heap) (n : Nat) (f : Addr) (sp : Sp) : Prop where
  run : ∀ (A : Around) (outer : List PySem.Env) (s : Shared) (H : Hp) (us : List Value) (vs : List V) (Q : VK) (E : XK),
    Room n A → A.guards = some [] → Env0 P w K mg base A outer s H → Vals vs us → sp vs H Q E →
    codeAny (model P w) A (.call (.ref f) ⟨us, []⟩) (CR (L2.CX P w) outer P w H s Q E) s
theorem FnG.mono {P : Program} {w : World} {K : PySem.W.Frag} {mg : Str → Option Value} {base : Heap} {j n : Nat} {f : Addr} {sp : Sp} (F : FnG P w K mg base j f sp) (h : j ≤ n) : FnG P w K mg base n f sp :=
  ⟨fun A outer s H us vs Q E hr hg e0 r q => F.run A outer s H us vs Q E (hr.mono h) hg e0 r q⟩
theorem FnG.imp {P : Program} {w : World} {K : PySem.W.Frag} {mg : Str → Option Value} {base : Heap} {n : Nat} {f : Addr} {sp sp' : Sp} (F : FnG P w K mg base n f sp) (h : ∀ vs H Q E, sp' vs H Q E → sp vs H Q E) : FnG P w K mg base n f sp' :=
  ⟨fun A outer s H us vs Q E hr hg e0 r q => F.run A outer s H us vs Q E hr hg e0 r (h _ _ _ _ q)⟩
section
variable {T : Tbl} {X : Cx} {pins : List (Addr × Obj)} {σ : St} {H : Hp} {s : Shared}
/-- THE CALL of a def, by values -/
theorem run_g {n : Nat} {f : Addr} {sp : Sp} {Q : VK} {E : XK} {us : List Value} {vs : List V} (F : FnG X.prog X.w X.K X.mg X.base n f sp) (hr : Room n X.A) (hg : X.A.guards = some [])
    (hx : Passes (L2.CX X.prog X.w) X E) (I : Inv X pins σ H s) (r : Vals vs us) (h : sp vs H Q E) : wpAny (model X.prog X.w) X.A (call (.ref f) us) (EP X pins σ Q) X.xe s := by
  have go := F.run X.A X.stack s H us vs Q E hr hg I.env0 r h
  refine wpAny_call (codeAny_mono go ?_)
  rintro (e | fl) s' hq
  · exact hx pins σ H s e s' I hq
  · cases fl <;> first | exact I.after hq | exact False.elim hq
/-- .. where what is raised is wished for at the caller's slots -/
theorem run_gS {n : Nat} {f : Addr} {sp : Sp} {Q : VK} {W : WX} {us : List Value} {vs : List V} (F : FnG X.prog X.w X.K X.mg X.base n f sp) (hr : Room n X.A) (hg : X.A.guards = some [])
    (tk : Takes X W) (I : Inv X pins σ H s) (r : Vals vs us) (h : sp vs H Q fun c d H' => W c d σ H') : wpAny (model X.prog X.w) X.A (call (.ref f) us) (EP X pins σ Q) X.xe s := by
  have go := F.run X.A X.stack s H us vs Q (fun c d H' => W c d σ H') hr hg I.env0 r h
  refine wpAny_call (codeAny_mono go ?_)
  rintro (e | fl) s' hq
  · exact tk e s' (XE.of_call I (fun cls d H' q => q) hq)
  · cases fl <;> first | exact I.after hq | exact False.elim hq
end

/-! ### a def by its body -/
section
variable {P : Program} {w : World} {K : PySem.W.Frag} {mg : Str → Option Value} {base : Heap}
/-- a def keeps its promise if its body does, where the guards are known -/
theorem fnG_of {x qual : Str} {st : Stmt} {f : Addr} {fd : FuncData} {N ps : List Str} {k : Nat} {sp : Sp} (F : Fun K x qual st f fd) (S : FnScope N ps (defScope st)) (B : Binds K fd ps [])
    (len : ∀ vs H Q E, sp vs H Q E → vs.length = ps.length)
    (body : ∀ (cdv : Value) (A : Around) (outer : List PySem.Env) (s : Shared) (H : Hp) (vs : List V) (Q : VK) (E : XK),
      Room k (A.deeper (envOfC qual (defScope st) s.heap.objs.size f cdv)) → A.guards = some [] → sp vs H Q E →
      ∃ t, PSs (cxOf (L2.CX P w) P w K mg base N qual (defScope st) f cdv A outer s H E) (defBody st) t ∧ t { nx := fun _ H' => Q .non H', rt := Q } (start N vs) H) :
    FnG P w K mg base (k + 1) f sp := by
  obtain ⟨oc, od, kV, doc, pm, an, cdv, ct, osl, efd, lk, hcd⟩ := F.ex
  subst efd
  refine ⟨fun A outer s H us vs Q E hr hg e0 r hsp => ?_⟩
  have lv := len _ _ _ _ hsp
  have bk := fun b o e => (e0.bs b o e).1
  have inK : K.In s.heap := e0.mod.kin.keeps bk
  have noL : s.heap.NoLimit := e0.mod.nolimit.keeps bk
  have lu : (us ++ []).length = ps.length := by
    rw [List.append_nil, ← Paired.length r]
    exact lv
  have bt := B s us inK lu
  rw [List.append_nil] at bt
  refine codeAny_call_function hr.depth (inK _ _ lk) rfl S.co S.gen rfl (PySem.W.codeRec_of inK hcd) (bt _ _ _ _ ?_)
  have kinds : ∀ y ∈ ps.zip us, (defScope st).names.lookup y.1 = some .local ∨ ((defScope st).names.lookup y.1 = some .cell ∧ ((cellsFrom (s.heap.objs.size + 1) (defScope st).names []).lookup y.1).isSome = true) := by
    rintro ⟨n, v⟩ hy
    cases S.par n (List.of_mem_zip hy).1 with
    | inl q => exact .inl q
    | inr q => exact .inr ⟨q, PySem.W.cellsFrom_some _ _ _ (.inl q)⟩
  refine wpAny_newFunctionEnv_cells S.kind kinds ?_
  rintro env rfl s1 x
  obtain ⟨t, ht, hq⟩ := body cdv A outer s H vs Q E (hr.deeper _) hg hsp
  have J := inv_start (CX := L2.CX P w) (E := E) S hr.hd e0 lv r x
  refine ⟨noL.keeps x.toInCall.keep, codeAny_func (wpAny_mono (ht.run [] s1 (start N vs) H _ J hq) ?_ fun e s' h => h)⟩
  intro fl s' h
  cases fl with
  | ret u =>
    obtain ⟨v, σ', H', J', rv, q⟩ := h
    exact ⟨v, H', J'.os, J'.bare, J'.base, J'.hok, rv, q⟩
  | next =>
    obtain ⟨σ', H', J', q⟩ := h
    exact ⟨V.non, H', J'.os, J'.bare, J'.base, J'.hok, rfl, q⟩
  | brk =>
    obtain ⟨_, _, _, q⟩ := h
    exact q.elim
  | cont =>
    obtain ⟨_, _, _, q⟩ := h
    exact q.elim
end
/-- THE PROMISE by a plain reckoning -/
def spU (K : PySem.W.Frag) (mg : Str → Option Value) (T : Tbl) (m : List D → Store → Res D) : Sp := fun vs H Q E =>
  ∃ w ds, w.H = H ∧ Ok K mg T w ∧ RVs K mg w ds vs ∧ out K mg T (RV K mg) (fun c d _ H' => E c d H') [] (m ds w.S) w Q
end Tu
end L2
set_option Elab.async false
set_option linter.all false
set_option maxRecDepth 100000
set_option maxHeartbeats 2000000
/-! TB8: the built-ins and the methods of built-in types, by values. -/
namespace L2
namespace Tu
open PySem PySem.Spec PyProof.Rows
open Classical
section
variable {K : PySem.W.Frag} {mg : Str → Option Value} {T : Tbl} {w : Wd}
theorem RVs.one {d : D} {vs : List V} (h : RVs K mg w [d] vs) : ∃ v, vs = [v] ∧ RV K mg w d v := by
  obtain ⟨v, vs', rfl, h1, h2⟩ := h.inv
  rw [h2.inv0]
  exact ⟨v, rfl, h1⟩
theorem RVs.two {d e : D} {vs : List V} (h : RVs K mg w [d, e] vs) : ∃ v u, vs = [v, u] ∧ RV K mg w d v ∧ RV K mg w e u := by
  obtain ⟨v, vs', rfl, h1, h2⟩ := h.inv
  obtain ⟨u, rfl, h3⟩ := h2.one
  exact ⟨v, u, rfl, h1, h3⟩
theorem bools_rv : ∀ {xs : List D} {bs : List Bool} {vs : List V}, bools xs = some bs → RVs K mg w xs vs → vs = bs.map V.bl
  | [], bs, vs, h, r => by
    cases h
    exact r.inv0
  | d :: xs, bs, vs, h, r => by
    obtain ⟨v, vs', rfl, h1, h2⟩ := r.inv
    cases d <;> simp [bools] at h
    obtain ⟨bs', e, rfl⟩ := h
    rw [rv_bl.mp h1, bools_rv e h2]
    rfl
theorem RVs.ints (ns : List Int) : RVs K mg w (ns.map D.int) (ns.map V.int) := by
  induction ns with
  | nil => exact RVs.nil
  | cons n ns ih => exact RVs.cons (rv_int.mpr rfl) ih
end
section
variable {T : Tbl} {X : Cx}
theorem callR_len : CallR X (.builtin "len") (rON X.K X.mg T biLen) := by
  rintro pins s σ H xs us Q I r ⟨w, ds, rfl, k, ra, q⟩
  unfold biLen at q
  split at q
  · obtain ⟨v, rfl, rv⟩ := ra.one
    have e := rv_str.mp rv
    subst e
    split at q
    · rename_i x _
      exact call_len pins s σ w.H _ us Q I r ⟨_, x.length, rfl, ⟨by assumption, rfl⟩, q.give k (rv_int.mpr rfl) rfl⟩
    · exact False.elim q
  · rename_i d _
    obtain ⟨v, rfl, rv⟩ := ra.one
    cases e : itemsOf d w.S with
    | none => rw [e] at q; exact False.elim q
    | some ys =>
      rw [e] at q
      obtain ⟨p, vs, rfl, h1, r1⟩ := items_at k rv e
      exact call_len_seq pins s σ w.H _ us Q I r ⟨p, vs, rfl, h1.symm, by rw [r1.len]; exact q.give k (rv_int.mpr rfl) rfl⟩
  · exact False.elim q
theorem callR_abs : CallR X (.builtin "abs") (rON X.K X.mg T biAbs) := by
  rintro pins s σ H xs us Q I r ⟨w, ds, rfl, k, ra, q⟩
  rcases ds with _ | ⟨d0, _ | ⟨d1, dr⟩⟩
  · exact False.elim q
  · cases d0 with
    | int i =>
      obtain ⟨v, rfl, rv⟩ := ra.one
      have e := rv_int.mp rv
      subst e
      exact call_abs pins s σ w.H _ us Q I r ⟨i, rfl, q.give k (rv_int.mpr rfl) rfl⟩
    | _ => exact False.elim q
  · cases d0 <;> exact False.elim q
theorem callR_int : CallR X (.type "int") (rON X.K X.mg T biInt) := by
  rintro pins s σ H xs us Q I r ⟨w, ds, rfl, k, ra, q⟩
  rcases ds with _ | ⟨d0, _ | ⟨d1, dr⟩⟩
  · exact False.elim q
  · cases d0 with
    | int i =>
      obtain ⟨v, rfl, rv⟩ := ra.one
      have e := rv_int.mp rv
      subst e
      exact call_int1 pins s σ w.H _ us Q I r (.inl ⟨i, rfl, q.give k (rv_int.mpr rfl) rfl⟩)
    | bl b =>
      obtain ⟨v, rfl, rv⟩ := ra.one
      have e := rv_bl.mp rv
      subst e
      exact call_int1 pins s σ w.H _ us Q I r (.inr ⟨b, rfl, q.give k (rv_int.mpr rfl) rfl⟩)
    | _ => exact False.elim q
  · cases d0 <;> exact False.elim q
theorem callR_max (hc : X.calm = true) : CallR X (.builtin "max") (rON X.K X.mg T biMax) := by
  rintro pins s σ H xs us Q I r ⟨w, ds, rfl, k, ra, q⟩
  rcases ds with _ | ⟨d0, _ | ⟨d1, _ | ⟨d2, dr⟩⟩⟩
  · exact False.elim q
  · cases d0 <;> exact False.elim q
  · cases d0 <;> cases d1 <;> first | exact False.elim q | skip
    rename_i i j
    obtain ⟨v, u, rfl, r1, r2⟩ := ra.two
    have e1 := rv_int.mp r1
    have e2 := rv_int.mp r2
    subst e1
    subst e2
    exact call_max2 hc pins s σ w.H _ us Q I r ⟨i, j, rfl, q.give k (rv_int.mpr rfl) rfl⟩
  · cases d0 <;> cases d1 <;> exact False.elim q
theorem callR_min (hc : X.calm = true) : CallR X (.builtin "min") (rON X.K X.mg T biMin) := by
  rintro pins s σ H xs us Q I r ⟨w, ds, rfl, k, ra, q⟩
  rcases ds with _ | ⟨d0, _ | ⟨d1, _ | ⟨d2, dr⟩⟩⟩
  · exact False.elim q
  · cases d0 <;> exact False.elim q
  · cases d0 <;> cases d1 <;> first | exact False.elim q | skip
    rename_i i j
    obtain ⟨v, u, rfl, r1, r2⟩ := ra.two
    have e1 := rv_int.mp r1
    have e2 := rv_int.mp r2
    subst e1
    subst e2
    exact call_min2 hc pins s σ w.H _ us Q I r ⟨i, j, rfl, q.give k (rv_int.mpr rfl) rfl⟩
  · cases d0 <;> cases d1 <;> exact False.elim q
theorem callR_repr (hsk : SysK X.K) (hg : X.A.guards = some []) (hu : X.A.units + 64 < cLine) : CallR X (.builtin "repr") (rON X.K X.mg T biRepr) := by
  rintro pins s σ H xs us Q I r ⟨w, ds, rfl, k, ra, q⟩
  rcases ds with _ | ⟨d, _ | ⟨d2, dr⟩⟩
  · exact False.elim q
  · obtain ⟨v, rfl, rv⟩ := ra.one
    obtain ⟨u, rfl, ru⟩ := vals1 r
    dsimp only [biRepr] at q
    split at q
    · rename_i p hp
      split at q
      · rename_i hz
        obtain ⟨h1, h2, h3⟩ := hz
        obtain ⟨as, hr, hn⟩ := rd_of hsk I k hp rv ru
        have fin : ∀ (h' : Heap) (t : Tok) (tk : Nat), (∀ b o, s.heap.get? b = some o → h'.get? b = some o) → EP X pins σ Q (.str p.shown t) { s with heap := h', toks := tk } := fun h' t tk hk =>
          ⟨.str p.shown, w.H, I.kept hk, ⟨t, rfl⟩, q.give k (rv_str.mpr rfl) rfl⟩
        cases hr with
        | none =>
          have e : PyData.shown .none = "None" := by simp [PyData.shown]
          refine PySem.P.repr_of_none ?_
          rw [← e]
          exact fin s.heap _ _ fun _ _ e => e
        | bool b =>
          have e : PyData.shown (.bool b) = if b = true then PySem.Str.ofString "True" else PySem.Str.ofString "False" := by simp [PyData.shown]
          refine PySem.P.repr_of_bool ?_
          rw [← e]
          exact fin s.heap _ _ fun _ _ e => e
        | int i t =>
          have e : PyData.shown (.int i) = toString i := by simp [PyData.shown]
          refine PySem.P.repr_of_int (by simpa [PyData.showable] using h1) ?_
          rw [← e]
          exact fin s.heap _ _ fun _ _ e => e
        | str x t =>
          have e : PyData.shown (.str x) = reprText x := by simp [PyData.shown]
          refine PySem.P.repr_of_str ?_ (by rw [← e]; exact h2)
          rw [← e]
          exact fin s.heap _ _ fun _ _ e => e
        | list a1 a2 a3 a4 => exact repr_of_reads' (.list a1 a2 a3 a4) h1 (fun _ => hn) hg (by omega) (fun _ _ e => e) (fun h' t tk hk => fin h' t tk hk) h2
        | tuple a1 a2 a3 a4 => exact repr_of_reads' (.tuple a1 a2 a3 a4) h1 (fun _ => hn) hg (by omega) (fun _ _ e => e) (fun h' t tk hk => fin h' t tk hk) h2
        | dict a1 a2 a3 a4 a5 => exact repr_of_reads' (.dict a1 a2 a3 a4 a5) h1 (fun _ => hn) hg (by omega) (fun _ _ e => e) (fun h' t tk hk => fin h' t tk hk) h2
      · exact False.elim q
    · exact False.elim q
  · exact False.elim q
theorem callR_all (hc : X.calm = true) : CallR X (.builtin "all") (rON X.K X.mg T biAll) := by
  rintro pins s σ H xs us Q I r ⟨w, ds, rfl, k, ra, q⟩
  unfold biAll at q
  split at q
  · rename_i d
    obtain ⟨v, rfl, rv⟩ := ra.one
    cases e : lstOf d w.S with
    | none => rw [e] at q; exact False.elim q
    | some ys =>
      rw [e] at q
      obtain ⟨p, vs, rfl, h1, r1⟩ := at_lst k rv (lstOf_at e)
      cases e2 : bools ys with
      | none => dsimp only [Option.bind] at q; rw [e2] at q; exact False.elim q
      | some bs =>
        dsimp only [Option.bind] at q
        rw [e2] at q
        have z := bools_rv e2 r1
        subst z
        exact cr_all hc pins s σ w.H _ us Q I r ⟨_, bs, rfl, h1, q.give k (rv_bl.mpr rfl) rfl⟩
  · exact False.elim q
theorem callR_any (hc : X.calm = true) : CallR X (.builtin "any") (rON X.K X.mg T biAny) := by
  rintro pins s σ H xs us Q I r ⟨w, ds, rfl, k, ra, q⟩
  unfold biAny at q
  split at q
  · rename_i d
    obtain ⟨v, rfl, rv⟩ := ra.one
    cases e : lstOf d w.S with
    | none => rw [e] at q; exact False.elim q
    | some ys =>
      rw [e] at q
      obtain ⟨p, vs, rfl, h1, r1⟩ := at_lst k rv (lstOf_at e)
      cases e2 : bools ys with
      | none => dsimp only [Option.bind] at q; rw [e2] at q; exact False.elim q
      | some bs =>
        dsimp only [Option.bind] at q
        rw [e2] at q
        have z := bools_rv e2 r1
        subst z
        exact cr_any hc pins s σ w.H _ us Q I r ⟨_, bs, rfl, h1, q.give k (rv_bl.mpr rfl) rfl⟩
  · exact False.elim q
theorem callR_list (fl : Bool) : CallR X (.type "list") (rON X.K X.mg T (biList fl)) := by
  rintro pins s σ H xs us Q I r ⟨w, ds, rfl, k, ra, q⟩
  unfold biList at q
  split at q
  · rename_i d
    obtain ⟨v, rfl, rv⟩ := ra.one
    cases e : itemsOf d w.S with
    | none => rw [e] at q; exact False.elim q
    | some ys =>
      rw [e] at q
      dsimp only [Option.bind] at q
      split at q
      · obtain ⟨p, vs, rfl, h1, r1⟩ := items_at k rv e
        exact call_list_of pins s σ w.H _ us Q I r ⟨_, vs, rfl, h1.symm, q.newlst k r1⟩
      · exact False.elim q
  · exact False.elim q
/-- a list written anew -/
theorem outO.putlst {w : Wd} {a : Nat} {xs ds : List D} {us : List V} {Q : V → Hp → Prop} (h : outO X.K X.mg T (RV X.K X.mg) (some (D.non, w.S.set a (.lst ds))) w Q) (k : Ok X.K X.mg T w) (hx : w.S[a]? = some (.lst xs)) (r : RVs X.K X.mg w ds us) :
    Q .non (upd w.H (w.m a) (.lst us)) :=
  h (w.put a (.lst us) (.lst ds)) .non rfl (Ex.put k hx nt_lst) (k.put hx nt_lst ⟨us, upd_same, Ex.rvs (Ex.put k hx nt_lst) _ _ r⟩) (rv_non.mpr rfl)
theorem mtR_append : MtR X "list.append" (rOM X.K X.mg T meAppend) := by
  rintro pins s σ H x xs v us Q I rx r ⟨w, a, ds, rfl, k, ra, rs, q⟩
  unfold meAppend at q
  split at q
  · obtain ⟨y, rfl, ry⟩ := rs.one
    split at q
    · rename_i ys hy
      split at q
      · obtain ⟨vs, h1, r1⟩ := k.lst hy
        exact mt_append pins s σ w.H x _ v us Q I rx r ⟨_, vs, y, (rv_obj.mp ra).2, rfl, h1, by rw [r1.len]; assumption, q.putlst k hy (r1.app (RVs.cons ry RVs.nil))⟩
      · exact False.elim q
    · exact False.elim q
  · exact False.elim q
/-- l.extend(l2), both lists told by what stands there -/
theorem list_extendW (l : Addr) (items : Array Value) (n : Nat) (b : Addr) (items2 : Array Value) (n2 : Nat) (dd2 : Option Addr) (sl2 : Array (Option Value)) (hc0 : ¬(!items.isEmpty && Builtin.List.listTooLong (items.size + items2.size)) = true) (hc1 : items.size ≤ sizeLine) (hs2 : items.size + items2.size ≤ sizeLine + 1) :
    Meets (Builtin.«list.extend» ⟨[.ref l, .ref b], []⟩) (fun _ R s => s.heap.get? l = some { cls := .type "list", dict := none, data := .seq items n, slots := #[] } ∧ s.heap.get? b = some { cls := .type "list", dict := dd2, data := .seq items2 n2, slots := sl2 } ∧ R (.ok (.ret Value.none)) { s with heap := s.heap.update l (Obj.mapSeq fun x => x ++ items2), toks := s.toks }) :=
  .of_wp fun prog w A R s h => by
    obtain ⟨hp, g, d, tk, os⟩ := s; obtain ⟨hl, hb, h⟩ := h; have f1 := AutoSeq1.idx_int; have f2 := AutoSeq1.sub_tuple_tuple; have f3 := AutoSeq1.sub_list_list; have f4 := AutoSeq1.sub_tuple_list; have f5 := AutoSeq1.sub_list_tuple
    have hz' : (items ++ items2).size ≤ sizeLine + 1 := by rw [Array.size_append]; exact hs2
    wp_walk using (wpAny_updateSeq hl rfl (hz := hc1) (_hz' := hz')), wpAny_loadPart' hl, wpAny_loadPart' hb; exact ⟨_, rfl, h⟩
theorem mt_extendL : MtR X "list.extend" (fun x ys H Q => ∃ l b xs zs, x = .ref l ∧ ys = [.ref b] ∧ H l = some (.lst xs) ∧ SqL X.K H b zs ∧ xs.length + zs.length ≤ sizeLine ∧ Q .non (upd H l (.lst (xs ++ zs)))) := by
  intro pins s σ H x vs v us Q I rx rv h
  obtain ⟨l, b, xs, zs, rfl, rfl, hH, hB, hz, q⟩ := h
  cases rx
  obtain ⟨u, rfl, ru⟩ := vals1 rv
  cases ru
  obtain ⟨z, its, n, r, hl, e⟩ := I.lstM hH
  obtain ⟨its2, r2, ⟨⟨cls2, dd2, data2, sl2⟩, n2, ho2, hc2, hdd2, hd2⟩, z2⟩ := I.list hB
  simp only at hc2 hd2
  subst hc2 hd2
  have l2 := r2.length
  have hsz : its.toArray.size + its2.toArray.size ≤ sizeLine := by rw [List.size_toArray, List.size_toArray]; omega
  have hlong : ¬ (!its.toArray.isEmpty && Builtin.List.listTooLong (its.toArray.size + its2.toArray.size)) = true := by
    rw [notLongL hsz, Bool.and_false]
    exact Bool.false_ne_true
  refine call_meets PySem.F.slot_list_extend ⟨_, e, rfl⟩ PySem.F.entry_list_extend (PySem.F.args_list_extend_2 _ _)
    (list_extendW l its.toArray n b its2.toArray n2 dd2 sl2 hlong (by rw [List.size_toArray]; omega) (by omega)) ⟨e, ho2, ?_⟩
  refine ⟨.non, _, I.lset (its' := its ++ its2) hH e (by simp) (r.append r2) ?_, rfl, q⟩
  rw [List.length_append]
  exact hz
theorem mtR_extend : MtR X "list.extend" (rOM X.K X.mg T meExtend) := by
  rintro pins s σ H x xs v us Q I rx r ⟨w, a, ds, rfl, k, ra, rs, q⟩
  unfold meExtend at q
  split at q
  · rename_i n b
    obtain ⟨y, rfl, ry⟩ := rs.one
    split at q
    · rename_i ys zs hy hz
      split at q
      · obtain ⟨vs, h1, r1⟩ := k.lst hy
        obtain ⟨p, ts, e, h2, r2⟩ := at_lst k ry (lstOf_at hz)
        subst e
        exact mt_extendL pins s σ w.H x _ v us Q I rx r ⟨_, _, vs, ts, (rv_obj.mp ra).2, rfl, h1, h2, by rw [r1.len, r2.len]; assumption, q.putlst k hy (r1.app r2)⟩
      · exact False.elim q
    · exact False.elim q
  · exact False.elim q
end
end Tu
end L2
set_option Elab.async false
set_option linter.all false
set_option maxRecDepth 100000
set_option maxHeartbeats 4000000
/-! TB9: the rules of the layer, with plain reckonings in the readings' places. -/
namespace L2
namespace Tu
open PySem PySem.Spec PyProof.Rows
open Classical
section
variable (K : PySem.W.Frag) (mg : Str → Option Value) (T : Tbl)
/-- J walks the items of s, as long as these are the same -/
structure SrcOk (w : Wd) (s : Src) (J : It) : Prop where
  stop : ∀ w', Ex w w' → Ok K mg T w' → s.same w'.S → J.stop s.items.length w'.H
  go : ∀ w' i, Ex w w' → Ok K mg T w' → s.same w'.S → i < s.items.length → J.go i w'.H
  yld : ∀ w' i d x H', Ex w w' → Ok K mg T w' → s.same w'.S → s.items[i]? = some d → J.yld i w'.H x H' → ∃ w2, w2.H = H' ∧ w2.S = w'.S ∧ Ex w' w2 ∧ Ok K mg T w2 ∧ RV K mg w2 d x
def tDI (W : WX) (m : Env → Store → Res Src) : TI := fun σ H R => ∃ w ρ, w.H = H ∧ Ok K mg T w ∧ RE K mg w ρ σ ∧ out K mg T (SrcOk K mg T) W σ (m ρ w.S) w R
/-- a target: the slots at is may change, no others -/
def tDG (is : List Nat) (m : D → Env → Option Env) : TG := fun v σ H Q => ∃ w ρ d, w.H = H ∧ Ok K mg T w ∧ RE K mg w ρ σ ∧ RV K mg w d v ∧ match m d ρ with
  | some ρ' => ∀ σ', RE K mg w ρ' σ' → (σ'.length = σ.length ∧ ∀ j, j ∉ is → σ'[j]? = σ[j]?) → Q σ' w.H
  | none => False
def tDGs (is : List Nat) (m : List D → Env → Option Env) : TGs := fun vs σ H Q => ∃ w ρ ds, w.H = H ∧ Ok K mg T w ∧ RE K mg w ρ σ ∧ RVs K mg w ds vs ∧ match m ds ρ with
  | some ρ' => ∀ σ', RE K mg w ρ' σ' → (σ'.length = σ.length ∧ ∀ j, j ∉ is → σ'[j]? = σ[j]?) → Q σ' w.H
  | none => False
def outS (W : WX) (D : Ends) (r : RS) (w : Wd) : Prop := match r with
  | .nx ρ S => ∀ (w' : Wd) (σ' : St), w'.S = S → Ex w w' → Ok K mg T w' → RE K mg w' ρ σ' → D.nx σ' w'.H
  | .rt d S => ∀ (w' : Wd) (v : V), w'.S = S → Ex w w' → Ok K mg T w' → RV K mg w' d v → D.rt v w'.H
  | .ct ρ S => ∀ (w' : Wd) (σ' : St), w'.S = S → Ex w w' → Ok K mg T w' → RE K mg w' ρ σ' → D.ct σ' w'.H
  | .bk ρ S => ∀ (w' : Wd) (σ' : St), w'.S = S → Ex w w' → Ok K mg T w' → RE K mg w' ρ σ' → D.bk σ' w'.H
  | .ex c d ρ S => ∀ (w' : Wd) (σ' : St) (C dd : Addr) (v : V), w'.S = S → Ex w w' → Ok K mg T w' → RE K mg w' ρ σ' → mg c = some (.ref C) → w'.H dd = some (.xd [(("value" : Str), v)]) → RV K mg w' d v → W (.ref C) (some dd) σ' w'.H
  | .bad => False
def tDS (W : WX) (m : Env → Store → RS) : TS := fun D σ H => ∃ w ρ, w.H = H ∧ Ok K mg T w ∧ RE K mg w ρ σ ∧ outS K mg T W D (m ρ w.S) w
end
section
variable {K : PySem.W.Frag} {mg : Str → Option Value} {T : Tbl} {w w' w1 : Wd} {W : WX} {D : Ends}
theorem outS.shift {r : RS} (h : outS K mg T W D r w) (e : Ex w w1) : outS K mg T W D r w1 := by
  cases r with
  | nx ρ S => exact fun w' σ' h1 h2 h3 h4 => h w' σ' h1 (e.trans h2) h3 h4
  | rt d S => exact fun w' σ' h1 h2 h3 h4 => h w' σ' h1 (e.trans h2) h3 h4
  | ct ρ S => exact fun w' σ' h1 h2 h3 h4 => h w' σ' h1 (e.trans h2) h3 h4
  | bk ρ S => exact fun w' σ' h1 h2 h3 h4 => h w' σ' h1 (e.trans h2) h3 h4
  | ex c d ρ S => exact fun w' σ' C dd v h1 h2 h3 h4 h5 h6 h7 => h w' σ' C dd v h1 (e.trans h2) h3 h4 h5 h6 h7
  | bad => exact h
/-- behind an expression within a statement -/
theorem outS.st {α β : Type} {R : Wd → α → β → Prop} {σ : St} {ρ : Env} {r : Res α} {k : α → Store → RS} (re : RE K mg w ρ σ) (h : outS K mg T W D (r.st ρ k) w) :
    out K mg T R W σ r w (fun x H1 => ∃ w1 a, w1.H = H1 ∧ Ex w w1 ∧ Ok K mg T w1 ∧ R w1 a x ∧ outS K mg T W D (k a w1.S) w1) := by
  cases r with
  | ok a S => exact fun w' x h1 h2 h3 h4 => ⟨w', a, rfl, h2, h3, h4, by rw [h1]; exact outS.shift h h2⟩
  | exc c d S => exact fun w' C dd v h1 h2 h3 h4 h5 h6 => h w' σ C dd v h1 h2 h3 (re.mono h2) h4 h5 h6
  | bad => exact h
theorem out.wish {α β : Type} {R : Wd → α → β → Prop} {σ : St} {r : Res α} {Q : β → Hp → Prop} (h : out K mg T R W σ r w Q) : out K mg T R (fun c d _ H' => W c d σ H') [] r w Q := by
  cases r <;> exact h
theorem out.noX {α β : Type} {R : Wd → α → β → Prop} {σ σ' : St} {W' : WX} {r : Res α} {Q : β → Hp → Prop} (h : out K mg T R W σ r.noX w Q) : out K mg T R W' σ' r w Q := by
  cases r with
  | ok a S => exact h
  | exc c d S => exact False.elim h
  | bad => exact h
theorem RE.wipe {ρ : Env} {σ : St} (h : RE K mg w ρ σ) : ∀ is : List Nat, RE K mg w (wipeE ρ is) (L2.wipe σ is)
  | [] => h
  | i :: r => RE.unset (RE.wipe h r) i
theorem RE.at {ρ : Env} {σ : St} (h : RE K mg w ρ σ) (e : Ex w w1) : RE K mg w1 ρ σ := h.mono e
end
section
variable {T : Tbl} {X : Cx} {W : WX} {a b c : Expr} {ma mb mc : Env → Store → Res D} {pos : Pos} {es : List Expr} {mes : Env → Store → Res (List D)} {mt : Env → Store → Res Bool}
theorem da_nil : PA X [] (tDA X.K X.mg T W fun _ S => .ok [] S) := pa_weak pa_nil fun σ H Q ⟨w, ρ, e, k, re, q⟩ => by
  subst e
  exact q.give k RVs.nil
theorem da_cons (ha : PE X a (tD X.K X.mg T W ma)) (hr : PA X es (tDA X.K X.mg T W mes)) (hs : starEach (a :: es) X.env = (false, eval a X.env) :: starEach es X.env) :
    PA X (a :: es) (tDA X.K X.mg T W fun ρ S => (ma ρ S).bind fun d S1 => (mes ρ S1).bind fun ds S2 => .ok (d :: ds) S2) := by
  refine pa_weak (pa_cons ha hr hs) fun σ H Q ⟨w, ρ, e, k, re, q⟩ => ?_
  subst e
  refine ⟨w, ρ, rfl, k, re, q.bind.mono ?_⟩
  rintro x H1 ⟨w1, d1, rfl, e1, k1, r1, q1⟩
  refine ⟨w1, ρ, rfl, k1, re.mono e1, q1.bind.mono ?_⟩
  rintro y H2 ⟨w2, d2, rfl, e2, k2, r2, q2⟩
  exact q2.give k2 (RVs.cons (Ex.rv e2 _ _ r1) r2)
theorem da_star {p : Pos} (ha : PE X a (tD X.K X.mg T W ma)) (hr : PA X es (tDA X.K X.mg T W mes)) :
    PA X (.Starred a p :: es) (tDA X.K X.mg T W fun ρ S => (ma ρ S).bind fun d S1 => match itemsOf d S1 with
      | some xs => (mes ρ S1).bind fun ds S2 => .ok (xs ++ ds) S2
      | none => .bad) := by
  refine pa_weak (StX.pa_star ha hr) fun σ H Q ⟨w, ρ, e, k, re, q⟩ => ?_
  subst e
  refine ⟨w, ρ, rfl, k, re, q.bind.mono ?_⟩
  rintro x H1 ⟨w1, d1, rfl, e1, k1, r1, q1⟩
  cases e : itemsOf d1 w1.S with
  | none => rw [e] at q1; exact False.elim q1
  | some xs =>
    rw [e] at q1
    have hs := items_at k1 r1 e
    obtain ⟨p, vs, e3, h3, r3⟩ := hs
    refine ⟨p, vs, e3, h3, w1, ρ, rfl, k1, re.mono e1, q1.bind.mono ?_⟩
    rintro ys H2 ⟨w2, d2, rfl, e2, k2, r2, q2⟩
    exact q2.give k2 ((Ex.rvs e2 _ _ r3).app r2)
theorem de_tup {x1 : Nat} (h : PA X es (tDA X.K X.mg T W mes)) : PE X (.Tuple es x1 pos) (tD X.K X.mg T W fun ρ S => (mes ρ S).bind fun ds S1 => if ds.length ≤ sizeLine then .ok (.tup ds) S1 else .bad) := by
  refine pe_weak (pe_tup h) fun σ H Q ⟨w, ρ, e, k, re, q⟩ => ?_
  subst e
  refine ⟨w, ρ, rfl, k, re, q.bind.mono ?_⟩
  rintro vs H1 ⟨w1, ds, rfl, e1, k1, r1, q1⟩
  split at q1
  · refine ⟨by rw [r1.len]; assumption, fun p hp => ?_⟩
    exact q1 (w1.lay p (.tup vs)) (.ref p) rfl (Ex.lay hp) (k1.lay hp) (rv_newtup hp r1)
  · exact False.elim q1
theorem de_lst (fl : Bool) (h : PA X es (tDA X.K X.mg T W mes)) : PE X (.List es pos) (tD X.K X.mg T W fun ρ S => (mes ρ S).bind fun ds S1 => if ds.length ≤ sizeLine then resL fl ds S1 else .bad) := by
  refine pe_weak (pe_lst h) fun σ H Q ⟨w, ρ, e, k, re, q⟩ => ?_
  subst e
  refine ⟨w, ρ, rfl, k, re, q.bind.mono ?_⟩
  rintro vs H1 ⟨w1, ds, rfl, e1, k1, r1, q1⟩
  split at q1
  · exact ⟨by rw [r1.len]; assumption, fun p hp => q1.newlst k1 r1 p hp⟩
  · exact False.elim q1
theorem de_not (h : PE X a (tD X.K X.mg T W ma)) : PE X (.UnaryOp .Not a pos) (tD X.K X.mg T W fun ρ S => (ma ρ S).bind fun x S1 => (Res.of (truF x S1)).bind fun b S2 => .ok (.bl (!b)) S2) := by
  refine pe_weak (pe_notT h) fun σ H Q ⟨w, ρ, e, k, re, q⟩ => ?_
  subst e
  refine ⟨w, ρ, rfl, k, re, q.bind.mono ?_⟩
  rintro x H1 ⟨w1, d1, rfl, e1, k1, r1, q1⟩
  cases e : truF d1 w1.S with
  | none => rw [e] at q1; exact False.elim q1
  | some p =>
    obtain ⟨c, S⟩ := p
    obtain ⟨t, rfl⟩ := truV_of k1 r1 e
    rw [e] at q1
    exact ⟨c, t, q1.give k1 (rv_bl.mpr rfl)⟩
theorem dt_not (h : PT X a (tDT X.K X.mg T W mt)) : PT X (.UnaryOp .Not a pos) (tDT X.K X.mg T W fun ρ S => (mt ρ S).bind fun b S1 => .ok (!b) S1) := by
  refine pt_weak (pt_not h) fun σ H Q ⟨w, ρ, e, k, re, q⟩ => ?_
  subst e
  refine ⟨w, ρ, rfl, k, re, q.bind.mono ?_⟩
  rintro x H1 ⟨w1, d1, rfl, e1, k1, r1, q1⟩
  exact q1.give k1 (by rw [show x = d1 from r1]; rfl)
theorem de_ite {mu mv : Env → Store → Res D} (hc : PT X c (tDT X.K X.mg T W mt)) (ha : PE X a (tD X.K X.mg T W mu)) (hb : PE X b (tD X.K X.mg T W mv)) :
    PE X (.IfExp c a b pos) (tD X.K X.mg T W fun ρ S => (mt ρ S).bind fun t S1 => if t = true then mu ρ S1 else mv ρ S1) := by
  refine pe_weak (pe_ifExp hc ha hb) fun σ H Q ⟨w, ρ, e, k, re, q⟩ => ?_
  subst e
  refine ⟨w, ρ, rfl, k, re, q.bind.mono ?_⟩
  rintro x H1 ⟨w1, d1, rfl, e1, k1, r1, q1⟩
  have e2 : x = d1 := r1
  subst e2
  by_cases hx : x = true
  · rw [if_pos hx] at q1 ⊢
    exact ⟨w1, ρ, rfl, k1, re.mono e1, q1⟩
  · rw [if_neg hx] at q1 ⊢
    exact ⟨w1, ρ, rfl, k1, re.mono e1, q1⟩
theorem dt_val (h : PE X a (tD X.K X.mg T W ma)) (he : ∀ whole, isTrue a X.env whole = (do let v ← whole; standAt a.pos; holding [v] (truthy v))) :
    PT X a (tDT X.K X.mg T W fun ρ S => (ma ρ S).bind fun x S1 => Res.of (truF x S1)) := by
  refine pt_weak (pt_truth h he) fun σ H Q ⟨w, ρ, e, k, re, q⟩ => ?_
  subst e
  refine ⟨w, ρ, rfl, k, re, q.bind.mono ?_⟩
  rintro x H1 ⟨w1, d1, rfl, e1, k1, r1, q1⟩
  cases e : truF d1 w1.S with
  | none => rw [e] at q1; exact False.elim q1
  | some p =>
    obtain ⟨c, S⟩ := p
    obtain ⟨t, rfl⟩ := truV_of k1 r1 e
    rw [e] at q1
    exact ⟨c, t, q1.of.give k1 rfl rfl⟩
theorem cmpF_bl {op : CmpOp} {x y d : D} {S S' : Store} (h : cmpF op x y S = some (d, S')) : ∃ c, d = .bl c := by
  unfold cmpF at h
  split at h <;> first
    | (cases e : eqB _ _ S with
       | none => rw [e] at h; cases h
       | some c => rw [e] at h; cases h; exact ⟨_, rfl⟩)
    | (cases h; exact ⟨_, rfl⟩)
    | cases h
theorem dt_cmp {op : CmpOp} (ho : OpR X (compareOp op) (rO2 X.K X.mg T (cmpF op))) (ha : PE X a (tD X.K X.mg T W ma)) (hb : PE X b (tD X.K X.mg T W mb)) (hm : behindInMarks op b = false) :
    PT X (.Compare a [op] [b] pos) (tDT X.K X.mg T W fun ρ S => (ma ρ S).bind fun x S1 => (mb ρ S1).bind fun y S2 => (Res.of (cmpF op x y S2)).bind fun z S3 => match z with
      | .bl c => .ok c S3
      | _ => .bad) := by
  refine pt_weak (pt_cmpR ho ha hb hm) fun σ H Q ⟨w, ρ, e, k, re, q⟩ => ?_
  subst e
  refine ⟨w, ρ, rfl, k, re, q.bind.mono ?_⟩
  rintro x H1 ⟨w1, d1, rfl, e1, k1, r1, q1⟩
  refine ⟨w1, ρ, rfl, k1, re.mono e1, q1.bind.mono ?_⟩
  rintro y H2 ⟨w2, d2, rfl, e2, k2, r2, q2⟩
  refine ⟨w2, d1, d2, rfl, k2, Ex.rv e2 _ _ r1, r2, ?_⟩
  have q3 := q2.bind (R := RV X.K X.mg)
  cases e : cmpF op d1 d2 w2.S with
  | none => rw [e] at q3; exact False.elim q3
  | some p =>
    obtain ⟨d, S⟩ := p
    obtain ⟨c, rfl⟩ := cmpF_bl e
    rw [e] at q3
    intro w' z hS ex k' rz
    obtain ⟨w3, d3, h3, e3, k3, r3, q4⟩ := q3 w' z hS ex k' rz
    have ez := rv_bl.mp rz
    subst ez
    refine ⟨c, rfl, ?_⟩
    cases d3 with
    | bl c' =>
      have ec := rv_bl.mp r3
      cases ec
      rw [← h3]
      exact q4.give k3 rfl
    | _ => exact False.elim q4
theorem rv_bl_of {w : Wd} {d : D} {c : Bool} (h : RV X.K X.mg w d (.bl c)) : d = .bl c := by
  cases d with
  | non => cases rv_non.mp h
  | bl b => cases rv_bl.mp h; rfl
  | int b => cases rv_int.mp h
  | str b => cases rv_str.mp h
  | tup b => obtain ⟨_, _, e, _⟩ := rv_tup.mp h; cases e
  | lst b => obtain ⟨_, _, e, _⟩ := rv_lst.mp h; cases e
  | dk _ _ => obtain ⟨_, _, e, _⟩ := rv_dk.mp h; cases e
  | dt _ _ => obtain ⟨_, _, e, _⟩ := rv_dt.mp h; cases e
  | ins _ _ _ => obtain ⟨_, _, _, _, e, _⟩ := rv_ins.mp h; cases e
  | exc _ _ => obtain ⟨_, _, _, _, e, _⟩ := rv_exc.mp h; cases e
  | obj b => cases (rv_obj.mp h).2
  | ty b => cases rv_ty.mp h
  | nam b => obtain ⟨_, _, e⟩ := rv_nam.mp h; cases e
theorem de_cmp2 {op op' : CmpOp} (ho : OpR X (compareOp op) (rO2 X.K X.mg T (cmpF op))) (ho' : OpR X (compareOp op') (rO2 X.K X.mg T (cmpF op'))) (ha : PE X a (tD X.K X.mg T W ma)) (hb : PE X b (tD X.K X.mg T W mb)) (hc : PE X c (tD X.K X.mg T W mc))
    (hm : lastMarks [op, op'] [b, c] = false) : PE X (.Compare a [op, op'] [b, c] pos) (tD X.K X.mg T W fun ρ S => (ma ρ S).bind fun x S1 => (mb ρ S1).bind fun y S2 => (Res.of (cmpF op x y S2)).bind fun z S3 => match z with
      | .bl true => (mc ρ S3).bind fun v S4 => Res.of (cmpF op' y v S4)
      | .bl false => .ok (.bl false) S3
      | _ => .bad) := by
  refine pe_weak (pe_chain ho ho' ha hb hc hm) fun σ H Q ⟨w, ρ, e, k, re, q⟩ => ?_
  subst e
  refine ⟨w, ρ, rfl, k, re, q.bind.mono ?_⟩
  rintro x H1 ⟨w1, d1, rfl, e1, k1, r1, q1⟩
  refine ⟨w1, ρ, rfl, k1, re.mono e1, q1.bind.mono ?_⟩
  rintro y H2 ⟨w2, d2, rfl, e2, k2, r2, q2⟩
  refine ⟨w2, d1, d2, rfl, k2, Ex.rv e2 _ _ r1, r2, ?_⟩
  have q3 := q2.bind (R := RV X.K X.mg)
  cases e : cmpF op d1 d2 w2.S with
  | none => rw [e] at q3; exact False.elim q3
  | some p =>
    obtain ⟨d, S⟩ := p
    obtain ⟨c', rfl⟩ := cmpF_bl e
    rw [e] at q3
    intro w' z hS ex k' rz
    obtain ⟨w3, d3, h3, e3, k3, r3, q4⟩ := q3 w' z hS ex k' rz
    have ez := rv_bl.mp rz
    subst ez
    have ed := rv_bl_of r3
    subst ed
    refine ⟨c', rfl, ?_⟩
    rw [← h3]
    cases c' with
    | false =>
      rw [if_neg Bool.false_ne_true]
      exact q4.give k3 (rv_bl.mpr rfl)
    | true =>
      rw [if_pos rfl]
      refine ⟨w3, ρ, rfl, k3, ((re.mono e1).mono e2).mono e3, q4.bind.mono ?_⟩
      rintro v H4 ⟨w4, d4, rfl, e4, k4, r4, q5⟩
      exact ⟨w4, d2, d4, rfl, k4, Ex.rv e4 _ _ (Ex.rv e3 _ _ r2), r4, q5.of⟩
theorem dt_cmp2 {op op' : CmpOp} (ho : OpR X (compareOp op) (rO2 X.K X.mg T (cmpF op))) (ho' : OpR X (compareOp op') (rO2 X.K X.mg T (cmpF op'))) (ha : PE X a (tD X.K X.mg T W ma)) (hb : PE X b (tD X.K X.mg T W mb)) (hc : PE X c (tD X.K X.mg T W mc))
    (hm : lastMarks [op, op'] [b, c] = false) : PT X (.Compare a [op, op'] [b, c] pos) (tDT X.K X.mg T W fun ρ S => (ma ρ S).bind fun x S1 => (mb ρ S1).bind fun y S2 => (Res.of (cmpF op x y S2)).bind fun z S3 => match z with
      | .bl true => (mc ρ S3).bind fun v S4 => (Res.of (cmpF op' y v S4)).bind fun t S5 => match t with
        | .bl c => .ok c S5
        | _ => .bad
      | .bl false => .ok false S3
      | _ => .bad) := by
  refine pt_weak (pt_chain ho ho' ha hb hc hm) fun σ H Q ⟨w, ρ, e, k, re, q⟩ => ?_
  subst e
  refine ⟨w, ρ, rfl, k, re, q.bind.mono ?_⟩
  rintro x H1 ⟨w1, d1, rfl, e1, k1, r1, q1⟩
  refine ⟨w1, ρ, rfl, k1, re.mono e1, q1.bind.mono ?_⟩
  rintro y H2 ⟨w2, d2, rfl, e2, k2, r2, q2⟩
  refine ⟨w2, d1, d2, rfl, k2, Ex.rv e2 _ _ r1, r2, ?_⟩
  have q3 := q2.bind (R := RV X.K X.mg)
  cases e : cmpF op d1 d2 w2.S with
  | none => rw [e] at q3; exact False.elim q3
  | some p =>
    obtain ⟨d, S⟩ := p
    obtain ⟨c', rfl⟩ := cmpF_bl e
    rw [e] at q3
    intro w' z hS ex k' rz
    obtain ⟨w3, d3, h3, e3, k3, r3, q4⟩ := q3 w' z hS ex k' rz
    have ez := rv_bl.mp rz
    subst ez
    have ed := rv_bl_of r3
    subst ed
    refine ⟨c', rfl, ?_⟩
    rw [← h3]
    cases c' with
    | false =>
      rw [if_neg Bool.false_ne_true]
      exact ⟨false, rfl, q4.give k3 rfl⟩
    | true =>
      rw [if_pos rfl]
      refine ⟨w3, ρ, rfl, k3, ((re.mono e1).mono e2).mono e3, q4.bind.mono ?_⟩
      rintro v H4 ⟨w4, d4, rfl, e4, k4, r4, q5⟩
      refine ⟨w4, d2, d4, rfl, k4, Ex.rv e4 _ _ (Ex.rv e3 _ _ r2), r4, ?_⟩
      have q6 := q5.bind (R := RV X.K X.mg)
      cases e5 : cmpF op' d2 d4 w4.S with
      | none => rw [e5] at q6; exact False.elim q6
      | some p =>
        obtain ⟨d, S⟩ := p
        obtain ⟨c2, rfl⟩ := cmpF_bl e5
        rw [e5] at q6
        intro w5 z hS ex k' rz
        obtain ⟨w6, d6, h6, e6, k6, r6, q7⟩ := q6 w5 z hS ex k' rz
        have ez := rv_bl.mp rz
        subst ez
        have ed := rv_bl_of r6
        subst ed
        refine ⟨c2, rfl, ?_⟩
        rw [← h6]
        exact q7.give k6 rfl
theorem de_idx (hs : PlainIx b) (ha : PE X a (tD X.K X.mg T W ma)) (hb : PE X b (tD X.K X.mg T W mb)) :
    PE X (.Subscript a b pos) (tD X.K X.mg T W fun ρ S => (ma ρ S).bind fun x S1 => (mb ρ S1).bind fun y S2 => Res.of (idxF x y S2)) := by
  refine pe_weak (pe_ix (ixR_idx (T := T)) ha hb hs) fun σ H Q ⟨w, ρ, e, k, re, q⟩ => ?_
  subst e
  refine ⟨w, ρ, rfl, k, re, q.bind.mono ?_⟩
  rintro x H1 ⟨w1, d1, rfl, e1, k1, r1, q1⟩
  refine ⟨w1, ρ, rfl, k1, re.mono e1, q1.bind.mono ?_⟩
  rintro y H2 ⟨w2, d2, rfl, e2, k2, r2, q2⟩
  exact ⟨w2, d1, d2, rfl, k2, Ex.rv e2 _ _ r1, r2, q2.of⟩
end
end Tu
end L2
set_option Elab.async false
set_option linter.all false
set_option maxRecDepth 100000
set_option maxHeartbeats 4000000
/-! TB10: calls, what is walked, comprehensions, targets, loops, statements. -/
namespace L2
namespace Tu
open PySem PySem.Spec PyProof.Rows
open Classical
section
variable {T : Tbl} {X : Cx} {W : WX} {a b c : Expr} {ma mb mc : Env → Store → Res D} {pos p : Pos} {es : List Expr} {mes : Env → Store → Res (List D)} {mt : Env → Store → Res Bool} {x : Str} {n : Nat} {f : Addr}
/-! ### calls -/
theorem de_fn {m : List D → Store → Res D} (F : FnG X.prog X.w X.K X.mg X.base n f (spU X.K X.mg T m)) (hr : Room n X.A) (hg : X.A.guards = some []) (tk : Takes X W) (gl : Gl X x) (hm : X.mg x = some (.ref f)) (hk : PySem.W.keepIn X.K (.ref f) = true)
    (ha : PA X (a :: es) (tDA X.K X.mg T W mes)) (hdb : (x == ("__debug__" : Str)) = false) (he : starEach (a :: es) X.env = (false, eval a X.env) :: starEach es X.env) (hpl : (backTo pos (starEach es X.env)).any (·.1) = false) :
    PE X (.Call (.Name x p) (a :: es) [] pos) (tD X.K X.mg T W fun ρ S => (mes ρ S).bind fun ds S1 => m ds S1) := by
  refine ⟨fun pins s σ H Q I h => ?_⟩
  obtain ⟨w, ρ, e, k, re, q⟩ := h
  subst e
  refine wpAny_Call_Name_kw (ld_glob I gl hm ?_ hdb)
  refine PySem.W.callWith_K (h₀ := X.base) I.ok.mod.kin hk (thn (ha.run pos pins s σ w.H _ I ⟨w, ρ, rfl, k, re, q.bind⟩) ?_) he hpl
  rintro us s1 ⟨vs, H1, I1, r, w1, ds, rfl, e1, k1, r1, q1⟩
  exact ⟨I1.kIn, run_gS F hr hg tk I1 r ⟨w1, ds, rfl, k1, r1, q1.wish⟩⟩
theorem de_fn0 {m : List D → Store → Res D} (F : FnG X.prog X.w X.K X.mg X.base n f (spU X.K X.mg T m)) (hr : Room n X.A) (hg : X.A.guards = some []) (tk : Takes X W) (gl : Gl X x) (hm : X.mg x = some (.ref f)) (hk : PySem.W.keepIn X.K (.ref f) = true)
    (hdb : (x == ("__debug__" : Str)) = false) : PE X (.Call (.Name x p) [] [] pos) (tD X.K X.mg T W fun ρ S => (Res.ok [] S : Res (List D)).bind fun ds S1 => m ds S1) := by
  refine ⟨fun pins s σ H Q I h => ?_⟩
  obtain ⟨w, ρ, e, k, re, q⟩ := h
  subst e
  refine wpAny_Call_Name_kw (ld_glob I gl hm ?_ hdb)
  exact PySem.W.callWith_K0 I.kIn hk (run_gS (us := []) (vs := []) F hr hg tk I .nil ⟨w, [], rfl, k, RVs.nil, q.wish⟩)
/-- a built-in function or type, by its rule -/
theorem de_biB {id : String} {g : List D → Store → Option (D × Store)} (hc : CallR X (.builtin id) (rON X.K X.mg T g)) (gl : Gl X x) (hm : X.mg x = none) (hv : bootBuiltins x = some (.builtin id)) (ha : PA X (a :: es) (tDA X.K X.mg T W mes)) (hn : x ≠ "__name__") (hdb : (x == ("__debug__" : Str)) = false)
    (he : starEach (a :: es) X.env = (false, eval a X.env) :: starEach es X.env) (hpl : (backTo pos (starEach es X.env)).any (·.1) = false) : PE X (.Call (.Name x p) (a :: es) [] pos) (tD X.K X.mg T W fun ρ S => (mes ρ S).bind fun ds S1 => Res.of (g ds S1)) := by
  refine pe_weak (pe_callB hc gl hm hv ha hn hdb he hpl) fun σ H Q ⟨w, ρ, e, k, re, q⟩ => ?_
  subst e
  refine ⟨w, ρ, rfl, k, re, q.bind.mono ?_⟩
  rintro vs H1 ⟨w1, ds, rfl, e1, k1, r1, q1⟩
  exact ⟨w1, ds, rfl, k1, r1, q1.of⟩
theorem de_biT {id : String} {g : List D → Store → Option (D × Store)} (hc : CallR X (.type id) (rON X.K X.mg T g)) (gl : Gl X x) (hm : X.mg x = none) (hv : bootBuiltins x = some (.type id)) (ha : PA X (a :: es) (tDA X.K X.mg T W mes)) (hn : x ≠ "__name__") (hdb : (x == ("__debug__" : Str)) = false)
    (he : starEach (a :: es) X.env = (false, eval a X.env) :: starEach es X.env) (hpl : (backTo pos (starEach es X.env)).any (·.1) = false) : PE X (.Call (.Name x p) (a :: es) [] pos) (tD X.K X.mg T W fun ρ S => (mes ρ S).bind fun ds S1 => Res.of (g ds S1)) := by
  refine pe_weak (pe_callTy hc gl hm hv ha hn hdb he hpl) fun σ H Q ⟨w, ρ, e, k, re, q⟩ => ?_
  subst e
  refine ⟨w, ρ, rfl, k, re, q.bind.mono ?_⟩
  rintro vs H1 ⟨w1, ds, rfl, e1, k1, r1, q1⟩
  exact ⟨w1, ds, rfl, k1, r1, q1.of⟩
/-- a method of a built-in type -/
theorem de_mb {o : Expr} {m : Str} {apos : Pos} {TT id : String} {g : D → List D → Store → Option (D × Store)} (pa : PlainAttrs TT) (slot : Slot TT m id) (hty : typeOf (.builtin id) = pure (.type "method_descriptor")) (hmt : MtR X id (rOM X.K X.mg T g))
    (hT : ∀ w d v, Ok X.K X.mg T w → RV X.K X.mg w d v → isT m d w.S = true → tyV X.K TT v w.H) (ho : PE X o (tD X.K X.mg T W ma)) (ha : PA X (a :: es) (tDA X.K X.mg T W mes))
    (hbase : attributeBase o m X.env (eval o X.env) = eval o X.env)
    (hfew : ((backTo pos (starEach (a :: es) X.env)).all (fun x => !x.1) && (backToKw pos (keywordEach [] X.env)).all (fun x => x.1.isSome) && decide ((a :: es).length + ([] : List Keyword).length + (if ([] : List Keyword).isEmpty then 0 else 1) < 30)) = true)
    (hline : (apos.endLine == pos.line) = true) (he : starEach (a :: es) X.env = (false, eval a X.env) :: starEach es X.env) (hpl : (backTo pos (starEach es X.env)).any (·.1) = false) :
    PE X (.Call (.Attribute o m apos) (a :: es) [] pos) (tD X.K X.mg T W fun ρ S => (ma ρ S).bind fun x S1 => if isT m x S1 = true then (mes ρ S1).bind fun ds S2 => Res.of (g x ds S2) else .bad) := by
  refine pe_weak (pe_bm pa slot hty hmt ho ha hbase hfew hline he hpl) fun σ H Q ⟨w, ρ, e, k, re, q⟩ => ?_
  subst e
  refine ⟨w, ρ, rfl, k, re, q.bind.mono ?_⟩
  rintro v H1 ⟨w1, d, rfl, e1, k1, r1, q1⟩
  split at q1
  · rename_i ht
    refine ⟨hT w1 d v k1 r1 ht, w1, ρ, rfl, k1, re.mono e1, q1.bind.mono ?_⟩
    rintro vs H2 ⟨w2, ds, rfl, e2, k2, r2, q2⟩
    exact ⟨w2, d, ds, rfl, k2, Ex.rv e2 _ _ r1, r2, q2.of⟩
  · exact False.elim q1

/-! ### what is walked -/
theorem rvs_getD {w : Wd} {ds : List D} {vs : List V} {i : Nat} {d : D} {x : V} (r : RVs X.K X.mg w ds vs) (h1 : ds[i]? = some d) (h2 : vs[i]? = some x) : RV X.K X.mg w d x := by
  obtain ⟨v, e, rv⟩ := r.get h1
  rw [e] at h2
  cases h2
  exact rv
theorem rvs_some {w : Wd} {ds : List D} {vs : List V} {i : Nat} (r : RVs X.K X.mg w ds vs) (h : i < ds.length) : ∃ x, vs[i]? = some x := by
  obtain ⟨v, e, _⟩ := r.get (i := i) (d := ds[i]) (by simp [h])
  exact ⟨v, e⟩
theorem src_tup {w : Wd} {ds : List D} {vs : List V} {a : Addr} (h : SqT X.K w.H a vs) (r : RVs X.K X.mg w ds vs) : SrcOk X.K X.mg T w ⟨ds, fun _ => True⟩ (Itt X.K a) where
  stop := fun w' e _ _ => ⟨vs, e.rd h, by rw [r.len]; exact Nat.le_refl _⟩
  go := fun w' i e _ _ hi => let ⟨x, hx⟩ := rvs_some r hi; ⟨vs, x, e.rd h, hx⟩
  yld := fun w' i d x H' e k _ hd y => by
    obtain ⟨rfl, y⟩ := y
    exact ⟨w', rfl, rfl, Ex.refl w', k, rvs_getD (Ex.rvs e _ _ r) hd (y vs (e.rd h))⟩
/-- a list that is walked, read at any later moment -/
theorem lst_later {w w' : Wd} {d : D} {xs : List D} {p : Addr} (k : Ok X.K X.mg T w) (r : RV X.K X.mg w d (.ref p)) (h : lstOf d w.S = some xs) (e : Ex w w') (k' : Ok X.K X.mg T w') (hs : stays d xs w'.S) : ∃ vs, SqL X.K w'.H p vs ∧ RVs X.K X.mg w' xs vs := by
  have r' := Ex.rv e _ _ r
  have h2 : lstOf d w'.S = some xs := by
    have h' := lstOf_at h
    cases d <;> simp only [D.at, Option.some.injEq, Cell.lst.injEq, reduceCtorEq] at h'
    · subst h'; rfl
    · show lstOf (.obj _) w'.S = _
      unfold lstOf
      rw [show D.at w'.S (.obj _) = some (.lst xs) from hs]
  obtain ⟨a, vs, e1, h1, r1⟩ := at_lst k' r' (lstOf_at h2)
  cases e1
  exact ⟨vs, h1, r1⟩
theorem src_lst {w : Wd} {d : D} {ds : List D} {p : Addr} (k0 : Ok X.K X.mg T w) (r0 : RV X.K X.mg w d (.ref p)) (h0 : lstOf d w.S = some ds) : SrcOk X.K X.mg T w ⟨ds, stays d ds⟩ (Itl X.K p) where
  stop := fun w' e k hs => by
    obtain ⟨vs, h1, r1⟩ := lst_later k0 r0 h0 e k hs
    exact ⟨vs, h1, by rw [r1.len]; exact Nat.le_refl _⟩
  go := fun w' i e k hs hi => by
    obtain ⟨vs, h1, r1⟩ := lst_later k0 r0 h0 e k hs
    obtain ⟨x, hx⟩ := rvs_some r1 hi
    exact ⟨vs, x, h1, hx⟩
  yld := fun w' i d x H' e k hs hd y => by
    obtain ⟨vs, h1, r1⟩ := lst_later k0 r0 h0 e k hs
    obtain ⟨rfl, y⟩ := y
    exact ⟨w', rfl, rfl, Ex.refl w', k, rvs_getD r1 hd (y vs h1)⟩
theorem src_rng {w : Wd} {j : Int} : SrcOk X.K X.mg T w ⟨(List.range j.toNat).map fun (i : Nat) => D.int (i : Int), fun _ => True⟩ (Itr 0 j.toNat) where
  stop := fun w' e _ _ => by
    show j.toNat ≤ _
    simp
  go := fun w' i e _ _ hi => by
    show i < j.toNat
    simpa using hi
  yld := fun w' i d x H' e k _ hd y => by
    obtain ⟨rfl, rfl⟩ := y
    refine ⟨w', rfl, rfl, Ex.refl w', k, ?_⟩
    have hd : ((List.range j.toNat).map fun (i : Nat) => D.int (i : Int))[i]? = some d := hd
    rw [List.getElem?_map] at hd
    by_cases hi : i < j.toNat
    · rw [List.getElem?_range hi] at hd
      cases hd
      exact rv_int.mpr (by simp)
    · rw [List.getElem?_eq_none (by simpa using hi)] at hd
      cases hd
theorem enumFrom_get : ∀ (ds : List D) (n i : Nat), (enumFrom n ds)[i]? = (ds[i]?).map fun d => D.tup [.int ((n + i : Nat) : Int), d]
  | [], n, i => by simp [enumFrom]
  | d :: ds, n, 0 => by simp [enumFrom]
  | d :: ds, n, i + 1 => by
    simp only [enumFrom, List.getElem?_cons_succ]
    rw [enumFrom_get ds (n + 1) i, show n + 1 + i = n + (i + 1) by omega]
theorem enumFrom_len (ds : List D) (n : Nat) : (enumFrom n ds).length = ds.length := by
  induction ds generalizing n with
  | nil => rfl
  | cons d ds ih => simp [enumFrom, ih]
theorem src_enu {w : Wd} {d : D} {ds : List D} {p : Addr} (k0 : Ok X.K X.mg T w) (r0 : RV X.K X.mg w d (.ref p)) (h0 : lstOf d w.S = some ds) : SrcOk X.K X.mg T w ⟨enumFrom 0 ds, stays d ds⟩ (Ite X.K p) where
  stop := fun w' e k hs => by
    obtain ⟨vs, h1, r1⟩ := lst_later k0 r0 h0 e k hs
    exact ⟨vs, h1, by rw [r1.len, enumFrom_len]; exact Nat.le_refl _⟩
  go := fun w' i e k hs hi => by
    obtain ⟨vs, h1, r1⟩ := lst_later k0 r0 h0 e k hs
    obtain ⟨x, hx⟩ := rvs_some r1 (by rw [enumFrom_len] at hi; exact hi)
    exact ⟨vs, x, h1, hx⟩
  yld := fun w' i d x H' e k hs hd y => by
    obtain ⟨vs, h1, r1⟩ := lst_later k0 r0 h0 e k hs
    obtain ⟨T, z, rfl, hT, rfl, y⟩ := y
    have hd : (enumFrom 0 ds)[i]? = some d := hd
    rw [enumFrom_get] at hd
    cases e2 : ds[i]? with
    | none => rw [e2] at hd; cases hd
    | some d0 =>
      rw [e2] at hd
      cases hd
      have rz := rvs_getD r1 e2 (y vs h1)
      refine ⟨w'.lay T _, rfl, rfl, Ex.lay hT, k.lay hT, rv_newtup hT (RVs.cons (rv_int.mpr ?_) (RVs.cons rz RVs.nil))⟩
      simp
theorem di_val {tg : Expr} (ha : PE X a (tD X.K X.mg T W ma)) : PI X tg a (tDI X.K X.mg T W fun ρ S => (ma ρ S).bind srcV) := by
  refine ⟨fun pins s σ H R I h => ?_⟩
  obtain ⟨w, ρ, e, k, re, q⟩ := h
  subst e
  dsimp only at q
  cases e : ma ρ w.S with
  | bad => rw [e] at q; exact False.elim q
  | exc c d S =>
    rw [e] at q
    refine (pi_tup ha).run pins s σ w.H R I ⟨w, ρ, rfl, k, re, ?_⟩
    rw [e]
    exact q
  | ok d S1 =>
    rw [e] at q
    dsimp only [Res.bind, srcV] at q
    cases ei : itemsOf d S1 with
    | none => rw [ei] at q; exact False.elim q
    | some xs =>
      rw [ei] at q
      dsimp only at q
      by_cases ht : ∃ ys, d = .tup ys
      · obtain ⟨ys, rfl⟩ := ht
        cases ei
        refine (pi_tup ha).run pins s σ w.H R I ⟨w, ρ, rfl, k, re, ?_⟩
        rw [e]
        intro w' v hS ex k' rv
        obtain ⟨p, vs, rfl, h2, r2⟩ := rv_tup.mp rv
        exact ⟨p, rfl, ⟨vs, h2⟩, q w' (Itt X.K p) hS ex k' (src_tup h2 r2)⟩
      · have el : lstOf d S1 = some xs := by
          unfold itemsOf at ei
          split at ei
          · exact absurd ⟨_, rfl⟩ ht
          · unfold lstOf
            exact ei
        refine (pi_list ha).run pins s σ w.H R I ⟨w, ρ, rfl, k, re, ?_⟩
        rw [e]
        intro w' v hS ex k' rv
        rw [← hS] at el
        obtain ⟨p, vs, rfl, h2, r2⟩ := at_lst k' rv (lstOf_at el)
        exact ⟨p, rfl, ⟨vs, h2⟩, q w' _ hS ex k' (src_lst k' rv el)⟩
theorem da_one (ha : PE X a (tD X.K X.mg T W ma)) (hs : starEach [a] X.env = [(false, eval a X.env)]) : PA X [a] (tDA X.K X.mg T W fun ρ S => (ma ρ S).bind fun d S1 => .ok [d] S1) := by
  refine pa_weak (pa_cons ha pa_nil hs) fun σ H Q ⟨w, ρ, e, k, re, q⟩ => ?_
  subst e
  refine ⟨w, ρ, rfl, k, re, q.bind.mono ?_⟩
  rintro x H1 ⟨w1, d1, rfl, e1, k1, r1, q1⟩
  exact q1.give k1 (RVs.cons r1 RVs.nil)
theorem di_rng {tg : Expr} (gl : Gl X "range") (hm : X.mg "range" = none) (ha : PE X a (tD X.K X.mg T W ma)) (hs : starEach [a] X.env = [(false, eval a X.env)]) :
    PI X tg (.Call (.Name "range" p) [a] [] pos) (tDI X.K X.mg T W fun ρ S => (ma ρ S).bind srcR) := by
  refine ⟨fun pins s σ H R I h => (pi_range1 gl hm (da_one ha hs) hs).run pins s σ H R I ?_⟩
  obtain ⟨w, ρ, e, k, re, q⟩ := h
  subst e
  refine ⟨w, ρ, rfl, k, re, ?_⟩
  dsimp only at q
  dsimp only
  cases e : ma ρ w.S with
  | bad => rw [e] at q; exact False.elim q
  | exc c d S => rw [e] at q; exact q
  | ok d S1 =>
    rw [e] at q
    cases d with
    | int j =>
      intro w' v hS ex k' rv
      obtain ⟨y, rfl, ry⟩ := rv.one
      have ey := rv_int.mp ry
      subst ey
      dsimp only [Res.bind, srcR] at q
      split at q
      · exact ⟨j, rfl, by omega, by omega, q w' _ hS ex k' src_rng⟩
      · exact False.elim q
    | _ => exact False.elim q
theorem di_enu {elts : List Expr} {kk : Nat} {tpos : Pos} (gl : Gl X "enumerate") (hm : X.mg "enumerate" = none) (ha : PE X a (tD X.K X.mg T W ma)) (hs : starEach [a] X.env = [(false, eval a X.env)]) :
    PI X (.Tuple elts kk tpos) (.Call (.Name "enumerate" p) [a] [] pos) (tDI X.K X.mg T W fun ρ S => (ma ρ S).bind srcE) := by
  refine ⟨fun pins s σ H R I h => (pi_enum gl hm (da_one ha hs) hs).run pins s σ H R I ?_⟩
  obtain ⟨w, ρ, e, k, re, q⟩ := h
  subst e
  refine ⟨w, ρ, rfl, k, re, ?_⟩
  dsimp only at q
  dsimp only
  cases e : ma ρ w.S with
  | bad => rw [e] at q; exact False.elim q
  | exc c d S => rw [e] at q; exact q
  | ok d S1 =>
    rw [e] at q
    dsimp only [Res.bind, srcE] at q
    cases el : lstOf d S1 with
    | none => rw [el] at q; exact False.elim q
    | some xs =>
      rw [el] at q
      intro w' v hS ex k' rv
      obtain ⟨y, rfl, ry⟩ := rv.one
      rw [← hS] at el
      obtain ⟨p, vs, rfl, h2, r2⟩ := at_lst k' ry (lstOf_at el)
      exact ⟨_, vs, rfl, h2, q w' _ hS ex k' (src_enu k' ry el)⟩
end
end Tu
end L2
set_option Elab.async false
set_option linter.all false
set_option maxRecDepth 100000
set_option maxHeartbeats 4000000
/-! TB11: targets, comprehensions, loops, statements. -/
namespace L2
namespace Tu
open PySem PySem.Spec PyProof.Rows
open Classical
abbrev WF : WX := fun _ _ _ _ => False
section
variable {T : Tbl} {X : Cx} {W : WX} {a b c : Expr} {pos p : Pos}
/-! ### targets -/
theorem dg_name {i : Nat} {x : Str} (hN : X.N.Nodup) (hi : X.N[i]? = some x) (hx : Loc X.env.scope x) (hf : X.fn x = true ∨ X.env.scope.names.lookup x = some .local) :
    PG X (.Name x pos) (tDG X.K X.mg T [i] fun d ρ => some (ρ.set i (some d))) := by
  refine ⟨fun pins s σ H v u Q I r h => (pg_name hN hi hx hf).run pins s σ H v u Q I r ?_⟩
  obtain ⟨w, ρ, d, e, k, re, rv, q⟩ := h
  subst e
  exact q _ (re.set rv) ⟨by simp, fun j hj => List.getElem?_set_ne (by intro e; exact hj (by simp [e]))⟩
theorem dgs_nil : PGs X [] (tDGs X.K X.mg T [] fun ds ρ => match ds with | [] => some ρ | _ => none) := by
  refine ⟨fun pins s σ H vs us Q I r h => pgs_nil.run pins s σ H vs us Q I r ?_⟩
  obtain ⟨w, ρ, ds, e, k, re, rv, q⟩ := h
  subst e
  cases ds with
  | nil => exact ⟨rv.inv0, q σ re ⟨rfl, fun _ _ => rfl⟩⟩
  | cons d ds => exact False.elim q
theorem dgs_cons {e : Expr} {es : List Expr} {is js : List Nat} {m : D → Env → Option Env} {ms : List D → Env → Option Env} (h1 : PG X e (tDG X.K X.mg T is m)) (h2 : PGs X es (tDGs X.K X.mg T js ms))
    (hs : (assignEach (e :: es) X.env).map (·.2) = assign e X.env :: (assignEach es X.env).map (·.2)) :
    PGs X (e :: es) (tDGs X.K X.mg T (is ++ js) fun ds ρ => match ds with | d :: ds => (m d ρ).bind fun ρ' => ms ds ρ' | [] => none) := by
  refine ⟨fun pins s σ H vs us Q I r h => (pgs_cons h1 h2 hs).run pins s σ H vs us Q I r ?_⟩
  obtain ⟨w, ρ, ds, e, k, re, rv, q⟩ := h
  subst e
  cases ds with
  | nil => exact False.elim q
  | cons d ds =>
    obtain ⟨v, vs', rfl, r1, r2⟩ := rv.inv
    dsimp only at q
    cases e : m d ρ with
    | none => rw [e] at q; exact False.elim q
    | some ρ' =>
      rw [e] at q
      refine ⟨v, vs', rfl, w, ρ, d, rfl, k, re, r1, ?_⟩
      rw [e]
      intro σ' re' hk
      refine ⟨w, ρ', ds, rfl, k, re', r2, ?_⟩
      dsimp only [Option.bind] at q
      cases e2 : ms ds ρ' with
      | none => rw [e2] at q; exact False.elim q
      | some ρ2 =>
        rw [e2] at q
        exact fun σ2 re2 hk2 => q σ2 re2 ⟨hk2.1.trans hk.1, fun j hj => (hk2.2 j fun z => hj (List.mem_append_right _ z)).trans (hk.2 j fun z => hj (List.mem_append_left _ z))⟩
theorem dg_tup {es : List Expr} {kk n : Nat} {is : List Nat} {ms : List D → Env → Option Env} (hc : X.calm = true) (h : PGs X es (tDGs X.K X.mg T is ms)) (hn : (assignEach es X.env).length = n) (hst : (assignEach es X.env).findIdx? (·.1) = none)
    (hl : ∀ ds ρ ρ', ms ds ρ = some ρ' → ds.length = n) : PG X (.Tuple es kk pos) (tDG X.K X.mg T is fun d ρ => match d with | .tup ds => ms ds ρ | _ => none) := by
  refine ⟨fun pins s σ H v u Q I r q => (pg_tup hc h hn hst).run pins s σ H v u Q I r ?_⟩
  obtain ⟨w, ρ, d, e, k, re, rv, q⟩ := q
  subst e
  cases d with
  | tup ds =>
    obtain ⟨t, vs, rfl, h1, r1⟩ := rv_tup.mp rv
    dsimp only at q
    cases e : ms ds ρ with
    | none => rw [e] at q; exact False.elim q
    | some ρ' =>
      rw [e] at q
      refine ⟨t, vs, rfl, h1, by rw [r1.len]; exact hl ds ρ ρ' e, w, ρ, ds, rfl, k, re, r1, ?_⟩
      rw [e]
      exact q
  | _ => exact False.elim q

/-! ### list comprehensions -/
section
variable {K : PySem.W.Frag} {mg : Str → Option Value} {T : Tbl}
/-- a hidden list is there now, a cell or for ever so -/
theorem out.shown {W : WX} {σ : St} {fl : Bool} {w0 w : Wd} {p : Addr} {xs : List D} {vs : List V} {Q : V → Hp → Prop} (hp : w0.H p = none) (e : Ex w0 w) (k : Ok K mg T w) (ha : w.H p = some (.lst vs)) (hb : w.B p) (hn : NC w p) (r : RVs K mg w xs vs)
    (h : out K mg T (RV K mg) W σ (resL fl xs w.S) w0 Q) : Q (.ref p) w.H := by
  cases fl with
  | true =>
    obtain ⟨kk, rr⟩ := k.own (c := .lst xs) hb hn ⟨vs, ha, r⟩
    exact h (w.own p (.lst xs)) (.ref p) rfl (Ex.own hp e) kk rr
  | false =>
    obtain ⟨kk, _, rs⟩ := k.bare (p := p)
    exact h (w.bare p) (.ref p) rfl (Ex.bare hp e) kk (rv_lst.mpr ⟨p, vs, rfl, .inl ⟨ha, hn, fun z => z.2 rfl⟩, rs _ _ r⟩)
theorem out.shownK {W : WX} {σ : St} {fl : Bool} {w0 w : Wd} {p : Addr} {ks : List Key} {xs : List D} {vs : List (Key × V)} {Q : V → Hp → Prop} (hp : w0.H p = none) (e : Ex w0 w) (k : Ok K mg T w) (ha : w.H p = some (.dK vs)) (hb : w.B p) (hn : NC w p) (hk : vs.map (·.1) = ks) (r : RVs K mg w xs (vs.map (·.2)))
    (h : out K mg T (RV K mg) W σ (resK fl ks xs w.S) w0 Q) : Q (.ref p) w.H := by
  cases fl with
  | true =>
    obtain ⟨kk, rr⟩ := k.own (c := .dk ks xs) hb hn ⟨vs, ha, hk, r⟩
    exact h (w.own p (.dk ks xs)) (.ref p) rfl (Ex.own hp e) kk rr
  | false =>
    obtain ⟨kk, _, rs⟩ := k.bare (p := p)
    exact h (w.bare p) (.ref p) rfl (Ex.bare hp e) kk (rv_dk.mpr ⟨p, vs, rfl, .inl ⟨ha, hn, fun z => z.2 rfl⟩, hk, rs _ _ r⟩)
/-- what is hidden stays so -/
theorem Ex.kept {w w' : Wd} (e : Ex w w') {p : Addr} {vs : List V} (ha : w.H p = some (.lst vs)) (hb : w.B p) (hn : NC w p) : w'.H p = some (.lst vs) ∧ w'.B p ∧ NC w' p := by
  obtain ⟨o, h1, h2⟩ := e.frame p _ ha nt_lst hn
  have := h2.eq (fun _ z => by cases z) (fun _ z => by cases z)
  subst this
  exact ⟨h1, (e.bar p _ ha nt_lst).mpr hb, e.nc ha nt_lst hn⟩
end
theorem wipe_eq {σ σ' : St} {is vs : List Nat} (hl : σ'.length = σ.length) (h : ∀ j, j ∉ is → σ'[j]? = (L2.wipe σ vs)[j]?) (hs : ∀ i ∈ is, i ∈ vs) : L2.wipe σ' vs = L2.wipe σ vs := by
  apply List.ext_getElem?
  intro j
  by_cases hj : j ∈ vs
  · by_cases hlt : j < σ.length
    · rw [wipe_in hj (by omega), wipe_in hj hlt]
    · rw [List.getElem?_eq_none (by rw [wipe_length]; omega), List.getElem?_eq_none (by rw [wipe_length]; omega)]
  · rw [wipe_out hj, h j fun z => hj (hs j z)]
where wipe_in {τ : St} {j : Nat} : ∀ {vs : List Nat}, j ∈ vs → j < τ.length → (L2.wipe τ vs)[j]? = some none
  | [], h, _ => by simp at h
  | v :: vs, h, hl => by
    unfold L2.wipe
    by_cases e : v = j
    · subst e
      exact List.getElem?_set_self (by rw [wipe_length]; exact hl)
    · rw [List.getElem?_set_ne e]
      exact wipe_in ((List.mem_cons.mp h).resolve_left fun z => e z.symm) hl
theorem lc_go {J : It} {s : Src} {w1 : Wd} {ρ : Env} {σ : St} {vs is : List Nat} {fl : Bool} {mg_ : D → Env → Option Env} {mt : Env → Store → Res Bool} {me : Env → Store → Res D} {Q : VK} {Dp : Addr}
    (hD : w1.H Dp = none) (k1 : Ok X.K X.mg T w1) (re : RE X.K X.mg w1 ρ σ) (so : SrcOk X.K X.mg T w1 s J) (hs : ∀ i ∈ is, i ∈ vs)
    (q : out X.K X.mg T (RV X.K X.mg) W σ ((lcRun s.same (lcBody vs mg_ mt me ρ) s.items [] w1.S).bind fun ds S5 => resL fl ds S5) w1 Q) :
    ∃ Wn : Nat → Nat → Hp → Prop, (∃ m, Wn 0 m (upd w1.H Dp (.lst []))) ∧ ∀ i m H, Wn i m H →
      (J.stop i H ∧ Q (.ref Dp) H) ∨ (J.go i H ∧ ∃ Nx : Hp → Prop, (∀ H', Nx H' → ∃ m', m' < m ∧ Wn (i + 1) m' H') ∧ ∀ x H', J.yld i H x H' → tDG X.K X.mg T is mg_ x (L2.wipe σ vs) H' fun σ2 H2 => L2.wipe σ2 vs = L2.wipe σ vs ∧ tDT X.K X.mg T WF mt σ2 H2 fun b H3 =>
        if b = true then tD X.K X.mg T WF me σ2 H3 fun y H4 => ∃ acc, H4 Dp = some (.lst acc) ∧ acc.length < sizeLine ∧ Nx (upd H4 Dp (.lst (acc ++ [y]))) else Nx H3) := by
  let At : Nat → Hp → Prop := fun i H => ∃ (w2 : Wd) (acc : List D) (us : List V), w2.H = H ∧ Ok X.K X.mg T w2 ∧ Ex w1 w2 ∧ w2.H Dp = some (.lst us) ∧ RVs X.K X.mg w2 acc us ∧ w2.B Dp ∧ NC w2 Dp ∧
    out X.K X.mg T (RV X.K X.mg) W σ ((lcRun s.same (lcBody vs mg_ mt me ρ) (s.items.drop i) acc w2.S).bind fun ds S5 => resL fl ds S5) w1 Q
  refine ⟨fun i m H => m = s.items.length - i ∧ i ≤ s.items.length ∧ At i H, ⟨s.items.length, by simp, Nat.zero_le _, w1.hid Dp (.lst []), [], [], rfl, k1.hid hD, Ex.hid hD, upd_same, RVs.nil, .inr rfl, k1.nat hD, q⟩, ?_⟩
  rintro i m H ⟨rfl, hi, w2, acc, us, rfl, k2, e2, hA, rA, hB, nD, q2⟩
  by_cases hlt : i < s.items.length
  · -- a turn
    right
    have hd : s.items[i]? = some s.items[i] := by simp [hlt]
    rw [List.drop_eq_getElem_cons hlt] at q2
    unfold lcRun at q2
    by_cases hsm : s.same w2.S
    · rw [if_pos hsm] at q2
      refine ⟨so.go w2 i e2 k2 hsm hlt, At (i + 1), fun H' h' => ⟨s.items.length - (i + 1), by omega, rfl, hlt, h'⟩, fun x H' y => ?_⟩
      obtain ⟨w3, rfl, hS3, e3, k3, rx⟩ := so.yld w2 i _ x H' e2 k2 hsm hd y
      obtain ⟨hA3, hB3, nD3⟩ := e3.kept hA hB nD
      rw [← hS3] at q2
      dsimp only [lcBody] at q2
      cases eg : mg_ s.items[i] (wipeE ρ vs) with
      | none => rw [eg] at q2; exact False.elim q2
      | some ρ' =>
        rw [eg] at q2
        dsimp only at q2
        have re3 : RE X.K X.mg w3 ρ σ := (re.mono e2).mono e3
        refine ⟨w3, _, s.items[i], rfl, k3, re3.wipe vs, rx, ?_⟩
        rw [eg]
        intro σ2 reσ hk
        refine ⟨wipe_eq (by rw [hk.1, wipe_length]) hk.2 hs, w3, ρ', rfl, k3, reσ, ?_⟩
        cases et : mt ρ' w3.S with
        | bad => rw [et] at q2; exact False.elim q2
        | exc c d S => rw [et] at q2; exact False.elim q2
        | ok b S3 =>
          rw [et] at q2
          intro w4 b' hS4 e4 k4 hb
          have hb : b' = b := hb
          subst hb
          obtain ⟨hA4, hB4, nD4⟩ := e4.kept hA3 hB3 nD3
          have rA4 : RVs X.K X.mg w4 acc us := Ex.rvs (e3.trans e4) _ _ rA
          have x4 : Ex w1 w4 := (e2.trans e3).trans e4
          cases b' with
          | false =>
            rw [if_neg Bool.false_ne_true]
            exact ⟨w4, acc, us, rfl, k4, x4, hA4, rA4, hB4, nD4, by rw [hS4]; exact q2⟩
          | true =>
            rw [if_pos rfl]
            refine ⟨w4, ρ', rfl, k4, reσ.mono e4, ?_⟩
            rw [← hS4] at q2
            cases ee : me ρ' w4.S with
            | bad => dsimp only [Res.bind, Res.noX, if_true] at q2; rw [if_pos rfl, ee] at q2; exact False.elim q2
            | exc c d S => dsimp only [Res.bind, Res.noX, if_true] at q2; rw [if_pos rfl, ee] at q2; exact False.elim q2
            | ok y S4 =>
              dsimp only [Res.bind, Res.noX] at q2
              rw [if_pos rfl, ee] at q2
              dsimp only [Res.bind, Res.noX] at q2
              intro w5 v hS5 e5 k5 ry
              obtain ⟨hA5, hB5, nD5⟩ := e5.kept hA4 hB4 nD4
              by_cases hlen : acc.length < sizeLine
              · rw [if_pos hlen] at q2
                have rA5 : RVs X.K X.mg w5 acc us := Ex.rvs e5 _ _ rA4
                obtain ⟨kk, rr, rrs⟩ := k5.re (o := .lst (us ++ [v])) hA5 True.intro hB5 nD5
                refine ⟨us, hA5, by rw [rA5.len]; exact hlen, w5.re Dp (.lst (us ++ [v])), acc ++ [y], us ++ [v], rfl, kk, Ex.re hD (x4.trans e5), upd_same, (rrs _ _ rA5).app (RVs.cons (rr _ _ ry) RVs.nil), hB5, nD5, ?_⟩
                show out X.K X.mg T (RV X.K X.mg) W σ ((lcRun s.same (lcBody vs mg_ mt me ρ) (s.items.drop (i + 1)) (acc ++ [y]) w5.S).bind _) w1 Q
                rw [hS5]
                exact q2
              · rw [if_neg hlen] at q2
                exact False.elim q2
    · rw [if_neg hsm] at q2
      exact False.elim q2
  · -- the end
    left
    have ei : i = s.items.length := by omega
    subst ei
    rw [List.drop_length] at q2
    unfold lcRun at q2
    by_cases hsm : s.same w2.S
    · rw [if_pos hsm] at q2
      exact ⟨so.stop w2 e2 k2 hsm, out.shown hD e2 k2 hA hB nD rA q2⟩
    · rw [if_neg hsm] at q2
      exact False.elim q2
end
end Tu
end L2
set_option Elab.async false
set_option linter.all false
set_option maxRecDepth 100000
set_option maxHeartbeats 4000000
/-! TB12: the comprehension's rule, loops, statements. -/
namespace L2
namespace Tu
open PySem PySem.Spec PyProof.Rows
open Classical
section
variable {T : Tbl} {X : Cx} {W : WX} {a b c e : Expr} {pos p : Pos} {ma mb mc : Env → Store → Res D} {mt : Env → Store → Res Bool}
/-- the plain reckoning of a comprehension -/
noncomputable abbrev mLc (fl : Bool) (vs : List Nat) (mi : Env → Store → Res Src) (mg_ : D → Env → Option Env) (mt : Env → Store → Res Bool) (me : Env → Store → Res D) : Env → Store → Res D := fun ρ S => (mi ρ S).bind fun s S1 =>
  (lcRun s.same (lcBody vs mg_ mt me ρ) s.items [] S1).bind fun ds S5 => resL fl ds S5
theorem lc_weak {fl : Bool} {wi : TI} {g : TG} {tt : TT} {te : TE} {vs is : List Nat} {mi : Env → Store → Res Src} {mg_ : D → Env → Option Env} {me : Env → Store → Res D} (hwi : wi = tDI X.K X.mg T W mi) (hg : g = tDG X.K X.mg T is mg_) (ht : tt = tDT X.K X.mg T WF mt) (he : te = tD X.K X.mg T WF me) (hs : ∀ i ∈ is, i ∈ vs)
    {σ : St} {H : Hp} {Q : VK} (h : tD X.K X.mg T W (mLc fl vs mi mg_ mt me) σ H Q) : tLc wi g tt te vs σ H Q := by
  subst hwi hg ht he
  obtain ⟨w, ρ, eH, k, re, q⟩ := h
  subst eH
  refine ⟨w, ρ, rfl, k, re, q.bind.mono ?_⟩
  rintro J H1 ⟨w1, s, rfl, e1, k1, so, q1⟩
  exact fun Dp hD => lc_go hD k1 (re.mono e1) so hs q1
theorem de_lc {fl : Bool} {elt tg iter : Expr} {ifs : List Expr} {scope : Scope} {own : List (Str × Nat)} {is : List Nat} {mi : Env → Store → Res Src} {mg_ : D → Env → Option Env} {me : Env → Store → Res D}
    (hc : X.calm = true) (hN : X.N.Nodup) (hi : PI X tg iter (tDI X.K X.mg T W mi)) (ok : BlkOk X.N X.env.scope scope own) (hsub : ∀ i ∈ is, i ∈ own.map (·.2))
    (hg : ∀ (s : Shared) (H : Hp) (C : Addr) (cl : List (Str × Addr)) (fp : List Addr), PG (X.blk s H scope (compEnvC scope cl C X.env) fp) tg (tDG X.K X.mg T is mg_))
    (ht : ∀ (s : Shared) (H : Hp) (C : Addr) (cl : List (Str × Addr)) (fp : List Addr), PTs (X.blk s H scope (compEnvC scope cl C X.env) fp) ifs (tDT X.K X.mg T WF mt))
    (he : ∀ (s : Shared) (H : Hp) (C : Addr) (cl : List (Str × Addr)) (fp : List Addr), PE (X.blk s H scope (compEnvC scope cl C X.env) fp) elt (tD X.K X.mg T WF me)) (hf : ∀ x, foldedSetIterable iter X.env x = pure x) :
    PE X (.ListComp elt [⟨tg, iter, ifs, 0⟩] scope pos) (tD X.K X.mg T W (mLc fl (own.map (·.2)) mi mg_ mt me)) :=
  pe_weak (pe_lc hc hN hi ok hg ht he hf) fun σ H Q h => lc_weak rfl rfl rfl rfl hsub h

/-! ### for -/
theorem ds_for {tg iter : Expr} {body : List Stmt} {is : List Nat} {mi : Env → Store → Res Src} {mg_ : D → Env → Option Env} {ms : Env → Store → RS} (hp : PassesOwn (model X.prog X.w) X.A X.env X.xe) (hc : X.calm = true)
    (hi : PI X tg iter (tDI X.K X.mg T W mi)) (hg : PG X tg (tDG X.K X.mg T is mg_)) (hb : PSs X body (tDS X.K X.mg T W ms)) (hf : ∀ x, foldedSetIterable iter X.env x = pure x) :
    PS X (.For tg iter body [] pos) (tDS X.K X.mg T W fun ρ S => (mi ρ S).st ρ fun s S1 => forRun s.same (forBody mg_ ms) s.items ρ S1) := by
  refine ps_weak (ps_for hp hc hi hg hb hf) fun E σ H ⟨w, ρ, eH, k, re, q⟩ => ?_
  subst eH
  refine ⟨w, ρ, rfl, k, re, (q.st re).mono ?_⟩
  rintro J H1 ⟨w1, s, rfl, e1, k1, so, q1⟩
  let At : Nat → St → Hp → Prop := fun i τ H => ∃ w2 ρ2, w2.H = H ∧ Ok X.K X.mg T w2 ∧ Ex w1 w2 ∧ RE X.K X.mg w2 ρ2 τ ∧ outS X.K X.mg T W E (forRun s.same (forBody mg_ ms) (s.items.drop i) ρ2 w2.S) w2
  refine ⟨fun i m τ H => m = s.items.length - i ∧ i ≤ s.items.length ∧ At i τ H, ⟨s.items.length, by simp, Nat.zero_le _, w1, ρ, rfl, k1, Ex.refl w1, re.mono e1, q1⟩, ?_⟩
  rintro i m τ H ⟨rfl, hi', w2, ρ2, rfl, k2, e2, re2, q2⟩
  by_cases hlt : i < s.items.length
  · right
    have hd : s.items[i]? = some s.items[i] := by simp [hlt]
    rw [List.drop_eq_getElem_cons hlt] at q2
    unfold forRun at q2
    by_cases hsm : s.same w2.S
    · rw [if_pos hsm] at q2
      refine ⟨so.go w2 i e2 k2 hsm hlt, At (i + 1), fun τ' H' h' => ⟨s.items.length - (i + 1), by omega, rfl, hlt, h'⟩, fun x H' y => ?_⟩
      obtain ⟨w3, rfl, hS3, e3, k3, rx⟩ := so.yld w2 i _ x H' e2 k2 hsm hd y
      rw [← hS3] at q2
      dsimp only [forBody] at q2
      cases eg : mg_ s.items[i] ρ2 with
      | none => rw [eg] at q2; exact False.elim q2
      | some ρ3 =>
        rw [eg] at q2
        dsimp only at q2
        refine ⟨w3, ρ2, s.items[i], rfl, k3, re2.mono e3, rx, ?_⟩
        rw [eg]
        intro σ3 re3 _
        refine ⟨w3, ρ3, rfl, k3, re3, ?_⟩
        have x3 : Ex w1 w3 := e2.trans e3
        cases er : ms ρ3 w3.S with
        | nx ρ' S' =>
          rw [er] at q2
          exact fun w' σ' h1 h2 h3 h4 => ⟨w', ρ', rfl, h3, x3.trans h2, h4, by rw [h1]; exact outS.shift q2 (e3.trans h2)⟩
        | ct ρ' S' =>
          rw [er] at q2
          exact fun w' σ' h1 h2 h3 h4 => ⟨w', ρ', rfl, h3, x3.trans h2, h4, by rw [h1]; exact outS.shift q2 (e3.trans h2)⟩
        | bk ρ' S' =>
          rw [er] at q2
          exact fun w' σ' h1 h2 h3 h4 => q2 w' σ' h1 (e3.trans h2) h3 h4
        | rt d S' =>
          rw [er] at q2
          exact fun w' v h1 h2 h3 h4 => q2 w' v h1 (e3.trans h2) h3 h4
        | ex c d ρ' S' =>
          rw [er] at q2
          exact fun w' σ' C dd v h1 h2 h3 h4 h5 h6 h7 => q2 w' σ' C dd v h1 (e3.trans h2) h3 h4 h5 h6 h7
        | bad =>
          rw [er] at q2
          exact q2
    · rw [if_neg hsm] at q2
      exact False.elim q2
  · left
    have ei : i = s.items.length := by omega
    subst ei
    rw [List.drop_length] at q2
    unfold forRun at q2
    by_cases hsm : s.same w2.S
    · rw [if_pos hsm] at q2
      exact ⟨so.stop w2 e2 k2 hsm, q2 w2 τ rfl (Ex.refl w2) k2 re2⟩
    · rw [if_neg hsm] at q2
      exact False.elim q2

/-! ### statements -/
theorem dss_nil : PSs X [] (tDS X.K X.mg T W fun ρ S => .nx ρ S) := pss_weak pss_nil fun E σ H ⟨w, ρ, eH, k, re, q⟩ => by
  subst eH
  exact q w σ rfl (Ex.refl w) k re
theorem dss_cons {st : Stmt} {rest : List Stmt} {m ms : Env → Store → RS} (h1 : PS X st (tDS X.K X.mg T W m)) (h2 : PSs X rest (tDS X.K X.mg T W ms)) : PSs X (st :: rest) (tDS X.K X.mg T W fun ρ S => (m ρ S).seq fun ρ' S' => ms ρ' S') := by
  refine pss_weak (pss_cons h1 h2) fun E σ H ⟨w, ρ, eH, k, re, q⟩ => ?_
  subst eH
  refine ⟨w, ρ, rfl, k, re, ?_⟩
  dsimp only at q
  cases er : m ρ w.S with
  | nx ρ' S' =>
    rw [er] at q
    exact fun w' σ' h1 h2 h3 h4 => ⟨w', ρ', rfl, h3, h4, by rw [h1]; exact outS.shift q h2⟩
  | rt d S' => rw [er] at q; exact q
  | ct ρ' S' => rw [er] at q; exact q
  | bk ρ' S' => rw [er] at q; exact q
  | ex c d ρ' S' => rw [er] at q; exact q
  | bad => rw [er] at q; exact q
theorem ds_set {i : Nat} {x : Str} {pos' : Pos} (hN : X.N.Nodup) (hi : X.N[i]? = some x) (hx : Loc X.env.scope x) (he : PE X e (tD X.K X.mg T W ma)) (hs : swapsWith e (some (.Name x pos')) pos.line X.env = pure false) (hf : X.fn x = true ∨ X.env.scope.names.lookup x = some .local) :
    PS X (.Assign [.Name x pos'] e pos) (tDS X.K X.mg T W fun ρ S => (ma ρ S).st ρ fun d S1 => .nx (ρ.set i (some d)) S1) := by
  refine ps_weak (ps_set hN hi hx he hs hf) fun E σ H ⟨w, ρ, eH, k, re, q⟩ => ?_
  subst eH
  refine ⟨w, ρ, rfl, k, re, (q.st re).mono ?_⟩
  rintro v H1 ⟨w1, d, rfl, e1, k1, r1, q1⟩
  exact q1 w1 _ rfl (Ex.refl w1) k1 ((re.mono e1).set r1)
theorem ds_setLc {fl : Bool} {i : Nat} {y : Str} {py spos : Pos} {elt tg iter : Expr} {ifs : List Expr} {scope : Scope} {own : List (Str × Nat)} {is : List Nat} {mi : Env → Store → Res Src} {mg_ : D → Env → Option Env} {me : Env → Store → Res D}
    (hc : X.calm = true) (hN : X.N.Nodup) (hy : X.N[i]? = some y) (hyl : X.env.scope.names.lookup y = some .local) (hsw : swapsWith (.ListComp elt [⟨tg, iter, ifs, 0⟩] scope pos) (some (.Name y py)) spos.line X.env = pure true)
    (hi : PI X tg iter (tDI X.K X.mg T W mi)) (ok : BlkOk X.N X.env.scope scope own) (hsub : ∀ i ∈ is, i ∈ own.map (·.2))
    (hg : ∀ (s : Shared) (H : Hp) (C : Addr) (cl : List (Str × Addr)) (fp : List Addr), PG (X.blk s H scope (compEnvC scope cl C X.env) fp) tg (tDG X.K X.mg T is mg_))
    (ht : ∀ (s : Shared) (H : Hp) (C : Addr) (cl : List (Str × Addr)) (fp : List Addr), PTs (X.blk s H scope (compEnvC scope cl C X.env) fp) ifs (tDT X.K X.mg T WF mt))
    (he : ∀ (s : Shared) (H : Hp) (C : Addr) (cl : List (Str × Addr)) (fp : List Addr), PE (X.blk s H scope (compEnvC scope cl C X.env) fp) elt (tD X.K X.mg T WF me)) (hf : ∀ x, foldedSetIterable iter X.env x = pure x) :
    PS X (.Assign [.Name y py] (.ListComp elt [⟨tg, iter, ifs, 0⟩] scope pos) spos) (tDS X.K X.mg T W fun ρ S => (mLc fl (own.map (·.2)) mi mg_ mt me ρ S).st ρ fun d S1 => .nx (ρ.set i (some d)) S1) := by
  refine ps_weak (ps_setLc hc hN hy hyl hsw hi ok hg ht he hf) fun E σ H ⟨w, ρ, eH, k, re, q⟩ => ?_
  subst eH
  refine lc_weak rfl rfl rfl rfl hsub ⟨w, ρ, rfl, k, re, (q.st re).mono ?_⟩
  rintro v H1 ⟨w1, d, rfl, e1, k1, r1, q1⟩
  exact q1 w1 _ rfl (Ex.refl w1) k1 ((re.mono e1).set r1)
theorem ds_unp {tg : Expr} {is : List Nat} {mg_ : D → Env → Option Env} (he : PE X e (tD X.K X.mg T W ma)) (hg : PG X tg (tDG X.K X.mg T is mg_)) (hs : swapsWithSole [tg] e pos.line X.env = pure false) (hw : swappedStores [tg] e X.env = pure none)
    (h1 : (assignEach [tg] X.env).map (·.2) = [assign tg X.env]) : PS X (.Assign [tg] e pos) (tDS X.K X.mg T W fun ρ S => (ma ρ S).st ρ fun d S1 => match mg_ d ρ with
      | some ρ' => .nx ρ' S1
      | none => .bad) := by
  refine ps_weak (ps_asg he hg hs hw h1) fun E σ H ⟨w, ρ, eH, k, re, q⟩ => ?_
  subst eH
  refine ⟨w, ρ, rfl, k, re, (q.st re).mono ?_⟩
  rintro v H1 ⟨w1, d, rfl, e1, k1, r1, q1⟩
  refine ⟨w1, ρ, d, rfl, k1, re.mono e1, r1, ?_⟩
  cases eg : mg_ d ρ with
  | none => rw [eg] at q1; exact q1
  | some ρ' =>
    rw [eg] at q1
    exact fun σ' re' _ => q1 w1 σ' rfl (Ex.refl w1) k1 re'
theorem ds_par {i j : Nat} {x y : Str} {px py pt : Pos} {kt k2 : Nat} {pt2 : Pos} (hc : X.calm = true) (hN : X.N.Nodup) (hi : X.N[i]? = some x) (hj : X.N[j]? = some y) (hij : i ≠ j)
    (hx : X.env.scope.names.lookup x = some .local) (hy : X.env.scope.names.lookup y = some .local) (ha : PE X a (tD X.K X.mg T W ma)) (hb : PE X b (tD X.K X.mg T W mb)) (h1 : starEach [a, b] X.env = (false, eval a X.env) :: starEach [b] X.env) (h2 : starEach [b] X.env = [(false, eval b X.env)])
    (hw : swappedStores [.Tuple [.Name x px, .Name y py] kt pt] (.Tuple [a, b] k2 pt2) X.env = pure (some [x, y])) (hs : swapsWithSole [.Tuple [.Name x px, .Name y py] kt pt] (.Tuple [a, b] k2 pt2) pos.line X.env = pure false) :
    PS X (.Assign [.Tuple [.Name x px, .Name y py] kt pt] (.Tuple [a, b] k2 pt2) pos) (tDS X.K X.mg T W fun ρ S => (ma ρ S).st ρ fun d S1 => (mb ρ S1).st ρ fun d2 S2 => .nx ((ρ.set i (some d)).set j (some d2)) S2) := by
  refine ps_weak (ps_par hc hN hi hj hij hx hy (pa_cons ha (pa_cons hb pa_nil h2) h1) hw hs) fun E σ H ⟨w, ρ, eH, k, re, q⟩ => ?_
  subst eH
  refine ⟨w, ρ, rfl, k, re, (q.st re).mono ?_⟩
  rintro v H1 ⟨w1, d, rfl, e1, k1, r1, q1⟩
  refine ⟨w1, ρ, rfl, k1, re.mono e1, (q1.st (re.mono e1)).mono ?_⟩
  rintro u H2 ⟨w2, d2, rfl, e2, k2', r2, q2⟩
  exact ⟨v, u, rfl, q2 w2 _ rfl (Ex.refl w2) k2' ((((re.mono e1).mono e2).set (Ex.rv e2 _ _ r1)).set r2)⟩
/-- a[b] = v, by values -/
def rSetV (K : PySem.W.Frag) (mg : Str → Option Value) (T : Tbl) : TSet := fun o i v H Q => ∃ w a b d, w.H = H ∧ Ok K mg T w ∧ RV K mg w a o ∧ RV K mg w b i ∧ RV K mg w d v ∧ match putF a b d w.S with
  | some S => ∀ w', w'.S = S → Ex w w' → Ok K mg T w' → Q w'.H
  | none => False
theorem set_ok : PSet X (rSetV X.K X.mg T) := by
  rintro pins s σ H o i v ov iv u Q I ro ri rv ⟨w, a, b, d, rfl, k, ra, rb, rd, q⟩
  cases a <;> cases b <;> try exact False.elim q
  rename_i n j
  dsimp only [putF] at q
  split at q
  · rename_i S hS
    split at hS
    · rename_i xs hx
      cases ej : ixN xs.length j with
      | none => rw [ej] at hS; cases hS
      | some m =>
        rw [ej] at hS
        cases hS
        obtain ⟨vs, h1, r1⟩ := k.lst hx
        have e1 := (rv_obj.mp ra).2
        have e2 := rv_int.mp rb
        subst e1
        subst e2
        refine set_list pins s σ w.H _ _ v ov iv u Q I ro ri rv ⟨_, vs, j, m, rfl, rfl, h1, by rw [r1.len]; exact ej, ?_⟩
        exact q (w.put n (.lst (vs.set m v)) (.lst (xs.set m d))) rfl (Ex.put k hx nt_lst) (k.put hx nt_lst ⟨_, upd_same, Ex.rvs (Ex.put k hx nt_lst) _ _ (r1.set rd)⟩)
    · cases hS
  · exact False.elim q
theorem ds_put {o i : Expr} {tpos : Pos} (he : PE X e (tD X.K X.mg T W mc)) (ho : PE X o (tD X.K X.mg T W ma)) (hi : PE X i (tD X.K X.mg T W mb)) (hw : swappedStores [.Subscript o i tpos] e X.env = pure none) (hs : swapsWithSole [.Subscript o i tpos] e pos.line X.env = pure false)
    (hset : ∀ v, assign (.Subscript o i tpos) X.env v = (do
      let ov ← holding [v] (eval o X.env); let iv ← holding [v, ov] (eval i X.env); standAt tpos; holding [v, ov, iv] (setItem ov iv v); release [v, ov, iv] [])) :
    PS X (.Assign [.Subscript o i tpos] e pos) (tDS X.K X.mg T W fun ρ S => (mc ρ S).st ρ fun x S1 => (ma ρ S1).st ρ fun y S2 => (mb ρ S2).st ρ fun z S3 => match putF y z x S3 with
      | some S4 => .nx ρ S4
      | none => .bad) := by
  refine ps_weak (ps_asg he (pg_sub ho hi (set_ok (T := T)) hset) hs hw rfl) fun E σ H ⟨w, ρ, eH, k, re, q⟩ => ?_
  subst eH
  refine ⟨w, ρ, rfl, k, re, (q.st re).mono ?_⟩
  rintro v H1 ⟨w1, d, rfl, e1, k1, r1, q1⟩
  refine ⟨w1, ρ, rfl, k1, re.mono e1, (q1.st (re.mono e1)).mono ?_⟩
  rintro u H2 ⟨w2, d2, rfl, e2, k2, r2, q2⟩
  have re2 := (re.mono e1).mono e2
  refine ⟨w2, ρ, rfl, k2, re2, (q2.st re2).mono ?_⟩
  rintro t H3 ⟨w3, d3, rfl, e3, k3, r3, q3⟩
  refine ⟨w3, d2, d3, d, rfl, k3, Ex.rv e3 _ _ r2, r3, Ex.rv (e2.trans e3) _ _ r1, ?_⟩
  split at q3
  · rename_i S hS
    exact fun w' h1 h2 h3 => q3 w' σ h1 h2 h3 ((re2.mono e3).mono h2)
  · exact False.elim q3
theorem ds_expr (he : PE X e (tD X.K X.mg T W ma)) (hs : swapsWith e none pos.line X.env = pure false) : PS X (.Expr e pos) (tDS X.K X.mg T W fun ρ S => (ma ρ S).st ρ fun _ S1 => .nx ρ S1) := by
  refine ps_weak (ps_expr he hs) fun E σ H ⟨w, ρ, eH, k, re, q⟩ => ?_
  subst eH
  refine ⟨w, ρ, rfl, k, re, (q.st re).mono ?_⟩
  rintro v H1 ⟨w1, d, rfl, e1, k1, r1, q1⟩
  exact q1 w1 σ rfl (Ex.refl w1) k1 (re.mono e1)
theorem ds_ret (he : PE X e (tD X.K X.mg T W ma)) : PS X (.Return (some e) pos) (tDS X.K X.mg T W fun ρ S => (ma ρ S).st ρ fun d S1 => .rt d S1) := by
  refine ps_weak (ps_ret he) fun E σ H ⟨w, ρ, eH, k, re, q⟩ => ?_
  subst eH
  refine ⟨w, ρ, rfl, k, re, (q.st re).mono ?_⟩
  rintro v H1 ⟨w1, d, rfl, e1, k1, r1, q1⟩
  exact q1 w1 v rfl (Ex.refl w1) k1 r1
theorem ds_retN : PS X (.Return none pos) (tDS X.K X.mg T W fun _ S => .rt .non S) := ps_weak ps_retN fun E σ H ⟨w, ρ, eH, k, re, q⟩ => by
  subst eH
  exact q w .non rfl (Ex.refl w) k (rv_non.mpr rfl)
theorem ds_pas : PS X (.Pass pos) (tDS X.K X.mg T W fun ρ S => .nx ρ S) := ps_weak ps_pass fun E σ H ⟨w, ρ, eH, k, re, q⟩ => by
  subst eH
  exact q w σ rfl (Ex.refl w) k re
theorem ds_ife {as bs : List Stmt} {m1 m2 : Env → Store → RS} (hc : PT X c (tDT X.K X.mg T W mt)) (ha : PSs X as (tDS X.K X.mg T W m1)) (hb : PSs X bs (tDS X.K X.mg T W m2)) :
    PS X (.If c as bs pos) (tDS X.K X.mg T W fun ρ S => (mt ρ S).st ρ fun t S1 => if t = true then m1 ρ S1 else m2 ρ S1) := by
  refine ps_weak (ps_if hc ha hb) fun E σ H ⟨w, ρ, eH, k, re, q⟩ => ?_
  subst eH
  refine ⟨w, ρ, rfl, k, re, (q.st re).mono ?_⟩
  rintro t H1 ⟨w1, d, rfl, e1, k1, r1, q1⟩
  have et : t = d := r1
  subst et
  by_cases ht : t = true
  · rw [if_pos ht] at q1 ⊢
    exact ⟨w1, ρ, rfl, k1, re.mono e1, q1⟩
  · rw [if_neg ht] at q1 ⊢
    exact ⟨w1, ρ, rfl, k1, re.mono e1, q1⟩
end
end Tu
end L2
set_option Elab.async false
set_option linter.all false
set_option maxRecDepth 100000
set_option maxHeartbeats 4000000
/-! TB13: which written text a tree is of; what the text's form says. -/
namespace L2
namespace Tu
open PySem PySem.Spec PyProof.Rows
open Classical
/-! ### forms -/
def isStar : Expr → Bool
  | .Starred _ _ => true
  | _ => false
def isSet : Expr → Bool
  | .Set _ _ _ => true
  | _ => false
def isSlice : Expr → Bool
  | .Slice _ _ _ _ => true
  | _ => false
def isComp : Expr → Bool
  | .ListComp _ _ _ _ => true
  | .SetComp _ _ _ _ => true
  | .DictComp _ _ _ _ _ => true
  | _ => false
/-- a test that asks its value's truth alone -/
def plainTest : Expr → Bool
  | .UnaryOp .Not _ _ => false
  | .BoolOp _ _ _ => false
  | .IfExp _ _ _ _ => false
  | .Compare _ _ _ _ => false
  | _ => true
def isCall : Expr → Bool
  | .Call _ _ _ _ => true
  | _ => false
theorem star_ns {e : Expr} {es : List Expr} {env : PySem.Env} (h : isStar e = false) : starEach (e :: es) env = (false, eval e env) :: starEach es env := by
  cases e <;> first | rfl | simp [isStar] at h
theorem star_any {pos : Pos} {env : PySem.Env} : ∀ {es : List Expr}, es.all (fun e => !isStar e) = true → (backTo pos (starEach es env)).any (·.1) = false
  | [], _ => rfl
  | e :: es, h => by
    simp only [List.all_cons, Bool.and_eq_true] at h
    rw [star_ns (by simpa using h.1)]
    have ih := star_any (pos := pos) (env := env) h.2
    show (false || (backTo pos (starEach es env)).any (·.1)) = false
    rw [ih]
    rfl
theorem star_all {pos : Pos} {env : PySem.Env} : ∀ {es : List Expr}, es.all (fun e => !isStar e) = true → (backTo pos (starEach es env)).all (fun x => !x.1) = true
  | [], _ => rfl
  | e :: es, h => by
    simp only [List.all_cons, Bool.and_eq_true] at h
    rw [star_ns (by simpa using h.1)]
    have ih := star_all (pos := pos) (env := env) h.2
    show (true && (backTo pos (starEach es env)).all (fun x => !x.1)) = true
    rw [ih]
    rfl
theorem few_ok {pos : Pos} {env : PySem.Env} {e : Expr} {es : List Expr} (h : (e :: es).all (fun e => !isStar e) = true) (hl : (e :: es).length < 30) :
    ((backTo pos (starEach (e :: es) env)).all (fun x => !x.1) && (backToKw pos (keywordEach [] env)).all (fun x => x.1.isSome) && decide ((e :: es).length + ([] : List Keyword).length + (if ([] : List Keyword).isEmpty then 0 else 1) < 30)) = true := by
  rw [star_all h]
  show (true && true && decide ((e :: es).length + 0 + 0 < 30)) = true
  simp only [Bool.true_and, decide_eq_true_eq]
  exact hl
theorem plainIx_of {e : Expr} (h : isSlice e = false) : PlainIx e := by
  intro o i
  cases e <;> first | rfl | simp [isSlice] at h
theorem base_of {e : Expr} {a : Str} {env : PySem.Env} {whole : Sem Value} (h : isCall e = false) : attributeBase e a env whole = whole := by
  cases e <;> first | rfl | simp [isCall] at h
theorem fold_of {e : Expr} {env : PySem.Env} (h : isSet e = false) : ∀ x, foldedSetIterable e env x = pure x := by
  intro x
  cases e <;> first | rfl | simp [isSet] at h
theorem behind_of {op : CmpOp} {e : Expr} (h : isSet e = false) : behindInMarks op e = false := by
  cases e <;> first | rfl | simp [isSet] at h
theorem last_of {op op' : CmpOp} {b c : Expr} (h : isSet c = false) : lastMarks [op, op'] [b, c] = false := by
  show behindInMarks op' c = false
  exact behind_of h
theorem test_of {e : Expr} {env : PySem.Env} (h : plainTest e = true) : ∀ whole, isTrue e env whole = (do let v ← whole; standAt e.pos; holding [v] (truthy v)) := by
  intro whole
  cases e <;> first | rfl | skip
  case UnaryOp op x pos => cases op <;> first | rfl | simp [plainTest] at h
  case BoolOp => simp [plainTest] at h
  case IfExp => simp [plainTest] at h
  case Compare => simp [plainTest] at h
theorem swaps_of {e : Expr} {t : Option Expr} {l : Nat} {env : PySem.Env} (h : isComp e = false) : swapsWith e t l env = pure false := by
  cases e <;> first | rfl | simp [isComp] at h
theorem swaps_cell {e : Expr} {x : Str} {p : Pos} {l : Nat} {env : PySem.Env} (h : env.scope.names.lookup x ≠ some .local) : swapsWith e (some (.Name x p)) l env = pure false := by
  have hk : (env.kindOf x == some NameKind.local) = false := by
    show (env.scope.names.lookup x == some NameKind.local) = false
    exact beq_eq_false_iff_ne.mpr h
  unfold swapsWith
  split
  · dsimp only
    rw [hk]
    simp only [Bool.and_false, Bool.false_and]
  · rfl
theorem assign_ns {e : Expr} {es : List Expr} {env : PySem.Env} (h : isStar e = false) : assignEach (e :: es) env = (false, assign e env) :: assignEach es env := by
  cases e <;> first | rfl | simp [isStar] at h
theorem assign_len {env : PySem.Env} : ∀ {es : List Expr}, es.all (fun e => !isStar e) = true → (assignEach es env).length = es.length ∧ (assignEach es env).findIdx? (·.1) = none
  | [], _ => ⟨rfl, rfl⟩
  | e :: es, h => by
    simp only [List.all_cons, Bool.and_eq_true] at h
    rw [assign_ns (by simpa using h.1)]
    obtain ⟨h1, h2⟩ := assign_len (env := env) h.2
    refine ⟨by simp [h1], ?_⟩
    rw [List.findIdx?_cons]
    simp [h2]
theorem sub_set {o i : Expr} {tpos : Pos} {env : PySem.Env} (h : isSlice i = false) (v : Value) : assign (.Subscript o i tpos) env v = (do
      let ov ← holding [v] (eval o env); let iv ← holding [v, ov] (eval i env); standAt tpos; holding [v, ov, iv] (setItem ov iv v); release [v, ov, iv] []) := by
  cases i <;> first | rfl | simp [isSlice] at h
end Tu
end L2
set_option Elab.async false
set_option linter.all false
set_option maxRecDepth 100000
set_option maxHeartbeats 4000000
/-! TB14: the tree against the text, as a check; what the module gives. -/
namespace L2
namespace Tu
open PySem PySem.Spec PyProof.Rows
def visB (sc : Scope) (x : Str) : Bool := match sc.names.lookup x with
  | some .local => true
  | some .cell => true
  | some .free => true
  | _ => false
def locB (sc : Scope) (cw : Str → Bool) (x : Str) : Bool := match sc.names.lookup x with
  | some .local => true
  | some .cell => cw x
  | _ => false
def glB (sc : Scope) (x : Str) : Bool := decide (sc.names.lookup x = some .globalImplicit)
def dbgB (x : Str) : Bool := (x == ("__debug__" : Str)) || (x == ("__classdict__" : Str))
def conB : D → Const → Bool
  | .non, .none => true
  | .bl b, .bool c => b == c
  | .int i, .int j => decide (i = j)
  | .str x, .str y => decide (x = y)
  | _, _ => false
def biNames : List Str := ["len", "abs", "int", "max", "min", "repr", "all", "any", "list"]
def mbNames : List Str := ["append", "extend"]
def nameIs (x : Str) : Expr → Bool
  | .Name y _ => decide (x = y)
  | _ => false
def slotsT : IT → List Nat
  | .name i => [i]
  | .tup ts => slotsTs ts
where slotsTs : ITs → List Nat
  | .nil => []
  | .cons t ts => slotsT t ++ slotsTs ts
mutual
def mT (N : List Str) (sc : Scope) (cw : Str → Bool) : IT → Expr → Bool
  | .name i, e => match e with
    | .Name x _ => decide (N[i]? = some x) && locB sc cw x
    | _ => false
  | .tup ts, e => match e with
    | .Tuple es _ _ => mTs N sc cw ts es && es.all fun e => !isStar e
    | _ => false
def mTs (N : List Str) (sc : Scope) (cw : Str → Bool) : ITs → List Expr → Bool
  | .nil, es => match es with
    | [] => true
    | _ => false
  | .cons t ts, es => match es with
    | e :: es => mT N sc cw t e && mTs N sc cw ts es
    | [] => false
end
def mKs : List Str → List (Option Expr) → Bool
  | [], ks => match ks with
    | [] => true
    | _ => false
  | k :: r, ks => match ks with
    | some (.Constant (.str x) _ _) :: s => decide (k = x) && mKs r s
    | _ => false
mutual
def mE (N : List Str) (sc : Scope) (cw : Str → Bool) (G : Nm) : IE → Expr → Bool
  | .var i, e => match e with
    | .Name x _ => decide (N[i]? = some x) && visB sc x && !dbgB x
    | _ => false
  | .con d, e => match e with
    | .Constant c _ _ => conB d c
    | _ => false
  | .glo x, e => match e with
    | .Name y _ => decide (x = y) && glB sc x && !dbgB x
    | _ => false
  | .lst _ es, e => match e with
    | .List xs _ => mEs N sc cw G es xs
    | _ => false
  | .tup es, e => match e with
    | .Tuple xs _ _ => mEs N sc cw G es xs
    | _ => false
  | .bin op a b, e => match e with
    | .BinOp x op' y _ => decide (op = op') && mE N sc cw G a x && mE N sc cw G b y
    | _ => false
  | .neg a, e => match e with
    | .UnaryOp .USub x _ => mE N sc cw G a x
    | _ => false
  | .not a, e => match e with
    | .UnaryOp .Not x _ => mE N sc cw G a x
    | _ => false
  | .bop an es, e => match e with
    | .BoolOp .And xs _ => an && mEs N sc cw G es xs && (xs.all fun e => !isStar e)
    | .BoolOp .Or xs _ => !an && mEs N sc cw G es xs && (xs.all fun e => !isStar e)
    | _ => false
  | .cmp op a b, e => match e with
    | .Compare x [op'] [y] _ => decide (op = op') && mE N sc cw G a x && mE N sc cw G b y && !isSet y
    | _ => false
  | .cmp2 op op2 a b c, e => match e with
    | .Compare x [o1, o2] [y, z] _ => decide (op = o1) && decide (op2 = o2) && mE N sc cw G a x && mE N sc cw G b y && mE N sc cw G c z && !isSet z
    | _ => false
  | .ite c a b, e => match e with
    | .IfExp t x y _ => mC N sc cw G c t && mE N sc cw G a x && mE N sc cw G b y
    | _ => false
  | .idx a b, e => match e with
    | .Subscript x y _ => mE N sc cw G a x && mE N sc cw G b y && !isSlice y
    | _ => false
  | .slc _ _ _, _ => false
  | .fld a f, e => match e with
    | .Attribute x g _ => decide (f = g) && mE N sc cw G a x && !isCall x && decide (f = "value")
    | _ => false
  | .fn f es, e => match e with
    | .Call g xs [] _ => nameIs f g && decide (f ∈ G.fns) && glB sc f && !dbgB f && mEs N sc cw G es xs && (xs.all fun e => !isStar e)
    | _ => false
  | .mk c es, e => match e with
    | .Call g xs [] _ => nameIs c g && decide (c ∈ G.cls) && glB sc c && !dbgB c && mEs N sc cw G es xs && (xs.all fun e => !isStar e)
    | _ => false
  | .bi _ f es, e => match e with
    | .Call g (x :: xs) [] _ => nameIs f g && decide (f ∈ biNames) && glB sc f && mEs N sc cw G es (x :: xs) && ((x :: xs).all fun e => !isStar e)
    | _ => false
  | .isi a c, e => match e with
    | .Call g [x, y] [] _ => nameIs "isinstance" g && glB sc "isinstance" && mE N sc cw G a x && !isStar x && nameIs c y && decide (c ∈ G.iss) && glB sc c && !dbgB c
    | _ => false
  | .me _ _ _, _ => false
  | .mb a m es, e => match e with
    | .Call (.Attribute x m' ap) (y :: ys) [] p => decide (m = m') && decide (m ∈ mbNames) && mE N sc cw G a x && !isCall x && mEs N sc cw G es (y :: ys) && ((y :: ys).all fun e => !isStar e) && decide ((y :: ys).length < 30) && (ap.endLine == p.line)
    | _ => false
  | .lrg _ a, e => match e with
    | .Call g [.Call r [x] [] _] [] _ => nameIs "list" g && nameIs "range" r && glB sc "list" && glB sc "range" && mE N sc cw G a x && !isStar x
    | _ => false
  | .lc _ own elt tg it ifs, e => match e with
    | .ListComp x [⟨t, i, fs, ay⟩] scope _ => decide (ay = 0) && blkC N sc scope own && (slotsT tg).all (fun i => (own.map (·.2)).contains i) && mI N sc cw G it t i && !isSet i &&
        mT N (relS scope sc) (fun x => decide (scope.names.lookup x = some .cell)) tg t && mCs N (relS scope sc) (fun x => decide (scope.names.lookup x = some .cell)) G ifs fs && mE N (relS scope sc) (fun x => decide (scope.names.lookup x = some .cell)) G elt x
    | _ => false
  | .dic _ ks es, e => match e with
    | .Dict keys vals _ => mKs ks keys && mEs N sc cw G es vals && (vals.all fun e => !isStar e) && decide (keys.length ≤ 15) && decide (keys.length = ks.length) && decide (keys.length = vals.length) && keys.all (·.isSome)
    | _ => false
  | .nev, _ => true
def mEs (N : List Str) (sc : Scope) (cw : Str → Bool) (G : Nm) : IEs → List Expr → Bool
  | .nil, es => match es with
    | [] => true
    | _ => false
  | .cons a as, es => match es with
    | e :: es => mE N sc cw G a e && mEs N sc cw G as es && !isStar e
    | [] => false
  | .star a as, es => match es with
    | .Starred e _ :: es => mE N sc cw G a e && mEs N sc cw G as es
    | _ => false
def mC (N : List Str) (sc : Scope) (cw : Str → Bool) (G : Nm) : IC → Expr → Bool
  | .val a, e => mE N sc cw G a e && plainTest e
  | .not c, e => match e with
    | .UnaryOp .Not x _ => mC N sc cw G c x
    | _ => false
  | .bop an cs, e => match e with
    | .BoolOp .And xs _ => an && mCs N sc cw G cs xs
    | .BoolOp .Or xs _ => !an && mCs N sc cw G cs xs
    | _ => false
  | .cmp op a b, e => match e with
    | .Compare x [op'] [y] _ => decide (op = op') && mE N sc cw G a x && mE N sc cw G b y && !isSet y
    | _ => false
  | .cmp2 op op2 a b c, e => match e with
    | .Compare x [o1, o2] [y, z] _ => decide (op = o1) && decide (op2 = o2) && mE N sc cw G a x && mE N sc cw G b y && mE N sc cw G c z && !isSet z
    | _ => false
def mCs (N : List Str) (sc : Scope) (cw : Str → Bool) (G : Nm) : ICs → List Expr → Bool
  | .nil, es => match es with
    | [] => true
    | _ => false
  | .cons c cs, es => match es with
    | e :: es => mC N sc cw G c e && mCs N sc cw G cs es
    | [] => false
def mI (N : List Str) (sc : Scope) (cw : Str → Bool) (G : Nm) : II → Expr → Expr → Bool
  | .val a, _, e => mE N sc cw G a e
  | .rng a, _, e => match e with
    | .Call r [x] [] _ => nameIs "range" r && glB sc "range" && mE N sc cw G a x && !isStar x
    | _ => false
  | .enu a, t, e => match t, e with
    | .Tuple _ _ _, .Call r [x] [] _ => nameIs "enumerate" r && glB sc "enumerate" && mE N sc cw G a x && !isStar x
    | _, _ => false
  | .zip _ _, _, _ => false
end
/-- the names that a pair of stores exchanges -/
def swapNames (sc : Scope) (ts : List Expr) : List Str :=
  let line := (ts.head?.map (·.pos.line)).getD 0
  ts.filterMap fun
    | .Name id pos => if sc.names.lookup id == some .local && pos.line == line then some id else none
    | _ => none
def noSwap (sc : Scope) (ts : List Expr) (e : Expr) : Bool := match e with
  | .Tuple vs _ _ => !(ts.length == 2 || ts.length == 3) || vs.length != ts.length || (!(vs.any fun | .Starred .. => true | _ => false) && (swapNames sc ts).length != ts.length)
  | _ => true
mutual
def mS (N : List Str) (sc : Scope) (cw : Str → Bool) (G : Nm) : IS → Stmt → Bool
  | .set i a, s => match s with
    | .Assign [.Name x p] e q => decide (N[i]? = some x) && locB sc cw x && mE N sc cw G a e && (!isComp e || decide (sc.names.lookup x ≠ some .local) ||
        (match e with
          | .ListComp _ _ scope cp => decide (sc.names.lookup x = some .local) && (p.line == cp.line) && !(scope.names.any fun (n, k) => n == x && (k == .local || k == .cell))
          | _ => false))
    | _ => false
  | .unp ts a, s => match s with
    | .Assign [.Tuple es k p] e q => mTs N sc cw ts es && (es.all fun e => !isStar e) && mE N sc cw G a e && !isComp e && noSwap sc es e
    | _ => false
  | .par i j a b, s => match s with
    | .Assign [.Tuple [.Name x px, .Name y py] _ _] (.Tuple [u, v] _ _) q => decide (N[i]? = some x) && decide (N[j]? = some y) && decide (i ≠ j) && decide (sc.names.lookup x = some .local) && decide (sc.names.lookup y = some .local) && (py.line == px.line) &&
        mE N sc cw G a u && mE N sc cw G b v && !isStar u && !isStar v && !(foldedForSure 8 u && foldedForSure 8 v) && !(constantsAlone 8 u && constantsAlone 8 v)
    | _ => false
  | .put o k v, s => match s with
    | .Assign [.Subscript x y p] e q => mE N sc cw G v e && mE N sc cw G o x && mE N sc cw G k y && !isSlice y && !isComp e
    | _ => false
  | .stf _ _ _, _ => false
  | .expr a, s => match s with
    | .Expr e q => mE N sc cw G a e && !isComp e
    | _ => false
  | .ret a, s => match s with
    | .Return (some e) _ => mE N sc cw G a e
    | _ => false
  | .retN, s => match s with
    | .Return none _ => true
    | _ => false
  | .ife c a b, s => match s with
    | .If t x y _ => mC N sc cw G c t && mSs N sc cw G a x && mSs N sc cw G b y
    | _ => false
  | .for_ t it b, s => match s with
    | .For tg i x [] _ => mT N sc cw t tg && mI N sc cw G it tg i && mSs N sc cw G b x && !isSet i
    | _ => false
  | .rai _ _, _ => false
  | .pas, s => match s with
    | .Pass _ => true
    | _ => false
  | .never, _ => true
def mSs (N : List Str) (sc : Scope) (cw : Str → Bool) (G : Nm) : ISs → List Stmt → Bool
  | .nil, ss => match ss with
    | [] => true
    | _ => false
  | .cons a as, ss => match ss with
    | s :: ss => mS N sc cw G a s && mSs N sc cw G as ss
    | [] => false
end
end Tu
end L2
set_option Elab.async false
set_option linter.all false
set_option maxRecDepth 100000
set_option maxHeartbeats 4000000
/-! TB15: THE SOUNDNESS of the plain reckoning for expressions. -/
namespace L2
namespace Tu
open PySem PySem.Spec PyProof.Rows
open Classical
/-- what the module gives: G's functions are what its defs and classes do -/
structure Mo (T : Tbl) (G : Gl0) (n : Nat) (P : Program) (w : World) (K : PySem.W.Frag) (mg : Str → Option Value) (base : Heap) : Prop where
  sk : SysK K
  fn : ∀ f ∈ G.fns, ∃ a, mg f = some (.ref a) ∧ PySem.W.keepIn K (.ref a) = true ∧ FnG P w K mg base n a (spU K mg T (G.fn f))
  ma : ∀ c ∈ G.cls, ∃ a, mg c = some (.ref a) ∧ PySem.W.keepIn K (.ref a) = true ∧ FnG P w K mg base n a (spU K mg T (G.ma c))
  bi : ∀ f ∈ (("range" : Str) :: "enumerate" :: "isinstance" :: biNames), mg f = none
  con : ∀ x d, G.con x = some d → ∃ u v, mg x = some u ∧ RelV v u ∧ ∀ w, RV K mg w d v
  xc : ∀ c ∈ G.xcs, ∃ C, mg c = some (.ref C) ∧ ExcC K C ∧ PySem.W.findIn K (.ref C) "value" = some none
  isi : ∀ c ∈ G.iss, ∃ v u, RelV v u ∧ (∀ u', RelV v u' → u' = u) ∧ (mg c = some u ∨ (mg c = none ∧ bootBuiltins c = some u ∧ c ≠ "__name__")) ∧ ∀ c' ∈ G.xcs, ∀ C', mg c' = some (.ref C') → PySem.W.kitOne K (.ref C') u = some (G.isi c' c)
/-- a context in which a tree may be reckoned -/
structure Ct (T : Tbl) (G : Gl0) (n : Nat) (N : List Str) (sc : Scope) (cw : Str → Bool) (W : WX) (X : Cx) : Prop where
  hN : X.N = N
  nd : N.Nodup
  hsc : X.env.scope = sc
  calm : X.calm = true
  gd : X.A.guards = some []
  tk : Takes X W
  hcw : ∀ x, cw x = true → X.fn x = true
  mod : Mo T G n X.prog X.w X.K X.mg X.base
  room : Room n X.A
section
variable {T : Tbl} {X : Cx} {W : WX} {a b c e : Expr} {pos p : Pos} {ma mb mc : Env → Store → Res D} {mt mu : Env → Store → Res Bool} {rest : List Expr}
theorem de_nev : PE X e (tD X.K X.mg T W fun _ _ => .bad) := ⟨fun pins s σ H Q I ⟨w, ρ, _, _, _, q⟩ => False.elim q⟩
theorem ds_nev {st : Stmt} : PS X st (tDS X.K X.mg T W fun _ _ => .bad) := ⟨fun pins s σ H D I ⟨w, ρ, _, _, _, q⟩ => False.elim q⟩
theorem de_and (ha : PE X a (tD X.K X.mg T W ma)) (hb : PE X (.BoolOp .And (b :: rest) pos) (tD X.K X.mg T W mb)) : PE X (.BoolOp .And (a :: b :: rest) pos) (tD X.K X.mg T W fun ρ S => (ma ρ S).bind fun x S1 => match x with
    | .bl c => if c = true then mb ρ S1 else .ok (.bl c) S1
    | _ => .bad) := by
  refine pe_weak (pe_and ha hb) fun σ H Q ⟨w, ρ, eH, k, re, q⟩ => ?_
  subst eH
  refine ⟨w, ρ, rfl, k, re, q.bind.mono ?_⟩
  rintro x H1 ⟨w1, d, rfl, e1, k1, r1, q1⟩
  cases d with
  | bl t =>
    refine ⟨t, rv_bl.mp r1, ?_⟩
    cases t with
    | true => exact ⟨w1, ρ, rfl, k1, re.mono e1, q1⟩
    | false => exact q1.give k1 (rv_bl.mpr rfl)
  | _ => exact False.elim q1
theorem de_or (ha : PE X a (tD X.K X.mg T W ma)) (hb : PE X (.BoolOp .Or (b :: rest) pos) (tD X.K X.mg T W mb)) : PE X (.BoolOp .Or (a :: b :: rest) pos) (tD X.K X.mg T W fun ρ S => (ma ρ S).bind fun x S1 => match x with
    | .bl c => if c = false then mb ρ S1 else .ok (.bl c) S1
    | _ => .bad) := by
  refine pe_weak (pe_or ha hb) fun σ H Q ⟨w, ρ, eH, k, re, q⟩ => ?_
  subst eH
  refine ⟨w, ρ, rfl, k, re, q.bind.mono ?_⟩
  rintro x H1 ⟨w1, d, rfl, e1, k1, r1, q1⟩
  cases d with
  | bl t =>
    refine ⟨t, rv_bl.mp r1, ?_⟩
    cases t with
    | false => exact ⟨w1, ρ, rfl, k1, re.mono e1, q1⟩
    | true => exact q1.give k1 (rv_bl.mpr rfl)
  | _ => exact False.elim q1
theorem dw_and (ha : PT X a (tDT X.K X.mg T W mt)) (hb : PW X (.BoolOp .And (b :: rest) pos) (tDT X.K X.mg T W mu)) : PW X (.BoolOp .And (a :: b :: rest) pos) (tDT X.K X.mg T W fun ρ S => (mt ρ S).bind fun c S1 => if c = true then mu ρ S1 else .ok c S1) := by
  refine pw_weak (pw_and ha hb) fun σ H Q ⟨w, ρ, eH, k, re, q⟩ => ?_
  subst eH
  refine ⟨w, ρ, rfl, k, re, q.bind.mono ?_⟩
  rintro x H1 ⟨w1, d, rfl, e1, k1, r1, q1⟩
  have ed : x = d := r1
  subst ed
  cases x with
  | true => exact ⟨w1, ρ, rfl, k1, re.mono e1, q1⟩
  | false => exact q1.give k1 rfl
theorem dw_or (ha : PT X a (tDT X.K X.mg T W mt)) (hb : PW X (.BoolOp .Or (b :: rest) pos) (tDT X.K X.mg T W mu)) : PW X (.BoolOp .Or (a :: b :: rest) pos) (tDT X.K X.mg T W fun ρ S => (mt ρ S).bind fun c S1 => if c = false then mu ρ S1 else .ok c S1) := by
  refine pw_weak (pw_or ha hb) fun σ H Q ⟨w, ρ, eH, k, re, q⟩ => ?_
  subst eH
  refine ⟨w, ρ, rfl, k, re, q.bind.mono ?_⟩
  rintro x H1 ⟨w1, d, rfl, e1, k1, r1, q1⟩
  have ed : x = d := r1
  subst ed
  cases x with
  | false => exact ⟨w1, ρ, rfl, k1, re.mono e1, q1⟩
  | true => exact q1.give k1 rfl
theorem de_lrg (fl : Bool) (hc : X.calm = true) (gl : Gl X "list") (hm : X.mg "list" = none) (gr : Gl X "range") (hr : X.mg "range" = none) {q q2 q3 : Pos} (ha : PE X a (tD X.K X.mg T W ma)) (na : starEach [a] X.env = (false, eval a X.env) :: starEach [] X.env) :
    PE X (.Call (.Name "list" p) [.Call (.Name "range" q) [a] [] q2] [] q3) (tD X.K X.mg T W fun ρ S => (ma ρ S).bind fun d S1 => match d with
    | .int n => if 0 ≤ n ∧ n ≤ 16777216 then resL fl ((List.range n.toNat).map fun (i : Nat) => D.int (i : Int)) S1 else .bad
    | _ => .bad) := by
  refine pe_weak (pe_listRg hc gl hm (prg_1 gr hr ha na)) fun σ H Q ⟨w, ρ, eH, k, re, q⟩ => ?_
  subst eH
  refine ⟨w, ρ, rfl, k, re, q.bind.mono ?_⟩
  rintro x H1 ⟨w1, d, rfl, e1, k1, r1, q1⟩
  cases d with
  | int n =>
    dsimp only at q1
    split at q1
    · rename_i hn
      refine ⟨n, rv_int.mp r1, RgOk.of_le (Int.le_refl 0) hn.2 (by decide) hn.1, fun t ht => ?_⟩
      have rr : RVs X.K X.mg w1 ((List.range n.toNat).map fun (i : Nat) => D.int (i : Int)) (rgV 0 n) := by
        have e2 : rgV 0 n = ((List.range n.toNat).map fun (i : Nat) => (i : Int)).map V.int := by
          unfold rgV
          rw [List.map_map, Int.sub_zero]
          exact List.map_congr_left fun i _ => by simp
        have e3 : ((List.range n.toNat).map fun (i : Nat) => D.int (i : Int)) = ((List.range n.toNat).map fun (i : Nat) => (i : Int)).map D.int := by
          rw [List.map_map]
          rfl
        rw [e2, e3]
        exact RVs.ints _
      exact q1.newlst k1 rr t ht
    · exact False.elim q1
  | _ => exact False.elim q1
end
theorem nameIs_of {x : Str} {e : Expr} (h : nameIs x e = true) : ∃ p, e = .Name x p := by
  cases e <;> first | (simp [nameIs] at h; done) | skip
  rename_i y p
  exact ⟨p, by rw [of_decide_eq_true h]⟩
theorem dbg_of {x : Str} (h : (!dbgB x) = true) : (x == ("__debug__" : Str)) = false ∧ (x == ("__classdict__" : Str)) = false := by
  unfold dbgB at h
  simp only [Bool.not_eq_true', Bool.or_eq_false_iff] at h
  exact h
theorem vis_of {sc : Scope} {x : Str} (h : visB sc x = true) : Vis sc x := by
  unfold visB at h
  split at h <;> first | (cases h; done) | skip
  · exact .inl (by assumption)
  · exact .inr (.inl (by assumption))
  · exact .inr (.inr (by assumption))
section
variable {T : Tbl} {G : Gl0} {n : Nat} {N : List Str} {sc : Scope} {cw : Str → Bool} {W : WX} {X : Cx}
theorem Ct.gl (h : Ct T G n N sc cw W X) {x : Str} (g : glB sc x = true) : Gl X x := by
  show X.env.scope.names.lookup x = _
  rw [h.hsc]
  exact of_decide_eq_true g
theorem Ct.loc (h : Ct T G n N sc cw W X) {x : Str} (g : locB sc cw x = true) : Loc X.env.scope x ∧ (X.fn x = true ∨ X.env.scope.names.lookup x = some .local) := by
  rw [h.hsc]
  unfold locB at g
  split at g
  · rename_i e
    exact ⟨.inl e, .inr e⟩
  · rename_i e
    exact ⟨.inr e, .inl (h.hcw x g)⟩
  · cases g
/-- a comprehension's block -/
theorem Ct.blk (h : Ct T G n N sc cw W X) {s : Shared} {H : Hp} {C : Addr} {cl : List (Str × Addr)} {fp : List Addr} {scope : Scope} :
    Ct T G n N (relS scope sc) (fun x => decide (scope.names.lookup x = some .cell)) WF (X.blk s H scope (compEnvC scope cl C X.env) fp) where
  hN := h.hN
  nd := h.nd
  hsc := by rw [← h.hsc]; rfl
  calm := h.calm
  gd := h.gd
  tk := takes0
  hcw := fun x hx => by
    show (scope.names.lookup x == some .cell) = true
    rw [of_decide_eq_true hx]
    rfl
  mod := h.mod
  room := h.room
theorem asgTs_len : ∀ (ts : ITs) (ds : List D) (ρ ρ' : Env), asgT.asgTs ts ds ρ = some ρ' → ∀ {N sc cw es}, mTs N sc cw ts es = true → ds.length = es.length
  | .nil, [], _, _, _, _, _, _, [], _ => rfl
  | .nil, [], _, _, _, _, _, _, _ :: _, h => by simp [mTs] at h
  | .nil, _ :: _, _, _, h, _, _, _, _, _ => by simp [asgT.asgTs] at h
  | .cons t ts, [], _, _, h, _, _, _, _, _ => by simp [asgT.asgTs] at h
  | .cons t ts, d :: ds, ρ, ρ', h, N, sc, cw, [], h2 => by simp [mTs] at h2
  | .cons t ts, d :: ds, ρ, ρ', h, N, sc, cw, e :: es, h2 => by
    simp only [asgT.asgTs] at h
    simp only [mTs, Bool.and_eq_true] at h2
    cases e1 : asgT t d ρ with
    | none => rw [e1] at h; cases h
    | some ρ1 =>
      rw [e1] at h
      have ih := asgTs_len ts ds ρ1 ρ' h h2.2
      simp [ih]
mutual
theorem sT : ∀ (t : IT) {e : Expr}, Ct T G n N sc cw W X → mT N sc cw t e = true → PG X e (tDG X.K X.mg T (slotsT t) (asgT t))
  | .name i, e, h, m => by
    cases e <;> first | (simp [mT] at m; done) | skip
    rename_i x p
    simp only [mT, Bool.and_eq_true, decide_eq_true_eq] at m
    obtain ⟨l1, l2⟩ := h.loc m.2
    exact dg_name (by rw [h.hN]; exact h.nd) (by rw [h.hN]; exact m.1) l1 l2
  | .tup ts, e, h, m => by
    cases e <;> first | (simp [mT] at m; done) | skip
    rename_i es k p
    simp only [mT, Bool.and_eq_true] at m
    obtain ⟨h1, h2⟩ := assign_len (env := X.env) m.2
    exact dg_tup h.calm (sTs ts h m.1 m.2) h1 h2 fun ds ρ ρ' q => asgTs_len ts ds ρ ρ' q m.1
theorem sTs : ∀ (ts : ITs) {es : List Expr}, Ct T G n N sc cw W X → mTs N sc cw ts es = true → es.all (fun e => !isStar e) = true → PGs X es (tDGs X.K X.mg T (slotsT.slotsTs ts) (asgT.asgTs ts))
  | .nil, [], h, m, _ => dgs_nil
  | .nil, _ :: _, h, m, _ => by simp [mTs] at m
  | .cons t ts, [], h, m, _ => by simp [mTs] at m
  | .cons t ts, e :: es, h, m, hs => by
    simp only [mTs, Bool.and_eq_true] at m
    simp only [List.all_cons, Bool.and_eq_true] at hs
    refine dgs_cons (sT t h m.1) (sTs ts h m.2 hs.2) ?_
    rw [assign_ns (by simpa using hs.1)]
    rfl
end
end
end Tu
end L2
set_option Elab.async false
set_option linter.all false
set_option maxRecDepth 100000
set_option maxHeartbeats 4000000
/-! TB16: dict displays, fields of exceptions, isinstance. -/
namespace L2
namespace Tu
open PySem PySem.Spec PyProof.Rows
open Classical
section
variable {T : Tbl} {X : Cx} {W : WX} {a b c e : Expr} {pos p : Pos} {ma mb mc : Env → Store → Res D} {G : Gl0}
theorem exc_at {w : Wd} {s : Shared} {C dd a : Addr} {v : V} {K : PySem.W.Frag} {H : Hp} (hk : HOk X.prog X.w H s.heap) (h1 : H a = some (ExX C dd a)) (h2 : H dd = some (.xd [(("value" : Str), v)])) :
    ∃ (oe od : Obj), PySem.W.InstAt s.heap a oe C (some od) ∧ ∃ u, PySem.W.lookIn "value" od = some (some u) ∧ RelV v u := by
  have x1 : ObjOk X.prog X.w H s.heap a (ExX C dd a) := hk a _ h1
  obtain ⟨oe, vs, ho, hz, hd⟩ := x1.1
  have x2 : ObjOk X.prog X.w H s.heap dd (.xd [(("value" : Str), v)]) := hk dd _ h2
  obtain ⟨mA, hns, hr⟩ := x2
  obtain ⟨od, hod, hl⟩ := lookIn_ns hns
  obtain ⟨u, hu, ru⟩ := RelO.some_of (v := v) (o := mA "value") (by
    have e : ([(("value" : Str), v)] : List (Str × V)).lookup (PySem.Str.ofString "value") = some v := by simp [List.lookup]
    rw [← e]
    exact hr (PySem.Str.ofString "value"))
  exact ⟨oe, od, ⟨ho, hz.1, by unfold PySem.W.notCls; rw [hd] <;> rfl, by rw [hz.2]; exact hod⟩, u, by rw [hl, hu], ru⟩
theorem de_fld (M : ∀ c ∈ G.xcs, ∃ C, X.mg c = some (.ref C) ∧ ExcC X.K C ∧ PySem.W.findIn X.K (.ref C) "value" = some none) (ha : PE X a (tD X.K X.mg T W ma)) (hb : attributeBase a "value" X.env (eval a X.env) = eval a X.env) :
    PE X (.Attribute a "value" pos) (tD X.K X.mg T W fun ρ S => (ma ρ S).bind fun x S1 => Res.of (fldF G "value" x S1)) := by
  refine ⟨fun pins s σ H Q I h => ?_⟩
  obtain ⟨w, ρ, rfl, k, re, q⟩ := h
  refine attr_of hb (thn (ha.run pins s σ w.H _ I ⟨w, ρ, rfl, k, re, q.bind⟩) fun u s1 hh => ?_)
  obtain ⟨x, H1, I1, rx, w1, d, rfl, e1, k1, r1, q1⟩ := hh
  have q2 := q1.of
  unfold fldF at q2
  split at q2
  · split at q2
    · rename_i c d' hm
      obtain ⟨a, C, dd, v, rfl, h0, h1, hof, h2, h3⟩ := rv_exc.mp r1
      obtain ⟨C', m1, EC, nf⟩ := M c hm.2
      rw [h0] at m1
      cases m1
      obtain ⟨oe, od, J, u, hu, ru⟩ := exc_at (w := w1) (K := X.K) I1.hok h1 h2
      cases rx
      exact HandSPX.exc_get I1.kIn J EC.hg EC.hk EC.hs (PySem.W.findObj_own EC.hd nf rfl hu) (handed_of ru) ⟨v, w1.H, I1.tok _, ru, q2.give k1 h3 rfl⟩
    · exact False.elim q2
  · exact False.elim q2
theorem de_isi {cn : Str} {py : Pos} {px : Pos} (M : ∀ c ∈ G.xcs, ∃ C, X.mg c = some (.ref C) ∧ ExcC X.K C ∧ PySem.W.findIn X.K (.ref C) "value" = some none)
    (I' : ∃ v u, RelV v u ∧ (∀ u', RelV v u' → u' = u) ∧ (X.mg cn = some u ∨ (X.mg cn = none ∧ bootBuiltins cn = some u ∧ cn ≠ "__name__")) ∧ ∀ c' ∈ G.xcs, ∀ C', X.mg c' = some (.ref C') → PySem.W.kitOne X.K (.ref C') u = some (G.isi c' cn))
    (gi : Gl X "isinstance") (mi : X.mg "isinstance" = none) (gc : Gl X cn) (dc : (cn == ("__debug__" : Str)) = false) (ha : PE X a (tD X.K X.mg T W ma)) (hs : isStar a = false) :
    PE X (.Call (.Name "isinstance" px) [a, .Name cn py] [] pos) (tD X.K X.mg T W fun ρ S => (ma ρ S).bind fun x S1 => Res.of (isiF G cn x S1)) := by
  obtain ⟨cv, cu, rc, rcu, gm, kit⟩ := I'
  have hy : PE X (.Name cn py) (tC cv) := by
    rcases gm with h | ⟨h1, h2, h3⟩
    · exact pe_glob gc h rc dc
    · exact pe_bltn gc h1 h2 rc h3 dc
  have cr : CallR X (.builtin "isinstance") (fun vs H Q => ∃ (w : Wd) (d : D) (x : V), vs = [x, cv] ∧ w.H = H ∧ Ok X.K X.mg T w ∧ RV X.K X.mg w d x ∧ outO X.K X.mg T (RV X.K X.mg) (isiF G cn d w.S) w Q) := by
    rintro pins s σ H xs us Q I r ⟨w, d, x, rfl, rfl, k, r1, q⟩
    cases r with
    | cons rx rr =>
      cases rr with
      | cons rt rr =>
        cases rr
        have ec := rcu _ rt
        subst ec
        unfold isiF at q
        split at q
        · split at q
          · rename_i c d' hm
            obtain ⟨ax, C, dd, v, rfl, h0, h1, hof, h2, h3⟩ := rv_exc.mp r1
            obtain ⟨C', m1, EC, nf⟩ := M c hm
            rw [h0] at m1
            cases m1
            obtain ⟨oe, od, J, u, hu, ru⟩ := exc_at (w := w) (K := X.K) I.hok h1 h2
            cases rx
            have hcl : (PySem.W.clsIn X.K C).isSome = true := by
              obtain ⟨cd, hc, _⟩ := PySem.W.any_some EC.hd
              rw [hc]
              rfl
            exact PySem.W.kia_one (PySem.W.kitx_exc hcl EC.hg EC.hk EC.hs EC.ha EC.hn EC.ht EC.hm) I.kIn J (kit c hm C h0) (fun z => nomatch z) fun tk => ⟨.bl _, w.H, I.tok tk, rfl, q.give k (rv_bl.mpr rfl) rfl⟩
          · exact False.elim q
        · exact False.elim q
  refine pe_weak (pe_callB cr gi mi (by first | rfl | decide +kernel) (pa_cons ha (pa_cons hy pa_nil rfl) (star_ns hs)) (by decide) (by decide) (star_ns hs) (star_any (by rfl))) fun σ H Q ⟨w, ρ, e, k, re, q⟩ => ?_
  subst e
  refine ⟨w, ρ, rfl, k, re, q.bind.mono ?_⟩
  rintro x H1 ⟨w1, d, rfl, e1, k1, r1, q1⟩
  exact ⟨w1, d, x, rfl, rfl, k1, r1, q1.of⟩
/-- dict displays with written texts as keys -/
theorem putK_new {kvs : List (Key × V)} {k : Key} {v : V} (h : k ∉ kvs.map (·.1)) : putK kvs k v = kvs ++ [(k, v)] := by
  unfold putK
  rw [if_neg]
  intro z
  obtain ⟨x, hx, e⟩ := List.any_eq_true.mp z
  exact h (List.mem_map.mpr ⟨x, hx, of_decide_eq_true e⟩)
theorem mergeK_nd : ∀ {more kvs : List (Key × V)}, ((kvs ++ more).map (·.1)).Nodup → mergeK kvs more = kvs ++ more
  | [], kvs, _ => by simp [mergeK]
  | p :: r, kvs, h => by
    have h1 : p.1 ∉ kvs.map (·.1) := by
      rw [List.map_append, List.map_cons] at h
      have := (List.nodup_append.mp h).2.2
      exact fun z => this _ z _ (List.mem_cons_self) rfl
    show mergeK (putK kvs p.1 p.2) r = _
    rw [putK_new h1, mergeK_nd (more := r) (kvs := kvs ++ [(p.1, p.2)]) (by simpa using h)]
    simp
/-- the pairs: keys written texts, values by reckonings -/
structure DPs (T : Tbl) (X : Cx) (W : WX) (pos : Pos) (ks : List Str) (keys : List (Option Expr)) (vals : List Expr) (mes : Env → Store → Res (List D)) : Prop where
  ex : ∃ trs, PPs X pos keys vals trs ∧ ∀ (w : Wd) (ρ : Env) (σ : St) (Q : List (V × V) → Hp → Prop), Ok X.K X.mg T w → RE X.K X.mg w ρ σ → out X.K X.mg T (RVs X.K X.mg) W σ (mes ρ w.S) w (fun vs H' => Q ((ks.map V.str).zip vs) H') → tPairs trs σ w.H Q
theorem dps_nil : DPs T X W pos [] [] [] (fun _ S => .ok [] S) := ⟨[], pps_nil, fun w ρ σ Q k re q => q.give (x := []) k RVs.nil⟩
theorem dps_cons {ks : List Str} {keys : List (Option Expr)} {vals : List Expr} {mes : Env → Store → Res (List D)} {x : Str} {j : Nat} {p2 : Pos} (ha : PE X a (tD X.K X.mg T W ma)) (hr : DPs T X W pos ks keys vals mes) :
    DPs T X W pos (x :: ks) (some (.Constant (.str x) j p2) :: keys) (a :: vals) (fun ρ S => (ma ρ S).bind fun d S1 => (mes ρ S1).bind fun ds S2 => .ok (d :: ds) S2) := by
  obtain ⟨trs, hp, sp⟩ := hr.ex
  refine ⟨(tC (.str x), tD X.K X.mg T W ma) :: trs, pps_cons pe_str ha hp, fun w ρ σ Q k re q => ?_⟩
  refine ⟨w, ρ, rfl, k, re, q.bind.mono ?_⟩
  rintro y H1 ⟨w1, d, rfl, e1, k1, r1, q1⟩
  refine sp w1 ρ σ _ k1 (re.mono e1) (q1.bind.mono ?_)
  rintro ys H2 ⟨w2, d2, rfl, e2, k2, r2, q2⟩
  exact q2.give (x := y :: ys) k2 (RVs.cons (Ex.rv e2 _ _ r1) r2)
theorem de_dic (fl : Bool) {ks : List Str} {keys : List (Option Expr)} {vals : List Expr} {mes : Env → Store → Res (List D)} (h : DPs T X W pos ks keys vals mes) (hall : keys.all (·.isSome) = true) (hl : keys.length = vals.length) (h0 : keys ≠ []) (h15 : keys.length ≤ 15) (hk : keys.length = ks.length) :
    PE X (.Dict keys vals pos) (tD X.K X.mg T W fun ρ S => (mes ρ S).bind fun ds S1 => if ds.length = ks.length ∧ ds.length ≤ 15 ∧ ks.Nodup then resK fl (ks.map Sum.inr) ds S1 else .bad) := by
  obtain ⟨trs, hp, sp⟩ := h.ex
  refine pe_weak (pe_disp hp hall hl h0 h15) fun σ H Q ⟨w, ρ, e, k, re, q⟩ => ?_
  subst e
  intro p np
  refine sp (w.hid p (.dK [])) ρ σ _ (k.hid np) (re.mono (Ex.hid np)) ?_
  show out X.K X.mg T (RVs X.K X.mg) W σ (mes ρ w.S) (w.hid p (.dK [])) _
  dsimp only at q
  cases em : mes ρ w.S with
  | bad => rw [em] at q; exact False.elim q
  | exc c d S => rw [em] at q; exact fun w' C dd v h1 h2 h3 h4 h5 h6 => q w' C dd v h1 ((Ex.hid np).trans h2) h3 h4 h5 h6
  | ok ds S =>
    rw [em] at q
    intro w1 vs hS e1 k1 r1
    dsimp only [Res.bind] at q
    split at q
    · rename_i hc
      obtain ⟨c1, c2, c3⟩ := hc
      have hA0 : (w.hid p (.dK [])).H p = some (.dK []) := upd_same
      have nD0 : NC (w.hid p (.dK [])) p := k.nat np
      have lv : vs.length = ks.length := by rw [r1.len, c1]
      let kvs : List (Key × V) := (ks.map Sum.inr).zip vs
      have kk1 : kvs.map (·.1) = ks.map Sum.inr := List.map_fst_zip (by simp [lv])
      have kk2 : kvs.map (·.2) = vs := List.map_snd_zip (by simp [lv])
      have hB : w1.B p := (e1.bar p _ hA0 nt_dK).mpr (.inr rfl)
      have nD : NC w1 p := e1.nc hA0 nt_dK nD0
      have hA : w1.H p = some (.dK []) := e1.hidd p _ hA0 nt_dK nD0 (.inr rfl)
      refine ⟨hA, kvs, ?_, by simp [kvs, lv]; omega, ?_⟩
      · show (ks.map V.str).zip vs = ((ks.map Sum.inr).zip vs).map _
        rw [List.zip_map_left, List.zip_map_left, List.map_map]
        rfl
      · rw [mergeK_nd (by rw [List.nil_append, kk1]; exact c3.map (f := fun x => (Sum.inr x : Key)) (fun a b h z => h (Sum.inr.inj z))), List.nil_append]
        obtain ⟨ok1, rr, rrs⟩ := k1.re (o := .dK kvs) hA True.intro hB nD
        exact out.shownK (w := w1.re p (.dK kvs)) np (Ex.re np ((Ex.hid np).trans e1)) ok1 upd_same hB nD kk1 (by rw [kk2]; exact rrs _ _ r1) (by rw [show (w1.re p (.dK kvs)).S = S from hS]; exact q)
    · exact False.elim q
theorem de_dic0 (fl : Bool) : PE X (.Dict [] [] pos) (tD X.K X.mg T W fun _ S => resK fl [] [] S) := by
  refine pe_weak pe_dnewK fun σ H Q ⟨w, ρ, e, k, re, q⟩ => ?_
  subst e
  intro p hp
  exact out.shownK (w := w.hid p (.dK [])) (vs := []) hp (Ex.hid hp) (k.hid hp) upd_same (.inr rfl) (k.nat hp) rfl RVs.nil q
end
end Tu
end L2
set_option Elab.async false
set_option linter.all false
set_option maxRecDepth 100000
set_option maxHeartbeats 8000000
/-! TB17: THE SOUNDNESS of the plain reckoning for expressions. -/
namespace L2
namespace Tu
open PySem PySem.Spec PyProof.Rows
open Classical
section
variable {T : Tbl} {X : Cx} {W : WX} {e : Expr} {es : List Expr}
theorem pe_as {m m' : Env → Store → Res D} (h : PE X e (tD X.K X.mg T W m)) (q : ∀ ρ S, m' ρ S = m ρ S) : PE X e (tD X.K X.mg T W m') := by
  have z : m' = m := funext fun ρ => funext fun S => q ρ S
  rw [z]
  exact h
theorem pt_as {m m' : Env → Store → Res Bool} (h : PT X e (tDT X.K X.mg T W m)) (q : ∀ ρ S, m' ρ S = m ρ S) : PT X e (tDT X.K X.mg T W m') := by
  have z : m' = m := funext fun ρ => funext fun S => q ρ S
  rw [z]
  exact h
theorem pw_as {m m' : Env → Store → Res Bool} (h : PW X e (tDT X.K X.mg T W m)) (q : ∀ ρ S, m' ρ S = m ρ S) : PW X e (tDT X.K X.mg T W m') := by
  have z : m' = m := funext fun ρ => funext fun S => q ρ S
  rw [z]
  exact h
theorem pts_as {m m' : Env → Store → Res Bool} (h : PTs X es (tDT X.K X.mg T W m)) (q : ∀ ρ S, m' ρ S = m ρ S) : PTs X es (tDT X.K X.mg T W m') := by
  have z : m' = m := funext fun ρ => funext fun S => q ρ S
  rw [z]
  exact h
theorem pa_as {m m' : Env → Store → Res (List D)} (h : PA X es (tDA X.K X.mg T W m)) (q : ∀ ρ S, m' ρ S = m ρ S) : PA X es (tDA X.K X.mg T W m') := by
  have z : m' = m := funext fun ρ => funext fun S => q ρ S
  rw [z]
  exact h
theorem pi_as {tg : Expr} {m m' : Env → Store → Res Src} (h : PI X tg e (tDI X.K X.mg T W m)) (q : ∀ ρ S, m' ρ S = m ρ S) : PI X tg e (tDI X.K X.mg T W m') := by
  have z : m' = m := funext fun ρ => funext fun S => q ρ S
  rw [z]
  exact h
theorem dps_as {pos : Pos} {ks : List Str} {keys : List (Option Expr)} {m m' : Env → Store → Res (List D)} (h : DPs T X W pos ks keys es m) (q : ∀ ρ S, m' ρ S = m ρ S) : DPs T X W pos ks keys es m' := by
  have z : m' = m := funext fun ρ => funext fun S => q ρ S
  rw [z]
  exact h
end
theorem ns_of {e : Expr} (h : (!isStar e) = true) : isStar e = false := by simpa using h
theorem set_of {e : Expr} (h : (!isSet e) = true) : isSet e = false := by simpa using h
theorem call_of {e : Expr} (h : (!isCall e) = true) : isCall e = false := by simpa using h
theorem slice_of {e : Expr} (h : (!isSlice e) = true) : isSlice e = false := by simpa using h
theorem all_cons_of {e : Expr} {es : List Expr} (h : (e :: es).all (fun e => !isStar e) = true) : isStar e = false ∧ es.all (fun e => !isStar e) = true := by
  rw [List.all_cons, Bool.and_eq_true] at h
  exact ⟨ns_of h.1, h.2⟩
variable {T : Tbl} {G : Gl0} {n : Nat}
theorem Ct.un {N : List Str} {sc : Scope} {cw : Str → Bool} {W : WX} {X : Cx} (h : Ct T G n N sc cw W X) : X.A.units + 64 < cLine := by
  have := h.room.un
  omega
theorem sCon {X : Cx} {W : WX} {d : D} {c : Const} {j : Nat} {p : Pos} (m : conB d c = true) : PE X (.Constant c j p) (tD X.K X.mg T W fun _ S => .ok d S) := by
  cases d <;> cases c <;> first | (simp [conB] at m; done) | skip
  · exact de_con pe_non fun w => rv_non.mpr rfl
  · rename_i b b'
    have e : b = b' := by simpa [conB] using m
    subst e
    exact de_con pe_bl fun w => rv_bl.mpr rfl
  · rename_i b b'
    have e : b = b' := by simpa [conB] using m
    subst e
    exact de_con pe_int fun w => rv_int.mpr rfl
  · rename_i b b'
    have e : b = b' := by simpa [conB] using m
    subst e
    exact de_con pe_str fun w => rv_str.mpr rfl
section
variable {N : List Str} {sc : Scope} {cw : Str → Bool} {W : WX} {X : Cx}
theorem sBi {fl : Bool} {f : Str} {x : Expr} {xs : List Expr} {p pos : Pos} {mes : Env → Store → Res (List D)} (h : Ct T G n N sc cw W X) (hf : f ∈ biNames) (gl : glB sc f = true) (ha : PA X (x :: xs) (tDA X.K X.mg T W mes)) (hns : (x :: xs).all (fun e => !isStar e) = true) :
    PE X (.Call (.Name f p) (x :: xs) [] pos) (tD X.K X.mg T W fun ρ S => (mes ρ S).bind fun ds S1 => Res.of (biF fl f ds S1)) := by
  obtain ⟨n1, n2⟩ := all_cons_of hns
  have mg := h.mod.bi f (by simp [hf])
  have g := h.gl gl
  have he : starEach (x :: xs) X.env = (false, eval x X.env) :: starEach xs X.env := star_ns n1
  have hpl : (backTo pos (starEach xs X.env)).any (·.1) = false := star_any n2
  have hf' : f = "len" ∨ f = "abs" ∨ f = "int" ∨ f = "max" ∨ f = "min" ∨ f = "repr" ∨ f = "all" ∨ f = "any" ∨ f = "list" := by simpa [biNames] using hf
  rcases hf' with rfl | rfl | rfl | rfl | rfl | rfl | rfl | rfl | rfl
  · exact de_biB callR_len g mg rfl ha (by decide) (by decide) he hpl
  · exact de_biB callR_abs g mg rfl ha (by decide) (by decide) he hpl
  · exact de_biT callR_int g mg rfl ha (by decide) (by decide) he hpl
  · exact de_biB (callR_max h.calm) g mg rfl ha (by decide) (by decide) he hpl
  · exact de_biB (callR_min h.calm) g mg rfl ha (by decide) (by decide) he hpl
  · exact de_biB (callR_repr h.mod.sk h.gd h.un) g mg rfl ha (by decide) (by decide) he hpl
  · exact de_biB (callR_all h.calm) g mg rfl ha (by decide) (by decide) he hpl
  · exact de_biB (callR_any h.calm) g mg rfl ha (by decide) (by decide) he hpl
  · exact de_biT (callR_list fl) g mg rfl ha (by decide) (by decide) he hpl
theorem tyV_lst {w : Wd} {d : D} {v : V} {m : Str} (k : Ok X.K X.mg T w) (r : RV X.K X.mg w d v) (hm : m = "append" ∨ m = "extend") (h : isT m d w.S = true) : tyV X.K "list" v w.H := by
  unfold isT at h
  rw [if_pos hm] at h
  obtain ⟨xs, hx⟩ := Option.isSome_iff_exists.mp h
  obtain ⟨a, vs, rfl, h1, r1⟩ := at_lst k r (lstOf_at hx)
  exact .inl ⟨rfl, vs, h1⟩
theorem sMb {o x : Expr} {xs : List Expr} {m : Str} {ap p : Pos} {mo : Env → Store → Res D} {mes : Env → Store → Res (List D)} (hm : m ∈ mbNames) (hc : isCall o = false) (ho : PE X o (tD X.K X.mg T W mo)) (ha : PA X (x :: xs) (tDA X.K X.mg T W mes)) (hns : (x :: xs).all (fun e => !isStar e) = true)
    (hl : (x :: xs).length < 30) (hp : (ap.endLine == p.line) = true) :
    PE X (.Call (.Attribute o m ap) (x :: xs) [] p) (tD X.K X.mg T W fun ρ S => (mo ρ S).bind fun d S1 => if isT m d S1 = true then (mes ρ S1).bind fun ds S2 => Res.of (meF m d ds S2) else .bad) := by
  obtain ⟨n1, n2⟩ := all_cons_of hns
  have hm' : m = "append" ∨ m = "extend" := by simpa [mbNames] using hm
  rcases hm' with rfl | rfl
  · exact de_mb PySem.F.plainAttrs_list PySem.F.slot_list_append PySem.F.type_list_append mtR_append (fun w d v k r h => tyV_lst k r (.inl rfl) h) ho ha (base_of hc) (few_ok hns hl) hp (star_ns n1) (star_any n2)
  · exact de_mb PySem.F.plainAttrs_list PySem.F.slot_list_extend PySem.F.type_list_extend mtR_extend (fun w d v k r h => tyV_lst k r (.inr rfl) h) ho ha (base_of hc) (few_ok hns hl) hp (star_ns n1) (star_any n2)
end
end Tu
end L2
set_option Elab.async false
set_option linter.all false
set_option maxRecDepth 100000
set_option maxHeartbeats 16000000
/-! TB18: THE SOUNDNESS of the plain reckoning for expressions: the main theorem. -/
namespace L2
namespace Tu
open PySem PySem.Spec PyProof.Rows
open Classical
variable {T : Tbl} {G : Gl0} {n : Nat}
mutual
theorem sE : ∀ (i : IE) {N : List Str} {sc : Scope} {cw : Str → Bool} {W : WX} {X : Cx} {e : Expr}, Ct T G n N sc cw W X → mE N sc cw G.toNm i e = true → PE X e (tD X.K X.mg T W fun ρ S => ev G i ρ S)
  | .var i, N, sc, cw, W, X, e, h, m => by
    cases e <;> first | (simp [mE] at m; done) | skip
    rename_i x p
    simp only [mE, Bool.and_eq_true, decide_eq_true_eq] at m
    obtain ⟨⟨h1, h2⟩, h3⟩ := m
    exact pe_as (de_var (by rw [h.hN]; exact h1) (by rw [h.hsc]; exact vis_of h2) (dbg_of h3).1 (dbg_of h3).2) fun ρ S => by rw [ev] <;> rfl
  | .con d, N, sc, cw, W, X, e, h, m => by
    cases e <;> first | (simp [mE] at m; done) | skip
    simp only [mE] at m
    exact pe_as (sCon m) fun ρ S => by rw [ev]
  | .glo x, N, sc, cw, W, X, e, h, m => by
    cases e <;> first | (simp [mE] at m; done) | skip
    rename_i y p
    simp only [mE, Bool.and_eq_true, decide_eq_true_eq] at m
    obtain ⟨⟨h1, h2⟩, h3⟩ := m
    subst h1
    cases hx : G.con x with
    | none => exact pe_as de_nev fun ρ S => by rw [ev, hx]
    | some d =>
      obtain ⟨u, v, hm, r, rv⟩ := h.mod.con x d hx
      exact pe_as (de_con (pe_glob (h.gl h2) hm r (dbg_of h3).1) rv) fun ρ S => by rw [ev, hx]
  | .lst fl es, N, sc, cw, W, X, e, h, m => by
    cases e <;> first | (simp [mE] at m; done) | skip
    simp only [mE] at m
    exact pe_as (de_lst fl (sEs es h m)) fun ρ S => by rw [ev]
  | .tup es, N, sc, cw, W, X, e, h, m => by
    cases e <;> first | (simp [mE] at m; done) | skip
    simp only [mE] at m
    exact pe_as (de_tup (sEs es h m)) fun ρ S => by rw [ev]
  | .bin op a b, N, sc, cw, W, X, e, h, m => by
    cases e <;> first | (simp [mE] at m; done) | skip
    rename_i x op' y p
    simp only [mE, Bool.and_eq_true, decide_eq_true_eq] at m
    obtain ⟨⟨h1, h2⟩, h3⟩ := m
    subst h1
    exact pe_as (de_op (opR_bin op) (sE a h h2) (sE b h h3)) fun ρ S => by rw [ev]
  | .neg a, N, sc, cw, W, X, e, h, m => by
    cases e <;> first | (simp [mE] at m; done) | skip
    rename_i op x p
    cases op <;> first | (simp [mE] at m; done) | skip
    simp only [mE] at m
    exact pe_as (de_un unR_neg (sE a h m)) fun ρ S => by rw [ev]
  | .not a, N, sc, cw, W, X, e, h, m => by
    cases e <;> first | (simp [mE] at m; done) | skip
    rename_i op x p
    cases op <;> first | (simp [mE] at m; done) | skip
    simp only [mE] at m
    exact pe_as (de_not (sE a h m)) fun ρ S => by rw [ev]
  | .bop an es, N, sc, cw, W, X, e, h, m => by
    cases e <;> first | (simp [mE] at m; done) | skip
    rename_i op xs p
    cases op
    · simp only [mE, Bool.and_eq_true] at m
      obtain ⟨⟨h1, h2⟩, h3⟩ := m
      subst h1
      exact pe_as (sBA es h h2 h3) fun ρ S => by rw [ev]
    · simp only [mE, Bool.and_eq_true, Bool.not_eq_true'] at m
      obtain ⟨⟨h1, h2⟩, h3⟩ := m
      subst h1
      exact pe_as (sBO es h h2 h3) fun ρ S => by rw [ev]
  | .cmp op a b, N, sc, cw, W, X, e, h, m => by
    cases e <;> first | (simp [mE] at m; done) | skip
    rename_i x ops ys p
    rcases ops with _ | ⟨o, _ | ⟨o2, ops⟩⟩ <;> rcases ys with _ | ⟨y, _ | ⟨y2, ys⟩⟩ <;> first | (simp [mE] at m; done) | skip
    simp only [mE, Bool.and_eq_true, decide_eq_true_eq] at m
    obtain ⟨⟨⟨h1, h2⟩, h3⟩, h4⟩ := m
    subst h1
    exact pe_as (de_cmp (opR_cmp h.mod.sk h.un op) (sE a h h2) (sE b h h3) (behind_of (set_of h4))) fun ρ S => by rw [ev]
  | .cmp2 op op2 a b c, N, sc, cw, W, X, e, h, m => by
    cases e <;> first | (simp [mE] at m; done) | skip
    rename_i x ops ys p
    rcases ops with _ | ⟨o, _ | ⟨o2, _ | ⟨o3, ops⟩⟩⟩ <;> rcases ys with _ | ⟨y, _ | ⟨y2, _ | ⟨y3, ys⟩⟩⟩ <;> first | (simp [mE] at m; done) | skip
    simp only [mE, Bool.and_eq_true, decide_eq_true_eq] at m
    obtain ⟨⟨⟨⟨⟨h0, h1⟩, h2⟩, h3⟩, h4⟩, h5⟩ := m
    subst h0 h1
    exact pe_as (de_cmp2 (opR_cmp h.mod.sk h.un op) (opR_cmp h.mod.sk h.un op2) (sE a h h2) (sE b h h3) (sE c h h4) (last_of (set_of h5))) fun ρ S => by rw [ev] <;> rfl
  | .ite c a b, N, sc, cw, W, X, e, h, m => by
    cases e <;> first | (simp [mE] at m; done) | skip
    simp only [mE, Bool.and_eq_true] at m
    obtain ⟨⟨h1, h2⟩, h3⟩ := m
    exact pe_as (de_ite (sC c h h1) (sE a h h2) (sE b h h3)) fun ρ S => by rw [ev]
  | .idx a b, N, sc, cw, W, X, e, h, m => by
    cases e <;> first | (simp [mE] at m; done) | skip
    simp only [mE, Bool.and_eq_true] at m
    obtain ⟨⟨h1, h2⟩, h3⟩ := m
    exact pe_as (de_idx (plainIx_of (slice_of h3)) (sE a h h1) (sE b h h2)) fun ρ S => by rw [ev]
  | .slc _ _ _, N, sc, cw, W, X, e, h, m => by simp [mE] at m
  | .fld a f, N, sc, cw, W, X, e, h, m => by
    cases e <;> first | (simp [mE] at m; done) | skip
    simp only [mE, Bool.and_eq_true, decide_eq_true_eq] at m
    obtain ⟨⟨⟨h1, h2⟩, h3⟩, h4⟩ := m
    subst h4
    subst h1
    exact pe_as (de_fld h.mod.xc (sE a h h2) (base_of (call_of h3))) fun ρ S => by rw [ev]
  | .fn f es, N, sc, cw, W, X, e, h, m => by
    cases e <;> first | (simp [mE] at m; done) | skip
    rename_i g xs ks p
    cases ks <;> first | (simp [mE] at m; done) | skip
    simp only [mE, Bool.and_eq_true, decide_eq_true_eq] at m
    obtain ⟨⟨⟨⟨⟨h1, h2⟩, h3⟩, h4⟩, h5⟩, h6⟩ := m
    obtain ⟨gp, rfl⟩ := nameIs_of h1
    obtain ⟨fa, f1, f2, f3⟩ := h.mod.fn f h2
    cases xs with
    | nil =>
      cases es with
      | nil => exact pe_as (de_fn0 f3 h.room h.gd h.tk (h.gl h3) f1 f2 (dbg_of h4).1) fun ρ S => by rw [ev, evs]
      | cons a as => simp [mEs] at h5
      | star a as => simp [mEs] at h5
    | cons x xs =>
      obtain ⟨n1, n2⟩ := all_cons_of h6
      exact pe_as (de_fn f3 h.room h.gd h.tk (h.gl h3) f1 f2 (sEs es h h5) (dbg_of h4).1 (star_ns n1) (star_any n2)) fun ρ S => by rw [ev]
  | .mk f es, N, sc, cw, W, X, e, h, m => by
    cases e <;> first | (simp [mE] at m; done) | skip
    rename_i g xs ks p
    cases ks <;> first | (simp [mE] at m; done) | skip
    simp only [mE, Bool.and_eq_true, decide_eq_true_eq] at m
    obtain ⟨⟨⟨⟨⟨h1, h2⟩, h3⟩, h4⟩, h5⟩, h6⟩ := m
    obtain ⟨gp, rfl⟩ := nameIs_of h1
    obtain ⟨fa, f1, f2, f3⟩ := h.mod.ma f h2
    cases xs with
    | nil =>
      cases es with
      | nil => exact pe_as (de_fn0 f3 h.room h.gd h.tk (h.gl h3) f1 f2 (dbg_of h4).1) fun ρ S => by rw [ev, evs]
      | cons a as => simp [mEs] at h5
      | star a as => simp [mEs] at h5
    | cons x xs =>
      obtain ⟨n1, n2⟩ := all_cons_of h6
      exact pe_as (de_fn f3 h.room h.gd h.tk (h.gl h3) f1 f2 (sEs es h h5) (dbg_of h4).1 (star_ns n1) (star_any n2)) fun ρ S => by rw [ev]
  | .bi fl f es, N, sc, cw, W, X, e, h, m => by
    cases e <;> first | (simp [mE] at m; done) | skip
    rename_i g xs ks p
    cases ks <;> cases xs <;> first | (simp [mE] at m; done) | skip
    simp only [mE, Bool.and_eq_true, decide_eq_true_eq] at m
    obtain ⟨⟨⟨⟨h1, h2⟩, h3⟩, h5⟩, h6⟩ := m
    obtain ⟨gp, rfl⟩ := nameIs_of h1
    exact pe_as (sBi h h2 h3 (sEs es h h5) h6) fun ρ S => by rw [ev]
  | .isi a c, N, sc, cw, W, X, e, h, m => by
    cases e <;> first | (simp [mE] at m; done) | skip
    rename_i g xs ks p
    cases ks <;> rcases xs with _ | ⟨x, _ | ⟨y, _ | ⟨z, xs⟩⟩⟩ <;> first | (simp [mE] at m; done) | skip
    simp only [mE, Bool.and_eq_true, decide_eq_true_eq] at m
    obtain ⟨⟨⟨⟨⟨⟨⟨h1, h2⟩, h3⟩, h4⟩, h5⟩, h6⟩, h7⟩, h8⟩ := m
    obtain ⟨gp, rfl⟩ := nameIs_of h1
    obtain ⟨gq, rfl⟩ := nameIs_of h5
    exact pe_as (de_isi h.mod.xc (h.mod.isi c h6) (h.gl h2) (h.mod.bi _ (by simp)) (h.gl h7) (dbg_of h8).1 (sE a h h3) (ns_of h4)) fun ρ S => by rw [ev]
  | .me _ _ _, N, sc, cw, W, X, e, h, m => by simp [mE] at m
  | .mb a mm es, N, sc, cw, W, X, e, h, m => by
    cases e <;> first | (simp [mE] at m; done) | skip
    rename_i g xs ks p
    cases g <;> cases ks <;> cases xs <;> first | (simp [mE] at m; done) | skip
    simp only [mE, Bool.and_eq_true, decide_eq_true_eq] at m
    obtain ⟨⟨⟨⟨⟨⟨⟨h1, h2⟩, h3⟩, h4⟩, h5⟩, h6⟩, h7⟩, h8⟩ := m
    subst h1
    exact pe_as (sMb h2 (call_of h4) (sE a h h3) (sEs es h h5) h6 h7 h8) fun ρ S => by rw [ev]
  | .lrg fl a, N, sc, cw, W, X, e, h, m => by
    cases e <;> first | (simp [mE] at m; done) | skip
    rename_i g xs ks p
    cases ks <;> rcases xs with _ | ⟨x, _ | ⟨y, xs⟩⟩ <;> first | (simp [mE] at m; done) | skip
    cases x <;> first | (simp [mE] at m; done) | skip
    rename_i g2 xs2 ks2 p2
    cases ks2 <;> rcases xs2 with _ | ⟨x, _ | ⟨y, xs2⟩⟩ <;> first | (simp [mE] at m; done) | skip
    simp only [mE, Bool.and_eq_true] at m
    obtain ⟨⟨⟨⟨⟨h1, h2⟩, h3⟩, h4⟩, h5⟩, h6⟩ := m
    obtain ⟨gp, rfl⟩ := nameIs_of h1
    obtain ⟨gq, rfl⟩ := nameIs_of h2
    exact pe_as (de_lrg fl h.calm (h.gl h3) (h.mod.bi _ (by simp [biNames])) (h.gl h4) (h.mod.bi _ (by simp)) (sE a h h5) (star_ns (ns_of h6))) fun ρ S => by rw [ev] <;> rfl
  | .lc fl own elt tg it ifs, N, sc, cw, W, X, e, h, m => by
    cases e <;> first | (simp [mE] at m; done) | skip
    rename_i x gs scope p
    rcases gs with _ | ⟨⟨t, i, fs, ay⟩, _ | ⟨g2, gs⟩⟩ <;> first | (simp [mE] at m; done) | skip
    simp only [mE, Bool.and_eq_true, decide_eq_true_eq] at m
    obtain ⟨⟨⟨⟨⟨⟨⟨h0, h1⟩, h2⟩, h3⟩, h4⟩, h5⟩, h6⟩, h7⟩ := m
    subst h0
    exact pe_as (de_lc h.calm (by rw [h.hN]; exact h.nd) (sI it h h3) (by rw [h.hN, h.hsc]; exact blkOk_by h1) (is := slotsT tg) (fun i hi => by simpa using List.all_eq_true.mp h2 i hi)
      (fun s H C cl fp => sT tg (h.blk (s := s) (H := H) (C := C) (cl := cl) (fp := fp) (scope := scope)) h5) (fun s H C cl fp => sA ifs (h.blk (s := s) (H := H) (C := C) (cl := cl) (fp := fp) (scope := scope)) h6)
      (fun s H C cl fp => sE elt (h.blk (s := s) (H := H) (C := C) (cl := cl) (fp := fp) (scope := scope)) h7) (fold_of (set_of h4))) fun ρ S => by rw [ev]
  | .dic fl ks es, N, sc, cw, W, X, e, h, m => by
    cases e <;> first | (simp [mE] at m; done) | skip
    rename_i keys vals p
    simp only [mE, Bool.and_eq_true, decide_eq_true_eq] at m
    obtain ⟨⟨⟨⟨⟨⟨h1, h2⟩, h3⟩, h4⟩, h5⟩, h6⟩, h7⟩ := m
    cases keys with
    | nil =>
      cases vals with
      | nil =>
        cases ks with
        | nil =>
          cases es with
          | nil => exact pe_as (de_dic0 fl) fun ρ S => by rw [ev, evs]; simp [Res.bind]
          | cons a as => simp [mEs] at h2
          | star a as => simp [mEs] at h2
        | cons k ks => simp [mKs] at h1
      | cons v vals => simp at h6
    | cons k keys => exact pe_as (de_dic fl (sDs es ks h h1 h2 h3 h6) h7 h6 (by simp) h4 h5) fun ρ S => by rw [ev]
  | .nev, N, sc, cw, W, X, e, h, m => pe_as de_nev fun ρ S => by rw [ev]
theorem sEs : ∀ (i : IEs) {N : List Str} {sc : Scope} {cw : Str → Bool} {W : WX} {X : Cx} {es : List Expr}, Ct T G n N sc cw W X → mEs N sc cw G.toNm i es = true → PA X es (tDA X.K X.mg T W fun ρ S => evs G i ρ S)
  | .nil, N, sc, cw, W, X, es, h, m => by
    cases es <;> first | (simp [mEs] at m; done) | skip
    exact pa_as da_nil fun ρ S => by rw [evs]
  | .cons a as, N, sc, cw, W, X, es, h, m => by
    cases es <;> first | (simp [mEs] at m; done) | skip
    simp only [mEs, Bool.and_eq_true] at m
    obtain ⟨⟨h1, h2⟩, h3⟩ := m
    exact pa_as (da_cons (sE a h h1) (sEs as h h2) (star_ns (ns_of h3))) fun ρ S => by rw [evs]
  | .star a as, N, sc, cw, W, X, es, h, m => by
    cases es <;> first | (simp [mEs] at m; done) | skip
    rename_i e es
    cases e <;> first | (simp [mEs] at m; done) | skip
    simp only [mEs, Bool.and_eq_true] at m
    exact pa_as (da_star (sE a h m.1) (sEs as h m.2)) fun ρ S => by rw [evs] <;> rfl
theorem sDs : ∀ (i : IEs) (ks : List Str) {N : List Str} {sc : Scope} {cw : Str → Bool} {W : WX} {X : Cx} {keys : List (Option Expr)} {es : List Expr} {pos : Pos}, Ct T G n N sc cw W X → mKs ks keys = true → mEs N sc cw G.toNm i es = true → es.all (fun e => !isStar e) = true → keys.length = es.length →
    DPs T X W pos ks keys es (fun ρ S => evs G i ρ S)
  | .nil, ks, N, sc, cw, W, X, keys, es, pos, h, mk, m, hs, hl => by
    cases es <;> first | (simp [mEs] at m; done) | skip
    cases keys <;> first | (simp at hl; done) | skip
    cases ks <;> first | (simp [mKs] at mk; done) | skip
    exact dps_as dps_nil fun ρ S => by rw [evs]
  | .cons a as, ks, N, sc, cw, W, X, keys, es, pos, h, mk, m, hs, hl => by
    cases es <;> first | (simp [mEs] at m; done) | skip
    rename_i e es
    rcases keys with _ | ⟨_ | k, keys⟩ <;> first | (simp at hl; done) | skip
    · cases ks <;> simp [mKs] at mk
    cases ks <;> first | (simp [mKs] at mk; done) | skip
    cases k <;> first | (simp [mKs] at mk; done) | skip
    rename_i x ks c j p2
    cases c <;> first | (simp [mKs] at mk; done) | skip
    simp only [mKs, Bool.and_eq_true, decide_eq_true_eq] at mk
    obtain ⟨rfl, mk⟩ := mk
    simp only [mEs, Bool.and_eq_true] at m
    exact dps_as (dps_cons (sE a h m.1.1) (sDs as ks h mk m.1.2 (all_cons_of hs).2 (by simpa using hl))) fun ρ S => by rw [evs]
  | .star a as, ks, N, sc, cw, W, X, keys, es, pos, h, mk, m, hs, hl => by
    cases es <;> first | (simp [mEs] at m; done) | skip
    rename_i e es
    cases e <;> first | (simp [mEs] at m; done) | skip
    simp [isStar] at hs
theorem sBA : ∀ (i : IEs) {N : List Str} {sc : Scope} {cw : Str → Bool} {W : WX} {X : Cx} {es : List Expr} {pos : Pos}, Ct T G n N sc cw W X → mEs N sc cw G.toNm i es = true → es.all (fun e => !isStar e) = true → PE X (.BoolOp .And es pos) (tD X.K X.mg T W fun ρ S => evB G true i ρ S)
  | .nil, N, sc, cw, W, X, es, pos, h, m, hs => pe_as de_nev fun ρ S => by rw [evB]
  | .star a as, N, sc, cw, W, X, es, pos, h, m, hs => pe_as de_nev fun ρ S => by rw [evB]
  | .cons a .nil, N, sc, cw, W, X, es, pos, h, m, hs => by
    rcases es with _ | ⟨e, _ | ⟨e2, es⟩⟩ <;> first | (simp [mEs] at m; done) | skip
    simp only [mEs, Bool.and_eq_true] at m
    exact pe_as (pe_one (sE a h m.1.1)) fun ρ S => by rw [evB]
  | .cons a (.cons b bs), N, sc, cw, W, X, es, pos, h, m, hs => by
    rcases es with _ | ⟨e, _ | ⟨e2, es⟩⟩ <;> first | (simp [mEs] at m; done) | skip
    rw [mEs] at m
    simp only [Bool.and_eq_true] at m
    exact pe_as (de_and (sE a h m.1.1) (sBA (.cons b bs) h m.1.2 (all_cons_of hs).2)) fun ρ S => by rw [evB] <;> rfl
  | .cons a (.star b bs), N, sc, cw, W, X, es, pos, h, m, hs => pe_as de_nev fun ρ S => by rw [evB]
theorem sBO : ∀ (i : IEs) {N : List Str} {sc : Scope} {cw : Str → Bool} {W : WX} {X : Cx} {es : List Expr} {pos : Pos}, Ct T G n N sc cw W X → mEs N sc cw G.toNm i es = true → es.all (fun e => !isStar e) = true → PE X (.BoolOp .Or es pos) (tD X.K X.mg T W fun ρ S => evB G false i ρ S)
  | .nil, N, sc, cw, W, X, es, pos, h, m, hs => pe_as de_nev fun ρ S => by rw [evB]
  | .star a as, N, sc, cw, W, X, es, pos, h, m, hs => pe_as de_nev fun ρ S => by rw [evB]
  | .cons a .nil, N, sc, cw, W, X, es, pos, h, m, hs => by
    rcases es with _ | ⟨e, _ | ⟨e2, es⟩⟩ <;> first | (simp [mEs] at m; done) | skip
    simp only [mEs, Bool.and_eq_true] at m
    exact pe_as (pe_one (sE a h m.1.1)) fun ρ S => by rw [evB]
  | .cons a (.cons b bs), N, sc, cw, W, X, es, pos, h, m, hs => by
    rcases es with _ | ⟨e, _ | ⟨e2, es⟩⟩ <;> first | (simp [mEs] at m; done) | skip
    rw [mEs] at m
    simp only [Bool.and_eq_true] at m
    exact pe_as (de_or (sE a h m.1.1) (sBO (.cons b bs) h m.1.2 (all_cons_of hs).2)) fun ρ S => by rw [evB] <;> rfl
  | .cons a (.star b bs), N, sc, cw, W, X, es, pos, h, m, hs => pe_as de_nev fun ρ S => by rw [evB]
theorem sC : ∀ (i : IC) {N : List Str} {sc : Scope} {cw : Str → Bool} {W : WX} {X : Cx} {e : Expr}, Ct T G n N sc cw W X → mC N sc cw G.toNm i e = true → PT X e (tDT X.K X.mg T W fun ρ S => evT G i ρ S)
  | .val a, N, sc, cw, W, X, e, h, m => by
    simp only [mC, Bool.and_eq_true] at m
    exact pt_as (dt_val (sE a h m.1) (test_of m.2)) fun ρ S => by rw [evT]
  | .not c, N, sc, cw, W, X, e, h, m => by
    cases e <;> first | (simp [mC] at m; done) | skip
    rename_i op x p
    cases op <;> first | (simp [mC] at m; done) | skip
    simp only [mC] at m
    exact pt_as (dt_not (sC c h m)) fun ρ S => by rw [evT]
  | .bop an cs, N, sc, cw, W, X, e, h, m => by
    cases e <;> first | (simp [mC] at m; done) | skip
    rename_i op xs p
    cases op
    · simp only [mC, Bool.and_eq_true] at m
      obtain ⟨h1, h2⟩ := m
      subst h1
      exact pt_as (sWA cs h h2).pt fun ρ S => by rw [evT]
    · simp only [mC, Bool.and_eq_true, Bool.not_eq_true'] at m
      obtain ⟨h1, h2⟩ := m
      subst h1
      exact pt_as (sWO cs h h2).pt fun ρ S => by rw [evT]
  | .cmp op a b, N, sc, cw, W, X, e, h, m => by
    cases e <;> first | (simp [mC] at m; done) | skip
    rename_i x ops ys p
    rcases ops with _ | ⟨o, _ | ⟨o2, ops⟩⟩ <;> rcases ys with _ | ⟨y, _ | ⟨y2, ys⟩⟩ <;> first | (simp [mC] at m; done) | skip
    simp only [mC, Bool.and_eq_true, decide_eq_true_eq] at m
    obtain ⟨⟨⟨h1, h2⟩, h3⟩, h4⟩ := m
    subst h1
    exact pt_as (dt_cmp (opR_cmp h.mod.sk h.un op) (sE a h h2) (sE b h h3) (behind_of (set_of h4))) fun ρ S => by rw [evT] <;> rfl
  | .cmp2 op op2 a b c, N, sc, cw, W, X, e, h, m => by
    cases e <;> first | (simp [mC] at m; done) | skip
    rename_i x ops ys p
    rcases ops with _ | ⟨o, _ | ⟨o2, _ | ⟨o3, ops⟩⟩⟩ <;> rcases ys with _ | ⟨y, _ | ⟨y2, _ | ⟨y3, ys⟩⟩⟩ <;> first | (simp [mC] at m; done) | skip
    simp only [mC, Bool.and_eq_true, decide_eq_true_eq] at m
    obtain ⟨⟨⟨⟨⟨h0, h1⟩, h2⟩, h3⟩, h4⟩, h5⟩ := m
    subst h0 h1
    exact pt_as (dt_cmp2 (opR_cmp h.mod.sk h.un op) (opR_cmp h.mod.sk h.un op2) (sE a h h2) (sE b h h3) (sE c h h4) (last_of (set_of h5))) fun ρ S => by rw [evT] <;> rfl
theorem sWA : ∀ (i : ICs) {N : List Str} {sc : Scope} {cw : Str → Bool} {W : WX} {X : Cx} {es : List Expr} {pos : Pos}, Ct T G n N sc cw W X → mCs N sc cw G.toNm i es = true → PW X (.BoolOp .And es pos) (tDT X.K X.mg T W fun ρ S => evBT G true i ρ S)
  | .nil, N, sc, cw, W, X, es, pos, h, m => ⟨fun wh pins s σ H Q I ⟨w, ρ, _, _, _, q⟩ => by
      simp only [evBT] at q
      exact False.elim q⟩
  | .cons a .nil, N, sc, cw, W, X, es, pos, h, m => by
    rcases es with _ | ⟨e, _ | ⟨e2, es⟩⟩ <;> first | (simp [mCs] at m; done) | skip
    simp only [mCs, Bool.and_eq_true] at m
    exact pw_as (pw_and1 (sC a h m.1)) fun ρ S => by rw [evBT]
  | .cons a (.cons b bs), N, sc, cw, W, X, es, pos, h, m => by
    rcases es with _ | ⟨e, _ | ⟨e2, es⟩⟩ <;> first | (simp [mCs] at m; done) | skip
    rw [mCs] at m
    simp only [Bool.and_eq_true] at m
    exact pw_as (dw_and (sC a h m.1) (sWA (.cons b bs) h m.2)) fun ρ S => by rw [evBT]
theorem sWO : ∀ (i : ICs) {N : List Str} {sc : Scope} {cw : Str → Bool} {W : WX} {X : Cx} {es : List Expr} {pos : Pos}, Ct T G n N sc cw W X → mCs N sc cw G.toNm i es = true → PW X (.BoolOp .Or es pos) (tDT X.K X.mg T W fun ρ S => evBT G false i ρ S)
  | .nil, N, sc, cw, W, X, es, pos, h, m => ⟨fun wh pins s σ H Q I ⟨w, ρ, _, _, _, q⟩ => by
      simp only [evBT] at q
      exact False.elim q⟩
  | .cons a .nil, N, sc, cw, W, X, es, pos, h, m => by
    rcases es with _ | ⟨e, _ | ⟨e2, es⟩⟩ <;> first | (simp [mCs] at m; done) | skip
    simp only [mCs, Bool.and_eq_true] at m
    exact pw_as (pw_or1 (sC a h m.1)) fun ρ S => by rw [evBT]
  | .cons a (.cons b bs), N, sc, cw, W, X, es, pos, h, m => by
    rcases es with _ | ⟨e, _ | ⟨e2, es⟩⟩ <;> first | (simp [mCs] at m; done) | skip
    rw [mCs] at m
    simp only [Bool.and_eq_true] at m
    exact pw_as (dw_or (sC a h m.1) (sWO (.cons b bs) h m.2)) fun ρ S => by rw [evBT]
theorem sA : ∀ (i : ICs) {N : List Str} {sc : Scope} {cw : Str → Bool} {W : WX} {X : Cx} {es : List Expr}, Ct T G n N sc cw W X → mCs N sc cw G.toNm i es = true → PTs X es (tDT X.K X.mg T W fun ρ S => evA G i ρ S)
  | .nil, N, sc, cw, W, X, es, h, m => by
    cases es <;> first | (simp [mCs] at m; done) | skip
    exact ⟨fun pins s σ H Q I ⟨w, ρ, e, k, re, q⟩ => pts_nil.run pins s σ H Q I (by
      subst e
      simp only [evA] at q
      exact q.give (x := true) k rfl)⟩
  | .cons a .nil, N, sc, cw, W, X, es, h, m => by
    rcases es with _ | ⟨e, _ | ⟨e2, es⟩⟩ <;> first | (simp [mCs] at m; done) | skip
    simp only [mCs, Bool.and_eq_true] at m
    exact pts_as (pts_one (sC a h m.1)) fun ρ S => by rw [evA]
  | .cons a (.cons b bs), N, sc, cw, W, X, es, h, m => ⟨fun pins s σ H Q I ⟨w, ρ, _, _, _, q⟩ => by
      simp only [evA] at q
      exact False.elim q⟩
theorem sI : ∀ (i : II) {N : List Str} {sc : Scope} {cw : Str → Bool} {W : WX} {X : Cx} {t e : Expr}, Ct T G n N sc cw W X → mI N sc cw G.toNm i t e = true → PI X t e (tDI X.K X.mg T W fun ρ S => evI G i ρ S)
  | .val a, N, sc, cw, W, X, t, e, h, m => by
    simp only [mI] at m
    exact pi_as (di_val (sE a h m)) fun ρ S => by rw [evI]
  | .rng a, N, sc, cw, W, X, t, e, h, m => by
    cases e <;> first | (simp [mI] at m; done) | skip
    rename_i g xs ks p
    cases ks <;> rcases xs with _ | ⟨x, _ | ⟨y, xs⟩⟩ <;> first | (simp [mI] at m; done) | skip
    simp only [mI, Bool.and_eq_true] at m
    obtain ⟨⟨⟨h1, h2⟩, h3⟩, h4⟩ := m
    obtain ⟨gp, rfl⟩ := nameIs_of h1
    exact pi_as (di_rng (h.gl h2) (h.mod.bi _ (by simp)) (sE a h h3) (star_ns (ns_of h4))) fun ρ S => by rw [evI]
  | .enu a, N, sc, cw, W, X, t, e, h, m => by
    cases t <;> cases e <;> first | (simp [mI] at m; done) | skip
    rename_i g xs ks p
    cases ks <;> rcases xs with _ | ⟨x, _ | ⟨y, xs⟩⟩ <;> first | (simp [mI] at m; done) | skip
    simp only [mI, Bool.and_eq_true] at m
    obtain ⟨⟨⟨h1, h2⟩, h3⟩, h4⟩ := m
    obtain ⟨gp, rfl⟩ := nameIs_of h1
    exact pi_as (di_enu (h.gl h2) (h.mod.bi _ (by simp)) (sE a h h3) (star_ns (ns_of h4))) fun ρ S => by rw [evI]
  | .zip _ _, N, sc, cw, W, X, t, e, h, m => by simp [mI] at m
end
end Tu
end L2
set_option Elab.async false
set_option linter.all false
set_option maxRecDepth 100000
set_option maxHeartbeats 16000000
/-! TB19: THE SOUNDNESS of the plain reckoning for statements. -/
namespace L2
namespace Tu
open PySem PySem.Spec PyProof.Rows
open Classical
section
variable {T : Tbl} {X : Cx} {W : WX} {st : Stmt} {ss : List Stmt}
theorem ps_as {m m' : Env → Store → RS} (h : PS X st (tDS X.K X.mg T W m)) (q : ∀ ρ S, m' ρ S = m ρ S) : PS X st (tDS X.K X.mg T W m') := by
  have z : m' = m := funext fun ρ => funext fun S => q ρ S
  rw [z]
  exact h
theorem pss_as {m m' : Env → Store → RS} (h : PSs X ss (tDS X.K X.mg T W m)) (q : ∀ ρ S, m' ρ S = m ρ S) : PSs X ss (tDS X.K X.mg T W m') := by
  have z : m' = m := funext fun ρ => funext fun S => q ρ S
  rw [z]
  exact h
end
section
variable {env : PySem.Env}
theorem sole_of {t e : Expr} {l : Nat} (h : isComp e = false) : swapsWithSole [t] e l env = pure false := by
  show swapsWith e (some t) l env = pure false
  exact swaps_of h
theorem swaps_true {elt : Expr} {gens : List Comprehension} {scope : Scope} {pos py : Pos} {y : Str} {l : Nat} (hb : env.blockKind = .function) (hl : env.scope.names.lookup y = some .local) (hp : (py.line == pos.line) = true)
    (hn : (!(scope.names.any fun (n, k) => n == y && (k == .local || k == .cell))) = true) : swapsWith (.ListComp elt gens scope pos) (some (.Name y py)) l env = pure true := by
  have hk : (env.kindOf y == some NameKind.local) = true := by
    show (env.scope.names.lookup y == some NameKind.local) = true
    rw [hl]
    rfl
  have hp' : (py.line == (Expr.ListComp elt gens scope pos).pos.line) = true := hp
  unfold swapsWith
  dsimp only
  rw [hb, hk, hp']
  have hn' : (!scope.names.any fun x => x.1 == y && (x.2 == NameKind.local || x.2 == NameKind.cell)) = true := hn
  rw [hn']
  rfl
theorem noSwap_of {es : List Expr} {k : Nat} {p : Pos} {e : Expr} (hb : env.blockKind = .function) (h : noSwap env.scope es e = true) : swappedStores [.Tuple es k p] e env = pure none := by
  unfold swappedStores
  cases e <;> first | rfl | skip
  rename_i vs k2 p2
  simp only [noSwap] at h
  dsimp only
  rw [hb]
  cases h1 : (!(es.length == 2 || es.length == 3) || vs.length != es.length) with
  | true => rfl
  | false =>
    rw [h1] at h
    simp only [Bool.false_or, Bool.and_eq_true, Bool.not_eq_true'] at h
    obtain ⟨h2, h3⟩ := h
    have e1 : (false || (ScopeKind.function != ScopeKind.function)) = false := by decide
    rw [e1, if_neg Bool.false_ne_true]
    refine (if_neg (fun z => Bool.false_ne_true (h2.symm.trans z))).trans ?_
    refine if_pos ?_
    rw [Bool.or_eq_true]
    exact .inl h3
theorem par_of {x y : Str} {px py pt pt2 : Pos} {u v : Expr} {k k2 : Nat} (hb : env.blockKind = .function) (hx : env.scope.names.lookup x = some .local) (hy : env.scope.names.lookup y = some .local) (hl : (py.line == px.line) = true) (hn : x ≠ y)
    (hu : isStar u = false) (hv : isStar v = false) (hf : (foldedForSure 8 u && foldedForSure 8 v) = false) (hc : (constantsAlone 8 u && constantsAlone 8 v) = false) :
    swappedStores [.Tuple [.Name x px, .Name y py] k pt] (.Tuple [u, v] k2 pt2) env = pure (some [x, y]) := by
  have kx : (env.kindOf x == some NameKind.local) = true := by
    show (env.scope.names.lookup x == some NameKind.local) = true
    rw [hx]
    rfl
  have ky : (env.kindOf y == some NameKind.local) = true := by
    show (env.scope.names.lookup y == some NameKind.local) = true
    rw [hy]
    rfl
  have sy : ∀ e : Expr, isStar e = false → (match e with | .Starred .. => true | _ => false) = false := fun e h => by
    cases e <;> first | rfl | simp [isStar] at h
  have hs : (([u, v] : List Expr).any fun | .Starred .. => true | _ => false) = false := by
    rw [List.any_cons, List.any_cons, List.any_nil, Bool.or_false, Bool.or_eq_false_iff]
    exact ⟨sy u hu, sy v hv⟩
  have e0 : (!(([Expr.Name x px, Expr.Name y py] : List Expr).length == 2 || ([Expr.Name x px, Expr.Name y py] : List Expr).length == 3) || ([u, v] : List Expr).length != ([Expr.Name x px, Expr.Name y py] : List Expr).length || env.blockKind != .function) = false := by
    rw [hb]
    rfl
  have e1 : (([Expr.Name x px, Expr.Name y py] : List Expr).filterMap fun
      | .Name id pos => if env.kindOf id == some NameKind.local && pos.line == (([Expr.Name x px, Expr.Name y py] : List Expr).head?.map (·.pos.line)).getD 0 then some id else none
      | _ => none) = [x, y] := by
    have l1 : (px.line == (([Expr.Name x px, Expr.Name y py] : List Expr).head?.map (·.pos.line)).getD 0) = true := by
      show (px.line == px.line) = true
      simp
    have l2 : (py.line == (([Expr.Name x px, Expr.Name y py] : List Expr).head?.map (·.pos.line)).getD 0) = true := hl
    simp only [List.filterMap_cons, List.filterMap_nil, kx, ky, l1, l2, Bool.and_self, if_true]
  have e2 : (([x, y] : List Str).length != ([Expr.Name x px, Expr.Name y py] : List Expr).length || ([x, y] : List Str).eraseDups.length != ([x, y] : List Str).length) = false := by
    have : ([x, y] : List Str).eraseDups = [x, y] := by
      rw [List.eraseDups_cons]
      have : ([y] : List Str).filter (fun b => !b == x) = [y] := by simp [Ne.symm hn]
      rw [this, List.eraseDups_cons]
      rfl
    rw [this]
    rfl
  have e3 : ([u, v] : List Expr).all (foldedForSure 8) = false := by
    show (foldedForSure 8 u && (foldedForSure 8 v && true)) = false
    rw [Bool.and_true]
    exact hf
  have e4 : ([u, v] : List Expr).all (constantsAlone 8) = false := by
    show (constantsAlone 8 u && (constantsAlone 8 v && true)) = false
    rw [Bool.and_true]
    exact hc
  unfold swappedStores
  dsimp only
  refine (if_neg (fun z => Bool.false_ne_true (e0.symm.trans z))).trans ?_
  refine (if_neg (fun z => Bool.false_ne_true (hs.symm.trans z))).trans ?_
  refine (if_neg (fun z => ?_)).trans ?_
  · have e5 := e2
    rw [← e1] at e5
    exact Bool.false_ne_true (e5.symm.trans z)
  refine (if_neg (fun z => Bool.false_ne_true (e3.symm.trans z))).trans ?_
  refine (if_neg (fun z => Bool.false_ne_true (e4.symm.trans z))).trans ?_
  exact congrArg (fun l => (pure (some l) : Sem (Option (List Str)))) e1
end
/-- a def's context -/
structure Cs (T : Tbl) (G : Gl0) (n : Nat) (N : List Str) (sc : Scope) (cw : Str → Bool) (W : WX) (X : Cx) : Prop extends Ct T G n N sc cw W X where
  po : PassesOwn (model X.prog X.w) X.A X.env X.xe
  bk : X.env.blockKind = .function
variable {T : Tbl} {G : Gl0} {n : Nat} {N : List Str} {sc : Scope} {cw : Str → Bool} {W : WX} {X : Cx}
theorem sSetLc {fl : Bool} {own : List (Str × Nat)} {elt : IE} {tg : IT} {it : II} {ifs : ICs} {i : Nat} {x : Str} {p q : Pos} {e : Expr} (h : Cs T G n N sc cw W X) (hi : N[i]? = some x) (hl : sc.names.lookup x = some .local) (m : mE N sc cw G.toNm (.lc fl own elt tg it ifs) e = true)
    (hs : (match e with | .ListComp _ _ scope cp => (p.line == cp.line) && !(scope.names.any fun (n, k) => n == x && (k == .local || k == .cell)) | _ => false) = true) :
    PS X (.Assign [.Name x p] e q) (tDS X.K X.mg T W fun ρ S => exS G (.set i (.lc fl own elt tg it ifs)) ρ S) := by
  cases e <;> first | (simp [mE] at m; done) | skip
  rename_i y gs scope p2
  rcases gs with _ | ⟨⟨t, it', fs, ay⟩, _ | ⟨g2, gs⟩⟩ <;> first | (simp [mE] at m; done) | skip
  simp only [mE, Bool.and_eq_true, decide_eq_true_eq] at m
  obtain ⟨⟨⟨⟨⟨⟨⟨h0, h1⟩, h2⟩, h3⟩, h4⟩, h5⟩, h6⟩, h7⟩ := m
  subst h0
  dsimp only at hs
  rw [Bool.and_eq_true] at hs
  have hc := h.toCt
  exact ps_as (ds_setLc h.calm (by rw [h.hN]; exact h.nd) (by rw [h.hN]; exact hi) (by rw [h.hsc]; exact hl) (swaps_true h.bk (by rw [h.hsc]; exact hl) hs.1 hs.2) (sI it hc h3) (by rw [h.hN, h.hsc]; exact blkOk_by h1) (is := slotsT tg) (fun i hi => by simpa using List.all_eq_true.mp h2 i hi)
      (fun s H C cl fp => sT tg (hc.blk (s := s) (H := H) (C := C) (cl := cl) (fp := fp) (scope := scope)) h5) (fun s H C cl fp => sA ifs (hc.blk (s := s) (H := H) (C := C) (cl := cl) (fp := fp) (scope := scope)) h6)
      (fun s H C cl fp => sE elt (hc.blk (s := s) (H := H) (C := C) (cl := cl) (fp := fp) (scope := scope)) h7) (fold_of (set_of h4))) fun ρ S => by rw [exS, ev]
mutual
theorem sS : ∀ (i : IS) {st : Stmt}, Cs T G n N sc cw W X → mS N sc cw G.toNm i st = true → PS X st (tDS X.K X.mg T W fun ρ S => exS G i ρ S)
  | .set i a, st, h, m => by
    cases st <;> first | (simp [mS] at m; done) | skip
    rename_i ts e q
    rcases ts with _ | ⟨t, _ | ⟨t2, ts⟩⟩ <;> first | (simp [mS] at m; done) | skip
    cases t <;> first | (simp [mS] at m; done) | skip
    rename_i x p
    simp only [mS, Bool.and_eq_true, decide_eq_true_eq] at m
    obtain ⟨⟨⟨h1, h2⟩, h3⟩, h4⟩ := m
    obtain ⟨l1, l2⟩ := h.toCt.loc h2
    by_cases hc : isComp e = false
    · exact ps_as (ds_set (by rw [h.hN]; exact h.nd) (by rw [h.hN]; exact h1) l1 (sE a h.toCt h3) (swaps_of hc) l2) fun ρ S => by rw [exS]
    · by_cases hl : sc.names.lookup x = some .local
      · cases a <;> first
          | exact ps_as ds_nev fun ρ S => by rw [exS, ev]; rfl
          | skip
        case lc fl own elt tg it ifs =>
          refine sSetLc h h1 hl h3 ?_
          have hc' : isComp e = true := by simpa using hc
          cases e <;> first | (simp [mE] at h3; done) | skip
          simpa [hc', hl] using h4
        all_goals
          exfalso
          cases e <;> first | (simp [isComp] at hc; done) | (simp [mE] at h3; done)
      · exact ps_as (ds_set (by rw [h.hN]; exact h.nd) (by rw [h.hN]; exact h1) l1 (sE a h.toCt h3) (swaps_cell (by rw [h.hsc]; exact hl)) l2) fun ρ S => by rw [exS]
  | .unp ts a, st, h, m => by
    cases st <;> first | (simp [mS] at m; done) | skip
    rename_i tgs e q
    rcases tgs with _ | ⟨t, _ | ⟨t2, tgs⟩⟩ <;> first | (simp [mS] at m; done) | skip
    cases t <;> first | (simp [mS] at m; done) | skip
    rename_i es k p
    simp only [mS, Bool.and_eq_true, Bool.not_eq_true'] at m
    obtain ⟨⟨⟨⟨h1, h2⟩, h3⟩, h4⟩, h5⟩ := m
    exact ps_as (ds_unp (sE a h.toCt h3) (sT (.tup ts) h.toCt (by simp only [mT, Bool.and_eq_true]; exact ⟨h1, h2⟩)) (sole_of h4) (noSwap_of h.bk (by rw [h.hsc]; exact h5)) rfl) fun ρ S => by rw [exS] <;> rfl
  | .par i j a b, st, h, m => by
    cases st <;> first | (simp [mS] at m; done) | skip
    rename_i tgs e q
    rcases tgs with _ | ⟨t, _ | ⟨t2, tgs⟩⟩ <;> first | (simp [mS] at m; done) | skip
    cases t <;> first | (simp [mS] at m; done) | skip
    rename_i es k p
    rcases es with _ | ⟨x, _ | ⟨y, _ | ⟨z, es⟩⟩⟩ <;> first | (simp [mS] at m; done) | skip
    cases x <;> first | (simp [mS] at m; done) | skip
    cases y <;> first | (simp [mS] at m; done) | skip
    cases e <;> first | (simp [mS] at m; done) | skip
    rename_i x px y py vs k2 p2
    rcases vs with _ | ⟨u, _ | ⟨v, _ | ⟨z, vs⟩⟩⟩ <;> first | (simp [mS] at m; done) | skip
    simp only [mS, Bool.and_eq_true, decide_eq_true_eq, Bool.not_eq_true'] at m
    obtain ⟨⟨⟨⟨⟨⟨⟨⟨⟨⟨⟨h1, h2⟩, h3⟩, h4⟩, h5⟩, h6⟩, h7⟩, h8⟩, h9⟩, h10⟩, h11⟩, h12⟩ := m
    have hxy : x ≠ y := fun z => by
      subst z
      exact h3 ((List.getElem?_inj (List.getElem?_eq_some_iff.mp h1).1 h.nd).mp (h1.trans h2.symm))
    exact ps_as (ds_par h.calm (by rw [h.hN]; exact h.nd) (by rw [h.hN]; exact h1) (by rw [h.hN]; exact h2) h3 (by rw [h.hsc]; exact h4) (by rw [h.hsc]; exact h5) (sE a h.toCt h7) (sE b h.toCt h8) (star_ns h9) (star_ns h10)
      (par_of h.bk (by rw [h.hsc]; exact h4) (by rw [h.hsc]; exact h5) h6 hxy h9 h10 h11 h12) rfl) fun ρ S => by rw [exS]
  | .put o k v, st, h, m => by
    cases st <;> first | (simp [mS] at m; done) | skip
    rename_i tgs e q
    rcases tgs with _ | ⟨t, _ | ⟨t2, tgs⟩⟩ <;> first | (simp [mS] at m; done) | skip
    cases t <;> first | (simp [mS] at m; done) | skip
    simp only [mS, Bool.and_eq_true, Bool.not_eq_true'] at m
    obtain ⟨⟨⟨⟨h1, h2⟩, h3⟩, h4⟩, h5⟩ := m
    exact ps_as (ds_put (sE v h.toCt h1) (sE o h.toCt h2) (sE k h.toCt h3) (by unfold swappedStores; rfl) (sole_of h5) (sub_set h4)) fun ρ S => by rw [exS] <;> rfl
  | .stf _ _ _, st, h, m => by simp [mS] at m
  | .expr a, st, h, m => by
    cases st <;> first | (simp [mS] at m; done) | skip
    simp only [mS, Bool.and_eq_true, Bool.not_eq_true'] at m
    exact ps_as (ds_expr (sE a h.toCt m.1) (swaps_of m.2)) fun ρ S => by rw [exS]
  | .ret a, st, h, m => by
    cases st <;> first | (simp [mS] at m; done) | skip
    rename_i v p
    cases v <;> first | (simp [mS] at m; done) | skip
    simp only [mS] at m
    exact ps_as (ds_ret (sE a h.toCt m)) fun ρ S => by rw [exS]
  | .retN, st, h, m => by
    cases st <;> first | (simp [mS] at m; done) | skip
    rename_i v p
    cases v <;> first | (simp [mS] at m; done) | skip
    exact ps_as ds_retN fun ρ S => by rw [exS]
  | .ife c a b, st, h, m => by
    cases st <;> first | (simp [mS] at m; done) | skip
    simp only [mS, Bool.and_eq_true] at m
    obtain ⟨⟨h1, h2⟩, h3⟩ := m
    exact ps_as (ds_ife (sC c h.toCt h1) (sSs a h h2) (sSs b h h3)) fun ρ S => by rw [exS]
  | .for_ t it b, st, h, m => by
    cases st <;> first | (simp [mS] at m; done) | skip
    rename_i tg i x els p
    cases els <;> first | (simp [mS] at m; done) | skip
    simp only [mS, Bool.and_eq_true, Bool.not_eq_true'] at m
    obtain ⟨⟨⟨h1, h2⟩, h3⟩, h4⟩ := m
    exact ps_as (ds_for h.po h.calm (sI it h.toCt h2) (sT t h.toCt h1) (sSs b h h3) (fold_of h4)) fun ρ S => by rw [exS]
  | .rai _ _, st, h, m => by simp [mS] at m
  | .pas, st, h, m => by
    cases st <;> first | (simp [mS] at m; done) | skip
    exact ps_as ds_pas fun ρ S => by rw [exS]
  | .never, st, h, m => ps_as ds_nev fun ρ S => by rw [exS]
theorem sSs : ∀ (i : ISs) {ss : List Stmt}, Cs T G n N sc cw W X → mSs N sc cw G.toNm i ss = true → PSs X ss (tDS X.K X.mg T W fun ρ S => exSs G i ρ S)
  | .nil, ss, h, m => by
    cases ss <;> first | (simp [mSs] at m; done) | skip
    exact pss_as dss_nil fun ρ S => by rw [exSs]
  | .cons a as, ss, h, m => by
    cases ss <;> first | (simp [mSs] at m; done) | skip
    simp only [mSs, Bool.and_eq_true] at m
    exact pss_as (dss_cons (sS a h m.1) (sSs as h m.2)) fun ρ S => by rw [exSs]
end
end Tu
end L2
set_option Elab.async false
set_option linter.all false
set_option maxRecDepth 100000
set_option maxHeartbeats 8000000
/-! TB20: a def's promise from its tree; the module's promises level by level. -/
namespace L2
namespace Tu
open PySem PySem.Spec PyProof.Rows
open Classical
/-! ### a call's end: what it has made and nobody else may change stands by value from then on -/
mutual
/-- no cell from n on is in it -/
def low (n : Nat) : D → Bool
  | .tup xs => lows n xs
  | .lst xs => lows n xs
  | .dk _ xs => lows n xs
  | .dt _ xs => lows n xs
  | .ins _ _ xs => lows n xs
  | .exc _ d => low n d
  | .obj k => decide (k < n)
  | .non => true
  | .bl _ => true
  | .int _ => true
  | .str _ => true
  | .ty _ => true
  | .nam _ => true
def lows (n : Nat) : List D → Bool
  | [] => true
  | x :: xs => low n x && lows n xs
end
def lowC (n : Nat) : Cell → Bool
  | .lst xs => lows n xs
  | .dk _ xs => lows n xs
  | .dt _ xs => lows n xs
  | .ins _ _ xs => lows n xs
def mapO (g : D → Option D) : List D → Option (List D)
  | [] => some []
  | x :: xs => match g x, mapO g xs with
    | some y, some ys => some (y :: ys)
    | _, _ => none
def frzD (g : D → Option D) (S : Store) : D → Option D
  | .tup xs => (mapO g xs).map .tup
  | .lst xs => (mapO g xs).map .lst
  | .dk ks xs => (mapO g xs).map (.dk ks)
  | .dt ks xs => (mapO g xs).map (.dt ks)
  | .ins c fs xs => (mapO g xs).map (.ins c fs)
  | .exc c x => (g x).map (.exc c)
  | .obj k => match S[k]? with
    | some (.lst xs) => (mapO g xs).map .lst
    | some (.dk ks xs) => (mapO g xs).map (.dk ks)
    | some (.dt ks xs) => (mapO g xs).map (.dt ks)
    | some (.ins c fs xs) => (mapO g xs).map (.ins c fs)
    | none => none
  | _ => none
def frz (S : Store) (n : Nat) : Nat → D → Option D
  | 0, d => if low n d = true then some d else none
  | f + 1, d => if low n d = true then some d else frzD (frz S n f) S d
/-- what stood before the call is as it was, or bears nothing of the call's cells -/
def Cuts (S S' : Store) : Prop := S.length ≤ S'.length ∧ ∀ i c, i < S.length → S'[i]? = some c → S[i]? = some c ∨ lowC S.length c = true
open Classical in
noncomputable def fin (S : Store) : Res D → Res D
  | .ok d S' => if Cuts S S' then (match frz S' S.length 8 d with
    | some d' => .ok d' (S'.take S.length)
    | none => .bad) else .bad
  | .exc c d S' => if Cuts S S' then (match frz S' S.length 8 d with
    | some d' => .exc c d' (S'.take S.length)
    | none => .bad) else .bad
  | .bad => .bad
section
variable {K : PySem.W.Frag} {mg : Str → Option Value} {T : Tbl} {w w' : Wd}
def Wd.cut (w : Wd) (n : Nat) : Wd := ⟨w.H, w.m, w.S.take n, w.B⟩
theorem Wd.cut_len {n : Nat} (h : n ≤ w.S.length) : (w.cut n).S.length = n := by
  show (w.S.take n).length = n
  rw [List.length_take]
  omega
theorem NC.cut {n : Nat} {a : Addr} (h : NC w a) : NC (w.cut n) a := fun i hi => h i (by
  have : (w.S.take n).length ≤ w.S.length := by rw [List.length_take]; omega
  exact Nat.lt_of_lt_of_le hi this)
theorem Per.cut {n : Nat} : Per K w (w.cut n) := ⟨fun _ _ h => h, fun _ _ _ h => h, fun a x h _ _ => ⟨x, h, .inl rfl⟩, fun a x _ _ f => ⟨f.1.cut, f.2⟩, fun _ _ h => h⟩
mutual
theorem rv_low : ∀ (d : D) (v : V), RV K mg w d v → low w.S.length d = true
  | .non, _, _ => by rw [low]
  | .bl _, _, _ => by rw [low]
  | .int _, _, _ => by rw [low]
  | .str _, _, _ => by rw [low]
  | .tup ds, _, h => by
    obtain ⟨a, vs, h1, h2, h3⟩ := rv_tup.mp h
    rw [low]
    exact rvs_low ds vs h3
  | .lst ds, _, h => by
    obtain ⟨a, vs, h1, h2, h3⟩ := rv_lst.mp h
    rw [low]
    exact rvs_low ds vs h3
  | .dk ks ds, _, h => by
    obtain ⟨a, vs, h1, h2, h3, h4⟩ := rv_dk.mp h
    rw [low]
    exact rvs_low ds _ h4
  | .dt ks ds, _, h => by
    obtain ⟨a, vs, h1, h2, h3, h4⟩ := rv_dt.mp h
    rw [low]
    exact rvs_low ds _ h4
  | .ins c fs ds, _, h => by
    obtain ⟨a, C, dx, vs, h1, h2, h3, h4, h5, h6⟩ := rv_ins.mp h
    rw [low]
    exact rvs_low ds _ h6
  | .exc c d, _, h => by
    obtain ⟨a, C, dd, u, h1, h2, h3, h4, h5, h6⟩ := rv_exc.mp h
    rw [low]
    exact rv_low d u h6
  | .obj i, _, h => by
    rw [low]
    exact decide_eq_true (rv_obj.mp h).1
  | .ty _, _, _ => by rw [low]
  | .nam _, _, _ => by rw [low]
theorem rvs_low : ∀ (ds : List D) (vs : List V), RVs K mg w ds vs → lows w.S.length ds = true
  | [], _, _ => by rw [lows]
  | d :: ds, _, h => by
    obtain ⟨v, vs', h1, h2, h3⟩ := h.inv
    rw [lows, rv_low d v h2, rvs_low ds vs' h3]
    rfl
end
theorem rc_low {a : Addr} {c : Cell} (h : RC K mg w a c) : lowC w.S.length c = true := by
  cases c with
  | lst ds => obtain ⟨vs, h1, h2⟩ := h; exact rvs_low _ _ h2
  | dk ks ds => obtain ⟨vs, h1, h2, h3⟩ := h; exact rvs_low _ _ h3
  | dt ks ds => obtain ⟨vs, h1, h2, h3⟩ := h; exact rvs_low _ _ h3
  | ins c fs ds => obtain ⟨C, dx, vs, h0, h1, h2, h3⟩ := h; exact rvs_low _ _ h3
section
variable {n : Nat} (hn : n ≤ w.S.length)
include hn
mutual
theorem rv_cut : ∀ (d : D) (v : V), low n d = true → RV K mg w d v → RV K mg (w.cut n) d v
  | .non, _, _, h => by unfold RV at h ⊢; exact h
  | .bl b, _, _, h => by unfold RV at h ⊢; exact h
  | .int i, _, _, h => by unfold RV at h ⊢; exact h
  | .str x, _, _, h => by unfold RV at h ⊢; exact h
  | .tup ds, _, l, h => by
    obtain ⟨a, vs, h1, h2, h3⟩ := rv_tup.mp h
    rw [low] at l
    exact rv_tup.mpr ⟨a, vs, h1, h2, rvs_cut ds vs l h3⟩
  | .lst ds, _, l, h => by
    obtain ⟨a, vs, h1, h2, h3⟩ := rv_lst.mp h
    rw [low] at l
    exact rv_lst.mpr ⟨a, vs, h1, h2.to Per.cut, rvs_cut ds vs l h3⟩
  | .dk ks ds, _, l, h => by
    obtain ⟨a, vs, h1, h2, h3, h4⟩ := rv_dk.mp h
    rw [low] at l
    exact rv_dk.mpr ⟨a, vs, h1, h2.to (K := K) Per.cut, h3, rvs_cut ds _ l h4⟩
  | .dt ks ds, _, l, h => by
    obtain ⟨a, vs, h1, h2, h3, h4⟩ := rv_dt.mp h
    rw [low] at l
    exact rv_dt.mpr ⟨a, vs, h1, h2.to (K := K) Per.cut, h3, rvs_cut ds _ l h4⟩
  | .ins c fs ds, _, l, h => by
    obtain ⟨a, C, dx, vs, h1, h2, h3, h4, h5, h6⟩ := rv_ins.mp h
    rw [low] at l
    exact rv_ins.mpr ⟨a, C, dx, vs, h1, h2, h3, ⟨h4.1.cut, h4.2⟩, h5, rvs_cut ds _ l h6⟩
  | .exc c d, _, l, h => by
    obtain ⟨a, C, dd, u, h1, h2, h3, h4, h5, h6⟩ := rv_exc.mp h
    rw [low] at l
    exact rv_exc.mpr ⟨a, C, dd, u, h1, h2, h3, ⟨h4.1.cut, h4.2⟩, h5, rv_cut d u l h6⟩
  | .obj i, _, l, h => by
    rw [low] at l
    exact rv_obj.mpr ⟨by rw [Wd.cut_len hn]; exact of_decide_eq_true l, (rv_obj.mp h).2⟩
  | .ty s, _, _, h => by unfold RV at h ⊢; exact h
  | .nam x, _, _, h => by unfold RV at h ⊢; exact h
theorem rvs_cut : ∀ (ds : List D) (vs : List V), lows n ds = true → RVs K mg w ds vs → RVs K mg (w.cut n) ds vs
  | [], _, _, h => by rw [h.inv0]; exact RVs.nil
  | d :: ds, _, l, h => by
    obtain ⟨v, vs', rfl, h2, h3⟩ := h.inv
    rw [lows, Bool.and_eq_true] at l
    exact RVs.cons (rv_cut d v l.1 h2) (rvs_cut ds vs' l.2 h3)
end
theorem rc_cut {a : Addr} {c : Cell} (l : lowC n c = true) (h : RC K mg w a c) : RC K mg (w.cut n) a c := by
  cases c with
  | lst ds => obtain ⟨vs, h1, h2⟩ := h; exact ⟨vs, h1, rvs_cut hn _ _ l h2⟩
  | dk ks ds => obtain ⟨vs, h1, h2, h3⟩ := h; exact ⟨vs, h1, h2, rvs_cut hn _ _ l h3⟩
  | dt ks ds => obtain ⟨vs, h1, h2, h3⟩ := h; exact ⟨vs, h1, h2, rvs_cut hn _ _ l h3⟩
  | ins c fs ds => obtain ⟨C, dx, vs, h0, h1, h2, h3⟩ := h; exact ⟨C, dx, vs, h0, h1, h2, rvs_cut hn _ _ l h3⟩
theorem Ok.off_of (k : Ok K mg T w) {i : Nat} (hi : i < w.S.length) (h : n ≤ i) : Off (w.cut n) (w.m i) := by
  refine ⟨fun j hj e => ?_, k.nb i hi⟩
  rw [Wd.cut_len hn] at hj
  have := k.inj j i (by omega) hi e
  omega
theorem mapO_rv {g : D → Option D} (hg : ∀ d d' v, g d = some d' → RV K mg w d v → RV K mg (w.cut n) d' v) : ∀ {ds ds' : List D} {vs : List V}, mapO g ds = some ds' → RVs K mg w ds vs → RVs K mg (w.cut n) ds' vs
  | [], ds', vs, h, r => by
    cases h
    rw [r.inv0]
    exact RVs.nil
  | d :: ds, ds', vs, h, r => by
    obtain ⟨v, vs', rfl, h2, h3⟩ := r.inv
    rw [mapO] at h
    split at h
    · rename_i y ys e1 e2
      cases h
      exact RVs.cons (hg d y v e1 h2) (mapO_rv hg e2 h3)
    · cases h
theorem frz_rv (k : Ok K mg T w) : ∀ (f : Nat) (d d' : D) (v : V), frz w.S n f d = some d' → RV K mg w d v → RV K mg (w.cut n) d' v
  | 0, d, d', v, h, r => by
    rw [frz] at h
    split at h
    · rename_i l
      cases h
      exact rv_cut hn d v l r
    · cases h
  | f + 1, d, d', v, h, r => by
    rw [frz] at h
    by_cases l : low n d = true
    · rw [if_pos l] at h
      cases h
      exact rv_cut hn d v l r
    · rw [if_neg l] at h
      have ih := frz_rv k f
      have mp : ∀ {ds : List D} {vs : List V} {c : List D → D}, (mapO (frz w.S n f) ds).map c = some d' → RVs K mg w ds vs → ∃ ds', d' = c ds' ∧ RVs K mg (w.cut n) ds' vs := fun {ds vs c} h r => by
        cases e : mapO (frz w.S n f) ds with
        | none => rw [e] at h; cases h
        | some ds' =>
          rw [e] at h
          cases h
          exact ⟨ds', rfl, mapO_rv hn ih e r⟩
      cases d with
      | tup ds =>
        obtain ⟨a, vs, h1, h2, h3⟩ := rv_tup.mp r
        obtain ⟨ds', rfl, r'⟩ := mp h h3
        exact rv_tup.mpr ⟨a, vs, h1, h2, r'⟩
      | lst ds =>
        obtain ⟨a, vs, h1, h2, h3⟩ := rv_lst.mp r
        obtain ⟨ds', rfl, r'⟩ := mp h h3
        exact rv_lst.mpr ⟨a, vs, h1, h2.to Per.cut, r'⟩
      | dk ks ds =>
        obtain ⟨a, vs, h1, h2, h3, h4⟩ := rv_dk.mp r
        obtain ⟨ds', rfl, r'⟩ := mp h h4
        exact rv_dk.mpr ⟨a, vs, h1, h2.to (K := K) Per.cut, h3, r'⟩
      | dt ks ds =>
        obtain ⟨a, vs, h1, h2, h3, h4⟩ := rv_dt.mp r
        obtain ⟨ds', rfl, r'⟩ := mp h h4
        exact rv_dt.mpr ⟨a, vs, h1, h2.to (K := K) Per.cut, h3, r'⟩
      | ins c fs ds =>
        obtain ⟨a, C, dx, vs, h1, h2, h3, h4, h5, h6⟩ := rv_ins.mp r
        obtain ⟨ds', rfl, r'⟩ := mp h h6
        exact rv_ins.mpr ⟨a, C, dx, vs, h1, h2, h3, ⟨h4.1.cut, h4.2⟩, h5, r'⟩
      | exc c x =>
        obtain ⟨a, C, dd, u, h1, h2, h3, h4, h5, h6⟩ := rv_exc.mp r
        dsimp only [frzD] at h
        cases e : frz w.S n f x with
        | none => rw [e] at h; cases h
        | some x' =>
          rw [e] at h
          cases h
          exact rv_exc.mpr ⟨a, C, dd, u, h1, h2, h3, ⟨h4.1.cut, h4.2⟩, h5, ih x x' u e h6⟩
      | obj i =>
        obtain ⟨hi, rfl⟩ := rv_obj.mp r
        rw [low] at l
        have off := k.off_of hn hi (by simpa using l)
        dsimp only [frzD] at h
        split at h
        · rename_i xs hx
          obtain ⟨vs, h1, h2⟩ := k.cell i _ hx
          obtain ⟨ds', rfl, r'⟩ := mp h h2
          exact rv_lst.mpr ⟨_, vs, rfl, .inl ⟨h1, off⟩, r'⟩
        · rename_i ks xs hx
          obtain ⟨vs, h1, h2, h3⟩ := k.cell i _ hx
          obtain ⟨ds', rfl, r'⟩ := mp h h3
          exact rv_dk.mpr ⟨_, vs, rfl, .inl ⟨h1, off⟩, h2, r'⟩
        · rename_i ks xs hx
          obtain ⟨vs, h1, h2, h3⟩ := k.cell i _ hx
          obtain ⟨ds', rfl, r'⟩ := mp h h3
          exact rv_dt.mpr ⟨_, vs, rfl, .inl ⟨h1, off⟩, h2, r'⟩
        · rename_i c fs xs hx
          obtain ⟨C, dx, vs, h0, h1, h2, h3⟩ := k.cell i _ hx
          obtain ⟨ds', rfl, r'⟩ := mp h h3
          exact rv_ins.mpr ⟨_, C, dx, vs, rfl, h0, h1, off, h2, r'⟩
        · cases h
      | _ => cases h
end
theorem Ex.cut {w' : Wd} (e : Ex w w') : Ex w (w'.cut w.S.length) where
  len := by rw [Wd.cut_len e.len]; exact Nat.le_refl _
  mu := e.mu
  frame := e.frame
  tup := e.tup
  frz := e.frz
  xd := e.xd
  live := e.live
  fresh := fun i h1 h2 => by rw [Wd.cut_len e.len] at h2; omega
  bar := e.bar
  hidd := e.hidd
theorem Ok.cut {w' : Wd} (k0 : Ok K mg T w) (k : Ok K mg T w') (e : Ex w w') (hc : Cuts w.S w'.S) : Ok K mg T (w'.cut w.S.length) := by
  refine ⟨fun i j hi hj z => ?_, fun i c h => ?_, k.tabs, fun i hi => ?_⟩
  · rw [Wd.cut_len e.len] at hi hj
    exact k.inj i j (Nat.lt_of_lt_of_le hi e.len) (Nat.lt_of_lt_of_le hj e.len) z
  · have hi : i < w.S.length := by
      have := (List.getElem?_eq_some_iff.mp h).1
      rw [Wd.cut_len e.len] at this
      exact this
    have h' : w'.S[i]? = some c := by
      have h' : (w'.S.take w.S.length)[i]? = some c := h
      rw [List.getElem?_take_of_lt hi] at h'
      exact h'
    refine rc_cut e.len ?_ (k.cell i c h')
    rcases hc.2 i c hi h' with q | q
    · exact rc_low (k0.cell i c q)
    · exact q
  · rw [Wd.cut_len e.len] at hi
    exact k.nb i (Nat.lt_of_lt_of_le hi e.len)
theorem out_fin {W : WX} {σ : St} {r : Res D} {Q : V → Hp → Prop} (k0 : Ok K mg T w) (h : out K mg T (RV K mg) W σ (fin w.S r) w Q) : out K mg T (RV K mg) W σ r w Q := by
  cases r with
  | ok d S' =>
    unfold fin at h
    dsimp only at h
    split at h
    · rename_i hc
      split at h
      · rename_i d' hf
        intro w' x hS ex k' rv
        subst hS
        exact h (w'.cut w.S.length) x rfl ex.cut (k0.cut k' ex hc) (frz_rv ex.len k' 8 d d' x hf rv)
      · exact False.elim h
    · exact False.elim h
  | exc c d S' =>
    unfold fin at h
    dsimp only at h
    split at h
    · rename_i hc
      split at h
      · rename_i d' hf
        intro w' C dd v hS ex k' h4 h5 rv
        subst hS
        exact h (w'.cut w.S.length) C dd v rfl ex.cut (k0.cut k' ex hc) h4 h5 (frz_rv ex.len k' 8 d d' v hf rv)
      · exact False.elim h
    · exact False.elim h
  | bad => exact h
end
/-- kp: what the call has made may still be changed -/
structure DefI where
  x : Str
  st : Stmt
  ps : List Str
  N : List Str
  kp : Bool
  b : ISs
def startE (N : List Str) (ds : List D) : Env := ds.map some ++ List.replicate (N.length - ds.length) none
noncomputable def ended (kp : Bool) (S : Store) (r : Res D) : Res D := if kp = true then r else fin S r
noncomputable def runD (G : Gl0) (d : DefI) (ds : List D) (S : Store) : Res D := if ds.length = d.ps.length then ended d.kp S (exSs G d.b (startE d.N ds) S).res else .bad
def cellW (sc : Scope) : Str → Bool := fun x => decide (sc.names.lookup x = some .cell)
section
variable {K : PySem.W.Frag} {mg : Str → Option Value} {T : Tbl} {w : Wd}
theorem RVs.start {N : List Str} : ∀ {ds : List D} {vs : List V}, RVs K mg w ds vs → RE K mg w (startE N ds) (L2.start N vs) := by
  intro ds vs r
  have hl := r.len
  refine ⟨by simp [L2.start, startE, hl], fun i d h => ?_⟩
  unfold startE at h
  by_cases hi : i < ds.length
  · rw [List.getElem?_append_left (by simpa using hi), List.getElem?_map] at h
    have e : ds[i]? = some d := by
      cases q : ds[i]? with
      | none => rw [q] at h; cases h
      | some y => rw [q] at h; cases h; rfl
    obtain ⟨v, h1, h2⟩ := r.get e
    refine ⟨v, ?_, h2⟩
    unfold L2.start
    rw [List.getElem?_append_left (by simp [hl]; exact hi), List.getElem?_map, h1]
    rfl
  · rw [List.getElem?_append_right (by simpa using hi)] at h
    rw [List.getElem?_replicate] at h
    split at h <;> cases h
theorem res_st {W : WX} {σ : St} {r : RS} {Q : VK} {E : XK} (h : out K mg T (RV K mg) (fun c d _ H' => E c d H') σ r.res w Q) : outS K mg T (fun c d _ H' => E c d H') { nx := fun _ H' => Q .non H', rt := Q } r w := by
  cases r with
  | nx ρ S => exact fun w' σ' h1 h2 h3 h4 => h w' .non h1 h2 h3 (rv_non.mpr rfl)
  | rt d S => exact h
  | ct ρ S => exact False.elim h
  | bk ρ S => exact False.elim h
  | ex c d ρ S => exact fun w' σ' C dd v h1 h2 h3 h4 h5 h6 h7 => h w' C dd v h1 h2 h3 h5 h6 h7
  | bad => exact False.elim h
end
section
variable {P : Program} {w : World} {K : PySem.W.Frag} {mg : Str → Option Value} {base : Heap} {T : Tbl} {G : Gl0} {n : Nat}
theorem fnG_def {d : DefI} {qual : Str} {f : Addr} {fd : FuncData} (F : Fun K d.x qual d.st f fd) (S : FnScope d.N d.ps (defScope d.st)) (B : Binds K fd d.ps []) (m : mSs d.N (defScope d.st) (cellW (defScope d.st)) G.toNm d.b (defBody d.st) = true) (M : Mo T G n P w K mg base) :
    FnG P w K mg base (n + 1) f (spU K mg T (runD G d)) := by
  refine fnG_of F S B ?_ ?_
  · rintro vs H Q E ⟨w0, ds, rfl, k, r, q⟩
    unfold runD at q
    split at q
    · rename_i hl
      rw [r.len, hl]
    · exact False.elim q
  · rintro cdv A outer s H vs Q E hr hg ⟨w0, ds, rfl, k, r, q⟩
    unfold runD at q
    split at q
    · rename_i hl
      have hc : Cs T G n d.N (defScope d.st) (cellW (defScope d.st)) (fun c dd _ H' => E c dd H') (cxOf (L2.CX P w) P w K mg base d.N qual (defScope d.st) f cdv A outer s w0.H E) :=
        { hN := rfl, nd := S.nd, hsc := rfl, calm := rfl, gd := hg, tk := takes_of rfl rfl rfl rfl, hcw := fun _ _ => rfl, mod := M, room := hr, po := passes_of rfl,
          bk := by
            show (if (defScope d.st).kind.isAnnotationScope then ScopeKind.function else (defScope d.st).kind) = _
            rw [S.kind]
            rfl }
      refine ⟨_, sSs d.b hc m, w0, startE d.N ds, rfl, k, r.start, res_st (W := fun _ _ _ _ => False) (σ := []) ?_⟩
      unfold ended at q
      split at q
      · exact q
      · exact out_fin k q
    · exact False.elim q
/-- what the top has written of a def -/
structure DefK (K : PySem.W.Frag) (mg : Str → Option Value) (d : DefI) : Prop where
  ex : ∃ f fd, mg d.x = some (.ref f) ∧ Fun K d.x d.x d.st f fd ∧ Binds K fd d.ps []
  sc : FnScope d.N d.ps (defScope d.st)
/-- the module's plain reckonings: the defs' at a level -/
structure ModI where
  defs : List DefI
  cls : List Str
  iss : List Str
  con : Str → Option D
  isi : Str → Str → Bool
noncomputable def excM (c : Str) : List D → Store → Res D := fun ds S => match ds with
  | [d] => .ok (.exc c d) S
  | _ => .bad
def ModI.nm (I : ModI) : Nm := { fns := I.defs.map (·.x), cls := I.cls, xcs := I.cls, iss := I.iss }
noncomputable def lev (I : ModI) : Nat → Gl0
  | 0 => { toNm := I.nm, fn := fun _ _ _ => .bad, ma := excM, me := fun _ _ _ _ => .bad, con := I.con, fld := fun _ _ => none, isi := I.isi }
  | k + 1 => { toNm := I.nm, fn := fun f => match I.defs.find? (fun d => decide (d.x = f)) with
      | some d => runD (lev I k) d
      | none => fun _ _ => .bad, ma := excM, me := fun _ _ _ _ => .bad, con := I.con, fld := fun _ _ => none, isi := I.isi }
theorem lev_nm {I : ModI} {k : Nat} : (lev I k).toNm = I.nm := by cases k <;> rfl
theorem lev_fns {I : ModI} {k : Nat} : (lev I k).fns = I.defs.map (·.x) := by cases k <;> rfl
theorem lev_cls {I : ModI} {k : Nat} : (lev I k).cls = I.cls := by cases k <;> rfl
theorem lev_xcs {I : ModI} {k : Nat} : (lev I k).xcs = I.cls := by cases k <;> rfl
theorem lev_iss {I : ModI} {k : Nat} : (lev I k).iss = I.iss := by cases k <;> rfl
theorem lev_con {I : ModI} {k : Nat} : (lev I k).con = I.con := by cases k <;> rfl
theorem lev_isi {I : ModI} {k : Nat} : (lev I k).isi = I.isi := by cases k <;> rfl
theorem lev_ma {I : ModI} {k : Nat} : (lev I k).ma = excM := by cases k <;> rfl
theorem spU_bad {n : Nat} {f : Addr} : FnG P w K mg base n f (spU K mg T fun _ _ => .bad) := ⟨fun A outer s H us vs Q E _ _ _ _ ⟨_, _, _, _, _, q⟩ => False.elim q⟩
theorem mo_lev {I : ModI} (sk : SysK K) (hd : ∀ d ∈ I.defs, DefK K mg d) (hm : ∀ d ∈ I.defs, mSs d.N (defScope d.st) (cellW (defScope d.st)) I.nm d.b (defBody d.st) = true)
    (hma : ∀ c ∈ I.cls, ∃ a, mg c = some (.ref a) ∧ PySem.W.keepIn K (.ref a) = true ∧ FnG P w K mg base 3 a (spU K mg T (excM c)))
    (bi : ∀ f ∈ (("range" : Str) :: "enumerate" :: "isinstance" :: biNames), mg f = none)
    (con : ∀ x d, I.con x = some d → ∃ u v, mg x = some u ∧ RelV v u ∧ ∀ w, RV K mg w d v)
    (xc : ∀ c ∈ I.cls, ∃ C, mg c = some (.ref C) ∧ ExcC K C ∧ PySem.W.findIn K (.ref C) "value" = some none)
    (isi : ∀ c ∈ I.iss, ∃ v u, RelV v u ∧ (∀ u', RelV v u' → u' = u) ∧ (mg c = some u ∨ (mg c = none ∧ bootBuiltins c = some u ∧ c ≠ "__name__")) ∧ ∀ c' ∈ I.cls, ∀ C', mg c' = some (.ref C') → PySem.W.kitOne K (.ref C') u = some (I.isi c' c)) :
    ∀ k, Mo T (lev I k) (k + 3) P w K mg base := by
  intro k
  have rest : ∀ {k}, (∀ f ∈ I.defs.map (·.x), ∃ a, mg f = some (.ref a) ∧ PySem.W.keepIn K (.ref a) = true ∧ FnG P w K mg base (k + 3) a (spU K mg T ((lev I k).fn f))) → Mo T (lev I k) (k + 3) P w K mg base := fun {k} h =>
    ⟨sk, by rw [lev_fns]; exact h, by
      rw [lev_cls, lev_ma]
      intro c hc
      obtain ⟨a, h1, h2, h3⟩ := hma c hc
      exact ⟨a, h1, h2, h3.mono (by omega)⟩, bi, by rw [lev_con]; exact con, by rw [lev_xcs]; exact xc, by rw [lev_iss, lev_xcs, lev_isi]; exact isi⟩
  induction k with
  | zero =>
    refine rest fun f hf => ?_
    obtain ⟨d, hd1, rfl⟩ := List.mem_map.mp hf
    obtain ⟨fa, fd, h1, h2, h3⟩ := (hd d hd1).ex
    exact ⟨fa, h1, h2.kp, spU_bad⟩
  | succ k ih =>
    refine rest fun f hf => ?_
    obtain ⟨d0, hd0, e0⟩ := List.mem_map.mp hf
    cases e : I.defs.find? (fun d => decide (d.x = f)) with
    | none =>
      have := List.find?_eq_none.mp e d0 hd0
      simp [e0] at this
    | some d =>
      have hx : d.x = f := by simpa using List.find?_some e
      have hdm := List.mem_of_find?_eq_some e
      obtain ⟨fa, fd, h1, h2, h3⟩ := (hd d hdm).ex
      refine ⟨fa, by rw [← hx]; exact h1, h2.kp, ?_⟩
      have hf : (lev I (k + 1)).fn f = runD (lev I k) d := by
        show (match I.defs.find? (fun d => decide (d.x = f)) with
          | some d => runD (lev I k) d
          | none => fun _ _ => .bad) = _
        rw [e]
      rw [hf]
      exact fnG_def h2 (hd d hdm).sc h3 (by rw [lev_nm]; exact hm d hdm) ih
end
end Tu
end L2
set_option Elab.async false
set_option linter.all false
set_option maxRecDepth 100000
set_option maxHeartbeats 8000000
/-! TB21: exceptions of the package made: the class's __init__ with super().__init__(value), the value kept. -/
namespace L2
namespace Tu
open PySem PySem.Spec PyProof.Rows
open Classical
/-- what the top has written of the base class's __init__ -/
structure HexI (P : Program) (K : PySem.W.Frag) (D fI cc cda : Addr) (qual : Str) (params : Arguments) (body : List Stmt) (scope : Scope) : Prop where
  lk : ∃ (oc : Value) (od : Option Addr) (kV doc pm ct : Value) (an : Option Addr) (osl : Array (Option Value)),
    K.lookup fI = some ⟨oc, od, .func (PySem.W.ksFn "__init__" qual params body scope .none kV doc pm an (.ref cda) ct cc), osl⟩ ∧
    ∀ (s : Shared) (a b : Value), BindsTo s (PySem.W.ksFn "__init__" qual params body scope .none kV doc pm an (.ref cda) ct cc) ⟨[a, b], []⟩ [("self", a), ("value", b)]
  ty : PySem.W.typeIn K (.ref fI) = some (.type "function")
  cd : PySem.W.codeIn K (.ref cda) qual = true
  code : ∃ (ccl : Value) (cdd : Option Addr) (vs : Array Value) (ccs : Array (Option Value)) (file : Str) (tf : Tok), K.lookup cda = some ⟨ccl, cdd, .fields vs, ccs⟩ ∧ vs[2]? = some (.str file tf) ∧ ((P.main.file : Str) == file) = true
  cell : ∃ (cl : Value) (cld : Option Addr) (csl : Array (Option Value)), K.lookup cc = some ⟨cl, cld, .cell (some (.ref D)), csl⟩
  hD : ∃ cd, PySem.W.clsIn K D = some cd
  op : PySem.W.nsIn K cStatics "thirdparty.any" = some none
  hp : ∃ ar : Arg, (params.posonlyargs ++ params.args).head? = some ar ∧ ar.arg = "self"
  body : ∃ p0 p1 p2 p3 p4 p5 p6 p7 p8 p9 : Pos, (p2.endLine == p4.line) = true ∧ body = [.Expr (.Call (.Attribute (.Call (.Name "super" p0) [] [] p1) "__init__" p2) [.Name "value" p3] [] p4) p5, .Assign [.Attribute (.Name "self" p6) "value" p7] (.Name "value" p8) p9]
  sup : scope.names.lookup ("super" : Str) = some .globalImplicit
  cls : scope.names.lookup ("__class__" : Str) = some .free
  slf : scope.names.lookup ("self" : Str) = some .local
  val : scope.names.lookup ("value" : Str) = some .local
  nocell : ∀ x ∈ scope.names, x.2 ≠ .cell
  kind : scope.kind = .function
  co : scope.isCoroutine = false
  gen : scope.isGenerator = false
  top : (P.main.scope.names.lookup ("super" : Str)).isSome = false
/-- .. of a class -/
structure HexC (K : PySem.W.Frag) (D fI C : Addr) : Prop where
  mro : PySem.W.mroIn K C (.ref D) = some true
  init : PySem.W.findIn K (.ref C) "__init__" = some (some (.ref fI))
  ex : PySem.W.excInitIn K C [.type "ValueError", .type "Exception", .type "BaseException", .type "object"] "ValueError.__new__" = true
  sup : PySem.W.ks_superIn K C D "__init__" = some (some (.builtin "ValueError.__init__"))
  sv : PySem.W.subIn K (.ref C) (.type "ValueError") = some true
  sa : PySem.W.findIn K (.ref C) "__setattr__" = some (some (.builtin "object.__setattr__"))
  nv : PySem.W.findIn K (.ref C) "value" = some none
  cd : ∃ cd, PySem.W.clsIn K C = some cd ∧ PySem.HandSPX.refsVE cd.mro = true ∧ cd.hasDict = true
theorem super_boot : bootBuiltins "super" = some (.type "super") := by first | rfl | decide +kernel
section
variable {P : Program} {w : World} {K : PySem.W.Frag} {mg mb : Str → Option Value} {A : Around} {s : Shared} {D fI cc cda C L : Addr} {qual : Str} {params : Arguments} {body : List Stmt} {scope : Scope}
theorem wp_name {M : Model} {A : Around} {E : Value → Shared → Prop} {s : Shared} {env : PySem.Env} {x : Str} {p : Pos} {m : Str → Option Value} {v : Value} {Q : Value → Shared → Prop} (hk : env.scope.kind = .function) (hl : env.kindOf x = some .local) (hn : s.heap.Ns env.locals m) (hv : m x = some v) (h : Q v s) (hd : (x == ("__debug__" : Str)) = false := by decide) :
    wpAny M A (eval (.Name x p) env) Q E s := by
  rw [eval_Name env x p hd]
  exact wpAny_bind (wpAny_standAt (wpAny_loadName_local hk hl hn hv h))
theorem int_of {env : PySem.Env} (h : env.scope.kind = .function) : interactive env = false := by
  unfold interactive
  first
    | (rw [h]; rfl)
    | simp [h]
theorem mcall_eq {env : PySem.Env} {o x : Expr} {name : Str} {apos pos : Pos} (hx : starEach [x] env = [(false, eval x env)]) (hl : (apos.endLine == pos.line) = true) : ∃ pl, eval (.Call (.Attribute o name apos) [x] [] pos) env = (do
      let ov ← attributeBase o name env (eval o env)
      standAt apos.atName
      let (f, first) ← holding [ov] (getMethod ov name pl)
      callWith pos f first (backTo pos (starEach [x] env)) []) := by
  have hform : methodCallForm (([x] : List Expr).length + ([] : List Keyword).length) (backTo pos (starEach [x] env)) (backToKw pos (keywordEach [] env)) = true := by
    rw [hx]
    rfl
  have hpos : methodCallPos true o env apos pos = pure pos := by
    unfold methodCallPos
    simp [hl]
  refine ⟨?_, ?_⟩
  rotate_left
  · rw [arm_eval_Call]
    unfold methodCall
    rw [hform, hpos]
    rfl
/-- __init__, over the raw heap: all that stood stays, the exception has its dict with the value -/
theorem hex_init {R : Result → Shared → Prop} {x t0 : Addr} {u : Value} {h₀ : Heap} (I : HexI P K D fI cc cda qual params body scope) (T : HexC K D fI C) (X₀ : K.In h₀) (k0 : ∀ b o, h₀.get? b = some o → s.heap.get? b = some o) (nx : h₀.get? x = none) (sz : h₀.objs.size ≤ s.heap.objs.size)
    (hlim : s.heap.NoLimit) (hg : h₀.Ns mainGlobals mg) (hms : mg "super" = none) (hb : h₀.Ns builtinsNs mb) (hbb : ∀ x : Str, x ≠ "__name__" → mb x = bootBuiltins x)
    (hroom : A.depth < recursionLimit) (hx : s.heap.get? x = some (PySem.W.excObj C t0 none .none))
    (h : ∀ s' t1 dx, s'.os = s.os → s'.gens = s.gens → (∀ b o, h₀.get? b = some o → s'.heap.get? b = some o) → h₀.objs.size ≤ dx → dx ≠ x → s'.heap.get? x = some (PySem.W.excObj C t1 (some dx) .none) →
      s'.heap.Ns1 dx (fun y => if y = "value" then some u else none) → R (.ok (.ret .none)) s') :
    codeAny (model P w) A (.call (.ref fI) ⟨[.ref x, u], []⟩) R s := by
  obtain ⟨oc, od, kV, doc, pm, ct, an, osl, lk, hbind⟩ := I.lk
  have X : K.In s.heap := X₀.keeps k0
  have hfn := X _ _ lk
  obtain ⟨p0, p1, p2, p3, p4, p5, p6, p7, p8, p9, hline, rfl⟩ := I.body
  obtain ⟨ccl, cdd, vs, ccs, file, tf, c1, c2, c3⟩ := I.code
  obtain ⟨cl, cld, csl, cell⟩ := I.cell
  obtain ⟨cdD, hD⟩ := I.hD
  obtain ⟨ar, hp, har⟩ := I.hp
  obtain ⟨cdC, hC, href, hdict⟩ := T.cd
  refine ks_codeAny_call_defAt (fd := PySem.W.ksFn "__init__" qual params _ scope .none kV doc pm an (.ref cda) ct cc) hroom hfn rfl hlim (PySem.W.codeRec_of X I.cd) rfl (hbind s _ _) I.nocell (fun y hy => ?_) (fun h₁ hns hk => ?_) I.co I.gen I.kind
  · rcases List.mem_cons.mp hy with rfl | hy
    · exact I.slf
    · obtain rfl := List.mem_singleton.mp hy
      exact I.val
  obtain ⟨hh, g, d, t, os⟩ := s
  let L := hh.objs.size
  let m : Str → Option Value := fun y => ([("self", .ref x), ("value", u)] : List (Str × Value)).reverse.lookup y
  have m1 : m ar.arg = some (.ref x) := by
    rw [har]
    show ([(("value" : Str), u), (("self" : Str), Value.ref x)] : List (Str × Value)).lookup ("self" : Str) = _
    rw [List.lookup_cons, show (("self" : Str) == ("value" : Str)) = false by decide]
    simp [List.lookup]
  have m2 : m "value" = some u := by
    show ([(("value" : Str), u), (("self" : Str), Value.ref x)] : List (Str × Value)).lookup ("value" : Str) = _
    simp [List.lookup]
  have m3 : m "self" = some (.ref x) := by rw [← har]; exact m1
  have F : Fr h₀ L h₁ m := ⟨hns, fun b o e => hk b o (k0 b o e), sz⟩
  have xL : x ≠ L := Nat.ne_of_lt (Heap.lt_size hx)
  have N : News h₀ L h₁ [(x, PySem.W.excObj C t0 none .none)] := fun p hp => by
    obtain rfl := List.mem_singleton.mp hp
    exact ⟨hk _ _ hx, xL, nx⟩
  have X1 : K.In h₁ := X₀.keeps F.keep
  obtain ⟨oD, hD1, hD2⟩ : ∃ oD, h₁.get? D = some oD ∧ oD.data = .cls cdD := by
    unfold PySem.W.clsIn at hD
    split at hD
    · rename_i c d cd' sl ho
      cases hD
      exact ⟨_, X1 _ _ ho, rfl⟩
    · cases hD
  have he := mcall_eq (env := PySem.W.ksEnv qual scope L fI (.ref cda) cc) (o := .Call (.Name "super" p0) [] [] p1) (name := "__init__") (x := .Name "value" p3) (hx := rfl) hline
  obtain ⟨pl, he⟩ := he
  refine ks_wpAt_execs_cons (ks_wpAt_Expr_any (ks_wpAt_MethodCall (pl := pl) ?_ he) (int_of I.kind))
  refine ks_wpAt_super_base (env := PySem.W.ksEnv qual scope L fI (.ref cda) cc) I.sup I.cls (by decide) rfl (X1 _ _ lk) rfl hp rfl (X1 _ _ c1) rfl c2 c3 I.top ?_
  refine PySem.W.ks_loadName_global I.kind I.sup (Calls.loadGlobal_builtin (env := PySem.W.ksEnv qual scope L fI (.ref cda) cc) (hg.keeps F.keep) hms (hb.keeps F.keep) ((hbb _ (by decide)).trans super_boot) ⟨rfl, ?_⟩)
  refine wpAny_loadName_free I.kind I.cls rfl ⟨_, X1 _ _ cell, rfl⟩ ?_
  refine wpAny_loadName_local I.kind (show scope.names.lookup ar.arg = _ by rw [har]; exact I.slf) F.ns m1 ?_
  refine ks_wpAny_isType_cls hD1 hD2 ⟨rfl, ?_⟩
  refine ks_wpAny_call_super hD1 hD2 (hk _ _ hx) rfl (fun c e => by cases e) (PySem.W.looks_mroIn X1 T.mro) (fun h2 e2 k2 => ?_)
  obtain ⟨F2, N2, l2⟩ := PySem.W.ks_newsPush (s := ⟨h₁, g, d, t + 2, os⟩) F N rfl e2 k2
  have I2 : PySem.W.InstAt h2 x (PySem.W.excObj C t0 none .none) C none := PySem.W.InstAt.of_exc0 N2 (.tail _ (.head _))
  refine PySem.W.kxs_method (s := ⟨h2, g, d, t + 2, os⟩) PySem.W.kxs_ValueError F2 X₀ N2 (.head _) I2 I.op T.sup T.sv (by decide) (fun q h3 F3 N3 l3 => ?_)
  refine PySem.W.kxs_callWith1 N3 (.head _) ?_
  refine spliced_more (wp_name I.kind I.val F3.ns m2 (spliced_none ⟨PySem.W.kxs_at N3 (.head _), ?_⟩))
  have qx : (q, PySem.W.kxs_mw "ValueError.__init__" x).1 ≠ x := Ne.symm (Nat.ne_of_lt (l3 _ (.tail _ (.head _))))
  have sx : (h₁.objs.size, PySem.W.ks_superObj D x C).1 ≠ x := Ne.symm (Nat.ne_of_lt (l2 _ (.head _)))
  have U : PySem.W.UpdF x (PySem.W.excObj C t0 none .none) [(q, PySem.W.kxs_mw "ValueError.__init__" x), (h₁.objs.size, PySem.W.ks_superObj D x C), (x, PySem.W.excObj C t0 none .none)]
      (fun o' => [(q, PySem.W.kxs_mw "ValueError.__init__" x), (h₁.objs.size, PySem.W.ks_superObj D x C), (x, o')]) := .tail qx (.tail sx (.head fun _ z => nomatch z))
  refine PySem.W.kxs_call (s := ⟨h3, g, d, t + 2 + 1, os⟩) F3 X₀ N3 PySem.F.excBase_ValueError T.ex (.head _) U (by show 1 ≤ sizeLine; rw [sizeLine_eq]; omega) (fun t1 h4 F4 N4 l4 => ?_)
  have hx4 : h4.get? x = some (PySem.W.excObj C t1 none .none) := (N4 _ (.tail _ (.tail _ (.tail _ (.head _))))).1
  have X4 : K.In h4 := X₀.keeps F4.keep
  refine ks_wpAt_execs_cons (ks_wpAt_Assign_Attr (wpAt_of_wpAny (wp_name I.kind I.val F4.ns m2 ?_)))
  refine wp_name I.kind I.slf F4.ns m3 ?_
  have I4 : PySem.W.InstAt h4 x (PySem.W.excObj C t1 none .none) C none := ⟨hx4, rfl, rfl, trivial⟩
  refine PySem.W.set_plain (s := ⟨h4, g, d, t + 2 + 1, os⟩) X4 I4 T.sa ?_
  refine PySem.HandSPX.exc_osa X4 hx4 hC href hdict T.nv (fun h5 tk' dx k5 hd ndx hx5 hn5 => ?_)
  refine wpAt_of_wpAny (wpAny_execs_nil ?_)
  refine h ⟨h5, g, d, tk', os⟩ t1 dx rfl rfl (fun b o e => k5 b o (fun z => by rw [z, nx] at e; cases e) (F4.keep b o e)) ?_ ndx hx5 hn5
  obtain ⟨oL, _, _, hL, _⟩ := F4.ns
  exact Nat.le_trans sz (Nat.le_trans (Nat.le_of_lt (Heap.lt_size hL)) hd)
/-- C(value) -/
theorem excG {T : Tbl} {base : Heap} {c : Str} (I : HexI P K D fI cc cda qual params body scope) (TC : HexC K D fI C) (hc : mg c = some (.ref C)) (hms : mg "super" = none) : FnG P w K mg base 3 C (spU K mg T (excM c)) := by
  refine ⟨fun A outer s H us vs Q E hr hg e0 r hsp => ?_⟩
  obtain ⟨w0, ds, rfl, k, rv, q⟩ := hsp
  rcases ds with _ | ⟨d, _ | ⟨d2, ds⟩⟩ <;> first | exact False.elim q | skip
  obtain ⟨v, rfl, r1⟩ := rv.one
  cases r with
  | cons ru rn =>
    cases rn
    rename_i u
    obtain ⟨hh, g, dw, t, os⟩ := s
    have bk : ∀ b o, base.get? b = some o → hh.get? b = some o := fun b o e => (e0.bs b o e).1
    have Xs : K.In hh := e0.mod.kin.keeps bk
    obtain ⟨mb, hb, hbb⟩ := e0.mod.blt
    obtain ⟨nm, N, qn, bs, bm, hdct, sn, sub, ab, col, dd, k0, k1, k2, k3, k5, hC, hT⟩ := PySem.W.excInit_of Xs TC.ex
    have kk : ∀ b o, hh.get? b = some o → ((hh.push (PySem.W.kdv_tup [u])).push (PySem.HandSPX.excO C hh.objs.size)).get? b = some o := fun b o e => Heap.get?_push_of_some _ (Heap.get?_push_of_some _ e)
    have hget : ((hh.push (PySem.W.kdv_tup [u])).push (PySem.HandSPX.excO C hh.objs.size)).get? (hh.objs.size + 1) = some (PySem.HandSPX.excO C hh.objs.size) := by heap_get
    have hr' : Room 2 (A.under (.builtin "type.__call__" ⟨.ref C :: [u], []⟩)) := hr.make C [u] []
    refine PySem.HandSPX.call_own PySem.F.excBase_ValueError hT hC (PySem.W.looks_findIn Xs TC.init) (fun self => PySem.W.bind_fn Xs self I.ty) (by show 1 ≤ sizeLine; rw [sizeLine_eq]; omega) ?_
    refine hex_init (h₀ := hh) I TC Xs kk ?_ ?_ ((e0.mod.nolimit.keeps bk).keeps kk) (e0.mod.glob.keeps bk) hms (hb.keeps bk) hbb hr'.depth hget (fun s' t1 dx ho hgn kp hdx ndx hx' hn' => ?_)
    · cases z : hh.get? (hh.objs.size + 1) with
      | none => rfl
      | some o => exact absurd (show hh.objs.size + 1 < hh.objs.size from Heap.lt_size z) (by omega)
    · show hh.objs.size ≤ ((hh.push (PySem.W.kdv_tup [u])).push (PySem.HandSPX.excO C hh.objs.size)).objs.size
      rw [Heap.size_push, Heap.size_push]
      omega
    · have hxn : w0.H (hh.objs.size + 1) = none := e0.hok.fresh (Nat.le_succ _)
      have hdn : w0.H dx = none := e0.hok.fresh hdx
      have hx1 : (w0.lay dx (.xd [(("value" : Str), v)])).H (hh.objs.size + 1) = none := (upd_ne (Ne.symm ndx)).trans hxn
      have rel : ∀ f : Str, RelO (([(("value" : Str), v)] : List (Str × V)).lookup f) (if f = ("value" : Str) then some u else none) := fun f => by
        by_cases hf : f = ("value" : Str)
        · subst hf
          rw [if_pos rfl]
          have e : ([(("value" : Str), v)] : List (Str × V)).lookup (PySem.Str.ofString "value") = some v := by simp [List.lookup]
          rw [e]
          exact ru
        · rw [if_neg hf]
          have : (f == ("value" : Str)) = false := by simpa using hf
          simp [List.lookup, this]
          trivial
      have ok1 : HOk P w (w0.lay dx (.xd [(("value" : Str), v)])).H s'.heap := e0.hok.laidN kp hdn ⟨_, hn', rel⟩
      have ok2 : HOk P w ((w0.lay dx (.xd [(("value" : Str), v)])).lay (hh.objs.size + 1) (ExX C dx (hh.objs.size + 1))).H s'.heap :=
        ok1.laidN (fun _ _ e => e) hx1 ⟨⟨_, _, hx', ⟨rfl, rfl⟩, rfl⟩, ⟨_, hx'⟩, fun _ _ ⟨o, vs, q1, q2⟩ kk => ⟨o, vs, kk o q1, q2⟩⟩
      have nH : ∀ {b : Addr} {o : HO}, w0.H b = some o → ((w0.lay dx (.xd [(("value" : Str), v)])).lay (hh.objs.size + 1) (ExX C dx (hh.objs.size + 1))).H b = some o := fun {b o} e =>
        (upd_ne (ne_of_none e hxn)).trans ((upd_ne (ne_of_none e hdn)).trans e)
      have un : Un (frs outer) [] w0.H ((w0.lay dx (.xd [(("value" : Str), v)])).lay (hh.objs.size + 1) (ExX C dx (hh.objs.size + 1))).H hh s'.heap := {
        keep := fun b o e _ _ _ => kp b o e
        slot := fun b o e _ _ _ => ⟨o.slots, kp b o e⟩
        free := fun b o e n _ => (upd_ne (Nat.ne_of_lt (Nat.lt_succ_of_lt (Heap.lt_size e)))).trans ((upd_ne (Nat.ne_of_lt (Nat.lt_of_lt_of_le (Heap.lt_size e) hdx))).trans n)
        there := fun b o e _ => ⟨o, kp b o e⟩
        tups := fun b xs e => nH e
        frzs := fun b o x e => nH e
        tbls := fun b ps e => ⟨#[], by rw [nH e]; simp⟩ }
      have bare : AllBare s'.gens := by
        rw [hgn]
        exact e0.bare
      refine ⟨rfl, .ref (hh.objs.size + 1), _, ho, bare, un, ok2, rfl, ?_⟩
      have E1 : Ex w0 (w0.lay dx (.xd [(("value" : Str), v)])) := Ex.lay hdn
      have kl : Ok K mg T (w0.lay dx (.xd [(("value" : Str), v)])) := k.lay hdn
      refine q ((w0.lay dx (.xd [(("value" : Str), v)])).lay (hh.objs.size + 1) (ExX C dx (hh.objs.size + 1))) _ rfl (E1.trans (Ex.lay hx1)) (kl.lay hx1) (rv_exc.mpr ⟨_, C, dx, v, rfl, hc, upd_same, kl.layOff hx1, (upd_ne ndx).trans upd_same, Ex.rv (E1.trans (Ex.lay hx1)) _ _ r1⟩)
end
end Tu
end L2
set_option Elab.async false
set_option linter.all false
set_option maxRecDepth 100000
set_option maxHeartbeats 8000000
/-! TB22: the law's head. -/
namespace L2
namespace Tu
open PySem PySem.Spec PyProof.Rows
open Classical
/-- the head: the promise of the law's def at the heap behind the top; the script is a list that stands for ever -/
theorem law_callG {P : Program} {w : World} {K : PySem.W.Frag} {mg mb : Str → Option Value} {k : Nat} {fa a : Addr} {m : List D → Store → Res D} {s₁ : Shared} {vs : List Value} {ns : List Int}
    (KX : K.In s₁.heap) (hns : s₁.heap.Ns mainGlobals mg) (hb : s₁.heap.Ns builtinsNs mb) (hbb : ∀ x : Str, x ≠ "__name__" → mb x = bootBuiltins x) (hlim : s₁.heap.NoLimit) (hg : s₁.gens = #[])
    (ha : s₁.heap.get? a = some { cls := .type "list", data := .seq vs.toArray }) (hi : IntsAre vs ns) (hl : ns.length ≤ sizeLine) (hr : Room k callerA) (hgu : callerA.guards = some [])
    (F : ∀ base : Heap, K.In base → base.Ns mainGlobals mg → FnG P w K mg base k fa (spU K mg [] m))
    (hm : ∃ S, m [.lst (ns.map .int)] [] = .ok (.bl true) S) :
    codeAny (model P w) callerA (.call (.ref fa) ⟨[.ref a], []⟩) (fun r s' => r = .ok (.ret (.bool true)) ∧ OldK s₁.heap s'.heap ∧ s'.os = s₁.os ∧ AllBare s'.gens) s₁ := by
  have rv := vals_ints hi
  have lenV := hi.length
  obtain ⟨S, hm⟩ := hm
  have core : ∀ H : Hp, (∀ b, H b = none ∨ ∃ o u, H b = some (.frz o u)) → ((∃ o, H a = some (.frz o (.lst (ns.map V.int)))) ∨ WL K a (ns.map V.int)) → HOk P w H s₁.heap → (∀ b, H b ≠ none → b = a) → (H a ≠ none → K.lookup a = none) →
      codeAny (model P w) callerA (.call (.ref fa) ⟨[.ref a], []⟩) (fun r s' => r = .ok (.ret (.bool true)) ∧ OldK s₁.heap s'.heap ∧ s'.os = s₁.os ∧ AllBare s'.gens) s₁ := by
    intro H hO hS hok hA hK
    have base_of : ∀ {b : Addr} {o : Obj}, s₁.heap.get? b = some o → H b = none → (hidT s₁.heap H).get? b = some o := fun e n => hidT_get e n
    have nsK : ∀ {b : Addr} {m : Str → Option Value}, s₁.heap.Ns b m → (hidT s₁.heap H).Ns b m := fun {b m} ⟨o, es, ep, e, d, r⟩ => ⟨o, es, ep, base_of e (by
      cases q : H b with
      | none => rfl
      | some u =>
        have z := hA b (by rw [q]; simp)
        subst z
        rw [ha] at e
        cases e
        cases d), d, r⟩
    have hKb : K.In (hidT s₁.heap H) := fun b o e => base_of (KX b o e) (by
      cases q : H b with
      | none => rfl
      | some u =>
        have z := hA b (by rw [q]; simp)
        subst z
        rw [hK (by rw [q]; simp)] at e
        cases e)
    have hM : Mod K mg (hidT s₁.heap H) := ⟨hKb, nsK hns, ⟨mb, nsK hb, hbb⟩, let ⟨mc, h1, h2⟩ := hlim; ⟨mc, nsK h1, h2⟩⟩
    have e0 : Env0 P w K mg (hidT s₁.heap H) callerA [] s₁ H := ⟨rfl, hM, fun b o e => of_hidT e, Nat.le_of_eq (hidT_size _ _), trivial, fun b hb => absurd (show b ∈ ([] : List Addr) from hb) (by simp), hok, .of_eq hg⟩
    let w0 : Wd := ⟨H, fun _ => 0, [], fun _ => False⟩
    have k0 : Ok K mg [] w0 := ⟨fun i j hi => absurd hi (by simp [w0]), fun i c h => by simp [w0] at h, fun p hp => absurd hp (by simp), fun i hi => absurd hi (by simp [w0])⟩
    have r0 : RVs K mg w0 [.lst (ns.map .int)] [.ref a] := RVs.cons (rv_lst.mpr ⟨a, _, rfl, .inr hS, RVs.ints ns⟩) RVs.nil
    have hsp : spU K mg [] m [.ref a] H (fun v H' => v = .bl true ∧ ∀ b o u, H b = some (.frz o u) → H' b = some (.frz o u)) (fun _ _ _ => False) := by
      refine ⟨w0, [.lst (ns.map .int)], rfl, k0, r0, ?_⟩
      show out K mg [] _ _ _ (m [.lst (ns.map .int)] []) w0 _
      rw [hm]
      intro w' x _ e1 _ r1
      exact ⟨rv_bl.mp r1, fun b o u h => e1.frz b o u h⟩
    refine codeAny_mono ((F _ hKb (nsK hns)).run callerA [] s₁ H [.ref a] [.ref a] _ _ hr hgu e0 (.cons rfl .nil) hsp) fun r s' h => ?_
    cases r with
    | error e =>
      have h' : L2.CX P w [] H s₁ (fun _ _ _ => False) e s' := h
      obtain ⟨_, _, _, _, _, _, _, _, _, _, _, _, z⟩ := h'
      exact z.elim
    | ok fl =>
      cases fl with
      | next => exact False.elim h
      | brk => exact False.elim h
      | cont => exact False.elim h
      | ret u =>
        obtain ⟨v, H', os, bare, un, hok', r', q⟩ := h
        obtain ⟨q1, q2⟩ := q
        subst q1
        obtain rfl : u = Value.bool true := r'
        refine ⟨rfl, OldK.of_keep fun b o e => ?_, os, bare⟩
        cases q : H b with
        | none => exact un.keep b o e q (by intro z; exact absurd (show b ∈ ([] : List Addr) from z) (by simp)) (by simp)
        | some u =>
          rcases hO b with z | ⟨ob, xs, z⟩
          · rw [q] at z; cases z
          · have z2 := q2 b ob _ z
            obtain ⟨e1, _⟩ := hok b _ z
            obtain ⟨e2, _⟩ := hok' b _ z2
            rw [e] at e1; cases e1
            exact e2
  cases hk : K.lookup a with
  | some o =>
    have e := KX a o hk
    rw [ha] at e
    cases e
    exact core (fun _ => none) (fun _ => .inl rfl) (.inr ⟨_, vs.toArray, _, hk, rfl, rfl, rfl, by rw [List.size_toArray, lenV]; exact hl, by simpa using rv⟩) (fun b u z => by have z' : (none : Option HO) = some u := z; cases z') (fun b z => absurd rfl z) fun z => absurd rfl z
  | none =>
    refine core (fun b => if b = a then some (.frz { cls := .type "list", data := .seq vs.toArray } (.lst (ns.map V.int))) else none) (fun b => ?_) (.inl ⟨{ cls := .type "list", data := .seq vs.toArray }, if_pos rfl⟩) (fun b u z => ?_) (fun b z => ?_) fun _ => hk
    · by_cases hba : b = a
      · exact .inr ⟨_, _, if_pos hba⟩
      · exact .inl (if_neg hba)
    · by_cases hba : b = a
      · have z' := (if_pos hba).symm.trans z
        cases z'
        subst hba
        exact ⟨ha, by rw [List.length_map]; exact hl, vs, _, rv, ha⟩
      · have z' := (if_neg hba).symm.trans z
        cases z'
    · by_cases hba : b = a
      · exact hba
      · exact absurd (if_neg hba) z
/-- the goal that the head leaves, from the law's promise -/
theorem walk_G {l : PySem.W.OpenLaw} {n k : Nat} {q : Program} {loose : List Str} {XP : (Str → Option Value) → Heap → Prop} {YP : World → Heap → Prop} {d : DefRec} {K : Params → PySem.W.Frag} {m : List D → Store → Res D}
    (hn : l.most = some n) (hn2 : n ≤ sizeLine) (hdf : d.params.defaults = []) (hr : Room k callerA) (hgu : callerA.guards = some [])
    (hY : ∀ (w : World) (h : Heap), YP w h → (K w.params).In h)
    (F : ∀ (w : World) (mg : Str → Option Value) (fa : Addr) (h : Heap), (K w.params).In h → h.Ns mainGlobals mg → mg d.name = some (.ref fa) →
      ∀ base : Heap, (K w.params).In base → base.Ns mainGlobals mg → FnG l.prog w (K w.params) mg base k fa (spU (K w.params) mg [] m))
    (hm : ∀ ns : List Int, ns.length ≤ n → ∃ S, m [.lst (ns.map .int)] [] = .ok (.bl true) S) :
    PySem.W.WalkO q loose XP YP l.row.toRowW d [] (fun f vs => PySem.call f vs) := by
  refine Att.attach_call hn hdf fun w s₀ s₁ mg mb fa o pm cd doc a vs ns G Y ho hd hcd hmg hobj hints hlen hg => ?_
  have KX := hY w _ Y
  exact law_callG KX G.T.g G.T.b G.T.builtins G.T.nolimit hg hobj hints (Nat.le_trans hlen hn2) hr hgu (F w mg fa _ KX G.T.g hmg) (hm ns hlen)
end Tu
end L2
set_option Elab.async false
set_option linter.all false
set_option maxRecDepth 100000
set_option maxHeartbeats 8000000
/-! TB23: what the top has written, by checks. -/
namespace L2
namespace Tu
open PySem PySem.Spec PyProof.Rows
open Classical
section
variable {K : PySem.W.Frag} {mg : Str → Option Value} {T : Tbl} {h : Heap}
theorem defK {d : DefI} {f : Addr} {oc kV doc pm cdv ct : Value} {od an : Option Addr} {osl : Array (Option Value)} (X : K.In h) (G : h.Ns mainGlobals mg) (a : PySem.W.nsIn K mainGlobals d.x = some (some (.ref f)))
    (l : K.lookup f = some ⟨oc, od, .func (PySem.W.fnOf d.x d.x (defArgs d.st) (defBody d.st) (defScope d.st) .none kV doc pm an cdv ct), osl⟩) (c : PySem.W.codeIn K cdv d.x = true) (k : PySem.W.keepIn K (.ref f) = true)
    (b : ∀ (kV doc pm : Value) (an : Option Addr) (cdv ct : Value) (us : List Value), us.length = d.ps.length → bindArgs (PySem.W.fnOf d.x d.x (defArgs d.st) (defBody d.st) (defScope d.st) .none kV doc pm an cdv ct) ⟨us, []⟩ = pure (d.ps.zip us))
    (S : FnScope d.N d.ps (defScope d.st)) : DefK K mg d := ⟨⟨f, _, PySem.W.mg_of X G a, fun_mk l c k, (fun_mk l c k).binds b⟩, S⟩
/-- a class of the package's errors -/
def excB (K : PySem.W.Frag) (C : Addr) : Bool :=
  decide (PySem.W.findIn K (.ref C) "__getattribute__" = some (some (.builtin "BaseException.__getattribute__"))) && decide (PySem.W.findIn K (.ref C) "__getattr__" = some none) && decide (PySem.W.subIn K (.ref C) (.type "BaseException") = some true) && PySem.W.hasDictIn K C &&
  decide (PySem.W.findIn K (.ref C) "__class__" = some (some (.builtin "object.__class__"))) && decide (PySem.W.specialIn K (.builtin "object.__class__") "__get__" = some (some (.builtin "getset_descriptor.__get__"))) && decide (PySem.W.takesIn K (.builtin "object.__class__") = some true) && decide (PySem.W.mroIn K C (.type "object") = some true)
theorem excB_ok {C : Addr} (e : excB K C = true) : ExcC K C := by
  unfold excB at e
  simp only [Bool.and_eq_true, decide_eq_true_eq] at e
  obtain ⟨⟨⟨⟨⟨⟨⟨h1, h2⟩, h3⟩, h4⟩, h5⟩, h6⟩, h7⟩, h8⟩ := e
  exact ⟨h1, h2, h3, h4, h5, h6, h7, h8⟩
def hexB (K : PySem.W.Frag) (D fI C : Addr) : Bool :=
  decide (PySem.W.mroIn K C (.ref D) = some true) && decide (PySem.W.findIn K (.ref C) "__init__" = some (some (.ref fI))) && PySem.W.excInitIn K C [.type "ValueError", .type "Exception", .type "BaseException", .type "object"] "ValueError.__new__" &&
  decide (PySem.W.ks_superIn K C D "__init__" = some (some (.builtin "ValueError.__init__"))) && decide (PySem.W.subIn K (.ref C) (.type "ValueError") = some true) && decide (PySem.W.findIn K (.ref C) "__setattr__" = some (some (.builtin "object.__setattr__"))) &&
  decide (PySem.W.findIn K (.ref C) "value" = some none) && (PySem.W.clsIn K C).any fun cd => PySem.HandSPX.refsVE cd.mro && cd.hasDict
theorem hexB_ok {D fI C : Addr} (e : hexB K D fI C = true) : HexC K D fI C := by
  unfold hexB at e
  simp only [Bool.and_eq_true, decide_eq_true_eq] at e
  obtain ⟨⟨⟨⟨⟨⟨⟨h1, h2⟩, h3⟩, h4⟩, h5⟩, h6⟩, h7⟩, h8⟩ := e
  refine ⟨h1, h2, h3, h4, h5, h6, h7, ?_⟩
  obtain ⟨cd, hc, hb⟩ := PySem.W.any_some h8
  simp only [Bool.and_eq_true] at hb
  exact ⟨cd, hc, hb.1, hb.2⟩
def adrB (K : PySem.W.Frag) (c : Str) : Option Addr := match PySem.W.nsIn K mainGlobals c with
  | some (some (.ref C)) => some C
  | _ => none
theorem adrB_ok {c : Str} {C : Addr} (e : adrB K c = some C) : PySem.W.nsIn K mainGlobals c = some (some (.ref C)) := by
  unfold adrB at e
  split at e
  · rename_i q
    cases e
    exact q
  · cases e
def clsB (K : PySem.W.Frag) (D fI : Addr) (cls : List Str) : Bool := cls.all fun c => (adrB K c).any fun C => hexB K D fI C && excB K C && PySem.W.keepIn K (.ref C)
theorem clsB_ok {D fI : Addr} {cls : List Str} (e : clsB K D fI cls = true) : ∀ c ∈ cls, ∃ C, PySem.W.nsIn K mainGlobals c = some (some (.ref C)) ∧ HexC K D fI C ∧ ExcC K C ∧ PySem.W.keepIn K (.ref C) = true := fun c hc => by
  obtain ⟨C, h1, h2⟩ := PySem.W.any_some (List.all_eq_true.mp e c hc)
  simp only [Bool.and_eq_true] at h2
  exact ⟨C, adrB_ok h1, hexB_ok h2.1.1, excB_ok h2.1.2, h2.2⟩
/-- a class's value, for isinstance -/
def valB (K : PySem.W.Frag) (c : Str) : Option Value := match PySem.W.nsIn K mainGlobals c with
  | some (some (.ref C)) => some (.ref C)
  | some none => (match bootBuiltins c with
    | some (.type t) => if c = "__name__" then none else some (.type t)
    | _ => none)
  | _ => none
def isiB (K : PySem.W.Frag) (cls iss : List Str) (isi : Str → Str → Bool) : Bool := iss.all fun c => (valB K c).any fun u => cls.all fun c' => (adrB K c').any fun C' => decide (PySem.W.kitOne K (.ref C') u = some (isi c' c))
theorem isiB_ok {cls iss : List Str} {isi : Str → Str → Bool} (X : K.In h) (G : h.Ns mainGlobals mg) (e : isiB K cls iss isi = true) :
    ∀ c ∈ iss, ∃ v u, RelV v u ∧ (∀ u', RelV v u' → u' = u) ∧ (mg c = some u ∨ (mg c = none ∧ bootBuiltins c = some u ∧ c ≠ "__name__")) ∧ ∀ c' ∈ cls, ∀ C', mg c' = some (.ref C') → PySem.W.kitOne K (.ref C') u = some (isi c' c) := fun c hc => by
  obtain ⟨u, h1, h2⟩ := PySem.W.any_some (List.all_eq_true.mp e c hc)
  have kit : ∀ c' ∈ cls, ∀ C', mg c' = some (.ref C') → PySem.W.kitOne K (.ref C') u = some (isi c' c) := fun c' hc' C' hm => by
    obtain ⟨C2, h3, h4⟩ := PySem.W.any_some (List.all_eq_true.mp h2 c' hc')
    have z := PySem.W.mg_of X G (adrB_ok h3)
    rw [hm] at z
    cases z
    exact of_decide_eq_true h4
  unfold valB at h1
  split at h1
  · rename_i C q
    cases h1
    exact ⟨.ref C, .ref C, rfl, fun u' r => r, .inl (PySem.W.mg_of X G q), kit⟩
  · rename_i q
    split at h1
    · rename_i t qb
      split at h1
      · cases h1
      · rename_i hn
        cases h1
        exact ⟨.ty t, .type t, rfl, fun u' r => r, .inr ⟨PySem.W.mg_none_of X G q, qb, hn⟩, kit⟩
    · cases h1
  · cases h1
def noneB (K : PySem.W.Frag) (xs : List Str) : Bool := xs.all fun x => match PySem.W.nsIn K mainGlobals x with
  | some none => true
  | _ => false
theorem noneB_ok {xs : List Str} (X : K.In h) (G : h.Ns mainGlobals mg) (e : noneB K xs = true) : ∀ x ∈ xs, mg x = none := fun x hx => by
  have q := List.all_eq_true.mp e x hx
  split at q
  · rename_i z
    exact PySem.W.mg_none_of X G z
  · cases q
/-- the base class's __init__ -/
def codB (P : Program) (K : PySem.W.Frag) (D cc cda : Addr) (qual : Str) : Bool := PySem.W.codeIn K (.ref cda) qual && (match K.lookup cda with
  | some ⟨_, _, .fields vs, _⟩ => (match (vs[2]? : Option Value) with
    | some (Value.str f _) => (P.main.file : Str) == f
    | _ => false)
  | _ => false) && (match K.lookup cc with
  | some ⟨_, _, .cell (some (.ref D')), _⟩ => decide (D' = D)
  | _ => false) && (PySem.W.clsIn K D).isSome && !(P.main.scope.names.lookup ("super" : Str)).isSome
structure ScpI (body : List Stmt) (scope : Scope) : Prop where
  body : ∃ p0 p1 p2 p3 p4 p5 p6 p7 p8 p9 : Pos, (p2.endLine == p4.line) = true ∧ body = [.Expr (.Call (.Attribute (.Call (.Name "super" p0) [] [] p1) "__init__" p2) [.Name "value" p3] [] p4) p5, .Assign [.Attribute (.Name "self" p6) "value" p7] (.Name "value" p8) p9]
  sup : scope.names.lookup ("super" : Str) = some .globalImplicit
  cls : scope.names.lookup ("__class__" : Str) = some .free
  slf : scope.names.lookup ("self" : Str) = some .local
  val : scope.names.lookup ("value" : Str) = some .local
  nocell : ∀ x ∈ scope.names, x.2 ≠ .cell
  kind : scope.kind = .function
  co : scope.isCoroutine = false
  gen : scope.isGenerator = false
theorem hexI_of {P : Program} {D fI cc cda : Addr} {qual : Str} {st : Stmt} {oc kV doc pm ct : Value} {od an : Option Addr} {osl : Array (Option Value)}
    (l : K.lookup fI = some ⟨oc, od, .func (PySem.W.ksFn "__init__" qual (defArgs st) (defBody st) (defScope st) .none kV doc pm an (.ref cda) ct cc), osl⟩)
    (b : ∀ (kV doc pm ct : Value) (an : Option Addr) (s : Shared) (x y : Value), BindsTo s (PySem.W.ksFn "__init__" qual (defArgs st) (defBody st) (defScope st) .none kV doc pm an (.ref cda) ct cc) ⟨[x, y], []⟩ [("self", x), ("value", y)])
    (ty : PySem.W.typeIn K (.ref fI) = some (.type "function")) (op : PySem.W.nsIn K cStatics "thirdparty.any" = some none) (c : codB P K D cc cda qual = true) (hp : ∃ ar : Arg, ((defArgs st).posonlyargs ++ (defArgs st).args).head? = some ar ∧ ar.arg = "self") (S : ScpI (defBody st) (defScope st)) :
    HexI P K D fI cc cda qual (defArgs st) (defBody st) (defScope st) := by
  unfold codB at c
  simp only [Bool.and_eq_true] at c
  obtain ⟨⟨⟨⟨c1, c2⟩, c3⟩, c4⟩, c5⟩ := c
  refine ⟨⟨oc, od, kV, doc, pm, ct, an, osl, l, fun s x y => b _ _ _ _ _ s x y⟩, ty, c1, ?_, ?_, Option.isSome_iff_exists.mp c4, op, hp, S.body, S.sup, S.cls, S.slf, S.val, S.nocell, S.kind, S.co, S.gen, by simpa using c5⟩
  · split at c2
    · rename_i e
      split at c2
      · rename_i e2
        exact ⟨_, _, _, _, _, _, e, e2, c2⟩
      · cases c2
    · cases c2
  · split at c3
    · rename_i e
      have z := of_decide_eq_true c3
      subst z
      exact ⟨_, _, _, e⟩
    · cases c3
end
end Tu
end L2
set_option Elab.async false
set_option linter.all false
set_option maxRecDepth 100000
set_option maxHeartbeats 2000000
/-! TB24: what a reckoning is to satisfy; loops by invariants; draws. -/
namespace L2
namespace Tu
open PySem PySem.Spec PyProof.Rows
/-! ### one step after the other: what comes later is not looked at ahead of time -/
theorem nr {α : Type} {a b : α} (h : a = b) : a = b := h
section
variable (G : Gl0)
noncomputable section
def kOp (f : D → D → Store → Option (D × Store)) (x : D) : D → Store → Res D := fun y S => Res.of (f x y S)
def kBin (f : D → D → Store → Option (D × Store)) (b : IE) (ρ : Env) : D → Store → Res D := fun x S => (ev G b ρ S).bind (kOp f x)
def kUn (f : D → Store → Option (D × Store)) : D → Store → Res D := fun x S => Res.of (f x S)
def kBi (f : List D → Store → Option (D × Store)) : List D → Store → Res D := fun x S => Res.of (f x S)
def kNot2 : Bool → Store → Res D := fun b S => .ok (.bl (!b)) S
def kNot : D → Store → Res D := fun x S => (Res.of (truF x S)).bind kNot2
def kLst (fl : Bool) : List D → Store → Res D := fun ds S => if ds.length ≤ sizeLine then resL fl ds S else .bad
def kTup : List D → Store → Res D := fun ds S => if ds.length ≤ sizeLine then .ok (.tup ds) S else .bad
def kB (an : Bool) (e : IE) (es : IEs) (ρ : Env) : D → Store → Res D := fun x S => match x with
  | .bl c => if c = an then evB G an (.cons e es) ρ S else .ok (.bl c) S
  | _ => .bad
def kC2b (f : D → D → Store → Option (D × Store)) (c : IE) (ρ : Env) (y : D) : D → Store → Res D := fun z S => match z with
  | .bl true => (ev G c ρ S).bind (kOp f y)
  | .bl false => .ok (.bl false) S
  | _ => .bad
def kC2a (f f' : D → D → Store → Option (D × Store)) (c : IE) (ρ : Env) (x : D) : D → Store → Res D := fun y S => (Res.of (f x y S)).bind (kC2b G f' c ρ y)
def kC2 (f f' : D → D → Store → Option (D × Store)) (b c : IE) (ρ : Env) : D → Store → Res D := fun x S => (ev G b ρ S).bind (kC2a G f f' c ρ x)
def kIte (a b : IE) (ρ : Env) : Bool → Store → Res D := fun t S => if t = true then ev G a ρ S else ev G b ρ S
def kMe (m : Str) (x : D) : List D → Store → Res D := fun ds S => Res.of (meF m x ds S)
def kMb (m : Str) (es : IEs) (ρ : Env) : D → Store → Res D := fun x S => if isT m x S = true then (evs G es ρ S).bind (kMe m x) else .bad
def kLrg (fl : Bool) : D → Store → Res D := fun d S => match d with
    | .int n => if 0 ≤ n ∧ n ≤ 16777216 then resL fl ((List.range n.toNat).map fun (i : Nat) => D.int (i : Int)) S else .bad
    | _ => .bad
def kLc (fl : Bool) (own : List (Str × Nat)) (elt : IE) (tg : IT) (ifs : ICs) (ρ : Env) : Src → Store → Res D := fun s S =>
  (lcRun s.same (lcBody (own.map (·.2)) (asgT tg) (evA G ifs) (ev G elt) ρ) s.items [] S).bind (resL fl)
def kDic (fl : Bool) (ks : List Str) : List D → Store → Res D := fun ds S => if ds.length = ks.length ∧ ds.length ≤ 15 ∧ ks.Nodup then resK fl (ks.map Sum.inr) ds S else .bad
def kCons2 (d : D) : List D → Store → Res (List D) := fun ds S => .ok (d :: ds) S
def kCons (es : IEs) (ρ : Env) : D → Store → Res (List D) := fun d S => (evs G es ρ S).bind (kCons2 d)
def kApp (xs : List D) : List D → Store → Res (List D) := fun ds S => .ok (xs ++ ds) S
def kStar (es : IEs) (ρ : Env) : D → Store → Res (List D) := fun d S => match itemsOf d S with
    | some xs => (evs G es ρ S).bind (kApp xs)
    | none => .bad
def kTru : D → Store → Res Bool := fun x S => Res.of (truF x S)
def kNotT : Bool → Store → Res Bool := fun b S => .ok (!b) S
def kBl : D → Store → Res Bool := fun z S => match z with
    | .bl c => .ok c S
    | _ => .bad
def kCTa (f : D → D → Store → Option (D × Store)) (x : D) : D → Store → Res Bool := fun y S => (Res.of (f x y S)).bind kBl
def kCT (f : D → D → Store → Option (D × Store)) (b : IE) (ρ : Env) : D → Store → Res Bool := fun x S => (ev G b ρ S).bind (kCTa f x)
def kC2Tb (f : D → D → Store → Option (D × Store)) (c : IE) (ρ : Env) (y : D) : D → Store → Res Bool := fun z S => match z with
  | .bl true => (ev G c ρ S).bind (kCTa f y)
  | .bl false => .ok false S
  | _ => .bad
def kC2Ta (f f' : D → D → Store → Option (D × Store)) (c : IE) (ρ : Env) (x : D) : D → Store → Res Bool := fun y S => (Res.of (f x y S)).bind (kC2Tb G f' c ρ y)
def kC2T (f f' : D → D → Store → Option (D × Store)) (b c : IE) (ρ : Env) : D → Store → Res Bool := fun x S => (ev G b ρ S).bind (kC2Ta G f f' c ρ x)
def kBT (an : Bool) (e : IC) (es : ICs) (ρ : Env) : Bool → Store → Res Bool := fun c S => if c = an then evBT G an (.cons e es) ρ S else .ok c S
def kSet (i : Nat) (ρ : Env) : D → Store → RS := fun d S => .nx (ρ.set i (some d)) S
def kUnp (ts : ITs) (ρ : Env) : D → Store → RS := fun d S => match asgT (.tup ts) d ρ with
    | some ρ' => .nx ρ' S
    | none => .bad
def kPar2 (i j : Nat) (ρ : Env) (x : D) : D → Store → RS := fun y S => .nx ((ρ.set i (some x)).set j (some y)) S
def kPar (i j : Nat) (b : IE) (ρ : Env) : D → Store → RS := fun x S => (ev G b ρ S).st ρ (kPar2 i j ρ x)
def kPut3 (ρ : Env) (x y : D) : D → Store → RS := fun z S => match putF y z x S with
    | some S4 => .nx ρ S4
    | none => .bad
def kPut2 (k : IE) (ρ : Env) (x : D) : D → Store → RS := fun y S => (ev G k ρ S).st ρ (kPut3 ρ x y)
def kPut (o k : IE) (ρ : Env) : D → Store → RS := fun x S => (ev G o ρ S).st ρ (kPut2 G k ρ x)
def kExpr (ρ : Env) : D → Store → RS := fun _ S => .nx ρ S
def kRet : D → Store → RS := fun d S => .rt d S
def kIfe (a b : ISs) (ρ : Env) : Bool → Store → RS := fun t S => if t = true then exSs G a ρ S else exSs G b ρ S
def kFor (t : IT) (b : ISs) (ρ : Env) : Src → Store → RS := fun s S => forRun s.same (forBody (asgT t) (exSs G b)) s.items ρ S
end
section
variable {G : Gl0} {ρ : Env} {S : Store}
theorem ev_var {i : Nat} : ev G (.var i) ρ S = match ρ[i]? with | some (some d) => .ok d S | _ => .bad := by rw [ev] <;> rfl
theorem ev_con {d : D} : ev G (.con d) ρ S = .ok d S := by rw [ev]
theorem ev_lst {fl : Bool} {es : IEs} : ev G (.lst fl es) ρ S = (evs G es ρ S).bind (kLst fl) := by rw [ev]; rfl
theorem ev_tup {es : IEs} : ev G (.tup es) ρ S = (evs G es ρ S).bind kTup := by rw [ev]; rfl
theorem ev_bin {op : Operator} {a b : IE} : ev G (.bin op a b) ρ S = (ev G a ρ S).bind (kBin G (binF op) b ρ) := by rw [ev]; rfl
theorem ev_neg {a : IE} : ev G (.neg a) ρ S = (ev G a ρ S).bind (kUn negF) := by rw [ev]; rfl
theorem ev_not {a : IE} : ev G (.not a) ρ S = (ev G a ρ S).bind kNot := by rw [ev]; rfl
theorem ev_bop {an : Bool} {es : IEs} : ev G (.bop an es) ρ S = evB G an es ρ S := by rw [ev]
theorem ev_cmp {op : CmpOp} {a b : IE} : ev G (.cmp op a b) ρ S = (ev G a ρ S).bind (kBin G (cmpF op) b ρ) := by rw [ev]; rfl
theorem ev_cmp2 {op op' : CmpOp} {a b c : IE} : ev G (.cmp2 op op' a b c) ρ S = (ev G a ρ S).bind (kC2 G (cmpF op) (cmpF op') b c ρ) := by rw [ev]; rfl
theorem ev_ite {c : IC} {a b : IE} : ev G (.ite c a b) ρ S = (evT G c ρ S).bind (kIte G a b ρ) := by rw [ev]; rfl
theorem ev_idx {a b : IE} : ev G (.idx a b) ρ S = (ev G a ρ S).bind (kBin G idxF b ρ) := by rw [ev]; rfl
theorem ev_fld {a : IE} {f : Str} : ev G (.fld a f) ρ S = (ev G a ρ S).bind (kUn (fldF G f)) := by rw [ev]; rfl
theorem ev_fn {f : Str} {es : IEs} : ev G (.fn f es) ρ S = (evs G es ρ S).bind (G.fn f) := by rw [ev]
theorem ev_mk {f : Str} {es : IEs} : ev G (.mk f es) ρ S = (evs G es ρ S).bind (G.ma f) := by rw [ev]
theorem ev_bi {fl : Bool} {f : Str} {es : IEs} : ev G (.bi fl f es) ρ S = (evs G es ρ S).bind (kBi (biF fl f)) := by rw [ev]; rfl
theorem ev_isi {a : IE} {c : Str} : ev G (.isi a c) ρ S = (ev G a ρ S).bind (kUn (isiF G c)) := by rw [ev]; rfl
theorem ev_mb {a : IE} {m : Str} {es : IEs} : ev G (.mb a m es) ρ S = (ev G a ρ S).bind (kMb G m es ρ) := by rw [ev]; rfl
theorem ev_lrg {fl : Bool} {e : IE} : ev G (.lrg fl e) ρ S = (ev G e ρ S).bind (kLrg fl) := by rw [ev] <;> rfl
theorem ev_lc {fl : Bool} {own : List (Str × Nat)} {elt : IE} {tg : IT} {it : II} {ifs : ICs} : ev G (.lc fl own elt tg it ifs) ρ S = (evI G it ρ S).bind (kLc G fl own elt tg ifs ρ) := by rw [ev]; rfl
theorem ev_dic {fl : Bool} {ks : List Str} {es : IEs} : ev G (.dic fl ks es) ρ S = (evs G es ρ S).bind (kDic fl ks) := by rw [ev]; rfl
theorem evs_nil : evs G .nil ρ S = .ok [] S := by rw [evs]
theorem evs_cons {e : IE} {es : IEs} : evs G (.cons e es) ρ S = (ev G e ρ S).bind (kCons G es ρ) := by rw [evs]; rfl
theorem evs_star {e : IE} {es : IEs} : evs G (.star e es) ρ S = (ev G e ρ S).bind (kStar G es ρ) := by rw [evs] <;> rfl
theorem evT_val {e : IE} : evT G (.val e) ρ S = (ev G e ρ S).bind kTru := by rw [evT]; rfl
theorem evT_not {c : IC} : evT G (.not c) ρ S = (evT G c ρ S).bind kNotT := by rw [evT]; rfl
theorem evT_bop {an : Bool} {cs : ICs} : evT G (.bop an cs) ρ S = evBT G an cs ρ S := by rw [evT]
theorem evT_cmp {op : CmpOp} {a b : IE} : evT G (.cmp op a b) ρ S = (ev G a ρ S).bind (kCT G (cmpF op) b ρ) := by rw [evT]; rfl
theorem evT_cmp2 {op op' : CmpOp} {a b c : IE} : evT G (.cmp2 op op' a b c) ρ S = (ev G a ρ S).bind (kC2T G (cmpF op) (cmpF op') b c ρ) := by rw [evT]; rfl
theorem evB_one {an : Bool} {e : IE} : evB G an (.cons e .nil) ρ S = ev G e ρ S := by rw [evB]
theorem evB_cons {an : Bool} {e e2 : IE} {es : IEs} : evB G an (.cons e (.cons e2 es)) ρ S = (ev G e ρ S).bind (kB G an e2 es ρ) := by rw [evB] <;> rfl
theorem evBT_one {an : Bool} {e : IC} : evBT G an (.cons e .nil) ρ S = evT G e ρ S := by rw [evBT]
theorem evBT_cons {an : Bool} {e e2 : IC} {es : ICs} : evBT G an (.cons e (.cons e2 es)) ρ S = (evT G e ρ S).bind (kBT G an e2 es ρ) := by rw [evBT]; rfl
theorem evA_nil : evA G .nil ρ S = .ok true S := by rw [evA]
theorem evA_one {e : IC} : evA G (.cons e .nil) ρ S = evT G e ρ S := by rw [evA]
theorem evI_val {e : IE} : evI G (.val e) ρ S = (ev G e ρ S).bind srcV := by rw [evI]
theorem evI_rng {e : IE} : evI G (.rng e) ρ S = (ev G e ρ S).bind srcR := by rw [evI]
theorem evI_enu {e : IE} : evI G (.enu e) ρ S = (ev G e ρ S).bind srcE := by rw [evI]
theorem exS_set {i : Nat} {e : IE} : exS G (.set i e) ρ S = (ev G e ρ S).st ρ (kSet i ρ) := by rw [exS]; rfl
theorem exS_unp {ts : ITs} {e : IE} : exS G (.unp ts e) ρ S = (ev G e ρ S).st ρ (kUnp ts ρ) := by rw [exS] <;> rfl
theorem exS_par {i j : Nat} {a b : IE} : exS G (.par i j a b) ρ S = (ev G a ρ S).st ρ (kPar G i j b ρ) := by rw [exS]; rfl
theorem exS_put {o k v : IE} : exS G (.put o k v) ρ S = (ev G v ρ S).st ρ (kPut G o k ρ) := by rw [exS] <;> rfl
theorem exS_expr {e : IE} : exS G (.expr e) ρ S = (ev G e ρ S).st ρ (kExpr ρ) := by rw [exS]; rfl
theorem exS_ret {e : IE} : exS G (.ret e) ρ S = (ev G e ρ S).st ρ kRet := by rw [exS]; rfl
theorem exS_retN : exS G .retN ρ S = .rt .non S := by rw [exS]
theorem exS_ife {c : IC} {a b : ISs} : exS G (.ife c a b) ρ S = (evT G c ρ S).st ρ (kIfe G a b ρ) := by rw [exS]; rfl
theorem exS_for {t : IT} {it : II} {b : ISs} : exS G (.for_ t it b) ρ S = (evI G it ρ S).st ρ (kFor G t b ρ) := by rw [exS]; rfl
theorem exS_pas : exS G .pas ρ S = .nx ρ S := by rw [exS]
theorem exSs_nil : exSs G .nil ρ S = .nx ρ S := by rw [exSs]
theorem exSs_cons {s : IS} {ss : ISs} : exSs G (.cons s ss) ρ S = (exS G s ρ S).seq (exSs G ss) := by rw [exSs]
end
section
variable {G : Gl0} {f f' : D → D → Store → Option (D × Store)} {x y z d : D} {a b c e : IE} {es : IEs} {ρ : Env} {S : Store} {ds xs : List D} {fl an t : Bool} {m : Str} {i j : Nat}
theorem a_op : kOp f x y S = Res.of (f x y S) := nr rfl
theorem a_bin : kBin G f b ρ x S = (ev G b ρ S).bind (kOp f x) := nr rfl
theorem a_un {f : D → Store → Option (D × Store)} : kUn f x S = Res.of (f x S) := nr rfl
theorem a_bi {f : List D → Store → Option (D × Store)} : kBi f ds S = Res.of (f ds S) := nr rfl
theorem a_not2 : kNot2 t S = .ok (.bl (!t)) S := nr rfl
theorem a_not : kNot x S = (Res.of (truF x S)).bind kNot2 := nr rfl
theorem a_lst : kLst fl ds S = if ds.length ≤ sizeLine then resL fl ds S else .bad := nr rfl
theorem a_tup : kTup ds S = if ds.length ≤ sizeLine then .ok (.tup ds) S else .bad := nr rfl
theorem a_b : kB G an e es ρ (.bl t) S = if t = an then evB G an (.cons e es) ρ S else .ok (.bl t) S := nr rfl
theorem a_c2 {f f'} : kC2 G f f' b c ρ x S = (ev G b ρ S).bind (kC2a G f f' c ρ x) := nr rfl
theorem a_c2a {f f'} : kC2a G f f' c ρ x y S = (Res.of (f x y S)).bind (kC2b G f' c ρ y) := nr rfl
theorem a_c2t : kC2b G f c ρ y (.bl true) S = (ev G c ρ S).bind (kOp f y) := nr rfl
theorem a_c2f : kC2b G f c ρ y (.bl false) S = .ok (.bl false) S := nr rfl
theorem a_ite : kIte G a b ρ t S = if t = true then ev G a ρ S else ev G b ρ S := nr rfl
theorem a_me : kMe m x ds S = Res.of (meF m x ds S) := nr rfl
theorem a_mb : kMb G m es ρ x S = if isT m x S = true then (evs G es ρ S).bind (kMe m x) else .bad := nr rfl
theorem a_lrg {n : Int} : kLrg fl (.int n) S = if 0 ≤ n ∧ n ≤ 16777216 then resL fl ((List.range n.toNat).map fun (i : Nat) => D.int (i : Int)) S else .bad := nr rfl
theorem a_lc {own : List (Str × Nat)} {tg : IT} {ifs : ICs} {s : Src} : kLc G fl own e tg ifs ρ s S = (lcRun s.same (lcBody (own.map (·.2)) (asgT tg) (evA G ifs) (ev G e) ρ) s.items [] S).bind (resL fl) := nr rfl
theorem a_dic {ks : List Str} : kDic fl ks ds S = if ds.length = ks.length ∧ ds.length ≤ 15 ∧ ks.Nodup then resK fl (ks.map Sum.inr) ds S else .bad := nr rfl
theorem a_dic0 : kDic fl [] [] S = resK fl [] [] S := by
  unfold kDic
  simp
theorem a_dic1 {x : Str} : kDic fl [x] [d] S = resK fl [.inr x] [d] S := by
  unfold kDic
  simp
theorem a_dic2 {x y : Str} {d2 : D} (h : x ≠ y) : kDic fl [x, y] [d, d2] S = resK fl [.inr x, .inr y] [d, d2] S := by
  unfold kDic
  simp [h]
theorem a_cons2 : kCons2 d ds S = .ok (d :: ds) S := nr rfl
theorem a_cons : kCons G es ρ d S = (evs G es ρ S).bind (kCons2 d) := nr rfl
theorem a_app : kApp xs ds S = .ok (xs ++ ds) S := nr rfl
theorem a_star (h : itemsOf d S = some xs) : kStar G es ρ d S = (evs G es ρ S).bind (kApp xs) := by
  unfold kStar
  rw [h]
theorem a_tru : kTru x S = Res.of (truF x S) := nr rfl
theorem a_notT : kNotT t S = .ok (!t) S := nr rfl
theorem a_bl : kBl (.bl t) S = .ok t S := nr rfl
theorem a_ct : kCT G f b ρ x S = (ev G b ρ S).bind (kCTa f x) := nr rfl
theorem a_cta : kCTa f x y S = (Res.of (f x y S)).bind kBl := nr rfl
theorem a_c2T {f f'} : kC2T G f f' b c ρ x S = (ev G b ρ S).bind (kC2Ta G f f' c ρ x) := nr rfl
theorem a_c2Ta {f f'} : kC2Ta G f f' c ρ x y S = (Res.of (f x y S)).bind (kC2Tb G f' c ρ y) := nr rfl
theorem a_c2Tt : kC2Tb G f c ρ y (.bl true) S = (ev G c ρ S).bind (kCTa f y) := nr rfl
theorem a_c2Tf : kC2Tb G f c ρ y (.bl false) S = .ok false S := nr rfl
theorem a_bt {e : IC} {es : ICs} : kBT G an e es ρ t S = if t = an then evBT G an (.cons e es) ρ S else .ok t S := nr rfl
theorem a_set : kSet i ρ d S = .nx (ρ.set i (some d)) S := nr rfl
theorem a_unp {ts : ITs} {ρ' : Env} (h : asgT (.tup ts) d ρ = some ρ') : kUnp ts ρ d S = .nx ρ' S := by
  unfold kUnp
  rw [h]
theorem a_par2 : kPar2 i j ρ x y S = .nx ((ρ.set i (some x)).set j (some y)) S := nr rfl
theorem a_par : kPar G i j b ρ x S = (ev G b ρ S).st ρ (kPar2 i j ρ x) := nr rfl
theorem a_put3 : kPut3 ρ x y z S = match putF y z x S with | some S4 => .nx ρ S4 | none => .bad := nr rfl
theorem a_put2 : kPut2 G b ρ x y S = (ev G b ρ S).st ρ (kPut3 ρ x y) := nr rfl
theorem a_put : kPut G a b ρ x S = (ev G a ρ S).st ρ (kPut2 G b ρ x) := nr rfl
theorem a_expr : kExpr ρ d S = .nx ρ S := nr rfl
theorem a_ret : kRet d S = .rt d S := nr rfl
theorem a_ife {a b : ISs} : kIfe G a b ρ t S = if t = true then exSs G a ρ S else exSs G b ρ S := nr rfl
theorem a_for {t : IT} {b : ISs} {s : Src} : kFor G t b ρ s S = forRun s.same (forBody (asgT t) (exSs G b)) s.items ρ S := nr rfl
end
end
section
variable {α β : Type} {a : α} {S : Store} {ρ ρ' : Env} {d : D}
theorem bind_ok {k : α → Store → Res β} : (Res.ok a S).bind k = k a S := nr rfl
theorem st_ok {k : α → Store → RS} : (Res.ok a S).st ρ k = k a S := nr rfl
theorem seq_nx {k : Env → Store → RS} : (RS.nx ρ S).seq k = k ρ S := nr rfl
theorem seq_rt {k : Env → Store → RS} : (RS.rt d S).seq k = .rt d S := nr rfl
theorem res_nx : (RS.nx ρ S).res = .ok .non S := nr rfl
theorem res_rt : (RS.rt d S).res = .ok d S := nr rfl
theorem of_some : Res.of (some (a, S)) = .ok a S := nr rfl
end
def Sat {α : Type} (r : Res α) (Q : α → Store → Prop) : Prop := match r with
  | .ok a S => Q a S
  | _ => False
structure SE where
  nx : Env → Store → Prop
  rt : D → Store → Prop
  ct : Env → Store → Prop := fun _ _ => False
  bk : Env → Store → Prop := fun _ _ => False
def SatS (r : RS) (E : SE) : Prop := match r with
  | .nx ρ S => E.nx ρ S
  | .rt d S => E.rt d S
  | .ct ρ S => E.ct ρ S
  | .bk ρ S => E.bk ρ S
  | _ => False
section
variable {α β : Type} {Q : β → Store → Prop} {E : SE}
theorem Sat.ok {a : α} {S : Store} {Q : α → Store → Prop} (h : Q a S) : Sat (.ok a S) Q := h
theorem Sat.bind {r : Res α} {k : α → Store → Res β} (h : Sat r fun a S => Sat (k a S) Q) : Sat (r.bind k) Q := by
  cases r with
  | ok a S => exact h
  | _ => exact h
theorem Sat.noX {r : Res α} {P : α → Store → Prop} (h : Sat r P) : Sat r.noX P := by
  cases r with
  | ok a S => exact h
  | _ => exact h
theorem Sat.mono {r : Res α} {P P' : α → Store → Prop} (h : Sat r P) (hp : ∀ a S, P a S → P' a S) : Sat r P' := by
  cases r with
  | ok a S => exact hp _ _ h
  | _ => exact h
theorem Sat.ex {r : Res α} {P : α → Store → Prop} (h : Sat r P) : ∃ a S, r = .ok a S ∧ P a S := by
  cases r with
  | ok a S => exact ⟨a, S, rfl, h⟩
  | _ => exact False.elim h
theorem Sat.of_eq {r : Res α} {a : α} {S : Store} {P : α → Store → Prop} (h : r = .ok a S) (hp : P a S) : Sat r P := by
  rw [h]
  exact hp
theorem SatS.st {r : Res α} {ρ : Env} {k : α → Store → RS} (h : Sat r fun a S => SatS (k a S) E) : SatS (r.st ρ k) E := by
  cases r with
  | ok a S => exact h
  | _ => exact False.elim h
theorem SatS.seq {r : RS} {k : Env → Store → RS} (h : SatS r { E with nx := fun ρ S => SatS (k ρ S) E }) : SatS (r.seq k) E := by
  cases r with
  | nx ρ S => exact h
  | rt d S => exact h
  | ct ρ S => exact h
  | bk ρ S => exact h
  | _ => exact False.elim h
theorem SatS.res {r : RS} {Q : D → Store → Prop} (h : SatS r { nx := fun _ S => Q .non S, rt := Q }) : Sat r.res Q := by
  cases r with
  | nx ρ S => exact h
  | rt d S => exact h
  | _ => exact False.elim h
theorem SatS.mono {r : RS} {E E' : SE} (h : SatS r E) (h1 : ∀ ρ S, E.nx ρ S → E'.nx ρ S) (h2 : ∀ d S, E.rt d S → E'.rt d S) (h3 : ∀ ρ S, E.ct ρ S → E'.ct ρ S) (h4 : ∀ ρ S, E.bk ρ S → E'.bk ρ S) : SatS r E' := by
  cases r with
  | nx ρ S => exact h1 _ _ h
  | rt d S => exact h2 _ _ h
  | ct ρ S => exact h3 _ _ h
  | bk ρ S => exact h4 _ _ h
  | _ => exact False.elim h
/-- a call's end -/
theorem Sat.fin {S : Store} {r : Res D} {Q : D → Store → Prop} (h : Sat r fun d S' => Cuts S S' ∧ ∃ d', frz S' S.length 8 d = some d' ∧ Q d' (S'.take S.length)) : Sat (Tu.fin S r) Q := by
  cases r with
  | ok d S' =>
    obtain ⟨h1, d', h2, h3⟩ := h
    unfold Tu.fin
    dsimp only
    rw [if_pos h1, h2]
    exact h3
  | _ => exact False.elim h
theorem frz_low {S : Store} {n : Nat} {d : D} (h : low n d = true) : frz S n 8 d = some d := by
  rw [frz, if_pos h]
end
section
/-- a comprehension whose turns change nothing -/
theorem lcRun_pure {same : Store → Prop} {body : D → Store → Res (Option D)} {f : D → Option D} {S : Store} (hs : same S) : ∀ (xs acc : List D), (∀ d ∈ xs, body d S = .ok (f d) S) → acc.length + xs.length ≤ sizeLine → lcRun same body xs acc S = .ok (acc ++ xs.filterMap f) S
  | [], acc, _, _ => by
    unfold lcRun
    rw [if_pos hs]
    simp
  | d :: r, acc, h, hl => by
    unfold lcRun
    rw [if_pos hs, h d (List.mem_cons_self)]
    have hl : acc.length + (r.length + 1) ≤ sizeLine := by simpa using hl
    cases e : f d with
    | none =>
      simp only [Res.bind]
      rw [lcRun_pure hs r acc (fun x hx => h x (List.mem_cons_of_mem _ hx)) (by omega)]
      simp [e]
    | some y =>
      simp only [Res.bind]
      rw [if_pos (by omega), lcRun_pure hs r (acc ++ [y]) (fun x hx => h x (List.mem_cons_of_mem _ hx)) (by simp; omega)]
      simp [e]
/-- .. by an invariant over the turn, what is made so far, the store -/
theorem Sat.lc {same : Store → Prop} {body : D → Store → Res (Option D)} {Q : List D → Store → Prop} (P : Nat → List D → Store → Prop) : ∀ (xs : List D) (i : Nat) (acc : List D) (S : Store), P i acc S →
    (∀ j d acc S, xs[j]? = some d → P (i + j) acc S → same S ∧ Sat (body d S) fun o S' => match o with
      | some y => acc.length < sizeLine ∧ P (i + j + 1) (acc ++ [y]) S'
      | none => P (i + j + 1) acc S') → (∀ acc S, P (i + xs.length) acc S → same S ∧ Q acc S) → Sat (lcRun same body xs acc S) Q
  | [], i, acc, S, h0, _, he => by
    unfold lcRun
    obtain ⟨h1, h2⟩ := he acc S h0
    rw [if_pos h1]
    exact h2
  | d :: r, i, acc, S, h0, hs, he => by
    unfold lcRun
    obtain ⟨h1, h2⟩ := hs 0 d acc S rfl h0
    rw [if_pos h1]
    refine Sat.bind (h2.mono fun o S' h => ?_)
    have nxt : ∀ acc' S', P (i + 1) acc' S' → Sat (lcRun same body r acc' S') Q := fun acc' S' h' =>
      Sat.lc P r (i + 1) acc' S' h' (fun j x acc S hx hp => by
        have := hs (j + 1) x acc S (by simpa using hx) (by rw [show i + (j + 1) = i + 1 + j by omega]; exact hp)
        rw [show i + (j + 1) = i + 1 + j by omega] at this
        exact this) (fun acc S hp => he acc S (by rw [show i + (d :: r).length = i + 1 + r.length by simp; omega]; exact hp))
    cases o with
    | none => exact nxt acc S' h
    | some y =>
      dsimp only at h ⊢
      rw [if_pos h.1]
      exact nxt _ S' h.2
theorem SatS.for {same : Store → Prop} {body : D → Env → Store → RS} {E : SE} (P : Nat → Env → Store → Prop) : ∀ (xs : List D) (i : Nat) (ρ : Env) (S : Store), P i ρ S →
    (∀ j d ρ S, xs[j]? = some d → P (i + j) ρ S → same S ∧ SatS (body d ρ S) { E with nx := P (i + j + 1), ct := P (i + j + 1), bk := E.nx }) → (∀ ρ S, P (i + xs.length) ρ S → same S ∧ E.nx ρ S) → SatS (forRun same body xs ρ S) E
  | [], i, ρ, S, h0, _, he => by
    unfold forRun
    obtain ⟨h1, h2⟩ := he ρ S h0
    rw [if_pos h1]
    exact h2
  | d :: r, i, ρ, S, h0, hs, he => by
    unfold forRun
    obtain ⟨h1, h2⟩ := hs 0 d ρ S rfl h0
    rw [if_pos h1]
    have nxt : ∀ ρ' S', P (i + 1) ρ' S' → SatS (forRun same body r ρ' S') E := fun ρ' S' h' =>
      SatS.for P r (i + 1) ρ' S' h' (fun j x ρ S hx hp => by
        have := hs (j + 1) x ρ S (by simpa using hx) (by rw [show i + (j + 1) = i + 1 + j by omega]; exact hp)
        rw [show i + (j + 1) = i + 1 + j by omega] at this
        exact this) (fun ρ S hp => he ρ S (by rw [show i + (d :: r).length = i + 1 + r.length by simp; omega]; exact hp))
    generalize body d ρ S = q at h2
    cases q with
    | nx ρ' S' => exact nxt ρ' S' h2
    | ct ρ' S' => exact nxt ρ' S' h2
    | bk ρ' S' => exact h2
    | rt d S' => exact h2
    | ex c d ρ' S' => exact False.elim h2
    | bad => exact False.elim h2
end
/-! ### ints -/
theorem log_of {i : Int} {b : Nat} (h : i.natAbs < 2 ^ b) (hb : 0 < b) : i.natAbs.log2 < b := by
  by_cases h0 : i.natAbs = 0
  · rw [h0]
    simpa using hb
  · exact (Nat.log2_lt h0).mpr h
theorem cmul {i j : Int} {a b : Nat} (h1 : i.natAbs < 2 ^ a) (h2 : j.natAbs < 2 ^ b) (ha : 0 < a) (hb : 0 < b) (h : a + b ≤ 1000000) : CMulW i j := by
  have := log_of h1 ha
  have := log_of h2 hb
  show i.natAbs.log2 + j.natAbs.log2 < 1000000
  omega
theorem atI_nat {α : Type} (xs : List α) (p : Nat) : atI xs (p : Int) = xs[p]? := by
  unfold atI ixN
  by_cases h : p < xs.length
  · simp [h]
  · simp [h, List.getElem?_eq_none (Nat.le_of_not_lt h)]
section
variable {i j : Int} {S : Store}
theorem add_i : addF (.int i) (.int j) S = some (.int (i + j), S) := nr rfl
theorem sub_i : subF (.int i) (.int j) S = some (.int (i - j), S) := nr rfl
theorem mul_i (h : CMulW i j) : mulF (.int i) (.int j) S = some (.int (i * j), S) := if_pos h
theorem div_i (h : 0 < j) (h2 : j.natAbs.log2 < 9000) : fdivF (.int i) (.int j) S = some (.int (i / j), S) := if_pos ⟨h, h2⟩
theorem mod_i (h : 0 < j) : modF (.int i) (.int j) S = some (.int (i % j), S) := if_pos h
theorem pow_i {n : Nat} (h : ((i.natAbs.log2 + 1 : Nat) : Int) * n ≤ 2 ^ 27) : powF (.int i) (.int n) S = some (.int (i ^ n), S) := by
  exact (if_pos (c := 0 ≤ (n : Int) ∧ ((i.natAbs.log2 + 1 : Nat) : Int) * n ≤ 2 ^ 27) ⟨Int.natCast_nonneg n, h⟩).trans rfl
theorem lt_i : cmpF .Lt (.int i) (.int j) S = some (.bl (decide (i < j)), S) := nr rfl
theorem le_i : cmpF .LtE (.int i) (.int j) S = some (.bl (decide (i ≤ j)), S) := nr rfl
theorem gt_i : cmpF .Gt (.int i) (.int j) S = some (.bl (decide (j < i)), S) := nr rfl
theorem ge_i : cmpF .GtE (.int i) (.int j) S = some (.bl (decide (j ≤ i)), S) := nr rfl
theorem eq_i : cmpF .Eq (.int i) (.int j) S = some (.bl (i == j), S) := by
  simp only [cmpF, eqB, Option.map_some]
theorem ne_i : cmpF .NotEq (.int i) (.int j) S = some (.bl (!(i == j)), S) := by
  simp only [cmpF, eqB, Option.map_some]
theorem eq_s {x y : Str} : cmpF .Eq (.str x) (.str y) S = some (.bl (x == y), S) := by
  simp only [cmpF, eqB, Option.map_some]
theorem ne_s {x y : Str} : cmpF .NotEq (.str x) (.str y) S = some (.bl (!(x == y)), S) := by
  simp only [cmpF, eqB, Option.map_some]
end
theorem le_size {n : Nat} (h : n ≤ 10000) : (n ≤ sizeLine) = True := eq_true (by rw [sizeLine_eq]; omega)
theorem lt_size {n : Nat} (h : n < 10000) : (n < sizeLine) = True := eq_true (by rw [sizeLine_eq]; omega)
theorem add_lst {xs ys : List D} {S : Store} (h : xs.length + ys.length ≤ 10000) : addF (.lst xs) (.lst ys) S = some (.lst (xs ++ ys), S) := by
  unfold addF D.at
  dsimp only
  rw [if_pos (by rw [sizeLine_eq]; omega)]
theorem add_tup {xs ys : List D} {S : Store} (h : xs.length + ys.length ≤ 10000) : addF (.tup xs) (.tup ys) S = some (.tup (xs ++ ys), S) := by
  unfold addF
  dsimp only
  rw [if_pos (by rw [sizeLine_eq]; omega)]
theorem bin_add : binF .Add = addF := nr rfl
theorem bin_sub : binF .Sub = subF := nr rfl
theorem bin_mul : binF .Mult = mulF := nr rfl
theorem bin_div : binF .FloorDiv = fdivF := nr rfl
theorem bin_mod : binF .Mod = modF := nr rfl
theorem bin_pow : binF .Pow = powF := nr rfl
theorem biF_len (fl : Bool) : biF fl "len" = biLen := nr rfl
theorem biF_abs (fl : Bool) : biF fl "abs" = biAbs := nr rfl
theorem biF_int (fl : Bool) : biF fl "int" = biInt := nr rfl
theorem biF_max (fl : Bool) : biF fl "max" = biMax := nr rfl
theorem biF_min (fl : Bool) : biF fl "min" = biMin := nr rfl
theorem biF_repr (fl : Bool) : biF fl "repr" = biRepr := nr rfl
theorem biF_all (fl : Bool) : biF fl "all" = biAll := nr rfl
theorem biF_any (fl : Bool) : biF fl "any" = biAny := nr rfl
theorem biF_list (fl : Bool) : biF fl "list" = biList fl := nr rfl
theorem len_lst {xs : List D} {S : Store} : biLen [.lst xs] S = some (.int xs.length, S) := nr rfl
theorem len_tup {xs : List D} {S : Store} : biLen [.tup xs] S = some (.int xs.length, S) := nr rfl
theorem idx_lst {xs : List D} {i : Int} {S : Store} : idxF (.lst xs) (.int i) S = (atI xs i).map fun d => (d, S) := nr rfl
theorem idx_tup {xs : List D} {i : Int} {S : Store} : idxF (.tup xs) (.int i) S = (atI xs i).map fun d => (d, S) := nr rfl
theorem int_i {i : Int} {S : Store} : biInt [.int i] S = some (.int i, S) := nr rfl
theorem int_b {b : Bool} {S : Store} : biInt [.bl b] S = some (.int (if b then 1 else 0), S) := nr rfl
theorem abs_i {i : Int} {S : Store} : biAbs [.int i] S = some (.int (if i < 0 then -i else i), S) := nr rfl
theorem resL_f {xs : List D} {S : Store} : resL false xs S = .ok (.lst xs) S := nr rfl
theorem resL_t {xs : List D} {S : Store} : resL true xs S = .ok (.obj S.length) (S ++ [.lst xs]) := nr rfl
theorem resK_f {ks : List Key} {xs : List D} {S : Store} : resK false ks xs S = .ok (.dk ks xs) S := nr rfl
theorem resK_t {ks : List Key} {xs : List D} {S : Store} : resK true ks xs S = .ok (.obj S.length) (S ++ [.dk ks xs]) := nr rfl
theorem runD_fin {G : Gl0} {d : DefI} {ds : List D} {S : Store} (h : ds.length = d.ps.length) (hk : d.kp = false) : runD G d ds S = fin S (exSs G d.b (startE d.N ds) S).res := by
  unfold runD ended
  rw [if_pos h, hk]
  rfl
theorem runD_kp {G : Gl0} {d : DefI} {ds : List D} {S : Store} (h : ds.length = d.ps.length) (hk : d.kp = true) : runD G d ds S = (exSs G d.b (startE d.N ds) S).res := by
  unfold runD ended
  rw [if_pos h, hk]
  rfl
/-! ### plain data -/
mutual
theorem low_mono {n m : Nat} (h : n ≤ m) : ∀ (d : D), low n d = true → low m d = true
  | .non, _ => rfl
  | .bl _, _ => rfl
  | .int _, _ => rfl
  | .str _, _ => rfl
  | .tup xs, l => lows_mono h xs l
  | .lst xs, l => lows_mono h xs l
  | .dk _ xs, l => lows_mono h xs l
  | .dt _ xs, l => lows_mono h xs l
  | .ins _ _ xs, l => lows_mono h xs l
  | .exc _ d, l => low_mono h d l
  | .obj k, l => decide_eq_true (Nat.lt_of_lt_of_le (of_decide_eq_true l) h)
  | .ty _, _ => rfl
  | .nam _, _ => rfl
theorem lows_mono {n m : Nat} (h : n ≤ m) : ∀ (ds : List D), lows n ds = true → lows m ds = true
  | [], _ => rfl
  | d :: ds, l => by
    rw [lows, Bool.and_eq_true] at l ⊢
    exact ⟨low_mono h d l.1, lows_mono h ds l.2⟩
end
mutual
theorem pyW_low {rd rd' : Nat → Option PyData} : ∀ (d : D), low 0 d = true → pyW rd d = pyW rd' d
  | .non, _ => rfl
  | .bl _, _ => rfl
  | .int _, _ => rfl
  | .str _, _ => rfl
  | .tup xs, l => by rw [pyW, pyW, pysW_low xs l]
  | .lst xs, l => by rw [pyW, pyW, pysW_low xs l]
  | .dk _ xs, l => by rw [pyW, pyW, pysW_low xs l]
  | .dt _ xs, l => rfl
  | .ins _ _ xs, l => rfl
  | .exc _ d, l => rfl
  | .obj k, l => absurd (of_decide_eq_true l) (Nat.not_lt_zero k)
  | .ty _, _ => rfl
  | .nam _, _ => rfl
theorem pysW_low {rd rd' : Nat → Option PyData} : ∀ (ds : List D), lows 0 ds = true → pysW rd ds = pysW rd' ds
  | [], _ => rfl
  | d :: ds, l => by
    rw [lows, Bool.and_eq_true] at l
    rw [pysW, pysW, pyW_low d l.1, pysW_low ds l.2]
end
theorem toPy_low {d : D} {S : Store} (h : low 0 d = true) : toPy S d = pyW (fun _ => none) d := pyW_low d h
theorem lows_all {n : Nat} {ds : List D} : lows n ds = true ↔ ∀ d ∈ ds, low n d = true := by
  induction ds with
  | nil => simp [lows]
  | cons d ds ih => rw [lows, Bool.and_eq_true, ih]; simp
/-- a value that repr shows -/
def shows (v : D) : Bool := low 0 v && match pyW (fun _ => none) v with
  | some p => p.showable && decide (p.shown.length ≤ 1000) && decide (p.depth ≤ 60)
  | none => false
theorem shows_repr {v : D} (h : shows v = true) : low 0 v = true ∧ ∃ x : Str, ∀ S, biRepr [v] S = some (.str x, S) := by
  unfold shows at h
  rw [Bool.and_eq_true] at h
  obtain ⟨h1, h2⟩ := h
  refine ⟨h1, ?_⟩
  split at h2
  · rename_i p hp
    simp only [Bool.and_eq_true, decide_eq_true_eq] at h2
    obtain ⟨⟨a1, a2⟩, a3⟩ := h2
    refine ⟨p.shown, fun S => ?_⟩
    unfold biRepr
    dsimp only
    rw [toPy_low h1, hp]
    dsimp only
    rw [if_pos ⟨a1, by rw [sizeLine_eq]; omega, a3⟩]
  · cases h2
theorem fin_same {S : Store} {d : D} (h : low S.length d = true) : fin S (.ok d S) = .ok d S := by
  unfold fin
  dsimp only
  rw [if_pos ⟨Nat.le_refl _, fun i c _ hc => .inl hc⟩, frz_low h]
  simp
theorem fin_app {S S2 : Store} {d : D} (h : low S.length d = true) : fin S (.ok d (S ++ S2)) = .ok d S := by
  unfold fin
  dsimp only
  rw [if_pos ⟨by simp, fun i c hi hc => .inl (by rw [List.getElem?_append_left hi] at hc; exact hc)⟩, frz_low h]
  simp
theorem get_app {S : Store} {c : Cell} : (S ++ [c])[S.length]? = some c := by simp
theorem set_app {S : Store} {c c' : Cell} : (S ++ [c]).set S.length c' = S ++ [c'] := by simp
theorem frz_all {S : Store} {n f : Nat} {d : D} (h : low n d = true) : frz S n f d = some d := by
  cases f <;> rw [frz, if_pos h]
theorem mapO_low {S : Store} {n f : Nat} : ∀ {xs : List D}, lows n xs = true → mapO (frz S n f) xs = some xs
  | [], _ => rfl
  | x :: xs, h => by
    rw [lows, Bool.and_eq_true] at h
    rw [mapO, frz_all h.1, mapO_low h.2]
/-- a made list that is handed back -/
theorem fin_lst {S : Store} {xs : List D} (h : lows S.length xs = true) : fin S (.ok (.obj S.length) (S ++ [.lst xs])) = .ok (.lst xs) S := by
  unfold fin
  dsimp only
  rw [if_pos ⟨by simp, fun i c hi hc => .inl (by rw [List.getElem?_append_left hi] at hc; exact hc)⟩, frz, if_neg (by simp [low])]
  simp only [frzD, get_app, mapO_low h, Option.map_some]
  simp
theorem lst_cell {S : Store} {n : Nat} {xs : List D} (h : S[n]? = some (.lst xs)) : lstOf (.obj n) S = some xs := by
  simp only [lstOf, D.at, h]
theorem lst_lst {S : Store} {xs : List D} : lstOf (.lst xs) S = some xs := nr rfl
theorem items_cell {S : Store} {n : Nat} {xs : List D} (h : S[n]? = some (.lst xs)) : itemsOf (.obj n) S = some xs := by
  simp only [itemsOf, D.at, h]
theorem items_lst {S : Store} {xs : List D} : itemsOf (.lst xs) S = some xs := nr rfl
theorem items_tup {S : Store} {xs : List D} : itemsOf (.tup xs) S = some xs := nr rfl
theorem isT_obj {S : Store} {n : Nat} {xs : List D} {m : Str} (hm : m = "append" ∨ m = "extend") (h : S[n]? = some (.lst xs)) : isT m (.obj n) S = true := by
  unfold isT
  rw [if_pos hm, lst_cell h]
  rfl
theorem ext_cell {S : Store} {n : Nat} {xs ys : List D} (h : S[n]? = some (.lst xs)) (hl : xs.length + ys.length ≤ 10000) : meF "extend" (.obj n) [.lst ys] S = some (.non, S.set n (.lst (xs ++ ys))) := by
  have e : meF "extend" = meExtend := rfl
  rw [e]
  simp only [meExtend, h, lst_lst]
  rw [if_pos (by rw [sizeLine_eq]; omega)]
theorem app_cell {S : Store} {n : Nat} {xs : List D} {y : D} (h : S[n]? = some (.lst xs)) (hl : xs.length < 10000) : meF "append" (.obj n) [y] S = some (.non, S.set n (.lst (xs ++ [y]))) := by
  have e : meF "append" = meAppend := rfl
  rw [e]
  simp only [meAppend, h]
  rw [if_pos (by rw [sizeLine_eq]; omega)]
theorem add_cell {S : Store} {n : Nat} {xs ys : List D} (h : S[n]? = some (.lst xs)) (hl : xs.length + ys.length ≤ 10000) : addF (.obj n) (.lst ys) S = some (.lst (xs ++ ys), S) := by
  simp only [addF, D.at, h]
  rw [if_pos (by rw [sizeLine_eq]; omega)]
theorem isTe_app {S : Store} {xs : List D} : isT "extend" (.obj S.length) (S ++ [.lst xs]) = true := isT_obj (.inr rfl) get_app
theorem isTa_app {S : Store} {xs : List D} : isT "append" (.obj S.length) (S ++ [.lst xs]) = true := isT_obj (.inl rfl) get_app
theorem ext_app {S : Store} {xs ys : List D} (h : xs.length + ys.length ≤ 10000) : meF "extend" (.obj S.length) [.lst ys] (S ++ [.lst xs]) = some (.non, S ++ [.lst (xs ++ ys)]) := by
  rw [ext_cell get_app h, set_app]
theorem app_app {S : Store} {xs : List D} {y : D} (h : xs.length < 10000) : meF "append" (.obj S.length) [y] (S ++ [.lst xs]) = some (.non, S ++ [.lst (xs ++ [y])]) := by
  rw [app_cell get_app h, set_app]
theorem add_app {S : Store} {xs ys : List D} (h : xs.length + ys.length ≤ 10000) : addF (.obj S.length) (.lst ys) (S ++ [.lst xs]) = some (.lst (xs ++ ys), S ++ [.lst xs]) := add_cell get_app h
theorem lows_map {α : Type} {n : Nat} {f : α → D} {xs : List α} (h : ∀ x ∈ xs, low n (f x) = true) : lows n (xs.map f) = true := by
  rw [lows_all]
  intro d hd
  obtain ⟨x, hx, rfl⟩ := List.mem_map.mp hd
  exact h x hx
theorem sats_nx {ρ : Env} {S : Store} {E : SE} : SatS (.nx ρ S) E = E.nx ρ S := nr rfl
theorem sats_rt {d : D} {S : Store} {E : SE} : SatS (.rt d S) E = E.rt d S := nr rfl
theorem sats_ct {ρ : Env} {S : Store} {E : SE} : SatS (.ct ρ S) E = E.ct ρ S := nr rfl
theorem sats_bk {ρ : Env} {S : Store} {E : SE} : SatS (.bk ρ S) E = E.bk ρ S := nr rfl
theorem sat_ok {α : Type} {a : α} {S : Store} {Q : α → Store → Prop} : Sat (.ok a S) Q = Q a S := nr rfl
theorem srcV_lst {xs : List D} {S : Store} : srcV (.lst xs) S = .ok ⟨xs, fun _ => True⟩ S := nr rfl
theorem srcV_tup {xs : List D} {S : Store} : srcV (.tup xs) S = .ok ⟨xs, fun _ => True⟩ S := nr rfl
theorem srcR_n {n : Nat} {S : Store} (h : n ≤ 1000000) : srcR (.int n) S = .ok ⟨(List.range n).map fun (i : Nat) => D.int (i : Int), fun _ => True⟩ S := by
  unfold srcR
  dsimp only
  rw [if_pos (by omega), Int.toNat_natCast]
theorem srcE_lst {xs : List D} {S : Store} : srcE (.lst xs) S = .ok ⟨enumFrom 0 xs, fun _ => True⟩ S := nr rfl
section
variable {mb : Env → Store → RS} {ρ : Env} {S : Store} {x y z : D} {i j l : Nat}
theorem forBody_1 : forBody (asgT (.name i)) mb x ρ S = mb (ρ.set i (some x)) S := nr rfl
theorem forBody_2 : forBody (asgT (.tup (.cons (.name i) (.cons (.name j) .nil)))) mb (.tup [x, y]) ρ S = mb ((ρ.set i (some x)).set j (some y)) S := nr rfl
theorem forBody_3 : forBody (asgT (.tup (.cons (.name i) (.cons (.name j) (.cons (.name l) .nil))))) mb (.tup [x, y, z]) ρ S = mb (((ρ.set i (some x)).set j (some y)).set l (some z)) S := nr rfl
end
/-- a turn's value where the target is one name -/
theorem lcBody_pure {is : List Nat} {i : Nat} {mt : Env → Store → Res Bool} {me : Env → Store → Res D} {ρ : Env} {d y : D} {S : Store} (ht : mt ((wipeE ρ is).set i (some d)) S = .ok true S) (he : me ((wipeE ρ is).set i (some d)) S = .ok y S) :
    lcBody is (asgT (.name i)) mt me ρ d S = .ok (some y) S := by
  unfold lcBody asgT
  dsimp only
  rw [ht, bind_ok, if_pos rfl, he]
  rfl
/-- [e for x in xs], all of it told -/
theorem lc_map {α : Type} {same : Store → Prop} {body : D → Store → Res (Option D)} {g f : α → D} {S : Store} (xs : List α) (hs : same S) (hb : ∀ x ∈ xs, body (g x) S = .ok (some (f x)) S) (hl : xs.length ≤ 100000) : lcRun same body (xs.map g) [] S = .ok (xs.map f) S := by
  have h : ∀ (xs : List α) (acc : List D), (∀ x ∈ xs, body (g x) S = .ok (some (f x)) S) → acc.length + xs.length ≤ 100000 → lcRun same body (xs.map g) acc S = .ok (acc ++ xs.map f) S := by
    intro xs
    induction xs with
    | nil =>
      intro acc _ _
      rw [List.map_nil]
      unfold lcRun
      rw [if_pos hs]
      simp
    | cons x xs ih =>
      intro acc hb hl
      have hl : acc.length + (xs.length + 1) ≤ 100000 := by simpa using hl
      rw [List.map_cons]
      unfold lcRun
      rw [if_pos hs, hb x (List.mem_cons_self)]
      simp only [Res.bind]
      rw [if_pos (by rw [sizeLine_eq]; omega), ih _ (fun y hy => hb y (List.mem_cons_of_mem _ hy)) (by simp; omega)]
      simp
  simpa using h xs [] hb (by simpa using hl)
theorem pysW_bools (rd : Nat → Option PyData) (bs : List Bool) : pysW rd (bs.map D.bl) = some (bs.map PyData.bool) := by
  induction bs with
  | nil => rfl
  | cons b bs ih =>
    rw [List.map_cons, pysW, ih, pyW]
    rfl
theorem lay_bools (bs : List Bool) : PyData.canLayAll0 (bs.map PyData.bool) = true := by
  induction bs with
  | nil => rfl
  | cons b bs ih => rw [List.map_cons, PyData.canLayAll0, ih, PyData.canLay0]; rfl
theorem depth_bools (bs : List Bool) : PyData.depthAll (bs.map PyData.bool) ≤ 1 := by
  induction bs with
  | nil => simp [PyData.depthAll]
  | cons b bs ih => simp [PyData.depthAll, PyData.depth]; simpa using ih
theorem eqv_bools : ∀ (bs cs : List Bool), PyData.eqvAll (bs.map PyData.bool) (cs.map PyData.bool) = (bs == cs)
  | [], [] => rfl
  | [], _ :: _ => rfl
  | _ :: _, [] => rfl
  | b :: bs, c :: cs => by
    rw [List.map_cons, List.map_cons, PyData.eqvAll, eqv_bools bs cs, PyData.eqv]
    rfl
theorem ne_bools {bs cs : List Bool} {S : Store} : cmpF .NotEq (.lst (bs.map D.bl)) (.lst (cs.map D.bl)) S = some (.bl (!(bs == cs)), S) := by
  have sh : ∀ bs : List Bool, SeqAt.shaped (.list (bs.map PyData.bool)) = true := fun bs => by
    unfold SeqAt.shaped
    rw [PyData.canLay0, lay_bools, PyData.depth]
    have := depth_bools bs
    simp
    omega
  have : eqB (.lst (bs.map D.bl)) (.lst (cs.map D.bl)) S = some (bs == cs) := by
    unfold eqB eqP toPy
    dsimp only
    rw [pyW, pyW, pysW_bools, pysW_bools]
    dsimp only [Option.map]
    rw [if_pos ⟨sh bs, sh cs⟩, PyData.eqv, eqv_bools]
  simp only [cmpF]
  rw [this]
  rfl
theorem any_bools (bs : List Bool) : bools (bs.map D.bl) = some bs := by
  induction bs with
  | nil => rfl
  | cons b bs ih => rw [List.map_cons, bools, ih]; rfl
theorem biAny_bools {bs : List Bool} {S : Store} : biAny [.lst (bs.map D.bl)] S = some (.bl (bs.any id), S) := by
  unfold biAny
  simp only [lst_lst, Option.bind, any_bools, Option.map]
theorem biAll_bools {bs : List Bool} {S : Store} : biAll [.lst (bs.map D.bl)] S = some (.bl (bs.all id), S) := by
  unfold biAll
  simp only [lst_lst, Option.bind, any_bools, Option.map]
theorem tru_bl {b : Bool} {S : Store} : truF (.bl b) S = some (b, S) := nr rfl
/-- a turn of a comprehension whose target is one name and that has no test -/
theorem Sat.lcBody {is : List Nat} {i : Nat} {me : Env → Store → Res D} {ρ : Env} {d : D} {S : Store} {G : Gl0} {Q : Option D → Store → Prop} (h : Sat (me ((wipeE ρ is).set i (some d)) S) fun y S' => Q (some y) S') :
    Sat (Tu.lcBody is (asgT (.name i)) (evA G .nil) me ρ d S) Q := by
  unfold Tu.lcBody asgT
  dsimp only
  rw [evA_nil, bind_ok, if_pos rfl]
  exact Sat.noX (Sat.bind h)
/-! ### pots -/
structure Potv (o s t : Int) (n : Nat) : Prop where
  o0 : 0 ≤ o
  s0 : 0 ≤ s
  s1 : s < 2305843009213693951
  t0 : 0 ≤ t
  t1 : t ≤ n
def Pot (S : Store) (a n : Nat) : Prop := ∃ o s t, S[a]? = some (.lst [.int o, .int s, .int t]) ∧ Potv o s t n
theorem Potv.pot {S : Store} {o s t : Int} {n : Nat} (v : Potv o s t n) : Pot (S ++ [Cell.lst [.int o, .int s, .int t]]) S.length n := ⟨o, s, t, get_app, v⟩
/-- all but the cell a is as it was -/
structure Like (a : Nat) (S S' : Store) : Prop where
  len : S'.length = S.length
  same : ∀ i, i ≠ a → S'[i]? = S[i]?
/-- .. and there may be more -/
structure Gro (a : Nat) (S S' : Store) : Prop where
  len : S.length ≤ S'.length
  same : ∀ i, i < S.length → i ≠ a → S'[i]? = S[i]?
section
variable {a n m : Nat} {S S' S'' : Store}
theorem Like.refl : Like a S S := ⟨rfl, fun _ _ => rfl⟩
theorem Like.trans (h : Like a S S') (g : Like a S' S'') : Like a S S'' := ⟨g.len.trans h.len, fun i hi => (g.same i hi).trans (h.same i hi)⟩
theorem Like.gro (h : Like a S S') : Gro a S S' := ⟨Nat.le_of_eq h.len.symm, fun i _ hi => h.same i hi⟩
theorem Gro.refl : Gro a S S := Like.refl.gro
theorem Gro.trans (h : Gro a S S') (g : Gro a S' S'') : Gro a S S'' := ⟨Nat.le_trans h.len g.len, fun i h1 hi => (g.same i (Nat.lt_of_lt_of_le h1 h.len) hi).trans (h.same i h1 hi)⟩
theorem Gro.app {T : Store} : Gro a S (S ++ T) := ⟨by simp, fun i h1 _ => List.getElem?_append_left h1⟩
theorem Like.set {c : Cell} : Like a S (S.set a c) := ⟨List.length_set, fun i hi => List.getElem?_set_ne (Ne.symm hi)⟩
theorem Pot.lt (h : Pot S a n) : a < S.length := by
  obtain ⟨o, s, t, h, _⟩ := h
  exact (List.getElem?_eq_some_iff.mp h).1
theorem Pot.mono (h : Pot S a n) (hn : n ≤ m) : Pot S a m := by
  obtain ⟨o, s, t, h, v⟩ := h
  exact ⟨o, s, t, h, v.o0, v.s0, v.s1, v.t0, by have := v.t1; omega⟩
theorem Pot.app {T : Store} (h : Pot S a n) : Pot (S ++ T) a n := by
  have hl := h.lt
  obtain ⟨o, s, t, h, v⟩ := h
  exact ⟨o, s, t, by rw [List.getElem?_append_left hl]; exact h, v⟩
/-- a call's end over pots: the locals are gone -/
theorem Gro.cut (g : Gro a S S') (h : Pot S' a n) (ha : a < S.length) : Cuts S S' ∧ Like a S (S'.take S.length) ∧ Pot (S'.take S.length) a n := by
  have tk : ∀ i, i < S.length → (S'.take S.length)[i]? = S'[i]? := fun i hi => List.getElem?_take_of_lt hi
  have hl := g.len
  refine ⟨⟨g.len, fun i c hi hc => ?_⟩, ⟨by rw [List.length_take]; omega, fun i hi => ?_⟩, ?_⟩
  · by_cases e : i = a
    · subst e
      obtain ⟨o, s, t, h, _⟩ := h
      rw [hc] at h
      cases h
      exact .inr rfl
    · exact .inl ((g.same i hi e).symm.trans hc)
  · by_cases h1 : i < S.length
    · rw [tk i h1]
      exact g.same i h1 hi
    · rw [List.getElem?_eq_none (by rw [List.length_take]; omega), List.getElem?_eq_none (by omega)]
  · obtain ⟨o, s, t, h, v⟩ := h
    exact ⟨o, s, t, by rw [tk a ha]; exact h, v⟩
theorem cuts_app {T : Store} : Cuts S (S ++ T) ∧ (S ++ T).take S.length = S := ⟨⟨by simp, fun i c hi hc => .inl (by rw [List.getElem?_append_left hi] at hc; exact hc)⟩, by simp⟩
end
end Tu
end L2
set_option Elab.async false
set_option linter.all false
set_option maxRecDepth 100000
set_option maxHeartbeats 8000000
namespace L2
namespace Tu
namespace La
open PySem PySem.Spec PyProof.Rows
def stAt (i : Nat) : Stmt := PySem.Challenge.rw_turnaways_k00_errors.prog.main.body.getD i (.Pass ⟨0, 0, 0, 0⟩)
def d_law_pot : DefI := ⟨"_law_pot", stAt 33, ["_law_script", "_law_place"], ["_law_script", "_law_place", "_law_cell", "_law_own", "_law_small"], true,
  (.cons (.set 2 (.ite (.cmp .Lt (.var 1) (.bi false "len" (.cons (.var 0) .nil))) (.idx (.var 0) (.var 1)) (.bin .Add (.bin .Mult (.con (.int 43)) (.var 1)) (.con (.int 19))))) (.cons (.set 3 (.bin .Mult (.bin .Mod (.bi false "int" (.cons (.bi false "abs" (.cons (.var 2) .nil)) .nil)) (.bin .Pow (.bin .Pow (.con (.int 10)) (.con (.int 60))) (.con (.int 5)))) (.bi false "int" (.cons (.cmp .GtE (.bi false "abs" (.cons (.var 2) .nil)) (.bin .Pow (.con (.int 10)) (.con (.int 18)))) .nil)))) (.cons (.set 4 (.bin .Mod (.bi false "int" (.cons (.var 2) .nil)) (.con (.int 2305843009213693951)))) (.cons (.ret (.lst true (.cons (.var 3) (.cons (.bin .Mod (.bi false "int" (.cons (.bin .Add (.bin .Add (.bin .Mult (.var 4) (.con (.int 72043))) (.bin .Mult (.bin .Mult (.con (.int 8641)) (.var 1)) (.var 1))) (.con (.int 101))) .nil)) (.con (.int 2305843009213693921))) (.cons (.con (.int 0)) .nil))))) .nil))))⟩
def d_law_take : DefI := ⟨"_law_take", stAt 34, ["_law_pot_here", "_law_upto"], ["_law_pot_here", "_law_upto", "_law_prime", "_law_mixed", "_law_digit"], false,
  (.cons (.ife (.cmp .Gt (.idx (.var 0) (.con (.int 0))) (.con (.int 0))) (.cons (.set 4 (.bin .Mod (.bi false "int" (.cons (.idx (.var 0) (.con (.int 0))) .nil)) (.var 1))) (.cons (.put (.var 0) (.con (.int 0)) (.bin .FloorDiv (.idx (.var 0) (.con (.int 0))) (.var 1))) (.cons (.ret (.var 4)) .nil))) .nil) (.cons (.put (.var 0) (.con (.int 2)) (.bin .Add (.idx (.var 0) (.con (.int 2))) (.con (.int 1)))) (.cons (.set 2 (.idx (.lst false (.cons (.con (.int 2147483647)) (.cons (.con (.int 2147483629)) (.cons (.con (.int 2147483587)) (.cons (.con (.int 2147483579)) (.cons (.con (.int 2147483563)) .nil)))))) (.bin .Mod (.bi false "int" (.cons (.idx (.var 0) (.con (.int 2))) .nil)) (.con (.int 5))))) (.cons (.set 3 (.bin .Mod (.bi false "int" (.cons (.bin .Pow (.bi false "int" (.cons (.bin .Add (.bin .Add (.idx (.var 0) (.con (.int 1))) (.bin .Mult (.bin .Mult (.con (.int 105023)) (.idx (.var 0) (.con (.int 2)))) (.idx (.var 0) (.con (.int 2))))) (.con (.int 47))) .nil)) (.con (.int 3))) .nil)) (.var 2))) (.cons (.set 3 (.bin .Mod (.bi false "int" (.cons (.bin .Mult (.var 3) (.bin .Add (.bin .Mod (.bi false "int" (.cons (.var 3) .nil)) (.con (.int 10061))) (.bin .Mult (.con (.int 103)) (.idx (.var 0) (.con (.int 2)))))) .nil)) (.con (.int 2305843009213693907)))) (.cons (.ret (.bin .Mod (.bi false "int" (.cons (.bin .FloorDiv (.var 3) (.con (.int 127))) .nil)) (.var 1))) .nil))))))⟩
def d_law_of : DefI := ⟨"_law_of", stAt 35, ["_law_pot_here", "_law_some"], ["_law_pot_here", "_law_some"], false,
  (.cons (.ret (.idx (.var 1) (.fn "_law_take" (.cons (.var 0) (.cons (.bi false "len" (.cons (.var 1) .nil)) .nil))))) .nil)⟩
def d_law_cells : DefI := ⟨"_law_cells", stAt 36, ["_law_script", "_law_limit"], ["_law_script", "_law_limit"], false,
  (.cons (.ret (.lrg false (.bi false "max" (.cons (.con (.int 1)) (.cons (.bi false "min" (.cons (.var 1) (.cons (.bi false "len" (.cons (.var 0) .nil)) .nil))) .nil))))) .nil)⟩
def d_law_odd : DefI := ⟨"_law_odd", stAt 37, ["_law_pot_here"], ["_law_pot_here", "_law_some"], false,
  (.cons (.set 1 (.lst false (.cons (.con .non) (.cons (.con (.bl true)) (.cons (.con (.bl false)) (.cons (.con (.int 0)) (.cons (.con (.int 1)) (.cons (.neg (.con (.int 1))) (.cons (.bin .Pow (.con (.int 10)) (.con (.int 8))) (.cons (.con (.str "")) (.cons (.con (.str "a")) (.cons (.con (.str "never")) (.cons (.con (.str "can")) (.cons (.tup .nil) (.cons (.lst false .nil) (.cons (.dic false [] .nil) (.cons (.tup (.cons (.con (.int 0)) .nil)) (.cons (.tup (.cons (.tup .nil) .nil)) (.cons (.lst false (.cons (.con (.int 0)) .nil)) (.cons (.tup (.cons (.con (.str "never")) .nil)) .nil)))))))))))))))))))) (.cons (.ret (.fn "_law_of" (.cons (.var 0) (.cons (.bin .Add (.var 1) (.lst false (.cons (.tup (.cons (.tup (.cons (.con (.str "a")) (.cons (.con (.str "b")) (.cons (.con (.int 1)) .nil)))) .nil)) (.cons (.tup (.cons (.con (.str "a")) (.cons (.con (.str "b")) .nil))) (.cons (.tup (.cons (.tup (.cons (.con (.str "a")) (.cons (.con (.str "b")) (.cons (.con (.bl true)) .nil)))) .nil)) (.cons (.tup (.cons (.con (.str "comes")) (.cons (.con (.str "a")) .nil))) (.cons (.tup (.cons (.tup (.cons (.con (.str "comes")) (.cons (.con (.str "a")) .nil))) .nil)) .nil))))))) .nil)))) .nil))⟩
def d_law_created : DefI := ⟨"_law_created", stAt 38, ["_law_value"], ["_law_value", "_law_found"], false,
  (.cons (.set 1 (.lst true (.cons (.mk "BadHall" (.cons (.var 0) .nil)) (.cons (.mk "NoThing" (.cons (.var 0) .nil)) (.cons (.mk "NoPlace" (.cons (.var 0) .nil)) (.cons (.mk "BadNumber" (.cons (.var 0) .nil)) (.cons (.mk "TooWide" (.cons (.var 0) .nil)) (.cons (.mk "LastThing" (.cons (.var 0) .nil)) .nil)))))))) (.cons (.expr (.mb (.var 1) "extend" (.cons (.lst false (.cons (.mk "BadClauses" (.cons (.var 0) .nil)) (.cons (.mk "Clash" (.cons (.var 0) .nil)) (.cons (.mk "BadCounts" (.cons (.var 0) .nil)) (.cons (.mk "BadText" (.cons (.var 0) .nil)) (.cons (.mk "BadPair" (.cons (.var 0) .nil)) (.cons (.mk "Crowded" (.cons (.var 0) .nil)) .nil))))))) .nil))) (.cons (.expr (.mb (.var 1) "extend" (.cons (.lst false (.cons (.mk "NoRoom" (.cons (.var 0) .nil)) (.cons (.mk "NotThere" (.cons (.var 0) .nil)) (.cons (.mk "OtherHall" (.cons (.var 0) .nil)) (.cons (.mk "BadRow" (.cons (.var 0) .nil)) (.cons (.mk "TooMany" (.cons (.var 0) .nil)) (.cons (.mk "BadWord" (.cons (.var 0) .nil)) .nil))))))) .nil))) (.cons (.expr (.mb (.var 1) "extend" (.cons (.lst false (.cons (.mk "Unlike" (.cons (.var 0) .nil)) (.cons (.mk "BadOffers" (.cons (.var 0) .nil)) (.cons (.mk "BadWishes" (.cons (.var 0) .nil)) (.cons (.mk "BadSeen" (.cons (.var 0) .nil)) (.cons (.mk "NoTicket" (.cons (.var 0) .nil)) (.cons (.mk "NoFit" (.cons (.var 0) .nil)) .nil))))))) .nil))) (.cons (.expr (.mb (.var 1) "extend" (.cons (.lst false (.cons (.mk "Full" (.cons (.var 0) .nil)) (.cons (.mk "NothingToUndo" (.cons (.var 0) .nil)) (.cons (.mk "NothingToRedo" (.cons (.var 0) .nil)) (.cons (.mk "NoTrial" (.cons (.var 0) .nil)) (.cons (.mk "BadJournal" (.cons (.var 0) .nil)) .nil)))))) .nil))) (.cons (.ret (.bin .Add (.var 1) (.lst false (.cons (.mk "BadLine" (.cons (.var 0) .nil)) .nil)))) .nil))))))⟩
def d_law_kinds : DefI := ⟨"_law_kinds", stAt 39, ["_law_one"], ["_law_one", "_law_found"], false,
  (.cons (.set 1 (.lst true (.cons (.isi (.var 0) "BadHall") (.cons (.isi (.var 0) "NoThing") (.cons (.isi (.var 0) "NoPlace") (.cons (.isi (.var 0) "BadNumber") .nil)))))) (.cons (.expr (.mb (.var 1) "extend" (.cons (.lst false (.cons (.isi (.var 0) "TooWide") (.cons (.isi (.var 0) "LastThing") (.cons (.isi (.var 0) "BadClauses") .nil)))) .nil))) (.cons (.expr (.mb (.var 1) "extend" (.cons (.lst false (.cons (.isi (.var 0) "Clash") (.cons (.isi (.var 0) "BadCounts") (.cons (.isi (.var 0) "BadText") .nil)))) .nil))) (.cons (.expr (.mb (.var 1) "extend" (.cons (.lst false (.cons (.isi (.var 0) "BadPair") (.cons (.isi (.var 0) "Crowded") (.cons (.isi (.var 0) "NoRoom") .nil)))) .nil))) (.cons (.expr (.mb (.var 1) "extend" (.cons (.lst false (.cons (.isi (.var 0) "NotThere") (.cons (.isi (.var 0) "OtherHall") (.cons (.isi (.var 0) "BadRow") .nil)))) .nil))) (.cons (.expr (.mb (.var 1) "extend" (.cons (.lst false (.cons (.isi (.var 0) "TooMany") (.cons (.isi (.var 0) "BadWord") (.cons (.isi (.var 0) "Unlike") .nil)))) .nil))) (.cons (.expr (.mb (.var 1) "extend" (.cons (.lst false (.cons (.isi (.var 0) "BadOffers") (.cons (.isi (.var 0) "BadWishes") (.cons (.isi (.var 0) "BadSeen") .nil)))) .nil))) (.cons (.expr (.mb (.var 1) "extend" (.cons (.lst false (.cons (.isi (.var 0) "NoTicket") (.cons (.isi (.var 0) "NoFit") (.cons (.isi (.var 0) "Full") .nil)))) .nil))) (.cons (.expr (.mb (.var 1) "extend" (.cons (.lst false (.cons (.isi (.var 0) "NothingToUndo") (.cons (.isi (.var 0) "NothingToRedo") (.cons (.isi (.var 0) "NoTrial") .nil)))) .nil))) (.cons (.ret (.bin .Add (.var 1) (.lst false (.cons (.isi (.var 0) "BadJournal") (.cons (.isi (.var 0) "BadLine") .nil))))) .nil))))))))))⟩
def d_law_right : DefI := ⟨"_law_right", stAt 40, ["_law_pot_here"], ["_law_pot_here", "_law_odd_here", "_law_value", "_law_above", "_law_at", "_law_one", "_law_number"], false,
  (.cons (.set 1 (.fn "_law_odd" (.cons (.var 0) .nil))) (.cons (.set 2 (.fn "_law_of" (.cons (.var 0) (.cons (.lst false (.cons (.var 1) (.cons (.tup (.cons (.var 1) (.cons (.lst false (.cons (.fn "_law_odd" (.cons (.var 0) .nil)) .nil)) .nil))) (.cons (.dic false ["a"] (.cons (.var 1) .nil)) .nil)))) .nil)))) (.cons (.for_ (.tup (.cons (.name 4) (.cons (.name 5) .nil))) (.enu (.fn "_law_created" (.cons (.var 2) .nil))) (.cons (.ife (.bop false (.cons (.cmp .NotEq (.fn "_law_kinds" (.cons (.var 5) .nil)) (.lc false [("_law_number", 6)] (.cmp .Eq (.var 6) (.var 4)) (.name 6) (.rng (.con (.int 30))) .nil)) (.cons (.cmp .NotEq (.bi false "repr" (.cons (.fld (.var 5) "value") .nil)) (.bi false "repr" (.cons (.var 2) .nil))) .nil))) (.cons (.ret (.con (.bl false))) .nil) .nil) (.cons (.ife (.bop false (.cons (.not (.val (.isi (.var 5) "HallError"))) (.cons (.not (.val (.isi (.var 5) "ValueError"))) .nil))) (.cons (.ret (.con (.bl false))) .nil) .nil) .nil))) (.cons (.set 3 (.mk "HallError" (.cons (.var 2) .nil))) (.cons (.ret (.bop true (.cons (.not (.bi false "any" (.cons (.fn "_law_kinds" (.cons (.var 3) .nil)) .nil))) (.cons (.cmp .Eq (.bi false "repr" (.cons (.fld (.var 3) "value") .nil)) (.bi false "repr" (.cons (.var 2) .nil))) (.cons (.isi (.var 3) "ValueError") .nil))))) .nil)))))⟩
def dlaw : DefI := ⟨"law", stAt 41, ["_law_script"], ["_law_script", "_law_place"], false,
  (.cons (.ret (.bi false "all" (.cons (.lc false [("_law_place", 1)] (.fn "_law_right" (.cons (.fn "_law_pot" (.cons (.var 0) (.cons (.var 1) .nil))) .nil)) (.name 1) (.val (.fn "_law_cells" (.cons (.var 0) (.cons (.con (.int 3)) .nil)))) .nil) .nil))) .nil)⟩
def dfs : List DefI := [d_law_pot, d_law_take, d_law_of, d_law_cells, d_law_odd, d_law_created, d_law_kinds, d_law_right, dlaw]
def cls0 : List Str := ["HallError", "BadHall", "NoThing", "NoPlace", "BadNumber", "TooWide", "LastThing", "BadClauses", "Clash", "BadCounts", "BadText", "BadPair", "Crowded", "NoRoom", "NotThere", "OtherHall", "BadRow", "TooMany", "BadWord", "Unlike", "BadOffers", "BadWishes", "BadSeen", "NoTicket", "NoFit", "Full", "NothingToUndo", "NothingToRedo", "NoTrial", "BadJournal", "BadLine"]
def stI : Stmt := match stAt 1 with
  | .ClassDef (body := b) .. => b.getD 0 (.Pass ⟨0, 0, 0, 0⟩)
  | _ => .Pass ⟨0, 0, 0, 0⟩
def isi0 (a b : Str) : Bool := a == b || b == "HallError" || b == "ValueError"
def I0 : ModI := { defs := dfs, cls := cls0, iss := "ValueError" :: cls0, con := fun _ => none, isi := isi0 }
theorem chk : ∀ d ∈ dfs, mSs d.N (defScope d.st) (cellW (defScope d.st)) I0.nm d.b (defBody d.st) = true := by decide +kernel
theorem scs : ∀ d ∈ dfs, FnScope d.N d.ps (defScope d.st) := by
  have h : ∀ d ∈ dfs, (defScope d.st).kind = .function ∧ (defScope d.st).isCoroutine = false ∧ (defScope d.st).isGenerator = false ∧ d.N.Nodup ∧ d.N.take d.ps.length = d.ps ∧ (∀ x ∈ d.ps, (defScope d.st).names.lookup x = some .local ∨ (defScope d.st).names.lookup x = some .cell) ∧ (∀ y ∈ (defScope d.st).names, y.2 ≠ .free) := by decide +kernel
  exact fun d hd => let ⟨h1, h2, h3, h4, h5, h6, h7⟩ := h d hd; ⟨h1, h2, h3, h4, h5, h6, h7⟩
theorem scpI : ScpI (defBody stI) (defScope stI) := ⟨⟨_, _, _, _, _, _, _, _, _, _, rfl, rfl⟩, by decide +kernel, by decide +kernel, by decide +kernel, by decide +kernel, by decide +kernel, by decide +kernel, by decide +kernel, by decide +kernel⟩
theorem prom {w : World} {K : PySem.W.Frag} {mg : Str → Option Value} {h : Heap} {fa D fI cc cda : Addr} (X : K.In h) (G : h.Ns mainGlobals mg) (hfa : mg "law" = some (.ref fa))
    (e0 : DefK K mg d_law_pot)
    (e1 : DefK K mg d_law_take)
    (e2 : DefK K mg d_law_of)
    (e3 : DefK K mg d_law_cells)
    (e4 : DefK K mg d_law_odd)
    (e5 : DefK K mg d_law_created)
    (e6 : DefK K mg d_law_kinds)
    (e7 : DefK K mg d_law_right)
    (e8 : DefK K mg dlaw)
    (aD : PySem.W.nsIn K mainGlobals "HallError" = some (some (.ref D))) (aI : PySem.W.findIn K (.ref D) "__init__" = some (some (.ref fI)))
    (hI : HexI PySem.Challenge.rw_turnaways_k00_errors.prog K D fI cc cda "HallError.__init__" (defArgs stI) (defBody stI) (defScope stI))
    (hc : clsB K D fI cls0 = true) (hi : isiB K cls0 ("ValueError" :: cls0) isi0 = true) (hn : noneB K ("super" :: "range" :: "enumerate" :: "isinstance" :: biNames) = true) (hs : sysB K = true) :
    ∀ base : Heap, K.In base → base.Ns mainGlobals mg → FnG PySem.Challenge.rw_turnaways_k00_errors.prog w K mg base 20 fa (spU K mg [] ((lev I0 17).fn "law")) := by
  intro base _ _
  have no := noneB_ok X G hn
  have cs := clsB_ok hc
  have M := mo_lev (T := []) (P := PySem.Challenge.rw_turnaways_k00_errors.prog) (w := w) (base := base) (I := I0) (sysK_of hs) (by
      intro d hd
      simp only [I0, dfs, List.mem_cons, List.not_mem_nil, or_false] at hd
      rcases hd with rfl | rfl | rfl | rfl | rfl | rfl | rfl | rfl | rfl <;> assumption) chk
    (fun c hc' => let ⟨C, h1, h2, h3, h4⟩ := cs c hc'; ⟨C, PySem.W.mg_of X G h1, h4, excG hI h2 (PySem.W.mg_of X G h1) (no _ (by simp))⟩)
    (fun f hf => no f (List.mem_cons_of_mem _ hf)) (fun x d e => by cases e)
    (fun c hc' => let ⟨C, h1, h2, h3, h4⟩ := cs c hc'; ⟨C, PySem.W.mg_of X G h1, h3, h2.nv⟩) (isiB_ok X G hi) 17
  obtain ⟨a, h1, _, h3⟩ := M.fn "law" (by rw [lev_fns]; simp [I0, dfs, d_law_pot, d_law_take, d_law_of, d_law_cells, d_law_odd, d_law_created, d_law_kinds, d_law_right, dlaw])
  rw [hfa] at h1
  cases h1
  exact h3
end La
end Tu
end L2
set_option Elab.async false
set_option linter.all false
set_option maxRecDepth 100000
set_option maxHeartbeats 4000000
namespace L2
namespace Tu
namespace La
open PySem PySem.Spec PyProof.Rows
theorem fn_pot (k : Nat) : (lev I0 (k + 1)).fn "_law_pot" = runD (lev I0 k) d_law_pot := rfl
theorem fn_take (k : Nat) : (lev I0 (k + 1)).fn "_law_take" = runD (lev I0 k) d_law_take := rfl
theorem fn_of (k : Nat) : (lev I0 (k + 1)).fn "_law_of" = runD (lev I0 k) d_law_of := rfl
/-! ### draws -/
theorem ixl0 {S : Store} {a : Nat} {x y z : D} (h : S[a]? = some (.lst [x, y, z])) : idxF (.obj a) (.int 0) S = some (x, S) := by
  simp only [idxF, D.at, h]
  rfl
theorem ixl1 {S : Store} {a : Nat} {x y z : D} (h : S[a]? = some (.lst [x, y, z])) : idxF (.obj a) (.int 1) S = some (y, S) := by
  simp only [idxF, D.at, h]
  rfl
theorem ixl2 {S : Store} {a : Nat} {x y z : D} (h : S[a]? = some (.lst [x, y, z])) : idxF (.obj a) (.int 2) S = some (z, S) := by
  simp only [idxF, D.at, h]
  rfl
theorem put0 {S : Store} {a : Nat} {x y z v : D} (h : S[a]? = some (.lst [x, y, z])) : putF (.obj a) (.int 0) v S = some (S.set a (.lst [v, y, z])) := by
  simp only [putF, h]
  rfl
theorem put2 {S : Store} {a : Nat} {x y z v : D} (h : S[a]? = some (.lst [x, y, z])) : putF (.obj a) (.int 2) v S = some (S.set a (.lst [x, y, v])) := by
  simp only [putF, h]
  rfl
theorem pot_rest (G : Gl0) (c : Int) (p : Nat) (hp : p < 64) (d0 : D) (S : Store) : ∃ o s, Potv o s 0 0 ∧
    (exSs G (match d_law_pot.b with | .cons _ r => r | r => r) [some d0, some (.int p), some (.int c), none, none] S).res = .ok (.obj S.length) (S ++ [.lst [.int o, .int s, .int 0]]) := by
  have a0 : 0 ≤ (if c < 0 then -c else c) := by split <;> omega
  generalize hq : (if c < 0 then -c else c) = q at a0
  let z : Int := if decide ((10 : Int) ^ 18 ≤ q) = true then 1 else 0
  have hz : z = 0 ∨ z = 1 := by
    show (if _ then (1 : Int) else 0) = 0 ∨ (if _ then (1 : Int) else 0) = 1
    split <;> simp
  let B : Int := (10 ^ 60) ^ 5
  have m1 : 0 ≤ q % B := Int.emod_nonneg _ (by decide)
  have m2 : q % B < B := Int.emod_lt_of_pos _ (by decide)
  have s1 : 0 ≤ c % 2305843009213693951 := Int.emod_nonneg _ (by decide)
  have s2 : c % 2305843009213693951 < 2305843009213693951 := Int.emod_lt_of_pos _ (by decide)
  refine ⟨q % B * z, ((c % 2305843009213693951) * 72043 + 8641 * p * p + 101) % 2305843009213693921, ?_, ?_⟩
  · refine ⟨?_, Int.emod_nonneg _ (by decide), ?_, Int.le_refl _, Int.le_refl _⟩
    · rcases hz with h | h <;> rw [h] <;> simp [m1]
    · exact Int.lt_trans (Int.emod_lt_of_pos _ (by decide)) (by decide)
  · have P1 : ∀ S, powF (.int 10) (.int 60) S = some (.int (10 ^ 60), S) := fun S => pow_i (n := 60) (by decide)
    have P2 : ∀ S, powF (.int (10 ^ 60)) (.int 5) S = some (.int B, S) := fun S => pow_i (n := 5) (by decide)
    have P3 : ∀ S, powF (.int 10) (.int 18) S = some (.int (10 ^ 18), S) := fun S => pow_i (n := 18) (by decide)
    have M1 : ∀ S, modF (.int q) (.int B) S = some (.int (q % B), S) := fun S => mod_i (by decide)
    have zb : z.natAbs < 2 ^ 1 := by rcases hz with h | h <;> rw [h] <;> decide
    have M2 : ∀ S, mulF (.int (q % B)) (.int z) S = some (.int (q % B * z), S) := fun S => mul_i (cmul (a := 1000) (b := 1) (by
      have : (q % B).natAbs < B.natAbs := by omega
      exact Nat.lt_of_lt_of_le this (by decide)) zb (by decide) (by decide) (by decide))
    have M3 : ∀ S, modF (.int c) (.int 2305843009213693951) S = some (.int (c % 2305843009213693951), S) := fun S => mod_i (by decide)
    have M4 : ∀ S, mulF (.int (c % 2305843009213693951)) (.int 72043) S = some (.int (c % 2305843009213693951 * 72043), S) := fun S => mul_i (cmul (a := 62) (b := 20) (by omega) (by decide) (by decide) (by decide) (by decide))
    have M5 : ∀ S, mulF (.int 8641) (.int p) S = some (.int (8641 * p), S) := fun S => mul_i (cmul (a := 20) (b := 20) (by decide) (by omega) (by decide) (by decide) (by decide))
    have M6 : ∀ S, mulF (.int (8641 * p)) (.int p) S = some (.int (8641 * p * p), S) := fun S => mul_i (cmul (a := 20) (b := 20) (by omega) (by omega) (by decide) (by decide) (by decide))
    have M7 : ∀ i S, modF (.int i) (.int 2305843009213693921) S = some (.int (i % 2305843009213693921), S) := fun i S => mod_i (by decide)
    have Z : (if decide ((10 : Int) ^ 18 ≤ q) = true then (1 : Int) else 0) = z := rfl
    unfold d_law_pot
    simp only [exSs_cons, exSs_nil, exS_set, exS_par, exS_put, exS_expr, exS_ret, exS_retN, exS_ife, exS_pas, ev_var, ev_con, ev_lst, ev_tup, ev_bin, ev_neg, ev_not, ev_bop, ev_cmp, ev_cmp2, ev_ite, ev_idx, ev_fld, ev_fn, ev_mk, ev_bi, ev_isi, ev_mb, ev_lrg, ev_dic, evs_nil, evs_cons, evT_val, evT_not, evT_bop, evT_cmp, evT_cmp2, evB_one, evB_cons, evBT_one, evBT_cons, evA_nil, evA_one, ev_lc, a_lc, evI_val, evI_rng, evI_enu, exS_for, a_for, srcV_lst, srcV_tup, srcE_lst, forBody_1, forBody_2, forBody_3, sats_nx, sats_rt, sat_ok, tru_bl, a_op, a_bin, a_un, a_bi, a_not2, a_not, a_lst, a_tup, a_b, a_c2, a_c2a, a_c2t, a_c2f, a_ite, a_me, a_mb, a_lrg, a_dic0, a_dic1, a_cons2, a_cons, a_app, a_tru, a_notT, a_bl, a_ct, a_cta, a_c2T, a_c2Ta, a_c2Tt, a_c2Tf, a_bt, a_set, a_par2, a_par, a_put3, a_put2, a_put, a_expr, a_ret, a_ife, bind_ok, st_ok, seq_nx, seq_rt, res_nx, res_rt, of_some, if_true, if_false, Bool.false_eq_true, Bool.true_eq_false, Bool.not_true, Bool.not_false, List.getElem?_cons_zero, List.getElem?_cons_succ, List.set, add_lst, add_tup, List.cons_append, List.nil_append, isTe_app, isTa_app, ext_app, app_app, add_app, bin_add, bin_sub, bin_mul, bin_div, bin_mod, bin_pow, resL_f, resL_t, resK_f, resK_t, biF_len, biF_abs, biF_int, biF_max, biF_min, biF_repr, biF_all, biF_any, biF_list, add_i, sub_i, lt_i, le_i, gt_i, ge_i, eq_i, ne_i, eq_s, ne_s, int_i, int_b, abs_i, le_size, lt_size, Nat.reduceAdd, Nat.reduceLeDiff, Nat.reduceLT, List.length_cons, List.length_nil, len_lst, len_tup, idx_lst, idx_tup, atI_nat, P1, P2, P3, M1, M2, M3, M4, M5, M6, M7, hq, Z]
theorem pot_ok (k : Nat) (p : Nat) (hp : p < 64) (ns : List Int) (S : Store) : ∃ o s, Potv o s 0 0 ∧ (lev I0 (k + 1)).fn "_law_pot" [.lst (ns.map .int), .int p] S = .ok (.obj S.length) (S ++ [.lst [.int o, .int s, .int 0]]) := by
  have hc : ∃ c : Int, ev (lev I0 k) (match d_law_pot.b with | .cons (.set _ e) _ => e | _ => .nev) [some (.lst (ns.map .int)), some (.int p), none, none, none] S = .ok (.int c) S := by
    unfold d_law_pot
    by_cases h : p < ns.length
    · refine ⟨ns[p], ?_⟩
      have h2 : ((p : Int) < ((ns.map D.int).length : Int)) := by rw [List.length_map]; omega
      have A : ns[p]? = some ns[p] := by simp [h]
      simp only [exSs_cons, exSs_nil, exS_set, exS_par, exS_put, exS_expr, exS_ret, exS_retN, exS_ife, exS_pas, ev_var, ev_con, ev_lst, ev_tup, ev_bin, ev_neg, ev_not, ev_bop, ev_cmp, ev_cmp2, ev_ite, ev_idx, ev_fld, ev_fn, ev_mk, ev_bi, ev_isi, ev_mb, ev_lrg, ev_dic, evs_nil, evs_cons, evT_val, evT_not, evT_bop, evT_cmp, evT_cmp2, evB_one, evB_cons, evBT_one, evBT_cons, evA_nil, evA_one, ev_lc, a_lc, evI_val, evI_rng, evI_enu, exS_for, a_for, srcV_lst, srcV_tup, srcE_lst, forBody_1, forBody_2, forBody_3, sats_nx, sats_rt, sat_ok, tru_bl, a_op, a_bin, a_un, a_bi, a_not2, a_not, a_lst, a_tup, a_b, a_c2, a_c2a, a_c2t, a_c2f, a_ite, a_me, a_mb, a_lrg, a_dic0, a_dic1, a_cons2, a_cons, a_app, a_tru, a_notT, a_bl, a_ct, a_cta, a_c2T, a_c2Ta, a_c2Tt, a_c2Tf, a_bt, a_set, a_par2, a_par, a_put3, a_put2, a_put, a_expr, a_ret, a_ife, bind_ok, st_ok, seq_nx, seq_rt, res_nx, res_rt, of_some, if_true, if_false, Bool.false_eq_true, Bool.true_eq_false, Bool.not_true, Bool.not_false, List.getElem?_cons_zero, List.getElem?_cons_succ, List.set, add_lst, add_tup, List.cons_append, List.nil_append, isTe_app, isTa_app, ext_app, app_app, add_app, bin_add, bin_sub, bin_mul, bin_div, bin_mod, bin_pow, resL_f, resL_t, resK_f, resK_t, biF_len, biF_abs, biF_int, biF_max, biF_min, biF_repr, biF_all, biF_any, biF_list, add_i, sub_i, lt_i, le_i, gt_i, ge_i, eq_i, ne_i, eq_s, ne_s, int_i, int_b, abs_i, le_size, lt_size, Nat.reduceAdd, Nat.reduceLeDiff, Nat.reduceLT, List.length_cons, List.length_nil, len_lst, len_tup, idx_lst, idx_tup, atI_nat, decide_eq_true h2, List.getElem?_map, A, Option.map]
    · refine ⟨43 * p + 19, ?_⟩
      have h2 : ¬ ((p : Int) < ((ns.map D.int).length : Int)) := by rw [List.length_map]; omega
      have M5 : ∀ S, mulF (.int 43) (.int p) S = some (.int (43 * p), S) := fun S => mul_i (cmul (a := 20) (b := 20) (by decide) (by omega) (by decide) (by decide) (by decide))
      simp only [exSs_cons, exSs_nil, exS_set, exS_par, exS_put, exS_expr, exS_ret, exS_retN, exS_ife, exS_pas, ev_var, ev_con, ev_lst, ev_tup, ev_bin, ev_neg, ev_not, ev_bop, ev_cmp, ev_cmp2, ev_ite, ev_idx, ev_fld, ev_fn, ev_mk, ev_bi, ev_isi, ev_mb, ev_lrg, ev_dic, evs_nil, evs_cons, evT_val, evT_not, evT_bop, evT_cmp, evT_cmp2, evB_one, evB_cons, evBT_one, evBT_cons, evA_nil, evA_one, ev_lc, a_lc, evI_val, evI_rng, evI_enu, exS_for, a_for, srcV_lst, srcV_tup, srcE_lst, forBody_1, forBody_2, forBody_3, sats_nx, sats_rt, sat_ok, tru_bl, a_op, a_bin, a_un, a_bi, a_not2, a_not, a_lst, a_tup, a_b, a_c2, a_c2a, a_c2t, a_c2f, a_ite, a_me, a_mb, a_lrg, a_dic0, a_dic1, a_cons2, a_cons, a_app, a_tru, a_notT, a_bl, a_ct, a_cta, a_c2T, a_c2Ta, a_c2Tt, a_c2Tf, a_bt, a_set, a_par2, a_par, a_put3, a_put2, a_put, a_expr, a_ret, a_ife, bind_ok, st_ok, seq_nx, seq_rt, res_nx, res_rt, of_some, if_true, if_false, Bool.false_eq_true, Bool.true_eq_false, Bool.not_true, Bool.not_false, List.getElem?_cons_zero, List.getElem?_cons_succ, List.set, add_lst, add_tup, List.cons_append, List.nil_append, isTe_app, isTa_app, ext_app, app_app, add_app, bin_add, bin_sub, bin_mul, bin_div, bin_mod, bin_pow, resL_f, resL_t, resK_f, resK_t, biF_len, biF_abs, biF_int, biF_max, biF_min, biF_repr, biF_all, biF_any, biF_list, add_i, sub_i, lt_i, le_i, gt_i, ge_i, eq_i, ne_i, eq_s, ne_s, int_i, int_b, abs_i, le_size, lt_size, Nat.reduceAdd, Nat.reduceLeDiff, Nat.reduceLT, List.length_cons, List.length_nil, len_lst, len_tup, idx_lst, idx_tup, atI_nat, decide_eq_false h2, M5]
  obtain ⟨c, hc⟩ := hc
  obtain ⟨o, s, hP, hr⟩ := pot_rest (lev I0 k) c p hp (.lst (ns.map .int)) S
  refine ⟨o, s, hP, ?_⟩
  rw [fn_pot, runD_kp rfl rfl]
  have e1 : startE d_law_pot.N [.lst (ns.map .int), .int p] = [some (.lst (ns.map .int)), some (.int p), none, none, none] := rfl
  rw [e1]
  rw [← hr]
  unfold d_law_pot at hc ⊢
  dsimp only at hc ⊢
  rw [exSs, exS, hc]
  rfl
theorem take_mix {T : Store} {s q p : Int} (s0 : 0 ≤ s) (s1 : s < 2305843009213693951) (q0 : 0 ≤ q) (q1 : q < 100001) (p0 : 0 < p) (p1 : p < 2 ^ 31) :
    ∃ m y0 y w3 : Int, 0 ≤ m ∧ m < p ∧ mulF (.int 105023) (.int q) T = some (.int y0, T) ∧ mulF (.int y0) (.int q) T = some (.int y, T) ∧ powF (.int (s + y + 47)) (.int 3) T = some (.int w3, T) ∧ modF (.int w3) (.int p) T = some (.int m, T) := by
  have yb : (105023 * q).natAbs < 2 ^ 40 := by omega
  have xb : 0 ≤ 105023 * q * q ∧ 105023 * q * q ≤ 105023 * 100001 * 100001 := by
    constructor
    · exact Int.mul_nonneg (by omega) q0
    · exact Int.mul_le_mul (by omega) (by omega) q0 (by decide)
  have x1 : (s + 105023 * q * q + 47).natAbs < 2 ^ 62 := by omega
  refine ⟨_, _, _, _, ?_, ?_, mul_i (cmul (a := 20) (b := 20) (by decide) (by omega) (by decide) (by decide) (by decide)), mul_i (cmul (a := 40) (b := 20) yb (by omega) (by decide) (by decide) (by decide)), pow_i (n := 3) ?_, mod_i p0⟩
  · exact Int.emod_nonneg _ (by omega)
  · exact Int.emod_lt_of_pos _ p0
  · have := log_of x1 (by decide)
    omega
/-- THE DRAW -/
theorem take_ok (k : Nat) {S : Store} {a n : Nat} {u : Int} (P : Pot S a n) (hn : n < 100000) (hu : 0 < u) (hu2 : u < 1000) {Q : D → Store → Prop} (h : ∀ (r : Nat) S', (r : Int) < u → Like a S S' → Pot S' a (n + 1) → Q (.int r) S') :
    Sat ((lev I0 (k + 1)).fn "_law_take" [.obj a, .int u] S) Q := by
  have hl := P.lt
  obtain ⟨o, s, t, h0, o0, s0, s1, t0, t1⟩ := P
  have fine : ∀ (r o' t' : Int) (e : Store), 0 ≤ r → r < u → Potv o' s t' (n + 1) → (exSs (lev I0 k) d_law_take.b (startE d_law_take.N [.obj a, .int u]) S).res = .ok (.int r) (S.set a (.lst [.int o', .int s, .int t']) ++ e) → Sat ((lev I0 (k + 1)).fn "_law_take" [.obj a, .int u] S) Q := fun r o' t' e r0 r1 pv hr => by
    rw [fn_take, runD_fin rfl rfl, hr]
    refine Sat.fin (Sat.ok ?_)
    have p1 : Pot (S.set a (.lst [.int o', .int s, .int t'])) a (n + 1) := ⟨o', s, t', List.getElem?_set_self hl, pv⟩
    obtain ⟨c1, c2, c3⟩ := (Like.set.gro.trans Gro.app : Gro a S (S.set a (.lst [.int o', .int s, .int t']) ++ e)).cut p1.app hl
    obtain ⟨m, rfl⟩ := Int.eq_ofNat_of_zero_le r0
    exact ⟨c1, _, frz_low rfl, h m _ r1 c2 c3⟩
  by_cases ho : 0 < o
  · have m1 : 0 ≤ o % u := Int.emod_nonneg _ (by omega)
    have m2 : o % u < u := Int.emod_lt_of_pos _ hu
    have d1 : 0 ≤ o / u := Int.ediv_nonneg o0 (by omega)
    have M1 : ∀ S, modF (.int o) (.int u) S = some (.int (o % u), S) := fun S => mod_i hu
    have M2 : ∀ S, fdivF (.int o) (.int u) S = some (.int (o / u), S) := fun S => div_i hu (by
      have : u.natAbs < 2 ^ 10 := by omega
      exact Nat.lt_trans (log_of this (by decide)) (by decide))
    refine fine (o % u) (o / u) t [] m1 m2 ⟨d1, s0, s1, t0, by omega⟩ ?_
    have e1 : startE d_law_take.N [.obj a, .int u] = [some (.obj a), some (.int u), none, none, none] := rfl
    rw [e1]
    unfold d_law_take
    simp only [exSs_cons, exSs_nil, exS_set, exS_par, exS_put, exS_expr, exS_ret, exS_retN, exS_ife, exS_pas, ev_var, ev_con, ev_lst, ev_tup, ev_bin, ev_neg, ev_not, ev_bop, ev_cmp, ev_cmp2, ev_ite, ev_idx, ev_fld, ev_fn, ev_mk, ev_bi, ev_isi, ev_mb, ev_lrg, ev_dic, evs_nil, evs_cons, evT_val, evT_not, evT_bop, evT_cmp, evT_cmp2, evB_one, evB_cons, evBT_one, evBT_cons, evA_nil, evA_one, ev_lc, a_lc, evI_val, evI_rng, evI_enu, exS_for, a_for, srcV_lst, srcV_tup, srcE_lst, forBody_1, forBody_2, forBody_3, sats_nx, sats_rt, sat_ok, tru_bl, a_op, a_bin, a_un, a_bi, a_not2, a_not, a_lst, a_tup, a_b, a_c2, a_c2a, a_c2t, a_c2f, a_ite, a_me, a_mb, a_lrg, a_dic0, a_dic1, a_cons2, a_cons, a_app, a_tru, a_notT, a_bl, a_ct, a_cta, a_c2T, a_c2Ta, a_c2Tt, a_c2Tf, a_bt, a_set, a_par2, a_par, a_put3, a_put2, a_put, a_expr, a_ret, a_ife, bind_ok, st_ok, seq_nx, seq_rt, res_nx, res_rt, of_some, if_true, if_false, Bool.false_eq_true, Bool.true_eq_false, Bool.not_true, Bool.not_false, List.getElem?_cons_zero, List.getElem?_cons_succ, List.set, add_lst, add_tup, List.cons_append, List.nil_append, isTe_app, isTa_app, ext_app, app_app, add_app, bin_add, bin_sub, bin_mul, bin_div, bin_mod, bin_pow, resL_f, resL_t, resK_f, resK_t, biF_len, biF_abs, biF_int, biF_max, biF_min, biF_repr, biF_all, biF_any, biF_list, add_i, sub_i, lt_i, le_i, gt_i, ge_i, eq_i, ne_i, eq_s, ne_s, int_i, int_b, abs_i, le_size, lt_size, Nat.reduceAdd, Nat.reduceLeDiff, Nat.reduceLT, List.length_cons, List.length_nil, len_lst, len_tup, idx_lst, idx_tup, atI_nat, ixl0 h0, decide_eq_true ho, M1, M2, put0 h0, List.append_nil]
  · have ho' : o = 0 := by omega
    have S1 : (S.set a (.lst [.int o, .int s, .int (t + 1)]))[a]? = some (.lst [.int o, .int s, .int (t + 1)]) := List.getElem?_set_self hl
    let ps : List D := [.int 2147483647, .int 2147483629, .int 2147483587, .int 2147483579, .int 2147483563]
    generalize hS1 : S.set a (.lst [.int o, .int s, .int (t + 1)]) = T at S1
    have t2 : t + 1 < 100001 := by omega
    have g1 : 0 ≤ (t + 1) % 5 := Int.emod_nonneg _ (by decide)
    have g2 : (t + 1) % 5 < 5 := Int.emod_lt_of_pos _ (by decide)
    have PR : ∃ p : Int, 0 < p ∧ p < 2 ^ 31 ∧ idxF (.lst ps) (.int ((t + 1) % 5)) T = some (.int p, T) := by
      have c : (t + 1) % 5 = 0 ∨ (t + 1) % 5 = 1 ∨ (t + 1) % 5 = 2 ∨ (t + 1) % 5 = 3 ∨ (t + 1) % 5 = 4 := by omega
      rcases c with c | c | c | c | c <;> rw [c]
      · exact ⟨2147483647, by decide, by decide, rfl⟩
      · exact ⟨2147483629, by decide, by decide, rfl⟩
      · exact ⟨2147483587, by decide, by decide, rfl⟩
      · exact ⟨2147483579, by decide, by decide, rfl⟩
      · exact ⟨2147483563, by decide, by decide, rfl⟩
    obtain ⟨p, p0, p1, hp⟩ := PR
    generalize hq : t + 1 = q at *
    have q0 : 0 ≤ q := by omega
    obtain ⟨m, y0, y, w3, m0, m1, A1, A2, A3, A4⟩ := take_mix (T := T) s0 s1 q0 t2 p0 p1
    have A5 : modF (.int m) (.int 10061) T = some (.int (m % 10061), T) := mod_i (by decide)
    have A6 : mulF (.int 103) (.int q) T = some (.int (103 * q), T) := mul_i (cmul (a := 20) (b := 20) (by decide) (by omega) (by decide) (by decide) (by decide))
    have yb2 : (m % 10061 + 103 * q).natAbs < 2 ^ 40 := by omega
    have A7 : mulF (.int m) (.int (m % 10061 + 103 * q)) T = some (.int (m * (m % 10061 + 103 * q)), T) := mul_i (cmul (a := 40) (b := 40) (by omega) yb2 (by decide) (by decide) (by decide))
    generalize m * (m % 10061 + 103 * q) = v at A7
    have A8 : modF (.int v) (.int 2305843009213693907) T = some (.int (v % 2305843009213693907), T) := mod_i (by decide)
    generalize v % 2305843009213693907 = v2 at A8
    have A9 : fdivF (.int v2) (.int 127) T = some (.int (v2 / 127), T) := div_i (by decide) (by decide)
    have A10 : modF (.int (v2 / 127)) (.int u) T = some (.int (v2 / 127 % u), T) := mod_i hu
    have A11 : modF (.int q) (.int 5) T = some (.int (q % 5), T) := mod_i (by decide)
    refine fine (v2 / 127 % u) o q [] (Int.emod_nonneg _ (by omega)) (Int.emod_lt_of_pos _ hu) ⟨o0, s0, s1, q0, by omega⟩ ?_
    have e1 : startE d_law_take.N [.obj a, .int u] = [some (.obj a), some (.int u), none, none, none] := rfl
    rw [e1, hS1, List.append_nil]
    dsimp only [ps] at hp
    unfold d_law_take
    simp only [exSs_cons, exSs_nil, exS_set, exS_par, exS_put, exS_expr, exS_ret, exS_retN, exS_ife, exS_pas, ev_var, ev_con, ev_lst, ev_tup, ev_bin, ev_neg, ev_not, ev_bop, ev_cmp, ev_cmp2, ev_ite, ev_idx, ev_fld, ev_fn, ev_mk, ev_bi, ev_isi, ev_mb, ev_lrg, ev_dic, evs_nil, evs_cons, evT_val, evT_not, evT_bop, evT_cmp, evT_cmp2, evB_one, evB_cons, evBT_one, evBT_cons, evA_nil, evA_one, ev_lc, a_lc, evI_val, evI_rng, evI_enu, exS_for, a_for, srcV_lst, srcV_tup, srcE_lst, forBody_1, forBody_2, forBody_3, sats_nx, sats_rt, sat_ok, tru_bl, a_op, a_bin, a_un, a_bi, a_not2, a_not, a_lst, a_tup, a_b, a_c2, a_c2a, a_c2t, a_c2f, a_ite, a_me, a_mb, a_lrg, a_dic0, a_dic1, a_cons2, a_cons, a_app, a_tru, a_notT, a_bl, a_ct, a_cta, a_c2T, a_c2Ta, a_c2Tt, a_c2Tf, a_bt, a_set, a_par2, a_par, a_put3, a_put2, a_put, a_expr, a_ret, a_ife, bind_ok, st_ok, seq_nx, seq_rt, res_nx, res_rt, of_some, if_true, if_false, Bool.false_eq_true, Bool.true_eq_false, Bool.not_true, Bool.not_false, List.getElem?_cons_zero, List.getElem?_cons_succ, List.set, add_lst, add_tup, List.cons_append, List.nil_append, isTe_app, isTa_app, ext_app, app_app, add_app, bin_add, bin_sub, bin_mul, bin_div, bin_mod, bin_pow, resL_f, resL_t, resK_f, resK_t, biF_len, biF_abs, biF_int, biF_max, biF_min, biF_repr, biF_all, biF_any, biF_list, add_i, sub_i, lt_i, le_i, gt_i, ge_i, eq_i, ne_i, eq_s, ne_s, int_i, int_b, abs_i, le_size, lt_size, Nat.reduceAdd, Nat.reduceLeDiff, Nat.reduceLT, List.length_cons, List.length_nil, len_lst, len_tup, idx_lst, idx_tup, atI_nat, ixl0 h0, decide_eq_false ho, ixl2 h0, hq, put2 h0, hS1, ixl1 S1, ixl2 S1, hp, A1, A2, A3, A4, A5, A6, A7, A8, A9, A10, A11]
theorem of_ok (k : Nat) {S : Store} {a n : Nat} {xs : List D} (P : Pot S a n) (hn : n < 100000) (hx : xs ≠ []) (hx2 : xs.length < 1000) (hlow : lows S.length xs = true) {Q : D → Store → Prop} (h : ∀ x S', x ∈ xs → Like a S S' → Pot S' a (n + 1) → Q x S') :
    Sat ((lev I0 (k + 2)).fn "_law_of" [.obj a, .lst xs] S) Q := by
  have hl := P.lt
  have h0 : 0 < xs.length := List.length_pos_iff.mpr hx
  rw [fn_of, runD_fin rfl rfl]
  refine Sat.fin (SatS.res ?_)
  have e1 : startE d_law_of.N [.obj a, .lst xs] = [some (.obj a), some (.lst xs)] := rfl
  rw [e1]
  unfold d_law_of
  simp only [exSs, exS, ev, evs, biF_len, bind_ok, of_some, List.map, len_lst, List.getElem?_cons_zero, List.getElem?_cons_succ]
  refine SatS.seq (SatS.st (Sat.bind (take_ok k P hn (by omega) (by omega) fun r S' hr hL hP => ?_)))
  have hr' : r < xs.length := by omega
  simp only [idx_lst, atI_nat, List.getElem?_eq_getElem hr', Option.map, of_some]
  obtain ⟨c1, c2, c3⟩ := hL.gro.cut hP hl
  have hlo : ∀ (ys : List D) (i : Nat) (hi : i < ys.length), lows S.length ys = true → low S.length ys[i] = true := by
    intro ys
    induction ys with
    | nil => intro i hi; simp at hi
    | cons y ys ih =>
      intro i hi hz
      rw [lows, Bool.and_eq_true] at hz
      cases i with
      | zero => exact hz.1
      | succ i => exact ih i (by simpa using hi) hz.2
  exact ⟨c1, _, frz_low (hlo xs r hr' hlow), h _ _ (List.getElem_mem hr') c2 c3⟩
end La
end Tu
end L2
set_option Elab.async false
set_option linter.all false
set_option maxRecDepth 100000
set_option maxHeartbeats 4000000
namespace L2
namespace Tu
namespace La
open PySem PySem.Spec PyProof.Rows
theorem fn_cells (k : Nat) : (lev I0 (k + 1)).fn "_law_cells" = runD (lev I0 k) d_law_cells := rfl
theorem fn_odd (k : Nat) : (lev I0 (k + 1)).fn "_law_odd" = runD (lev I0 k) d_law_odd := rfl
theorem fn_created (k : Nat) : (lev I0 (k + 1)).fn "_law_created" = runD (lev I0 k) d_law_created := rfl
theorem fn_kinds (k : Nat) : (lev I0 (k + 1)).fn "_law_kinds" = runD (lev I0 k) d_law_kinds := rfl
theorem fn_right (k : Nat) : (lev I0 (k + 1)).fn "_law_right" = runD (lev I0 k) d_law_right := rfl
theorem fn_law (k : Nat) : (lev I0 (k + 1)).fn "law" = runD (lev I0 k) dlaw := rfl
theorem lows_ints {n : Nat} (xs : List Nat) : lows n (xs.map fun (i : Nat) => D.int (i : Int)) = true := by
  rw [lows_all]
  intro d hd
  obtain ⟨i, _, rfl⟩ := List.mem_map.mp hd
  rfl
theorem min_i {i j : Int} {S : Store} : biMin [.int i, .int j] S = some (.int (if j < i then j else i), S) := nr rfl
theorem max_i {i j : Int} {S : Store} : biMax [.int i, .int j] S = some (.int (if j > i then j else i), S) := nr rfl
theorem cells_ok (k : Nat) (ns : List Int) (S : Store) (hl : ns.length ≤ 63) : ∃ m, m ≤ 3 ∧ (lev I0 (k + 1)).fn "_law_cells" [.lst (ns.map .int), .int 3] S = .ok (.lst ((List.range m).map fun (i : Nat) => D.int (i : Int))) S := by
  refine ⟨max 1 (min 3 ns.length), by omega, ?_⟩
  have e : (if (if (ns.length : Int) < 3 then (ns.length : Int) else 3) > 1 then (if (ns.length : Int) < 3 then (ns.length : Int) else 3) else 1) = ((max 1 (min 3 ns.length) : Nat) : Int) := by
    split <;> split at * <;> omega
  rw [fn_cells, runD_fin rfl rfl]
  have e1 : startE d_law_cells.N [.lst (ns.map .int), .int 3] = [some (.lst (ns.map .int)), some (.int 3)] := rfl
  rw [e1]
  unfold d_law_cells
  simp only [exSs_cons, exSs_nil, exS_set, exS_par, exS_put, exS_expr, exS_ret, exS_retN, exS_ife, exS_pas, ev_var, ev_con, ev_lst, ev_tup, ev_bin, ev_neg, ev_not, ev_bop, ev_cmp, ev_cmp2, ev_ite, ev_idx, ev_fld, ev_fn, ev_mk, ev_bi, ev_isi, ev_mb, ev_lrg, ev_dic, evs_nil, evs_cons, evT_val, evT_not, evT_bop, evT_cmp, evT_cmp2, evB_one, evB_cons, evBT_one, evBT_cons, evA_nil, evA_one, ev_lc, a_lc, evI_val, evI_rng, evI_enu, exS_for, a_for, srcV_lst, srcV_tup, srcE_lst, forBody_1, forBody_2, forBody_3, sats_nx, sats_rt, sat_ok, tru_bl, a_op, a_bin, a_un, a_bi, a_not2, a_not, a_lst, a_tup, a_b, a_c2, a_c2a, a_c2t, a_c2f, a_ite, a_me, a_mb, a_lrg, a_dic0, a_dic1, a_cons2, a_cons, a_app, a_tru, a_notT, a_bl, a_ct, a_cta, a_c2T, a_c2Ta, a_c2Tt, a_c2Tf, a_bt, a_set, a_par2, a_par, a_put3, a_put2, a_put, a_expr, a_ret, a_ife, bind_ok, st_ok, seq_nx, seq_rt, res_nx, res_rt, of_some, if_true, if_false, Bool.false_eq_true, Bool.true_eq_false, Bool.not_true, Bool.not_false, List.getElem?_cons_zero, List.getElem?_cons_succ, List.set, add_lst, add_tup, List.cons_append, List.nil_append, isTe_app, isTa_app, ext_app, app_app, add_app, bin_add, bin_sub, bin_mul, bin_div, bin_mod, bin_pow, resL_f, resL_t, resK_f, resK_t, biF_len, biF_abs, biF_int, biF_max, biF_min, biF_repr, biF_all, biF_any, biF_list, add_i, sub_i, lt_i, le_i, gt_i, ge_i, eq_i, ne_i, eq_s, ne_s, int_i, int_b, abs_i, le_size, lt_size, Nat.reduceAdd, Nat.reduceLeDiff, Nat.reduceLT, List.length_cons, List.length_nil, len_lst, len_tup, idx_lst, idx_tup, atI_nat, min_i, max_i, List.length_map, e]
  rw [if_pos (by omega)]
  simp only [exSs_cons, exSs_nil, exS_set, exS_par, exS_put, exS_expr, exS_ret, exS_retN, exS_ife, exS_pas, ev_var, ev_con, ev_lst, ev_tup, ev_bin, ev_neg, ev_not, ev_bop, ev_cmp, ev_cmp2, ev_ite, ev_idx, ev_fld, ev_fn, ev_mk, ev_bi, ev_isi, ev_mb, ev_lrg, ev_dic, evs_nil, evs_cons, evT_val, evT_not, evT_bop, evT_cmp, evT_cmp2, evB_one, evB_cons, evBT_one, evBT_cons, evA_nil, evA_one, ev_lc, a_lc, evI_val, evI_rng, evI_enu, exS_for, a_for, srcV_lst, srcV_tup, srcE_lst, forBody_1, forBody_2, forBody_3, sats_nx, sats_rt, sat_ok, tru_bl, a_op, a_bin, a_un, a_bi, a_not2, a_not, a_lst, a_tup, a_b, a_c2, a_c2a, a_c2t, a_c2f, a_ite, a_me, a_mb, a_lrg, a_dic0, a_dic1, a_cons2, a_cons, a_app, a_tru, a_notT, a_bl, a_ct, a_cta, a_c2T, a_c2Ta, a_c2Tt, a_c2Tf, a_bt, a_set, a_par2, a_par, a_put3, a_put2, a_put, a_expr, a_ret, a_ife, bind_ok, st_ok, seq_nx, seq_rt, res_nx, res_rt, of_some, if_true, if_false, Bool.false_eq_true, Bool.true_eq_false, Bool.not_true, Bool.not_false, List.getElem?_cons_zero, List.getElem?_cons_succ, List.set, add_lst, add_tup, List.cons_append, List.nil_append, isTe_app, isTa_app, ext_app, app_app, add_app, bin_add, bin_sub, bin_mul, bin_div, bin_mod, bin_pow, resL_f, resL_t, resK_f, resK_t, biF_len, biF_abs, biF_int, biF_max, biF_min, biF_repr, biF_all, biF_any, biF_list, add_i, sub_i, lt_i, le_i, gt_i, ge_i, eq_i, ne_i, eq_s, ne_s, int_i, int_b, abs_i, le_size, lt_size, Nat.reduceAdd, Nat.reduceLeDiff, Nat.reduceLT, List.length_cons, List.length_nil, len_lst, len_tup, idx_lst, idx_tup, atI_nat, Int.toNat_natCast]
  exact fin_same (lows_ints _)
def odds : List D := [.non, .bl true, .bl false, .int 0, .int 1, .int (-1), .int 100000000, .str "", .str "a", .str "never", .str "can", .tup [], .lst [], .dk [] [], .tup [.int 0], .tup [.tup []], .lst [.int 0], .tup [.str "never"],
  .tup [.tup [.str "a", .str "b", .int 1]], .tup [.str "a", .str "b"], .tup [.tup [.str "a", .str "b", .bl true]], .tup [.str "comes", .str "a"], .tup [.tup [.str "comes", .str "a"]]]
theorem low_odds : ∀ d ∈ odds, low 0 d = true := by decide +kernel
theorem odd_ok (k : Nat) {S : Store} {a n : Nat} (P : Pot S a n) (hn : n < 100000) {Q : D → Store → Prop} (h : ∀ x S', x ∈ odds → Like a S S' → Pot S' a (n + 1) → Q x S') :
    Sat ((lev I0 (k + 3)).fn "_law_odd" [.obj a] S) Q := by
  have hl := P.lt
  have M : ∀ S, powF (.int 10) (.int 8) S = some (.int 100000000, S) := fun S => (pow_i (n := 8) (by decide)).trans (by rfl)
  have N : ∀ S, negF (.int 1) S = some (.int (-1), S) := fun S => nr rfl
  have A : ∀ S, addF (.lst (odds.take 18)) (.lst (odds.drop 18)) S = some (.lst odds, S) := fun S => nr rfl
  rw [fn_odd, runD_fin rfl rfl]
  have e1 : startE d_law_odd.N [.obj a] = [some (.obj a), none] := rfl
  rw [e1]
  unfold d_law_odd
  refine Sat.fin (SatS.res ?_)
  simp only [exSs_cons, exSs_nil, exS_set, exS_par, exS_put, exS_expr, exS_ret, exS_retN, exS_ife, exS_pas, ev_var, ev_con, ev_lst, ev_tup, ev_bin, ev_neg, ev_not, ev_bop, ev_cmp, ev_cmp2, ev_ite, ev_idx, ev_fld, ev_fn, ev_mk, ev_bi, ev_isi, ev_mb, ev_lrg, ev_dic, evs_nil, evs_cons, evT_val, evT_not, evT_bop, evT_cmp, evT_cmp2, evB_one, evB_cons, evBT_one, evBT_cons, evA_nil, evA_one, ev_lc, a_lc, evI_val, evI_rng, evI_enu, exS_for, a_for, srcV_lst, srcV_tup, srcE_lst, forBody_1, forBody_2, forBody_3, sats_nx, sats_rt, sat_ok, tru_bl, a_op, a_bin, a_un, a_bi, a_not2, a_not, a_lst, a_tup, a_b, a_c2, a_c2a, a_c2t, a_c2f, a_ite, a_me, a_mb, a_lrg, a_dic0, a_dic1, a_cons2, a_cons, a_app, a_tru, a_notT, a_bl, a_ct, a_cta, a_c2T, a_c2Ta, a_c2Tt, a_c2Tf, a_bt, a_set, a_par2, a_par, a_put3, a_put2, a_put, a_expr, a_ret, a_ife, bind_ok, st_ok, seq_nx, seq_rt, res_nx, res_rt, of_some, if_true, if_false, Bool.false_eq_true, Bool.true_eq_false, Bool.not_true, Bool.not_false, List.getElem?_cons_zero, List.getElem?_cons_succ, List.set, add_lst, add_tup, List.cons_append, List.nil_append, isTe_app, isTa_app, ext_app, app_app, add_app, bin_add, bin_sub, bin_mul, bin_div, bin_mod, bin_pow, resL_f, resL_t, resK_f, resK_t, biF_len, biF_abs, biF_int, biF_max, biF_min, biF_repr, biF_all, biF_any, biF_list, add_i, sub_i, lt_i, le_i, gt_i, ge_i, eq_i, ne_i, eq_s, ne_s, int_i, int_b, abs_i, le_size, lt_size, Nat.reduceAdd, Nat.reduceLeDiff, Nat.reduceLT, List.length_cons, List.length_nil, len_lst, len_tup, idx_lst, idx_tup, atI_nat, M, N]
  refine SatS.seq (SatS.st (of_ok k P hn (by decide) (by decide) (lows_mono (Nat.zero_le _) _ (lows_all.mpr low_odds)) fun x S' hx hL hP => ?_))
  obtain ⟨c1, c2, c3⟩ := hL.gro.cut hP hl
  exact ⟨c1, _, frz_low (low_mono (Nat.zero_le _) _ (low_odds x hx)), h x _ hx c2 c3⟩
def nms : List Str := cls0.drop 1
theorem mem_nms : ∀ c ∈ nms, c ∈ cls0 := fun c h => List.mem_of_mem_drop h
theorem ma_exc (k : Nat) (c : Str) (v : D) (S : Store) : (lev I0 k).ma c [v] S = .ok (.exc c v) S := by rw [lev_ma]; exact nr rfl
theorem created_ok (k : Nat) {S : Store} {v : D} (hv : low S.length v = true) : (lev I0 (k + 1)).fn "_law_created" [v] S = .ok (.lst (nms.map fun c => .exc c v)) S := by
  rw [fn_created, runD_fin rfl rfl]
  have e1 : startE d_law_created.N [v] = [some v, none] := rfl
  rw [e1]
  unfold d_law_created
  simp only [exSs_cons, exSs_nil, exS_set, exS_par, exS_put, exS_expr, exS_ret, exS_retN, exS_ife, exS_pas, ev_var, ev_con, ev_lst, ev_tup, ev_bin, ev_neg, ev_not, ev_bop, ev_cmp, ev_cmp2, ev_ite, ev_idx, ev_fld, ev_fn, ev_mk, ev_bi, ev_isi, ev_mb, ev_lrg, ev_dic, evs_nil, evs_cons, evT_val, evT_not, evT_bop, evT_cmp, evT_cmp2, evB_one, evB_cons, evBT_one, evBT_cons, evA_nil, evA_one, ev_lc, a_lc, evI_val, evI_rng, evI_enu, exS_for, a_for, srcV_lst, srcV_tup, srcE_lst, forBody_1, forBody_2, forBody_3, sats_nx, sats_rt, sat_ok, tru_bl, a_op, a_bin, a_un, a_bi, a_not2, a_not, a_lst, a_tup, a_b, a_c2, a_c2a, a_c2t, a_c2f, a_ite, a_me, a_mb, a_lrg, a_dic0, a_dic1, a_cons2, a_cons, a_app, a_tru, a_notT, a_bl, a_ct, a_cta, a_c2T, a_c2Ta, a_c2Tt, a_c2Tf, a_bt, a_set, a_par2, a_par, a_put3, a_put2, a_put, a_expr, a_ret, a_ife, bind_ok, st_ok, seq_nx, seq_rt, res_nx, res_rt, of_some, if_true, if_false, Bool.false_eq_true, Bool.true_eq_false, Bool.not_true, Bool.not_false, List.getElem?_cons_zero, List.getElem?_cons_succ, List.set, add_lst, add_tup, List.cons_append, List.nil_append, isTe_app, isTa_app, ext_app, app_app, add_app, bin_add, bin_sub, bin_mul, bin_div, bin_mod, bin_pow, resL_f, resL_t, resK_f, resK_t, biF_len, biF_abs, biF_int, biF_max, biF_min, biF_repr, biF_all, biF_any, biF_list, add_i, sub_i, lt_i, le_i, gt_i, ge_i, eq_i, ne_i, eq_s, ne_s, int_i, int_b, abs_i, le_size, lt_size, Nat.reduceAdd, Nat.reduceLeDiff, Nat.reduceLT, List.length_cons, List.length_nil, len_lst, len_tup, idx_lst, idx_tup, atI_nat, ma_exc]
  exact fin_app (d := .lst (nms.map fun c => .exc c v)) (lows_map fun c _ => hv)
theorem isi_exc (k : Nat) {c x : Str} {v : D} {S : Store} (hc : c ∈ cls0) : isiF (lev I0 k) x (.exc c v) S = some (.bl (isi0 c x), S) := by
  unfold isiF
  dsimp only
  rw [if_pos (by rw [lev_xcs]; exact hc), lev_isi]
  rfl
theorem kinds_ok (k : Nat) {S : Store} {c : Str} {v : D} (hc : c ∈ cls0) : (lev I0 (k + 1)).fn "_law_kinds" [.exc c v] S = .ok (.lst ((nms.map (isi0 c)).map D.bl)) S := by
  rw [fn_kinds, runD_fin rfl rfl]
  have e1 : startE d_law_kinds.N [.exc c v] = [some (.exc c v), none] := rfl
  rw [e1]
  unfold d_law_kinds
  simp only [exSs_cons, exSs_nil, exS_set, exS_par, exS_put, exS_expr, exS_ret, exS_retN, exS_ife, exS_pas, ev_var, ev_con, ev_lst, ev_tup, ev_bin, ev_neg, ev_not, ev_bop, ev_cmp, ev_cmp2, ev_ite, ev_idx, ev_fld, ev_fn, ev_mk, ev_bi, ev_isi, ev_mb, ev_lrg, ev_dic, evs_nil, evs_cons, evT_val, evT_not, evT_bop, evT_cmp, evT_cmp2, evB_one, evB_cons, evBT_one, evBT_cons, evA_nil, evA_one, ev_lc, a_lc, evI_val, evI_rng, evI_enu, exS_for, a_for, srcV_lst, srcV_tup, srcE_lst, forBody_1, forBody_2, forBody_3, sats_nx, sats_rt, sat_ok, tru_bl, a_op, a_bin, a_un, a_bi, a_not2, a_not, a_lst, a_tup, a_b, a_c2, a_c2a, a_c2t, a_c2f, a_ite, a_me, a_mb, a_lrg, a_dic0, a_dic1, a_cons2, a_cons, a_app, a_tru, a_notT, a_bl, a_ct, a_cta, a_c2T, a_c2Ta, a_c2Tt, a_c2Tf, a_bt, a_set, a_par2, a_par, a_put3, a_put2, a_put, a_expr, a_ret, a_ife, bind_ok, st_ok, seq_nx, seq_rt, res_nx, res_rt, of_some, if_true, if_false, Bool.false_eq_true, Bool.true_eq_false, Bool.not_true, Bool.not_false, List.getElem?_cons_zero, List.getElem?_cons_succ, List.set, add_lst, add_tup, List.cons_append, List.nil_append, isTe_app, isTa_app, ext_app, app_app, add_app, bin_add, bin_sub, bin_mul, bin_div, bin_mod, bin_pow, resL_f, resL_t, resK_f, resK_t, biF_len, biF_abs, biF_int, biF_max, biF_min, biF_repr, biF_all, biF_any, biF_list, add_i, sub_i, lt_i, le_i, gt_i, ge_i, eq_i, ne_i, eq_s, ne_s, int_i, int_b, abs_i, le_size, lt_size, Nat.reduceAdd, Nat.reduceLeDiff, Nat.reduceLT, List.length_cons, List.length_nil, len_lst, len_tup, idx_lst, idx_tup, atI_nat, isi_exc k hc]
  exact fin_app (d := .lst ((nms.map (isi0 c)).map D.bl)) (lows_map fun c _ => rfl)
def isVal (v : D) : Prop := v ∈ odds ∨ (∃ d e, d ∈ odds ∧ e ∈ odds ∧ v = .tup [d, .lst [e]]) ∨ ∃ d, d ∈ odds ∧ v = .dk [.inr "a"] [d]
theorem shows_odds : ∀ d ∈ odds, shows d = true := by decide +kernel
theorem shows_two : ∀ d ∈ odds, ∀ e ∈ odds, shows (.tup [d, .lst [e]]) = true := by decide +kernel
theorem shows_dk : ∀ d ∈ odds, shows (.dk [.inr "a"] [d]) = true := by decide +kernel
theorem isVal.shows {v : D} (h : isVal v) : shows v = true := by
  rcases h with h | ⟨d, e, h1, h2, rfl⟩ | ⟨d, h, rfl⟩
  · exact shows_odds v h
  · exact shows_two d h1 e h2
  · exact shows_dk d h
theorem kinds_at : ∀ i, i < 30 → ∀ c, nms[i]? = some c → nms.map (isi0 c) = (List.range 30).map (fun j => j == i) := by decide +kernel
theorem nms_len : nms.length = 30 := by decide +kernel
theorem kinds_top : (nms.map (isi0 "HallError")).any id = false := by decide +kernel
theorem isi_all : ∀ c ∈ cls0, isi0 c "HallError" = true ∧ isi0 c "ValueError" = true := by decide +kernel
theorem fld_val (k : Nat) {c : Str} {v : D} {S : Store} (hc : c ∈ cls0) : fldF (lev I0 k) "value" (.exc c v) S = some (v, S) := by
  unfold fldF
  dsimp only
  rw [if_pos ⟨rfl, by rw [lev_xcs]; exact hc⟩]
theorem num_ok (G : Gl0) (i : Nat) {ρ : Env} {S : Store} (h4 : ρ[4]? = some (some (.int i))) (h6 : 6 < ρ.length) :
    lcRun (fun _ => True) (lcBody ([(("_law_number" : Str), 6)].map (·.2)) (asgT (.name 6)) (evA G .nil) (ev G (.cmp .Eq (.var 6) (.var 4))) ρ) ((List.range 30).map fun (j : Nat) => D.int (j : Int)) [] S = .ok (((List.range 30).map fun j => j == i).map D.bl) S := by
  rw [List.map_map]
  refine lc_map (List.range 30) trivial (fun j _ => lcBody_pure (by simp only [exSs_cons, exSs_nil, exS_set, exS_par, exS_put, exS_expr, exS_ret, exS_retN, exS_ife, exS_pas, ev_var, ev_con, ev_lst, ev_tup, ev_bin, ev_neg, ev_not, ev_bop, ev_cmp, ev_cmp2, ev_ite, ev_idx, ev_fld, ev_fn, ev_mk, ev_bi, ev_isi, ev_mb, ev_lrg, ev_dic, evs_nil, evs_cons, evT_val, evT_not, evT_bop, evT_cmp, evT_cmp2, evB_one, evB_cons, evBT_one, evBT_cons, evA_nil, evA_one, ev_lc, a_lc, evI_val, evI_rng, evI_enu, exS_for, a_for, srcV_lst, srcV_tup, srcE_lst, forBody_1, forBody_2, forBody_3, sats_nx, sats_rt, sat_ok, tru_bl, a_op, a_bin, a_un, a_bi, a_not2, a_not, a_lst, a_tup, a_b, a_c2, a_c2a, a_c2t, a_c2f, a_ite, a_me, a_mb, a_lrg, a_dic0, a_dic1, a_cons2, a_cons, a_app, a_tru, a_notT, a_bl, a_ct, a_cta, a_c2T, a_c2Ta, a_c2Tt, a_c2Tf, a_bt, a_set, a_par2, a_par, a_put3, a_put2, a_put, a_expr, a_ret, a_ife, bind_ok, st_ok, seq_nx, seq_rt, res_nx, res_rt, of_some, if_true, if_false, Bool.false_eq_true, Bool.true_eq_false, Bool.not_true, Bool.not_false, List.getElem?_cons_zero, List.getElem?_cons_succ, List.set, add_lst, add_tup, List.cons_append, List.nil_append, isTe_app, isTa_app, ext_app, app_app, add_app, bin_add, bin_sub, bin_mul, bin_div, bin_mod, bin_pow, resL_f, resL_t, resK_f, resK_t, biF_len, biF_abs, biF_int, biF_max, biF_min, biF_repr, biF_all, biF_any, biF_list, add_i, sub_i, lt_i, le_i, gt_i, ge_i, eq_i, ne_i, eq_s, ne_s, int_i, int_b, abs_i, le_size, lt_size, Nat.reduceAdd, Nat.reduceLeDiff, Nat.reduceLT, List.length_cons, List.length_nil, len_lst, len_tup, idx_lst, idx_tup, atI_nat]) ?_) (by simp)
  have e1 : ((wipeE ρ [6]).set 6 (some (.int (j : Int))))[6]? = some (some (.int (j : Int))) := by
    simp only [wipeE]
    rw [List.getElem?_set_self (by simpa using h6)]
  have e2 : ((wipeE ρ [6]).set 6 (some (.int (j : Int))))[4]? = some (some (.int i)) := by
    simp only [wipeE]
    rw [List.getElem?_set_ne (by decide), List.getElem?_set_ne (by decide), h4]
  simp only [List.map] at e1 e2 ⊢
  simp only [exSs_cons, exSs_nil, exS_set, exS_par, exS_put, exS_expr, exS_ret, exS_retN, exS_ife, exS_pas, ev_var, ev_con, ev_lst, ev_tup, ev_bin, ev_neg, ev_not, ev_bop, ev_cmp, ev_cmp2, ev_ite, ev_idx, ev_fld, ev_fn, ev_mk, ev_bi, ev_isi, ev_mb, ev_lrg, ev_dic, evs_nil, evs_cons, evT_val, evT_not, evT_bop, evT_cmp, evT_cmp2, evB_one, evB_cons, evBT_one, evBT_cons, evA_nil, evA_one, ev_lc, a_lc, evI_val, evI_rng, evI_enu, exS_for, a_for, srcV_lst, srcV_tup, srcE_lst, forBody_1, forBody_2, forBody_3, sats_nx, sats_rt, sat_ok, tru_bl, a_op, a_bin, a_un, a_bi, a_not2, a_not, a_lst, a_tup, a_b, a_c2, a_c2a, a_c2t, a_c2f, a_ite, a_me, a_mb, a_lrg, a_dic0, a_dic1, a_cons2, a_cons, a_app, a_tru, a_notT, a_bl, a_ct, a_cta, a_c2T, a_c2Ta, a_c2Tt, a_c2Tf, a_bt, a_set, a_par2, a_par, a_put3, a_put2, a_put, a_expr, a_ret, a_ife, bind_ok, st_ok, seq_nx, seq_rt, res_nx, res_rt, of_some, if_true, if_false, Bool.false_eq_true, Bool.true_eq_false, Bool.not_true, Bool.not_false, List.getElem?_cons_zero, List.getElem?_cons_succ, List.set, add_lst, add_tup, List.cons_append, List.nil_append, isTe_app, isTa_app, ext_app, app_app, add_app, bin_add, bin_sub, bin_mul, bin_div, bin_mod, bin_pow, resL_f, resL_t, resK_f, resK_t, biF_len, biF_abs, biF_int, biF_max, biF_min, biF_repr, biF_all, biF_any, biF_list, add_i, sub_i, lt_i, le_i, gt_i, ge_i, eq_i, ne_i, eq_s, ne_s, int_i, int_b, abs_i, le_size, lt_size, Nat.reduceAdd, Nat.reduceLeDiff, Nat.reduceLT, List.length_cons, List.length_nil, len_lst, len_tup, idx_lst, idx_tup, atI_nat, e1, e2]
  show Res.ok (D.bl ((j : Int) == (i : Int))) S = Res.ok (D.bl (j == i)) S
  congr 2
  rw [Bool.eq_iff_iff]
  simp only [beq_iff_eq]
  exact Int.ofNat_inj
theorem enum_get {xs : List D} {i : Nat} {d : D} (h : (enumFrom 0 xs)[i]? = some d) : ∃ x, xs[i]? = some x ∧ d = .tup [.int i, x] := by
  rw [enumFrom_get] at h
  cases e : xs[i]? with
  | none => rw [e] at h; cases h
  | some x =>
    rw [e] at h
    cases h
    exact ⟨x, rfl, by simp⟩
theorem right_ok (k : Nat) {S : Store} {a : Nat} (P : Pot S a 0) : Sat ((lev I0 (k + 5)).fn "_law_right" [.obj a] S) fun d _ => d = .bl true := by
  rw [fn_right, runD_fin rfl rfl]
  have e1 : startE d_law_right.N [.obj a] = [some (.obj a), none, none, none, none, none, none] := rfl
  rw [e1]
  unfold d_law_right
  refine Sat.fin (SatS.res ?_)
  rw [exSs_cons]
  simp only [exSs_cons, exSs_nil, exS_set, exS_par, exS_put, exS_expr, exS_ret, exS_retN, exS_ife, exS_pas, ev_var, ev_con, ev_lst, ev_tup, ev_bin, ev_neg, ev_not, ev_bop, ev_cmp, ev_cmp2, ev_ite, ev_idx, ev_fld, ev_fn, ev_mk, ev_bi, ev_isi, ev_mb, ev_lrg, ev_dic, evs_nil, evs_cons, evT_val, evT_not, evT_bop, evT_cmp, evT_cmp2, evB_one, evB_cons, evBT_one, evBT_cons, evA_nil, evA_one, ev_lc, a_lc, evI_val, evI_rng, evI_enu, exS_for, a_for, srcV_lst, srcV_tup, srcE_lst, forBody_1, forBody_2, forBody_3, sats_nx, sats_rt, sat_ok, tru_bl, a_op, a_bin, a_un, a_bi, a_not2, a_not, a_lst, a_tup, a_b, a_c2, a_c2a, a_c2t, a_c2f, a_ite, a_me, a_mb, a_lrg, a_dic0, a_dic1, a_cons2, a_cons, a_app, a_tru, a_notT, a_bl, a_ct, a_cta, a_c2T, a_c2Ta, a_c2Tt, a_c2Tf, a_bt, a_set, a_par2, a_par, a_put3, a_put2, a_put, a_expr, a_ret, a_ife, bind_ok, st_ok, seq_nx, seq_rt, res_nx, res_rt, of_some, if_true, if_false, Bool.false_eq_true, Bool.true_eq_false, Bool.not_true, Bool.not_false, List.getElem?_cons_zero, List.getElem?_cons_succ, List.set, add_lst, add_tup, List.cons_append, List.nil_append, isTe_app, isTa_app, ext_app, app_app, add_app, bin_add, bin_sub, bin_mul, bin_div, bin_mod, bin_pow, resL_f, resL_t, resK_f, resK_t, biF_len, biF_abs, biF_int, biF_max, biF_min, biF_repr, biF_all, biF_any, biF_list, add_i, sub_i, lt_i, le_i, gt_i, ge_i, eq_i, ne_i, eq_s, ne_s, int_i, int_b, abs_i, le_size, lt_size, Nat.reduceAdd, Nat.reduceLeDiff, Nat.reduceLT, List.length_cons, List.length_nil, len_lst, len_tup, idx_lst, idx_tup, atI_nat]
  refine SatS.seq (SatS.st (odd_ok (k + 1) P (by decide) fun x S1 hx hL1 hP1 => ?_))
  simp only [exSs_cons, exSs_nil, exS_set, exS_par, exS_put, exS_expr, exS_ret, exS_retN, exS_ife, exS_pas, ev_var, ev_con, ev_lst, ev_tup, ev_bin, ev_neg, ev_not, ev_bop, ev_cmp, ev_cmp2, ev_ite, ev_idx, ev_fld, ev_fn, ev_mk, ev_bi, ev_isi, ev_mb, ev_lrg, ev_dic, evs_nil, evs_cons, evT_val, evT_not, evT_bop, evT_cmp, evT_cmp2, evB_one, evB_cons, evBT_one, evBT_cons, evA_nil, evA_one, ev_lc, a_lc, evI_val, evI_rng, evI_enu, exS_for, a_for, srcV_lst, srcV_tup, srcE_lst, forBody_1, forBody_2, forBody_3, sats_nx, sats_rt, sat_ok, tru_bl, a_op, a_bin, a_un, a_bi, a_not2, a_not, a_lst, a_tup, a_b, a_c2, a_c2a, a_c2t, a_c2f, a_ite, a_me, a_mb, a_lrg, a_dic0, a_dic1, a_cons2, a_cons, a_app, a_tru, a_notT, a_bl, a_ct, a_cta, a_c2T, a_c2Ta, a_c2Tt, a_c2Tf, a_bt, a_set, a_par2, a_par, a_put3, a_put2, a_put, a_expr, a_ret, a_ife, bind_ok, st_ok, seq_nx, seq_rt, res_nx, res_rt, of_some, if_true, if_false, Bool.false_eq_true, Bool.true_eq_false, Bool.not_true, Bool.not_false, List.getElem?_cons_zero, List.getElem?_cons_succ, List.set, add_lst, add_tup, List.cons_append, List.nil_append, isTe_app, isTa_app, ext_app, app_app, add_app, bin_add, bin_sub, bin_mul, bin_div, bin_mod, bin_pow, resL_f, resL_t, resK_f, resK_t, biF_len, biF_abs, biF_int, biF_max, biF_min, biF_repr, biF_all, biF_any, biF_list, add_i, sub_i, lt_i, le_i, gt_i, ge_i, eq_i, ne_i, eq_s, ne_s, int_i, int_b, abs_i, le_size, lt_size, Nat.reduceAdd, Nat.reduceLeDiff, Nat.reduceLT, List.length_cons, List.length_nil, len_lst, len_tup, idx_lst, idx_tup, atI_nat]
  refine SatS.seq (SatS.st ?_)
  repeat refine Sat.bind ?_
  refine odd_ok (k + 1) hP1 (by decide) fun y S2 hy hL2 hP2 => ?_
  simp only [exSs_cons, exSs_nil, exS_set, exS_par, exS_put, exS_expr, exS_ret, exS_retN, exS_ife, exS_pas, ev_var, ev_con, ev_lst, ev_tup, ev_bin, ev_neg, ev_not, ev_bop, ev_cmp, ev_cmp2, ev_ite, ev_idx, ev_fld, ev_fn, ev_mk, ev_bi, ev_isi, ev_mb, ev_lrg, ev_dic, evs_nil, evs_cons, evT_val, evT_not, evT_bop, evT_cmp, evT_cmp2, evB_one, evB_cons, evBT_one, evBT_cons, evA_nil, evA_one, ev_lc, a_lc, evI_val, evI_rng, evI_enu, exS_for, a_for, srcV_lst, srcV_tup, srcE_lst, forBody_1, forBody_2, forBody_3, sats_nx, sats_rt, sat_ok, tru_bl, a_op, a_bin, a_un, a_bi, a_not2, a_not, a_lst, a_tup, a_b, a_c2, a_c2a, a_c2t, a_c2f, a_ite, a_me, a_mb, a_lrg, a_dic0, a_dic1, a_cons2, a_cons, a_app, a_tru, a_notT, a_bl, a_ct, a_cta, a_c2T, a_c2Ta, a_c2Tt, a_c2Tf, a_bt, a_set, a_par2, a_par, a_put3, a_put2, a_put, a_expr, a_ret, a_ife, bind_ok, st_ok, seq_nx, seq_rt, res_nx, res_rt, of_some, if_true, if_false, Bool.false_eq_true, Bool.true_eq_false, Bool.not_true, Bool.not_false, List.getElem?_cons_zero, List.getElem?_cons_succ, List.set, add_lst, add_tup, List.cons_append, List.nil_append, isTe_app, isTa_app, ext_app, app_app, add_app, bin_add, bin_sub, bin_mul, bin_div, bin_mod, bin_pow, resL_f, resL_t, resK_f, resK_t, biF_len, biF_abs, biF_int, biF_max, biF_min, biF_repr, biF_all, biF_any, biF_list, add_i, sub_i, lt_i, le_i, gt_i, ge_i, eq_i, ne_i, eq_s, ne_s, int_i, int_b, abs_i, le_size, lt_size, Nat.reduceAdd, Nat.reduceLeDiff, Nat.reduceLT, List.length_cons, List.length_nil, len_lst, len_tup, idx_lst, idx_tup, atI_nat]
  have lx := fun n => low_mono (Nat.zero_le n) _ (low_odds x hx)
  have ly := fun n => low_mono (Nat.zero_le n) _ (low_odds y hy)
  refine of_ok (k + 2) hP2 (by decide) (by simp) (by simp) (by simp [lows, low, lx, ly]) fun v S3 hv hL3 hP3 => ?_
  have hV : isVal v := by
    simp only [List.mem_cons, List.not_mem_nil, or_false] at hv
    rcases hv with rfl | rfl | rfl
    · exact .inl hx
    · exact .inr (.inl ⟨x, y, hx, hy, rfl⟩)
    · exact .inr (.inr ⟨x, hx, rfl⟩)
  obtain ⟨hv0, z, hz⟩ := shows_repr hV.shows
  have hcut : Cuts S S3 := ((hL1.trans hL2).trans hL3).gro.cut hP3 P.lt |>.1
  rw [created_ok (k + 3) (low_mono (Nat.zero_le _) _ hv0)]
  simp only [exSs_cons, exSs_nil, exS_set, exS_par, exS_put, exS_expr, exS_ret, exS_retN, exS_ife, exS_pas, ev_var, ev_con, ev_lst, ev_tup, ev_bin, ev_neg, ev_not, ev_bop, ev_cmp, ev_cmp2, ev_ite, ev_idx, ev_fld, ev_fn, ev_mk, ev_bi, ev_isi, ev_mb, ev_lrg, ev_dic, evs_nil, evs_cons, evT_val, evT_not, evT_bop, evT_cmp, evT_cmp2, evB_one, evB_cons, evBT_one, evBT_cons, evA_nil, evA_one, ev_lc, a_lc, evI_val, evI_rng, evI_enu, exS_for, a_for, srcV_lst, srcV_tup, srcE_lst, forBody_1, forBody_2, forBody_3, sats_nx, sats_rt, sat_ok, tru_bl, a_op, a_bin, a_un, a_bi, a_not2, a_not, a_lst, a_tup, a_b, a_c2, a_c2a, a_c2t, a_c2f, a_ite, a_me, a_mb, a_lrg, a_dic0, a_dic1, a_cons2, a_cons, a_app, a_tru, a_notT, a_bl, a_ct, a_cta, a_c2T, a_c2Ta, a_c2Tt, a_c2Tf, a_bt, a_set, a_par2, a_par, a_put3, a_put2, a_put, a_expr, a_ret, a_ife, bind_ok, st_ok, seq_nx, seq_rt, res_nx, res_rt, of_some, if_true, if_false, Bool.false_eq_true, Bool.true_eq_false, Bool.not_true, Bool.not_false, List.getElem?_cons_zero, List.getElem?_cons_succ, List.set, add_lst, add_tup, List.cons_append, List.nil_append, isTe_app, isTa_app, ext_app, app_app, add_app, bin_add, bin_sub, bin_mul, bin_div, bin_mod, bin_pow, resL_f, resL_t, resK_f, resK_t, biF_len, biF_abs, biF_int, biF_max, biF_min, biF_repr, biF_all, biF_any, biF_list, add_i, sub_i, lt_i, le_i, gt_i, ge_i, eq_i, ne_i, eq_s, ne_s, int_i, int_b, abs_i, le_size, lt_size, Nat.reduceAdd, Nat.reduceLeDiff, Nat.reduceLT, List.length_cons, List.length_nil, len_lst, len_tup, idx_lst, idx_tup, atI_nat]
  refine SatS.seq (SatS.for (fun i ρ S' => ∃ p q, ρ = [some (.obj a), some x, some v, none, p, q, none] ∧ S' = S3) _ 0 _ S3 ⟨none, none, rfl, rfl⟩ ?_ ?_)
  · rintro j d ρ S' hd ⟨p, q, rfl, rfl⟩
    refine ⟨trivial, ?_⟩
    obtain ⟨one, ho, rfl⟩ := enum_get hd
    rw [List.getElem?_map] at ho
    cases hc : nms[j]? with
    | none => rw [hc] at ho; cases ho
    | some c =>
      rw [hc] at ho
      cases ho
      have hc2 : c ∈ cls0 := mem_nms c (List.mem_of_getElem? hc)
      have hj : j < 30 := by
        have := (List.getElem?_eq_some_iff.mp hc).1
        rw [nms_len] at this
        exact this
      have hk := kinds_at j hj c hc
      obtain ⟨i1, i2⟩ := isi_all c hc2
      have r30 : ∀ S, srcR (.int 30) S = .ok ⟨(List.range 30).map fun (i : Nat) => D.int (i : Int), fun _ => True⟩ S := fun S => srcR_n (n := 30) (by decide)
      simp only [r30, exSs_cons, exSs_nil, exS_set, exS_par, exS_put, exS_expr, exS_ret, exS_retN, exS_ife, exS_pas, ev_var, ev_con, ev_lst, ev_tup, ev_bin, ev_neg, ev_not, ev_bop, ev_cmp, ev_cmp2, ev_ite, ev_idx, ev_fld, ev_fn, ev_mk, ev_bi, ev_isi, ev_mb, ev_lrg, ev_dic, evs_nil, evs_cons, evT_val, evT_not, evT_bop, evT_cmp, evT_cmp2, evB_one, evB_cons, evBT_one, evBT_cons, evA_nil, evA_one, ev_lc, a_lc, evI_val, evI_rng, evI_enu, exS_for, a_for, srcV_lst, srcV_tup, srcE_lst, forBody_1, forBody_2, forBody_3, sats_nx, sats_rt, sat_ok, tru_bl, a_op, a_bin, a_un, a_bi, a_not2, a_not, a_lst, a_tup, a_b, a_c2, a_c2a, a_c2t, a_c2f, a_ite, a_me, a_mb, a_lrg, a_dic0, a_dic1, a_cons2, a_cons, a_app, a_tru, a_notT, a_bl, a_ct, a_cta, a_c2T, a_c2Ta, a_c2Tt, a_c2Tf, a_bt, a_set, a_par2, a_par, a_put3, a_put2, a_put, a_expr, a_ret, a_ife, bind_ok, st_ok, seq_nx, seq_rt, res_nx, res_rt, of_some, if_true, if_false, Bool.false_eq_true, Bool.true_eq_false, Bool.not_true, Bool.not_false, List.getElem?_cons_zero, List.getElem?_cons_succ, List.set, add_lst, add_tup, List.cons_append, List.nil_append, isTe_app, isTa_app, ext_app, app_app, add_app, bin_add, bin_sub, bin_mul, bin_div, bin_mod, bin_pow, resL_f, resL_t, resK_f, resK_t, biF_len, biF_abs, biF_int, biF_max, biF_min, biF_repr, biF_all, biF_any, biF_list, add_i, sub_i, lt_i, le_i, gt_i, ge_i, eq_i, ne_i, eq_s, ne_s, int_i, int_b, abs_i, le_size, lt_size, Nat.reduceAdd, Nat.reduceLeDiff, Nat.reduceLT, List.length_cons, List.length_nil, len_lst, len_tup, idx_lst, idx_tup, atI_nat, kinds_ok (k + 3) hc2, num_ok (lev I0 (k + 4)) j (ρ := [some (.obj a), some x, some v, none, some (.int j), some (.exc c v), none]) (S := S') rfl (by simp), ne_bools, hk, beq_self_eq_true,
        fld_val _ hc2, hz, isi_exc _ hc2, i1, i2, Bool.not_true]
      exact ⟨_, _, rfl, trivial⟩
  · rintro ρ S' ⟨p, q, rfl, rfl⟩
    refine ⟨trivial, ?_⟩
    have hc2 : ("HallError" : Str) ∈ cls0 := by decide +kernel
    obtain ⟨i1, i2⟩ := isi_all _ hc2
    simp only [exSs_cons, exSs_nil, exS_set, exS_par, exS_put, exS_expr, exS_ret, exS_retN, exS_ife, exS_pas, ev_var, ev_con, ev_lst, ev_tup, ev_bin, ev_neg, ev_not, ev_bop, ev_cmp, ev_cmp2, ev_ite, ev_idx, ev_fld, ev_fn, ev_mk, ev_bi, ev_isi, ev_mb, ev_lrg, ev_dic, evs_nil, evs_cons, evT_val, evT_not, evT_bop, evT_cmp, evT_cmp2, evB_one, evB_cons, evBT_one, evBT_cons, evA_nil, evA_one, ev_lc, a_lc, evI_val, evI_rng, evI_enu, exS_for, a_for, srcV_lst, srcV_tup, srcE_lst, forBody_1, forBody_2, forBody_3, sats_nx, sats_rt, sat_ok, tru_bl, a_op, a_bin, a_un, a_bi, a_not2, a_not, a_lst, a_tup, a_b, a_c2, a_c2a, a_c2t, a_c2f, a_ite, a_me, a_mb, a_lrg, a_dic0, a_dic1, a_cons2, a_cons, a_app, a_tru, a_notT, a_bl, a_ct, a_cta, a_c2T, a_c2Ta, a_c2Tt, a_c2Tf, a_bt, a_set, a_par2, a_par, a_put3, a_put2, a_put, a_expr, a_ret, a_ife, bind_ok, st_ok, seq_nx, seq_rt, res_nx, res_rt, of_some, if_true, if_false, Bool.false_eq_true, Bool.true_eq_false, Bool.not_true, Bool.not_false, List.getElem?_cons_zero, List.getElem?_cons_succ, List.set, add_lst, add_tup, List.cons_append, List.nil_append, isTe_app, isTa_app, ext_app, app_app, add_app, bin_add, bin_sub, bin_mul, bin_div, bin_mod, bin_pow, resL_f, resL_t, resK_f, resK_t, biF_len, biF_abs, biF_int, biF_max, biF_min, biF_repr, biF_all, biF_any, biF_list, add_i, sub_i, lt_i, le_i, gt_i, ge_i, eq_i, ne_i, eq_s, ne_s, int_i, int_b, abs_i, le_size, lt_size, Nat.reduceAdd, Nat.reduceLeDiff, Nat.reduceLT, List.length_cons, List.length_nil, len_lst, len_tup, idx_lst, idx_tup, atI_nat, ma_exc, kinds_ok (k + 3) hc2, biAny_bools, kinds_top, fld_val _ hc2, hz, isi_exc _ hc2, i1, i2, Bool.not_false, beq_self_eq_true]
    exact ⟨hcut, _, frz_low rfl, rfl⟩
theorem told : ∀ ns : List Int, ns.length ≤ 63 → ∃ S, (lev I0 17).fn "law" [.lst (ns.map .int)] [] = .ok (.bl true) S := by
  intro ns hl
  suffices h : Sat ((lev I0 17).fn "law" [.lst (ns.map .int)] []) fun d _ => d = .bl true by
    obtain ⟨d, S, h1, h2⟩ := h.ex
    exact ⟨S, by rw [h1, h2]⟩
  rw [fn_law, runD_fin rfl rfl]
  have e1 : startE dlaw.N [.lst (ns.map .int)] = [some (.lst (ns.map .int)), none] := rfl
  rw [e1]
  unfold dlaw
  refine Sat.fin (SatS.res ?_)
  obtain ⟨m, hm, hc⟩ := cells_ok 15 ns [] hl
  simp only [exSs_cons, exSs_nil, exS_set, exS_par, exS_put, exS_expr, exS_ret, exS_retN, exS_ife, exS_pas, ev_var, ev_con, ev_lst, ev_tup, ev_bin, ev_neg, ev_not, ev_bop, ev_cmp, ev_cmp2, ev_ite, ev_idx, ev_fld, ev_fn, ev_mk, ev_bi, ev_isi, ev_mb, ev_lrg, ev_dic, evs_nil, evs_cons, evT_val, evT_not, evT_bop, evT_cmp, evT_cmp2, evB_one, evB_cons, evBT_one, evBT_cons, evA_nil, evA_one, ev_lc, a_lc, evI_val, evI_rng, evI_enu, exS_for, a_for, srcV_lst, srcV_tup, srcE_lst, forBody_1, forBody_2, forBody_3, sats_nx, sats_rt, sat_ok, tru_bl, a_op, a_bin, a_un, a_bi, a_not2, a_not, a_lst, a_tup, a_b, a_c2, a_c2a, a_c2t, a_c2f, a_ite, a_me, a_mb, a_lrg, a_dic0, a_dic1, a_cons2, a_cons, a_app, a_tru, a_notT, a_bl, a_ct, a_cta, a_c2T, a_c2Ta, a_c2Tt, a_c2Tf, a_bt, a_set, a_par2, a_par, a_put3, a_put2, a_put, a_expr, a_ret, a_ife, bind_ok, st_ok, seq_nx, seq_rt, res_nx, res_rt, of_some, if_true, if_false, Bool.false_eq_true, Bool.true_eq_false, Bool.not_true, Bool.not_false, List.getElem?_cons_zero, List.getElem?_cons_succ, List.set, add_lst, add_tup, List.cons_append, List.nil_append, isTe_app, isTa_app, ext_app, app_app, add_app, bin_add, bin_sub, bin_mul, bin_div, bin_mod, bin_pow, resL_f, resL_t, resK_f, resK_t, biF_len, biF_abs, biF_int, biF_max, biF_min, biF_repr, biF_all, biF_any, biF_list, add_i, sub_i, lt_i, le_i, gt_i, ge_i, eq_i, ne_i, eq_s, ne_s, int_i, int_b, abs_i, le_size, lt_size, Nat.reduceAdd, Nat.reduceLeDiff, Nat.reduceLT, List.length_cons, List.length_nil, len_lst, len_tup, idx_lst, idx_tup, atI_nat, hc]
  refine SatS.seq (SatS.st ?_)
  repeat refine Sat.bind ?_
  refine Sat.lc (fun i acc S => acc = (List.replicate i true).map D.bl ∧ i ≤ m) _ 0 [] [] ⟨rfl, Nat.zero_le _⟩ ?_ ?_
  · rintro j d acc S hd ⟨rfl, hi⟩
    refine ⟨trivial, ?_⟩
    rw [List.getElem?_map] at hd
    by_cases hj : j < m
    · rw [List.getElem?_range hj] at hd
      cases hd
      obtain ⟨o, s, hp, hpot⟩ := pot_ok 15 j (by omega) ns S
      refine Sat.lcBody ?_
      simp only [List.map, wipeE, exSs_cons, exSs_nil, exS_set, exS_par, exS_put, exS_expr, exS_ret, exS_retN, exS_ife, exS_pas, ev_var, ev_con, ev_lst, ev_tup, ev_bin, ev_neg, ev_not, ev_bop, ev_cmp, ev_cmp2, ev_ite, ev_idx, ev_fld, ev_fn, ev_mk, ev_bi, ev_isi, ev_mb, ev_lrg, ev_dic, evs_nil, evs_cons, evT_val, evT_not, evT_bop, evT_cmp, evT_cmp2, evB_one, evB_cons, evBT_one, evBT_cons, evA_nil, evA_one, ev_lc, a_lc, evI_val, evI_rng, evI_enu, exS_for, a_for, srcV_lst, srcV_tup, srcE_lst, forBody_1, forBody_2, forBody_3, sats_nx, sats_rt, sat_ok, tru_bl, a_op, a_bin, a_un, a_bi, a_not2, a_not, a_lst, a_tup, a_b, a_c2, a_c2a, a_c2t, a_c2f, a_ite, a_me, a_mb, a_lrg, a_dic0, a_dic1, a_cons2, a_cons, a_app, a_tru, a_notT, a_bl, a_ct, a_cta, a_c2T, a_c2Ta, a_c2Tt, a_c2Tf, a_bt, a_set, a_par2, a_par, a_put3, a_put2, a_put, a_expr, a_ret, a_ife, bind_ok, st_ok, seq_nx, seq_rt, res_nx, res_rt, of_some, if_true, if_false, Bool.false_eq_true, Bool.true_eq_false, Bool.not_true, Bool.not_false, List.getElem?_cons_zero, List.getElem?_cons_succ, List.set, add_lst, add_tup, List.cons_append, List.nil_append, isTe_app, isTa_app, ext_app, app_app, add_app, bin_add, bin_sub, bin_mul, bin_div, bin_mod, bin_pow, resL_f, resL_t, resK_f, resK_t, biF_len, biF_abs, biF_int, biF_max, biF_min, biF_repr, biF_all, biF_any, biF_list, add_i, sub_i, lt_i, le_i, gt_i, ge_i, eq_i, ne_i, eq_s, ne_s, int_i, int_b, abs_i, le_size, lt_size, Nat.reduceAdd, Nat.reduceLeDiff, Nat.reduceLT, List.length_cons, List.length_nil, len_lst, len_tup, idx_lst, idx_tup, atI_nat, hpot]
      refine (right_ok 11 hp.pot).mono ?_
      rintro y S' rfl
      refine ⟨by simp; rw [sizeLine_eq]; omega, ?_, by omega⟩
      rw [Nat.zero_add, List.replicate_succ', List.map_append]
      rfl
    · rw [List.getElem?_eq_none (by simpa using hj)] at hd
      cases hd
  · rintro acc S ⟨rfl, hi⟩
    refine ⟨trivial, ?_⟩
    simp only [exSs_cons, exSs_nil, exS_set, exS_par, exS_put, exS_expr, exS_ret, exS_retN, exS_ife, exS_pas, ev_var, ev_con, ev_lst, ev_tup, ev_bin, ev_neg, ev_not, ev_bop, ev_cmp, ev_cmp2, ev_ite, ev_idx, ev_fld, ev_fn, ev_mk, ev_bi, ev_isi, ev_mb, ev_lrg, ev_dic, evs_nil, evs_cons, evT_val, evT_not, evT_bop, evT_cmp, evT_cmp2, evB_one, evB_cons, evBT_one, evBT_cons, evA_nil, evA_one, ev_lc, a_lc, evI_val, evI_rng, evI_enu, exS_for, a_for, srcV_lst, srcV_tup, srcE_lst, forBody_1, forBody_2, forBody_3, sats_nx, sats_rt, sat_ok, tru_bl, a_op, a_bin, a_un, a_bi, a_not2, a_not, a_lst, a_tup, a_b, a_c2, a_c2a, a_c2t, a_c2f, a_ite, a_me, a_mb, a_lrg, a_dic0, a_dic1, a_cons2, a_cons, a_app, a_tru, a_notT, a_bl, a_ct, a_cta, a_c2T, a_c2Ta, a_c2Tt, a_c2Tf, a_bt, a_set, a_par2, a_par, a_put3, a_put2, a_put, a_expr, a_ret, a_ife, bind_ok, st_ok, seq_nx, seq_rt, res_nx, res_rt, of_some, if_true, if_false, Bool.false_eq_true, Bool.true_eq_false, Bool.not_true, Bool.not_false, List.getElem?_cons_zero, List.getElem?_cons_succ, List.set, add_lst, add_tup, List.cons_append, List.nil_append, isTe_app, isTa_app, ext_app, app_app, add_app, bin_add, bin_sub, bin_mul, bin_div, bin_mod, bin_pow, resL_f, resL_t, resK_f, resK_t, biF_len, biF_abs, biF_int, biF_max, biF_min, biF_repr, biF_all, biF_any, biF_list, add_i, sub_i, lt_i, le_i, gt_i, ge_i, eq_i, ne_i, eq_s, ne_s, int_i, int_b, abs_i, le_size, lt_size, Nat.reduceAdd, Nat.reduceLeDiff, Nat.reduceLT, List.length_cons, List.length_nil, len_lst, len_tup, idx_lst, idx_tup, atI_nat, biAll_bools]
    refine ⟨⟨Nat.zero_le _, fun i c h => absurd h (Nat.not_lt_zero i)⟩, _, frz_low rfl, ?_⟩
    congr 1
    simp
end La
end Tu
end L2
open PySem PySem.W PyProof.Rows
set_option maxRecDepth 100000 in
set_option maxHeartbeats 0 in
theorem PySem.Challenge.cw_turnaways_k00_errors_holds : PySem.Challenge.rw_turnaways_k00_errors.Holds := by
  w_on; o_law; x_head; (case hw => w_witness2)
  k_fill
  refine L2.Tu.walk_G (l := PySem.Challenge.rw_turnaways_k00_errors) (n := 63) (k := 20) (m := (L2.Tu.lev L2.Tu.La.I0 17).fn "law") rfl (by decide) rfl ⟨rfl, by decide, by decide⟩ rfl (fun w h Y => PySem.W.kIn_of Y) ?F L2.Tu.La.told
  case F =>
    intro w mg fa h KX G hmg
    refine' L2.Tu.La.prom KX G hmg ?e0 ?e1 ?e2 ?e3 ?e4 ?e5 ?e6 ?e7 ?e8 ?aD ?aI ?zI ?zc ?zi ?zn ?zs
    case e0 =>
      refine' L2.Tu.defK KX G ?a ?l ?c ?k (fun _ _ _ _ _ _ us hl => match us, hl with | [_, _], _ => rfl) (L2.Tu.La.scs _ (by simp [L2.Tu.La.dfs]))
      (case a => k_is); (case l => k_is); (case c => k_is); (case k => k_is)
    case e1 =>
      refine' L2.Tu.defK KX G ?a ?l ?c ?k (fun _ _ _ _ _ _ us hl => match us, hl with | [_, _], _ => rfl) (L2.Tu.La.scs _ (by simp [L2.Tu.La.dfs]))
      (case a => k_is); (case l => k_is); (case c => k_is); (case k => k_is)
    case e2 =>
      refine' L2.Tu.defK KX G ?a ?l ?c ?k (fun _ _ _ _ _ _ us hl => match us, hl with | [_, _], _ => rfl) (L2.Tu.La.scs _ (by simp [L2.Tu.La.dfs]))
      (case a => k_is); (case l => k_is); (case c => k_is); (case k => k_is)
    case e3 =>
      refine' L2.Tu.defK KX G ?a ?l ?c ?k (fun _ _ _ _ _ _ us hl => match us, hl with | [_, _], _ => rfl) (L2.Tu.La.scs _ (by simp [L2.Tu.La.dfs]))
      (case a => k_is); (case l => k_is); (case c => k_is); (case k => k_is)
    case e4 =>
      refine' L2.Tu.defK KX G ?a ?l ?c ?k (fun _ _ _ _ _ _ us hl => match us, hl with | [_], _ => rfl) (L2.Tu.La.scs _ (by simp [L2.Tu.La.dfs]))
      (case a => k_is); (case l => k_is); (case c => k_is); (case k => k_is)
    case e5 =>
      refine' L2.Tu.defK KX G ?a ?l ?c ?k (fun _ _ _ _ _ _ us hl => match us, hl with | [_], _ => rfl) (L2.Tu.La.scs _ (by simp [L2.Tu.La.dfs]))
      (case a => k_is); (case l => k_is); (case c => k_is); (case k => k_is)
    case e6 =>
      refine' L2.Tu.defK KX G ?a ?l ?c ?k (fun _ _ _ _ _ _ us hl => match us, hl with | [_], _ => rfl) (L2.Tu.La.scs _ (by simp [L2.Tu.La.dfs]))
      (case a => k_is); (case l => k_is); (case c => k_is); (case k => k_is)
    case e7 =>
      refine' L2.Tu.defK KX G ?a ?l ?c ?k (fun _ _ _ _ _ _ us hl => match us, hl with | [_], _ => rfl) (L2.Tu.La.scs _ (by simp [L2.Tu.La.dfs]))
      (case a => k_is); (case l => k_is); (case c => k_is); (case k => k_is)
    case e8 =>
      refine' L2.Tu.defK KX G ?a ?l ?c ?k (fun _ _ _ _ _ _ us hl => match us, hl with | [_], _ => rfl) (L2.Tu.La.scs _ (by simp [L2.Tu.La.dfs]))
      (case a => k_is); (case l => k_is); (case c => k_is); (case k => k_is)
    case aD => k_is
    case aI => k_is
    case zI =>
      refine' L2.Tu.hexI_of ?l (fun _ _ _ _ _ _ _ _ => .of_eq rfl) ?ty ?op ?c ⟨_, rfl, rfl⟩ L2.Tu.La.scpI
      (case l => k_is); (case ty => k_is); (case op => k_is); (case c => kernel_rfl)
    case zc => kernel_rfl
    case zi => kernel_rfl
    case zn => kernel_rfl
    case zs => kernel_rfl
