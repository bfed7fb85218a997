import PyProof.Rows.All
import Wide.All
import OpenK.AllK
import Wide.FinOn
import HandS.ForMost
import HandS.Exc
import HandS.ExcOwn
import HandS.TryOnly
import HandS.WordsExc
import HandS.CallSlots
import HandS.Flow
import HandS.IsInst
import HandS.TupAny
import HandS.More
import HandS.Zip
import HandS.Deep
import HandS.Style
import HandS.Defaults
import KE.KStateDown
import HandS.Head0
import HandS.Head1
import HandS.Head2
import HandS.HeadEnd
import HandS.HeadHook1
import HandS.HeadHook2
import PySem.Challenge.RW_allonge_k06_whole_one_bearer
set_option Elab.async false
set_option linter.all false
set_option maxRecDepth 100000
set_option maxHeartbeats 0
namespace Mn
open PySem L2

/-! ### data: tuples and frozen lists are values, mutable things are addresses -/
inductive D where
  | non | bl (b : Bool) | int (i : Int) | str (x : Str) | ty (n : String) | ref (a : Addr)
  | tup (xs : List D) | lst (xs : List D) | scr (ns : List Int)
inductive MO where
  | lst (xs : List D)
  | dct (kvs : List (Key × D))
  | ins (c : Str) (fs : List (Str × D))
abbrev Sto := Addr → Option MO
abbrev Env := List (Option D)
def put (S : Sto) (a : Addr) (o : MO) : Sto := fun b => if b = a then some o else S b
def rm (S : Sto) (a : Addr) : Sto := fun b => if b = a then none else S b
theorem put_same {S : Sto} {a : Addr} {o : MO} : put S a o a = some o := by unfold put; rw [if_pos rfl]
theorem put_ne {S : Sto} {a b : Addr} {o : MO} (h : b ≠ a) : put S a o b = S b := by unfold put; rw [if_neg h]
theorem rm_same {S : Sto} {a : Addr} : rm S a a = none := by unfold rm; rw [if_pos rfl]
theorem rm_ne {S : Sto} {a b : Addr} (h : b ≠ a) : rm S a b = S b := by unfold rm; rw [if_neg h]
theorem put_put {S : Sto} {a : Addr} {o u : MO} : put (put S a o) a u = put S a u := by
  funext b; unfold put; split <;> rfl
theorem rm_put {S : Sto} {a : Addr} {o : MO} (h : S a = none) : rm (put S a o) a = S := by
  funext b; unfold rm put; split
  · rename_i e; rw [e, h]
  · rfl

/-- where one stands: the written part, the classes' addresses, the lists that are being made -/
structure Cc where
  K : PySem.W.Frag
  ga : Str → Addr
  Z : Addr → Prop

def KT (K : PySem.W.Frag) (a : Addr) (xs : List V) : Prop := ∃ (o : Obj) (its : Array Value) (n : Nat), K.lookup a = some o ∧ o.cls = .type "tuple" ∧ o.data = .seq its n ∧ its.size ≤ sizeLine ∧ Vals xs its.toList
def KL (K : PySem.W.Frag) (a : Addr) (xs : List V) : Prop := ∃ (o : Obj) (its : Array Value) (n : Nat), K.lookup a = some o ∧ o.cls = .type "list" ∧ o.dict = none ∧ o.data = .seq its n ∧ its.size ≤ sizeLine ∧ Vals xs its.toList
def FzT (C : Cc) (H : Hp) (S : Sto) (a : Addr) (vs : List V) : Prop := (H a = some (.tup vs) ∧ S a = none) ∨ KT C.K a vs
def FzL (C : Cc) (H : Hp) (S : Sto) (a : Addr) (vs : List V) : Prop := H a = some (.lst vs) ∧ S a = none ∧ ¬ C.Z a
theorem FzT.sq {C : Cc} {H : Hp} {S : Sto} {a : Addr} {vs : List V} (h : FzT C H S a vs) : SqT C.K H a vs := by
  rcases h with ⟨h, _⟩ | h
  · exact .inl (.inl h)
  · exact .inr h
theorem FzL.sq {C : Cc} {H : Hp} {S : Sto} {a : Addr} {vs : List V} (h : FzL C H S a vs) : SqL C.K H a vs := .inl (.inl h.1)

mutual
def RelD (C : Cc) (H : Hp) (S : Sto) : D → V → Prop
  | .non, v => v = .non
  | .bl b, v => v = .bl b
  | .int i, v => v = .int i
  | .str x, v => v = .str x ∧ PySem.PyData.strOk x = true
  | .ty n, v => v = .ty n
  | .ref a, v => v = .ref a
  | .tup ds, v => ∃ a vs, v = .ref a ∧ FzT C H S a vs ∧ RelDs C H S ds vs
  | .lst ds, v => ∃ a vs, v = .ref a ∧ FzL C H S a vs ∧ RelDs C H S ds vs
  | .scr ns, v => ∃ a, v = .ref a ∧ ((Rd H a (.lst (ns.map V.int)) ∧ S a = none ∧ ¬ C.Z a) ∨ KL C.K a (ns.map V.int))
def RelDs (C : Cc) (H : Hp) (S : Sto) : List D → List V → Prop
  | [], vs => vs = []
  | d :: ds, vs => ∃ v r, vs = v :: r ∧ RelD C H S d v ∧ RelDs C H S ds r
end

/-- what is tracked and not in the store stays -/
def Ext (H : Hp) (S : Sto) (H' : Hp) (S' : Sto) : Prop := ∀ b u, H b = some u → S b = none → H' b = some u ∧ S' b = none
theorem Ext.refl (H : Hp) (S : Sto) : Ext H S H S := fun _ _ h s => ⟨h, s⟩
theorem Ext.trans {H H1 H2 : Hp} {S S1 S2 : Sto} (a : Ext H S H1 S1) (b : Ext H1 S1 H2 S2) : Ext H S H2 S2 := fun c u h s => by
  obtain ⟨h1, s1⟩ := a c u h s
  exact b c u h1 s1
theorem Ext.new {H : Hp} {S : Sto} {p : Addr} {o : HO} (h : H p = none) : Ext H S (upd H p o) S := fun b u e s => ⟨by rw [upd_ne (ne_of_none e h)]; exact e, s⟩
theorem Ext.newM {H : Hp} {S : Sto} {p : Addr} {o : HO} {m : MO} (h : H p = none) : Ext H S (upd H p o) (put S p m) := fun b u e s => by
  have n := ne_of_none e h
  exact ⟨by rw [upd_ne n]; exact e, by rw [put_ne n]; exact s⟩
theorem Ext.set {H : Hp} {S : Sto} {p : Addr} {o : HO} {m m' : MO} (h : S p = some m') : Ext H S (upd H p o) (put S p m) := fun b u e s => by
  have n : b ≠ p := fun z => by subst z; rw [h] at s; cases s
  exact ⟨by rw [upd_ne n]; exact e, by rw [put_ne n]; exact s⟩
theorem Ext.rm {H : Hp} {S : Sto} {p : Addr} : Ext H S H (rm S p) := fun b u e s => ⟨e, by unfold Mn.rm; split <;> first | rfl | exact s⟩

section
variable {C : Cc} {H H' : Hp} {S S' : Sto}
theorem Rd.ext {a : Addr} {u : HO} (h : Rd H a u) (s : S a = none) (e : Ext H S H' S') : Rd H' a u ∧ S' a = none := by
  rcases h with h | ⟨o, h⟩
  · exact ⟨.inl (e _ _ h s).1, (e _ _ h s).2⟩
  · exact ⟨.inr ⟨o, (e _ _ h s).1⟩, (e _ _ h s).2⟩
theorem FzT.ext {a : Addr} {vs : List V} (h : FzT C H S a vs) (e : Ext H S H' S') : FzT C H' S' a vs := by
  rcases h with ⟨h, s⟩ | h
  · exact .inl (e _ _ h s)
  · exact .inr h
theorem FzL.ext {a : Addr} {vs : List V} (h : FzL C H S a vs) (e : Ext H S H' S') : FzL C H' S' a vs :=
  ⟨(e _ _ h.1 h.2.1).1, (e _ _ h.1 h.2.1).2, h.2.2⟩
mutual
theorem RelD.ext (e : Ext H S H' S') : ∀ {d : D} {v : V}, RelD C H S d v → RelD C H' S' d v
  | .non, _, h => by unfold RelD at h ⊢; exact h
  | .bl _, _, h => by unfold RelD at h ⊢; exact h
  | .int _, _, h => by unfold RelD at h ⊢; exact h
  | .str _, _, h => by unfold RelD at h ⊢; exact h
  | .ty _, _, h => by unfold RelD at h ⊢; exact h
  | .ref _, _, h => by unfold RelD at h ⊢; exact h
  | .tup _, _, h => by
    unfold RelD at h ⊢
    obtain ⟨a, vs, rfl, f, r⟩ := h
    exact ⟨a, vs, rfl, f.ext e, RelDs.ext e r⟩
  | .lst _, _, h => by
    unfold RelD at h ⊢
    obtain ⟨a, vs, rfl, f, r⟩ := h
    exact ⟨a, vs, rfl, f.ext e, RelDs.ext e r⟩
  | .scr _, _, h => by
    unfold RelD at h ⊢
    obtain ⟨a, rfl, ⟨f, r, z⟩ | f⟩ := h
    · exact ⟨a, rfl, .inl ⟨(Rd.ext f r e).1, (Rd.ext f r e).2, z⟩⟩
    · exact ⟨a, rfl, .inr f⟩
theorem RelDs.ext (e : Ext H S H' S') : ∀ {ds : List D} {vs : List V}, RelDs C H S ds vs → RelDs C H' S' ds vs
  | [], _, h => by unfold RelDs at h ⊢; exact h
  | _ :: _, _, h => by
    unfold RelDs at h ⊢
    obtain ⟨v, r, rfl, h1, h2⟩ := h
    exact ⟨v, r, rfl, RelD.ext e h1, RelDs.ext e h2⟩
end
/-- fewer lists in the making -/
def Cc.wz (C : Cc) (Z : Addr → Prop) : Cc := { C with Z := Z }
mutual
theorem RelD.wz {Z : Addr → Prop} (e : ∀ a, Z a → C.Z a ∨ H a = none) : ∀ {d : D} {v : V}, RelD C H S d v → RelD (C.wz Z) H S d v
  | .non, _, h => by unfold RelD at h ⊢; exact h
  | .bl _, _, h => by unfold RelD at h ⊢; exact h
  | .int _, _, h => by unfold RelD at h ⊢; exact h
  | .str _, _, h => by unfold RelD at h ⊢; exact h
  | .ty _, _, h => by unfold RelD at h ⊢; exact h
  | .ref _, _, h => by unfold RelD at h ⊢; exact h
  | .tup _, _, h => by
    unfold RelD at h ⊢
    obtain ⟨a, vs, rfl, f, r⟩ := h
    exact ⟨a, vs, rfl, f, RelDs.wz e r⟩
  | .lst _, _, h => by
    unfold RelD at h ⊢
    obtain ⟨a, vs, rfl, f, r⟩ := h
    exact ⟨a, vs, rfl, ⟨f.1, f.2.1, fun z => (e a z).elim f.2.2 fun q => by rw [f.1] at q; cases q⟩, RelDs.wz e r⟩
  | .scr _, _, h => by
    unfold RelD at h ⊢
    obtain ⟨a, rfl, ⟨f, r, z⟩ | f⟩ := h
    · refine ⟨a, rfl, .inl ⟨f, r, fun q => (e a q).elim z fun w => ?_⟩⟩
      rcases f with f | ⟨o, f⟩ <;> (rw [w] at f; cases f)
    · exact ⟨a, rfl, .inr f⟩
theorem RelDs.wz {Z : Addr → Prop} (e : ∀ a, Z a → C.Z a ∨ H a = none) : ∀ {ds : List D} {vs : List V}, RelDs C H S ds vs → RelDs (C.wz Z) H S ds vs
  | [], _, h => by unfold RelDs at h ⊢; exact h
  | _ :: _, _, h => by
    unfold RelDs at h ⊢
    obtain ⟨v, r, rfl, h1, h2⟩ := h
    exact ⟨v, r, rfl, RelD.wz e h1, RelDs.wz e h2⟩
end
end

/-- moved to another heap and store: what is frozen must stay -/
structure Mv (C C' : Cc) (H H' : Hp) (S S' : Sto) : Prop where
  K : C'.K = C.K
  t : ∀ a vs, H a = some (.tup vs) → S a = none → H' a = some (.tup vs) ∧ S' a = none
  l : ∀ a u, H a = some u → S a = none → ¬ C.Z a → H' a = some u ∧ S' a = none ∧ ¬ C'.Z a
section
variable {C C' : Cc} {H H' : Hp} {S S' : Sto}
mutual
theorem RelD.mv (e : Mv C C' H H' S S') : ∀ {d : D} {v : V}, RelD C H S d v → RelD C' H' S' d v
  | .non, _, h => by unfold RelD at h ⊢; exact h
  | .bl _, _, h => by unfold RelD at h ⊢; exact h
  | .int _, _, h => by unfold RelD at h ⊢; exact h
  | .str _, _, h => by unfold RelD at h ⊢; exact h
  | .ty _, _, h => by unfold RelD at h ⊢; exact h
  | .ref _, _, h => by unfold RelD at h ⊢; exact h
  | .tup _, _, h => by
    unfold RelD at h ⊢
    obtain ⟨a, vs, rfl, f, r⟩ := h
    refine ⟨a, vs, rfl, ?_, RelDs.mv e r⟩
    rcases f with ⟨f, s⟩ | f
    · exact .inl (e.t _ _ f s)
    · exact .inr (by rw [e.K]; exact f)
  | .lst _, _, h => by
    unfold RelD at h ⊢
    obtain ⟨a, vs, rfl, f, r⟩ := h
    exact ⟨a, vs, rfl, e.l _ _ f.1 f.2.1 f.2.2, RelDs.mv e r⟩
  | .scr _, _, h => by
    unfold RelD at h ⊢
    obtain ⟨a, rfl, ⟨(f | ⟨o, f⟩), r, z⟩ | f⟩ := h
    · obtain ⟨h1, h2, h3⟩ := e.l _ _ f r z
      exact ⟨a, rfl, .inl ⟨.inl h1, h2, h3⟩⟩
    · obtain ⟨h1, h2, h3⟩ := e.l _ _ f r z
      exact ⟨a, rfl, .inl ⟨.inr ⟨o, h1⟩, h2, h3⟩⟩
    · exact ⟨a, rfl, .inr (by rw [e.K]; exact f)⟩
theorem RelDs.mv (e : Mv C C' H H' S S') : ∀ {ds : List D} {vs : List V}, RelDs C H S ds vs → RelDs C' H' S' ds vs
  | [], _, h => by unfold RelDs at h ⊢; exact h
  | _ :: _, _, h => by
    unfold RelDs at h ⊢
    obtain ⟨v, r, rfl, h1, h2⟩ := h
    exact ⟨v, r, rfl, RelD.mv e h1, RelDs.mv e h2⟩
end
end

/-! ### objects, the store -/
def RelF (C : Cc) (H : Hp) (S : Sto) : List (Str × D) → List (Str × V) → Prop
  | [], l => l = []
  | (f, d) :: r, l => ∃ v l', l = (f, v) :: l' ∧ RelD C H S d v ∧ RelF C H S r l'
def RelK (C : Cc) (H : Hp) (S : Sto) : List (Key × D) → List (Key × V) → Prop
  | [], l => l = []
  | (f, d) :: r, l => ∃ v l', l = (f, v) :: l' ∧ RelD C H S d v ∧ RelK C H S r l'
def RelM (C : Cc) (H : Hp) (S : Sto) : MO → HO → Prop
  | .lst ds, o => ∃ vs, o = .lst vs ∧ RelDs C H S ds vs
  | .dct kvs, o => ∃ ks, o = .dK ks ∧ RelK C H S kvs ks
  | .ins c fs, o => ∃ dx l, o = .ins (C.ga c) dx l ∧ RelF C H S fs l
structure Rp (C : Cc) (H : Hp) (S : Sto) : Prop where
  obj : ∀ a m, S a = some m → ∃ o, H a = some o ∧ RelM C H S m o
  z : ∀ a, C.Z a → (∃ xs, H a = some (.lst xs)) ∧ S a = none
section
variable {C : Cc} {H H' : Hp} {S S' : Sto}
theorem RelF.ext (e : Ext H S H' S') : ∀ {fs : List (Str × D)} {l : List (Str × V)}, RelF C H S fs l → RelF C H' S' fs l
  | [], _, h => h
  | (_, _) :: _, _, h => by
    obtain ⟨v, l', rfl, h1, h2⟩ := h
    exact ⟨v, l', rfl, h1.ext e, RelF.ext e h2⟩
theorem RelK.ext (e : Ext H S H' S') : ∀ {fs : List (Key × D)} {l : List (Key × V)}, RelK C H S fs l → RelK C H' S' fs l
  | [], _, h => h
  | (_, _) :: _, _, h => by
    obtain ⟨v, l', rfl, h1, h2⟩ := h
    exact ⟨v, l', rfl, h1.ext e, RelK.ext e h2⟩
theorem RelM.ext (e : Ext H S H' S') {m : MO} {o : HO} (h : RelM C H S m o) : RelM C H' S' m o := by
  cases m with
  | lst ds => obtain ⟨vs, rfl, r⟩ := h; exact ⟨vs, rfl, r.ext e⟩
  | dct ks => obtain ⟨vs, rfl, r⟩ := h; exact ⟨vs, rfl, r.ext e⟩
  | ins c fs => obtain ⟨dx, l, rfl, r⟩ := h; exact ⟨dx, l, rfl, r.ext e⟩
theorem RelF.wz {Z : Addr → Prop} (e : ∀ a, Z a → C.Z a ∨ H a = none) : ∀ {fs : List (Str × D)} {l : List (Str × V)}, RelF C H S fs l → RelF (C.wz Z) H S fs l
  | [], _, h => h
  | (_, _) :: _, _, h => by
    obtain ⟨v, l', rfl, h1, h2⟩ := h
    exact ⟨v, l', rfl, h1.wz e, RelF.wz e h2⟩
theorem RelK.wz {Z : Addr → Prop} (e : ∀ a, Z a → C.Z a ∨ H a = none) : ∀ {fs : List (Key × D)} {l : List (Key × V)}, RelK C H S fs l → RelK (C.wz Z) H S fs l
  | [], _, h => h
  | (_, _) :: _, _, h => by
    obtain ⟨v, l', rfl, h1, h2⟩ := h
    exact ⟨v, l', rfl, h1.wz e, RelK.wz e h2⟩
theorem RelM.wz {Z : Addr → Prop} (e : ∀ a, Z a → C.Z a ∨ H a = none) {m : MO} {o : HO} (h : RelM C H S m o) : RelM (C.wz Z) H S m o := by
  cases m with
  | lst ds => obtain ⟨vs, rfl, r⟩ := h; exact ⟨vs, rfl, r.wz e⟩
  | dct ks => obtain ⟨vs, rfl, r⟩ := h; exact ⟨vs, rfl, r.wz e⟩
  | ins c fs => obtain ⟨dx, l, rfl, r⟩ := h; exact ⟨dx, l, rfl, r.wz e⟩
theorem Rp.wz {Z : Addr → Prop} (r : Rp C H S) (e : ∀ a, Z a → C.Z a) : Rp (C.wz Z) H S := ⟨fun a m h => by
  obtain ⟨o, h1, h2⟩ := r.obj a m h
  exact ⟨o, h1, h2.wz fun a z => .inl (e a z)⟩, fun a h => r.z a (e a h)⟩
theorem Rp.free (r : Rp C H S) {a : Addr} (h : H a = none) : S a = none := by
  cases e : S a with
  | none => rfl
  | some m => obtain ⟨o, h1, _⟩ := r.obj a m e; rw [h] at h1; cases h1
/-- one more list in the making -/
theorem Rp.addZ (r : Rp C H S) {p : Addr} (h : H p = none) : Rp (C.wz fun a => C.Z a ∨ a = p) (upd H p (.lst [])) S := ⟨fun a m q => by
  obtain ⟨o, h1, h2⟩ := r.obj a m q
  refine ⟨o, by rw [upd_ne (ne_of_none h1 h)]; exact h1, RelM.ext (Ext.new h) (h2.wz fun a z => z.imp (fun q => q) fun q => by rw [q]; exact h)⟩, fun a q => by
  rcases q with q | rfl
  · obtain ⟨⟨xs, e⟩, s⟩ := r.z a q
    exact ⟨⟨xs, by rw [upd_ne (ne_of_none e h)]; exact e⟩, s⟩
  · exact ⟨⟨[], upd_same⟩, r.free h⟩⟩
theorem Rp.nz (r : Rp C H S) {a : Addr} (h : H a = none) : ¬ C.Z a := fun q => by
  obtain ⟨⟨xs, e⟩, _⟩ := r.z a q
  rw [h] at e; cases e
/-- a new tracked thing, out of the store -/
theorem Rp.new (r : Rp C H S) {p : Addr} {o : HO} (h : H p = none) : Rp C (upd H p o) S := ⟨fun a m e => by
  obtain ⟨u, h1, h2⟩ := r.obj a m e
  exact ⟨u, by rw [upd_ne (ne_of_none h1 h)]; exact h1, h2.ext (Ext.new h)⟩, fun a q => by
  obtain ⟨⟨xs, e⟩, s⟩ := r.z a q
  exact ⟨⟨xs, by rw [upd_ne (ne_of_none e h)]; exact e⟩, s⟩⟩
theorem Rp.newM (r : Rp C H S) {p : Addr} {o : HO} {m : MO} (h : H p = none) (n : RelM C (upd H p o) (put S p m) m o) : Rp C (upd H p o) (put S p m) := ⟨fun a m' e => by
  by_cases q : a = p
  · subst q; rw [put_same] at e; cases e; exact ⟨o, upd_same, n⟩
  · rw [put_ne q] at e
    obtain ⟨u, h1, h2⟩ := r.obj a m' e
    exact ⟨u, by rw [upd_ne q]; exact h1, h2.ext (Ext.newM h)⟩, fun a q => by
  obtain ⟨⟨xs, e⟩, s⟩ := r.z a q
  have n := ne_of_none e h
  exact ⟨⟨xs, by rw [upd_ne n]; exact e⟩, by rw [put_ne n]; exact s⟩⟩
theorem Rp.set (r : Rp C H S) {p : Addr} {o : HO} {m m' : MO} (h : S p = some m') (n : RelM C (upd H p o) (put S p m) m o) : Rp C (upd H p o) (put S p m) := ⟨fun a m2 e => by
  by_cases q : a = p
  · subst q; rw [put_same] at e; cases e; exact ⟨o, upd_same, n⟩
  · rw [put_ne q] at e
    obtain ⟨u, h1, h2⟩ := r.obj a m2 e
    exact ⟨u, by rw [upd_ne q]; exact h1, h2.ext (Ext.set h)⟩, fun a q => by
  obtain ⟨⟨xs, e⟩, s⟩ := r.z a q
  have n : a ≠ p := fun z => by subst z; rw [h] at s; cases s
  exact ⟨⟨xs, by rw [upd_ne n]; exact e⟩, by rw [put_ne n]; exact s⟩⟩
theorem Rp.rm (r : Rp C H S) {p : Addr} : Rp C H (rm S p) := ⟨fun a m e => by
  have q : a ≠ p := fun z => by subst z; rw [rm_same] at e; cases e
  rw [rm_ne q] at e
  obtain ⟨u, h1, h2⟩ := r.obj a m e
  exact ⟨u, h1, h2.ext Ext.rm⟩, fun a q => by
  obtain ⟨e, s⟩ := r.z a q
  exact ⟨e, by unfold Mn.rm; split <;> first | rfl | exact s⟩⟩
end

section
variable {C C' : Cc} {H H' : Hp} {S S' : Sto}
theorem RelF.mv (e : Mv C C' H H' S S') : ∀ {fs : List (Str × D)} {l : List (Str × V)}, RelF C H S fs l → RelF C' H' S' fs l
  | [], _, h => h
  | (_, _) :: _, _, h => by
    obtain ⟨v, l', rfl, h1, h2⟩ := h
    exact ⟨v, l', rfl, h1.mv e, RelF.mv e h2⟩
theorem RelK.mv (e : Mv C C' H H' S S') : ∀ {fs : List (Key × D)} {l : List (Key × V)}, RelK C H S fs l → RelK C' H' S' fs l
  | [], _, h => h
  | (_, _) :: _, _, h => by
    obtain ⟨v, l', rfl, h1, h2⟩ := h
    exact ⟨v, l', rfl, h1.mv e, RelK.mv e h2⟩
theorem RelM.mv (e : Mv C C' H H' S S') (g : C'.ga = C.ga) {m : MO} {o : HO} (h : RelM C H S m o) : RelM C' H' S' m o := by
  cases m with
  | lst ds => obtain ⟨vs, rfl, r⟩ := h; exact ⟨vs, rfl, r.mv e⟩
  | dct ks => obtain ⟨vs, rfl, r⟩ := h; exact ⟨vs, rfl, r.mv e⟩
  | ins c fs => obtain ⟨dx, l, rfl, r⟩ := h; exact ⟨dx, l, by rw [g], r.mv e⟩
/-- a list in the making grows -/
theorem mv_grow {p : Addr} {xs ys : List V} (hz : C.Z p) (hp : H p = some (.lst xs)) : Mv C C H (upd H p (.lst ys)) S S := ⟨rfl, fun a vs h s => ⟨by rw [upd_ne (ne_of h hp fun q => nomatch q)]; exact h, s⟩, fun a u h s z => by
  have n : a ≠ p := fun q => z (by rw [q]; exact hz)
  exact ⟨by rw [upd_ne n]; exact h, s, z⟩⟩
theorem Rp.grow (r : Rp C H S) {p : Addr} {xs ys : List V} (hz : C.Z p) (hp : H p = some (.lst xs)) : Rp C (upd H p (.lst ys)) S := ⟨fun a m h => by
  obtain ⟨o, h1, h2⟩ := r.obj a m h
  have n : a ≠ p := fun q => by subst q; rw [(r.z a hz).2] at h; cases h
  exact ⟨o, by rw [upd_ne n]; exact h1, h2.mv (mv_grow hz hp) rfl⟩, fun a h => by
  obtain ⟨⟨zs, h1⟩, h2⟩ := r.z a h
  by_cases n : a = p
  · subst n; exact ⟨⟨ys, upd_same⟩, h2⟩
  · exact ⟨⟨zs, by rw [upd_ne n]; exact h1⟩, h2⟩⟩
/-- a list in the making is made: it goes into the store -/
theorem mv_thaw {p : Addr} {xs : List V} {m : MO} {Z : Addr → Prop} (hz : ∀ a, C.Z a ↔ (Z a ∨ a = p)) (hp : H p = some (.lst xs)) : Mv C (C.wz Z) H H S (put S p m) := ⟨rfl, fun a vs h s => ⟨h, by rw [put_ne (ne_of h hp fun q => nomatch q)]; exact s⟩, fun a u h s z => by
  have n : a ≠ p := fun q => z ((hz a).mpr (.inr q))
  exact ⟨h, by rw [put_ne n]; exact s, fun q => z ((hz a).mpr (.inl q))⟩⟩
theorem Rp.thaw (r : Rp C H S) {p : Addr} {xs : List V} {ds : List D} {Z : Addr → Prop} (hz : ∀ a, C.Z a ↔ (Z a ∨ a = p)) (hn : ¬ Z p) (hp : H p = some (.lst xs)) (hd : RelDs C H S ds xs) : Rp (C.wz Z) H (put S p (.lst ds)) := ⟨fun a m h => by
  by_cases n : a = p
  · subst n; rw [put_same] at h; cases h; exact ⟨_, hp, xs, rfl, hd.mv (mv_thaw hz hp)⟩
  · rw [put_ne n] at h
    obtain ⟨o, h1, h2⟩ := r.obj a m h
    exact ⟨o, h1, h2.mv (mv_thaw hz hp) rfl⟩, fun a h => by
  have n : a ≠ p := fun q => hn (by rw [← q]; exact h)
  obtain ⟨h1, h2⟩ := r.z a ((hz a).mpr (.inl h))
  exact ⟨h1, by rw [put_ne n]; exact h2⟩⟩
end

/-! ### the slots -/
def RelS (C : Cc) (H : Hp) (S : Sto) (σd : Env) (σ : St) : Prop := σd.length = σ.length ∧ ∀ (i : Nat) d, σd[i]? = some (some d) → ∃ v, σ[i]? = some (some v) ∧ RelD C H S d v
theorem RelS.ext {C : Cc} {H H' : Hp} {S S' : Sto} {σd : Env} {σ : St} (h : RelS C H S σd σ) (e : Ext H S H' S') : RelS C H' S' σd σ := ⟨h.1, fun i d q => by
  obtain ⟨v, h1, h2⟩ := h.2 i d q
  exact ⟨v, h1, h2.ext e⟩⟩
theorem RelS.wz {C : Cc} {H : Hp} {S : Sto} {σd : Env} {σ : St} {Z : Addr → Prop} (e : ∀ a, Z a → C.Z a ∨ H a = none) (h : RelS C H S σd σ) : RelS (C.wz Z) H S σd σ := ⟨h.1, fun i d q => by
  obtain ⟨v, h1, h2⟩ := h.2 i d q
  exact ⟨v, h1, h2.wz e⟩⟩
theorem RelS.set {C : Cc} {H : Hp} {S : Sto} {σd : Env} {σ : St} (h : RelS C H S σd σ) (i : Nat) {d : D} {v : V} (r : RelD C H S d v) : RelS C H S (σd.set i (some d)) (σ.set i (some v)) := by
  refine ⟨by simp [h.1], fun j e q => ?_⟩
  rw [List.getElem?_set] at q
  by_cases hij : i = j
  · subst hij
    rw [if_pos rfl] at q
    split at q
    · rename_i hl
      cases q
      exact ⟨v, by rw [List.getElem?_set, if_pos rfl, if_pos (by rw [← h.1]; exact hl)], r⟩
    · cases q
  · rw [if_neg hij] at q
    obtain ⟨w, h1, h2⟩ := h.2 j e q
    exact ⟨w, by rw [List.getElem?_set, if_neg hij]; exact h1, h2⟩
end Mn

namespace Mn
open PySem L2

/-! ### the small syntax -/
inductive Bf where
  | len | abs | int | max | sum | all | list | isinstance
  deriving DecidableEq
def Bf.nm : Bf → Str
  | .len => "len" | .abs => "abs" | .int => "int" | .max => "max" | .sum => "sum" | .all => "all" | .list => "list" | .isinstance => "isinstance"
inductive Bm where
  | append
  deriving DecidableEq
def Bm.nm : Bm → Str
  | .append => "append"
inductive MT where
  | nm (i : Nat)
  | tp (ts : List MT)
inductive ME where
  | var (i : Nat)
  | cst (d : D)
  | glo (x : Str)
  | bin (o : Operator) (m : Bool) (a b : ME)
  | neg (a : ME)
  | not (a : ME)
  | cmp (o : CmpOp) (a b : ME)
  | cmp2 (o o' : CmpOp) (a b c : ME)
  | and (a b : ME)
  | or (a b : ME)
  | ifx (c a b : ME)
  | idx (a i : ME)
  | slL (m : Bool) (a lo : ME)
  | slU (m : Bool) (a hi : ME)
  | slLU (m : Bool) (a lo hi : ME)
  | tup (es : List ME)
  | lst (m : Bool) (es : List ME)
  | blt (f : Bf) (m : Bool) (es : List ME)
  | bm (f : Bm) (m : Bool) (o : ME) (es : List ME)
  | call (f : Str) (es : List ME)
  | lc (i : Nat) (m : Bool) (t : MT) (as : List ME) (c : List ME) (e : ME)
  | frz (e : ME)
inductive MS where
  | asg (t : MT) (e : ME)
  | six (o i e : ME)
  | aug (i : Nat) (o : Operator) (e : ME)
  | exp (e : ME)
  | ret (e : ME)
  | ite (c : ME) (a b : List MS)
  | for_ (i : Nat) (t : MT) (as : List ME) (b : List MS)
  | whl (c : ME) (b : List MS)
  | pas
  | cont
  | drp (i : Nat)
  | frS (i : Nat)

/-! ### results of operations -/
inductive R where
  | val (d : D)
  | newL (ds : List D)
  | upd (d : D) (S : Sto)
def fin (m : Bool) (r : R) (S : Sto) (k : D → Sto → Prop) : Prop :=
  match r with
  | .val d => k d S
  | .newL ds => if m = true then ∀ p, S p = none → k (.ref p) (put S p (.lst ds)) else k (.lst ds) S
  | .upd d S' => k d S'
theorem fin_mono {m : Bool} {r : R} {S : Sto} {k k' : D → Sto → Prop} (h : ∀ d S', k d S' → k' d S') (q : fin m r S k) : fin m r S k' := by
  unfold fin at q ⊢
  cases r with
  | val d => exact h _ _ q
  | newL ds =>
    cases m with
    | true => exact fun p hp => h _ _ (q p hp)
    | false => exact h _ _ q
  | upd d S' => exact h _ _ q

/-! ### pure pieces -/
def lstAt (S : Sto) (a : Addr) : Option (List D) := match S a with
  | some (.lst ds) => some ds
  | _ => none
theorem lstAt_of {S : Sto} {a : Addr} {ds : List D} (h : S a = some (.lst ds)) : lstAt S a = some ds := by unfold lstAt; rw [h]
theorem lstAt_some {S : Sto} {a : Addr} {ds : List D} (h : lstAt S a = some ds) : S a = some (.lst ds) := by
  unfold lstAt at h
  split at h
  · rename_i e; cases h; exact e
  · cases h
def listOf (S : Sto) : D → Option (List D)
  | .lst ds => some ds
  | .ref a => lstAt S a
  | _ => none
def seqOf (S : Sto) : D → Option (List D)
  | .lst ds => some ds
  | .tup ds => some ds
  | .ref a => lstAt S a
  | _ => none
mutual
def toPy : D → PyData
  | .bl b => .bool b
  | .int i => .int i
  | .str x => .str x
  | .tup ds => .tuple (toPys ds)
  | .lst ds => .list (toPys ds)
  | _ => .none
def toPys : List D → List PyData
  | [] => []
  | d :: ds => toPy d :: toPys ds
end
mutual
/-- no address in it -/
def pureD : D → Bool
  | .non => true
  | .bl _ => true
  | .int _ => true
  | .str _ => true
  | .tup ds => pureDs ds
  | .lst ds => pureDs ds
  | _ => false
def pureDs : List D → Bool
  | [] => true
  | d :: ds => pureD d && pureDs ds
end
mutual
def dep : D → Nat
  | .tup ds => deps ds + 1
  | .lst ds => deps ds + 1
  | _ => 0
def deps : List D → Nat
  | [] => 0
  | d :: ds => max (dep d) (deps ds)
end
/-- a list of the store as a value -/
def top (S : Sto) : D → D
  | .ref a => match lstAt S a with
    | some ds => .lst ds
    | none => .ref a
  | d => d
def tru (S : Sto) : D → Option Bool
  | .non => some false
  | .bl b => some b
  | .int i => some (i != 0)
  | .str x => if x.length ≤ sizeLine then some ((x.length : Int) != 0) else none
  | .tup ds => some (!ds.isEmpty)
  | .lst ds => some (!ds.isEmpty)
  | .ref a => (lstAt S a).map fun ds => !ds.isEmpty
  | _ => none
def g? {α : Type} (c : Prop) [Decidable c] (r : α) : Option α := if c then some r else none
/-- a text some times -/
def repS (x : Str) (n : Nat) : Str := ⟨(List.replicate n x.cps).foldl (· ++ ·) #[]⟩
def binR (o : Operator) (x y : D) (S : Sto) : Option R :=
  match o, x, y with
  | .Add, .int i, .int j => some (.val (.int (i + j)))
  | .Sub, .int i, .int j => some (.val (.int (i - j)))
  | .Mult, .int i, .int j => g? ((-(2 ^ 64) < i ∧ i < 2 ^ 64) ∨ (-(2 ^ 64) < j ∧ j < 2 ^ 64)) (.val (.int (i * j)))
  | .FloorDiv, .int i, .int j => g? (0 < j ∧ j < 1073741824) (.val (.int (i / j)))
  | .Mod, .int i, .int j => g? (0 < j) (.val (.int (i % j)))
  | .Pow, .int i, .int j => g? (0 ≤ j ∧ j ≤ 1000000 ∧ i.natAbs < 2 ^ 64) (.val (.int (i ^ j.toNat)))
  | .Add, .str i, .str j => g? (i.length + j.length ≤ sizeLine) (.val (.str (i ++ j)))
  | .Add, .tup ds, .tup es => g? (ds.length + es.length ≤ sizeLine) (.val (.tup (ds ++ es)))
  | .Add, x, y => match listOf S x, listOf S y with
    | some ds, some es => g? (ds.length + es.length ≤ sizeLine) (.newL (ds ++ es))
    | _, _ => none
  | .Mult, .str z, .int n => g? (1 ≤ n ∧ n ≤ 1000 ∧ z.length ≤ 1000) (.val (.str (repS z n.toNat)))
  | .Mult, x, .int n => match listOf S x with
    | some ds => g? (0 ≤ n ∧ n ≤ 1000 ∧ ds.length ≤ 1000) (.newL (List.replicate n.toNat ds).flatten)
    | none => none
  | _, _, _ => none
def deq (x y : D) : Bool := PyData.eqv (toPy x) (toPy y)
def eqR (x y : D) (S : Sto) : Option Bool := g? (pureD (top S x) = true ∧ pureD (top S y) = true ∧ min (dep (top S x)) (dep (top S y)) ≤ 60) (deq (top S x) (top S y))
def flat : D → Bool
  | .non => true
  | .bl _ => true
  | .int _ => true
  | .str _ => true
  | _ => false
def inR (x y : D) (S : Sto) : Option Bool := match x, y with
  | .str z, .str y => match z.cps.toList with
    | [c] => some (decide (c ∈ y.cps.toList))
    | _ => none
  | x, y => match seqOf S y with
    | some ds => g? (flat x = true ∧ ds.all flat = true) (ds.any fun z => deq z x)
    | none => none
def isR (x y : D) : Option Bool := match x, y with
  | .non, .non => some true
  | .bl _, .non => some false
  | .int _, .non => some false
  | .str _, .non => some false
  | .tup _, .non => some false
  | .lst _, .non => some false
  | .ref _, .non => some false
  | .bl a, .bl b => some (decide (a = b))
  | _, _ => none
def cmpR (o : CmpOp) (x y : D) (S : Sto) : Option Bool :=
  match o, x, y with
  | .Lt, .int i, .int j => some (decide (i < j))
  | .LtE, .int i, .int j => some (decide (i ≤ j))
  | .Gt, .int i, .int j => some (decide (j < i))
  | .GtE, .int i, .int j => some (decide (j ≤ i))
  | .Eq, x, y => eqR x y S
  | .NotEq, x, y => (eqR x y S).map (!·)
  | .In, x, y => inR x y S
  | .NotIn, x, y => (inR x y S).map (!·)
  | .Is, x, y => isR x y
  | .IsNot, x, y => (isR x y).map (!·)
  | _, _, _ => none
def idxR (x i : D) (S : Sto) : Option D :=
  match x, i with
  | .str z, .int i => if z.length ≤ sizeLine then (atI z.cps.toList i).map (fun c => .str ⟨#[c]⟩) else none
  | x, .int i => match seqOf S x with
    | some ds => atI ds i
    | none => none
  | _, _ => none
def cutD (ds : List D) (lo hi : Option Int) : List D := (ds.drop (HT.sIx ds.length 0 lo)).take (HT.sIx ds.length ds.length hi - HT.sIx ds.length 0 lo)
def slcR (x : D) (lo hi : Option Int) (S : Sto) : Option R :=
  match x with
  | .str z => g? (z.length ≤ sizeLine) (.val (.str (cutS z lo hi)))
  | .tup ds => some (.val (.tup (cutD ds lo hi)))
  | x => match listOf S x with
    | some ds => some (.newL (cutD ds lo hi))
    | none => none
def tyN (S : Sto) : D → Option String
  | .non => some "NoneType"
  | .bl _ => some "bool"
  | .int _ => some "int"
  | .str _ => some "str"
  | .tup _ => some "tuple"
  | .lst _ => some "list"
  | .ref a => (lstAt S a).map fun _ => "list"
  | _ => none
/-- isinstance by the types' names -/
def isT (t : String) (c : String) : Bool := t == c || (t == "bool" && c == "int")
def isiR (S : Sto) (x c : D) : Option Bool := match tyN S x, c with
  | some t, .ty n => g? (n = "int" ∨ n = "bool" ∨ n = "str" ∨ n = "list" ∨ n = "tuple") (isT t n)
  | some t, .tup [.ty n, .ty n'] => g? (n = "tuple" ∧ n' = "list") (isT t n || isT t n')
  | _, _ => none
def allB (S : Sto) : List D → Option Bool
  | [] => some true
  | .bl b :: r => match allB S r with
    | some c => some (b && c)
    | none => none
  | _ => none
def sumI : List D → Option Int
  | [] => some 0
  | .int i :: r => (sumI r).map (i + ·)
  | _ => none
def bltR (f : Bf) (xs : List D) (S : Sto) : Option R := match f, xs with
  | .len, [.str z] => g? (z.length ≤ sizeLine) (.val (.int z.length))
  | .len, [x] => (seqOf S x).map fun ds => .val (.int ds.length)
  | .abs, [.int i] => some (.val (.int (if i < 0 then -i else i)))
  | .int, [.int i] => some (.val (.int i))
  | .int, [.bl k] => some (.val (.int (if k = true then 1 else 0)))
  | .max, [.int i, .int j] => some (.val (.int (if j > i then j else i)))
  | .sum, [x] => match listOf S x with
    | some ds => (sumI ds).map fun i => .val (.int i)
    | none => none
  | .all, [x] => match listOf S x with
    | some ds => (allB S ds).map fun b => .val (.bl b)
    | none => none
  | .list, [x] => (seqOf S x).map fun ds => .newL ds
  | .isinstance, [x, c] => (isiR S x c).map fun b => .val (.bl b)
  | _, _ => none
/-- is it of the method's type? -/
def bmT (f : Bm) (o : D) (S : Sto) : Bool := match f with
  | .append => (listOf S o).isSome
def bmR (f : Bm) (o : D) (xs : List D) (S : Sto) : Option R := match f, o, xs with
  | .append, .ref a, [d] => match lstAt S a with
    | some ds => g? (ds.length < sizeLine) (.upd .non (put S a (.lst (ds ++ [d]))))
    | none => none
  | _, _, _ => none

/-! ### targets -/
mutual
def asgT : MT → D → Env → Option Env
  | .nm i, d, σ => some (σ.set i (some d))
  | .tp ts, .tup ds, σ => asgTs ts ds σ
  | .tp _, _, _ => none
def asgTs : List MT → List D → Env → Option Env
  | [], [], σ => some σ
  | t :: ts, d :: ds, σ => match asgT t d σ with
    | some σ' => asgTs ts ds σ'
    | none => none
  | _, _, _ => none
end

/-! ### contexts -/
structure Exc where
  cls : Str
  fs : List (Str × D)
abbrev DSp := List D → Sto → (D → Sto → Prop) → (Exc → Sto → Prop) → Prop
structure Gc where
  fn : Str → Option (Nat × DSp)
  con : Str → Option D
abbrev XW := Exc → Env → Sto → Prop
def callW (sp : DSp) (ds : List D) (S : Sto) (k : D → Sto → Prop) (x : Exc → Sto → Prop) : Prop :=
  ∃ (Q : D → Sto → Prop) (X : Exc → Sto → Prop), (∀ d S', Q d S' → k d S') ∧ (∀ e S', X e S' → x e S') ∧ sp ds S Q X
/-- what is walked: the items, and what must stand at each turn -/
def itR (x : D) (S : Sto) : Option (List D × (Sto → Prop)) := match x with
  | .lst ds => some (ds, fun _ => True)
  | .tup ds => some (ds, fun _ => True)
  | .str z => some (z.cps.toList.map fun c => .str ⟨#[c]⟩, fun _ => True)
  | .ref a => (lstAt S a).map fun ds => (ds, fun S' => S' a = some (.lst ds))
  | .scr ns => some (ns.map .int, fun _ => True)
  | _ => none
def rngR : List D → Option (List D)
  | [.int j] => g? (-(2 ^ 62) ≤ j ∧ j < 2 ^ 62) ((List.range j.toNat).map fun (k : Nat) => .int (k : Int))
  | [.int i, .int j] => g? (-(2 ^ 62) ≤ i ∧ i < 2 ^ 62 ∧ -(2 ^ 62) ≤ j ∧ j < 2 ^ 62) ((List.range (j - i).toNat).map fun (k : Nat) => .int (i + k))
  | _ => none
def enmL : Nat → List D → List D
  | _, [] => []
  | n, d :: ds => .tup [.int n, d] :: enmL (n + 1) ds
/-- what is walked, by its form: 0 a value, 1 range, 2 enumerate, 3 zip -/
def itS (i : Nat) (xs : List D) (S : Sto) : Option (List D × (Sto → Prop)) := match i, xs with
  | 0, [x] => itR x S
  | 1, xs => (rngR xs).map fun l => (l, fun _ => True)
  | 2, [x] => match listOf S x, itR x S with
    | some _, some its => some (enmL 0 its.1, its.2)
    | _, _ => none
  | _, _ => none
/-- the loop of a comprehension -/
def lcLoop (g : Sto → Prop) (f : D → Sto → (Option D → Sto → Prop) → Prop) : List D → List D → Sto → (List D → Sto → Prop) → Prop
  | [], acc, S, k => g S ∧ k acc S
  | d :: ds, acc, S, k => g S ∧ f d S fun r S' => match r with
    | some y => acc.length < sizeLine ∧ lcLoop g f ds (acc ++ [y]) S' k
    | none => lcLoop g f ds acc S' k

mutual
def wE (G : Gc) (x : XW) : ME → Env → Sto → (D → Sto → Prop) → Prop
  | .var i, σ, S, k => ∃ d, σ[i]? = some (some d) ∧ k d S
  | .cst d, _, S, k => k d S
  | .glo n, _, S, k => ∃ d, G.con n = some d ∧ k d S
  | .bin o m a b, σ, S, k => wE G x a σ S fun u S1 => wE G x b σ S1 fun v S2 => ∃ r, binR o u v S2 = some r ∧ fin m r S2 k
  | .neg a, σ, S, k => wE G x a σ S fun u S1 => ∃ i, u = .int i ∧ k (.int (-i)) S1
  | .not a, σ, S, k => wE G x a σ S fun u S1 => ∃ b, tru S1 u = some b ∧ k (.bl (!b)) S1
  | .cmp o a b, σ, S, k => wE G x a σ S fun u S1 => wE G x b σ S1 fun v S2 => ∃ r, cmpR o u v S2 = some r ∧ k (.bl r) S2
  | .cmp2 o o' a b c, σ, S, k => wE G x a σ S fun u S1 => wE G x b σ S1 fun v S2 => ∃ r, cmpR o u v S2 = some r ∧
      if r = true then wE G x c σ S2 fun z S3 => ∃ r', cmpR o' v z S3 = some r' ∧ k (.bl r') S3 else k (.bl false) S2
  | .and a b, σ, S, k => wE G x a σ S fun u S1 => ∃ c, tru S1 u = some c ∧ if c = true then wE G x b σ S1 k else k u S1
  | .or a b, σ, S, k => wE G x a σ S fun u S1 => ∃ c, tru S1 u = some c ∧ if c = true then k u S1 else wE G x b σ S1 k
  | .ifx c a b, σ, S, k => wE G x c σ S fun u S1 => ∃ z, tru S1 u = some z ∧ if z = true then wE G x a σ S1 k else wE G x b σ S1 k
  | .idx a i, σ, S, k => wE G x a σ S fun u S1 => wE G x i σ S1 fun v S2 => ∃ d, idxR u v S2 = some d ∧ k d S2
  | .slL m a lo, σ, S, k => wE G x a σ S fun u S1 => wE G x lo σ S1 fun v S2 => ∃ i, v = .int i ∧ ∃ r, slcR u (some i) none S2 = some r ∧ fin m r S2 k
  | .slU m a hi, σ, S, k => wE G x a σ S fun u S1 => wE G x hi σ S1 fun v S2 => ∃ i, v = .int i ∧ ∃ r, slcR u none (some i) S2 = some r ∧ fin m r S2 k
  | .slLU m a lo hi, σ, S, k => wE G x a σ S fun u S1 => wE G x lo σ S1 fun v S2 => ∃ i, v = .int i ∧ wE G x hi σ S2 fun z S3 => ∃ j, z = .int j ∧ ∃ r, slcR u (some i) (some j) S3 = some r ∧ fin m r S3 k
  | .tup es, σ, S, k => wEs G x es σ S fun ds S1 => ds.length ≤ sizeLine ∧ k (.tup ds) S1
  | .lst m es, σ, S, k => wEs G x es σ S fun ds S1 => ds.length ≤ sizeLine ∧ fin m (.newL ds) S1 k
  | .blt f m es, σ, S, k => wEs G x es σ S fun ds S1 => ∃ r, bltR f ds S1 = some r ∧ fin m r S1 k
  | .bm f m o es, σ, S, k => wE G x o σ S fun u S1 => bmT f u S1 = true ∧ wEs G x es σ S1 fun ds S2 => ∃ r, bmR f u ds S2 = some r ∧ fin m r S2 k
  | .call f es, σ, S, k => ∃ sp, G.fn f = some (es.length, sp) ∧ wEs G x es σ S fun ds S1 => callW sp ds S1 k fun e S2 => x e σ S2
  | .lc i m t as c e, σ, S, k => wEs G x as σ S fun ds S1 => ∃ its, itS i ds S1 = some its ∧
      lcLoop its.2 (fun d S2 q => ∃ σ', asgT t d σ = some σ' ∧ wC G c σ' S2 fun b S3 => if b = true then wE G (fun _ _ _ => False) e σ' S3 fun y S4 => q (some y) S4 else q none S3) its.1 [] S1 fun acc S2 => fin m (.newL acc) S2 k
  | .frz a, σ, S, k => wE G x a σ S fun u S1 => ∃ p ds, u = .ref p ∧ S1 p = some (.lst ds) ∧ k (.lst ds) (rm S1 p)
def wEs (G : Gc) (x : XW) : List ME → Env → Sto → (List D → Sto → Prop) → Prop
  | [], _, S, k => k [] S
  | e :: es, σ, S, k => wE G x e σ S fun d S1 => wEs G x es σ S1 fun ds S2 => k (d :: ds) S2
/-- the tests of a comprehension -/
def wC (G : Gc) : List ME → Env → Sto → (Bool → Sto → Prop) → Prop
  | [], _, S, k => k true S
  | [c], σ, S, k => wE G (fun _ _ _ => False) c σ S fun u S1 => ∃ b, tru S1 u = some b ∧ k b S1
  | _, _, _, _ => False
end

/-! ### statements -/
structure KS where
  nx : Env → Sto → Prop
  rt : D → Sto → Prop
  bk : Env → Sto → Prop := fun _ _ => False
  ct : Env → Sto → Prop := fun _ _ => False
def forLoop (g : Sto → Prop) (f : D → Env → Sto → KS → Prop) : List D → Env → Sto → KS → Prop
  | [], σ, S, k => g S ∧ k.nx σ S
  | d :: ds, σ, S, k => g S ∧ f d σ S { nx := fun σ' S' => forLoop g f ds σ' S' k, ct := fun σ' S' => forLoop g f ds σ' S' k, rt := k.rt, bk := k.nx }
def augR (o : Operator) (x y : D) : Option D := match o, x, y with
  | .Add, .int i, .int j => some (.int (i + j))
  | .Sub, .int i, .int j => some (.int (i - j))
  | _, _, _ => none
def sixR (o i v : D) (S : Sto) : Option Sto := match o, i with
  | .ref a, .int i => match lstAt S a with
    | some ds => match ixN ds.length i with
      | some j => some (put S a (.lst (ds.set j v)))
      | none => none
    | none => none
  | _, _ => none
mutual
def wS (G : Gc) (x : XW) : MS → Env → Sto → KS → Prop
  | .asg t e, σ, S, k => wE G x e σ S fun d S1 => ∃ σ', asgT t d σ = some σ' ∧ k.nx σ' S1
  | .six o i e, σ, S, k => wE G x e σ S fun v S1 => wE G x o σ S1 fun u S2 => wE G x i σ S2 fun j S3 => ∃ S', sixR u j v S3 = some S' ∧ k.nx σ S'
  | .aug i o e, σ, S, k => ∃ u, σ[i]? = some (some u) ∧ wE G x e σ S fun v S1 => ∃ d, augR o u v = some d ∧ k.nx (σ.set i (some d)) S1
  | .exp e, σ, S, k => wE G x e σ S fun _ S1 => k.nx σ S1
  | .ret e, σ, S, k => wE G x e σ S k.rt
  | .ite c a b, σ, S, k => wE G x c σ S fun u S1 => ∃ z, tru S1 u = some z ∧ if z = true then wSs G x a σ S1 k else wSs G x b σ S1 k
  | .for_ i t as b, σ, S, k => wEs G x as σ S fun ds S1 => ∃ its, itS i ds S1 = some its ∧
      forLoop its.2 (fun d σ2 S2 q => ∃ σ', asgT t d σ2 = some σ' ∧ wSs G x b σ' S2 q) its.1 σ S1 k
  | .whl c b, σ, S, k => ∃ W : Nat → Env → Sto → Prop, (∃ m, W m σ S) ∧ ∀ m σ S, W m σ S → wE G x c σ S fun u S1 => ∃ z, tru S1 u = some z ∧
      if z = true then ∃ N : Env → Sto → Prop, (∀ σ' S', N σ' S' → ∃ m', m' < m ∧ W m' σ' S') ∧ wSs G x b σ S1 { nx := N, ct := N, rt := k.rt, bk := k.nx } else k.nx σ S1
  | .pas, σ, S, k => k.nx σ S
  | .cont, σ, S, k => k.ct σ S
  | .drp i, σ, S, k => ∃ a, σ[i]? = some (some (.ref a)) ∧ k.nx σ (rm S a)
  | .frS i, σ, S, k => ∃ a ds, σ[i]? = some (some (.ref a)) ∧ S a = some (.lst ds) ∧ k.nx (σ.set i (some (.lst ds))) (rm S a)
def wSs (G : Gc) (x : XW) : List MS → Env → Sto → KS → Prop
  | [], σ, S, k => k.nx σ S
  | s :: r, σ, S, k => wS G x s σ S { nx := fun σ' S' => wSs G x r σ' S' k, rt := k.rt, bk := k.bk, ct := k.ct }
end

/-! ### the wish may grow -/
theorem callW_mono {sp : DSp} {ds : List D} {S : Sto} {k k' : D → Sto → Prop} {x x' : Exc → Sto → Prop} (h : ∀ d S', k d S' → k' d S') (hx : ∀ e S', x e S' → x' e S') (q : callW sp ds S k x) : callW sp ds S k' x' := by
  obtain ⟨Q, X, h1, h2, h3⟩ := q
  exact ⟨Q, X, fun d S' z => h _ _ (h1 _ _ z), fun e S' z => hx _ _ (h2 _ _ z), h3⟩
theorem lcLoop_mono {g : Sto → Prop} {f f' : D → Sto → (Option D → Sto → Prop) → Prop} (hf : ∀ d S q q', (∀ r S', q r S' → q' r S') → f d S q → f' d S q') {k k' : List D → Sto → Prop} (h : ∀ d S', k d S' → k' d S') :
    ∀ (ds acc : List D) (S : Sto), lcLoop g f ds acc S k → lcLoop g f' ds acc S k'
  | [], acc, S, q => ⟨q.1, h _ _ q.2⟩
  | d :: ds, acc, S, q => ⟨q.1, hf _ _ _ _ (fun r S' z => by
      cases r with
      | none => exact lcLoop_mono hf h ds acc S' z
      | some y => exact ⟨z.1, lcLoop_mono hf h ds _ S' z.2⟩) q.2⟩
mutual
theorem wE_mono {G : Gc} {x : XW} {k k' : D → Sto → Prop} (h : ∀ d S', k d S' → k' d S') : ∀ (e : ME) (σ : Env) (S : Sto), wE G x e σ S k → wE G x e σ S k'
  | .var i, σ, S, q => by unfold wE at q ⊢; obtain ⟨d, h1, h2⟩ := q; exact ⟨d, h1, h _ _ h2⟩
  | .cst d, σ, S, q => by unfold wE at q ⊢; exact h _ _ q
  | .glo n, σ, S, q => by unfold wE at q ⊢; obtain ⟨d, h1, h2⟩ := q; exact ⟨d, h1, h _ _ h2⟩
  | .bin o m a b, σ, S, q => by
    unfold wE at q ⊢
    refine wE_mono (fun u S1 q => wE_mono (fun v S2 q => ?_) b σ S1 q) a σ S q
    obtain ⟨r, h1, h2⟩ := q
    exact ⟨r, h1, fin_mono h h2⟩
  | .neg a, σ, S, q => by
    unfold wE at q ⊢
    refine wE_mono (fun u S1 q => ?_) a σ S q
    obtain ⟨r, h1, h2⟩ := q
    exact ⟨r, h1, h _ _ h2⟩
  | .not a, σ, S, q => by
    unfold wE at q ⊢
    refine wE_mono (fun u S1 q => ?_) a σ S q
    obtain ⟨r, h1, h2⟩ := q
    exact ⟨r, h1, h _ _ h2⟩
  | .cmp o a b, σ, S, q => by
    unfold wE at q ⊢
    refine wE_mono (fun u S1 q => wE_mono (fun v S2 q => ?_) b σ S1 q) a σ S q
    obtain ⟨r, h1, h2⟩ := q
    exact ⟨r, h1, h _ _ h2⟩
  | .cmp2 o o' a b c, σ, S, q => by
    unfold wE at q ⊢
    refine wE_mono (fun u S1 q => wE_mono (fun v S2 q => ?_) b σ S1 q) a σ S q
    obtain ⟨r, h1, h2⟩ := q
    refine ⟨r, h1, ?_⟩
    split at h2
    · rename_i e; rw [if_pos e]
      refine wE_mono (fun z S3 q => ?_) c σ S2 h2
      obtain ⟨r', h1, h2⟩ := q
      exact ⟨r', h1, h _ _ h2⟩
    · rename_i e; rw [if_neg e]; exact h _ _ h2
  | .and a b, σ, S, q => by
    unfold wE at q ⊢
    refine wE_mono (fun u S1 q => ?_) a σ S q
    obtain ⟨r, h1, h2⟩ := q
    refine ⟨r, h1, ?_⟩
    split at h2
    · rename_i e; rw [if_pos e]; exact wE_mono h b σ S1 h2
    · rename_i e; rw [if_neg e]; exact h _ _ h2
  | .or a b, σ, S, q => by
    unfold wE at q ⊢
    refine wE_mono (fun u S1 q => ?_) a σ S q
    obtain ⟨r, h1, h2⟩ := q
    refine ⟨r, h1, ?_⟩
    split at h2
    · rename_i e; rw [if_pos e]; exact h _ _ h2
    · rename_i e; rw [if_neg e]; exact wE_mono h b σ S1 h2
  | .ifx c a b, σ, S, q => by
    unfold wE at q ⊢
    refine wE_mono (fun u S1 q => ?_) c σ S q
    obtain ⟨r, h1, h2⟩ := q
    refine ⟨r, h1, ?_⟩
    split at h2
    · rename_i e; rw [if_pos e]; exact wE_mono h a σ S1 h2
    · rename_i e; rw [if_neg e]; exact wE_mono h b σ S1 h2
  | .idx a i, σ, S, q => by
    unfold wE at q ⊢
    refine wE_mono (fun u S1 q => wE_mono (fun v S2 q => ?_) i σ S1 q) a σ S q
    obtain ⟨r, h1, h2⟩ := q
    exact ⟨r, h1, h _ _ h2⟩
  | .slL m a lo, σ, S, q => by
    unfold wE at q ⊢
    refine wE_mono (fun u S1 q => wE_mono (fun v S2 q => ?_) lo σ S1 q) a σ S q
    obtain ⟨i, h0, r, h1, h2⟩ := q
    exact ⟨i, h0, r, h1, fin_mono h h2⟩
  | .slU m a lo, σ, S, q => by
    unfold wE at q ⊢
    refine wE_mono (fun u S1 q => wE_mono (fun v S2 q => ?_) lo σ S1 q) a σ S q
    obtain ⟨i, h0, r, h1, h2⟩ := q
    exact ⟨i, h0, r, h1, fin_mono h h2⟩
  | .slLU m a lo hi, σ, S, q => by
    unfold wE at q ⊢
    refine wE_mono (fun u S1 q => wE_mono (fun v S2 q => ?_) lo σ S1 q) a σ S q
    obtain ⟨i, h0, q⟩ := q
    refine ⟨i, h0, wE_mono (fun z S3 q => ?_) hi σ S2 q⟩
    obtain ⟨j, h0, r, h1, h2⟩ := q
    exact ⟨j, h0, r, h1, fin_mono h h2⟩
  | .tup es, σ, S, q => by
    unfold wE at q ⊢
    exact wEs_mono (fun ds S1 q => ⟨q.1, h _ _ q.2⟩) es σ S q
  | .lst m es, σ, S, q => by
    unfold wE at q ⊢
    exact wEs_mono (fun ds S1 q => ⟨q.1, fin_mono h q.2⟩) es σ S q
  | .blt f m es, σ, S, q => by
    unfold wE at q ⊢
    refine wEs_mono (fun ds S1 q => ?_) es σ S q
    obtain ⟨r, h1, h2⟩ := q
    exact ⟨r, h1, fin_mono h h2⟩
  | .bm f m o es, σ, S, q => by
    unfold wE at q ⊢
    refine wE_mono (fun u S1 q => ⟨q.1, wEs_mono (fun ds S2 q => ?_) es σ S1 q.2⟩) o σ S q
    obtain ⟨r, h1, h2⟩ := q
    exact ⟨r, h1, fin_mono h h2⟩
  | .call f es, σ, S, q => by
    unfold wE at q ⊢
    obtain ⟨sp, h1, q⟩ := q
    exact ⟨sp, h1, wEs_mono (fun ds S1 q => callW_mono h (fun _ _ z => z) q) es σ S q⟩
  | .lc i m t as c e, σ, S, q => by
    unfold wE at q ⊢
    refine wEs_mono (fun ds S1 q => ?_) as σ S q
    obtain ⟨its, h1, h2⟩ := q
    refine ⟨its, h1, lcLoop_mono (fun d S2 q q' hq z => ?_) (fun acc S2 z => fin_mono h z) _ _ _ h2⟩
    obtain ⟨σ', e1, z⟩ := z
    refine ⟨σ', e1, wC_mono (fun b S3 z => ?_) c σ' S2 z⟩
    cases b with
    | true => exact wE_mono (fun y S4 z => hq _ _ z) e σ' S3 z
    | false => exact hq _ _ z
  | .frz a, σ, S, q => by
    unfold wE at q ⊢
    refine wE_mono (fun u S1 q => ?_) a σ S q
    obtain ⟨p, ds, h1, h2, h3⟩ := q
    exact ⟨p, ds, h1, h2, h _ _ h3⟩
theorem wEs_mono {G : Gc} {x : XW} {k k' : List D → Sto → Prop} (h : ∀ d S', k d S' → k' d S') : ∀ (es : List ME) (σ : Env) (S : Sto), wEs G x es σ S k → wEs G x es σ S k'
  | [], σ, S, q => by unfold wEs at q ⊢; exact h _ _ q
  | e :: es, σ, S, q => by
    unfold wEs at q ⊢
    exact wE_mono (fun d S1 q => wEs_mono (fun ds S2 q => h _ _ q) es σ S1 q) e σ S q
theorem wC_mono {G : Gc} {k k' : Bool → Sto → Prop} (h : ∀ d S', k d S' → k' d S') : ∀ (es : List ME) (σ : Env) (S : Sto), wC G es σ S k → wC G es σ S k'
  | [], σ, S, q => by unfold wC at q ⊢; exact h _ _ q
  | [c], σ, S, q => by
    unfold wC at q ⊢
    refine wE_mono (fun d S1 q => ?_) c σ S q
    obtain ⟨b, h1, h2⟩ := q
    exact ⟨b, h1, h _ _ h2⟩
  | _ :: _ :: _, σ, S, q => by unfold wC at q; exact q.elim
end
theorem wEs_len {G : Gc} {x : XW} : ∀ (es : List ME) (σ : Env) (S : Sto) (k : List D → Sto → Prop), wEs G x es σ S k → wEs G x es σ S fun ds S' => ds.length = es.length ∧ k ds S'
  | [], σ, S, k, q => by unfold wEs at q ⊢; exact ⟨rfl, q⟩
  | e :: es, σ, S, k, q => by
    unfold wEs at q ⊢
    exact wE_mono (fun d S1 q => wEs_mono (fun ds S2 q => ⟨by rw [List.length_cons, List.length_cons, q.1], q.2⟩) es σ S1 (wEs_len es σ S1 _ q)) e σ S q
structure KS.Le (k k' : KS) : Prop where
  nx : ∀ σ S, k.nx σ S → k'.nx σ S
  rt : ∀ d S, k.rt d S → k'.rt d S
  bk : ∀ σ S, k.bk σ S → k'.bk σ S
  ct : ∀ σ S, k.ct σ S → k'.ct σ S
theorem forLoop_mono {g : Sto → Prop} {f f' : D → Env → Sto → KS → Prop} (hf : ∀ d σ S q q', KS.Le q q' → f d σ S q → f' d σ S q') {k k' : KS} (h : KS.Le k k') :
    ∀ (ds : List D) (σ : Env) (S : Sto), forLoop g f ds σ S k → forLoop g f' ds σ S k'
  | [], σ, S, q => ⟨q.1, h.nx _ _ q.2⟩
  | d :: ds, σ, S, q => by
    refine ⟨q.1, hf _ _ _ _ _ ?_ q.2⟩
    exact ⟨fun σ' S' z => forLoop_mono hf h ds σ' S' z, h.rt, h.nx, fun σ' S' z => forLoop_mono hf h ds σ' S' z⟩
mutual
theorem wS_mono {G : Gc} {x : XW} {k k' : KS} (h : KS.Le k k') : ∀ (s : MS) (σ : Env) (S : Sto), wS G x s σ S k → wS G x s σ S k'
  | .asg t e, σ, S, q => by
    unfold wS at q ⊢
    refine wE_mono (fun d S1 q => ?_) e σ S q
    obtain ⟨σ', h1, h2⟩ := q
    exact ⟨σ', h1, h.nx _ _ h2⟩
  | .six o i e, σ, S, q => by
    unfold wS at q ⊢
    refine wE_mono (fun d S1 q => wE_mono (fun u S2 q => wE_mono (fun j S3 q => ?_) i σ S2 q) o σ S1 q) e σ S q
    obtain ⟨σ', h1, h2⟩ := q
    exact ⟨σ', h1, h.nx _ _ h2⟩
  | .aug i o e, σ, S, q => by
    unfold wS at q ⊢
    obtain ⟨u, h0, q⟩ := q
    refine ⟨u, h0, wE_mono (fun d S1 q => ?_) e σ S q⟩
    obtain ⟨σ', h1, h2⟩ := q
    exact ⟨σ', h1, h.nx _ _ h2⟩
  | .exp e, σ, S, q => by unfold wS at q ⊢; exact wE_mono (fun d S1 q => h.nx _ _ q) e σ S q
  | .ret e, σ, S, q => by unfold wS at q ⊢; exact wE_mono (fun d S1 q => h.rt _ _ q) e σ S q
  | .ite c a b, σ, S, q => by
    unfold wS at q ⊢
    refine wE_mono (fun d S1 q => ?_) c σ S q
    obtain ⟨z, h1, h2⟩ := q
    refine ⟨z, h1, ?_⟩
    split at h2
    · rename_i e; rw [if_pos e]; exact wSs_mono h a σ S1 h2
    · rename_i e; rw [if_neg e]; exact wSs_mono h b σ S1 h2
  | .for_ i t as b, σ, S, q => by
    unfold wS at q ⊢
    refine wEs_mono (fun ds S1 q => ?_) as σ S q
    obtain ⟨its, h1, h2⟩ := q
    refine ⟨its, h1, forLoop_mono (fun d σ2 S2 q q' hq z => ?_) h _ _ _ h2⟩
    obtain ⟨σ', e1, z⟩ := z
    exact ⟨σ', e1, wSs_mono hq b σ' S2 z⟩
  | .whl c b, σ, S, q => by
    unfold wS at q ⊢
    obtain ⟨W, h0, q⟩ := q
    refine ⟨W, h0, fun m σ S w => wE_mono (fun u S1 q => ?_) c σ S (q m σ S w)⟩
    obtain ⟨z, h1, h2⟩ := q
    refine ⟨z, h1, ?_⟩
    split at h2
    · rename_i e; rw [if_pos e]
      obtain ⟨N, hN, h2⟩ := h2
      refine ⟨N, hN, wSs_mono ?_ b σ S1 h2⟩
      exact ⟨fun _ _ z => z, h.rt, h.nx, fun _ _ z => z⟩
    · rename_i e; rw [if_neg e]; exact h.nx _ _ h2
  | .pas, σ, S, q => by unfold wS at q ⊢; exact h.nx _ _ q
  | .cont, σ, S, q => by unfold wS at q ⊢; exact h.ct _ _ q
  | .drp i, σ, S, q => by unfold wS at q ⊢; obtain ⟨a, h1, h2⟩ := q; exact ⟨a, h1, h.nx _ _ h2⟩
  | .frS i, σ, S, q => by unfold wS at q ⊢; obtain ⟨a, ds, h1, h2, h3⟩ := q; exact ⟨a, ds, h1, h2, h.nx _ _ h3⟩
theorem wSs_mono {G : Gc} {x : XW} {k k' : KS} (h : KS.Le k k') : ∀ (ss : List MS) (σ : Env) (S : Sto), wSs G x ss σ S k → wSs G x ss σ S k'
  | [], σ, S, q => by unfold wSs at q ⊢; exact h.nx _ _ q
  | s :: r, σ, S, q => by
    unfold wSs at q ⊢
    refine wS_mono ?_ s σ S q
    exact ⟨fun σ' S' z => wSs_mono h r σ' S' z, h.rt, h.bk, h.ct⟩
end
end Mn

namespace Mn
open PySem L2

abbrev cc (X : Cx) (ga : Str → Addr) (Z : Addr → Prop) : Cc := ⟨X.K, ga, Z⟩
abbrev W1 := Env → Sto → (D → Sto → Prop) → Prop
/-- what the caller's wish looks like from here -/
def kD (C : Cc) (H : Hp) (S : Sto) (Q : VK) : D → Sto → Prop := fun d S' => ∀ H' v, Rp C H' S' → Ext H S H' S' → RelD C H' S' d v → Q v H'
def tD (C : Cc) (H0 : Hp) (S0 : Sto) (f : W1) : TE := fun σ H Q => ∃ (σd : Env) (S : Sto), RelS C H S σd σ ∧ Rp C H S ∧ Ext H0 S0 H S ∧ f σd S (kD C H S Q)
def kDs (C : Cc) (H : Hp) (S : Sto) (Q : List V → Hp → Prop) : List D → Sto → Prop := fun ds S' => ∀ H' vs, Rp C H' S' → Ext H S H' S' → RelDs C H' S' ds vs → Q vs H'
def tDA (C : Cc) (H0 : Hp) (S0 : Sto) (f : Env → Sto → (List D → Sto → Prop) → Prop) : TA := fun σ H Q => ∃ (σd : Env) (S : Sto), RelS C H S σd σ ∧ Rp C H S ∧ Ext H0 S0 H S ∧ f σd S (kDs C H S Q)
theorem kD_ext {C : Cc} {H H1 : Hp} {S S1 : Sto} {Q : VK} (e : Ext H S H1 S1) {d : D} {S' : Sto} (h : kD C H S Q d S') : kD C H1 S1 Q d S' := fun H' v rp ex r => h H' v rp (e.trans ex) r
theorem PE.imp {X : Cx} {e : Expr} {t t' : TE} (h : PE X e t) (i : ∀ σ H Q, t' σ H Q → t σ H Q) : PE X e t' := ⟨fun pins s σ H Q I q => h.run pins s σ H Q I (i σ H Q q)⟩
theorem PT.imp {X : Cx} {e : Expr} {t t' : TT} (h : PT X e t) (i : ∀ σ H Q, t' σ H Q → t σ H Q) : PT X e t' := ⟨fun pins s σ H Q I q => h.run pins s σ H Q I (i σ H Q q)⟩
theorem PW.imp {X : Cx} {e : Expr} {t t' : TT} (h : PW X e t) (i : ∀ σ H Q, t' σ H Q → t σ H Q) : PW X e t' := ⟨fun wh pins s σ H Q I q => h.run wh pins s σ H Q I (i σ H Q q)⟩
theorem PA.imp {X : Cx} {e : List Expr} {t t' : TA} (h : PA X e t) (i : ∀ σ H Q, t' σ H Q → t σ H Q) : PA X e t' := ⟨fun pos pins s σ H Q I q => h.run pos pins s σ H Q I (i σ H Q q)⟩
theorem PS.imp {X : Cx} {e : Stmt} {t t' : TS} (h : PS X e t) (i : ∀ D σ H, t' D σ H → t D σ H) : PS X e t' := ⟨fun pins s σ H D I q => h.run pins s σ H D I (i D σ H q)⟩
theorem PSs.imp {X : Cx} {e : List Stmt} {t t' : TS} (h : PSs X e t) (i : ∀ D σ H, t' D σ H → t D σ H) : PSs X e t' := ⟨fun pins s σ H D I q => h.run pins s σ H D I (i D σ H q)⟩

/-! ### operations by values -/
abbrev F2 := D → D → Sto → (D → Sto → Prop) → Prop
def rD2 (C : Cc) (f : F2) : R2 := fun x y H Q => ∃ u v S, Rp C H S ∧ RelD C H S u x ∧ RelD C H S v y ∧ f u v S (kD C H S Q)
def rD1 (C : Cc) (f : D → Sto → (D → Sto → Prop) → Prop) : V → Hp → VK → Prop := fun x H Q => ∃ u S, Rp C H S ∧ RelD C H S u x ∧ f u S (kD C H S Q)
def rDc (C : Cc) (f : List D → Sto → (D → Sto → Prop) → Prop) : List V → Hp → VK → Prop := fun xs H Q => ∃ us S, Rp C H S ∧ RelDs C H S us xs ∧ f us S (kD C H S Q)
def rDm (C : Cc) (f : D → List D → Sto → (D → Sto → Prop) → Prop) : V → List V → Hp → VK → Prop := fun x xs H Q => ∃ u us S, Rp C H S ∧ RelD C H S u x ∧ RelDs C H S us xs ∧ f u us S (kD C H S Q)
section
variable {C : Cc} {H0 : Hp} {S0 : Sto} {G : Gc} {x : XW}
theorem tD_one {a : ME} {f : D → Sto → (D → Sto → Prop) → Prop} (hf : ∀ u S k k', (∀ d S', k d S' → k' d S') → f u S k → f u S k') {σ : St} {H : Hp} {Q : VK} (h : tD C H0 S0 (fun σ S k => wE G x a σ S fun u S1 => f u S1 k) σ H Q) :
    tD C H0 S0 (wE G x a) σ H fun z H1 => rD1 C f z H1 Q := by
  obtain ⟨σd, S, rs, rp, ex, w⟩ := h
  exact ⟨σd, S, rs, rp, ex, wE_mono (fun u S1 q H1 z rp1 e1 r1 => ⟨u, S1, rp1, r1, hf _ _ _ _ (fun d S' => kD_ext e1) q⟩) a σd S w⟩
theorem tD_two {a b : ME} {f : F2} (hf : ∀ u v S k k', (∀ d S', k d S' → k' d S') → f u v S k → f u v S k') {σ : St} {H : Hp} {Q : VK} (h : tD C H0 S0 (fun σ S k => wE G x a σ S fun u S1 => wE G x b σ S1 fun v S2 => f u v S2 k) σ H Q) :
    tOp (rD2 C f) (tD C H0 S0 (wE G x a)) (tD C H0 S0 (wE G x b)) σ H Q := by
  obtain ⟨σd, S, rs, rp, ex, w⟩ := h
  exact ⟨σd, S, rs, rp, ex, wE_mono (fun u S1 q H1 z rp1 e1 r1 => ⟨σd, S1, rs.ext e1, rp1, ex.trans e1, wE_mono (fun v S2 q H2 z2 rp2 e2 r2 =>
    ⟨u, v, S2, rp2, r1.ext e2, r2, hf _ _ _ _ _ (fun d S' => kD_ext (e1.trans e2)) q⟩) b σd S1 q⟩) a σd S w⟩
theorem tD_args {es : List ME} {f : List D → Sto → (D → Sto → Prop) → Prop} (hf : ∀ u S k k', (∀ d S', k d S' → k' d S') → f u S k → f u S k') {σ : St} {H : Hp} {Q : VK} (h : tD C H0 S0 (fun σ S k => wEs G x es σ S fun u S1 => f u S1 k) σ H Q) :
    tCB (rDc C f) (tDA C H0 S0 (wEs G x es)) σ H Q := by
  obtain ⟨σd, S, rs, rp, ex, w⟩ := h
  exact ⟨σd, S, rs, rp, ex, wEs_mono (fun u S1 q H1 z rp1 e1 r1 => ⟨u, S1, rp1, r1, hf _ _ _ _ (fun d S' => kD_ext e1) q⟩) es σd S w⟩
end
/-- the end of an operation: a value as it stands -/
theorem kD_val {C : Cc} {H : Hp} {S : Sto} {Q : VK} {d : D} {v : V} (rp : Rp C H S) (h : kD C H S Q d S) (r : RelD C H S d v) : Q v H := h H v rp (Ext.refl _ _) r
/-- a new list -/
theorem fin_new {C : Cc} {H : Hp} {S : Sto} {Q : VK} {m : Bool} {ds : List D} {vs : List V} (rp : Rp C H S) (h : fin m (.newL ds) S (kD C H S Q)) (r : RelDs C H S ds vs) : ∀ p, H p = none → Q (.ref p) (upd H p (.lst vs)) := by
  intro p hp
  cases m with
  | true =>
    refine h p (rp.free hp) _ (.ref p) (rp.newM hp ⟨vs, rfl, r.ext (Ext.newM hp)⟩) (Ext.newM hp) ?_
    unfold RelD; rfl
  | false =>
    refine h _ (.ref p) (rp.new hp) (Ext.new hp) ?_
    unfold RelD
    exact ⟨p, vs, rfl, ⟨upd_same, rp.free hp, rp.nz hp⟩, r.ext (Ext.new hp)⟩
/-- a new tuple -/
theorem kD_tup {C : Cc} {H : Hp} {S : Sto} {Q : VK} {ds : List D} {vs : List V} (rp : Rp C H S) (h : kD C H S Q (.tup ds) S) (r : RelDs C H S ds vs) : ∀ p, H p = none → Q (.ref p) (upd H p (.tup vs)) := by
  intro p hp
  refine h _ (.ref p) (rp.new hp) (Ext.new hp) ?_
  unfold RelD
  exact ⟨p, vs, rfl, .inl ⟨upd_same, rp.free hp⟩, r.ext (Ext.new hp)⟩

/-! ### data as lists -/
section
variable {C : Cc} {H : Hp} {S : Sto}
theorem RelDs.len : ∀ {ds : List D} {vs : List V}, RelDs C H S ds vs → vs.length = ds.length
  | [], _, h => by unfold RelDs at h; rw [h]; rfl
  | d :: ds, _, h => by unfold RelDs at h; obtain ⟨v, r, rfl, _, h2⟩ := h; simp [RelDs.len h2]
theorem RelDs.nil : RelDs C H S [] [] := by unfold RelDs; rfl
theorem RelDs.cons {d : D} {v : V} {ds : List D} {vs : List V} (a : RelD C H S d v) (b : RelDs C H S ds vs) : RelDs C H S (d :: ds) (v :: vs) := by unfold RelDs; exact ⟨v, vs, rfl, a, b⟩
theorem RelDs.app : ∀ {ds es : List D} {vs ws : List V}, RelDs C H S ds vs → RelDs C H S es ws → RelDs C H S (ds ++ es) (vs ++ ws)
  | [], es, _, ws, h, q => by unfold RelDs at h; rw [h]; exact q
  | d :: ds, es, _, ws, h, q => by unfold RelDs at h; obtain ⟨v, r, rfl, h1, h2⟩ := h; exact RelDs.cons h1 (RelDs.app h2 q)
theorem RelDs.drop : ∀ {ds : List D} {vs : List V} (n : Nat), RelDs C H S ds vs → RelDs C H S (ds.drop n) (vs.drop n)
  | ds, vs, 0, h => h
  | [], _, n + 1, h => by unfold RelDs at h; rw [h]; exact RelDs.nil
  | d :: ds, _, n + 1, h => by unfold RelDs at h; obtain ⟨v, r, rfl, h1, h2⟩ := h; exact RelDs.drop n h2
theorem RelDs.take : ∀ {ds : List D} {vs : List V} (n : Nat), RelDs C H S ds vs → RelDs C H S (ds.take n) (vs.take n)
  | ds, vs, 0, h => RelDs.nil
  | [], _, n + 1, h => by unfold RelDs at h; rw [h]; exact RelDs.nil
  | d :: ds, _, n + 1, h => by unfold RelDs at h; obtain ⟨v, r, rfl, h1, h2⟩ := h; exact RelDs.cons h1 (RelDs.take n h2)
theorem RelDs.get : ∀ {ds : List D} {vs : List V} {i : Nat} {d : D}, RelDs C H S ds vs → ds[i]? = some d → ∃ v, vs[i]? = some v ∧ RelD C H S d v
  | [], _, i, d, h, e => by simp at e
  | d' :: ds, _, 0, d, h, e => by unfold RelDs at h; obtain ⟨v, r, rfl, h1, h2⟩ := h; simp at e; subst e; exact ⟨v, rfl, h1⟩
  | d' :: ds, _, i + 1, d, h, e => by
    unfold RelDs at h; obtain ⟨v, r, rfl, h1, h2⟩ := h
    obtain ⟨w, h3, h4⟩ := RelDs.get (i := i) (d := d) h2 (by simpa using e)
    exact ⟨w, by simpa using h3, h4⟩
theorem RelDs.set : ∀ {ds : List D} {vs : List V} (i : Nat) {d : D} {v : V}, RelDs C H S ds vs → RelD C H S d v → RelDs C H S (ds.set i d) (vs.set i v)
  | [], _, i, d, v, h, e => by unfold RelDs at h; rw [h]; exact RelDs.nil
  | d' :: ds, _, 0, d, v, h, e => by unfold RelDs at h; obtain ⟨w, r, rfl, h1, h2⟩ := h; exact RelDs.cons e h2
  | d' :: ds, _, i + 1, d, v, h, e => by unfold RelDs at h; obtain ⟨w, r, rfl, h1, h2⟩ := h; exact RelDs.cons h1 (RelDs.set i h2 e)
theorem RelDs.atI {ds : List D} {vs : List V} {i : Int} {d : D} (h : RelDs C H S ds vs) (e : L2.atI ds i = some d) : ∃ v, L2.atI vs i = some v ∧ RelD C H S d v := by
  unfold L2.atI at e ⊢
  rw [h.len]
  cases q : ixN ds.length i with
  | none => rw [q] at e; cases e
  | some j =>
    rw [q] at e
    exact h.get (show ds[j]? = some d from e)
theorem RelDs.cut {ds : List D} {vs : List V} (lo hi : Option Int) (h : RelDs C H S ds vs) : RelDs C H S (cutD ds lo hi) (cutV vs lo hi) := by
  unfold cutD cutV
  rw [h.len]
  exact (h.drop _).take _
/-- a list: frozen or in the store -/
theorem listOf_sq (rp : Rp C H S) {d : D} {v : V} {ds : List D} (r : RelD C H S d v) (e : listOf S d = some ds) : ∃ a vs, v = .ref a ∧ H a = some (.lst vs) ∧ RelDs C H S ds vs := by
  cases d with
  | lst es =>
    cases e
    unfold RelD at r
    obtain ⟨a, vs, rfl, f, q⟩ := r
    exact ⟨a, vs, rfl, f.1, q⟩
  | ref a =>
    unfold RelD at r
    subst r
    obtain ⟨o, h1, h2⟩ := rp.obj a _ (lstAt_some (show lstAt S a = some ds from e))
    obtain ⟨vs, rfl, q⟩ := h2
    exact ⟨a, vs, rfl, h1, q⟩
  | _ => cases e
theorem seqOf_sq (rp : Rp C H S) {d : D} {v : V} {ds : List D} (r : RelD C H S d v) (e : seqOf S d = some ds) : ∃ a vs, v = .ref a ∧ (SqL C.K H a vs ∨ SqT C.K H a vs) ∧ RelDs C H S ds vs := by
  cases d with
  | lst es =>
    cases e
    unfold RelD at r
    obtain ⟨a, vs, rfl, f, q⟩ := r
    exact ⟨a, vs, rfl, .inl f.sq, q⟩
  | tup es =>
    cases e
    unfold RelD at r
    obtain ⟨a, vs, rfl, f, q⟩ := r
    exact ⟨a, vs, rfl, .inr f.sq, q⟩
  | ref a =>
    unfold RelD at r
    subst r
    obtain ⟨o, h1, h2⟩ := rp.obj a _ (lstAt_some (show lstAt S a = some ds from e))
    obtain ⟨vs, rfl, q⟩ := h2
    exact ⟨a, vs, rfl, .inl (.of h1), q⟩
  | _ => cases e
theorem RelD.strOk {x : Str} {v : V} (r : RelD C H S (.str x) v) : PySem.PyData.strOk x = true := by unfold RelD at r; exact r.2
mutual
theorem toPy_dp : ∀ {d : D} {v : V}, RelD C H S d v → pureD d = true → Dp C.K H v (toPy d) ∧ (toPy d).canLay0 = true ∧ (toPy d).depth = dep d
  | .non, _, h, e => by unfold RelD at h; subst h; exact ⟨.non, rfl, rfl⟩
  | .bl b, _, h, e => by unfold RelD at h; subst h; exact ⟨.bl b, rfl, rfl⟩
  | .int b, _, h, e => by unfold RelD at h; subst h; exact ⟨.int b, rfl, rfl⟩
  | .str b, _, h, e => by unfold RelD at h; obtain ⟨rfl, h⟩ := h; exact ⟨.str b, by unfold toPy PyData.canLay0; exact h, rfl⟩
  | .ty _, _, h, e => by unfold pureD at e; cases e
  | .ref _, _, h, e => by unfold pureD at e; cases e
  | .scr _, _, h, e => by unfold pureD at e; cases e
  | .tup ds, _, h, e => by
    unfold RelD at h; unfold pureD at e
    obtain ⟨a, vs, rfl, f, q⟩ := h
    obtain ⟨h1, h2, h3⟩ := toPys_dp q e
    unfold toPy dep
    refine ⟨.tup f.sq h1, by unfold PyData.canLay0; exact h2, ?_⟩
    unfold PyData.depth; rw [h3]
  | .lst ds, _, h, e => by
    unfold RelD at h; unfold pureD at e
    obtain ⟨a, vs, rfl, f, q⟩ := h
    obtain ⟨h1, h2, h3⟩ := toPys_dp q e
    unfold toPy dep
    refine ⟨.lst f.sq h1, by unfold PyData.canLay0; exact h2, ?_⟩
    unfold PyData.depth; rw [h3]
theorem toPys_dp : ∀ {ds : List D} {vs : List V}, RelDs C H S ds vs → pureDs ds = true → DpAll C.K H vs (toPys ds) ∧ PyData.canLayAll0 (toPys ds) = true ∧ PyData.depthAll (toPys ds) = deps ds
  | [], _, h, e => by unfold RelDs at h; subst h; exact ⟨.nil, rfl, rfl⟩
  | d :: ds, _, h, e => by
    unfold RelDs at h; unfold pureDs at e
    obtain ⟨v, r, rfl, h1, h2⟩ := h
    obtain ⟨e1, e2⟩ := Bool.and_eq_true_iff.mp e
    obtain ⟨a1, a2, a3⟩ := toPy_dp h1 e1
    obtain ⟨b1, b2, b3⟩ := toPys_dp h2 e2
    unfold toPys deps
    refine ⟨.cons a1 b1, by unfold PyData.canLayAll0; rw [a2, b2]; rfl, by unfold PyData.depthAll; rw [a3, b3]⟩
end
theorem top_dp (rp : Rp C H S) {d : D} {v : V} (r : RelD C H S d v) (e : pureD (top S d) = true) : Dp C.K H v (toPy (top S d)) ∧ (toPy (top S d)).canLay0 = true ∧ (toPy (top S d)).depth = dep (top S d) := by
  cases d with
  | ref a =>
    unfold RelD at r
    subst r
    cases h : lstAt S a with
    | none =>
      have q : top S (.ref a) = .ref a := by simp only [top, h]
      rw [q] at e; unfold pureD at e; cases e
    | some ds =>
      have q : top S (.ref a) = .lst ds := by simp only [top, h]
      rw [q] at e ⊢
      unfold pureD at e
      obtain ⟨o, h2, h3⟩ := rp.obj a _ (lstAt_some h)
      obtain ⟨vs, rfl, z⟩ := h3
      obtain ⟨h1, h4, h5⟩ := toPys_dp z e
      unfold toPy dep
      refine ⟨.lst (.of h2) h1, by unfold PyData.canLay0; exact h4, ?_⟩
      unfold PyData.depth; rw [h5]
  | _ => exact toPy_dp r e
theorem flat_rel {d : D} {v : V} (r : RelD C H S d v) (f : flat d = true) : flatV v = true := by
  cases d with
  | non => unfold RelD at r; subst r; rfl
  | bl b => unfold RelD at r; subst r; rfl
  | int b => unfold RelD at r; subst r; rfl
  | str b => unfold RelD at r; rw [r.1]; rfl
  | _ => cases f
theorem flat_eq {d e : D} {v w : V} (r : RelD C H S d v) (q : RelD C H S e w) (f : flat d = true) (g : flat e = true) : eqV v w = deq d e := by
  cases d with
  | non => cases e with
    | non => unfold RelD at r q; subst r q; rfl
    | bl b => unfold RelD at r q; subst r q; rfl
    | int b => unfold RelD at r q; subst r q; rfl
    | str b => unfold RelD at r q; rw [r, q.1]; rfl
    | _ => cases g
  | bl b => cases e with
    | non => unfold RelD at r q; subst r q; rfl
    | bl b => unfold RelD at r q; subst r q; rfl
    | int b => unfold RelD at r q; subst r q; rfl
    | str b => unfold RelD at r q; rw [r, q.1]; rfl
    | _ => cases g
  | int b => cases e with
    | non => unfold RelD at r q; subst r q; rfl
    | bl b => unfold RelD at r q; subst r q; rfl
    | int b => unfold RelD at r q; subst r q; rfl
    | str b => unfold RelD at r q; rw [r, q.1]; rfl
    | _ => cases g
  | str b => cases e with
    | non => unfold RelD at r q; rw [r.1, q]; rfl
    | bl b => unfold RelD at r q; rw [r.1, q]; rfl
    | int b => unfold RelD at r q; rw [r.1, q]; rfl
    | str b => unfold RelD at r q; rw [r.1, q.1]; rfl
    | _ => cases g
  | _ => cases f
theorem flats_in {x : D} {v : V} (r : RelD C H S x v) (f : flat x = true) : ∀ {ds : List D} {vs : List V}, RelDs C H S ds vs → ds.all flat = true → vs.all flatV = true ∧ inV v vs = ds.any fun z => deq z x
  | [], _, h, _ => by unfold RelDs at h; subst h; exact ⟨rfl, rfl⟩
  | d :: ds, _, h, e => by
    unfold RelDs at h
    obtain ⟨w, l, rfl, h1, h2⟩ := h
    rw [List.all_cons] at e
    obtain ⟨e1, e2⟩ := Bool.and_eq_true_iff.mp e
    obtain ⟨a1, a2⟩ := flats_in r f h2 e2
    refine ⟨by rw [List.all_cons, flat_rel h1 e1, a1]; rfl, ?_⟩
    unfold inV at a2 ⊢
    rw [List.any_cons, List.any_cons, a2, flat_eq h1 r e1 f]
end
end Mn

namespace Mn
open PySem L2
/-! ### operations keep their word -/
theorem g?_some {α : Type} {c : Prop} [Decidable c] {r r' : α} (h : g? c r = some r') : c ∧ r = r' := by
  unfold g? at h
  split at h
  · rename_i q; exact ⟨q, Option.some.inj h⟩
  · cases h
theorem rel_int {C : Cc} {H : Hp} {S : Sto} {i : Int} {v : V} (r : RelD C H S (.int i) v) : v = .int i := by unfold RelD at r; exact r
theorem rel_str {C : Cc} {H : Hp} {S : Sto} {i : Str} {v : V} (r : RelD C H S (.str i) v) : v = .str i := by unfold RelD at r; exact r.1
theorem mk_int {C : Cc} {H : Hp} {S : Sto} {i : Int} : RelD C H S (.int i) (.int i) := by unfold RelD; rfl
theorem mk_bl {C : Cc} {H : Hp} {S : Sto} {i : Bool} : RelD C H S (.bl i) (.bl i) := by unfold RelD; rfl
theorem mk_non {C : Cc} {H : Hp} {S : Sto} : RelD C H S .non .non := by unfold RelD; rfl
theorem mk_str {C : Cc} {H : Hp} {S : Sto} {i : Str} (h : PySem.PyData.strOk i = true) : RelD C H S (.str i) (.str i) := by unfold RelD; exact ⟨rfl, h⟩
def strB (x : Str) : Bool := PySem.PyData.strOk x
theorem strOk_list {l : List Nat} : PySem.PyData.strOk ⟨l.toArray⟩ = l.all (fun c => decide (c < 0x110000)) := by
  show l.toArray.all (fun c => decide (c < 0x110000)) = _
  simp
theorem strOk_iff {x : Str} : PySem.PyData.strOk x = true ↔ ∀ c ∈ x.cps.toList, c < 0x110000 := by
  show x.cps.all (fun c => decide (c < 0x110000)) = true ↔ _
  rw [← Array.all_toList, List.all_eq_true]
  simp
theorem strOk_app {x y : Str} (h1 : PySem.PyData.strOk x = true) (h2 : PySem.PyData.strOk y = true) : PySem.PyData.strOk (x ++ y) = true := by
  rw [strOk_iff] at *
  intro c hc
  have e : (x ++ y).cps = x.cps ++ y.cps := rfl
  rw [e, Array.toList_append, List.mem_append] at hc
  rcases hc with hc | hc
  · exact h1 c hc
  · exact h2 c hc
theorem strOk_sign {x : Str} {c : Nat} (h : PySem.PyData.strOk x = true) (hc : c ∈ x.cps.toList) : PySem.PyData.strOk ⟨#[c]⟩ = true := by
  rw [strOk_iff] at *
  intro d hd
  have : d = c := by simpa using hd
  rw [this]; exact h c hc
theorem strOk_cut {x : Str} (lo hi : Option Int) (h : PySem.PyData.strOk x = true) : PySem.PyData.strOk (cutS x lo hi) = true := by
  rw [strOk_iff] at *
  intro c hc
  unfold cutS at hc
  exact h c (List.mem_of_mem_drop (List.mem_of_mem_take (by simpa using hc)))
theorem atI_mem {α : Type} {l : List α} {i : Int} {c : α} (h : atI l i = some c) : c ∈ l := by
  unfold atI at h
  obtain ⟨j, _, h⟩ := Option.bind_eq_some_iff.mp h
  exact List.mem_of_getElem? h
section
variable {X : Cx} {ga : Str → Addr} {Z : Addr → Prop}
theorem foldl_app {α : Type} : ∀ (l : List (Array α)) (a : Array α), (l.foldl (· ++ ·) a).toList = a.toList ++ (l.map Array.toList).flatten
  | [], a => by simp
  | b :: l, a => by
    rw [List.foldl_cons, foldl_app l]
    simp
theorem repS_list (x : Str) (n : Nat) : (repS x n).cps.toList = (List.replicate n x.cps.toList).flatten := by
  unfold repS
  rw [foldl_app]
  simp
theorem repS_ok {x : Str} {n : Nat} (h : PySem.PyData.strOk x = true) : PySem.PyData.strOk (repS x n) = true := by
  unfold PySem.PyData.strOk at h ⊢
  rw [← Array.all_toList] at h ⊢
  rw [repS_list]
  rw [List.all_eq_true] at h ⊢
  intro c hc
  obtain ⟨l, h1, h2⟩ := List.mem_flatten.mp hc
  rw [(List.mem_replicate.mp h1).2] at h2
  exact h c h2
theorem rel_reps {C : Cc} {H : Hp} {S : Sto} {ds : List D} {vs : List V} (r : RelDs C H S ds vs) : ∀ n : Nat, RelDs C H S (List.replicate n ds).flatten (List.replicate n vs).flatten
  | 0 => RelDs.nil
  | n + 1 => by
    rw [List.replicate_succ, List.replicate_succ, List.flatten_cons, List.flatten_cons]
    exact r.app (rel_reps r n)
theorem mul_strR {pins : List (Addr × Obj)} {s : Shared} {σ : St} {H : Hp} {z : Str} {n : Int} {v u : Value} {Q : VK} (I : Inv X pins σ H s) (rx : RelV (.str z) v) (ry : RelV (.int n) u) (h1 : 1 ≤ n) (h2 : n ≤ 1000) (h3 : z.length ≤ 1000) (q : Q (.str (repS z n.toNat)) H) : wpAny (model X.prog X.w) X.A (binaryOp .Mult v u) (EP X pins σ Q) X.xe s := by
  obtain ⟨t, rfl⟩ := rx
  obtain ⟨t', rfl⟩ := ry
  have hz : z.length * n.toNat ≤ 1000000 := Nat.mul_le_mul h3 (show n.toNat ≤ 1000 by omega)
  refine P.mul_str ?_ (fun _ _ hb => ?_) (fun _ _ => ?_) ?_
  · rw [decide_eq_false (by omega), decide_eq_false (by omega)]; rfl
  · have : (1000 : Int) ≤ (2 ^ 63 - 1) / n := (Int.le_ediv_iff_mul_le (by omega)).mpr (by omega)
    omega
  · unfold PySem.Builtin.Str.tooLong
    exact decide_eq_false (by have : sizeLine = 16777216 := rfl; omega)
  · rw [if_neg (by omega)]
    split
    · rename_i hc
      have e : repS z n.toNat = z := by
        have hl : (repS z n.toNat).cps.toList = z.cps.toList := by
          rw [repS_list]
          rcases Bool.or_eq_true_iff.mp hc with h | h
          · have : n = 1 := by simpa using h
            subst this
            simp
          · have h : z.length = 0 := by simpa using h
            have : z.cps.toList = [] := List.length_eq_zero_iff.mp (by simpa [Str.length] using h)
            rw [this]
            simp
        have : (repS z n.toNat).cps = z.cps := Array.toList_inj.mp hl
        cases z
        unfold repS at this ⊢
        exact congrArg Str.mk this
      rw [e] at q
      exact ⟨.str z, H, I, ⟨_, rfl⟩, q⟩
    · refine ⟨?_, .str _, H, I.tok _, ⟨_, rfl⟩, q⟩
      show (repS z n.toNat).length ≤ sizeLine
      have e : (repS z n.toNat).length = (repS z n.toNat).cps.toList.length := by simp [Str.length]
      rw [e, repS_list]
      simp only [List.length_flatten, List.map_replicate, List.sum_replicate_nat, Array.length_toList]
      have : sizeLine = 16777216 := rfl
      have hz' : z.cps.size * n.toNat ≤ 1000000 := hz
      rw [Nat.mul_comm] at hz'
      omega
theorem binOk (o : Operator) (m : Bool) : OpR X (binaryOp o) (rD2 (cc X ga Z) fun u v S k => ∃ r, binR o u v S = some r ∧ fin m r S k) := by
  intro pins s σ H x y v u Q I rx ry h
  obtain ⟨d, e, S, rp, r1, r2, r, hb, hf⟩ := h
  unfold binR at hb
  split at hb
  · cases hb; cases rel_int r1; cases rel_int r2
    exact op_add pins s σ H _ _ v u Q I rx ry ⟨_, _, rfl, rfl, kD_val rp hf mk_int⟩
  · cases hb; cases rel_int r1; cases rel_int r2
    exact op_sub pins s σ H _ _ v u Q I rx ry ⟨_, _, rfl, rfl, kD_val rp hf mk_int⟩
  · obtain ⟨c, rfl⟩ := g?_some hb; cases rel_int r1; cases rel_int r2
    exact op_mul pins s σ H _ _ v u Q I rx ry ⟨_, _, rfl, rfl, c, kD_val rp hf mk_int⟩
  · obtain ⟨c, rfl⟩ := g?_some hb; cases rel_int r1; cases rel_int r2
    exact op_fdiv pins s σ H _ _ v u Q I rx ry ⟨_, _, rfl, rfl, c, kD_val rp hf mk_int⟩
  · obtain ⟨c, rfl⟩ := g?_some hb; cases rel_int r1; cases rel_int r2
    exact op_mod pins s σ H _ _ v u Q I rx ry ⟨_, _, rfl, rfl, c, kD_val rp hf mk_int⟩
  · obtain ⟨c, rfl⟩ := g?_some hb; cases rel_int r1; cases rel_int r2
    exact op_pow pins s σ H _ _ v u Q I rx ry ⟨_, _, rfl, rfl, c, kD_val rp hf mk_int⟩
  · obtain ⟨c, rfl⟩ := g?_some hb
    have q1 := r1.strOk; have q2 := r2.strOk
    cases rel_str r1; cases rel_str r2
    exact op_add_str pins s σ H _ _ v u Q I rx ry ⟨_, _, rfl, rfl, c, kD_val rp hf (mk_str (strOk_app q1 q2))⟩
  · rename_i ds es
    obtain ⟨c, rfl⟩ := g?_some hb
    unfold RelD at r1 r2
    obtain ⟨a, vs, rfl, f1, q1⟩ := r1
    obtain ⟨b, ws, rfl, f2, q2⟩ := r2
    refine op_catA pins s σ H _ _ v u Q I rx ry ⟨a, b, vs, ws, rfl, rfl, f1.sq, f2.sq, by rw [q1.len, q2.len]; exact c, fun e => ?_, fun _ e => ?_, fun _ _ => kD_tup rp hf (q1.app q2)⟩
    · refine kD_val rp hf ?_
      subst e
      have n : ds = [] := List.length_eq_zero_iff.mp (by rw [← q1.len]; rfl)
      subst n
      unfold RelD
      exact ⟨b, ws, rfl, f2, q2⟩
    · refine kD_val rp hf ?_
      subst e
      have n : es = [] := List.length_eq_zero_iff.mp (by rw [← q2.len]; rfl)
      subst n
      rw [List.append_nil]
      unfold RelD
      exact ⟨a, vs, rfl, f1, q1⟩
  · split at hb
    · rename_i ds es e1 e2
      obtain ⟨c, rfl⟩ := g?_some hb
      obtain ⟨a, vs, rfl, h1, q1⟩ := listOf_sq rp r1 e1
      obtain ⟨b, ws, rfl, h2, q2⟩ := listOf_sq rp r2 e2
      exact op_cat pins s σ H _ _ v u Q I rx ry ⟨a, b, vs, ws, rfl, rfl, h1, h2, by rw [q1.len, q2.len]; exact c, fin_new rp hf (q1.app q2)⟩
    · cases hb
  · obtain ⟨⟨c1, c2, c3⟩, rfl⟩ := g?_some hb
    have q1 := r1.strOk
    cases rel_str r1; cases rel_int r2
    exact mul_strR I rx ry c1 c2 c3 (kD_val rp hf (mk_str (repS_ok q1)))
  · split at hb
    · rename_i n _ _ _ ds e1
      obtain ⟨⟨c1, c2, c3⟩, rfl⟩ := g?_some hb
      obtain ⟨a, vs, rfl, h1, q1⟩ := listOf_sq rp r1 e1
      cases rel_int r2
      have hm : ds.length * n.toNat ≤ 1000000 := Nat.mul_le_mul c3 (show n.toNat ≤ 1000 by omega)
      exact op_rep pins s σ H _ _ v u Q I rx ry ⟨a, _, vs, rfl, rfl, h1, by omega, by omega, by rw [q1.len]; exact Nat.le_trans hm (by decide), fin_new rp hf (rel_reps q1 _)⟩
    · cases hb
  · cases hb
theorem un_rel {C : Cc} {H : Hp} {S : Sto} {d : D} {v : V} (h : RelD C H S d v) : d = .non ↔ v = .non := by
  cases d with
  | non => unfold RelD at h; simp [h]
  | str x => unfold RelD at h; rw [h.1]; simp
  | tup x => unfold RelD at h; obtain ⟨a, vs, rfl, _⟩ := h; simp
  | lst x => unfold RelD at h; obtain ⟨a, vs, rfl, _⟩ := h; simp
  | scr x => unfold RelD at h; obtain ⟨a, rfl, _⟩ := h; simp
  | _ => unfold RelD at h; rw [h]; simp
theorem eqOk (hu : X.A.units + 64 < cLine) {C : Cc} (hC : C.K = X.K) {pins : List (Addr × Obj)} {s : Shared} {σ : St} {H : Hp} {S : Sto} {d e : D} {x y : V} {v u : Value} {b : Bool} {Q : VK} (I : Inv X pins σ H s) (rx : RelV x v) (ry : RelV y u) (rp : Rp C H S)
    (r1 : RelD C H S d x) (r2 : RelD C H S e y) (h : eqR d e S = some b) : (Q (.bl b) H → wpAny (model X.prog X.w) X.A (compareOp .Eq v u) (EP X pins σ Q) X.xe s) ∧ (Q (.bl (!b)) H → wpAny (model X.prog X.w) X.A (compareOp .NotEq v u) (EP X pins σ Q) X.xe s) := by
  obtain ⟨⟨p1, p2, p3⟩, rfl⟩ := g?_some h
  obtain ⟨a1, a2, a3⟩ := top_dp rp r1 p1
  obtain ⟨b1, b2, b3⟩ := top_dp rp r2 p2
  rw [hC] at a1 b1
  obtain ⟨as, c1⟩ := Dp.reads I _ x v a1 rx
  obtain ⟨bs, c2⟩ := Dp.reads I _ y u b1 ry
  have hw : X.A.units + min (toPy (top S d)).depth (toPy (top S e)).depth < cLine := by rw [a3, b3]; omega
  exact ⟨fun q => SeqAt.compareEq_reads c1 c2 a2 b2 hw ⟨.bl _, H, I, rfl, q⟩, fun q => SeqAt.compareNe_reads c1 c2 a2 b2 hw ⟨.bl _, H, I, rfl, q⟩⟩
theorem inOk {C : Cc} (hC : C.K = X.K) {pins : List (Addr × Obj)} {s : Shared} {σ : St} {H : Hp} {S : Sto} {d e : D} {x y : V} {v u : Value} {b : Bool} {Q : VK} (I : Inv X pins σ H s) (rx : RelV x v) (ry : RelV y u) (rp : Rp C H S)
    (r1 : RelD C H S d x) (r2 : RelD C H S e y) (h : inR d e S = some b) : (Q (.bl b) H → wpAny (model X.prog X.w) X.A (compareOp .In v u) (EP X pins σ Q) X.xe s) ∧ (Q (.bl (!b)) H → wpAny (model X.prog X.w) X.A (compareOp .NotIn v u) (EP X pins σ Q) X.xe s) := by
  unfold inR at h
  split at h
  · rename_i z y
    split at h
    · rename_i c hc
      cases h
      cases rel_str r1; cases rel_str r2
      have ez : z = ⟨#[c]⟩ := by
        obtain ⟨cs⟩ := z
        exact congrArg Str.mk (Array.ext' hc)
      subst ez
      exact ⟨fun q => op_in_sign pins s σ H _ _ v u Q I rx ry ⟨c, _, rfl, rfl, q⟩, fun q => op_notIn_sign pins s σ H _ _ v u Q I rx ry ⟨c, _, rfl, rfl, q⟩⟩
    · cases h
  · split at h
    · rename_i ds hs
      obtain ⟨⟨p1, p2⟩, rfl⟩ := g?_some h
      obtain ⟨a, vs, rfl, h1, q1⟩ := seqOf_sq rp r2 hs
      rw [hC] at h1
      obtain ⟨f1, f2⟩ := flats_in r1 p1 q1 p2
      have f0 := flat_rel r1 p1
      exact ⟨fun q => op_in_seq pins s σ H _ _ v u Q I rx ry ⟨a, vs, rfl, h1, f0, f1, by rw [f2]; exact q⟩, fun q => op_notIn_seq pins s σ H _ _ v u Q I rx ry ⟨a, vs, rfl, h1, f0, f1, by rw [f2]; exact q⟩⟩
    · cases h
theorem isOk {C : Cc} {pins : List (Addr × Obj)} {s : Shared} {σ : St} {H : Hp} {S : Sto} {d e : D} {x y : V} {v u : Value} {b : Bool} {Q : VK} (I : Inv X pins σ H s) (rx : RelV x v) (ry : RelV y u)
    (r1 : RelD C H S d x) (r2 : RelD C H S e y) (h : isR d e = some b) : (Q (.bl b) H → wpAny (model X.prog X.w) X.A (compareOp .Is v u) (EP X pins σ Q) X.xe s) ∧ (Q (.bl (!b)) H → wpAny (model X.prog X.w) X.A (compareOp .IsNot v u) (EP X pins σ Q) X.xe s) := by
  by_cases hn : e = .non
  · subst hn
    have hy : y = .non := (un_rel r2).mp rfl
    have hb : b = decide (x = .non) := by
      have w := un_rel r1
      unfold isR at h
      split at h
      · cases h; exact (decide_eq_true (w.mp rfl)).symm
      all_goals first
        | (cases h; exact (decide_eq_false fun z => nomatch w.mpr z).symm)
        | (rename_i q; cases q)
        | cases h
    subst hb
    exact ⟨fun q => op_isN pins s σ H _ _ v u Q I rx ry ⟨hy, q⟩, fun q => op_notN pins s σ H _ _ v u Q I rx ry ⟨hy, q⟩⟩
  · unfold isR at h
    split at h
    all_goals first
      | exact absurd rfl hn
      | cases h
    rename_i a c
    unfold RelD at r1 r2
    subst r1 r2
    exact ⟨fun q => op_isBl pins s σ H _ _ v u Q I rx ry ⟨a, c, rfl, rfl, q⟩, fun q => op_notBl pins s σ H _ _ v u Q I rx ry ⟨a, c, rfl, rfl, q⟩⟩
theorem cmpOk (hu : X.A.units + 64 < cLine) (o : CmpOp) : OpR X (compareOp o) (rD2 (cc X ga Z) fun u v S k => ∃ r, cmpR o u v S = some r ∧ k (.bl r) S) := by
  intro pins s σ H x y v u Q I rx ry h
  obtain ⟨d, e, S, rp, r1, r2, r, hb, hf⟩ := h
  have q := kD_val rp hf mk_bl
  unfold cmpR at hb
  split at hb
  · cases hb; cases rel_int r1; cases rel_int r2
    exact op_lt pins s σ H _ _ v u Q I rx ry ⟨_, _, rfl, rfl, q⟩
  · cases hb; cases rel_int r1; cases rel_int r2
    exact op_le pins s σ H _ _ v u Q I rx ry ⟨_, _, rfl, rfl, q⟩
  · cases hb; cases rel_int r1; cases rel_int r2
    exact op_gt pins s σ H _ _ v u Q I rx ry ⟨_, _, rfl, rfl, q⟩
  · cases hb; cases rel_int r1; cases rel_int r2
    exact op_ge pins s σ H _ _ v u Q I rx ry ⟨_, _, rfl, rfl, q⟩
  · exact (eqOk hu rfl I rx ry rp r1 r2 hb).1 q
  · obtain ⟨b, h1, rfl⟩ := Option.map_eq_some_iff.mp hb
    exact (eqOk hu rfl I rx ry rp r1 r2 h1).2 q
  · exact (inOk rfl I rx ry rp r1 r2 hb).1 q
  · obtain ⟨b, h1, rfl⟩ := Option.map_eq_some_iff.mp hb
    exact (inOk rfl I rx ry rp r1 r2 h1).2 q
  · exact (isOk I rx ry r1 r2 hb).1 q
  · obtain ⟨b, h1, rfl⟩ := Option.map_eq_some_iff.mp hb
    exact (isOk I rx ry r1 r2 h1).2 q
  · cases hb
theorem negOk : UnR X (unaryOp .USub) (rD1 (cc X ga Z) fun u S k => ∃ i, u = .int i ∧ k (.int (-i)) S) := by
  intro pins s σ H x v Q I rx h
  obtain ⟨d, S, rp, r1, i, rfl, hf⟩ := h
  cases rel_int r1
  exact un_neg pins s σ H _ v Q I rx ⟨i, rfl, kD_val rp hf mk_int⟩
theorem truOk {C : Cc} (hC : C.K = X.K) {H : Hp} {S : Sto} {d : D} {v : V} {b : Bool} (rp : Rp C H S) (r : RelD C H S d v) (h : tru S d = some b) : TruV X.K v H b := by
  cases d with
  | non => cases h; unfold RelD at r; subst r; rfl
  | bl c => cases h; unfold RelD at r; subst r; rfl
  | int c => cases h; unfold RelD at r; subst r; rfl
  | str x =>
    unfold RelD at r
    rw [r.1]
    have h : (if x.length ≤ sizeLine then some ((x.length : Int) != 0) else none) = some b := h
    split at h
    · rename_i q; cases h; exact ⟨q, rfl⟩
    · cases h
  | tup ds =>
    cases h
    unfold RelD at r
    obtain ⟨a, vs, rfl, f, q⟩ := r
    refine .inr (.inl ⟨vs, by rw [← hC]; exact f.sq, ?_⟩)
    have l := q.len
    cases vs <;> cases ds <;> first | rfl | (simp at l)
  | lst ds =>
    cases h
    unfold RelD at r
    obtain ⟨a, vs, rfl, f, q⟩ := r
    refine .inl ⟨vs, by rw [← hC]; exact f.sq, ?_⟩
    have l := q.len
    cases vs <;> cases ds <;> first | rfl | (simp at l)
  | ref a =>
    unfold RelD at r
    subst r
    obtain ⟨ds, h1, rfl⟩ := Option.map_eq_some_iff.mp (show (lstAt S a).map (fun ds => !ds.isEmpty) = some b from h)
    obtain ⟨o, h2, h3⟩ := rp.obj a _ (lstAt_some h1)
    obtain ⟨vs, rfl, z⟩ := h3
    refine .inl ⟨vs, .of h2, ?_⟩
    have l := z.len
    cases vs <;> cases ds <;> first | rfl | (simp at l)
  | _ => cases h
theorem idxOk : IxR X (rD2 (cc X ga Z) fun u v S k => ∃ d, idxR u v S = some d ∧ k d S) := by
  intro value slice pins s σ H x y v u Q I rx ry h
  obtain ⟨d, e, S, rp, r1, r2, r, hb, hf⟩ := h
  unfold idxR at hb
  split at hb
  · rename_i z i
    split at hb
    · rename_i hz
      obtain ⟨c, h1, rfl⟩ := Option.map_eq_some_iff.mp hb
      have q1 := r1.strOk
      cases rel_str r1; cases rel_int r2
      exact ix_str value slice pins s σ H _ _ v u Q I rx ry ⟨z, i, c, rfl, rfl, hz, h1, kD_val rp hf (mk_str (strOk_sign q1 (atI_mem h1)))⟩
    · cases hb
  · rename_i i _
    split at hb
    · rename_i ds hs
      obtain ⟨a, vs, rfl, h1, q1⟩ := seqOf_sq rp r1 hs
      cases rel_int r2
      obtain ⟨w, h2, h3⟩ := q1.atI hb
      rcases h1 with h1 | h1
      · exact ix_list value slice pins s σ H _ _ v u Q I rx ry ⟨a, vs, i, w, rfl, rfl, h1, h2, kD_val rp hf h3⟩
      · exact ix_tup value slice pins s σ H _ _ v u Q I rx ry ⟨a, vs, i, w, rfl, rfl, h1, h2, kD_val rp hf h3⟩
    · cases hb
  · cases hb
def rSl (C : Cc) (m : Bool) : V → Option Int → Option Int → Hp → VK → Prop := fun x lo hi H Q => ∃ u S, Rp C H S ∧ RelD C H S u x ∧ ∃ r, slcR u lo hi S = some r ∧ fin m r S (kD C H S Q)
theorem slcOk (m : Bool) : SlR X (rSl (cc X ga Z) m) := by
  intro pins s σ H x v vl vu lo hi sl Q I rx hs pl pu h
  obtain ⟨d, S, rp, r1, r, hb, hf⟩ := h
  unfold slcR at hb
  split at hb
  · obtain ⟨c, rfl⟩ := g?_some hb
    have q1 := r1.strOk
    cases rel_str r1
    exact sl_str pins s σ H _ v vl vu lo hi sl Q I rx hs pl pu ⟨_, rfl, c, kD_val rp hf (mk_str (strOk_cut lo hi q1))⟩
  · cases hb
    rename_i ds
    unfold RelD at r1
    obtain ⟨a, vs, rfl, f, q⟩ := r1
    refine sl_tupA pins s σ H _ v vl vu lo hi sl Q I rx hs pl pu ⟨a, vs, rfl, f.sq, fun hw => ?_, fun _ => kD_tup rp hf (q.cut lo hi)⟩
    refine kD_val rp hf ?_
    have e : cutD ds lo hi = ds := by
      rw [q.len] at hw
      unfold cutD
      rw [hw.1, hw.2, List.drop_zero, Nat.sub_zero, List.take_length]
    rw [e]
    unfold RelD
    exact ⟨a, vs, rfl, f, q⟩
  · split at hb
    · cases hb
      rename_i ds hs'
      obtain ⟨a, vs, rfl, h1, q1⟩ := listOf_sq rp r1 hs'
      exact sl_list pins s σ H _ v vl vu lo hi sl Q I rx hs pl pu ⟨a, vs, rfl, .of h1, fin_new rp hf (q1.cut lo hi)⟩
    · cases hb
/-! ### built-in functions and methods -/
theorem sumI_ints {C : Cc} {H : Hp} {S : Sto} : ∀ {ds : List D} {vs : List V} {n : Int}, RelDs C H S ds vs → sumI ds = some n → ∃ ns : List Int, vs = ns.map V.int ∧ n = ns.sum
  | [], _, _, h, e => by unfold RelDs at h; subst h; cases e; exact ⟨[], rfl, rfl⟩
  | d :: ds, _, _, h, e => by
    unfold RelDs at h
    obtain ⟨v, r, rfl, h1, h2⟩ := h
    cases d with
    | int i =>
      obtain ⟨m, e1, rfl⟩ := Option.map_eq_some_iff.mp (show (sumI ds).map (i + ·) = some _ from e)
      obtain ⟨ns, rfl, rfl⟩ := sumI_ints h2 e1
      cases rel_int h1
      exact ⟨i :: ns, rfl, by rw [List.sum_cons]⟩
    | _ => cases e
theorem allB_bls {C : Cc} {H : Hp} {S : Sto} : ∀ {ds : List D} {vs : List V} {b : Bool}, RelDs C H S ds vs → allB S ds = some b → ∃ bs : List Bool, vs = bs.map V.bl ∧ b = bs.all id
  | [], _, _, h, e => by unfold RelDs at h; subst h; cases e; exact ⟨[], rfl, rfl⟩
  | d :: ds, _, _, h, e => by
    unfold RelDs at h
    obtain ⟨v, r, rfl, h1, h2⟩ := h
    cases d with
    | bl i =>
      have e : (match allB S ds with
        | some c => some (i && c)
        | none => none) = some _ := e
      cases q : allB S ds with
      | none => rw [q] at e; cases e
      | some c =>
        rw [q] at e
        cases e
        obtain ⟨bs, rfl, rfl⟩ := allB_bls h2 q
        unfold RelD at h1
        subst h1
        exact ⟨i :: bs, rfl, rfl⟩
    | _ => cases e
theorem rel1 {C : Cc} {H : Hp} {S : Sto} {x : D} {vs : List V} (h : RelDs C H S [x] vs) : ∃ v, vs = [v] ∧ RelD C H S x v := by
  unfold RelDs at h
  obtain ⟨v, r, rfl, h1, h2⟩ := h
  unfold RelDs at h2
  subst h2
  exact ⟨v, rfl, h1⟩
theorem rel2 {C : Cc} {H : Hp} {S : Sto} {x y : D} {vs : List V} (h : RelDs C H S [x, y] vs) : ∃ v w, vs = [v, w] ∧ RelD C H S x v ∧ RelD C H S y w := by
  unfold RelDs at h
  obtain ⟨v, r, rfl, h1, h2⟩ := h
  obtain ⟨w, rfl, h3⟩ := rel1 h2
  exact ⟨v, w, rfl, h1, h3⟩
theorem tyX_of {C : Cc} (hC : C.K = X.K) {H : Hp} {S : Sto} {d : D} {v : V} {t : String} (rp : Rp C H S) (r : RelD C H S d v) (h : tyN S d = some t) : TyX X.K H v (.type t) := by
  cases d with
  | non => cases h; unfold RelD at r; subst r; exact .base .non
  | bl b => cases h; unfold RelD at r; subst r; exact .base (.bl b)
  | int b => cases h; unfold RelD at r; subst r; exact .base (.int b)
  | str b => cases h; unfold RelD at r; rw [r.1]; exact .base (.str b)
  | tup ds =>
    cases h
    unfold RelD at r
    obtain ⟨a, vs, rfl, f, q⟩ := r
    rcases f with ⟨f, _⟩ | ⟨o, its, n, f, fc, _⟩
    · exact .base (.tup f)
    · exact .kTuple (by rw [← hC]; exact f) fc
  | lst ds =>
    cases h
    unfold RelD at r
    obtain ⟨a, vs, rfl, f, q⟩ := r
    exact .base (.lst f.1)
  | ref a =>
    unfold RelD at r
    subst r
    obtain ⟨ds, h1, rfl⟩ := Option.map_eq_some_iff.mp (show (lstAt S a).map (fun _ => "list") = some t from h)
    obtain ⟨o, h2, h3⟩ := rp.obj a _ (lstAt_some h1)
    obtain ⟨vs, rfl, z⟩ := h3
    exact .base (.lst h2)
  | _ => cases h
theorem tyN_in {S : Sto} {d : D} {t : String} (h : tyN S d = some t) : t = "NoneType" ∨ t = "bool" ∨ t = "int" ∨ t = "str" ∨ t = "tuple" ∨ t = "list" := by
  cases d with
  | ref a =>
    obtain ⟨ds, h1, rfl⟩ := Option.map_eq_some_iff.mp (show (lstAt S a).map (fun _ => "list") = some t from h)
    simp
  | non => cases h; simp
  | bl b => cases h; simp
  | int b => cases h; simp
  | str b => cases h; simp
  | tup b => cases h; simp
  | lst b => cases h; simp
  | _ => cases h
theorem kit_in {K : PySem.W.Frag} {t n : String} (ht : t = "NoneType" ∨ t = "bool" ∨ t = "int" ∨ t = "str" ∨ t = "tuple" ∨ t = "list") (hn : n = "int" ∨ n = "bool" ∨ n = "str" ∨ n = "list" ∨ n = "tuple") :
    PySem.W.kitOne K (.type t) (.type n) = some (isT t n) := by
  rcases ht with rfl | rfl | rfl | rfl | rfl | rfl <;> rcases hn with rfl | rfl | rfl | rfl | rfl <;> exact kit_ty (by decide +kernel)
theorem isiOk {C : Cc} (hC : C.K = X.K) {pins : List (Addr × Obj)} {s : Shared} {σ : St} {H : Hp} {S : Sto} {d c : D} {x y : V} {us : List Value} {b : Bool} {Q : VK} (I : Inv X pins σ H s) (rx : Vals [x, y] us) (rp : Rp C H S)
    (r1 : RelD C H S d x) (r2 : RelD C H S c y) (h : isiR S d c = some b) (q : Q (.bl b) H) : wpAny (model X.prog X.w) X.A (call (.builtin "isinstance") us) (EP X pins σ Q) X.xe s := by
  unfold isiR at h
  split at h
  · rename_i t n ht
    obtain ⟨hn, rfl⟩ := g?_some h
    unfold RelD at r2
    subst r2
    exact call_isi pins s σ H _ us Q I rx ⟨x, _, _, _, _, rfl, .ty n, tyX_of hC rp r1 ht, kit_in (tyN_in ht) hn, q⟩
  · rename_i t n n' ht
    obtain ⟨⟨rfl, rfl⟩, rfl⟩ := g?_some h
    unfold RelD at r2
    obtain ⟨a, vs, rfl, f, z⟩ := r2
    obtain ⟨v1, v2, rfl, z1, z2⟩ := rel2 z
    unfold RelD at z1 z2
    subst z1 z2
    have k1 : PySem.W.kitOne X.K (.type t) (.type "tuple") = some (isT t "tuple") := kit_in (tyN_in ht) (by simp)
    have k2 : PySem.W.kitOne X.K (.type t) (.type "list") = some (isT t "list") := kit_in (tyN_in ht) (by simp)
    have k : PySem.W.kitAny X.K (.type t) [.type "tuple", .type "list"] = some (isT t "tuple" || isT t "list") := by
      refine kitAny_cons k1 (fun e => ?_) (fun e => by rw [e]; rfl)
      rw [e, Bool.false_or]
      refine kitAny_cons k2 (fun e => ?_) (fun e => e)
      rw [e]; exact kitAny_nil
    rcases f with ⟨f, _⟩ | ⟨o, its, nn, f, fc, fd, fz, fv⟩
    · exact call_isiT pins s σ H _ us Q I rx ⟨x, a, _, _, _, _, rfl, f, .cons (.ty _) (.cons (.ty _) .nil), tyX_of hC rp r1 ht, k, q⟩
    · obtain ⟨u1, u2, e1, ru1, ru2⟩ := vals2 fv
      cases ru1
      cases ru2
      obtain ⟨oc, od, dt, sl⟩ := o
      simp only at fc fd
      subst fc fd
      have ei : its = [Value.type "tuple", Value.type "list"].toArray := Array.ext' e1
      rw [ei, hC] at f
      exact call_isiK pins s σ H _ us Q I rx ⟨x, a, _, _, _, _, _, _, rfl, f, tyX_of hC rp r1 ht, k, q⟩
  · cases h
theorem len_of {C : Cc} (hC : C.K = X.K) {H : Hp} {S : Sto} {x : D} {v : V} {ds : List D} (rp : Rp C H S) (r : RelD C H S x v) (h : seqOf S x = some ds) : LenV X.K v H ds.length := by
  obtain ⟨a, vs, rfl, h1, q⟩ := seqOf_sq rp r h
  rw [hC] at h1
  rcases h1 with h1 | h1
  · exact .inl ⟨vs, h1, q.len.symm⟩
  · exact .inr ⟨vs, h1, q.len.symm⟩
def bfV : Bf → Value
  | .len => .builtin "len" | .abs => .builtin "abs" | .int => .type "int" | .max => .builtin "max" | .sum => .builtin "sum" | .all => .builtin "all" | .list => .type "list" | .isinstance => .builtin "isinstance"
theorem bltOk (hc : X.calm = true) (f : Bf) (m : Bool) : CallR X (bfV f) (rDc (cc X ga Z) fun us S k => ∃ r, bltR f us S = some r ∧ fin m r S k) := by
  intro pins s σ H xs us Q I rv h
  obtain ⟨ds, S, rp, rs, r, hb, hf⟩ := h
  unfold bltR at hb
  split at hb
  · obtain ⟨c, rfl⟩ := g?_some hb
    obtain ⟨v, rfl, r1⟩ := rel1 rs
    cases rel_str r1
    exact call_len pins s σ H _ us Q I rv ⟨_, _, rfl, ⟨c, rfl⟩, kD_val rp hf mk_int⟩
  · obtain ⟨ds, h1, rfl⟩ := Option.map_eq_some_iff.mp hb
    obtain ⟨v, rfl, r1⟩ := rel1 rs
    exact call_len pins s σ H _ us Q I rv ⟨_, _, rfl, len_of rfl rp r1 h1, kD_val rp hf mk_int⟩
  · cases hb
    obtain ⟨v, rfl, r1⟩ := rel1 rs
    cases rel_int r1
    exact call_abs pins s σ H _ us Q I rv ⟨_, rfl, kD_val rp hf mk_int⟩
  · cases hb
    obtain ⟨v, rfl, r1⟩ := rel1 rs
    cases rel_int r1
    exact call_int1 pins s σ H _ us Q I rv (.inl ⟨_, rfl, kD_val rp hf mk_int⟩)
  · cases hb
    obtain ⟨v, rfl, r1⟩ := rel1 rs
    unfold RelD at r1
    subst r1
    exact call_int1 pins s σ H _ us Q I rv (.inr ⟨_, rfl, kD_val rp hf mk_int⟩)
  · cases hb
    obtain ⟨v, w, rfl, r1, r2⟩ := rel2 rs
    cases rel_int r1; cases rel_int r2
    exact call_max2 hc pins s σ H _ us Q I rv ⟨_, _, rfl, kD_val rp hf mk_int⟩
  · split at hb
    · rename_i ds h0
      obtain ⟨n, h1, rfl⟩ := Option.map_eq_some_iff.mp hb
      obtain ⟨v, rfl, r1⟩ := rel1 rs
      obtain ⟨a, vs, rfl, h2, q⟩ := listOf_sq rp r1 h0
      obtain ⟨ns, rfl, rfl⟩ := sumI_ints q h1
      exact cr_sum hc pins s σ H _ us Q I rv ⟨a, ns, rfl, .of h2, kD_val rp hf mk_int⟩
    · cases hb
  · split at hb
    · rename_i ds h0
      obtain ⟨n, h1, rfl⟩ := Option.map_eq_some_iff.mp hb
      obtain ⟨v, rfl, r1⟩ := rel1 rs
      obtain ⟨a, vs, rfl, h2, q⟩ := listOf_sq rp r1 h0
      obtain ⟨ns, rfl, rfl⟩ := allB_bls q h1
      exact cr_all hc pins s σ H _ us Q I rv ⟨a, ns, rfl, .of h2, kD_val rp hf mk_bl⟩
    · cases hb
  · obtain ⟨ds, h1, rfl⟩ := Option.map_eq_some_iff.mp hb
    obtain ⟨v, rfl, r1⟩ := rel1 rs
    obtain ⟨a, vs, rfl, h2, q⟩ := seqOf_sq rp r1 h1
    exact call_list_of pins s σ H _ us Q I rv ⟨a, vs, rfl, h2, fin_new rp hf q⟩
  · obtain ⟨b, h1, rfl⟩ := Option.map_eq_some_iff.mp hb
    obtain ⟨v, w, rfl, r1, r2⟩ := rel2 rs
    exact isiOk rfl I rv rp r1 r2 h1 (kD_val rp hf mk_bl)
  · cases hb
end
end Mn

namespace Mn
open PySem L2
/-! ### does a text of Python's match a text of the small syntax? -/
def visB (sc : Scope) (x : Str) : Bool := match sc.names.lookup x with
  | some .local => true
  | some .cell => true
  | some .free => true
  | _ => false
def locB (sc : Scope) (x : Str) : Bool := match sc.names.lookup x with
  | some .local => true
  | some .cell => true
  | _ => false
def gloB (sc : Scope) (x : Str) : Bool := match sc.names.lookup x with
  | some .globalImplicit => true
  | _ => false
def dbgB (x : Str) : Bool := !(x == ("__debug__" : Str)) && !(x == ("__classdict__" : Str)) && !(x == ("__name__" : Str))
def notStar : Expr → Bool
  | .Starred _ _ => false
  | _ => true
def notSl : Expr → Bool
  | .Slice _ _ _ _ => false
  | _ => true
def notLc : Expr → Bool
  | .ListComp _ _ _ _ => false
  | .SetComp _ _ _ _ => false
  | .DictComp _ _ _ _ _ => false
  | _ => true
def notSet : Expr → Bool
  | .Set _ _ _ => false
  | _ => true
def notSuper : Expr → Bool
  | .Call (.Name _ _) [] [] _ => false
  | _ => true
def cstB : D → Const → Bool
  | .non, .none => true
  | .bl b, .bool c => b == c
  | .int i, .int j => decide (i = j)
  | .str x, .str y => decide (x = y) && PySem.PyData.strOk x
  | _, _ => false
def tyB (n : String) : Bool := n == "int" || n == "bool" || n == "str" || n == "list" || n == "tuple"
mutual
def slots : MT → List Nat
  | .nm i => [i]
  | .tp ts => slotss ts
def slotss : List MT → List Nat
  | [] => []
  | t :: ts => slots t ++ slotss ts
end
mutual
def matchT (N : List Str) (sc : Scope) : MT → Expr → Bool
  | .nm i, .Name x _ => decide (N[i]? = some x) && locB sc x
  | .tp ts, .Tuple es _ _ => matchTs N sc ts es
  | _, _ => false
def matchTs (N : List Str) (sc : Scope) : List MT → List Expr → Bool
  | [], [] => true
  | t :: ts, e :: es => matchT N sc t e && matchTs N sc ts es
  | _, _ => false
end
def isTupT : Expr → Bool
  | .Tuple _ _ _ => true
  | _ => false
mutual
def matchE (N : List Str) (sc : Scope) : ME → Expr → Bool
  | .var i, e => match e with
    | .Name x _ => decide (N[i]? = some x) && (visB sc x && dbgB x)
    | _ => false
  | .cst d, e => match e with
    | .Constant c _ _ => cstB d c
    | .Name x _ => (match d with
      | .ty n => decide (x = Str.ofString n) && (gloB sc x && tyB n)
      | _ => false)
    | _ => false
  | .glo n, e => match e with
    | .Name x _ => decide (x = n) && (gloB sc x && dbgB x)
    | _ => false
  | .bin o _ a b, e => match e with
    | .BinOp l o' r _ => decide (o = o') && (matchE N sc a l && matchE N sc b r)
    | _ => false
  | .neg a, e => match e with
    | .UnaryOp .USub l _ => matchE N sc a l
    | _ => false
  | .not a, e => match e with
    | .UnaryOp .Not l _ => matchE N sc a l
    | _ => false
  | .cmp o a b, e => match e with
    | .Compare l [o'] [r] _ => decide (o = o') && (notSet r && (matchE N sc a l && matchE N sc b r))
    | _ => false
  | .cmp2 o p a b c, e => match e with
    | .Compare l [o', p'] [r, z] _ => decide (o = o') && (decide (p = p') && (notSet z && (matchE N sc a l && (matchE N sc b r && matchE N sc c z))))
    | _ => false
  | .and a b, e => match e with
    | .BoolOp .And [l, r] _ => matchE N sc a l && matchE N sc b r
    | .BoolOp .And (l :: r :: z :: q) pos => matchE N sc a l && matchE N sc b (.BoolOp .And (r :: z :: q) pos)
    | _ => false
  | .or a b, e => match e with
    | .BoolOp .Or [l, r] _ => matchE N sc a l && matchE N sc b r
    | .BoolOp .Or (l :: r :: z :: q) pos => matchE N sc a l && matchE N sc b (.BoolOp .Or (r :: z :: q) pos)
    | _ => false
  | .ifx c a b, e => match e with
    | .IfExp c' a' b' _ => matchE N sc c c' && (matchE N sc a a' && matchE N sc b b')
    | _ => false
  | .idx a i, e => match e with
    | .Subscript l r _ => notSl r && (matchE N sc a l && matchE N sc i r)
    | _ => false
  | .slL _ a lo, e => match e with
    | .Subscript l (.Slice (some lo') none none _) _ => matchE N sc a l && matchE N sc lo lo'
    | _ => false
  | .slU _ a hi, e => match e with
    | .Subscript l (.Slice none (some hi') none _) _ => matchE N sc a l && matchE N sc hi hi'
    | _ => false
  | .slLU _ a lo hi, e => match e with
    | .Subscript l (.Slice (some lo') (some hi') none _) _ => matchE N sc a l && (matchE N sc lo lo' && matchE N sc hi hi')
    | _ => false
  | .tup es, e => match e with
    | .Tuple es' _ _ => matchEs N sc es es'
    | _ => false
  | .lst _ es, e => match e with
    | .List es' _ => matchEs N sc es es'
    | _ => false
  | .blt f _ es, e => match e with
    | .Call (.Name x _) as [] _ => decide (x = f.nm) && (gloB sc x && (!as.isEmpty && matchEs N sc es as))
    | _ => false
  | .bm f _ o es, e => match e with
    | .Call (.Attribute o' x ap) as [] cp => decide (x = f.nm) && ((ap.endLine == cp.line) && (notSuper o' && (decide (as.length < 20) && (!as.isEmpty && (matchE N sc o o' && matchEs N sc es as)))))
    | _ => false
  | .call f es, e => match e with
    | .Call (.Name x _) as [] _ => decide (x = f) && (gloB sc x && (dbgB x && (!as.isEmpty && matchEs N sc es as)))
    | _ => false
  | .lc i _ t as c e, ex => match ex with
    | .ListComp elt [⟨tg, iter, ifs, ay⟩] scope _ => decide (ay = 0) && (blkC N sc scope ((slots t).map fun i => (N.getD i "", i)) && (matchT N scope t tg && (matchEs N scope c ifs && (matchE N scope e elt && (decide (c.length ≤ 1) && (notSet iter &&
        (match i with
        | 0 => matchEs N sc as [iter]
        | 1 => (match iter with
          | .Call (.Name x _) as' [] _ => decide (x = "range") && (gloB sc x && (decide (as'.length = 1 ∨ as'.length = 2) && matchEs N sc as as'))
          | _ => false)
        | 2 => (match iter with
          | .Call (.Name x _) as' [] _ => decide (x = "enumerate") && (gloB sc x && (decide (as'.length = 1) && (isTupT tg && matchEs N sc as as')))
          | _ => false)
        | _ => false)))))))
    | _ => false
  | .frz a, e => matchE N sc a e
def matchEs (N : List Str) (sc : Scope) : List ME → List Expr → Bool
  | [], es => es.isEmpty
  | m :: ms, es => match es with
    | e :: es => notStar e && (matchE N sc m e && matchEs N sc ms es)
    | [] => false
end

/-! ### where one stands -/
structure Sck (X : Cx) (sc : Scope) : Prop where
  kind : X.env.scope.kind = .function
  look : ∀ x k, sc.names.lookup x = some k → ∃ k', X.env.scope.names.lookup x = some k' ∧ (k' = k ∨ (k = .free ∧ k' = .cell))
theorem Sck.vis {X : Cx} {sc : Scope} (h : Sck X sc) {x : Str} (q : visB sc x = true) : Vis X.env.scope x := by
  unfold visB at q
  cases e : sc.names.lookup x with
  | none => rw [e] at q; cases q
  | some k =>
    obtain ⟨k', h1, h2⟩ := h.look x k e
    rw [e] at q
    unfold Vis
    rw [h1]
    rcases h2 with rfl | ⟨rfl, rfl⟩
    · cases k' <;> first | exact .inl rfl | exact .inr (.inl rfl) | exact .inr (.inr rfl) | cases q
    · exact .inr (.inl rfl)
theorem Sck.loc {X : Cx} {sc : Scope} (h : Sck X sc) {x : Str} (q : locB sc x = true) : L2.Loc X.env.scope x := by
  unfold locB at q
  cases e : sc.names.lookup x with
  | none => rw [e] at q; cases q
  | some k =>
    obtain ⟨k', h1, h2⟩ := h.look x k e
    rw [e] at q
    unfold L2.Loc
    rw [h1]
    rcases h2 with rfl | ⟨rfl, rfl⟩
    · cases k' <;> first | exact .inl rfl | exact .inr rfl | cases q
    · exact .inr rfl
theorem Sck.glo {X : Cx} {sc : Scope} (h : Sck X sc) {x : Str} (q : gloB sc x = true) : Gl X x := by
  unfold gloB at q
  cases e : sc.names.lookup x with
  | none => rw [e] at q; cases q
  | some k =>
    obtain ⟨k', h1, h2⟩ := h.look x k e
    rw [e] at q
    unfold Gl Env.kindOf
    rw [h1]
    rcases h2 with rfl | ⟨rfl, rfl⟩
    · cases k' <;> first | rfl | cases q
    · cases q
/-- an exception as it lies -/
def RelX (C : Cc) (H : Hp) (S : Sto) (e : Exc) (cls : Value) (d : Option Addr) : Prop :=
  cls = .ref (C.ga e.cls) ∧ ∃ dd fs, d = some dd ∧ H dd = some (.xd fs) ∧ S dd = none ∧ ∀ f x, e.fs.lookup f = some x → ∃ v, fs.lookup f = some v ∧ RelD C H S x v
/-- a promise as HandS has it -/
def lift (K : PySem.W.Frag) (ga : Str → Addr) (n : Nat) (sp : DSp) : Sp := fun vs H Q E => vs.length = n ∧ ∃ (ds : List D) (S : Sto) (Z : Addr → Prop), RelDs ⟨K, ga, Z⟩ H S ds vs ∧ Rp ⟨K, ga, Z⟩ H S ∧
  callW sp ds S (kD ⟨K, ga, Z⟩ H S Q) (fun e S' => ∀ H' cls d, Rp ⟨K, ga, Z⟩ H' S' → Ext H S H' S' → RelX ⟨K, ga, Z⟩ H' S' e cls d → E cls d H')
def liftX (C : Cc) (H0 : Hp) (S0 : Sto) (x : XW) : WX := fun cls d σ H => ∃ (e : Exc) (σd : Env) (S : Sto), RelS C H S σd σ ∧ Rp C H S ∧ Ext H0 S0 H S ∧ RelX C H S e cls d ∧ x e σd S
structure FnAt (X : Cx) (ga : Str → Addr) (f : Str) (n : Nat) (sp : DSp) : Prop where
  ex : ∃ (fa : Addr) (fd : FuncData) (k : Nat) (ps : List Str), ps.length = n ∧ X.mg f = some (.ref fa) ∧ FnOk X.prog X.w X.K X.mg X.base (L2.CX X.prog X.w) k fa fd ps (lift X.K ga n sp) ∧ Room k X.A ∧ PySem.W.keepIn X.K (.ref fa) = true ∧ Binds X.K fd ps []
structure Gd (X : Cx) (sc : Scope) (ga : Str → Addr) (Z : Addr → Prop) (H0 : Hp) (S0 : Sto) (G : Gc) (x : XW) : Prop where
  nd : X.N.Nodup
  calm : X.calm = true
  room : X.A.units + 64 < cLine
  sck : Sck X sc
  tk : Takes X (liftX (cc X ga Z) H0 S0 x)
  own : PassesOwn (model X.prog X.w) X.A X.env X.xe
  fns : ∀ f n sp, G.fn f = some (n, sp) → FnAt X ga f n sp
  con : ∀ n d, G.con n = some d → ∃ v u, X.mg n = some u ∧ RelV v u ∧ ∀ Z H S, RelD (cc X ga Z) H S d v
  blt : ∀ f : Bf, X.mg f.nm = none
  tys : ∀ n, tyB n = true → X.mg (Str.ofString n) = none
  rng : X.mg "range" = none
  enm : X.mg "enumerate" = none
  fnl : ∀ x, locB sc x = true → X.fn x = true ∨ X.env.scope.names.lookup x = some .local
end Mn

namespace Mn
open PySem L2
/-! ### small facts of the syntax -/
theorem and2 {a b : Bool} (h : (a && b) = true) : a = true ∧ b = true := Bool.and_eq_true_iff.mp h
theorem starEach_cons {e : Expr} {es : List Expr} {env : PySem.Env} (h : notStar e = true) : starEach (e :: es) env = (false, eval e env) :: starEach es env := by
  cases e <;> first | rfl | cases h
theorem star_all : ∀ {ms : List ME} {N : List Str} {sc : Scope} {es : List Expr} {env : PySem.Env} {pos : Pos}, matchEs N sc ms es = true → (backTo pos (starEach es env)).any (·.1) = false ∧ (backTo pos (starEach es env)).all (fun x => !x.1) = true
  | [], _, _, [], _, _, _ => ⟨rfl, rfl⟩
  | [], _, _, _ :: _, _, _, h => by unfold matchEs at h; cases h
  | _ :: _, _, _, [], _, _, h => by unfold matchEs at h; cases h
  | m :: ms, N, sc, e :: es, env, pos, h => by
    unfold matchEs at h
    obtain ⟨h1, h2⟩ := and2 h
    obtain ⟨h2, h3⟩ := and2 h2
    obtain ⟨a, b⟩ := star_all (env := env) (pos := pos) h3
    rw [starEach_cons h1]
    unfold backTo at a b ⊢
    rw [List.map_cons, List.any_cons, List.all_cons, a, b]
    exact ⟨rfl, rfl⟩
theorem matchEs_len : ∀ {ms : List ME} {N : List Str} {sc : Scope} {es : List Expr}, matchEs N sc ms es = true → ms.length = es.length
  | [], _, _, [], _ => rfl
  | [], _, _, _ :: _, h => by unfold matchEs at h; cases h
  | _ :: _, _, _, [], h => by unfold matchEs at h; cases h
  | m :: ms, N, sc, e :: es, h => by
    unfold matchEs at h
    obtain ⟨h1, h2⟩ := and2 h
    rw [List.length_cons, List.length_cons, matchEs_len (and2 h2).2]
theorem star1 {ms : List ME} {N : List Str} {sc : Scope} {e : Expr} {es : List Expr} (h : matchEs N sc ms (e :: es) = true) : notStar e = true := by
  cases ms with
  | nil => unfold matchEs at h; cases h
  | cons m ms => unfold matchEs at h; exact (and2 h).1
theorem star2 {ms : List ME} {N : List Str} {sc : Scope} {e e' : Expr} {es : List Expr} (h : matchEs N sc ms (e :: e' :: es) = true) : notStar e' = true := by
  cases ms with
  | nil => unfold matchEs at h; cases h
  | cons m ms => unfold matchEs at h; exact star1 (and2 (and2 h).2).2
theorem notSet_marks {e : Expr} {o : CmpOp} (h : notSet e = true) : behindInMarks o e = false := by cases e <;> first | rfl | cases h
theorem notSet_last {a e : Expr} {o p : CmpOp} (h : notSet e = true) : lastMarks [o, p] [a, e] = false := notSet_marks h
theorem notSl_plain {e : Expr} (h : notSl e = true) : PlainIx e := fun o i => by cases e <;> first | rfl | cases h
theorem notSuper_base {o : Expr} {f : Str} {env : PySem.Env} {w : Sem Value} (h : notSuper o = true) : attributeBase o f env w = w := by
  unfold attributeBase
  cases o with
  | Call fn as ks pos =>
    cases fn with
    | Name x p =>
      cases as with
      | nil =>
        cases ks with
        | nil => cases h
        | cons k ks => rfl
      | cons a as => rfl
    | _ => rfl
  | _ => rfl
theorem notSet_fold {e : Expr} {env : PySem.Env} (h : notSet e = true) : ∀ x, foldedSetIterable e env x = pure x := fun x => by
  unfold foldedSetIterable
  cases e with
  | Set a b c => cases h
  | _ => rfl
theorem notLc_swap {e : Expr} {t : Option Expr} {l : Nat} {env : PySem.Env} (h : notLc e = true) : swapsWith e t l env = pure false := by
  unfold swapsWith
  cases e with
  | ListComp a b c d => cases h
  | SetComp a b c d => cases h
  | DictComp a b c d e => cases h
  | _ => rfl
def notTest : Expr → Bool
  | .UnaryOp .Not _ _ => false
  | .BoolOp _ _ _ => false
  | .IfExp _ _ _ _ => false
  | .Compare _ _ _ _ => false
  | _ => true
theorem notTest_true {e : Expr} {env : PySem.Env} (h : notTest e = true) : ∀ whole, isTrue e env whole = (do let v ← whole; standAt e.pos; holding [v] (truthy v)) := fun whole => by
  cases e with
  | UnaryOp o a p => cases o <;> first | rfl | cases h
  | BoolOp a b c => cases h
  | IfExp a b c d => cases h
  | Compare a b c d => cases h
  | _ => rfl
def tDT (C : Cc) (H0 : Hp) (S0 : Sto) (f : W1) : TT := fun σ H Q => ∃ (σd : Env) (S : Sto), RelS C H S σd σ ∧ Rp C H S ∧ Ext H0 S0 H S ∧ f σd S (fun d S' => ∃ b, tru S' d = some b ∧ ∀ H', Rp C H' S' → Ext H S H' S' → Q b H')
section
variable {X : Cx} {ga : Str → Addr} {Z : Addr → Prop} {H0 : Hp} {S0 : Sto} {G : Gc} {x : XW}
theorem pt_of {e : Expr} {m : ME} (h : PE X e (tD (cc X ga Z) H0 S0 (wE G x m))) (n : notTest e = true) : PT X e (tDT (cc X ga Z) H0 S0 (wE G x m)) := by
  refine PT.imp (pt_truth h (notTest_true n)) fun σ H Q q => ?_
  obtain ⟨σd, S, rs, rp, ex, w⟩ := q
  refine ⟨σd, S, rs, rp, ex, wE_mono (fun d S1 q H1 v rp1 e1 r1 => ?_) m σd S w⟩
  obtain ⟨b, h1, h2⟩ := q
  exact ⟨b, truOk rfl rp1 r1 h1, h2 H1 rp1 e1⟩
theorem pw_of {op : BoolOp} {vs : List Expr} {pos : Pos} {t : TT} (h : PT X (.BoolOp op vs pos) t) : PW X (.BoolOp op vs pos) t := ⟨fun _ pins s σ H Q I q => h.run pins s σ H Q I q⟩
/-- and, or as values -/
theorem and_v {a b : Expr} {rest : List Expr} {pos : Pos} {ma mb : ME} (ha : PE X a (tD (cc X ga Z) H0 S0 (wE G x ma))) (hb : PE X (.BoolOp .And (b :: rest) pos) (tD (cc X ga Z) H0 S0 (wE G x mb))) :
    PE X (.BoolOp .And (a :: b :: rest) pos) (tD (cc X ga Z) H0 S0 (wE G x (.and ma mb))) := by
  refine PE.imp (pe_andT ha hb) fun σ H Q q => ?_
  obtain ⟨σd, S, rs, rp, ex, w⟩ := q
  unfold wE at w
  refine ⟨σd, S, rs, rp, ex, wE_mono (fun d S1 q H1 v rp1 e1 r1 => ?_) ma σd S w⟩
  obtain ⟨c, h1, h2⟩ := q
  refine ⟨c, truOk rfl rp1 r1 h1, ?_⟩
  cases c with
  | true => exact ⟨σd, S1, rs.ext e1, rp1, ex.trans e1, wE_mono (fun d S' => kD_ext e1) mb σd S1 h2⟩
  | false => exact h2 H1 v rp1 e1 r1
theorem or_v {a b : Expr} {rest : List Expr} {pos : Pos} {ma mb : ME} (ha : PE X a (tD (cc X ga Z) H0 S0 (wE G x ma))) (hb : PE X (.BoolOp .Or (b :: rest) pos) (tD (cc X ga Z) H0 S0 (wE G x mb))) :
    PE X (.BoolOp .Or (a :: b :: rest) pos) (tD (cc X ga Z) H0 S0 (wE G x (.or ma mb))) := by
  refine PE.imp (pe_orT ha hb) fun σ H Q q => ?_
  obtain ⟨σd, S, rs, rp, ex, w⟩ := q
  unfold wE at w
  refine ⟨σd, S, rs, rp, ex, wE_mono (fun d S1 q H1 v rp1 e1 r1 => ?_) ma σd S w⟩
  obtain ⟨c, h1, h2⟩ := q
  refine ⟨c, truOk rfl rp1 r1 h1, ?_⟩
  cases c with
  | true => exact h2 H1 v rp1 e1 r1
  | false => exact ⟨σd, S1, rs.ext e1, rp1, ex.trans e1, wE_mono (fun d S' => kD_ext e1) mb σd S1 h2⟩
/-- .. as tests -/
theorem and_t {a b : Expr} {rest : List Expr} {pos : Pos} {ma mb : ME} (ha : PT X a (tDT (cc X ga Z) H0 S0 (wE G x ma))) (hb : PT X (.BoolOp .And (b :: rest) pos) (tDT (cc X ga Z) H0 S0 (wE G x mb))) :
    PT X (.BoolOp .And (a :: b :: rest) pos) (tDT (cc X ga Z) H0 S0 (wE G x (.and ma mb))) := by
  refine PT.imp (pw_and ha (pw_of hb)).pt fun σ H Q q => ?_
  obtain ⟨σd, S, rs, rp, ex, w⟩ := q
  unfold wE at w
  refine ⟨σd, S, rs, rp, ex, wE_mono (fun d S1 q => ?_) ma σd S w⟩
  obtain ⟨c, h1, h2⟩ := q
  refine ⟨c, h1, fun H1 rp1 e1 => ?_⟩
  cases c with
  | true =>
    refine ⟨σd, S1, rs.ext e1, rp1, ex.trans e1, wE_mono (fun d S' q => ?_) mb σd S1 h2⟩
    obtain ⟨b, h3, h4⟩ := q
    exact ⟨b, h3, fun H' rp' e' => h4 H' rp' (e1.trans e')⟩
  | false =>
    obtain ⟨b, h3, h4⟩ := h2
    rw [h1] at h3
    cases h3
    exact h4 H1 rp1 e1
theorem or_t {a b : Expr} {rest : List Expr} {pos : Pos} {ma mb : ME} (ha : PT X a (tDT (cc X ga Z) H0 S0 (wE G x ma))) (hb : PT X (.BoolOp .Or (b :: rest) pos) (tDT (cc X ga Z) H0 S0 (wE G x mb))) :
    PT X (.BoolOp .Or (a :: b :: rest) pos) (tDT (cc X ga Z) H0 S0 (wE G x (.or ma mb))) := by
  refine PT.imp (pw_or ha (pw_of hb)).pt fun σ H Q q => ?_
  obtain ⟨σd, S, rs, rp, ex, w⟩ := q
  unfold wE at w
  refine ⟨σd, S, rs, rp, ex, wE_mono (fun d S1 q => ?_) ma σd S w⟩
  obtain ⟨c, h1, h2⟩ := q
  refine ⟨c, h1, fun H1 rp1 e1 => ?_⟩
  cases c with
  | false =>
    refine ⟨σd, S1, rs.ext e1, rp1, ex.trans e1, wE_mono (fun d S' q => ?_) mb σd S1 h2⟩
    obtain ⟨b, h3, h4⟩ := q
    exact ⟨b, h3, fun H' rp' e' => h4 H' rp' (e1.trans e')⟩
  | true =>
    obtain ⟨b, h3, h4⟩ := h2
    rw [h1] at h3
    cases h3
    exact h4 H1 rp1 e1
theorem not_t {a : Expr} {pos : Pos} {ma : ME} (ha : PT X a (tDT (cc X ga Z) H0 S0 (wE G x ma))) : PT X (.UnaryOp .Not a pos) (tDT (cc X ga Z) H0 S0 (wE G x (.not ma))) := by
  refine PT.imp (pt_not ha) fun σ H Q q => ?_
  obtain ⟨σd, S, rs, rp, ex, w⟩ := q
  unfold wE at w
  refine ⟨σd, S, rs, rp, ex, wE_mono (fun d S1 q => ?_) ma σd S w⟩
  obtain ⟨c, h1, b, h2, h3⟩ := q
  cases (show some (!c) = some b from h2)
  exact ⟨c, h1, fun H' rp' e' => h3 H' rp' e'⟩
theorem not_v {a : Expr} {pos : Pos} {ma : ME} (ha : PE X a (tD (cc X ga Z) H0 S0 (wE G x ma))) : PE X (.UnaryOp .Not a pos) (tD (cc X ga Z) H0 S0 (wE G x (.not ma))) := by
  refine PE.imp (pe_notT ha) fun σ H Q q => ?_
  obtain ⟨σd, S, rs, rp, ex, w⟩ := q
  unfold wE at w
  refine ⟨σd, S, rs, rp, ex, wE_mono (fun d S1 q H1 v rp1 e1 r1 => ?_) ma σd S w⟩
  obtain ⟨c, h1, h2⟩ := q
  exact ⟨c, truOk rfl rp1 r1 h1, h2 H1 _ rp1 e1 mk_bl⟩
theorem cmp_v (hu : X.A.units + 64 < cLine) {a b : Expr} {pos : Pos} {o : CmpOp} {ma mb : ME} (hn : notSet b = true) (ha : PE X a (tD (cc X ga Z) H0 S0 (wE G x ma))) (hb : PE X b (tD (cc X ga Z) H0 S0 (wE G x mb))) : PE X (.Compare a [o] [b] pos) (tD (cc X ga Z) H0 S0 (wE G x (.cmp o ma mb))) := by
  refine PE.imp (pe_cmpR (cmpOk (ga := ga) (Z := Z) hu o) ha hb (notSet_marks hn)) fun σ H Q q => ?_
  unfold wE at q
  refine tD_two (fun u v S k k' hk z => ?_) q
  obtain ⟨r, h1, h2⟩ := z
  exact ⟨r, h1, hk _ _ h2⟩
theorem cmp_t (hu : X.A.units + 64 < cLine) {a b : Expr} {pos : Pos} {o : CmpOp} {ma mb : ME} (hn : notSet b = true) (ha : PE X a (tD (cc X ga Z) H0 S0 (wE G x ma))) (hb : PE X b (tD (cc X ga Z) H0 S0 (wE G x mb))) : PT X (.Compare a [o] [b] pos) (tDT (cc X ga Z) H0 S0 (wE G x (.cmp o ma mb))) := by
  refine PT.imp (pt_cmpR (cmpOk (ga := ga) (Z := Z) hu o) ha hb (notSet_marks hn)) fun σ H Q q => ?_
  obtain ⟨σd, S, rs, rp, ex, w⟩ := q
  unfold wE at w
  refine ⟨σd, S, rs, rp, ex, wE_mono (fun u S1 q H1 v rp1 e1 r1 => ⟨σd, S1, rs.ext e1, rp1, ex.trans e1, wE_mono (fun w S2 q H2 z rp2 e2 r2 => ⟨u, w, S2, rp2, r1.ext e2, r2, ?_⟩) mb σd S1 q⟩) ma σd S w⟩
  obtain ⟨r, h1, b, h2, h3⟩ := q
  cases (show some r = some b from h2)
  refine ⟨r, h1, fun H' v' rp' e' r' => ⟨r, ?_, h3 H' rp' ((e1.trans e2).trans e')⟩⟩
  unfold RelD at r'
  exact r'
theorem cmp2_v (hu : X.A.units + 64 < cLine) {a b c : Expr} {pos : Pos} {o p : CmpOp} {ma mb mc : ME} (hn : notSet c = true) (ha : PE X a (tD (cc X ga Z) H0 S0 (wE G x ma))) (hb : PE X b (tD (cc X ga Z) H0 S0 (wE G x mb))) (hc : PE X c (tD (cc X ga Z) H0 S0 (wE G x mc))) :
    PE X (.Compare a [o, p] [b, c] pos) (tD (cc X ga Z) H0 S0 (wE G x (.cmp2 o p ma mb mc))) := by
  refine PE.imp (pe_chain (cmpOk (ga := ga) (Z := Z) hu o) (cmpOk (ga := ga) (Z := Z) hu p) ha hb hc (notSet_last hn)) fun σ H Q q => ?_
  obtain ⟨σd, S, rs, rp, ex, w⟩ := q
  unfold wE at w
  refine ⟨σd, S, rs, rp, ex, wE_mono (fun u S1 q H1 v rp1 e1 r1 => ⟨σd, S1, rs.ext e1, rp1, ex.trans e1, wE_mono (fun w S2 q H2 z rp2 e2 r2 => ⟨u, w, S2, rp2, r1.ext e2, r2, ?_⟩) mb σd S1 q⟩) ma σd S w⟩
  obtain ⟨r, h1, q⟩ := q
  refine ⟨r, h1, fun H3 v3 rp3 e3 r3 => ⟨r, by unfold RelD at r3; exact r3, ?_⟩⟩
  have e13 := (e1.trans e2).trans e3
  cases r with
  | true =>
    refine ⟨σd, S2, rs.ext e13, rp3, ex.trans e13, wE_mono (fun y S4 q H4 v4 rp4 e4 r4 => ⟨w, y, S4, rp4, (r2.ext e3).ext e4, r4, ?_⟩) mc σd S2 q⟩
    obtain ⟨r', h2, h3⟩ := q
    exact ⟨r', h2, kD_ext (e13.trans e4) h3⟩
  | false => exact q H3 _ rp3 e13 mk_bl
theorem cmp2_t (hu : X.A.units + 64 < cLine) {a b c : Expr} {pos : Pos} {o p : CmpOp} {ma mb mc : ME} (hn : notSet c = true) (ha : PE X a (tD (cc X ga Z) H0 S0 (wE G x ma))) (hb : PE X b (tD (cc X ga Z) H0 S0 (wE G x mb))) (hc : PE X c (tD (cc X ga Z) H0 S0 (wE G x mc))) :
    PT X (.Compare a [o, p] [b, c] pos) (tDT (cc X ga Z) H0 S0 (wE G x (.cmp2 o p ma mb mc))) := by
  refine PT.imp (pt_chain (cmpOk (ga := ga) (Z := Z) hu o) (cmpOk (ga := ga) (Z := Z) hu p) ha hb hc (notSet_last hn)) fun σ H Q q => ?_
  obtain ⟨σd, S, rs, rp, ex, w⟩ := q
  unfold wE at w
  refine ⟨σd, S, rs, rp, ex, wE_mono (fun u S1 q H1 v rp1 e1 r1 => ⟨σd, S1, rs.ext e1, rp1, ex.trans e1, wE_mono (fun w S2 q H2 z rp2 e2 r2 => ⟨u, w, S2, rp2, r1.ext e2, r2, ?_⟩) mb σd S1 q⟩) ma σd S w⟩
  obtain ⟨r, h1, q⟩ := q
  refine ⟨r, h1, fun H3 v3 rp3 e3 r3 => ⟨r, by unfold RelD at r3; exact r3, ?_⟩⟩
  have e13 := (e1.trans e2).trans e3
  cases r with
  | true =>
    refine ⟨σd, S2, rs.ext e13, rp3, ex.trans e13, wE_mono (fun y S4 q H4 v4 rp4 e4 r4 => ⟨w, y, S4, rp4, (r2.ext e3).ext e4, r4, ?_⟩) mc σd S2 q⟩
    obtain ⟨r', h2, b, h3, h4⟩ := q
    cases (show some r' = some b from h3)
    exact ⟨r', h2, fun H5 v5 rp5 e5 r5 => ⟨r', by unfold RelD at r5; exact r5, h4 H5 rp5 ((e13.trans e4).trans e5)⟩⟩
  | false =>
    obtain ⟨b, h3, h4⟩ := q
    cases (show some false = some b from h3)
    exact ⟨false, rfl, h4 H3 rp3 e13⟩
theorem ifx_v {c a b : Expr} {pos : Pos} {mc ma mb : ME} (hc : PT X c (tDT (cc X ga Z) H0 S0 (wE G x mc))) (ha : PE X a (tD (cc X ga Z) H0 S0 (wE G x ma))) (hb : PE X b (tD (cc X ga Z) H0 S0 (wE G x mb))) : PE X (.IfExp c a b pos) (tD (cc X ga Z) H0 S0 (wE G x (.ifx mc ma mb))) := by
  refine PE.imp (pe_ifExp hc ha hb) fun σ H Q q => ?_
  obtain ⟨σd, S, rs, rp, ex, w⟩ := q
  unfold wE at w
  refine ⟨σd, S, rs, rp, ex, wE_mono (fun u S1 q => ?_) mc σd S w⟩
  obtain ⟨z, h1, h2⟩ := q
  refine ⟨z, h1, fun H1 rp1 e1 => ?_⟩
  cases z with
  | true => exact ⟨σd, S1, rs.ext e1, rp1, ex.trans e1, wE_mono (fun d S' => kD_ext e1) ma σd S1 h2⟩
  | false => exact ⟨σd, S1, rs.ext e1, rp1, ex.trans e1, wE_mono (fun d S' => kD_ext e1) mb σd S1 h2⟩
end
end Mn

namespace Mn
open PySem L2
section
variable {X : Cx} {ga : Str → Addr} {Z : Addr → Prop} {H0 : Hp} {S0 : Sto} {G : Gc} {x : XW}
/-! ### subscripts, slices, displays -/
theorem bin_v {a b : Expr} {pos : Pos} {o : Operator} {m : Bool} {ma mb : ME} (ha : PE X a (tD (cc X ga Z) H0 S0 (wE G x ma))) (hb : PE X b (tD (cc X ga Z) H0 S0 (wE G x mb))) : PE X (.BinOp a o b pos) (tD (cc X ga Z) H0 S0 (wE G x (.bin o m ma mb))) := by
  refine PE.imp (pe_op (binOk (ga := ga) (Z := Z) o m) ha hb) fun σ H Q q => ?_
  unfold wE at q
  refine tD_two (fun u v S k k' hk z => ?_) q
  obtain ⟨r, h1, h2⟩ := z
  exact ⟨r, h1, fin_mono hk h2⟩
theorem neg_v {a : Expr} {pos : Pos} {ma : ME} (ha : PE X a (tD (cc X ga Z) H0 S0 (wE G x ma))) : PE X (.UnaryOp .USub a pos) (tD (cc X ga Z) H0 S0 (wE G x (.neg ma))) := by
  refine PE.imp (pe_un (negOk (ga := ga) (Z := Z)) ha) fun σ H Q q => ?_
  unfold wE at q
  refine tD_one (fun u S k k' hk z => ?_) q
  obtain ⟨r, h1, h2⟩ := z
  exact ⟨r, h1, hk _ _ h2⟩
theorem idx_v {a b : Expr} {pos : Pos} {ma mb : ME} (hn : notSl b = true) (ha : PE X a (tD (cc X ga Z) H0 S0 (wE G x ma))) (hb : PE X b (tD (cc X ga Z) H0 S0 (wE G x mb))) : PE X (.Subscript a b pos) (tD (cc X ga Z) H0 S0 (wE G x (.idx ma mb))) := by
  refine PE.imp (pe_ix (idxOk (ga := ga) (Z := Z)) ha hb (notSl_plain hn)) fun σ H Q q => ?_
  unfold wE at q
  refine tD_two (fun u v S k k' hk z => ?_) q
  obtain ⟨r, h1, h2⟩ := z
  exact ⟨r, h1, hk _ _ h2⟩
theorem slL_v {a b : Expr} {pos p2 : Pos} {m : Bool} {ma mb : ME} (ha : PE X a (tD (cc X ga Z) H0 S0 (wE G x ma))) (hb : PE X b (tD (cc X ga Z) H0 S0 (wE G x mb))) : PE X (.Subscript a (.Slice (some b) none none p2) pos) (tD (cc X ga Z) H0 S0 (wE G x (.slL m ma mb))) := by
  refine PE.imp (pe_slice (slcOk (ga := ga) (Z := Z) m) ha (po_some hb) po_none) fun σ H Q q => ?_
  obtain ⟨σd, S, rs, rp, ex, w⟩ := q
  unfold wE at w
  refine ⟨σd, S, rs, rp, ex, wE_mono (fun u S1 q H1 v rp1 e1 r1 => ⟨σd, S1, rs.ext e1, rp1, ex.trans e1, wE_mono (fun w S2 q H2 z rp2 e2 r2 => ?_) mb σd S1 q⟩) ma σd S w⟩
  obtain ⟨i, rfl, r, h1, h2⟩ := q
  refine ⟨i, rel_int r2, u, S2, rp2, r1.ext e2, r, h1, fin_mono (fun d S' => kD_ext (e1.trans e2)) h2⟩
theorem slU_v {a b : Expr} {pos p2 : Pos} {m : Bool} {ma mb : ME} (ha : PE X a (tD (cc X ga Z) H0 S0 (wE G x ma))) (hb : PE X b (tD (cc X ga Z) H0 S0 (wE G x mb))) : PE X (.Subscript a (.Slice none (some b) none p2) pos) (tD (cc X ga Z) H0 S0 (wE G x (.slU m ma mb))) := by
  refine PE.imp (pe_slice (slcOk (ga := ga) (Z := Z) m) ha po_none (po_some hb)) fun σ H Q q => ?_
  obtain ⟨σd, S, rs, rp, ex, w⟩ := q
  unfold wE at w
  refine ⟨σd, S, rs, rp, ex, wE_mono (fun u S1 q H1 v rp1 e1 r1 => ⟨σd, S1, rs.ext e1, rp1, ex.trans e1, wE_mono (fun w S2 q H2 z rp2 e2 r2 => ?_) mb σd S1 q⟩) ma σd S w⟩
  obtain ⟨i, rfl, r, h1, h2⟩ := q
  refine ⟨i, rel_int r2, u, S2, rp2, r1.ext e2, r, h1, fin_mono (fun d S' => kD_ext (e1.trans e2)) h2⟩
theorem slLU_v {a b c : Expr} {pos p2 : Pos} {m : Bool} {ma mb mc : ME} (ha : PE X a (tD (cc X ga Z) H0 S0 (wE G x ma))) (hb : PE X b (tD (cc X ga Z) H0 S0 (wE G x mb))) (hc : PE X c (tD (cc X ga Z) H0 S0 (wE G x mc))) :
    PE X (.Subscript a (.Slice (some b) (some c) none p2) pos) (tD (cc X ga Z) H0 S0 (wE G x (.slLU m ma mb mc))) := by
  refine PE.imp (pe_slice (slcOk (ga := ga) (Z := Z) m) ha (po_some hb) (po_some hc)) fun σ H Q q => ?_
  obtain ⟨σd, S, rs, rp, ex, w⟩ := q
  unfold wE at w
  refine ⟨σd, S, rs, rp, ex, wE_mono (fun u S1 q H1 v rp1 e1 r1 => ⟨σd, S1, rs.ext e1, rp1, ex.trans e1, wE_mono (fun w S2 q H2 z rp2 e2 r2 => ?_) mb σd S1 q⟩) ma σd S w⟩
  obtain ⟨i, rfl, q⟩ := q
  have e12 := e1.trans e2
  refine ⟨i, rel_int r2, σd, S2, rs.ext e12, rp2, ex.trans e12, wE_mono (fun y S3 q H3 z3 rp3 e3 r3 => ?_) mc σd S2 q⟩
  obtain ⟨j, rfl, r, h1, h2⟩ := q
  exact ⟨j, rel_int r3, u, S3, rp3, (r1.ext e2).ext e3, r, h1, fin_mono (fun d S' => kD_ext (e12.trans e3)) h2⟩
theorem tup_v {es : List Expr} {k : Nat} {pos : Pos} {ms : List ME} (h : PA X es (tDA (cc X ga Z) H0 S0 (wEs G x ms))) : PE X (.Tuple es k pos) (tD (cc X ga Z) H0 S0 (wE G x (.tup ms))) := by
  refine PE.imp (pe_tup h) fun σ H Q q => ?_
  obtain ⟨σd, S, rs, rp, ex, w⟩ := q
  unfold wE at w
  refine ⟨σd, S, rs, rp, ex, wEs_mono (fun ds S1 q H1 vs rp1 e1 r1 => ?_) ms σd S w⟩
  exact ⟨by rw [r1.len]; exact q.1, kD_tup rp1 (kD_ext e1 q.2) r1⟩
theorem lst_v {es : List Expr} {pos : Pos} {m : Bool} {ms : List ME} (h : PA X es (tDA (cc X ga Z) H0 S0 (wEs G x ms))) : PE X (.List es pos) (tD (cc X ga Z) H0 S0 (wE G x (.lst m ms))) := by
  refine PE.imp (pe_lst h) fun σ H Q q => ?_
  obtain ⟨σd, S, rs, rp, ex, w⟩ := q
  unfold wE at w
  refine ⟨σd, S, rs, rp, ex, wEs_mono (fun ds S1 q H1 vs rp1 e1 r1 => ?_) ms σd S w⟩
  exact ⟨by rw [r1.len]; exact q.1, fin_new rp1 (fin_mono (fun d S' => kD_ext e1) q.2) r1⟩
/-! ### calls -/
theorem boot_bf (f : Bf) : bootBuiltins f.nm = some (bfV f) := by cases f <;> decide +kernel
theorem bf_name (f : Bf) : f.nm ≠ "__name__" ∧ (f.nm == ("__debug__" : Str)) = false := by cases f <;> exact ⟨by decide +kernel, by decide +kernel⟩
theorem blt_v {sc : Scope} (g : Gd X sc ga Z H0 S0 G x) {f : Bf} {m : Bool} {e : Expr} {es : List Expr} {p pos : Pos} {ms : List ME} (hg : gloB sc f.nm = true) (hm : matchEs X.N sc ms (e :: es) = true) (h : PA X (e :: es) (tDA (cc X ga Z) H0 S0 (wEs G x ms))) :
    PE X (.Call (.Name f.nm p) (e :: es) [] pos) (tD (cc X ga Z) H0 S0 (wE G x (.blt f m ms))) := by
  have hs : starEach (e :: es) X.env = (false, eval e X.env) :: starEach es X.env ∧ (backTo pos (starEach es X.env)).any (·.1) = false := by
    cases ms with
    | nil => unfold matchEs at hm; cases hm
    | cons m ms =>
      unfold matchEs at hm
      obtain ⟨h1, h2⟩ := and2 hm
      exact ⟨starEach_cons h1, (star_all (and2 h2).2).1⟩
  have imp : ∀ σ H Q, tD (cc X ga Z) H0 S0 (wE G x (.blt f m ms)) σ H Q → tCB (rDc (cc X ga Z) fun us S k => ∃ r, bltR f us S = some r ∧ fin m r S k) (tDA (cc X ga Z) H0 S0 (wEs G x ms)) σ H Q := fun σ H Q q => by
    obtain ⟨σd, S, rs, rp, ex, w⟩ := q
    unfold wE at w
    refine tD_args (fun u S k k' hk z => ?_) ⟨σd, S, rs, rp, ex, w⟩
    obtain ⟨r, h1, h2⟩ := z
    exact ⟨r, h1, fin_mono hk h2⟩
  have hc := bltOk (X := X) (ga := ga) (Z := Z) g.calm f m
  have hb := boot_bf f
  have hn := bf_name f
  have hgl := g.sck.glo hg
  have hmg := g.blt f
  cases f with
  | int => exact PE.imp (pe_callTy hc hgl hmg hb h hn.1 hn.2 hs.1 hs.2) imp
  | list => exact PE.imp (pe_callTy hc hgl hmg hb h hn.1 hn.2 hs.1 hs.2) imp
  | len => exact PE.imp (pe_callB hc hgl hmg hb h hn.1 hn.2 hs.1 hs.2) imp
  | abs => exact PE.imp (pe_callB hc hgl hmg hb h hn.1 hn.2 hs.1 hs.2) imp
  | max => exact PE.imp (pe_callB hc hgl hmg hb h hn.1 hn.2 hs.1 hs.2) imp
  | sum => exact PE.imp (pe_callB hc hgl hmg hb h hn.1 hn.2 hs.1 hs.2) imp
  | all => exact PE.imp (pe_callB hc hgl hmg hb h hn.1 hn.2 hs.1 hs.2) imp
  | isinstance => exact PE.imp (pe_callB hc hgl hmg hb h hn.1 hn.2 hs.1 hs.2) imp
theorem bm_v {sc : Scope} {f : Bm} {m : Bool} {o e : Expr} {es : List Expr} {ap pos : Pos} {mo : ME} {ms : List ME} (hl : (ap.endLine == pos.line) = true) (hsu : notSuper o = true) (hfew : es.length < 20) (hm : matchEs X.N sc ms (e :: es) = true)
    (ho : PE X o (tD (cc X ga Z) H0 S0 (wE G x mo))) (h : PA X (e :: es) (tDA (cc X ga Z) H0 S0 (wEs G x ms))) :
    PE X (.Call (.Attribute o f.nm ap) (e :: es) [] pos) (tD (cc X ga Z) H0 S0 (wE G x (.bm f m mo ms))) := by
  have hs : starEach (e :: es) X.env = (false, eval e X.env) :: starEach es X.env ∧ (backTo pos (starEach es X.env)).any (·.1) = false := by
    cases ms with
    | nil => unfold matchEs at hm; cases hm
    | cons m ms =>
      unfold matchEs at hm
      obtain ⟨h1, h2⟩ := and2 hm
      exact ⟨starEach_cons h1, (star_all (and2 h2).2).1⟩
  have hf : ((backTo pos (starEach (e :: es) X.env)).all (fun x => !x.1) && (backToKw pos (keywordEach [] X.env)).all (fun x => x.1.isSome)
      && decide ((e :: es).length + ([] : List Keyword).length + (if ([] : List Keyword).isEmpty then 0 else 1) < 30)) = true := by
    rw [(star_all (env := X.env) (pos := pos) hm).2]
    show (true && true && decide (es.length + 1 + 0 + 0 < 30)) = true
    simp only [Bool.true_and, decide_eq_true_eq]
    omega
  cases f with
  | append =>
    refine PE.imp (pe_bm PySem.F.plainAttrs_list PySem.F.slot_list_append PySem.F.type_list_append mt_append ho h (notSuper_base hsu) hf hl hs.1 hs.2) fun σ H Q q => ?_
    obtain ⟨σd, S, rs, rp, ex, w⟩ := q
    unfold wE at w
    refine ⟨σd, S, rs, rp, ex, wE_mono (fun u S1 q H1 v rp1 e1 r1 => ?_) mo σd S w⟩
    obtain ⟨t1, q⟩ := q
    obtain ⟨l, hl⟩ := Option.isSome_iff_exists.mp (show (listOf S1 u).isSome = true from t1)
    obtain ⟨a, vs, rfl, h1, _⟩ := listOf_sq rp1 r1 hl
    refine ⟨.inl ⟨rfl, vs, .of h1⟩, σd, S1, rs.ext e1, rp1, ex.trans e1, wEs_mono (fun ds S2 q H2 ws rp2 e2 r2 => ?_) ms σd S1 q⟩
    obtain ⟨r, hb, hf⟩ := q
    unfold bmR at hb
    split at hb
    · rename_i b d _
      split at hb
      · rename_i l' hl'
        obtain ⟨c, rfl⟩ := g?_some hb
        unfold RelD at r1
        obtain rfl : a = b := V.ref.inj r1
        obtain ⟨w, rfl, r3⟩ := rel1 r2
        have hS := lstAt_some hl'
        obtain ⟨o, h2, h3⟩ := rp2.obj a _ hS
        obtain ⟨ys, rfl, z⟩ := h3
        refine ⟨a, ys, w, rfl, rfl, h2, by rw [z.len]; exact c, ?_⟩
        have eS := Ext.set (H := H2) (S := S2) (p := a) (o := .lst (ys ++ [w])) (m := .lst (l' ++ [d])) hS
        refine hf _ _ (rp2.set hS ⟨_, rfl, (z.app (RelDs.cons r3 RelDs.nil)).ext eS⟩) ((e1.trans e2).trans eS) mk_non
      · cases hb
    · cases hb
/-- f(e, ..) of an own def -/
theorem call_v {sc : Scope} (g : Gd X sc ga Z H0 S0 G x) {f : Str} {e : Expr} {es : List Expr} {p pos : Pos} {ms : List ME} (hg : gloB sc f = true) (hd : dbgB f = true) (hm : matchEs X.N sc ms (e :: es) = true) (h : PA X (e :: es) (tDA (cc X ga Z) H0 S0 (wEs G x ms))) :
    PE X (.Call (.Name f p) (e :: es) [] pos) (tD (cc X ga Z) H0 S0 (wE G x (.call f ms))) := by
  have hs : starEach (e :: es) X.env = (false, eval e X.env) :: starEach es X.env ∧ (backTo pos (starEach es X.env)).any (·.1) = false := by
    cases ms with
    | nil => unfold matchEs at hm; cases hm
    | cons m ms =>
      unfold matchEs at hm
      obtain ⟨h1, h2⟩ := and2 hm
      exact ⟨starEach_cons h1, (star_all (and2 h2).2).1⟩
  have hdb : (f == ("__debug__" : Str)) = false := by
    have := (and2 (and2 hd).1).1
    simpa using this
  by_cases hf : ∃ sp, G.fn f = some (ms.length, sp)
  · obtain ⟨sp, hf⟩ := hf
    obtain ⟨fa, fd, k, ps, hps, hmg, F, hr, hk, hb⟩ := (g.fns f _ sp hf).ex
    refine PE.imp (pe_callSD (dvs := []) (ds := []) (E := fun σ cls d H' => liftX (cc X ga Z) H0 S0 x cls d σ H') F hr (g.sck.glo hg) hmg hk hb .nil (fun σ => passAt g.tk σ) h hdb hs.1 hs.2) fun σ H Q q => ?_
    obtain ⟨σd, S, rs, rp, ex, w⟩ := q
    unfold wE at w
    obtain ⟨sp', h1, w⟩ := w
    rw [hf] at h1
    cases h1
    refine ⟨σd, S, rs, rp, ex, wEs_mono (fun ds S1 q H1 vs rp1 e1 r1 => ?_) ms σd S (wEs_len ms σd S _ w)⟩
    refine ⟨by rw [List.append_nil, r1.len, q.1], ds, S1, Z, by rw [List.append_nil]; exact r1, rp1, callW_mono (fun d S' => kD_ext e1) (fun e S' hx H' cls d rp' e' rx => ?_) q.2⟩
    exact ⟨e, σd, S', rs.ext (e1.trans e'), rp', ex.trans (e1.trans e'), rx, hx⟩
  · refine ⟨fun pins s σ H Q I q => ?_⟩
    exfalso
    obtain ⟨σd, S, rs, rp, ex, w⟩ := q
    unfold wE at w
    obtain ⟨sp', h1, w⟩ := w
    exact hf ⟨sp', h1⟩
end
end Mn

namespace Mn
open PySem L2
/-! ### targets -/
def gD (C : Cc) (t : MT) : TG := fun v σ H Q => ∃ (d : D) (σd σ' : Env) (S : Sto), RelS C H S σd σ ∧ Rp C H S ∧ RelD C H S d v ∧ asgT t d σd = some σ' ∧
  ∀ σv, RelS C H S σ' σv → (∀ vs, (∀ i ∈ slots t, i ∈ vs) → wipe σv vs = wipe σ vs) → Q σv H
def gDs (C : Cc) (ts : List MT) : TGs := fun v σ H Q => ∃ (ds : List D) (σd σ' : Env) (S : Sto), RelS C H S σd σ ∧ Rp C H S ∧ RelDs C H S ds v ∧ asgTs ts ds σd = some σ' ∧
  ∀ σv, RelS C H S σ' σv → (∀ vs, (∀ i ∈ slotss ts, i ∈ vs) → wipe σv vs = wipe σ vs) → Q σv H
theorem PG.imp {X : Cx} {e : Expr} {t t' : TG} (h : PG X e t) (i : ∀ v σ H Q, t' v σ H Q → t v σ H Q) : PG X e t' := ⟨fun pins s σ H v u Q I r q => h.run pins s σ H v u Q I r (i v σ H Q q)⟩
theorem PGs.imp {X : Cx} {e : List Expr} {t t' : TGs} (h : PGs X e t) (i : ∀ v σ H Q, t' v σ H Q → t v σ H Q) : PGs X e t' := ⟨fun pins s σ H v u Q I r q => h.run pins s σ H v u Q I r (i v σ H Q q)⟩
theorem wipe_set {σ : St} {i : Nat} {o : Option V} : ∀ {vs : List Nat}, i ∈ vs → wipe (σ.set i o) vs = wipe σ vs
  | [], h => by simp at h
  | v :: vs, h => by
    unfold wipe
    by_cases e : i ∈ vs
    · rw [wipe_set e]
    · have ei : i = v := by
        rcases List.mem_cons.mp h with q | q
        · exact q
        · exact absurd q e
      subst ei
      have aux : ∀ (vs : List Nat) (σ : St), i ∉ vs → wipe (σ.set i o) vs = (wipe σ vs).set i o := by
        intro vs
        induction vs with
        | nil => intro σ _; rfl
        | cons w ws ih =>
          intro σ hn
          unfold wipe
          have hw : w ≠ i := fun q => hn (by rw [q]; exact List.mem_cons_self)
          rw [ih σ fun q => hn (List.mem_cons_of_mem _ q), List.set_comm _ _ (Ne.symm hw)]
      rw [aux vs σ e, List.set_set]
theorem assign_each {N : List Str} {sc : Scope} {env : PySem.Env} : ∀ {ts : List MT} {es : List Expr}, matchTs N sc ts es = true → (assignEach es env).length = ts.length ∧ (assignEach es env).findIdx? (·.1) = none ∧
    ∀ e r, es = e :: r → (assignEach (e :: r) env).map (·.2) = assign e env :: (assignEach r env).map (·.2)
  | [], [], _ => ⟨rfl, rfl, fun e r h => nomatch h⟩
  | [], _ :: _, h => by unfold matchTs at h; cases h
  | _ :: _, [], h => by unfold matchTs at h; cases h
  | t :: ts, e :: es, h => by
    unfold matchTs at h
    obtain ⟨h1, h2⟩ := and2 h
    obtain ⟨a1, a2, a3⟩ := assign_each (env := env) h2
    have hc : assignEach (e :: es) env = (false, assign e env) :: assignEach es env := by
      cases e with
      | Starred a b => cases t <;> (unfold matchT at h1; cases h1)
      | _ => rfl
    refine ⟨by rw [hc, List.length_cons, List.length_cons, a1], by rw [hc]; simp [List.findIdx?_cons, a2], fun e' r hr => ?_⟩
    cases hr
    rw [hc]; rfl
mutual
theorem soundG {X : Cx} {sc : Scope} {ga : Str → Addr} {Z : Addr → Prop} {H0 : Hp} {S0 : Sto} {G : Gc} {x : XW} (g : Gd X sc ga Z H0 S0 G x) : ∀ (t : MT) {e : Expr}, matchT X.N sc t e = true → PG X e (gD (cc X ga Z) t)
  | .nm i, e, h => by
    cases e with
    | Name y p =>
      unfold matchT at h
      obtain ⟨h1, h2⟩ := and2 h
      refine PG.imp (pg_name (i := i) g.nd (of_decide_eq_true h1) (g.sck.loc h2) (g.fnl y h2)) fun v σ H Q q => ?_
      obtain ⟨d, σd, σ', S, rs, rp, rd, ha, k⟩ := q
      unfold asgT at ha
      cases ha
      exact k _ (rs.set i rd) fun vs hv => wipe_set (hv i (by unfold slots; exact List.mem_singleton.mpr rfl))
    | _ => unfold matchT at h; cases h
  | .tp ts, e, h => by
    cases e with
    | Tuple es kk p =>
      unfold matchT at h
      obtain ⟨a1, a2, _⟩ := assign_each (env := X.env) h
      refine PG.imp (pg_tup g.calm (soundGs g ts h) a1 a2) fun v σ H Q q => ?_
      obtain ⟨d, σd, σ', S, rs, rp, rd, ha, k⟩ := q
      cases d with
      | tup ds =>
        unfold asgT at ha
        unfold RelD at rd
        obtain ⟨a, vs, rfl, f, r⟩ := rd
        refine ⟨a, vs, rfl, f.sq, ?_, ds, σd, σ', S, rs, rp, r, ha, fun σv q1 q2 => k σv q1 fun vs hv => q2 vs fun i hi => hv i (by unfold slots; exact hi)⟩
        rw [r.len]
        exact asgTs_len ts ds σd ha
      | _ => unfold asgT at ha; cases ha
    | _ => unfold matchT at h; cases h
theorem asgTs_len : ∀ (ts : List MT) (ds : List D) (σ : Env) {σ' : Env}, asgTs ts ds σ = some σ' → ds.length = ts.length
  | [], [], _, _, _ => rfl
  | [], _ :: _, _, _, h => by unfold asgTs at h; cases h
  | _ :: _, [], _, _, h => by unfold asgTs at h; cases h
  | t :: ts, d :: ds, σ, σ', h => by
    unfold asgTs at h
    split at h
    · rw [List.length_cons, List.length_cons, asgTs_len ts ds _ h]
    · cases h
theorem soundGs {X : Cx} {sc : Scope} {ga : Str → Addr} {Z : Addr → Prop} {H0 : Hp} {S0 : Sto} {G : Gc} {x : XW} (g : Gd X sc ga Z H0 S0 G x) : ∀ (ts : List MT) {es : List Expr}, matchTs X.N sc ts es = true → PGs X es (gDs (cc X ga Z) ts)
  | [], [], _ => by
    refine PGs.imp pgs_nil fun v σ H Q q => ?_
    obtain ⟨ds, σd, σ', S, rs, rp, rd, ha, k⟩ := q
    cases ds with
    | nil =>
      unfold asgTs at ha
      cases ha
      unfold RelDs at rd
      exact ⟨rd, k _ rs fun vs hv => rfl⟩
    | cons d ds => unfold asgTs at ha; cases ha
  | [], _ :: _, h => by unfold matchTs at h; cases h
  | _ :: _, [], h => by unfold matchTs at h; cases h
  | t :: ts, e :: es, h => by
    have h0 := h
    unfold matchTs at h
    obtain ⟨h1, h2⟩ := and2 h
    obtain ⟨_, _, a3⟩ := assign_each (env := X.env) h0
    refine PGs.imp (pgs_cons (soundG g t h1) (soundGs g ts h2) (a3 e es rfl)) fun v σ H Q q => ?_
    obtain ⟨ds, σd, σ', S, rs, rp, rd, ha, k⟩ := q
    cases ds with
    | nil => unfold asgTs at ha; cases ha
    | cons d ds =>
      unfold RelDs at rd
      obtain ⟨w, r, rfl, r1, r2⟩ := rd
      unfold asgTs at ha
      split at ha
      · rename_i σ1 h3
        refine ⟨w, r, rfl, d, σd, σ1, S, rs, rp, r1, h3, fun σv q1 q2 => ⟨ds, σ1, σ', S, q1, rp, r2, ha, fun σw q3 q4 => k σw q3 fun vs hv => ?_⟩⟩
        rw [q4 vs fun i hi => hv i (by unfold slotss; exact List.mem_append_right _ hi), q2 vs fun i hi => hv i (by unfold slotss; exact List.mem_append_left _ hi)]
      · cases ha
end
end Mn

namespace Mn
open PySem L2
/-! ### what is walked -/
def ItOk (C : Cc) (H1 : Hp) (S1 : Sto) (J : It) (its : List D) (gd : Sto → Prop) : Prop := ∀ (i : Nat) (H : Hp) (S : Sto), Rp C H S → Ext H1 S1 H S → gd S →
  (∀ d, its[i]? = some d → J.go i H ∧ ∀ v H', J.yld i H v H' → Rp C H' S ∧ Ext H S H' S ∧ RelD C H' S d v) ∧ (its.length ≤ i → J.stop i H)
section
variable {C : Cc} {H1 : Hp} {S1 : Sto}
theorem itok_seqL {a : Addr} {ds : List D} {gd : Sto → Prop} (h : ∀ H S, Rp C H S → Ext H1 S1 H S → gd S → ∃ vs, SqL C.K H a vs ∧ RelDs C H S ds vs) : ItOk C H1 S1 (Itl C.K a) ds gd := fun i H S rp ex hg => by
  obtain ⟨vs, h1, r⟩ := h H S rp ex hg
  refine ⟨fun d hd => ?_, fun hl => ⟨vs, h1, by rw [r.len]; exact hl⟩⟩
  obtain ⟨v, hv, rv⟩ := r.get hd
  refine ⟨⟨vs, v, h1, hv⟩, fun w H' hy => ?_⟩
  obtain ⟨rfl, hy⟩ := hy
  have e := hy vs h1
  rw [hv] at e
  cases e
  exact ⟨rp, Ext.refl _ _, rv⟩
theorem itok_seqT {a : Addr} {ds : List D} {gd : Sto → Prop} (h : ∀ H S, Rp C H S → Ext H1 S1 H S → gd S → ∃ vs, SqT C.K H a vs ∧ RelDs C H S ds vs) : ItOk C H1 S1 (Itt C.K a) ds gd := fun i H S rp ex hg => by
  obtain ⟨vs, h1, r⟩ := h H S rp ex hg
  refine ⟨fun d hd => ?_, fun hl => ⟨vs, h1, by rw [r.len]; exact hl⟩⟩
  obtain ⟨v, hv, rv⟩ := r.get hd
  refine ⟨⟨vs, v, h1, hv⟩, fun w H' hy => ?_⟩
  obtain ⟨rfl, hy⟩ := hy
  have e := hy vs h1
  rw [hv] at e
  cases e
  exact ⟨rp, Ext.refl _ _, rv⟩
theorem enmL_get : ∀ (ds : List D) (n i : Nat), (enmL n ds)[i]? = ds[i]?.map fun d => .tup [.int ((n + i : Nat) : Int), d]
  | [], n, i => by unfold enmL; simp
  | d :: ds, n, 0 => by unfold enmL; simp
  | d :: ds, n, i + 1 => by
    unfold enmL
    rw [List.getElem?_cons_succ, List.getElem?_cons_succ, enmL_get ds (n + 1) i, show n + 1 + i = n + (i + 1) by omega]
theorem enmL_len : ∀ (ds : List D) (n : Nat), (enmL n ds).length = ds.length
  | [], n => rfl
  | d :: ds, n => by unfold enmL; rw [List.length_cons, List.length_cons, enmL_len ds]
theorem itok_enum {a : Addr} {ds : List D} {gd : Sto → Prop} (h : ∀ H S, Rp C H S → Ext H1 S1 H S → gd S → ∃ vs, SqL C.K H a vs ∧ RelDs C H S ds vs) : ItOk C H1 S1 (Ite C.K a) (enmL 0 ds) gd := fun i H S rp ex hg => by
  obtain ⟨vs, h1, r⟩ := h H S rp ex hg
  refine ⟨fun d hd => ?_, fun hl => ⟨vs, h1, by rw [r.len]; rw [enmL_len] at hl; exact hl⟩⟩
  rw [enmL_get] at hd
  obtain ⟨e, he, rfl⟩ := Option.map_eq_some_iff.mp hd
  obtain ⟨v, hv, rv⟩ := r.get he
  refine ⟨⟨vs, v, h1, hv⟩, fun w H' hy => ?_⟩
  obtain ⟨T, y, rfl, nT, rfl, hy⟩ := hy
  have q := hy vs h1
  rw [hv] at q
  cases q
  refine ⟨rp.new nT, Ext.new nT, ?_⟩
  unfold RelD
  refine ⟨T, _, rfl, .inl ⟨upd_same, rp.free nT⟩, RelDs.cons ?_ (RelDs.cons (rv.ext (Ext.new nT)) RelDs.nil)⟩
  rw [Nat.zero_add]
  exact mk_int
theorem itok_range {lo : Int} {n : Nat} {ds : List D} (h : ds = (List.range n).map fun (k : Nat) => D.int (lo + k)) : ItOk C H1 S1 (Itr lo n) ds (fun _ => True) := fun i H S rp ex _ => by
  subst h
  refine ⟨fun d hd => ?_, fun hl => by
    have h2 : n ≤ i := by simpa using hl
    exact h2⟩
  rw [List.getElem?_map] at hd
  obtain ⟨k, hk, rfl⟩ := Option.map_eq_some_iff.mp hd
  have hi : i < n ∧ k = i := by
    obtain ⟨h1, h2⟩ := List.getElem?_eq_some_iff.mp hk
    rw [List.getElem_range] at h2
    exact ⟨by simpa using h1, h2.symm⟩
  refine ⟨hi.1, fun v H' hy => ?_⟩
  obtain ⟨rfl, rfl⟩ := hy
  rw [hi.2]
  exact ⟨rp, Ext.refl _ _, mk_int⟩
theorem itok_str {z : Str} (hz : PySem.PyData.strOk z = true) : ItOk C H1 S1 (Its z) (z.cps.toList.map fun c => .str ⟨#[c]⟩) (fun _ => True) := fun i H S rp ex _ => by
  refine ⟨fun d hd => ?_, fun hl => by
    have h2 : z.cps.size ≤ i := by simpa using hl
    exact h2⟩
  rw [List.getElem?_map] at hd
  obtain ⟨c, hc, rfl⟩ := Option.map_eq_some_iff.mp hd
  have hi : i < z.cps.size := by
    have := (List.getElem?_eq_some_iff.mp hc).1
    simpa using this
  refine ⟨hi, fun v H' hy => ?_⟩
  obtain ⟨rfl, c', h1, rfl⟩ := hy
  have e : c' = c := by
    rw [Array.getElem?_toList] at hc
    rw [h1] at hc
    exact Option.some.inj hc
  subst e
  exact ⟨rp, Ext.refl _ _, mk_str (strOk_sign hz (List.mem_of_getElem? hc))⟩
end
section
variable {X : Cx} {ga : Str → Addr} {Z : Addr → Prop} {H0 : Hp} {S0 : Sto} {G : Gc} {x : XW}
def ItAll (C : Cc) (H1 : Hp) (S1 : Sto) (J : It) (its : List D) (gd : Sto → Prop) : Prop := ∀ Z : Addr → Prop, (∀ a, Z a → C.Z a ∨ H1 a = none) → ItOk (C.wz Z) H1 S1 J its gd
/-- what a for or a comprehension asks of its source -/
def wiD (C : Cc) (H0 : Hp) (S0 : Sto) (G : Gc) (x : XW) (i : Nat) (as : List ME) : TI := fun σ H R => ∃ (σd : Env) (S : Sto), RelS C H S σd σ ∧ Rp C H S ∧ Ext H0 S0 H S ∧
  wEs G x as σd S fun ds S1 => ∃ its, itS i ds S1 = some its ∧ ∀ H1 J, Rp C H1 S1 → Ext H S H1 S1 → ItAll C H1 S1 J its.1 its.2 → R J H1
theorem PI.imp {X : Cx} {tg e : Expr} {t t' : TI} (h : PI X tg e t) (i : ∀ σ H R, t' σ H R → t σ H R) : PI X tg e t' := ⟨fun pins s σ H R I q => h.run pins s σ H R I (i σ H R q)⟩
theorem iterL {pins : List (Addr × Obj)} {σ : St} {H : Hp} {s : Shared} {tg : Expr} {R : It → Hp → Prop} {a : Addr} {vs : List V} (I : Inv X pins σ H s) (h : SqL X.K H a vs) (q : R (Itl X.K a) H) : wpAny (model X.prog X.w) X.A (pyIter (.ref a)) (PIE X pins σ tg R) X.xe s := by
  obtain ⟨its, _, p, _⟩ := I.list h
  exact wpAny_pyIter_list p.isList (pi_one (tk := s.toks) I _ (turn_list a _) ⟨_, Heap.get?_push_size _ rfl, rfl, rfl⟩ q)
theorem iterT {pins : List (Addr × Obj)} {σ : St} {H : Hp} {s : Shared} {tg : Expr} {R : It → Hp → Prop} {a : Addr} {vs : List V} (I : Inv X pins σ H s) (h : SqT X.K H a vs) (q : R (Itt X.K a) H) : wpAny (model X.prog X.w) X.A (pyIter (.ref a)) (PIE X pins σ tg R) X.xe s := by
  obtain ⟨its, _, p, _⟩ := I.tuple h
  exact wpAny_pyIter_tuple (show s.heap.IsTuple a its.toArray from p) (pi_one (tk := s.toks) I _ (turn_tuple a _) ⟨_, Heap.get?_push_size _ rfl, rfl, rfl⟩ q)
theorem iterS {pins : List (Addr × Obj)} {σ : St} {H : Hp} {s : Shared} {tg : Expr} {R : It → Hp → Prop} {z : Str} {t : Tok} (I : Inv X pins σ H s) (q : R (Its z) H) : wpAny (model X.prog X.w) X.A (pyIter (.str z t)) (PIE X pins σ tg R) X.xe s := by
  cases ha : z.cps.all (· < 128) with
  | false => exact wpAny_pyIter_wide ha (pi_one (tk := s.toks) I _ (turn_str _ z t "str_iterator" (.inr rfl)) ⟨_, Heap.get?_push_size _ rfl, rfl, rfl⟩ q)
  | true => exact wpAny_pyIter_ascii ha (pi_one (tk := s.toks) I _ (turn_str _ z t "str_ascii_iterator" (.inl rfl)) ⟨_, Heap.get?_push_size _ rfl, rfl, rfl⟩ q)
theorem rel_ints {C : Cc} {H : Hp} {S : Sto} : ∀ ns : List Int, RelDs C H S (ns.map D.int) (ns.map V.int)
  | [] => RelDs.nil
  | n :: ns => RelDs.cons mk_int (rel_ints ns)
/-- over a value -/
theorem pi_val {tg e : Expr} {m : ME} (h : PE X e (tD (cc X ga Z) H0 S0 (wE G x m))) : PI X tg e (wiD (cc X ga Z) H0 S0 G x 0 [m]) := by
  refine ⟨fun pins s σ H R I q => ?_⟩
  obtain ⟨σd, S, rs, rp, ex, w⟩ := q
  have w2 : wE G x m σd S (kD (cc X ga Z) H S fun v H1 => ∃ u S1 its, itR u S1 = some its ∧ RelD (cc X ga Z) H1 S1 u v ∧ Rp (cc X ga Z) H1 S1 ∧ ∀ J, ItAll (cc X ga Z) H1 S1 J its.1 its.2 → R J H1) := by
    unfold wEs at w
    refine wE_mono (fun u S1 q H1 v rp1 e1 r1 => ?_) m σd S w
    unfold wEs at q
    obtain ⟨its, h1, h2⟩ := q
    exact ⟨u, S1, its, h1, r1, rp1, fun J hJ => h2 H1 J rp1 e1 hJ⟩
  refine thn (h.run pins s σ H _ I ⟨σd, S, rs, rp, ex, w2⟩) fun v s1 ⟨z, H1, I1, rz, u, S1, its, hi, rd, rp1, k⟩ => ?_
  cases u with
  | lst ds =>
    cases hi
    unfold RelD at rd
    obtain ⟨a, vs, rfl, f, r⟩ := rd
    cases rz
    refine iterL I1 f.sq (k _ fun Z' hz => itok_seqL fun H2 S2 _ e _ => ⟨vs, (f.ext e).sq, (r.wz hz).ext e⟩)
  | tup ds =>
    cases hi
    unfold RelD at rd
    obtain ⟨a, vs, rfl, f, r⟩ := rd
    cases rz
    refine iterT I1 f.sq (k _ fun Z' hz => itok_seqT fun H2 S2 _ e _ => ⟨vs, (f.ext e).sq, (r.wz hz).ext e⟩)
  | str y =>
    cases hi
    have hz := rd.strOk
    cases rel_str rd
    obtain ⟨t, rfl⟩ := rz
    exact iterS I1 (k _ fun _ _ => itok_str hz)
  | scr ns =>
    cases hi
    unfold RelD at rd
    obtain ⟨a, rfl, ⟨f, r, _⟩ | f⟩ := rd
    · cases rz
      exact iterL I1 (.inl f) (k _ fun _ _ => itok_seqL fun H2 S2 _ e _ => ⟨ns.map V.int, .inl (Rd.ext f r e).1, rel_ints ns⟩)
    · cases rz
      exact iterL I1 (.inr f) (k _ fun _ _ => itok_seqL fun H2 S2 _ e _ => ⟨ns.map V.int, .inr f, rel_ints ns⟩)
  | ref a =>
    obtain ⟨ds, h1, rfl⟩ := Option.map_eq_some_iff.mp (show (lstAt S1 a).map (fun ds => (ds, fun S' => S' a = some (.lst ds))) = some its from hi)
    unfold RelD at rd
    subst rd
    cases rz
    obtain ⟨o, h2, h3⟩ := rp1.obj a _ (lstAt_some h1)
    obtain ⟨vs, rfl, r⟩ := h3
    refine iterL I1 (.of h2) (k _ fun Z' hz => itok_seqL fun H2 S2 rp2 e hg => ?_)
    obtain ⟨o, h4, h5⟩ := rp2.obj a _ hg
    obtain ⟨ws, rfl, r5⟩ := h5
    exact ⟨ws, .of h4, r5⟩
  | _ => cases hi
theorem pi_rng {sc : Scope} (g : Gd X sc ga Z H0 S0 G x) {tg : Expr} {as : List Expr} {ms : List ME} {p pos : Pos} (hg : gloB sc "range" = true) (hn : as.length = 1 ∨ as.length = 2) (hm : matchEs X.N sc ms as = true) (h : PA X as (tDA (cc X ga Z) H0 S0 (wEs G x ms))) :
    PI X tg (.Call (.Name "range" p) as [] pos) (wiD (cc X ga Z) H0 S0 G x 1 ms) := by
  have key : ∀ σ H R, wiD (cc X ga Z) H0 S0 G x 1 ms σ H R → tDA (cc X ga Z) H0 S0 (wEs G x ms) σ H fun vs H1 => vs.length = ms.length ∧ ∃ lo hi : Int, -(2 ^ 62) ≤ lo ∧ lo < 2 ^ 62 ∧ -(2 ^ 62) ≤ hi ∧ hi < 2 ^ 62 ∧ ((vs = [.int hi] ∧ lo = 0) ∨ vs = [.int lo, .int hi]) ∧ R (Itr lo (hi - lo).toNat) H1 := fun σ H R q => by
    obtain ⟨σd, S, rs, rp, ex, w⟩ := q
    refine ⟨σd, S, rs, rp, ex, wEs_mono (fun ds S1 q H1 vs rp1 e1 r1 => ?_) ms σd S (wEs_len ms σd S _ w)⟩
    obtain ⟨hl, its, h1, h2⟩ := q
    refine ⟨by rw [r1.len, hl], ?_⟩
    obtain ⟨l, h3, rfl⟩ := Option.map_eq_some_iff.mp (show (rngR ds).map (fun l => (l, fun _ => True)) = some its from h1)
    unfold rngR at h3
    split at h3
    · obtain ⟨c, rfl⟩ := g?_some h3
      obtain ⟨v, rfl, rv⟩ := rel1 r1
      rename_i j
      cases rel_int rv
      exact ⟨0, j, by omega, by omega, c.1, c.2, .inl ⟨rfl, rfl⟩, h2 H1 _ rp1 e1 fun _ _ => itok_range (by simp)⟩
    · obtain ⟨c, rfl⟩ := g?_some h3
      obtain ⟨v, w, rfl, rv, rw'⟩ := rel2 r1
      rename_i i j
      cases rel_int rv; cases rel_int rw'
      exact ⟨i, j, c.1, c.2.1, c.2.2.1, c.2.2.2, .inr rfl, h2 H1 _ rp1 e1 fun _ _ => itok_range rfl⟩
    · cases h3
  have hlen : ms.length = as.length := matchEs_len hm
  match as, hn, hm, h, hlen with
  | [a], _, hm, h, hlen =>
    refine PI.imp (pi_range1 (g.sck.glo hg) g.rng h (starEach_cons (star1 hm))) fun σ H R q => ?_
    obtain ⟨σd, S, rs, rp, ex, w⟩ := key σ H R q
    refine ⟨σd, S, rs, rp, ex, wEs_mono (fun ds S1 q H1 vs rp1 e1 r1 => ?_) ms σd S w⟩
    obtain ⟨h0, lo, hi, h1, h2, h3, h4, h5, h6⟩ := q H1 vs rp1 e1 r1
    rcases h5 with ⟨rfl, rfl⟩ | rfl
    · refine ⟨hi, rfl, h3, h4, ?_⟩
      rw [Int.sub_zero] at h6
      exact h6
    · rw [hlen] at h0; cases h0
  | [a, b], _, hm, h, hlen =>
    have s1 := star1 hm
    have s2 := star2 hm
    refine PI.imp (pi_range2 (g.sck.glo hg) g.rng h (by rw [starEach_cons s1, starEach_cons s2]; rfl) (starEach_cons s2)) fun σ H R q => ?_
    obtain ⟨σd, S, rs, rp, ex, w⟩ := key σ H R q
    refine ⟨σd, S, rs, rp, ex, wEs_mono (fun ds S1 q H1 vs rp1 e1 r1 => ?_) ms σd S w⟩
    obtain ⟨h0, lo, hi, h1, h2, h3, h4, h5, h6⟩ := q H1 vs rp1 e1 r1
    rcases h5 with ⟨rfl, rfl⟩ | rfl
    · rw [hlen] at h0; cases h0
    · exact ⟨lo, hi, rfl, ⟨h1, h2, h3, h4⟩, h6⟩
  | [], hn, _, _, _ => simp at hn
  | _ :: _ :: _ :: _, hn, _, _, _ => simp at hn
theorem pi_enm {sc : Scope} (g : Gd X sc ga Z H0 S0 G x) {elts : List Expr} {kk : Nat} {tpos : Pos} {as : List Expr} {ms : List ME} {p pos : Pos} (hg : gloB sc "enumerate" = true) (hn : as.length = 1) (hm : matchEs X.N sc ms as = true) (h : PA X as (tDA (cc X ga Z) H0 S0 (wEs G x ms))) :
    PI X (.Tuple elts kk tpos) (.Call (.Name "enumerate" p) as [] pos) (wiD (cc X ga Z) H0 S0 G x 2 ms) := by
  match as, hn, hm, h with
  | [a], _, hm, h =>
    refine PI.imp (pi_enum (g.sck.glo hg) g.enm h (starEach_cons (star1 hm))) fun σ H R q => ?_
    obtain ⟨σd, S, rs, rp, ex, w⟩ := q
    refine ⟨σd, S, rs, rp, ex, wEs_mono (fun ds S1 q H1 vs rp1 e1 r1 => ?_) ms σd S w⟩
    obtain ⟨its, h1, h2⟩ := q
    match ds, h1, r1 with
    | [u], h1, r1 =>
      obtain ⟨v, rfl, rv⟩ := rel1 r1
      have h1 : (match listOf S1 u, itR u S1 with
        | some _, some its => some (enmL 0 its.1, its.2)
        | _, _ => none) = some its := h1
      cases hl : listOf S1 u with
      | none => rw [hl] at h1; cases h1
      | some l =>
        cases hi : itR u S1 with
        | none => rw [hl, hi] at h1; cases h1
        | some it =>
          rw [hl, hi] at h1
          cases h1
          obtain ⟨b, vs, rfl, hb, r⟩ := listOf_sq rp1 rv hl
          refine ⟨b, vs, rfl, .of hb, h2 H1 _ rp1 e1 fun Z' hz => itok_enum fun H2 S2 rp2 e2 hgd => ?_⟩
          cases u with
          | lst es =>
            cases hi
            cases hl
            unfold RelD at rv
            obtain ⟨b', vs', eb, f, r'⟩ := rv
            cases eb
            exact ⟨vs', (f.ext e2).sq, (r'.wz hz).ext e2⟩
          | ref c =>
            obtain ⟨es, h3, rfl⟩ := Option.map_eq_some_iff.mp (show (lstAt S1 c).map (fun ds => (ds, fun S' => S' c = some (.lst ds))) = some it from hi)
            unfold RelD at rv
            cases rv
            obtain ⟨o, h4, h5⟩ := rp2.obj _ _ hgd
            obtain ⟨ws, rfl, r5⟩ := h5
            exact ⟨ws, .of h4, r5⟩
          | _ => cases hl
    | [], h1, _ => cases h1
    | _ :: _ :: _, h1, _ => cases h1
end
end Mn

namespace Mn
open PySem L2
/-! ### comprehensions -/
abbrev noX : XW := fun _ _ _ => False
theorem takes_no {X : Cx} {C : Cc} {H0 : Hp} {S0 : Sto} : Takes X (liftX C H0 S0 noX) := fun u s' h => by
  obtain ⟨a, B, sI, pins, σ, H, cls, d, _, _, _, _, _, _, _, _, w⟩ := h
  obtain ⟨e, σd, S, _, _, _, _, w⟩ := w
  exact w.elim
theorem relabel_look {env : PySem.Env} : ∀ {names : List (Str × NameKind)} {x : Str} {k : NameKind}, names.lookup x = some k →
    ∃ k', (names.map fun (n, k) => if (k == NameKind.free && env.scope.kind == .function && env.kindOf n == some .cell) then (n, NameKind.cell) else (n, k)).lookup x = some k' ∧ (k' = k ∨ (k = .free ∧ k' = .cell))
  | [], _, _, h => by cases h
  | (n, k) :: r, x, j, h => by
    rw [List.map_cons]
    rw [List.lookup_cons] at h
    by_cases e : x = n
    · subst e
      rw [beq_self_eq_true] at h
      cases h
      dsimp only
      split
      · rename_i q
        refine ⟨.cell, by rw [List.lookup_cons, beq_self_eq_true], .inr ⟨?_, rfl⟩⟩
        have q1 := (and2 (and2 q).1).1
        exact beq_iff_eq.mp q1
      · exact ⟨k, by rw [List.lookup_cons, beq_self_eq_true], .inl rfl⟩
    · have hb : (x == n) = false := beq_eq_false_iff_ne.mpr e
      rw [hb] at h
      obtain ⟨k', h1, h2⟩ := relabel_look (env := env) h
      refine ⟨k', ?_, h2⟩
      dsimp only
      split <;> (rw [List.lookup_cons, hb]; exact h1)
section
variable {X : Cx} {ga : Str → Addr} {Z : Addr → Prop} {H0 : Hp} {S0 : Sto} {G : Gc} {x : XW}
theorem Gd.blk {sc : Scope} (g : Gd X sc ga Z H0 S0 G x) {scope : Scope} (hk : scope.kind = .function) (s : Shared) (H : Hp) (Ca : Addr) (cl : List (Str × Addr)) (fp : List Addr) (Z' : Addr → Prop) (H0' : Hp) (S0' : Sto) :
    Gd (X.blk s H scope (compEnvC scope cl Ca X.env) fp) scope ga Z' H0' S0' G noX where
  nd := g.nd
  calm := g.calm
  room := g.room
  sck := ⟨hk, fun y k h => relabel_look h⟩
  tk := takes_no
  own := PassesOwn.never
  fns := fun f n sp h => ⟨(g.fns f n sp h).ex⟩
  con := fun n d h => g.con n d h
  blt := g.blt
  tys := g.tys
  rng := g.rng
  enm := g.enm
  fnl := fun y h => by
    unfold locB at h
    cases e : scope.names.lookup y with
    | none => rw [e] at h; cases h
    | some k =>
      rw [e] at h
      cases k with
      | «local» =>
        refine .inr ?_
        obtain ⟨k', h1, h2⟩ := relabel_look (env := X.env) e
        rcases h2 with rfl | ⟨q, _⟩
        · exact h1
        · cases q
      | cell =>
        refine .inl ?_
        show (scope.names.lookup y == some .cell) = true
        rw [e]; rfl
      | _ => cases h
def tDx (X : Cx) (ga : Str → Addr) (f : W1) : TE := fun σ H Q => ∃ (Z : Addr → Prop) (H0 : Hp) (S0 : Sto), tD (cc X ga Z) H0 S0 f σ H Q
def tCx (X : Cx) (ga : Str → Addr) (G : Gc) (c : List ME) : TT := fun σ H Q => ∃ (Z : Addr → Prop) (σd : Env) (S : Sto), RelS (cc X ga Z) H S σd σ ∧ Rp (cc X ga Z) H S ∧ wC G c σd S fun b S' => ∀ H', Rp (cc X ga Z) H' S' → Ext H S H' S' → Q b H'
def gDx (X : Cx) (ga : Str → Addr) (t : MT) : TG := fun v σ H Q => ∃ Z : Addr → Prop, gD (cc X ga Z) t v σ H Q
def wipeE (σ : Env) : List Nat → Env
  | [] => σ
  | v :: vs => (wipeE σ vs).set v none
theorem relS_wipe {C : Cc} {H : Hp} {S : Sto} {σd : Env} {σ : St} (h : RelS C H S σd σ) : ∀ vs, RelS C H S (wipeE σd vs) (wipe σ vs)
  | [] => h
  | v :: vs => by
    obtain ⟨h1, h2⟩ := relS_wipe h vs
    unfold wipeE wipe
    refine ⟨by simp [h1], fun i d q => ?_⟩
    rw [List.getElem?_set] at q ⊢
    by_cases e : v = i
    · rw [if_pos e] at q
      split at q <;> cases q
    · rw [if_neg e] at q ⊢
      exact h2 i d q
theorem wipe_wipe (σ : St) : ∀ vs ws : List Nat, (∀ i ∈ ws, i ∈ vs) → wipe (wipe σ ws) vs = wipe σ vs
  | vs, [], _ => rfl
  | vs, w :: ws, h => by
    show wipe ((wipe σ ws).set w none) vs = wipe σ vs
    rw [wipe_set (h w List.mem_cons_self), wipe_wipe σ vs ws fun i hi => h i (List.mem_cons_of_mem _ hi)]
/-- two environments alike but at some slots -/
def Alike (P : Nat → Prop) (σ τ : Env) : Prop := σ.length = τ.length ∧ ∀ i, ¬ P i → σ[i]? = τ[i]?
theorem alike_set {P : Nat → Prop} {σ τ : Env} (h : Alike P σ τ) (i : Nat) (o : Option D) : Alike (fun j => P j ∧ j ≠ i) (σ.set i o) (τ.set i o) := ⟨by simp [h.1], fun j hj => by
  rw [List.getElem?_set, List.getElem?_set, h.1]
  by_cases e : i = j
  · rw [if_pos e, if_pos e]
  · rw [if_neg e, if_neg e]
    exact h.2 j fun q => hj ⟨q, fun z => e z.symm⟩⟩
mutual
theorem asgT_alike : ∀ (t : MT) (d : D) {P : Nat → Prop} {σ τ σ' : Env}, Alike P σ τ → asgT t d σ = some σ' → ∃ τ', asgT t d τ = some τ' ∧ Alike (fun j => P j ∧ j ∉ slots t) σ' τ'
  | .nm i, d, P, σ, τ, σ', h, e => by
    unfold asgT at e ⊢
    cases e
    refine ⟨_, rfl, (alike_set h i _).1, fun j hj => (alike_set h i (some d)).2 j fun q => hj ⟨q.1, fun z => q.2 ?_⟩⟩
    unfold slots at z
    simpa using z
  | .tp ts, .tup ds, P, σ, τ, σ', h, e => by
    unfold asgT at e ⊢
    obtain ⟨τ', h1, h2⟩ := asgTs_alike ts ds h e
    exact ⟨τ', h1, by unfold slots; exact h2⟩
  | .tp _, .non, _, _, _, _, _, e => by unfold asgT at e; cases e
  | .tp _, .bl _, _, _, _, _, _, e => by unfold asgT at e; cases e
  | .tp _, .int _, _, _, _, _, _, e => by unfold asgT at e; cases e
  | .tp _, .str _, _, _, _, _, _, e => by unfold asgT at e; cases e
  | .tp _, .ty _, _, _, _, _, _, e => by unfold asgT at e; cases e
  | .tp _, .ref _, _, _, _, _, _, e => by unfold asgT at e; cases e
  | .tp _, .lst _, _, _, _, _, _, e => by unfold asgT at e; cases e
  | .tp _, .scr _, _, _, _, _, _, e => by unfold asgT at e; cases e
theorem asgTs_alike : ∀ (ts : List MT) (ds : List D) {P : Nat → Prop} {σ τ σ' : Env}, Alike P σ τ → asgTs ts ds σ = some σ' → ∃ τ', asgTs ts ds τ = some τ' ∧ Alike (fun j => P j ∧ j ∉ slotss ts) σ' τ'
  | [], [], P, σ, τ, σ', h, e => by
    unfold asgTs at e ⊢
    cases e
    exact ⟨τ, rfl, h.1, fun j hj => h.2 j fun q => hj ⟨q, by unfold slotss; simp⟩⟩
  | [], _ :: _, _, _, _, _, _, e => by unfold asgTs at e; cases e
  | _ :: _, [], _, _, _, _, _, e => by unfold asgTs at e; cases e
  | t :: ts, d :: ds, P, σ, τ, σ', h, e => by
    unfold asgTs at e ⊢
    cases q : asgT t d σ with
    | none => rw [q] at e; cases e
    | some σ1 =>
      rw [q] at e
      obtain ⟨τ1, h1, h2⟩ := asgT_alike t d h q
      obtain ⟨τ', h3, h4⟩ := asgTs_alike ts ds h2 e
      rw [h1]
      refine ⟨τ', h3, h4.1, fun j hj => h4.2 j fun z => hj ⟨z.1.1, fun w => ?_⟩⟩
      unfold slotss at w
      rcases List.mem_append.mp w with w | w
      · exact z.1.2 w
      · exact z.2 w
end
theorem wipeE_alike (σ : Env) : ∀ vs, Alike (fun j => j ∈ vs) σ (wipeE σ vs)
  | [] => ⟨rfl, fun _ _ => rfl⟩
  | v :: vs => by
    obtain ⟨h1, h2⟩ := wipeE_alike σ vs
    unfold wipeE
    refine ⟨by simp [h1], fun j hj => ?_⟩
    rw [List.getElem?_set, if_neg (fun e => hj (by rw [e]; exact List.mem_cons_self))]
    exact h2 j fun q => hj (List.mem_cons_of_mem _ q)
theorem asgT_wipe {t : MT} {d : D} {σ σ' : Env} (h : asgT t d σ = some σ') : asgT t d (wipeE σ (slots t)) = some σ' := by
  obtain ⟨τ', h1, h2⟩ := asgT_alike t d (wipeE_alike σ (slots t)) h
  have e : σ' = τ' := by
    refine List.ext_getElem? fun i => h2.2 i fun q => q.2 q.1
  rw [e]; exact h1
theorem lc_imp {i : Nat} {m : Bool} {t : MT} {as c : List ME} {e : ME} {σ : St} {H : Hp} {Q : VK} (h : tD (cc X ga Z) H0 S0 (wE G x (.lc i m t as c e)) σ H Q) :
    tLc (wiD (cc X ga Z) H0 S0 G x i as) (gDx X ga t) (tCx X ga G c) (tDx X ga (wE G noX e)) (slots t) σ H Q := by
  obtain ⟨σd, S, rs, rp, ex, w⟩ := h
  unfold wE at w
  refine ⟨σd, S, rs, rp, ex, wEs_mono (fun ds S1 q => ?_) as σd S w⟩
  obtain ⟨its, hi, hl⟩ := q
  refine ⟨its, hi, fun H1 J rp1 e1 hJ Da hD => ?_⟩
  obtain ⟨Z', hZ'⟩ : ∃ Z' : Addr → Prop, Z' = fun a => Z a ∨ a = Da := ⟨_, rfl⟩
  have hzz : ∀ a, Z' a ↔ (Z a ∨ a = Da) := fun a => by rw [hZ']
  have hzD : Z' Da := (hzz Da).mpr (.inr rfl)
  have rp1' : Rp (cc X ga Z') (upd H1 Da (.lst [])) S1 := by rw [hZ']; exact rp1.addZ hD
  have hJ' : ItOk (cc X ga Z') H1 S1 J its.1 its.2 := hJ Z' fun a z => ((hzz a).mp z).imp (fun q => q) fun q => by rw [q]; exact hD
  have rs1 : RelS (cc X ga Z') H1 S1 σd σ := (rs.ext e1).wz (Z := Z') fun a z => ((hzz a).mp z).imp (fun q => q) fun q => by rw [q]; exact hD
  refine ⟨fun j n Hh => ∃ S2 acc accV, Rp (cc X ga Z') Hh S2 ∧ Ext H1 S1 Hh S2 ∧ Hh Da = some (.lst accV) ∧ RelDs (cc X ga Z') Hh S2 acc accV ∧ j ≤ its.1.length ∧ n = its.1.length - j ∧
    lcLoop its.2 (fun d S2 q => ∃ σ', asgT t d σd = some σ' ∧ wC G c σ' S2 fun b S3 => if b = true then wE G noX e σ' S3 fun y S4 => q (some y) S4 else q none S3) (its.1.drop j) acc S2 (fun acc S2 => fin m (.newL acc) S2 (kD (cc X ga Z) H S Q)),
    ⟨its.1.length, S1, [], [], rp1', Ext.new hD, upd_same, RelDs.nil, Nat.zero_le _, rfl, hl⟩, ?_⟩
  rintro j n Hh ⟨S2, acc, accV, rp2, e2, hDa, racc, hj, hn, hl⟩
  cases hd : its.1.drop j with
  | nil =>
    rw [hd] at hl
    left
    obtain ⟨hg, hk⟩ := hl
    refine ⟨(hJ' j Hh S2 rp2 e2 hg).2 (List.drop_eq_nil_iff.mp hd), ?_⟩
    have rp3 : Rp (cc X ga Z) Hh S2 := rp2.wz (Z := Z) fun a z => (hzz a).mpr (.inl z)
    cases m with
    | false =>
      refine hk Hh (.ref Da) rp3 (e1.trans e2) ?_
      unfold RelD
      exact ⟨Da, accV, rfl, ⟨hDa, (rp2.z Da hzD).2, rp1.nz hD⟩, racc.wz (Z := Z) fun a z => .inl ((hzz a).mpr (.inl z))⟩
    | true =>
      have hS := (rp2.z Da hzD).2
      refine hk Da hS Hh (.ref Da) (rp2.thaw (Z := Z) hzz (rp1.nz hD) hDa racc) (fun b u hb sb => ?_) (by unfold RelD; rfl)
      obtain ⟨q1, q2⟩ := e1 b u hb sb
      obtain ⟨q3, q4⟩ := e2 b u q1 q2
      exact ⟨q3, by rw [put_ne (ne_of_none q1 hD)]; exact q4⟩
  | cons d rest =>
    rw [hd] at hl
    right
    obtain ⟨hg, hk⟩ := hl
    have hjd : its.1[j]? = some d := by
      have : (its.1.drop j)[0]? = some d := by rw [hd]; rfl
      rw [List.getElem?_drop] at this
      simpa using this
    have hlt : j < its.1.length := (List.getElem?_eq_some_iff.mp hjd).1
    obtain ⟨hgo, hy⟩ := (hJ' j Hh S2 rp2 e2 hg).1 d hjd
    refine ⟨hgo, _, fun H' q => ⟨its.1.length - (j + 1), by omega, q⟩, fun v H' hyl => ?_⟩
    obtain ⟨rp3, e3, rd⟩ := hy v H' hyl
    obtain ⟨σ', ha, hw⟩ := hk
    have rs3 : RelS (cc X ga Z') H' S2 σd σ := rs1.ext (e2.trans e3)
    refine ⟨Z', d, wipeE σd (slots t), σ', S2, relS_wipe rs3 _, rp3, rd, asgT_wipe ha, fun σv rv hv => ⟨?_, ?_⟩⟩
    · rw [hv (slots t) fun i hi => hi]
      exact wipe_wipe σ _ _ fun i hi => hi
    · refine ⟨Z', σ', S2, rv, rp3, wC_mono (fun b S3 q H3 rp4 e4 => ?_) c σ' S2 hw⟩
      have hrest : its.1.drop (j + 1) = rest := by
        rw [← List.drop_drop, hd]; rfl
      have hD3 : H3 Da = some (.lst accV) := ((e3.trans e4) Da _ hDa (rp2.z Da hzD).2).1
      cases b with
      | false =>
        rw [if_neg Bool.false_ne_true] at q
        refine iteF ?_
        exact ⟨S3, acc, accV, rp4, e2.trans (e3.trans e4), hD3, racc.ext (e3.trans e4), hlt, rfl, by rw [hrest]; exact q⟩
      | true =>
        rw [if_pos rfl] at q
        refine iteT ?_
        refine ⟨Z', H3, S3, σ', S3, rv.ext e4, rp4, Ext.refl _ _, wE_mono (fun y S4 q H4 yv rp5 e5 r5 => ?_) e σ' S3 q⟩
        obtain ⟨hlen, q⟩ := q
        have hS3 : S3 Da = none := (rp4.z Da hzD).2
        have hD4 : H4 Da = some (.lst accV) := (e5 Da _ hD3 hS3).1
        have racc4 : RelDs (cc X ga Z') H4 S4 acc accV := racc.ext ((e3.trans e4).trans e5)
        have mvg : Mv (cc X ga Z') (cc X ga Z') H4 (upd H4 Da (.lst (accV ++ [yv]))) S4 S4 := mv_grow hzD hD4
        refine ⟨accV, hD4, by rw [racc4.len]; exact hlen, S4, acc ++ [y], accV ++ [yv], rp5.grow hzD hD4, fun b u hb sb => ?_, upd_same, (racc4.app (RelDs.cons r5 RelDs.nil)).mv mvg, hlt, rfl, by rw [hrest]; exact q⟩
        obtain ⟨q1, q2⟩ := (e2.trans ((e3.trans e4).trans e5)) b u hb sb
        exact ⟨by rw [upd_ne (ne_of_none hb hD)]; exact q1, q2⟩
end
end Mn

namespace Mn
open PySem L2
theorem PE.ex {X : Cx} {e : Expr} {ι : Sort _} {t : ι → TE} (h : ∀ i, PE X e (t i)) : PE X e (fun σ H Q => ∃ i, t i σ H Q) := ⟨fun pins s σ H Q I ⟨i, q⟩ => (h i).run pins s σ H Q I q⟩
theorem PG.ex {X : Cx} {e : Expr} {ι : Sort _} {t : ι → TG} (h : ∀ i, PG X e (t i)) : PG X e (fun v σ H Q => ∃ i, t i v σ H Q) := ⟨fun pins s σ H v u Q I r ⟨i, q⟩ => (h i).run pins s σ H v u Q I r q⟩
theorem pt_ifx {X : Cx} {c a b : Expr} {pos : Pos} {tc ta tb : TT} (hc : PT X c tc) (ha : PT X a ta) (hb : PT X b tb) : PT X (.IfExp c a b pos) (fun σ H Q => tc σ H fun z H1 => if z = true then ta σ H1 Q else tb σ H1 Q) := ⟨fun pins s σ H Q I h => by
  show wpAny _ _ (do if ← isTrue c X.env (eval c X.env) then isTrue a X.env (eval a X.env) else isTrue b X.env (eval b X.env)) _ _ s
  refine wpAny_bind (thn (hc.run pins s σ H _ I h) fun z s1 ⟨H1, I1, q⟩ => ?_)
  cases z with
  | true => exact ha.run pins s1 σ H1 Q I1 q
  | false => exact hb.run pins s1 σ H1 Q I1 q⟩
theorem tys_boot (n : String) (h : tyB n = true) : bootBuiltins (Str.ofString n) = some (.type n) ∧ Str.ofString n ≠ "__name__" ∧ (Str.ofString n == ("__debug__" : Str)) = false := by
  unfold tyB at h
  simp only [Bool.or_eq_true, beq_iff_eq] at h
  rcases h with (((rfl | rfl) | rfl) | rfl) | rfl <;> exact ⟨by decide +kernel, by decide +kernel, by decide +kernel⟩
theorem isEmpty_cons {α : Type} {l : List α} (h : (!l.isEmpty) = true) : ∃ a r, l = a :: r := by
  cases l with
  | nil => cases h
  | cons a r => exact ⟨a, r, rfl⟩
theorem pts_of {X : Cx} {sc : Scope} {ga : Str → Addr} {G : Gc} {c : List ME} {ifs : List Expr} (hl : c.length ≤ 1) (hm : matchEs X.N sc c ifs = true)
    (h : ∀ m, c = [m] → ∀ e, ifs = [e] → ∀ Z H0 S0, PT X e (tDT (cc X ga Z) H0 S0 (wE G noX m))) : PTs X ifs (tCx X ga G c) := by
  match c, ifs, hl, hm with
  | [], [], _, _ =>
    refine ⟨fun pins s σ H Q I q => pts_nil.run pins s σ H Q I ?_⟩
    obtain ⟨Z, σd, S, rs, rp, w⟩ := q
    unfold wC at w
    exact w H rp (Ext.refl _ _)
  | [], _ :: _, _, hm => unfold matchEs at hm; cases hm
  | [m], [], _, hm => unfold matchEs at hm; cases hm
  | [m], [e], _, hm =>
    refine ⟨fun pins s σ H Q I q => ?_⟩
    obtain ⟨Z, σd, S, rs, rp, w⟩ := q
    unfold wC at w
    refine (pts_one (h m rfl e rfl Z H S)).run pins s σ H Q I ⟨σd, S, rs, rp, Ext.refl _ _, wE_mono (fun d S1 q => ?_) m σd S w⟩
    obtain ⟨b, h1, h2⟩ := q
    exact ⟨b, h1, h2⟩
  | [m], _ :: _ :: _, _, hm =>
    unfold matchEs at hm
    have := (and2 (and2 hm).2).2
    unfold matchEs at this
    cases this
  | _ :: _ :: _, _, hl, _ => simp at hl
section
variable {X : Cx} {ga : Str → Addr} {Z : Addr → Prop} {H0 : Hp} {S0 : Sto} {G : Gc} {x : XW}
theorem cst_v {d : D} {c : Const} {k : Nat} {pos : Pos} (h : cstB d c = true) : PE X (.Constant c k pos) (tD (cc X ga Z) H0 S0 (wE G x (.cst d))) := by
  have imp : ∀ v, (∀ H S, RelD (cc X ga Z) H S d v) → ∀ σ H Q, tD (cc X ga Z) H0 S0 (wE G x (.cst d)) σ H Q → tC v σ H Q := fun v hv σ H Q q => by
    obtain ⟨σd, S, rs, rp, ex, w⟩ := q
    unfold wE at w
    exact w H v rp (Ext.refl _ _) (hv H S)
  cases d with
  | non => cases c <;> first | exact PE.imp pe_non (imp _ fun _ _ => mk_non) | cases h
  | bl b =>
    cases c with
    | bool b' =>
      obtain rfl := beq_iff_eq.mp (show (b == b') = true from h)
      exact PE.imp pe_bl (imp _ fun _ _ => mk_bl)
    | _ => cases h
  | int b =>
    cases c with
    | int b' =>
      obtain rfl := of_decide_eq_true (show decide (b = b') = true from h)
      exact PE.imp pe_int (imp _ fun _ _ => mk_int)
    | _ => cases h
  | str b =>
    cases c with
    | str b' =>
      obtain ⟨h1, h2⟩ := and2 (show (decide (b = b') && PySem.PyData.strOk b) = true from h)
      obtain rfl := of_decide_eq_true h1
      exact PE.imp pe_str (imp _ fun _ _ => mk_str h2)
    | _ => cases h
  | _ => cases c <;> cases h
end
theorem blk_to {X : Cx} {sc scope : Scope} {own : List (Str × Nat)} (h : Sck X sc) (b : BlkOk X.N sc scope own) : BlkOk X.N X.env.scope scope own := ⟨b.kind, b.uniq, b.ix, fun y hy hf => by
  rcases b.free y hy hf with q | q
  · obtain ⟨k', h1, h2⟩ := h.look _ _ q
    rcases h2 with rfl | ⟨z, _⟩
    · exact .inl h1
    · cases z
  · obtain ⟨k', h1, h2⟩ := h.look _ _ q
    rcases h2 with rfl | ⟨_, rfl⟩
    · exact .inr h1
    · exact .inl h1, b.own⟩
mutual
theorem soundE : ∀ (m : ME) {X : Cx} {sc : Scope} {ga : Str → Addr} {Z : Addr → Prop} {H0 : Hp} {S0 : Sto} {G : Gc} {x : XW}, Gd X sc ga Z H0 S0 G x → ∀ {e : Expr}, matchE X.N sc m e = true →
    PE X e (tD (cc X ga Z) H0 S0 (wE G x m)) ∧ PT X e (tDT (cc X ga Z) H0 S0 (wE G x m))
  | .var i, X, sc, ga, Z, H0, S0, G, x, g, e, h => by
    unfold matchE at h
    cases e with
    | Name y p =>
      obtain ⟨h1, h2⟩ := and2 h
      obtain ⟨h2, h3⟩ := and2 h2
      obtain ⟨h3, _⟩ := and2 h3
      obtain ⟨h3, h4⟩ := and2 h3
      have pe : PE X (.Name y p) (tD (cc X ga Z) H0 S0 (wE G x (.var i))) := PE.imp (pe_var (of_decide_eq_true h1) (g.sck.vis h2) (by simpa using h3) (by simpa using h4)) fun σ H Q q => by
        obtain ⟨σd, S, rs, rp, ex, w⟩ := q
        unfold wE at w
        obtain ⟨d, hd, w⟩ := w
        obtain ⟨v, hv, rv⟩ := rs.2 i d hd
        exact ⟨v, hv, w H v rp (Ext.refl _ _) rv⟩
      exact ⟨pe, pt_of pe rfl⟩
    | _ => cases h
  | .cst d, X, sc, ga, Z, H0, S0, G, x, g, e, h => by
    unfold matchE at h
    cases e with
    | Constant c k pos =>
      have pe := cst_v (X := X) (ga := ga) (Z := Z) (H0 := H0) (S0 := S0) (G := G) (x := x) (k := k) (pos := pos) h
      exact ⟨pe, pt_of pe rfl⟩
    | Name y p =>
      cases d with
      | ty n =>
        obtain ⟨h1, h2⟩ := and2 h
        obtain ⟨h2, h3⟩ := and2 h2
        obtain rfl := of_decide_eq_true h1
        obtain ⟨b1, b2, b3⟩ := tys_boot n h3
        have pe : PE X (.Name (Str.ofString n) p) (tD (cc X ga Z) H0 S0 (wE G x (.cst (.ty n)))) := PE.imp (pe_bltn (v := .ty n) (g.sck.glo h2) (g.tys n h3) b1 rfl b2 b3) fun σ H Q q => by
          obtain ⟨σd, S, rs, rp, ex, w⟩ := q
          unfold wE at w
          exact w H _ rp (Ext.refl _ _) (by unfold RelD; rfl)
        exact ⟨pe, pt_of pe rfl⟩
      | _ => cases h
    | _ => cases h
  | .glo n, X, sc, ga, Z, H0, S0, G, x, g, e, h => by
    unfold matchE at h
    cases e with
    | Name y p =>
      obtain ⟨h1, h2⟩ := and2 h
      obtain ⟨h2, h3⟩ := and2 h2
      obtain ⟨h3, _⟩ := and2 h3
      obtain ⟨h3, h4⟩ := and2 h3
      obtain rfl := of_decide_eq_true h1
      have pe : PE X (.Name y p) (tD (cc X ga Z) H0 S0 (wE G x (.glo y))) := by
        cases hc : G.con y with
        | none =>
          refine ⟨fun pins s σ H Q I q => ?_⟩
          obtain ⟨σd, S, rs, rp, ex, w⟩ := q
          unfold wE at w
          obtain ⟨d, hd, w⟩ := w
          rw [hc] at hd; cases hd
        | some d =>
          obtain ⟨v, u, hm, rv, rd⟩ := g.con y d hc
          refine PE.imp (pe_glob (v := v) (g.sck.glo h2) hm rv (by simpa using h3)) fun σ H Q q => ?_
          obtain ⟨σd, S, rs, rp, ex, w⟩ := q
          unfold wE at w
          obtain ⟨d', hd, w⟩ := w
          rw [hc] at hd; cases hd
          exact w H _ rp (Ext.refl _ _) (rd Z H S)
      exact ⟨pe, pt_of pe rfl⟩
    | _ => cases h
  | .bin o m a b, X, sc, ga, Z, H0, S0, G, x, g, e, h => by
    unfold matchE at h
    cases e with
    | BinOp l o' r pos =>
      obtain ⟨h1, h2⟩ := and2 h
      obtain ⟨h2, h3⟩ := and2 h2
      obtain rfl := of_decide_eq_true h1
      have pe := bin_v (pos := pos) (o := o) (m := m) (soundE a g h2).1 (soundE b g h3).1
      exact ⟨pe, pt_of pe rfl⟩
    | _ => cases h
  | .neg a, X, sc, ga, Z, H0, S0, G, x, g, e, h => by
    unfold matchE at h
    cases e with
    | UnaryOp o l pos =>
      cases o with
      | USub =>
        have pe := neg_v (pos := pos) (soundE a g h).1
        exact ⟨pe, pt_of pe rfl⟩
      | _ => cases h
    | _ => cases h
  | .not a, X, sc, ga, Z, H0, S0, G, x, g, e, h => by
    unfold matchE at h
    cases e with
    | UnaryOp o l pos =>
      cases o with
      | Not => exact ⟨not_v (soundE a g h).1, not_t (soundE a g h).2⟩
      | _ => cases h
    | _ => cases h
  | .cmp o a b, X, sc, ga, Z, H0, S0, G, x, g, e, h => by
    unfold matchE at h
    cases e with
    | Compare l os cs pos =>
      match os, cs, h with
      | [o'], [r], h =>
        obtain ⟨h1, h2⟩ := and2 h
        obtain ⟨h2, h3⟩ := and2 h2
        obtain ⟨h3, h4⟩ := and2 h3
        obtain rfl := of_decide_eq_true h1
        exact ⟨cmp_v g.room h2 (soundE a g h3).1 (soundE b g h4).1, cmp_t g.room h2 (soundE a g h3).1 (soundE b g h4).1⟩
      | [], _, h => cases h
      | _ :: _ :: _, _, h => cases h
      | [_], [], h => cases h
      | [_], _ :: _ :: _, h => cases h
    | _ => cases h
  | .cmp2 o p a b c, X, sc, ga, Z, H0, S0, G, x, g, e, h => by
    unfold matchE at h
    cases e with
    | Compare l os cs pos =>
      match os, cs, h with
      | [o', p'], [r, z], h =>
        obtain ⟨h1, h⟩ := and2 h
        obtain ⟨h2, h⟩ := and2 h
        obtain ⟨h3, h⟩ := and2 h
        obtain ⟨h4, h⟩ := and2 h
        obtain ⟨h5, h6⟩ := and2 h
        obtain rfl := of_decide_eq_true h1
        obtain rfl := of_decide_eq_true h2
        exact ⟨cmp2_v g.room h3 (soundE a g h4).1 (soundE b g h5).1 (soundE c g h6).1, cmp2_t g.room h3 (soundE a g h4).1 (soundE b g h5).1 (soundE c g h6).1⟩
      | [], _, h => cases h
      | [_], _, h => cases h
      | _ :: _ :: _ :: _, _, h => cases h
      | [_, _], [], h => cases h
      | [_, _], [_], h => cases h
      | [_, _], _ :: _ :: _ :: _, h => cases h
    | _ => cases h
  | .and a b, X, sc, ga, Z, H0, S0, G, x, g, e, h => by
    unfold matchE at h
    cases e with
    | BoolOp op vs pos =>
      cases op with
      | And =>
        match vs, h with
        | [l, r], h =>
          obtain ⟨h1, h2⟩ := and2 h
          exact ⟨and_v (soundE a g h1).1 (pe_one (soundE b g h2).1), and_t (soundE a g h1).2 (pw_and1 (soundE b g h2).2).pt⟩
        | l :: r :: z :: q, h =>
          obtain ⟨h1, h2⟩ := and2 h
          exact ⟨and_v (soundE a g h1).1 (soundE b g h2).1, and_t (soundE a g h1).2 (soundE b g h2).2⟩
        | [], h => cases h
        | [_], h => cases h
      | Or => cases h
    | _ => cases h
  | .or a b, X, sc, ga, Z, H0, S0, G, x, g, e, h => by
    unfold matchE at h
    cases e with
    | BoolOp op vs pos =>
      cases op with
      | Or =>
        match vs, h with
        | [l, r], h =>
          obtain ⟨h1, h2⟩ := and2 h
          exact ⟨or_v (soundE a g h1).1 (pe_one (soundE b g h2).1), or_t (soundE a g h1).2 (pw_or1 (soundE b g h2).2).pt⟩
        | l :: r :: z :: q, h =>
          obtain ⟨h1, h2⟩ := and2 h
          exact ⟨or_v (soundE a g h1).1 (soundE b g h2).1, or_t (soundE a g h1).2 (soundE b g h2).2⟩
        | [], h => cases h
        | [_], h => cases h
      | And => cases h
    | _ => cases h
  | .ifx c a b, X, sc, ga, Z, H0, S0, G, x, g, e, h => by
    unfold matchE at h
    cases e with
    | IfExp c' a' b' pos =>
      obtain ⟨h1, h⟩ := and2 h
      obtain ⟨h2, h3⟩ := and2 h
      refine ⟨ifx_v (soundE c g h1).2 (soundE a g h2).1 (soundE b g h3).1, PT.imp (pt_ifx (soundE c g h1).2 (soundE a g h2).2 (soundE b g h3).2) fun σ H Q q => ?_⟩
      obtain ⟨σd, S, rs, rp, ex, w⟩ := q
      unfold wE at w
      refine ⟨σd, S, rs, rp, ex, wE_mono (fun u S1 q => ?_) c σd S w⟩
      obtain ⟨z, h1, h2⟩ := q
      refine ⟨z, h1, fun H1 rp1 e1 => ?_⟩
      have tr : ∀ (m : ME), wE G x m σd S1 (fun d S' => ∃ b, tru S' d = some b ∧ ∀ H', Rp (cc X ga Z) H' S' → Ext H S H' S' → Q b H') → tDT (cc X ga Z) H0 S0 (wE G x m) σ H1 Q := fun m w => by
        refine ⟨σd, S1, rs.ext e1, rp1, ex.trans e1, wE_mono (fun d S' q => ?_) m σd S1 w⟩
        obtain ⟨b, h3, h4⟩ := q
        exact ⟨b, h3, fun H' rp' e' => h4 H' rp' (e1.trans e')⟩
      cases z with
      | true => exact tr a h2
      | false => exact tr b h2
    | _ => cases h
  | .idx a i, X, sc, ga, Z, H0, S0, G, x, g, e, h => by
    unfold matchE at h
    cases e with
    | Subscript l r pos =>
      obtain ⟨h1, h⟩ := and2 h
      obtain ⟨h2, h3⟩ := and2 h
      have pe := idx_v (pos := pos) h1 (soundE a g h2).1 (soundE i g h3).1
      exact ⟨pe, pt_of pe rfl⟩
    | _ => cases h
  | .slL m a lo, X, sc, ga, Z, H0, S0, G, x, g, e, h => by
    unfold matchE at h
    cases e with
    | Subscript l r pos =>
      cases r with
      | Slice l1 l2 l3 p2 =>
        match l1, l2, l3, h with
        | some q1, none, none, h =>
          obtain ⟨h1, h2⟩ := and2 h
          have pe := slL_v (pos := pos) (p2 := p2) (m := m) (soundE a g h1).1 (soundE lo g h2).1
          exact ⟨pe, pt_of pe rfl⟩
        | none, _, _, h => cases h
        | some _, some _, _, h => cases h
        | some _, none, some _, h => cases h
      | _ => cases h
    | _ => cases h
  | .slU m a lo, X, sc, ga, Z, H0, S0, G, x, g, e, h => by
    unfold matchE at h
    cases e with
    | Subscript l r pos =>
      cases r with
      | Slice l1 l2 l3 p2 =>
        match l1, l2, l3, h with
        | none, some q1, none, h =>
          obtain ⟨h1, h2⟩ := and2 h
          have pe := slU_v (pos := pos) (p2 := p2) (m := m) (soundE a g h1).1 (soundE lo g h2).1
          exact ⟨pe, pt_of pe rfl⟩
        | some _, _, _, h => cases h
        | none, none, _, h => cases h
        | none, some _, some _, h => cases h
      | _ => cases h
    | _ => cases h
  | .slLU m a lo hi, X, sc, ga, Z, H0, S0, G, x, g, e, h => by
    unfold matchE at h
    cases e with
    | Subscript l r pos =>
      cases r with
      | Slice l1 l2 l3 p2 =>
        match l1, l2, l3, h with
        | some q1, some q2, none, h =>
          obtain ⟨h1, h⟩ := and2 h
          obtain ⟨h2, h3⟩ := and2 h
          have pe := slLU_v (pos := pos) (p2 := p2) (m := m) (soundE a g h1).1 (soundE lo g h2).1 (soundE hi g h3).1
          exact ⟨pe, pt_of pe rfl⟩
        | none, _, _, h => cases h
        | some _, none, _, h => cases h
        | some _, some _, some _, h => cases h
      | _ => cases h
    | _ => cases h
  | .tup es, X, sc, ga, Z, H0, S0, G, x, g, e, h => by
    unfold matchE at h
    cases e with
    | Tuple es' k pos =>
      have pe := tup_v (k := k) (pos := pos) (soundEs es g h)
      exact ⟨pe, pt_of pe rfl⟩
    | _ => cases h
  | .lst m es, X, sc, ga, Z, H0, S0, G, x, g, e, h => by
    unfold matchE at h
    cases e with
    | List es' pos =>
      have pe := lst_v (pos := pos) (m := m) (soundEs es g h)
      exact ⟨pe, pt_of pe rfl⟩
    | _ => cases h
  | .blt f m es, X, sc, ga, Z, H0, S0, G, x, g, e, h => by
    unfold matchE at h
    cases e with
    | Call fn as ks pos =>
      cases fn with
      | Name y p =>
        cases ks with
        | nil =>
          obtain ⟨h1, h⟩ := and2 h
          obtain ⟨h2, h⟩ := and2 h
          obtain ⟨h3, h4⟩ := and2 h
          obtain rfl := of_decide_eq_true h1
          obtain ⟨a, r, rfl⟩ := isEmpty_cons h3
          have pe := blt_v (p := p) (pos := pos) (m := m) g h2 h4 (soundEs es g h4)
          exact ⟨pe, pt_of pe rfl⟩
        | cons k ks => cases h
      | _ => cases h
    | _ => cases h
  | .bm f m o es, X, sc, ga, Z, H0, S0, G, x, g, e, h => by
    unfold matchE at h
    cases e with
    | Call fn as ks pos =>
      cases fn with
      | Attribute o' y ap =>
        cases ks with
        | nil =>
          obtain ⟨h1, h⟩ := and2 h
          obtain ⟨h2, h⟩ := and2 h
          obtain ⟨h3, h⟩ := and2 h
          obtain ⟨h4, h⟩ := and2 h
          obtain ⟨h5, h⟩ := and2 h
          obtain ⟨h6, h7⟩ := and2 h
          obtain rfl := of_decide_eq_true h1
          obtain ⟨a, r, rfl⟩ := isEmpty_cons h5
          have h4 := of_decide_eq_true h4
          have pe := bm_v (f := f) (m := m) (ap := ap) (pos := pos) h2 h3 (by rw [List.length_cons] at h4; omega) h7 (soundE o g h6).1 (soundEs es g h7)
          exact ⟨pe, pt_of pe rfl⟩
        | cons k ks => cases h
      | _ => cases h
    | _ => cases h
  | .call f es, X, sc, ga, Z, H0, S0, G, x, g, e, h => by
    unfold matchE at h
    cases e with
    | Call fn as ks pos =>
      cases fn with
      | Name y p =>
        cases ks with
        | nil =>
          obtain ⟨h1, h⟩ := and2 h
          obtain ⟨h2, h⟩ := and2 h
          obtain ⟨h3, h⟩ := and2 h
          obtain ⟨h4, h5⟩ := and2 h
          obtain rfl := of_decide_eq_true h1
          obtain ⟨a, r, rfl⟩ := isEmpty_cons h4
          have pe := call_v (p := p) (pos := pos) g h2 h3 h5 (soundEs es g h5)
          exact ⟨pe, pt_of pe rfl⟩
        | cons k ks => cases h
      | _ => cases h
    | _ => cases h
  | .lc i m t as c el, X, sc, ga, Z, H0, S0, G, x, g, e, h => by
    unfold matchE at h
    cases e with
    | ListComp elt gens scope pos =>
      match gens, h with
      | [⟨tg, iter, ifs, ay⟩], h =>
        obtain ⟨h1, hh⟩ := and2 h
        clear h
        obtain ⟨h2, h⟩ := and2 hh
        obtain ⟨h3, h⟩ := and2 h
        obtain ⟨h4, h⟩ := and2 h
        obtain ⟨h5, h⟩ := and2 h
        obtain ⟨h6, h⟩ := and2 h
        obtain ⟨h7, h8⟩ := and2 h
        obtain rfl := of_decide_eq_true h1
        have ok := blk_to g.sck (blkOk_by h2)
        have hi : PI X tg iter (wiD (cc X ga Z) H0 S0 G x i as) := by
          match i, h8 with
          | 0, h8 =>
            have hl : as.length = 1 := matchEs_len h8
            obtain ⟨a, ha⟩ := List.length_eq_one_iff.mp hl
            have pe := (soundQs as g h8 0 a iter (by rw [ha]; rfl) rfl).1
            rw [ha]
            exact pi_val pe
          | 1, h8 =>
            cases iter with
            | Call fn as' ks p2 =>
              cases fn with
              | Name y p =>
                cases ks with
                | nil =>
                  obtain ⟨q1, q⟩ := and2 h8
                  obtain ⟨q2, q⟩ := and2 q
                  obtain ⟨q3, q4⟩ := and2 q
                  obtain rfl := of_decide_eq_true q1
                  exact pi_rng g q2 (of_decide_eq_true q3) q4 (soundEs as g q4)
                | cons k ks => cases h8
              | _ => cases h8
            | _ => cases h8
          | 2, h8 =>
            cases iter with
            | Call fn as' ks p2 =>
              cases fn with
              | Name y p =>
                cases ks with
                | nil =>
                  obtain ⟨q1, q⟩ := and2 h8
                  obtain ⟨q2, q⟩ := and2 q
                  obtain ⟨q3, q⟩ := and2 q
                  obtain ⟨q4, q5⟩ := and2 q
                  obtain rfl := of_decide_eq_true q1
                  cases tg with
                  | Tuple elts kk tp => exact pi_enm g q2 (of_decide_eq_true q3) q5 (soundEs as g q5)
                  | _ => cases q4
                | cons k ks => cases h8
              | _ => cases h8
            | _ => cases h8
          | n + 3, h8 => cases h8
        have pe : PE X (.ListComp elt [⟨tg, iter, ifs, 0⟩] scope pos) (tD (cc X ga Z) H0 S0 (wE G x (.lc i m t as c el))) := by
          refine PE.imp (pe_lc (te := tDx X ga (wE G noX el)) (tt := tCx X ga G c) (g := gDx X ga t) g.calm g.nd hi ok (fun s H Ca cl fp => ?_) (fun s H Ca cl fp => ?_) (fun s H Ca cl fp => ?_) (notSet_fold h7)) fun σ H Q q => ?_
          · exact PG.ex fun Z' => soundG (g.blk ok.kind s H Ca cl fp Z' H0 S0) t h3
          · refine pts_of (X := X.blk s H scope (compEnvC scope cl Ca X.env) fp) (sc := scope) (of_decide_eq_true h6) h4 fun m' hc e' he Z' H0' S0' => ?_
            exact (soundQs c (g.blk ok.kind s H Ca cl fp Z' H0' S0') h4 0 m' e' (by rw [hc]; rfl) (by rw [he]; rfl)).2
          · exact PE.ex fun Z' => PE.ex fun H0' => PE.ex fun S0' => (soundE el (g.blk ok.kind s H Ca cl fp Z' H0' S0') h5).1
          · have eo : (((slots t).map fun i => (X.N.getD i "", i)).map (·.2)) = slots t := by
              rw [List.map_map]; exact List.map_id _
            rw [eo]
            exact lc_imp q
        exact ⟨pe, pt_of pe rfl⟩
      | [], h => cases h
      | ⟨_, _, _, _⟩ :: _ :: _, h => cases h
    | _ => cases h
  | .frz a, X, sc, ga, Z, H0, S0, G, x, g, e, h => by
    unfold matchE at h
    obtain ⟨p1, p2⟩ := soundE a g h
    refine ⟨PE.imp p1 fun σ H Q q => ?_, PT.imp p2 fun σ H Q q => ?_⟩
    · obtain ⟨σd, S, rs, rp, ex, w⟩ := q
      unfold wE at w
      refine ⟨σd, S, rs, rp, ex, wE_mono (fun u S1 q H1 v rp1 e1 r1 => ?_) a σd S w⟩
      obtain ⟨p, ds, rfl, h1, h2⟩ := q
      unfold RelD at r1
      subst r1
      obtain ⟨o, h3, h4⟩ := rp1.obj p _ h1
      obtain ⟨vs, rfl, r⟩ := h4
      refine h2 H1 _ rp1.rm (e1.trans Ext.rm) ?_
      unfold RelD
      exact ⟨p, vs, rfl, ⟨h3, rm_same, fun z => by rw [(rp1.z p z).2] at h1; cases h1⟩, r.ext Ext.rm⟩
    · obtain ⟨σd, S, rs, rp, ex, w⟩ := q
      unfold wE at w
      refine ⟨σd, S, rs, rp, ex, wE_mono (fun u S1 q => ?_) a σd S w⟩
      obtain ⟨p, ds, rfl, h1, b, h2, h3⟩ := q
      refine ⟨b, ?_, fun H' rp' e' => h3 H' rp'.rm (e'.trans Ext.rm)⟩
      show (lstAt S1 p).map (fun ds => !ds.isEmpty) = some b
      rw [lstAt_of h1]
      exact h2
theorem soundEs : ∀ (ms : List ME) {X : Cx} {sc : Scope} {ga : Str → Addr} {Z : Addr → Prop} {H0 : Hp} {S0 : Sto} {G : Gc} {x : XW}, Gd X sc ga Z H0 S0 G x → ∀ {es : List Expr}, matchEs X.N sc ms es = true → PA X es (tDA (cc X ga Z) H0 S0 (wEs G x ms))
  | [], X, sc, ga, Z, H0, S0, G, x, g, [], h => by
    refine PA.imp pa_nil fun σ H Q q => ?_
    obtain ⟨σd, S, rs, rp, ex, w⟩ := q
    unfold wEs at w
    exact w H [] rp (Ext.refl _ _) RelDs.nil
  | [], X, sc, ga, Z, H0, S0, G, x, g, _ :: _, h => by unfold matchEs at h; cases h
  | _ :: _, X, sc, ga, Z, H0, S0, G, x, g, [], h => by unfold matchEs at h; cases h
  | m :: ms, X, sc, ga, Z, H0, S0, G, x, g, e :: es, h => by
    unfold matchEs at h
    obtain ⟨h1, h⟩ := and2 h
    obtain ⟨h2, h3⟩ := and2 h
    refine PA.imp (pa_cons (soundE m g h2).1 (soundEs ms g h3) (starEach_cons h1)) fun σ H Q q => ?_
    obtain ⟨σd, S, rs, rp, ex, w⟩ := q
    unfold wEs at w
    refine ⟨σd, S, rs, rp, ex, wE_mono (fun d S1 q H1 v rp1 e1 r1 => ⟨σd, S1, rs.ext e1, rp1, ex.trans e1, wEs_mono (fun ds S2 q H2 vs rp2 e2 r2 => ?_) ms σd S1 q⟩) m σd S w⟩
    exact q H2 (v :: vs) rp2 (e1.trans e2) (RelDs.cons (r1.ext e2) r2)
theorem soundQs : ∀ (ms : List ME) {X : Cx} {sc : Scope} {ga : Str → Addr} {Z : Addr → Prop} {H0 : Hp} {S0 : Sto} {G : Gc} {x : XW}, Gd X sc ga Z H0 S0 G x → ∀ {es : List Expr}, matchEs X.N sc ms es = true → ∀ (k : Nat) (m : ME) (e : Expr), ms[k]? = some m → es[k]? = some e →
    PE X e (tD (cc X ga Z) H0 S0 (wE G x m)) ∧ PT X e (tDT (cc X ga Z) H0 S0 (wE G x m))
  | [], X, sc, ga, Z, H0, S0, G, x, g, _, h, k, m, e, hm, _ => by simp at hm
  | _ :: _, X, sc, ga, Z, H0, S0, G, x, g, [], h, k, m, e, _, he => by simp at he
  | m0 :: ms, X, sc, ga, Z, H0, S0, G, x, g, e0 :: es, h, 0, m, e, hm, he => by
    unfold matchEs at h
    have r := soundE m0 g (and2 (and2 h).2).1
    have e1 : m0 = m := by simpa using hm
    have e2 : e0 = e := by simpa using he
    rw [← e1, ← e2]
    exact r
  | m0 :: ms, X, sc, ga, Z, H0, S0, G, x, g, e0 :: es, h, k + 1, m, e, hm, he => by
    unfold matchEs at h
    exact soundQs ms g (and2 (and2 h).2).2 k m e (by simpa using hm) (by simpa using he)
end
end Mn

namespace Mn
open PySem L2
/-! ### statements -/
def kS (C : Cc) (H : Hp) (S : Sto) (D : Ends) : KS where
  nx := fun σ' S' => ∀ σv H', RelS C H' S' σ' σv → Rp C H' S' → Ext H S H' S' → D.nx σv H'
  rt := kD C H S D.rt
  bk := fun σ' S' => ∀ σv H', RelS C H' S' σ' σv → Rp C H' S' → Ext H S H' S' → D.bk σv H'
  ct := fun σ' S' => ∀ σv H', RelS C H' S' σ' σv → Rp C H' S' → Ext H S H' S' → D.ct σv H'
theorem kS_ext {C : Cc} {H H1 : Hp} {S S1 : Sto} {D : Ends} (e : Ext H S H1 S1) : KS.Le (kS C H S D) (kS C H1 S1 D) where
  nx := fun _ _ h σv H' a b c => h σv H' a b (e.trans c)
  rt := fun _ _ h => kD_ext e h
  bk := fun _ _ h σv H' a b c => h σv H' a b (e.trans c)
  ct := fun _ _ h σv H' a b c => h σv H' a b (e.trans c)
def tDS (C : Cc) (H0 : Hp) (S0 : Sto) (f : Env → Sto → KS → Prop) : TS := fun D σ H => ∃ (σd : Env) (S : Sto), RelS C H S σd σ ∧ Rp C H S ∧ Ext H0 S0 H S ∧ f σd S (kS C H S D)
def notTup : Expr → Bool
  | .Tuple _ _ _ => false
  | _ => true
def notLst : Expr → Bool
  | .List _ _ => false
  | _ => true
def lcalB (sc : Scope) (x : Str) : Bool := match sc.names.lookup x with
  | some .local => true
  | _ => false
/-- y = [..] on one line: the model's own statement -/
def swB (sc : Scope) (y : Str) (py : Pos) : Expr → Bool
  | .ListComp _ _ scope pos => lcalB sc y && ((py.line == pos.line) && !(scope.names.any fun (n, k) => n == y && (k == .local || k == .cell)))
  | _ => false
/-- y = [..], y a cell -/
def celB (sc : Scope) (y : Str) : Expr → Bool
  | .ListComp _ _ _ _ => (match sc.names.lookup y with
    | some .cell => true
    | _ => false)
  | _ => false
def isLc : ME → Bool
  | .lc _ _ _ _ _ _ => true
  | _ => false
def nmB (sc : Scope) (e : ME) (v : Expr) : Expr → Bool
  | .Name y py => swB sc y py v && isLc e || celB sc y v
  | _ => false
mutual
def matchS (N : List Str) (sc : Scope) : MS → Stmt → Bool
  | .asg t e, st => match st with
    | .Assign [tg] v _ => matchT N sc t tg && (matchE N sc e v && (notLc v && (notTup tg || notTup v) || nmB sc e v tg))
    | _ => false
  | .six o i e, st => match st with
    | .Assign [.Subscript o' i' _] v _ => notSl i' && (notLc v && (matchE N sc e v && (matchE N sc o o' && matchE N sc i i')))
    | _ => false
  | .aug i o e, st => match st with
    | .AugAssign (.Name y _) o' v _ => decide (N[i]? = some y) && (locB sc y && (decide (o = o') && matchE N sc e v))
    | _ => false
  | .exp e, st => match st with
    | .Expr v _ => notLc v && matchE N sc e v
    | _ => false
  | .ret e, st => match st with
    | .Return (some v) _ => matchE N sc e v
    | _ => false
  | .ite c a b, st => match st with
    | .If c' a' b' _ => matchE N sc c c' && (matchSs N sc a a' && matchSs N sc b b')
    | _ => false
  | .for_ i t as b, st => match st with
    | .For tg iter b' [] _ => matchT N sc t tg && (matchSs N sc b b' && (notSet iter && (match i with
        | 0 => matchEs N sc as [iter]
        | 1 => (match iter with
          | .Call (.Name x _) as' [] _ => decide (x = "range") && (gloB sc x && (decide (as'.length = 1 ∨ as'.length = 2) && matchEs N sc as as'))
          | _ => false)
        | 2 => (match iter with
          | .Call (.Name x _) as' [] _ => decide (x = "enumerate") && (gloB sc x && (decide (as'.length = 1) && (isTupT tg && matchEs N sc as as')))
          | _ => false)
        | _ => false)))
    | _ => false
  | .whl c b, st => match st with
    | .While c' b' [] _ => matchE N sc c c' && matchSs N sc b b'
    | _ => false
  | .pas, st => match st with
    | .Pass _ => true
    | _ => false
  | .cont, st => match st with
    | .Continue _ => true
    | _ => false
  | .drp _, _ => false
  | .frS _, _ => false
def matchSs (N : List Str) (sc : Scope) : List MS → List Stmt → Bool
  | [], sts => sts.isEmpty
  | .drp i :: r, sts => matchSs N sc r sts
  | .frS i :: r, sts => matchSs N sc r sts
  | s :: r, sts => match sts with
    | st :: sts => matchS N sc s st && matchSs N sc r sts
    | [] => false
end
section
variable {X : Cx} {ga : Str → Addr} {Z : Addr → Prop} {H0 : Hp} {S0 : Sto} {G : Gc} {x : XW}
/-- the source of a loop -/
theorem pi_of {sc : Scope} (g : Gd X sc ga Z H0 S0 G x) {i : Nat} {as : List ME} {tg iter : Expr} (h8 : (match i with
        | 0 => matchEs X.N sc as [iter]
        | 1 => (match iter with
          | .Call (.Name x _) as' [] _ => decide (x = "range") && (gloB sc x && (decide (as'.length = 1 ∨ as'.length = 2) && matchEs X.N sc as as'))
          | _ => false)
        | 2 => (match iter with
          | .Call (.Name x _) as' [] _ => decide (x = "enumerate") && (gloB sc x && (decide (as'.length = 1) && (isTupT tg && matchEs X.N sc as as')))
          | _ => false)
        | _ => false) = true) : PI X tg iter (wiD (cc X ga Z) H0 S0 G x i as) := by
  match i, h8 with
  | 0, h8 =>
    have hl : as.length = 1 := matchEs_len h8
    obtain ⟨a, ha⟩ := List.length_eq_one_iff.mp hl
    have pe := (soundQs as g h8 0 a iter (by rw [ha]; rfl) rfl).1
    rw [ha]
    exact pi_val pe
  | 1, h8 =>
    cases iter with
    | Call fn as' ks p2 =>
      cases fn with
      | Name y p =>
        cases ks with
        | nil =>
          obtain ⟨q1, q⟩ := and2 h8
          obtain ⟨q2, q⟩ := and2 q
          obtain ⟨q3, q4⟩ := and2 q
          obtain rfl := of_decide_eq_true q1
          exact pi_rng g q2 (of_decide_eq_true q3) q4 (soundEs as g q4)
        | cons k ks => cases h8
      | _ => cases h8
    | _ => cases h8
  | 2, h8 =>
    cases iter with
    | Call fn as' ks p2 =>
      cases fn with
      | Name y p =>
        cases ks with
        | nil =>
          obtain ⟨q1, q⟩ := and2 h8
          obtain ⟨q2, q⟩ := and2 q
          obtain ⟨q3, q⟩ := and2 q
          obtain ⟨q4, q5⟩ := and2 q
          obtain rfl := of_decide_eq_true q1
          cases tg with
          | Tuple elts kk tp => exact pi_enm g q2 (of_decide_eq_true q3) q5 (soundEs as g q5)
          | _ => cases q4
        | cons k ks => cases h8
      | _ => cases h8
    | _ => cases h8
  | n + 3, h8 => cases h8
theorem for_imp {i : Nat} {t : MT} {as : List ME} {b : List MS} {D : Ends} {σ : St} {H : Hp} (h : tDS (cc X ga Z) H0 S0 (wS G x (.for_ i t as b)) D σ H) :
    tFor (wiD (cc X ga Z) H0 S0 G x i as) (gD (cc X ga Z) t) (tDS (cc X ga Z) H0 S0 (wSs G x b)) D σ H := by
  obtain ⟨σd, S, rs, rp, ex, w⟩ := h
  unfold wS at w
  refine ⟨σd, S, rs, rp, ex, wEs_mono (fun ds S1 q => ?_) as σd S w⟩
  obtain ⟨its, hi, hl⟩ := q
  refine ⟨its, hi, fun H1 J rp1 e1 hJ => ?_⟩
  have hJ' : ItOk (cc X ga Z) H1 S1 J its.1 its.2 := hJ Z fun a z => .inl z
  refine ⟨fun j n σv Hh => ∃ σe S2, RelS (cc X ga Z) Hh S2 σe σv ∧ Rp (cc X ga Z) Hh S2 ∧ Ext H1 S1 Hh S2 ∧ j ≤ its.1.length ∧ n = its.1.length - j ∧
    forLoop its.2 (fun d σ2 S2 q => ∃ σ', asgT t d σ2 = some σ' ∧ wSs G x b σ' S2 q) (its.1.drop j) σe S2 (kS (cc X ga Z) H S D),
    ⟨its.1.length, σd, S1, rs.ext e1, rp1, Ext.refl _ _, Nat.zero_le _, rfl, hl⟩, ?_⟩
  rintro j n σv Hh ⟨σe, S2, rs2, rp2, e2, hj, hn, hl⟩
  cases hd : its.1.drop j with
  | nil =>
    rw [hd] at hl
    left
    obtain ⟨hg, hk⟩ := hl
    exact ⟨(hJ' j Hh S2 rp2 e2 hg).2 (List.drop_eq_nil_iff.mp hd), hk σv Hh rs2 rp2 (e1.trans e2)⟩
  | cons d rest =>
    rw [hd] at hl
    right
    obtain ⟨hg, hk⟩ := hl
    have hjd : its.1[j]? = some d := by
      have : (its.1.drop j)[0]? = some d := by rw [hd]; rfl
      rw [List.getElem?_drop] at this
      simpa using this
    have hlt : j < its.1.length := (List.getElem?_eq_some_iff.mp hjd).1
    have hrest : its.1.drop (j + 1) = rest := by
      rw [← List.drop_drop, hd]; rfl
    obtain ⟨hgo, hy⟩ := (hJ' j Hh S2 rp2 e2 hg).1 d hjd
    refine ⟨hgo, _, fun σ' H' q => ⟨its.1.length - (j + 1), by omega, q⟩, fun v H' hyl => ?_⟩
    obtain ⟨rp3, e3, rd⟩ := hy v H' hyl
    obtain ⟨σ', ha, hw⟩ := hk
    have e123 := (e1.trans e2).trans e3
    refine ⟨d, σe, σ', S2, rs2.ext e3, rp3, rd, ha, fun σw rv _ => ⟨σ', S2, rv, rp3, ex.trans e123, wSs_mono ?_ b σ' S2 hw⟩⟩
    refine ⟨fun σ3 S3 q σw H3 r3 p3 x3 => ?_, fun d S3 q => kD_ext e123 q, fun σ3 S3 q σw H3 r3 p3 x3 => q σw H3 r3 p3 (e123.trans x3), fun σ3 S3 q σw H3 r3 p3 x3 => ?_⟩
    · exact ⟨σ3, S3, r3, p3, (e2.trans e3).trans x3, hlt, rfl, by rw [hrest]; exact q⟩
    · exact ⟨σ3, S3, r3, p3, (e2.trans e3).trans x3, hlt, rfl, by rw [hrest]; exact q⟩
theorem whl_imp {c : ME} {b : List MS} {D : Ends} {σ : St} {H : Hp} (h : tDS (cc X ga Z) H0 S0 (wS G x (.whl c b)) D σ H) : tWhile (tDT (cc X ga Z) H0 S0 (wE G x c)) (tDS (cc X ga Z) H0 S0 (wSs G x b)) D σ H := by
  obtain ⟨σd, S, rs, rp, ex, w⟩ := h
  unfold wS at w
  obtain ⟨W, ⟨m, hm⟩, hw⟩ := w
  refine ⟨fun n σv Hh => ∃ σe S2, RelS (cc X ga Z) Hh S2 σe σv ∧ Rp (cc X ga Z) Hh S2 ∧ Ext H S Hh S2 ∧ W n σe S2, ⟨m, σd, S, rs, rp, Ext.refl _ _, hm⟩, ?_⟩
  rintro n σv Hh ⟨σe, S2, rs2, rp2, e2, hn⟩
  refine ⟨σe, S2, rs2, rp2, ex.trans e2, wE_mono (fun u S3 q => ?_) c σe S2 (hw n σe S2 hn)⟩
  obtain ⟨z, h1, h2⟩ := q
  refine ⟨z, h1, fun H3 rp3 e3 => ?_⟩
  have e23 := e2.trans e3
  cases z with
  | false =>
    rw [if_neg Bool.false_ne_true] at h2
    exact iteF (h2 σv H3 (rs2.ext e3) rp3 e23)
  | true =>
    rw [if_pos rfl] at h2
    obtain ⟨Nd, hN, h2⟩ := h2
    refine iteT ⟨fun σ' H' => ∃ σe' S', RelS (cc X ga Z) H' S' σe' σ' ∧ Rp (cc X ga Z) H' S' ∧ Ext H S H' S' ∧ Nd σe' S', fun σ' H' ⟨σe', S', r, p, e, q⟩ => ?_, σe, S3, rs2.ext e3, rp3, ex.trans e23, wSs_mono ?_ b σe S3 h2⟩
    · obtain ⟨m', hlt, hW⟩ := hN σe' S' q
      exact ⟨m', hlt, σe', S', r, p, e, hW⟩
    · exact ⟨fun σ3 S4 q σw H4 r4 p4 x4 => ⟨σ3, S4, r4, p4, e23.trans x4, q⟩, fun d S4 q => kD_ext e23 q, fun σ3 S4 q σw H4 r4 p4 x4 => q σw H4 r4 p4 (e23.trans x4), fun σ3 S4 q σw H4 r4 p4 x4 => ⟨σ3, S4, r4, p4, e23.trans x4, q⟩⟩
theorem ite_imp {c : ME} {a b : List MS} {D : Ends} {σ : St} {H : Hp} (h : tDS (cc X ga Z) H0 S0 (wS G x (.ite c a b)) D σ H) : tIfS (tDT (cc X ga Z) H0 S0 (wE G x c)) (tDS (cc X ga Z) H0 S0 (wSs G x a)) (tDS (cc X ga Z) H0 S0 (wSs G x b)) D σ H := by
  obtain ⟨σd, S, rs, rp, ex, w⟩ := h
  unfold wS at w
  refine ⟨σd, S, rs, rp, ex, wE_mono (fun u S1 q => ?_) c σd S w⟩
  obtain ⟨z, h1, h2⟩ := q
  refine ⟨z, h1, fun H1 rp1 e1 => ?_⟩
  cases z with
  | true => rw [if_pos rfl] at h2; exact iteT ⟨σd, S1, rs.ext e1, rp1, ex.trans e1, wSs_mono (kS_ext e1) a σd S1 h2⟩
  | false => rw [if_neg Bool.false_ne_true] at h2; exact iteF ⟨σd, S1, rs.ext e1, rp1, ex.trans e1, wSs_mono (kS_ext e1) b σd S1 h2⟩
theorem asg_imp {t : MT} {e : ME} {D : Ends} {σ : St} {H : Hp} (h : tDS (cc X ga Z) H0 S0 (wS G x (.asg t e)) D σ H) : tAsg (tD (cc X ga Z) H0 S0 (wE G x e)) (gD (cc X ga Z) t) D σ H := by
  obtain ⟨σd, S, rs, rp, ex, w⟩ := h
  unfold wS at w
  refine ⟨σd, S, rs, rp, ex, wE_mono (fun d S1 q H1 v rp1 e1 r1 => ?_) e σd S w⟩
  obtain ⟨σ', h1, h2⟩ := q
  exact ⟨d, σd, σ', S1, rs.ext e1, rp1, r1, h1, fun σv rv _ => h2 σv H1 rv rp1 e1⟩
theorem swap_sole {tg v : Expr} {l : Nat} {env : PySem.Env} (h : notLc v = true) : swapsWithSole [tg] v l env = pure false := notLc_swap h
theorem swapped_none {tg v : Expr} {env : PySem.Env} (h : (notTup tg || notTup v) = true) (hl : notLst tg = true) : swappedStores [tg] v env = pure none := by
  unfold swappedStores
  cases tg with
  | Tuple a b c =>
    cases v with
    | Tuple a b c => cases h
    | _ => rfl
  | List a b => cases hl
  | _ => rfl
end
end Mn

namespace Mn
open PySem L2
section
variable {X : Cx} {ga : Str → Addr} {Z : Addr → Prop} {H0 : Hp} {S0 : Sto} {G : Gc} {x : XW}
theorem seq_s {st : Stmt} {sts : List Stmt} {m : MS} {ms : List MS} (h1 : PS X st (tDS (cc X ga Z) H0 S0 (wS G x m))) (h2 : PSs X sts (tDS (cc X ga Z) H0 S0 (wSs G x ms))) : PSs X (st :: sts) (tDS (cc X ga Z) H0 S0 (wSs G x (m :: ms))) := by
  refine PSs.imp (pss_cons h1 h2) fun D σ H q => ?_
  obtain ⟨σd, S, rs, rp, ex, w⟩ := q
  unfold wSs at w
  refine ⟨σd, S, rs, rp, ex, wS_mono ?_ m σd S w⟩
  refine ⟨fun σ' S' q σv H' r' p' e' => ?_, fun _ _ q => q, fun _ _ q => q, fun _ _ q => q⟩
  exact ⟨σ', S', r', p', ex.trans e', wSs_mono (kS_ext e') ms σ' S' q⟩
/-- name = [..] on one line -/
theorem lc_s {sc : Scope} (g : Gd X sc ga Z H0 S0 G x) {j : Nat} {y : Str} {py pos spos : Pos} {i : Nat} {m : Bool} {t : MT} {as c : List ME} {el : ME} {elt : Expr} {gens : List Comprehension} {scope : Scope} (hN : X.N[j]? = some y) (hl : X.env.scope.names.lookup y = some .local)
    (hsw : swapsWith (.ListComp elt gens scope pos) (some (.Name y py)) spos.line X.env = pure true) (h : matchE X.N sc (.lc i m t as c el) (.ListComp elt gens scope pos) = true) :
    PS X (.Assign [.Name y py] (.ListComp elt gens scope pos) spos) (tAsg (tD (cc X ga Z) H0 S0 (wE G x (.lc i m t as c el))) (gName j)) := by
  unfold matchE at h
  match gens, h, hsw with
  | [⟨tg, iter, ifs, ay⟩], h, hsw =>
    obtain ⟨h1, hh⟩ := and2 h
    clear h
    obtain ⟨h2, h⟩ := and2 hh
    obtain ⟨h3, h⟩ := and2 h
    obtain ⟨h4, h⟩ := and2 h
    obtain ⟨h5, h⟩ := and2 h
    obtain ⟨h6, h⟩ := and2 h
    obtain ⟨h7, h8⟩ := and2 h
    obtain rfl := of_decide_eq_true h1
    have ok := blk_to g.sck (blkOk_by h2)
    have hi : PI X tg iter (wiD (cc X ga Z) H0 S0 G x i as) := pi_of g h8
    refine PS.imp (ps_setLc (te := tDx X ga (wE G noX el)) (tt := tCx X ga G c) (g := gDx X ga t) g.calm g.nd hN hl hsw hi ok (fun s H Ca cl fp => ?_) (fun s H Ca cl fp => ?_) (fun s H Ca cl fp => ?_) (notSet_fold h7)) fun D σ H q => ?_
    · exact PG.ex fun Z' => soundG (g.blk ok.kind s H Ca cl fp Z' H0 S0) t h3
    · refine pts_of (X := X.blk s H scope (compEnvC scope cl Ca X.env) fp) (sc := scope) (of_decide_eq_true h6) h4 fun m' hc e' he Z' H0' S0' => ?_
      exact (soundQs c (g.blk ok.kind s H Ca cl fp Z' H0' S0') h4 0 m' e' (by rw [hc]; rfl) (by rw [he]; rfl)).2
    · exact PE.ex fun Z' => PE.ex fun H0' => PE.ex fun S0' => (soundE el (g.blk ok.kind s H Ca cl fp Z' H0' S0') h5).1
    · have eo : (((slots t).map fun i => (X.N.getD i "", i)).map (·.2)) = slots t := by
        rw [List.map_map]; exact List.map_id _
      rw [eo]
      exact lc_imp q
  | [], h, _ => cases h
  | ⟨_, _, _, _⟩ :: _ :: _, h, _ => cases h
/-- target = value -/
theorem asg_s {sc : Scope} (g : Gd X sc ga Z H0 S0 G x) {t : MT} {e : ME} {tg v : Expr} {pos : Pos} (h1 : matchT X.N sc t tg = true) (h2 : matchE X.N sc e v = true) (h3 : (notLc v && (notTup tg || notTup v) || nmB sc e v tg) = true) : PS X (.Assign [tg] v pos) (tDS (cc X ga Z) H0 S0 (wS G x (.asg t e))) := by
  rcases Bool.or_eq_true_iff.mp h3 with q | q
  · obtain ⟨q1, q2⟩ := and2 q
    have hl : notLst tg = true ∧ (assignEach [tg] X.env).map (·.2) = [assign tg X.env] := by
      cases tg with
      | List a b => cases t <;> (unfold matchT at h1; cases h1)
      | Starred a b => cases t <;> (unfold matchT at h1; cases h1)
      | _ => exact ⟨rfl, rfl⟩
    exact PS.imp (ps_asg (soundE e g h2).1 (soundG g t h1) (swap_sole q1) (swapped_none q2 hl.1) hl.2) fun D σ H q => asg_imp q
  · clear h3
    cases tg with
    | Name y py =>
      have q : (swB sc y py v && isLc e || celB sc y v) = true := q
      cases t with
      | tp ts => unfold matchT at h1; cases h1
      | nm i =>
        unfold matchT at h1
        obtain ⟨h1, hloc⟩ := and2 h1
        have hN := of_decide_eq_true h1
        have imp : ∀ D σ H, tDS (cc X ga Z) H0 S0 (wS G x (.asg (.nm i) e)) D σ H → tAsg (tD (cc X ga Z) H0 S0 (wE G x e)) (gName i) D σ H := fun D σ H q => by
          obtain ⟨σd, S, rs, rp, ex, w⟩ := q
          unfold wS at w
          refine ⟨σd, S, rs, rp, ex, wE_mono (fun d S1 q H1 v rp1 e1 r1 => ?_) e σd S w⟩
          obtain ⟨σ', h1, h2⟩ := q
          unfold asgT at h1
          cases h1
          exact h2 _ H1 ((rs.ext e1).set i r1) rp1 e1
        rcases Bool.or_eq_true_iff.mp q with q | q
        · obtain ⟨q1, q2⟩ := and2 q
          cases v with
          | ListComp elt gens scope pos' =>
            obtain ⟨q3, q4⟩ := and2 q1
            obtain ⟨q4, q5⟩ := and2 q4
            have hl : X.env.scope.names.lookup y = some .local := by
              unfold lcalB at q3
              cases e1 : sc.names.lookup y with
              | none => rw [e1] at q3; cases q3
              | some k =>
                obtain ⟨k', h3, h4⟩ := g.sck.look y k e1
                rw [e1] at q3
                cases k with
                | «local» =>
                  rcases h4 with rfl | ⟨z, _⟩
                  · exact h3
                  · cases z
                | _ => cases q3
            cases e with
            | lc i' m' t' as' c' el' => exact PS.imp (lc_s g hN hl (sw_true g.sck.kind hl q4 (by simpa using q5)) h2) imp
            | _ => cases q2
          | _ => cases q1
        · cases v with
          | ListComp elt gens scope pos' =>
            have hc : X.env.scope.names.lookup y = some .cell := by
              have q : (match sc.names.lookup y with
                | some .cell => true
                | _ => false) = true := q
              cases e1 : sc.names.lookup y with
              | none => rw [e1] at q; cases q
              | some k =>
                obtain ⟨k', h3, h4⟩ := g.sck.look y k e1
                rw [e1] at q
                cases k with
                | cell =>
                  rcases h4 with rfl | ⟨z, _⟩
                  · exact h3
                  · cases z
                | _ => cases q
            refine PS.imp (ps_set (i := i) g.nd hN (g.sck.loc hloc) (soundE e g h2).1 ?_ (g.fnl y hloc)) imp
            unfold swapsWith
            show (pure (X.env.blockKind == .function && X.env.kindOf y == some .local && py.line == (Expr.ListComp elt gens scope pos').pos.line && !(scope.names.any fun (n, k) => n == y && (k == .local || k == .cell))) : Sem Bool) = pure false
            have : X.env.kindOf y = some .cell := hc
            rw [this, show (some NameKind.cell == some NameKind.local) = false from rfl, Bool.and_false, Bool.false_and, Bool.false_and]
          | _ => cases q
    | _ => cases q
theorem asg_sub {o i : Expr} {pos : Pos} {env : PySem.Env} (h : notSl i = true) : ∀ v, assign (.Subscript o i pos) env v = (do
      let ov ← holding [v] (eval o env)
      let iv ← holding [v, ov] (eval i env)
      standAt pos
      holding [v, ov, iv] (setItem ov iv v)
      release [v, ov, iv] []) := fun v => by
  cases i with
  | Slice a b c d => cases h
  | _ => rfl
theorem six_s {sc : Scope} (g : Gd X sc ga Z H0 S0 G x) {o i e : ME} {o' i' v : Expr} {pos pos' : Pos} (h1 : notSl i' = true) (h2 : notLc v = true) (ho : matchE X.N sc o o' = true) (hi : matchE X.N sc i i' = true) (he : matchE X.N sc e v = true) :
    PS X (.Assign [.Subscript o' i' pos'] v pos) (tDS (cc X ga Z) H0 S0 (wS G x (.six o i e))) := by
  refine PS.imp (ps_asg (soundE e g he).1 (pg_sub (soundE o g ho).1 (soundE i g hi).1 set_list (asg_sub h1)) (swap_sole h2) rfl rfl) fun D σ H q => ?_
  obtain ⟨σd, S, rs, rp, ex, w⟩ := q
  unfold wS at w
  refine ⟨σd, S, rs, rp, ex, wE_mono (fun d S1 q H1 v rp1 e1 r1 => ⟨σd, S1, rs.ext e1, rp1, ex.trans e1, wE_mono (fun u S2 q H2 w2 rp2 e2 r2 => ⟨σd, S2, rs.ext (e1.trans e2), rp2, ex.trans (e1.trans e2), wE_mono (fun j S3 q H3 w3 rp3 e3 r3 => ?_) i σd S2 q⟩) o σd S1 q⟩) e σd S w⟩
  obtain ⟨S', h3, h4⟩ := q
  unfold sixR at h3
  split at h3
  · rename_i a k
    split at h3
    · rename_i ds hds
      split at h3
      · rename_i n hn
        cases h3
        unfold RelD at r2
        subst r2
        cases rel_int r3
        have hS := lstAt_some hds
        obtain ⟨ob, h5, h6⟩ := rp3.obj a _ hS
        obtain ⟨vs, rfl, r⟩ := h6
        refine ⟨a, vs, k, n, rfl, rfl, h5, by rw [r.len]; exact hn, ?_⟩
        have eS := Ext.set (H := H3) (S := S3) (p := a) (o := .lst (vs.set n v)) (m := .lst (ds.set n d)) hS
        have e123 := (e1.trans e2).trans e3
        exact h4 σ _ (rs.ext (e123.trans eS)) (rp3.set hS ⟨_, rfl, (r.set n (r1.ext (e2.trans e3))).ext eS⟩) (e123.trans eS)
      · cases h3
    · cases h3
  · cases h3
theorem aug_s {sc : Scope} (g : Gd X sc ga Z H0 S0 G x) {i : Nat} {o : Operator} {e : ME} {y : Str} {v : Expr} {pos pos' : Pos} (hN : X.N[i]? = some y) (hl : locB sc y = true) (he : matchE X.N sc e v = true) :
    PS X (.AugAssign (.Name y pos') o v pos) (tDS (cc X ga Z) H0 S0 (wS G x (.aug i o e))) := by
  have hp : PIp X o fun a b H Q => ∃ u w d S, Rp (cc X ga Z) H S ∧ RelD (cc X ga Z) H S u a ∧ RelD (cc X ga Z) H S w b ∧ augR o u w = some d ∧ ∀ z, RelD (cc X ga Z) H S d z → Q z H := by
    intro pins s σ H a b va vb Q I ra rb q
    obtain ⟨u, w, d, S, rp, r1, r2, h, k⟩ := q
    unfold augR at h
    split at h
    · cases h; cases rel_int r1; cases rel_int r2
      exact ip_add pins s σ H _ _ va vb Q I ra rb ⟨_, _, rfl, rfl, k _ mk_int⟩
    · cases h; cases rel_int r1; cases rel_int r2
      exact ip_sub pins s σ H _ _ va vb Q I ra rb ⟨_, _, rfl, rfl, k _ mk_int⟩
    · cases h
  refine PS.imp (ps_aug (i := i) g.nd hN (g.sck.loc hl) (soundE e g he).1 hp (g.fnl y hl)) fun D σ H q => ?_
  obtain ⟨σd, S, rs, rp, ex, w⟩ := q
  unfold wS at w
  obtain ⟨u, hu, w⟩ := w
  obtain ⟨a, ha, ra⟩ := rs.2 i u hu
  refine ⟨a, ha, σd, S, rs, rp, ex, wE_mono (fun d S1 q H1 v rp1 e1 r1 => ?_) e σd S w⟩
  obtain ⟨z, h1, h2⟩ := q
  exact ⟨u, d, z, S1, rp1, ra.ext e1, r1, h1, fun zv rz => h2 _ H1 ((rs.ext e1).set i rz) rp1 e1⟩
end
mutual
theorem soundS : ∀ (m : MS) {X : Cx} {sc : Scope} {ga : Str → Addr} {Z : Addr → Prop} {H0 : Hp} {S0 : Sto} {G : Gc} {x : XW}, Gd X sc ga Z H0 S0 G x → ∀ {st : Stmt}, matchS X.N sc m st = true → PS X st (tDS (cc X ga Z) H0 S0 (wS G x m))
  | .asg t e, X, sc, ga, Z, H0, S0, G, x, g, st, h => by
    unfold matchS at h
    cases st with
    | Assign tgs v pos =>
      match tgs, h with
      | [tg], h =>
        obtain ⟨h1, h⟩ := and2 h
        obtain ⟨h2, h3⟩ := and2 h
        exact asg_s g h1 h2 h3
      | [], h => cases h
      | _ :: _ :: _, h => cases h
    | _ => cases h
  | .six o i e, X, sc, ga, Z, H0, S0, G, x, g, st, h => by
    unfold matchS at h
    cases st with
    | Assign tgs v pos =>
      match tgs, h with
      | [tg], h =>
        cases tg with
        | Subscript o' i' p =>
          obtain ⟨h1, h⟩ := and2 h
          obtain ⟨h2, h⟩ := and2 h
          obtain ⟨h3, h⟩ := and2 h
          obtain ⟨h4, h5⟩ := and2 h
          exact six_s g h1 h2 h4 h5 h3
        | _ => cases h
      | [], h => cases h
      | .Subscript _ _ _ :: _ :: _, h => cases h
      | a :: b :: c, h => cases a <;> cases h
    | _ => cases h
  | .aug i o e, X, sc, ga, Z, H0, S0, G, x, g, st, h => by
    unfold matchS at h
    cases st with
    | AugAssign tg o' v pos =>
      cases tg with
      | Name y p =>
        obtain ⟨h1, h⟩ := and2 h
        obtain ⟨h2, h⟩ := and2 h
        obtain ⟨h3, h4⟩ := and2 h
        obtain rfl := of_decide_eq_true h3
        exact aug_s g (of_decide_eq_true h1) h2 h4
      | _ => cases h
    | _ => cases h
  | .exp e, X, sc, ga, Z, H0, S0, G, x, g, st, h => by
    unfold matchS at h
    cases st with
    | Expr v pos =>
      obtain ⟨h1, h2⟩ := and2 h
      refine PS.imp (ps_expr (soundE e g h2).1 (notLc_swap h1)) fun D σ H q => ?_
      obtain ⟨σd, S, rs, rp, ex, w⟩ := q
      unfold wS at w
      exact ⟨σd, S, rs, rp, ex, wE_mono (fun d S1 q H1 v rp1 e1 r1 => q σ H1 (rs.ext e1) rp1 e1) e σd S w⟩
    | _ => cases h
  | .ret e, X, sc, ga, Z, H0, S0, G, x, g, st, h => by
    unfold matchS at h
    cases st with
    | Return v pos =>
      cases v with
      | none => cases h
      | some v =>
        refine PS.imp (ps_ret (soundE e g h).1) fun D σ H q => ?_
        obtain ⟨σd, S, rs, rp, ex, w⟩ := q
        unfold wS at w
        exact ⟨σd, S, rs, rp, ex, w⟩
    | _ => cases h
  | .ite c a b, X, sc, ga, Z, H0, S0, G, x, g, st, h => by
    unfold matchS at h
    cases st with
    | If c' a' b' pos =>
      obtain ⟨h1, h⟩ := and2 h
      obtain ⟨h2, h3⟩ := and2 h
      exact PS.imp (ps_if (soundE c g h1).2 (soundSs a g h2) (soundSs b g h3)) fun D σ H q => ite_imp q
    | _ => cases h
  | .for_ i t as b, X, sc, ga, Z, H0, S0, G, x, g, st, h => by
    unfold matchS at h
    cases st with
    | For tg iter b' els pos =>
      cases els with
      | nil =>
        obtain ⟨h1, h⟩ := and2 h
        obtain ⟨h2, h⟩ := and2 h
        obtain ⟨h3, h4⟩ := and2 h
        exact PS.imp (ps_for g.own g.calm (pi_of g h4) (soundG g t h1) (soundSs b g h2) (notSet_fold h3)) fun D σ H q => for_imp q
      | cons e es => cases h
    | _ => cases h
  | .whl c b, X, sc, ga, Z, H0, S0, G, x, g, st, h => by
    unfold matchS at h
    cases st with
    | While c' b' els pos =>
      cases els with
      | nil =>
        obtain ⟨h1, h2⟩ := and2 h
        exact PS.imp (ps_while g.own (soundE c g h1).2 (soundSs b g h2)) fun D σ H q => whl_imp q
      | cons e es => cases h
    | _ => cases h
  | .pas, X, sc, ga, Z, H0, S0, G, x, g, st, h => by
    unfold matchS at h
    cases st with
    | Pass pos =>
      refine PS.imp ps_pass fun D σ H q => ?_
      obtain ⟨σd, S, rs, rp, ex, w⟩ := q
      unfold wS at w
      exact w σ H rs rp (Ext.refl _ _)
    | _ => cases h
  | .cont, X, sc, ga, Z, H0, S0, G, x, g, st, h => by
    unfold matchS at h
    cases st with
    | Continue pos =>
      refine PS.imp ps_continue fun D σ H q => ?_
      obtain ⟨σd, S, rs, rp, ex, w⟩ := q
      unfold wS at w
      exact w σ H rs rp (Ext.refl _ _)
    | _ => cases h
  | .drp _, X, sc, ga, Z, H0, S0, G, x, g, st, h => by unfold matchS at h; cases h
  | .frS _, X, sc, ga, Z, H0, S0, G, x, g, st, h => by unfold matchS at h; cases h
theorem soundSs : ∀ (ms : List MS) {X : Cx} {sc : Scope} {ga : Str → Addr} {Z : Addr → Prop} {H0 : Hp} {S0 : Sto} {G : Gc} {x : XW}, Gd X sc ga Z H0 S0 G x → ∀ {sts : List Stmt}, matchSs X.N sc ms sts = true → PSs X sts (tDS (cc X ga Z) H0 S0 (wSs G x ms))
  | [], X, sc, ga, Z, H0, S0, G, x, g, sts, h => by
    unfold matchSs at h
    cases sts with
    | cons a b => cases h
    | nil =>
      refine PSs.imp pss_nil fun D σ H q => ?_
      obtain ⟨σd, S, rs, rp, ex, w⟩ := q
      unfold wSs at w
      exact w σ H rs rp (Ext.refl _ _)
  | .drp i :: r, X, sc, ga, Z, H0, S0, G, x, g, sts, h => by
    unfold matchSs at h
    refine PSs.imp (soundSs r g h) fun D σ H q => ?_
    obtain ⟨σd, S, rs, rp, ex, w⟩ := q
    unfold wSs wS at w
    obtain ⟨a, h1, w⟩ := w
    exact ⟨σd, _, rs.ext Ext.rm, rp.rm, ex.trans Ext.rm, wSs_mono (kS_ext Ext.rm) r σd _ w⟩
  | .frS i :: r, X, sc, ga, Z, H0, S0, G, x, g, sts, h => by
    unfold matchSs at h
    refine PSs.imp (soundSs r g h) fun D σ H q => ?_
    obtain ⟨σd, S, rs, rp, ex, w⟩ := q
    unfold wSs wS at w
    obtain ⟨a, ds, h1, h2, w⟩ := w
    refine ⟨_, _, ?_, rp.rm, ex.trans Ext.rm, wSs_mono (kS_ext Ext.rm) r _ _ w⟩
    obtain ⟨v, hv, rv⟩ := rs.2 i _ h1
    unfold RelD at rv
    subst rv
    obtain ⟨o, h3, h4⟩ := rp.obj a _ h2
    obtain ⟨vs, rfl, rd⟩ := h4
    have rn : RelD (cc X ga Z) H (rm S a) (.lst ds) (.ref a) := by
      unfold RelD
      exact ⟨a, vs, rfl, ⟨h3, rm_same, fun z => by rw [(rp.z a z).2] at h2; cases h2⟩, rd.ext Ext.rm⟩
    have hs := (rs.ext (Ext.rm (H := H) (p := a))).set i rn
    have e : σ.set i (some (.ref a)) = σ := by
      refine List.ext_getElem? fun j => ?_
      rw [List.getElem?_set]
      split
      · rename_i q; subst q
        split
        · exact hv.symm
        · rename_i q; rw [List.getElem?_eq_none_iff.mpr (by omega)]
      · rfl
    rw [e] at hs
    exact hs
  | .asg t e :: r, X, sc, ga, Z, H0, S0, G, x, g, sts, h => by
    unfold matchSs at h
    cases sts with
    | nil => cases h
    | cons st sts => exact seq_s (soundS (.asg t e) g (and2 h).1) (soundSs r g (and2 h).2)
  | .six o i e :: r, X, sc, ga, Z, H0, S0, G, x, g, sts, h => by
    unfold matchSs at h
    cases sts with
    | nil => cases h
    | cons st sts => exact seq_s (soundS (.six o i e) g (and2 h).1) (soundSs r g (and2 h).2)
  | .aug i o e :: r, X, sc, ga, Z, H0, S0, G, x, g, sts, h => by
    unfold matchSs at h
    cases sts with
    | nil => cases h
    | cons st sts => exact seq_s (soundS (.aug i o e) g (and2 h).1) (soundSs r g (and2 h).2)
  | .exp e :: r, X, sc, ga, Z, H0, S0, G, x, g, sts, h => by
    unfold matchSs at h
    cases sts with
    | nil => cases h
    | cons st sts => exact seq_s (soundS (.exp e) g (and2 h).1) (soundSs r g (and2 h).2)
  | .ret e :: r, X, sc, ga, Z, H0, S0, G, x, g, sts, h => by
    unfold matchSs at h
    cases sts with
    | nil => cases h
    | cons st sts => exact seq_s (soundS (.ret e) g (and2 h).1) (soundSs r g (and2 h).2)
  | .ite c a b :: r, X, sc, ga, Z, H0, S0, G, x, g, sts, h => by
    unfold matchSs at h
    cases sts with
    | nil => cases h
    | cons st sts => exact seq_s (soundS (.ite c a b) g (and2 h).1) (soundSs r g (and2 h).2)
  | .for_ i t as b :: r, X, sc, ga, Z, H0, S0, G, x, g, sts, h => by
    unfold matchSs at h
    cases sts with
    | nil => cases h
    | cons st sts => exact seq_s (soundS (.for_ i t as b) g (and2 h).1) (soundSs r g (and2 h).2)
  | .whl c b :: r, X, sc, ga, Z, H0, S0, G, x, g, sts, h => by
    unfold matchSs at h
    cases sts with
    | nil => cases h
    | cons st sts => exact seq_s (soundS (.whl c b) g (and2 h).1) (soundSs r g (and2 h).2)
  | .pas :: r, X, sc, ga, Z, H0, S0, G, x, g, sts, h => by
    unfold matchSs at h
    cases sts with
    | nil => cases h
    | cons st sts => exact seq_s (soundS .pas g (and2 h).1) (soundSs r g (and2 h).2)
  | .cont :: r, X, sc, ga, Z, H0, S0, G, x, g, sts, h => by
    unfold matchSs at h
    cases sts with
    | nil => cases h
    | cons st sts => exact seq_s (soundS .cont g (and2 h).1) (soundSs r g (and2 h).2)
end
end Mn

namespace Mn
open PySem L2
/-! ### a def keeps its word -/
def startD (N : List Str) (ds : List D) : Env := ds.map some ++ List.replicate (N.length - ds.length) none
theorem start_rel {C : Cc} {H : Hp} {S : Sto} {N : List Str} {ds : List D} {vs : List V} (r : RelDs C H S ds vs) : RelS C H S (startD N ds) (L2.start N vs) := by
  unfold startD L2.start
  rw [r.len]
  refine ⟨by simp [r.len], fun i d h => ?_⟩
  rcases Nat.lt_or_ge i ds.length with q | q
  · rw [List.getElem?_append_left (by simpa using q), List.getElem?_map] at h
    obtain ⟨d', h1, h2⟩ := Option.map_eq_some_iff.mp h
    cases h2
    obtain ⟨v, h3, h4⟩ := r.get h1
    exact ⟨v, by rw [List.getElem?_append_left (by simpa [r.len] using q), List.getElem?_map, h3]; rfl, h4⟩
  · rw [List.getElem?_append_right (by simpa using q)] at h
    rw [List.getElem?_replicate] at h
    split at h <;> cases h
/-- what the module's names stand for -/
structure Md (P : Program) (w : World) (K : PySem.W.Frag) (mg : Str → Option Value) (base : Heap) (ga : Str → Addr) (G : Gc) (k : Nat) : Prop where
  fns : ∀ f n sp, G.fn f = some (n, sp) → ∃ (fa : Addr) (fd : FuncData) (j : Nat) (ps : List Str), ps.length = n ∧ mg f = some (.ref fa) ∧ FnOk P w K mg base (L2.CX P w) j fa fd ps (lift K ga n sp) ∧ j ≤ k ∧ PySem.W.keepIn K (.ref fa) = true ∧ Binds K fd ps []
  con : ∀ n d, G.con n = some d → ∃ v u, mg n = some u ∧ RelV v u ∧ ∀ Z H S, RelD ⟨K, ga, Z⟩ H S d v
  blt : ∀ f : Bf, mg f.nm = none
  tys : ∀ n, tyB n = true → mg (Str.ofString n) = none
  rng : mg "range" = none
  enm : mg "enumerate" = none
/-- the body's word: from the promise to its reading -/
def BodyOk (G : Gc) (N : List Str) (n : Nat) (ms : List MS) (sp : DSp) : Prop := ∀ (ds : List D) (S : Sto) (Q : D → Sto → Prop) (X : Exc → Sto → Prop), ds.length = n → sp ds S Q X → wSs G (fun e _ S' => X e S') ms (startD N ds) S { nx := fun _ S' => Q .non S', rt := Q }
theorem fn_ok {P : Program} {w : World} {K : PySem.W.Frag} {mg : Str → Option Value} {base : Heap} {ga : Str → Addr} {G : Gc} {k : Nat} {nm qual : Str} {params : Arguments} {body : List Stmt} {scope : Scope} {f : Addr} {fd : FuncData} {N ps : List Str} {ms : List MS} {sp : DSp}
    (F : FunD K nm qual params body scope [] [] f fd) (Sc : FnScope N ps scope) (M : Md P w K mg base ga G k) (hm : matchSs N scope ms body = true) (hb : BodyOk G N ps.length ms sp) : FnOk P w K mg base (L2.CX P w) (k + 1) f fd ps (lift K ga ps.length sp) := by
  refine F.ok Sc (fun vs H Q E h => h.1) fun cdv A outer s H vs Q E hr h => ?_
  obtain ⟨hl, ds, S, Z, r, rp, Q', X', hQ, hX, hsp⟩ := h
  refine ⟨tDS ⟨K, ga, Z⟩ H S (wSs G (fun e _ S' => X' e S') ms), ?_, startD N ds, S, start_rel r, rp, Ext.refl _ _, wSs_mono ?_ ms _ S (hb ds S Q' X' (by rw [← r.len]; exact hl) hsp)⟩
  · refine soundSs ms (X := cxOf (L2.CX P w) P w K mg base N qual scope f cdv A outer s H E) (sc := scope) (ga := ga) (Z := Z) ?_ hm
    exact {
      nd := Sc.nd
      calm := rfl
      room := hr.units
      sck := ⟨Sc.kind, fun x k h => ⟨k, h, .inl rfl⟩⟩
      tk := Takes.imp (takes_of rfl rfl rfl rfl) fun cls d σ H' q => by
        obtain ⟨e, σd, S', _, rp', ex', rx, hx⟩ := q
        exact hX e S' hx H' cls d rp' ex' rx
      own := passes_of rfl
      fns := fun g n sp h => by
        obtain ⟨fa, fd, j, ps, h1, h2, h3, h4, h5, h6⟩ := M.fns g n sp h
        exact ⟨fa, fd, j, ps, h1, h2, h3, hr.mono h4, h5, h6⟩
      con := fun n d h => M.con n d h
      blt := M.blt
      tys := M.tys
      rng := M.rng
      enm := M.enm
      fnl := fun _ _ => .inl rfl }
  · refine ⟨fun σ' S' q σv H' _ rp' e' => hQ _ _ q H' .non rp' e' mk_non, fun d S' q => hQ _ _ q, fun _ _ q => q.elim, fun _ _ q => q.elim⟩
end Mn

namespace Mn
open PySem L2
/-! ### the head's facts: the module's names, functions, classes, methods, their code -/
def fnCode (g : Addr → Option Obj) (v : Value) : List Addr := match v with
  | .ref f => (match g f with
    | some ⟨_, _, .func fd, _⟩ => f :: He.refV fd.code
    | _ => [f])
  | _ => []
def nsVals (g : Addr → Option Obj) (a : Addr) : List Value := match g a with
  | some ⟨_, _, .dict es _, _⟩ => es.toList.map (·.val)
  | _ => []
def clsMore (g : Addr → Option Obj) (v : Value) : List Addr := match v with
  | .ref c => (match g c with
    | some ⟨_, _, .cls cd, _⟩ => cd.ns :: (nsVals g cd.ns).flatMap (fnCode g)
    | _ => [])
  | _ => []
def asM (g : Addr → Option Obj) : List Addr := mainGlobals :: ((nsVals g mainGlobals).flatMap (fnCode g) ++ (nsVals g mainGlobals).flatMap (clsMore g))
def obsMG (fa : List He.Fa) (fn : List He.DefD) (g : Addr → Option Obj) : He.AlD := He.obsD fa fn (He.frG g (asM g))
def hookM (fa : List He.Fa) (fn : List He.DefD) : PySem.W.Hook where
  α := He.AlD
  obs := fun s => obsMG fa fn s.heap.get?
  val := fun _ => He.valD fn
  says := fun _ h => ∃ K : PySem.W.Frag, K.In h ∧ He.SaysD fa fn K
  of := fun _ _ e => ⟨_, He.frG_in, e⟩
  keeps := fun _ _ _ ⟨K, hK, c⟩ k => ⟨K, PySem.W.Frag.In.keeps hK k, c⟩
theorem obsMG_eq {fa : List He.Fa} {fn : List He.DefD} {g : Addr → Option Obj} {s : Shared} (h : ∀ a, g a = s.heap.get? a) : obsMG fa fn g = (hookM fa fn).obs s := by
  have e : g = s.heap.get? := funext h
  rw [e]; rfl
/-- nothing leaves the law -/
theorem fn_shut {P : Program} {w : World} {K : PySem.W.Frag} {mg : Str → Option Value} {base : Heap} {k : Nat} {f : Addr} {fd : FuncData} {ps : List Str} {sp : Sp} (F : FnOk P w K mg base (L2.CX P w) k f fd ps sp) :
    FnOk P w K mg base CX0 k f fd ps (fun vs H Q _ => sp vs H Q fun _ _ _ => False) where
  len := fun vs H Q E h => F.len _ _ _ _ h
  run := fun A outer s H args us vs Q E hr he hb hv h => codeAny_mono (F.run A outer s H args us vs Q _ hr he hb hv h) fun r s' q => by
    cases r with
    | ok fl => cases fl <;> exact q
    | error e =>
      obtain ⟨_, _, _, _, _, _, _, _, _, _, _, _, z⟩ := q
      exact z.elim
theorem walk_mn {l : PySem.W.OpenLaw} {k : Nat} {q : Program} {loose : List Str} {XP : (Str → Option Value) → Heap → Prop} {d : DefRec} {fa : List He.Fa} {fn : List He.DefD} {x : Str} {sp : DSp} (hn : l.most = some 63) (hdf : d.params.defaults = []) (hr : Room k callerA) (hd : d.name = "law")
    (hsp : ∀ ns : List Int, ns.length ≤ 63 → sp [.scr ns] (fun _ => none) (fun v _ => v = .bl true) fun _ _ => False)
    (F : ∀ (w : World) (mg : Str → Option Value) (f : Addr) (h : Heap) (K : PySem.W.Frag), K.In h → h.Ns mainGlobals mg → mg "law" = some (.ref f) → He.SaysD fa fn K →
      ∃ (fd : FuncData) (ga : Str → Addr), (∀ (s : Shared) (u : Value), BindsTo s fd ⟨[u], []⟩ [(x, u)]) ∧ ∀ base : Heap, K.In base → base.Ns mainGlobals mg → FnOk l.prog w K mg base (L2.CX l.prog w) k f fd [x] (lift K ga 1 sp)) :
    PySem.W.WalkO q loose XP (hookM fa fn).says l.row.toRowW d [] (fun f vs => PySem.call f vs) := by
  refine L2.walk_ofE (n := 63) (k := k) (x := x) (CX := L2.CX0) hn (by decide) hdf hr (fun w mg f h Y G hmg => ?_) fun _ _ _ _ z => z
  obtain ⟨K, KX, c⟩ := Y
  rw [hd] at hmg
  obtain ⟨fd, ga, hb, hF⟩ := F w mg f h K KX G hmg c
  refine ⟨K, fd, _, KX, hb, fun H a ns hl hO hS => ?_, fun base h1 h2 => fn_shut (hF base h1 h2)⟩
  refine ⟨rfl, [.scr ns], fun _ => none, fun _ => False, RelDs.cons ?_ RelDs.nil, ⟨fun _ _ h => (nomatch h), fun _ h => h.elim⟩, _, _, fun d S' e H' v rp ex r => ?_, fun _ _ z => z.elim, hsp ns hl⟩
  · unfold RelD
    rcases hS with hS | hS
    · exact ⟨a, rfl, .inl ⟨hS, rfl, fun z => z⟩⟩
    · exact ⟨a, rfl, .inr hS⟩
  · subst e
    unfold RelD at r
    exact r
end Mn

namespace Mn
open PySem L2
/-! ### rules for proofs over the small syntax -/
theorem for_rule {G : Gc} {x : XW} {b : List MS} {t : MT} {gd : Sto → Prop} {its : List D} {σ : Env} {S : Sto} {k : KS} (I : Nat → Env → Sto → Prop) (h0 : I 0 σ S)
    (hs : ∀ i d σ S, its[i]? = some d → I i σ S → gd S ∧ ∃ σ', asgT t d σ = some σ' ∧ wSs G x b σ' S { nx := I (i + 1), ct := I (i + 1), rt := k.rt, bk := k.nx })
    (hd : ∀ σ S, I its.length σ S → gd S ∧ k.nx σ S) : forLoop gd (fun d σ2 S2 q => ∃ σ', asgT t d σ2 = some σ' ∧ wSs G x b σ' S2 q) its σ S k := by
  have gen : ∀ (l : List D) (j : Nat) (σ : Env) (S : Sto), its.drop j = l → j ≤ its.length → I j σ S → forLoop gd (fun d σ2 S2 q => ∃ σ', asgT t d σ2 = some σ' ∧ wSs G x b σ' S2 q) l σ S k := by
    intro l
    induction l with
    | nil =>
      intro j σ S hj hl hI
      have e : j = its.length := Nat.le_antisymm hl (List.drop_eq_nil_iff.mp hj)
      rw [e] at hI
      exact hd σ S hI
    | cons d l ih =>
      intro j σ S hj hl hI
      have hjd : its[j]? = some d := by
        have : (its.drop j)[0]? = some d := by rw [hj]; rfl
        rw [List.getElem?_drop] at this
        simpa using this
      have hlt : j < its.length := (List.getElem?_eq_some_iff.mp hjd).1
      have hr : its.drop (j + 1) = l := by rw [← List.drop_drop, hj]; rfl
      obtain ⟨h1, σ', h2, h3⟩ := hs j d σ S hjd hI
      refine ⟨h1, σ', h2, wSs_mono ?_ b σ' S h3⟩
      exact ⟨fun σ2 S2 q => ih (j + 1) σ2 S2 hr hlt q, fun _ _ q => q, fun _ _ q => q, fun σ2 S2 q => ih (j + 1) σ2 S2 hr hlt q⟩
  exact gen its 0 σ S rfl (Nat.zero_le _) h0
/-- the same where the target is one name -/
theorem for_ruleN {G : Gc} {x : XW} {b : List MS} {n : Nat} {gd : Sto → Prop} {its : List D} {σ : Env} {S : Sto} {k : KS} (I : Nat → Env → Sto → Prop) (h0 : I 0 σ S)
    (hs : ∀ i d σ S, its[i]? = some d → I i σ S → gd S ∧ wSs G x b (σ.set n (some d)) S { nx := I (i + 1), ct := I (i + 1), rt := k.rt, bk := k.nx })
    (hd : ∀ σ S, I its.length σ S → gd S ∧ k.nx σ S) : forLoop gd (fun d σ2 S2 q => wSs G x b (σ2.set n (some d)) S2 q) its σ S k := by
  have e : (fun (d : D) (σ2 : Env) (S2 : Sto) (q : KS) => wSs G x b (σ2.set n (some d)) S2 q) = fun d σ2 S2 q => ∃ σ', asgT (.nm n) d σ2 = some σ' ∧ wSs G x b σ' S2 q := by
    funext d σ2 S2 q
    refine propext ⟨fun h => ⟨_, by unfold asgT; rfl, h⟩, ?_⟩
    rintro ⟨σ', h1, h2⟩
    unfold asgT at h1
    cases h1
    exact h2
  rw [e]
  exact for_rule I h0 (fun i d σ S h1 h2 => ⟨(hs i d σ S h1 h2).1, _, by unfold asgT; rfl, (hs i d σ S h1 h2).2⟩) hd
/-- a comprehension whose elements are values of a function, the store as it was -/
theorem lc_rule {G : Gc} {t : MT} {c : List ME} {e : ME} {gd : Sto → Prop} {its : List D} {σ : Env} {S : Sto} {k : List D → Sto → Prop} (F : D → Option D) (hlen : its.length ≤ sizeLine) (hg : gd S)
    (hs : ∀ d ∈ its, ∀ q : Option D → Sto → Prop, q (F d) S → ∃ σ', asgT t d σ = some σ' ∧ wC G c σ' S fun b S3 => if b = true then wE G (fun _ _ _ => False) e σ' S3 fun y S4 => q (some y) S4 else q none S3)
    (hk : k (its.filterMap F) S) : lcLoop gd (fun d S2 q => ∃ σ', asgT t d σ = some σ' ∧ wC G c σ' S2 fun b S3 => if b = true then wE G (fun _ _ _ => False) e σ' S3 fun y S4 => q (some y) S4 else q none S3) its [] S k := by
  have gen : ∀ (l acc : List D), (∀ d ∈ l, d ∈ its) → acc.length + l.length ≤ sizeLine → (acc ++ l.filterMap F = its.filterMap F) →
      lcLoop gd (fun d S2 q => ∃ σ', asgT t d σ = some σ' ∧ wC G c σ' S2 fun b S3 => if b = true then wE G (fun _ _ _ => False) e σ' S3 fun y S4 => q (some y) S4 else q none S3) l acc S k := by
    intro l
    induction l with
    | nil =>
      intro acc _ _ he
      rw [List.filterMap_nil, List.append_nil] at he
      exact ⟨hg, by rw [he]; exact hk⟩
    | cons d l ih =>
      intro acc hm hl he
      rw [List.length_cons] at hl
      refine ⟨hg, hs d (hm d List.mem_cons_self) (fun r S' => match r with
        | some y => acc.length < sizeLine ∧ lcLoop gd (fun d S2 q => ∃ σ', asgT t d σ = some σ' ∧ wC G c σ' S2 fun b S3 => if b = true then wE G (fun _ _ _ => False) e σ' S3 fun y S4 => q (some y) S4 else q none S3) l (acc ++ [y]) S' k
        | none => lcLoop gd (fun d S2 q => ∃ σ', asgT t d σ = some σ' ∧ wC G c σ' S2 fun b S3 => if b = true then wE G (fun _ _ _ => False) e σ' S3 fun y S4 => q (some y) S4 else q none S3) l acc S' k) ?_⟩
      cases hF : F d with
      | none =>
        rw [List.filterMap_cons, hF] at he
        exact ih acc (fun z hz => hm z (List.mem_cons_of_mem _ hz)) (by omega) he
      | some y =>
        rw [List.filterMap_cons, hF] at he
        refine ⟨by omega, ih (acc ++ [y]) (fun z hz => hm z (List.mem_cons_of_mem _ hz)) (by rw [List.length_append]; simp; omega) ?_⟩
        rw [List.append_assoc]
        exact he
  exact gen its [] (fun d h => h) (by simpa using hlen) (by simp)
/-- the same where the target is one name -/
theorem lc_ruleN {G : Gc} {n : Nat} {c : List ME} {e : ME} {gd : Sto → Prop} {its : List D} {σ : Env} {S : Sto} {k : List D → Sto → Prop} (F : D → Option D) (hlen : its.length ≤ sizeLine) (hg : gd S)
    (hs : ∀ d ∈ its, ∀ q : Option D → Sto → Prop, q (F d) S → wC G c (σ.set n (some d)) S fun b S3 => if b = true then wE G (fun _ _ _ => False) e (σ.set n (some d)) S3 fun y S4 => q (some y) S4 else q none S3)
    (hk : k (its.filterMap F) S) : lcLoop gd (fun d S2 q => wC G c (σ.set n (some d)) S2 fun b S3 => if b = true then wE G (fun _ _ _ => False) e (σ.set n (some d)) S3 fun y S4 => q (some y) S4 else q none S3) its [] S k := by
  have h := lc_rule (G := G) (t := .nm n) (c := c) (e := e) (gd := gd) (σ := σ) (k := k) F hlen hg (fun d hd q hq => ⟨_, by unfold asgT; rfl, hs d hd q hq⟩) hk
  refine lcLoop_mono (fun d S q q' hq z => ?_) (fun _ _ z => z) _ _ _ h
  obtain ⟨σ', h1, z⟩ := z
  unfold asgT at h1
  cases h1
  refine wC_mono (fun b S3 z => ?_) c _ S z
  cases b with
  | true => exact wE_mono (fun y S4 z => hq _ _ z) e _ S3 z
  | false => exact hq _ _ z
/-- any comprehension whose elements are values of a function, the store as it was -/
theorem lc_any {gd : Sto → Prop} {f : D → Sto → (Option D → Sto → Prop) → Prop} {its : List D} {S : Sto} {k : List D → Sto → Prop} (F : D → Option D) (hlen : its.length ≤ sizeLine) (hg : gd S) (hs : ∀ d ∈ its, ∀ q : Option D → Sto → Prop, q (F d) S → f d S q)
    (hk : k (its.filterMap F) S) : lcLoop gd f its [] S k := by
  have gen : ∀ (l acc : List D), (∀ d ∈ l, d ∈ its) → acc.length + l.length ≤ sizeLine → (acc ++ l.filterMap F = its.filterMap F) → lcLoop gd f l acc S k := by
    intro l
    induction l with
    | nil =>
      intro acc _ _ he
      rw [List.filterMap_nil, List.append_nil] at he
      exact ⟨hg, by rw [he]; exact hk⟩
    | cons d l ih =>
      intro acc hm hl he
      rw [List.length_cons] at hl
      refine ⟨hg, hs d (hm d List.mem_cons_self) _ ?_⟩
      cases hF : F d with
      | none =>
        rw [List.filterMap_cons, hF] at he
        exact ih acc (fun z hz => hm z (List.mem_cons_of_mem _ hz)) (by omega) he
      | some y =>
        rw [List.filterMap_cons, hF] at he
        refine ⟨by omega, ih (acc ++ [y]) (fun z hz => hm z (List.mem_cons_of_mem _ hz)) (by rw [List.length_append]; simp; omega) ?_⟩
        rw [List.append_assoc]
        exact he
  exact gen its [] (fun d h => h) (by simpa using hlen) (by simp)
theorem callW_of {sp : DSp} {ds : List D} {S : Sto} {k : D → Sto → Prop} {x : Exc → Sto → Prop} (h : sp ds S k x) : callW sp ds S k x := ⟨k, x, fun _ _ q => q, fun _ _ q => q, h⟩
end Mn
namespace Mn
open PySem L2
/-! ### operations at known data -/
section
variable {S : Sto} {i j : Int} {x y : Str} {b c : Bool} {ds es : List D} {d e : D} {a : Addr} {m : Bool} {k : D → Sto → Prop} {G : Gc} {w : XW} {σ : Env}
theorem x_add : binR .Add (.int i) (.int j) S = some (.val (.int (i + j))) := rfl
theorem x_sub : binR .Sub (.int i) (.int j) S = some (.val (.int (i - j))) := rfl
theorem x_addS : binR .Add (.str x) (.str y) S = if x.length + y.length ≤ sizeLine then some (.val (.str (x ++ y))) else none := rfl
theorem x_addT : binR .Add (.tup ds) (.tup es) S = if ds.length + es.length ≤ sizeLine then some (.val (.tup (ds ++ es))) else none := rfl
theorem x_addL : binR .Add (.lst ds) (.lst es) S = if ds.length + es.length ≤ sizeLine then some (.newL (ds ++ es)) else none := rfl
theorem x_mul : binR .Mult (.int i) (.int j) S = if ((-(2 ^ 64) < i ∧ i < 2 ^ 64) ∨ (-(2 ^ 64) < j ∧ j < 2 ^ 64)) then some (.val (.int (i * j))) else none := rfl
theorem x_mulS : binR .Mult (.str x) (.int i) S = if (1 ≤ i ∧ i ≤ 1000 ∧ x.length ≤ 1000) then some (.val (.str (repS x i.toNat))) else none := rfl
theorem x_mulL : binR .Mult (.lst ds) (.int i) S = if (0 ≤ i ∧ i ≤ 1000 ∧ ds.length ≤ 1000) then some (.newL (List.replicate i.toNat ds).flatten) else none := rfl
theorem x_div : binR .FloorDiv (.int i) (.int j) S = if (0 < j ∧ j < 1073741824) then some (.val (.int (i / j))) else none := rfl
theorem x_mod : binR .Mod (.int i) (.int j) S = if 0 < j then some (.val (.int (i % j))) else none := rfl
theorem x_pow : binR .Pow (.int i) (.int j) S = if (0 ≤ j ∧ j ≤ 1000000 ∧ i.natAbs < 2 ^ 64) then some (.val (.int (i ^ j.toNat))) else none := rfl
theorem x_lt : cmpR .Lt (.int i) (.int j) S = some (decide (i < j)) := rfl
theorem x_le : cmpR .LtE (.int i) (.int j) S = some (decide (i ≤ j)) := rfl
theorem x_gt : cmpR .Gt (.int i) (.int j) S = some (decide (j < i)) := rfl
theorem x_ge : cmpR .GtE (.int i) (.int j) S = some (decide (j ≤ i)) := rfl
theorem x_eqD : cmpR .Eq d e S = eqR d e S := by cases d <;> cases e <;> rfl
theorem x_neD : cmpR .NotEq d e S = (eqR d e S).map (!·) := by cases d <;> cases e <;> rfl
theorem x_in : cmpR .In d e S = inR d e S := by cases d <;> cases e <;> rfl
theorem x_notIn : cmpR .NotIn d e S = (inR d e S).map (!·) := by cases d <;> cases e <;> rfl
theorem x_is : cmpR .Is d e S = isR d e := by cases d <;> cases e <;> rfl
theorem x_isNot : cmpR .IsNot d e S = (isR d e).map (!·) := by cases d <;> cases e <;> rfl
theorem g?_pos {α : Type} {c : Prop} [Decidable c] {r : α} (h : c) : g? c r = some r := by unfold g?; rw [if_pos h]
theorem x_eqI : eqR (.int i) (.int j) S = some (decide (i = j)) := by
  unfold eqR
  rw [g?_pos ⟨rfl, rfl, Nat.zero_le _⟩]
  rfl
theorem x_eqS : eqR (.str x) (.str y) S = some (decide (x = y)) := by
  unfold eqR
  rw [g?_pos ⟨rfl, rfl, Nat.zero_le _⟩]
  rfl
theorem x_eqB : eqR (.bl b) (.bl c) S = some (b == c) := by
  unfold eqR
  rw [g?_pos ⟨rfl, rfl, Nat.zero_le _⟩]
  rfl
theorem x_isN : isR d .non = some (match d with | .non => true | _ => false) ∨ isR d .non = none := by cases d <;> first | exact .inl rfl | exact .inr rfl
theorem x_isNN : isR .non .non = some true := rfl
theorem x_isBN : isR (.bl b) .non = some false := rfl
theorem x_isIN : isR (.int i) .non = some false := rfl
theorem x_isSN : isR (.str x) .non = some false := rfl
theorem x_isTN : isR (.tup ds) .non = some false := rfl
theorem x_isLN : isR (.lst ds) .non = some false := rfl
theorem x_isRN : isR (.ref a) .non = some false := rfl
theorem x_isBB : isR (.bl b) (.bl c) = some (decide (b = c)) := rfl
theorem x_lenS : bltR .len [.str x] S = if x.length ≤ sizeLine then some (.val (.int x.length)) else none := rfl
theorem x_lenT : bltR .len [.tup ds] S = some (.val (.int ds.length)) := rfl
theorem x_lenL : bltR .len [.lst ds] S = some (.val (.int ds.length)) := rfl
theorem x_lenR (h : S a = some (.lst ds)) : bltR .len [.ref a] S = some (.val (.int ds.length)) := by
  show (lstAt S a).map _ = _
  rw [lstAt_of h]; rfl
theorem x_abs : bltR .abs [.int i] S = some (.val (.int (if i < 0 then -i else i))) := rfl
theorem x_intI : bltR .int [.int i] S = some (.val (.int i)) := rfl
theorem x_intB : bltR .int [.bl b] S = some (.val (.int (if b = true then 1 else 0))) := rfl
theorem x_max : bltR .max [.int i, .int j] S = some (.val (.int (if j > i then j else i))) := rfl
theorem x_allL : bltR .all [.lst ds] S = (allB S ds).map fun b => .val (.bl b) := rfl
theorem x_sumR (h : S a = some (.lst ds)) : bltR .sum [.ref a] S = (sumI ds).map fun i => .val (.int i) := by
  show (match lstAt S a with | some ds => _ | none => none) = _
  rw [lstAt_of h]
theorem x_sumL : bltR .sum [.lst ds] S = (sumI ds).map fun i => .val (.int i) := rfl
theorem x_listL : bltR .list [.lst ds] S = some (.newL ds) := rfl
theorem x_listT : bltR .list [.tup ds] S = some (.newL ds) := rfl
theorem x_isi : bltR .isinstance [d, e] S = (isiR S d e).map fun b => .val (.bl b) := rfl
theorem x_app (h : S a = some (.lst ds)) : bmR .append (.ref a) [d] S = if ds.length < sizeLine then some (.upd .non (put S a (.lst (ds ++ [d])))) else none := by
  show (match lstAt S a with | some ds => _ | none => none) = _
  rw [lstAt_of h]; rfl
theorem x_appT (h : S a = some (.lst ds)) : bmT .append (.ref a) S = true := by
  show (lstAt S a).isSome = true
  rw [lstAt_of h]; rfl
theorem x_truB : tru S (.bl b) = some b := rfl
theorem x_truI : tru S (.int i) = some (i != 0) := rfl
theorem x_truL : tru S (.lst ds) = some (!ds.isEmpty) := rfl
theorem x_truT : tru S (.tup ds) = some (!ds.isEmpty) := rfl
theorem x_truN : tru S .non = some false := rfl
theorem x_idxS : idxR (.str x) (.int i) S = if x.length ≤ sizeLine then (atI x.cps.toList i).map (fun c => .str ⟨#[c]⟩) else none := rfl
theorem x_idxL : idxR (.lst ds) (.int i) S = atI ds i := rfl
theorem x_idxT : idxR (.tup ds) (.int i) S = atI ds i := rfl
theorem x_idxR (h : S a = some (.lst ds)) : idxR (.ref a) (.int i) S = atI ds i := by
  show (match lstAt S a with | some ds => _ | none => none) = _
  rw [lstAt_of h]
theorem x_slS (lo hi : Option Int) : slcR (.str x) lo hi S = if x.length ≤ sizeLine then some (.val (.str (cutS x lo hi))) else none := rfl
theorem x_slT (lo hi : Option Int) : slcR (.tup ds) lo hi S = some (.val (.tup (cutD ds lo hi))) := rfl
theorem x_slL (lo hi : Option Int) : slcR (.lst ds) lo hi S = some (.newL (cutD ds lo hi)) := rfl
theorem x_it0L : itS 0 [.lst ds] S = some (ds, fun _ => True) := rfl
theorem x_it0T : itS 0 [.tup ds] S = some (ds, fun _ => True) := rfl
theorem x_it0S : itS 0 [.str x] S = some (x.cps.toList.map fun c => .str ⟨#[c]⟩, fun _ => True) := rfl
theorem x_it0C {ns : List Int} : itS 0 [.scr ns] S = some (ns.map .int, fun _ => True) := rfl
theorem x_it1 : itS 1 [.int j] S = if (-(2 ^ 62) ≤ j ∧ j < 2 ^ 62) then some ((List.range j.toNat).map fun (k : Nat) => .int (k : Int), fun _ => True) else none := by
  show (if _ then _ else none : Option _).map _ = _
  split <;> rfl
theorem x_it2L : itS 2 [.lst ds] S = some (enmL 0 ds, fun _ => True) := rfl
theorem x_val : fin m (.val d) S k = k d S := rfl
theorem x_upd {S' : Sto} : fin m (.upd d S') S k = k d S' := rfl
theorem x_newF : fin false (.newL ds) S k = k (.lst ds) S := rfl
theorem x_newT : fin true (.newL ds) S k = ∀ p, S p = none → k (.ref p) (put S p (.lst ds)) := by
  unfold fin
  exact if_pos rfl
theorem x_nm {n : Nat} : asgT (.nm n) d σ = some (σ.set n (some d)) := by unfold asgT; rfl
theorem x_tp {ts : List MT} : asgT (.tp ts) (.tup ds) σ = asgTs ts ds σ := by rw [asgT]
theorem x_tps {t : MT} {ts : List MT} : asgTs (t :: ts) (d :: ds) σ = (asgT t d σ).bind fun σ' => asgTs ts ds σ' := by
  rw [asgTs]
  cases asgT t d σ <;> rfl
theorem x_tp0 : asgTs [] [] σ = some σ := by rw [asgTs]
theorem x_ite {c : Prop} [Decidable c] {r : R} {P : R → Prop} : (∃ r', (if c then some r else none) = some r' ∧ P r') ↔ (c ∧ P r) := by
  constructor
  · rintro ⟨r', h, p⟩
    split at h
    · cases h; exact ⟨‹_›, p⟩
    · cases h
  · rintro ⟨h, p⟩
    exact ⟨r, by rw [if_pos h], p⟩
theorem x_iteD {c : Prop} [Decidable c] {α : Type} {r : Option α} {P : α → Prop} : (∃ r', (if c then r else none) = some r' ∧ P r') ↔ (c ∧ ∃ r', r = some r' ∧ P r') := by
  constructor
  · rintro ⟨r', h, p⟩
    split at h
    · exact ⟨‹_›, r', h, p⟩
    · cases h
  · rintro ⟨h, r', e, p⟩
    exact ⟨r', by rw [if_pos h]; exact e, p⟩
theorem x_some {α : Type} {r : α} {P : α → Prop} : (∃ r', some r = some r' ∧ P r') ↔ P r := ⟨fun ⟨_, h, p⟩ => by cases h; exact p, fun p => ⟨r, rfl, p⟩⟩
theorem x_some2 {α : Type} {r : α} {P : α → Prop} : (∃ r', some (some r) = some (some r') ∧ P r') ↔ P r := ⟨fun ⟨_, h, p⟩ => by cases h; exact p, fun p => ⟨r, rfl, p⟩⟩
theorem x_map {α β : Type} {f : α → β} {o : Option α} {P : β → Prop} : (∃ r', o.map f = some r' ∧ P r') ↔ (∃ a, o = some a ∧ P (f a)) := by
  constructor
  · rintro ⟨r', h, p⟩
    obtain ⟨a, h1, rfl⟩ := Option.map_eq_some_iff.mp h
    exact ⟨a, h1, p⟩
  · rintro ⟨a, h, p⟩
    exact ⟨f a, by rw [h]; rfl, p⟩
theorem x_call {f : Str} {as : List ME} {n : Nat} {sp : DSp} (h : G.fn f = some (n, sp)) (hn : as.length = n) (q : wEs G w as σ S fun ds S1 => sp ds S1 k fun e S2 => w e σ S2) : wE G w (.call f as) σ S k := by
  unfold wE
  exact ⟨sp, by rw [h, hn], wEs_mono (fun ds S1 q => callW_of q) as σ S q⟩
theorem x_nil {K : KS} : wSs G w [] σ S K = K.nx σ S := by rw [wSs]
theorem x_cons {s : MS} {r : List MS} {K : KS} : wSs G w (s :: r) σ S K = wS G w s σ S { nx := fun σ' S' => wSs G w r σ' S' K, rt := K.rt, bk := K.bk, ct := K.ct } := by rw [wSs]
theorem x_asg {t : MT} {e : ME} {K : KS} : wS G w (.asg t e) σ S K = wE G w e σ S fun d S1 => ∃ σ', asgT t d σ = some σ' ∧ K.nx σ' S1 := by rw [wS]
theorem x_exp {e : ME} {K : KS} : wS G w (.exp e) σ S K = wE G w e σ S fun _ S1 => K.nx σ S1 := by rw [wS]
theorem x_ret {e : ME} {K : KS} : wS G w (.ret e) σ S K = wE G w e σ S K.rt := by rw [wS]
theorem x_eqInt {P : Int → Prop} : (∃ r, D.int i = D.int r ∧ P r) ↔ P i := ⟨fun ⟨_, h, p⟩ => by cases h; exact p, fun p => ⟨i, rfl, p⟩⟩
end
end Mn
namespace Mn
open PySem L2
/-! ### defs that change nothing -/
def spPure (f : List D → Option D) : DSp := fun ds S Q _ => ∃ d, f ds = some d ∧ Q d S
theorem x_pure {f : List D → Option D} {ds : List D} {S : Sto} {k : D → Sto → Prop} {x : Exc → Sto → Prop} : callW (spPure f) ds S k x ↔ ∃ d, f ds = some d ∧ k d S := by
  constructor
  · rintro ⟨Q, X, h1, h2, d, h3, h4⟩
    exact ⟨d, h3, h1 _ _ h4⟩
  · rintro ⟨d, h3, h4⟩
    exact ⟨k, x, fun _ _ q => q, fun _ _ q => q, d, h3, h4⟩
/-- a new list comes back, to be changed -/
def spNew (f : List D → Option (List D)) : DSp := fun ds S Q _ => ∃ l, f ds = some l ∧ ∀ p, S p = none → Q (.ref p) (put S p (.lst l))
theorem x_new {f : List D → Option (List D)} {ds : List D} {S : Sto} {k : D → Sto → Prop} {x : Exc → Sto → Prop} : callW (spNew f) ds S k x ↔ ∃ l, f ds = some l ∧ ∀ p, S p = none → k (.ref p) (put S p (.lst l)) := by
  constructor
  · rintro ⟨Q, X, h1, h2, d, h3, h4⟩
    exact ⟨d, h3, fun p hp => h1 _ _ (h4 p hp)⟩
  · rintro ⟨d, h3, h4⟩
    exact ⟨k, x, fun _ _ q => q, fun _ _ q => q, d, h3, h4⟩
theorem x_fn {n m : Nat} {sp0 : DSp} {P : DSp → Prop} : (∃ sp, some (n, sp0) = some (m, sp) ∧ P sp) ↔ (n = m ∧ P sp0) := by
  constructor
  · rintro ⟨sp, h, p⟩; cases h; exact ⟨rfl, p⟩
  · rintro ⟨rfl, p⟩; exact ⟨sp0, rfl, p⟩
theorem x_ifD {c : Prop} [Decidable c] {P : D → Prop} {d : D} : (∃ r', (if c then some d else none) = some r' ∧ P r') ↔ (c ∧ P d) := by
  constructor
  · rintro ⟨r', h, p⟩
    split at h
    · cases h; exact ⟨‹_›, p⟩
    · cases h
  · rintro ⟨h, p⟩
    exact ⟨d, by rw [if_pos h], p⟩
/-- the feed of a law: at least 270 numbers below 55440 -/
structure Feed (fs : List Int) : Prop where
  lo : 270 ≤ fs.length
  hi : fs.length ≤ 400
  nn : ∀ v ∈ fs, 0 ≤ v ∧ v < 55440
def fdD (fs : List Int) : D := .lst (fs.map .int)
def spFeed : DSp := fun ds S Q _ => ∃ ns, ds = [.scr ns] ∧ ∀ fs, Feed fs → Q (fdD fs) S
end Mn
namespace Mn
open PySem L2
section
variable {S : Sto} {i : Int} {ds es : List D} {d e : D} {a : Addr} {o : MO}
theorem x_lenP : bltR .len [.ref a] (put S a (.lst ds)) = some (.val (.int ds.length)) := x_lenR put_same
theorem x_sumP : bltR .sum [.ref a] (put S a (.lst ds)) = (sumI ds).map fun i => .val (.int i) := x_sumR put_same
theorem x_appP : bmR .append (.ref a) [d] (put S a (.lst ds)) = if ds.length < sizeLine then some (.upd .non (put S a (.lst (ds ++ [d])))) else none := by
  rw [x_app put_same, put_put]
theorem x_appTP : bmT .append (.ref a) (put S a (.lst ds)) = true := x_appT put_same
theorem x_idxP : idxR (.ref a) (.int i) (put S a (.lst ds)) = atI ds i := x_idxR put_same
theorem x_frzP {P : Addr → List D → Prop} : (∃ p l, D.ref a = .ref p ∧ put S a (.lst ds) p = some (.lst l) ∧ P p l) ↔ P a ds := by
  constructor
  · rintro ⟨p, l, h1, h2, h3⟩
    cases h1
    rw [put_same] at h2
    cases h2
    exact h3
  · intro h
    exact ⟨a, ds, rfl, put_same, h⟩
end
/-! ### sums, items of lists of ints -/
theorem sumI_map : ∀ fs : List Int, sumI (fs.map .int) = some fs.sum
  | [] => rfl
  | f :: fs => by
    show (sumI (fs.map .int)).map (f + ·) = _
    rw [sumI_map fs, List.sum_cons]
    rfl
theorem atI_map {α β : Type} {f : α → β} {l : List α} {i : Int} : atI (l.map f) i = (atI l i).map f := by
  unfold atI
  rw [List.length_map]
  cases ixN l.length i with
  | none => rfl
  | some j => simp
theorem atI_nn {α : Type} {l : List α} {i : Int} (h0 : 0 ≤ i) (h1 : i < l.length) : atI l i = l[i.toNat]? := by
  unfold atI ixN
  rw [if_pos h0, if_pos h1]
  rfl
end Mn
namespace Mn
open PySem L2
/-! ### isinstance at known data -/
section
variable {S : Sto} {i : Int} {x : Str} {b : Bool} {ds : List D}
theorem i_N_tuple : isiR S .non (.ty "tuple") = some false := by simp [isiR, tyN, g?, isT]
theorem i_N_list : isiR S .non (.ty "list") = some false := by simp [isiR, tyN, g?, isT]
theorem i_N_bool : isiR S .non (.ty "bool") = some false := by simp [isiR, tyN, g?, isT]
theorem i_N_int : isiR S .non (.ty "int") = some false := by simp [isiR, tyN, g?, isT]
theorem i_N_str : isiR S .non (.ty "str") = some false := by simp [isiR, tyN, g?, isT]
theorem i_N_tl : isiR S .non (.tup [.ty "tuple", .ty "list"]) = some false := by simp [isiR, tyN, g?, isT]
theorem i_B_tuple : isiR S (.bl b) (.ty "tuple") = some false := by simp [isiR, tyN, g?, isT]
theorem i_B_list : isiR S (.bl b) (.ty "list") = some false := by simp [isiR, tyN, g?, isT]
theorem i_B_bool : isiR S (.bl b) (.ty "bool") = some true := by simp [isiR, tyN, g?, isT]
theorem i_B_int : isiR S (.bl b) (.ty "int") = some true := by simp [isiR, tyN, g?, isT]
theorem i_B_str : isiR S (.bl b) (.ty "str") = some false := by simp [isiR, tyN, g?, isT]
theorem i_B_tl : isiR S (.bl b) (.tup [.ty "tuple", .ty "list"]) = some false := by simp [isiR, tyN, g?, isT]
theorem i_I_tuple : isiR S (.int i) (.ty "tuple") = some false := by simp [isiR, tyN, g?, isT]
theorem i_I_list : isiR S (.int i) (.ty "list") = some false := by simp [isiR, tyN, g?, isT]
theorem i_I_bool : isiR S (.int i) (.ty "bool") = some false := by simp [isiR, tyN, g?, isT]
theorem i_I_int : isiR S (.int i) (.ty "int") = some true := by simp [isiR, tyN, g?, isT]
theorem i_I_str : isiR S (.int i) (.ty "str") = some false := by simp [isiR, tyN, g?, isT]
theorem i_I_tl : isiR S (.int i) (.tup [.ty "tuple", .ty "list"]) = some false := by simp [isiR, tyN, g?, isT]
theorem i_S_tuple : isiR S (.str x) (.ty "tuple") = some false := by simp [isiR, tyN, g?, isT]
theorem i_S_list : isiR S (.str x) (.ty "list") = some false := by simp [isiR, tyN, g?, isT]
theorem i_S_bool : isiR S (.str x) (.ty "bool") = some false := by simp [isiR, tyN, g?, isT]
theorem i_S_int : isiR S (.str x) (.ty "int") = some false := by simp [isiR, tyN, g?, isT]
theorem i_S_str : isiR S (.str x) (.ty "str") = some true := by simp [isiR, tyN, g?, isT]
theorem i_S_tl : isiR S (.str x) (.tup [.ty "tuple", .ty "list"]) = some false := by simp [isiR, tyN, g?, isT]
theorem i_T_tuple : isiR S (.tup ds) (.ty "tuple") = some true := by simp [isiR, tyN, g?, isT]
theorem i_T_list : isiR S (.tup ds) (.ty "list") = some false := by simp [isiR, tyN, g?, isT]
theorem i_T_bool : isiR S (.tup ds) (.ty "bool") = some false := by simp [isiR, tyN, g?, isT]
theorem i_T_int : isiR S (.tup ds) (.ty "int") = some false := by simp [isiR, tyN, g?, isT]
theorem i_T_str : isiR S (.tup ds) (.ty "str") = some false := by simp [isiR, tyN, g?, isT]
theorem i_T_tl : isiR S (.tup ds) (.tup [.ty "tuple", .ty "list"]) = some true := by simp [isiR, tyN, g?, isT]
theorem i_L_tuple : isiR S (.lst ds) (.ty "tuple") = some false := by simp [isiR, tyN, g?, isT]
theorem i_L_list : isiR S (.lst ds) (.ty "list") = some true := by simp [isiR, tyN, g?, isT]
theorem i_L_bool : isiR S (.lst ds) (.ty "bool") = some false := by simp [isiR, tyN, g?, isT]
theorem i_L_int : isiR S (.lst ds) (.ty "int") = some false := by simp [isiR, tyN, g?, isT]
theorem i_L_str : isiR S (.lst ds) (.ty "str") = some false := by simp [isiR, tyN, g?, isT]
theorem i_L_tl : isiR S (.lst ds) (.tup [.ty "tuple", .ty "list"]) = some true := by simp [isiR, tyN, g?, isT]
end
end Mn

namespace Mn
open PySem L2
/-! ### a module: its defs, one behind another -/
structure Ent where
  d : He.DefD
  ps : List Str
  N : List Str
  ms : List MS
  sp : DSp
def fnB (N ps : List Str) (sc : Scope) : Bool := decide (sc.kind = .function) && (decide (sc.isCoroutine = false) && (decide (sc.isGenerator = false) && (decide N.Nodup && (decide (N.take ps.length = ps) && (ps.all (fun x => decide (sc.names.lookup x = some .local ∨ sc.names.lookup x = some .cell)) && sc.names.all fun y => decide (y.2 ≠ .free))))))
theorem fnB_ok {N ps : List Str} {sc : Scope} (h : fnB N ps sc = true) : FnScope N ps sc := by
  unfold fnB at h
  obtain ⟨h1, h⟩ := He.ba h
  obtain ⟨h2, h⟩ := He.ba h
  obtain ⟨h3, h⟩ := He.ba h
  obtain ⟨h4, h⟩ := He.ba h
  obtain ⟨h5, h⟩ := He.ba h
  obtain ⟨h6, h7⟩ := He.ba h
  exact ⟨of_decide_eq_true h1, of_decide_eq_true h2, of_decide_eq_true h3, of_decide_eq_true h4, of_decide_eq_true h5, fun x hx => of_decide_eq_true (List.all_eq_true.mp h6 x hx), fun x hx => of_decide_eq_true (List.all_eq_true.mp h7 x hx)⟩
/-- the def's text is the reading's -/
def Ent.chk (e : Ent) : Bool := fnB e.N e.ps e.d.scope && (matchSs e.N e.d.scope e.ms e.d.body && (decide (e.d.at_ = (e.d.name, none)) && (e.d.dfl.isEmpty && e.d.kwd.isEmpty)))
def Ent.binds (e : Ent) : Prop := ∀ (kV doc pm : Value) (an : Option Addr) (cdv ct : Value) (us : List Value), us.length = e.ps.length → bindArgs (PySem.W.fnOf e.d.name e.d.qual e.d.params e.d.body e.d.scope .none kV doc pm an cdv ct) ⟨us, []⟩ = pure (e.ps.zip us)
def gOf (con : Str → Option D) : List Ent → Gc
  | [] => ⟨fun _ => none, con⟩
  | e :: r => ⟨fun f => if f = e.d.name then some (e.ps.length, e.sp) else (gOf con r).fn f, con⟩
theorem gOf_con {con : Str → Option D} : ∀ es, (gOf con es).con = con
  | [] => rfl
  | _ :: _ => rfl
/-- each def's body keeps its word over those behind it -/
inductive Mods (con : Str → Option D) (fa : List He.Fa) (fn : List He.DefD) : List Ent → Prop
  | nil : Mods con fa fn []
  | cons {e : Ent} {r : List Ent} (h : Mods con fa fn r) (i : Nat) (hd : fn[i]? = some e.d) (hg : He.Fa.glo e.d.name ∈ fa) (hc : e.chk = true) (hb : e.binds) (ho : BodyOk (gOf con r) e.N e.ps.length e.ms e.sp) : Mods con fa fn (e :: r)
def frees : List Str := ["len", "abs", "int", "max", "sum", "all", "list", "isinstance", "tuple", "bool", "str", "range", "enumerate"]
theorem says_mem {fa : List He.Fa} {fn : List He.DefD} {K : PySem.W.Frag} (c : He.SaysD fa fn K) {f : He.Fa} (h : f ∈ fa) : f.ok K = true := by
  obtain ⟨i, hi⟩ := List.mem_iff_getElem?.mp h
  exact c.fact i hi
/-- the constants of the module -/
def conOk (K : PySem.W.Frag) (mg : Str → Option Value) (con : Str → Option D) : Prop := ∀ n d, con n = some d → ∃ v u, mg n = some u ∧ RelV v u ∧ ∀ Z H S, RelD ⟨K, He.ga K, Z⟩ H S d v
/-- constants that are ints and texts -/
def conL (l : List (Str × D)) (n : Str) : Option D := l.lookup n
def conB (fa : List He.Fa) : Str × D → Prop
  | (x, .int i) => He.Fa.int x i ∈ fa
  | (x, .str z) => He.Fa.str x z ∈ fa ∧ PySem.PyData.strOk z = true
  | _ => False
theorem conL_ok {K : PySem.W.Frag} {h : Heap} {mg : Str → Option Value} {fa : List He.Fa} {fn : List He.DefD} {l : List (Str × D)} (hl : ∀ q ∈ l, conB fa q) (X : K.In h) (Gm : h.Ns mainGlobals mg) (c : He.SaysD fa fn K) : conOk K mg (conL l) := by
  intro n d e
  have hm : (n, d) ∈ l := by
    unfold conL at e
    induction l with
    | nil => cases e
    | cons q r ih =>
      obtain ⟨x, z⟩ := q
      rw [List.lookup_cons] at e
      cases q : (n == x) with
      | true =>
        rw [q] at e
        cases e
        rw [beq_iff_eq.mp q]
        exact List.mem_cons_self
      | false =>
        rw [q] at e
        exact List.mem_cons_of_mem _ (ih (fun q hq => hl q (List.mem_cons_of_mem _ hq)) e)
  have hb := hl _ hm
  cases d with
  | int i =>
    obtain ⟨t, ht⟩ := He.int_ok X Gm (says_mem c (show He.Fa.int n i ∈ fa from hb))
    exact ⟨.int i, _, ht, ⟨t, rfl⟩, fun _ _ _ => by unfold RelD; rfl⟩
  | str z =>
    obtain ⟨t, ht⟩ := He.str_ok X Gm (says_mem c (show He.Fa.str n z ∈ fa from hb.1))
    exact ⟨.str z, _, ht, ⟨t, rfl⟩, fun _ _ _ => by unfold RelD; exact ⟨rfl, hb.2⟩⟩
  | _ => exact hb.elim
theorem md_of {P : Program} {w : World} {K : PySem.W.Frag} {mg : Str → Option Value} {base h : Heap} {fa : List He.Fa} {fn : List He.DefD} {con : Str → Option D} (X : K.In h) (Gm : h.Ns mainGlobals mg) (c : He.SaysD fa fn K) (hfr : ∃ r, fa = frees.map He.Fa.free ++ r) (hcon : conOk K mg con) :
    ∀ es : List Ent, Mods con fa fn es → Md P w K mg base (He.ga K) (gOf con es) es.length := by
  have hfr : ∀ x ∈ frees, He.Fa.free x ∈ fa := fun x hx => by
    obtain ⟨r, rfl⟩ := hfr
    exact List.mem_append_left _ (List.mem_map.mpr ⟨x, hx, rfl⟩)
  have fr : ∀ x ∈ frees, mg x = none := fun x hx => He.free_ok X Gm (says_mem c (hfr x hx))
  have base0 : ∀ (es : List Ent) (k : Nat), (∀ f n sp, (gOf con es).fn f = some (n, sp) → ∃ (fa : Addr) (fd : FuncData) (j : Nat) (ps : List Str), ps.length = n ∧ mg f = some (.ref fa) ∧ FnOk P w K mg base (L2.CX P w) j fa fd ps (lift K (He.ga K) n sp) ∧ j ≤ k ∧ PySem.W.keepIn K (.ref fa) = true ∧ Binds K fd ps []) → Md P w K mg base (He.ga K) (gOf con es) k := fun es k hf => {
    fns := hf
    con := by rw [gOf_con]; exact hcon
    blt := fun f => fr _ (by cases f <;> decide +kernel)
    tys := fun n hn => by
      unfold tyB at hn
      simp only [Bool.or_eq_true, beq_iff_eq] at hn
      rcases hn with (((rfl | rfl) | rfl) | rfl) | rfl <;> exact fr _ (by decide +kernel)
    rng := fr _ (by decide +kernel)
    enm := fr _ (by decide +kernel) }
  intro es
  induction es with
  | nil => exact fun _ => base0 [] 0 fun f n sp q => by cases q
  | cons e r ih =>
    intro hm
    cases hm with
    | cons hr i hd hg hc hb ho =>
      have M := ih hr
      refine base0 (e :: r) _ fun f n sp q => ?_
      have q : (if f = e.d.name then some (e.ps.length, e.sp) else (gOf con r).fn f) = some (n, sp) := q
      split at q
      · rename_i hf
        cases q
        obtain ⟨fd, F⟩ := c.def_ i hd
        unfold Ent.chk at hc
        obtain ⟨h1, hc⟩ := He.ba hc
        obtain ⟨h2, hc⟩ := He.ba hc
        obtain ⟨h3, hc⟩ := He.ba hc
        obtain ⟨h4, h5⟩ := He.ba hc
        have h3 := of_decide_eq_true h3
        have h4 := List.isEmpty_iff.mp h4
        have h5 := List.isEmpty_iff.mp h5
        have ea : He.fAd K e.d.at_ = He.ga K e.d.name := by rw [h3]; rfl
        have F : FunD K e.d.name e.d.qual e.d.params e.d.body e.d.scope [] [] (He.ga K e.d.name) fd := by
          have := F
          unfold He.DefD.dvs He.DefD.kws at this
          rw [h4, h5, ea] at this
          exact this
        refine ⟨_, fd, _, e.ps, rfl, ?_, fn_ok F (fnB_ok h1) M h2 ho, Nat.le_refl _, F.kp, F.bindsN hb⟩
        rw [hf]
        exact He.glo_ok X Gm (says_mem c hg)
      · obtain ⟨a, fd, j, ps, k1, k2, k3, k4, k5⟩ := M.fns f n sp q
        exact ⟨a, fd, j, ps, k1, k2, k3, Nat.le_succ_of_le k4, k5⟩
/-- the law's def stands first -/
theorem law_of {P : Program} {fa : List He.Fa} {fn : List He.DefD} {con : Str → Option D} {e : Ent} {r : List Ent} {x : Str} (hfr : ∃ r, fa = frees.map He.Fa.free ++ r) (hcon : ∀ (K : PySem.W.Frag) (h : Heap) (mg : Str → Option Value), K.In h → h.Ns mainGlobals mg → He.SaysD fa fn K → conOk K mg con) (hm : Mods con fa fn (e :: r)) (hn : e.d.name = "law") (hp : e.ps = [x])
    (w : World) (mg : Str → Option Value) (f : Addr) (h : Heap) (K : PySem.W.Frag) (X : K.In h) (Gm : h.Ns mainGlobals mg) (hmg : mg "law" = some (.ref f)) (c : He.SaysD fa fn K) :
    ∃ (fd : FuncData) (ga : Str → Addr), (∀ (s : Shared) (u : Value), BindsTo s fd ⟨[u], []⟩ [(x, u)]) ∧ ∀ base : Heap, K.In base → base.Ns mainGlobals mg → FnOk P w K mg base (L2.CX P w) (r.length + 1) f fd [x] (lift K ga 1 e.sp) := by
  cases hm with
  | cons hr i hd hg hc hb ho =>
    obtain ⟨fd, F⟩ := c.def_ i hd
    unfold Ent.chk at hc
    obtain ⟨h1, hc⟩ := He.ba hc
    obtain ⟨h2, hc⟩ := He.ba hc
    obtain ⟨h3, hc⟩ := He.ba hc
    obtain ⟨h4, h5⟩ := He.ba hc
    have h3 := of_decide_eq_true h3
    have h4 := List.isEmpty_iff.mp h4
    have h5 := List.isEmpty_iff.mp h5
    have ea : He.fAd K e.d.at_ = He.ga K e.d.name := by rw [h3]; rfl
    have F : FunD K e.d.name e.d.qual e.d.params e.d.body e.d.scope [] [] (He.ga K e.d.name) fd := by
      have := F
      unfold He.DefD.dvs He.DefD.kws at this
      rw [h4, h5, ea] at this
      exact this
    have eg := He.glo_ok X Gm (says_mem c hg)
    rw [hn] at eg
    have ef : f = He.ga K "law" := by
      have z := hmg.symm.trans eg
      cases z
      rfl
    refine ⟨fd, He.ga K, fun s u => ?_, fun base hK hN => ?_⟩
    · have b := F.bindsA hb s [u] (by rw [hp]; rfl)
      rw [hp] at b
      exact b
    · have M : Md P w K mg base (He.ga K) (gOf con r) r.length := md_of X Gm c hfr (hcon K h mg X Gm c) r hr
      have ok := fn_ok F (fnB_ok h1) M h2 ho
      rw [hp] at ok
      rw [ef, ← hn]
      exact ok
end Mn

namespace Mn
open PySem L2
local macro_rules | `(tactic| walk_at "x") => `(tactic| try simp only [wSs, wS, wE, wEs, wC, x_add, x_sub, x_addS, x_addT, x_addL, x_mul, x_mulS, x_mulL, x_div, x_mod, x_pow, x_lt, x_le, x_gt, x_ge, x_eqD, x_neD, x_in, x_notIn, x_is, x_isNot, x_eqI, x_eqS, x_eqB, x_isNN, x_isBN, x_isIN, x_isSN, x_isTN, x_isLN, x_isRN, x_isBB, x_lenS, x_lenT, x_lenL, x_lenP, x_sumP, x_appP, x_appTP, x_idxP, x_frzP, x_abs, x_intI, x_intB, x_max, x_allL, x_sumL, x_listL, x_listT, x_isi, x_truB, x_truI, x_truL, x_truT, x_truN, x_idxS, x_idxL, x_idxT, x_slS, x_slT, x_slL, x_it0L, x_it0T, x_it0S, x_it0C, x_it1, x_it2L, x_val, x_upd, x_newF, x_newT, x_nm, x_tp, x_tps, x_tp0, x_ite, x_iteD, x_ifD, x_some, x_some2, x_map, x_eqInt, x_pure, x_new, x_fn, List.getElem?_cons_zero, List.getElem?_cons_succ, List.set_cons_zero, List.set_cons_succ, Option.bind_some, List.length_cons, List.length_nil, Nat.reduceAdd, true_and, and_true, decide_eq_true_eq, Bool.not_eq_true', decide_eq_false_iff_not, Bool.not_false, Bool.not_true, Bool.false_eq_true, Bool.true_eq_false, if_true, if_false, ite_true, ite_false])
def n__law_feed : List Str := ["_law_script", "_law_feed_here", "_law_cell", "_law_left", "_law_turn", "_law_seed"]
def b__law_feed_1 : List MS := [(.ite (.cmp .Gt (.var 3) (.cst (.int 0))) [(.exp (.bm .append false (.var 1) [(.bin .Mod false (.var 3) (.cst (.int 55440)))])), (.asg (.nm 3) (.bin .FloorDiv false (.var 3) (.cst (.int 55440))))] [])]
def b__law_feed_2 : List MS := [(.asg (.nm 5) (.bin .Mod false (.bin .Add false (.bin .Mult false (.var 5) (.cst (.int 48271))) (.cst (.int 7919))) (.cst (.int 2147483647)))), (.exp (.bm .append false (.var 1) [(.bin .Mod false (.bin .FloorDiv false (.var 5) (.cst (.int 13))) (.cst (.int 55440)))]))]
def b__law_feed_3 : List MS := [(.ite (.cmp .Lt (.blt .len false [(.var 1)]) (.cst (.int 270))) [(.asg (.nm 3) (.blt .abs false [(.var 2)])), (.ite (.cmp .GtE (.var 3) (.bin .Pow false (.cst (.int 10)) (.cst (.int 18)))) [(.for_ 1 (.nm 4) [(.cst (.int 60))] b__law_feed_1)] [(.asg (.nm 5) (.bin .Mod false (.bin .Add false (.bin .Mult false (.bin .Add false (.bin .Mult false (.cst (.int 2)) (.var 3)) (.blt .int false [(.cmp .Lt (.var 2) (.cst (.int 0)))])) (.cst (.int 69621))) (.cst (.int 11))) (.cst (.int 2147483629)))), (.for_ 1 (.nm 4) [(.cst (.int 6))] b__law_feed_2)])] [])]
def b__law_feed_4 : List MS := [(.ite (.cmp .Lt (.blt .len false [(.var 1)]) (.cst (.int 270))) [(.asg (.nm 5) (.bin .Mod false (.bin .Add false (.bin .Mult false (.var 5) (.cst (.int 48271))) (.cst (.int 12345))) (.cst (.int 2147483629)))), (.exp (.bm .append false (.var 1) [(.bin .Mod false (.bin .FloorDiv false (.var 5) (.cst (.int 13))) (.cst (.int 55440)))]))] [])]
def m__law_feed : List MS := [(.asg (.nm 1) (.lst true [])), (.for_ 0 (.nm 2) [(.var 0)] b__law_feed_3), (.asg (.nm 5) (.bin .Add false (.bin .Add false (.cst (.int 271)) (.blt .len false [(.var 1)])) (.blt .sum false [(.var 1)]))), (.for_ 1 (.nm 4) [(.cst (.int 270))] b__law_feed_4), (.ret (.frz (.var 1)))]
def n_is_name : List Str := ["word", "sign"]
def b_is_name_1 : List MS := [(.ite (.cmp .NotIn (.var 1) (.glo "LETTERS")) [(.ret (.cst (.bl false)))] [])]
def m_is_name : List MS := [(.ite (.not (.cmp2 .LtE .LtE (.cst (.int 1)) (.blt .len false [(.var 0)]) (.cst (.int 8)))) [(.ret (.cst (.bl false)))] []), (.for_ 0 (.nm 1) [(.var 0)] b_is_name_1), (.ret (.cst (.bl true)))]
def lettersS : Str := "abcdefghijklmnopqrstuvwxyz"
def isNm (x : Str) : Bool := decide (1 ≤ x.length) && (decide (x.length ≤ 8) && x.cps.toList.all fun c => decide (c ∈ lettersS.cps.toList))
def fIsName : List D → Option D
  | [.str x] => if x.length ≤ sizeLine then some (.bl (isNm x)) else none
  | _ => none
theorem inR_sign {c : Nat} {y : Str} {S : Sto} : inR (.str ⟨#[c]⟩) (.str y) S = some (decide (c ∈ y.cps.toList)) := rfl
theorem ok_is_name {G : Gc} (hL : G.con "LETTERS" = some (.str lettersS)) : BodyOk G n_is_name 1 m_is_name (spPure fIsName) := by
  rintro ds S Q X - ⟨d, hf, q⟩
  unfold fIsName at hf
  split at hf
  · rename_i x
    split at hf
    · rename_i hx
      cases hf
      show wSs G _ m_is_name [some (.str x), none] S _
      unfold m_is_name
      walk_at "x"
      refine ⟨hx, ?_⟩
      by_cases h1 : 1 ≤ x.length
      · by_cases h2 : x.length ≤ 8
        · rw [if_pos (by omega), if_neg (by omega)]
          refine for_ruleN (fun i σ S' => S' = S ∧ (∃ o, σ = [some (.str x), o]) ∧ ∀ j, j < i → ∀ c, x.cps.toList[j]? = some c → c ∈ lettersS.cps.toList) ⟨rfl, ⟨_, rfl⟩, fun j hj => absurd hj (Nat.not_lt_zero _)⟩ ?_ ?_
          · rintro i d σ S' hd ⟨rfl, ⟨o, rfl⟩, hall⟩
            rw [List.getElem?_map] at hd
            obtain ⟨c, hc, rfl⟩ := Option.map_eq_some_iff.mp hd
            refine ⟨trivial, ?_⟩
            unfold b_is_name_1
            walk_at "x"
            simp only [hL, x_some, inR_sign, x_map, Bool.not_eq_true', decide_eq_false_iff_not]
            split
            · rename_i hn
              have e : isNm x = false := by
                unfold isNm
                have : x.cps.toList.all (fun c => decide (c ∈ lettersS.cps.toList)) = false := by
                  rw [List.all_eq_false]
                  exact ⟨c, List.mem_of_getElem? hc, by rw [decide_eq_false hn]; exact Bool.false_ne_true⟩
                rw [this]; simp
              rw [e] at q
              exact q
            · rename_i hn
              refine ⟨⟨_, rfl⟩, fun j hj c' hc' => ?_⟩
              rcases Nat.lt_succ_iff_lt_or_eq.mp hj with h | rfl
              · exact hall j h c' hc'
              · rw [hc] at hc'; cases hc'; exact Decidable.of_not_not hn
          · rintro σ S' ⟨rfl, ⟨o, rfl⟩, hall⟩
            have e : isNm x = true := by
              unfold isNm
              rw [decide_eq_true h1, decide_eq_true h2]
              simp only [Bool.true_and, List.all_eq_true]
              intro c hc
              obtain ⟨j, hj⟩ := List.mem_iff_getElem?.mp hc
              have hl : j < x.cps.toList.length := (List.getElem?_eq_some_iff.mp hj).1
              exact decide_eq_true (hall j (by simpa using hl) c hj)
            rw [e] at q
            exact ⟨trivial, q⟩
        · have e : isNm x = false := by unfold isNm; rw [decide_eq_false h2]; simp
          rw [e] at q
          rw [if_pos (by omega), if_pos (by omega)]
          exact q
      · have e : isNm x = false := by unfold isNm; rw [decide_eq_false h1]; simp
        rw [e] at q
        rw [if_neg (by omega)]
        exact q
    · cases hf
  · cases hf
/-- what the feed is between two turns -/
structure FdI (fs : List Int) (n : Nat) : Prop where
  hi : fs.length ≤ n
  nn : ∀ v ∈ fs, 0 ≤ v ∧ v < 55440
theorem FdI.app {fs : List Int} {n : Nat} (h : FdI fs n) {v : Int} (h1 : 0 ≤ v) (h2 : v < 55440) : FdI (fs ++ [v]) (n + 1) := ⟨by rw [List.length_append]; exact Nat.add_le_add_right h.hi 1, fun w hw => by
  rcases List.mem_append.mp hw with q | q
  · exact h.nn w q
  · obtain rfl := List.mem_singleton.mp q; exact ⟨h1, h2⟩⟩
theorem FdI.mono {fs : List Int} {n m : Nat} (h : FdI fs n) (hm : n ≤ m) : FdI fs m := ⟨Nat.le_trans h.hi hm, h.nn⟩
theorem ok_feed {G : Gc} : BodyOk G n__law_feed 1 m__law_feed spFeed := by
  rintro ds S Q X - ⟨ns, rfl, q⟩
  show wSs G _ m__law_feed [some (.scr ns), none, none, none, none, none] S _
  unfold m__law_feed
  walk_at "x"
  refine ⟨Nat.zero_le _, fun p hp => ?_⟩
  refine for_ruleN (fun i σ S' => ∃ fs a b c d, S' = put S p (.lst (fs.map .int)) ∧ σ = [some (.scr ns), some (.ref p), a, b, c, d] ∧ FdI fs 330) ⟨[], _, _, _, _, rfl, rfl, Nat.zero_le _, fun v h => by simp at h⟩ ?_ ?_
  · rintro i d0 σ S' hd ⟨fs, a, b, c, d, rfl, rfl, hfs⟩
    refine ⟨trivial, ?_⟩
    rw [List.getElem?_map] at hd
    obtain ⟨z, -, rfl⟩ := Option.map_eq_some_iff.mp hd
    unfold b__law_feed_3
    walk_at "x"
    rw [List.length_map]
    split
    · rename_i hlt
      have hlt : fs.length < 270 := by omega
      obtain ⟨l0, hl0⟩ : ∃ l0 : Int, (if z < 0 then -z else z) = l0 := ⟨_, rfl⟩
      rw [hl0]
      obtain ⟨sg, hsg⟩ : ∃ sg : Int, (if z < 0 then (1 : Int) else 0) = sg := ⟨_, rfl⟩
      rw [hsg]
      refine ⟨by decide, ?_⟩
      split
      · refine ⟨by decide, ?_⟩
        refine for_ruleN (fun j σ S' => ∃ fs l t d, S' = put S p (.lst (fs.map .int)) ∧ σ = [some (.scr ns), some (.ref p), some (.int z), some (.int l), t, d] ∧ FdI fs (270 + j)) ⟨fs, _, _, _, rfl, rfl, by omega, hfs.nn⟩ ?_ ?_
        · rintro j d1 σ S' hd ⟨fs, l, t, d, rfl, rfl, hfs⟩
          have hj : j < 60 := by simpa using (List.getElem?_eq_some_iff.mp hd).1
          refine ⟨trivial, ?_⟩
          unfold b__law_feed_1
          walk_at "x"
          split
          · refine ⟨by decide, ?_, by decide, ?_⟩
            · have := hfs.hi; have : sizeLine = 16777216 := rfl; rw [List.length_map]; omega
            · exact ⟨fs ++ [l % 55440], _, _, _, by rw [List.map_append]; rfl, rfl, hfs.app (Int.emod_nonneg _ (by decide)) (Int.emod_lt_of_pos _ (by decide))⟩
          · exact ⟨fs, _, _, _, rfl, rfl, hfs.mono (by omega)⟩
        · rintro σ S' ⟨fs, l, t, d, rfl, rfl, hfs⟩
          refine ⟨trivial, fs, _, _, _, _, rfl, rfl, hfs.mono (by simp)⟩
      · refine ⟨.inl (by decide), .inr (by decide), by decide, by decide, ?_⟩
        refine for_ruleN (fun j σ S' => ∃ fs l t d, S' = put S p (.lst (fs.map .int)) ∧ σ = [some (.scr ns), some (.ref p), some (.int z), some (.int l), t, some (.int d)] ∧ FdI fs (270 + j)) ⟨fs, _, _, _, rfl, rfl, by omega, hfs.nn⟩ ?_ ?_
        · rintro j d1 σ S' hd ⟨fs, l, t, d, rfl, rfl, hfs⟩
          have hj : j < 6 := by simpa using (List.getElem?_eq_some_iff.mp hd).1
          refine ⟨trivial, ?_⟩
          unfold b__law_feed_2
          walk_at "x"
          refine ⟨.inr (by decide), by decide, by decide, by decide, ?_, ?_⟩
          · have := hfs.hi; have : sizeLine = 16777216 := rfl; rw [List.length_map]; omega
          · exact ⟨fs ++ [_], _, _, _, by rw [List.map_append]; rfl, rfl, hfs.app (Int.emod_nonneg _ (by decide)) (Int.emod_lt_of_pos _ (by decide))⟩
        · rintro σ S' ⟨fs, l, t, d, rfl, rfl, hfs⟩
          refine ⟨trivial, fs, _, _, _, _, rfl, rfl, hfs.mono (by simp)⟩
    · exact ⟨fs, _, _, _, _, rfl, rfl, hfs⟩
  · rintro σ S' ⟨fs, a, b, c, d, rfl, rfl, hfs⟩
    refine ⟨trivial, ?_⟩
    walk_at "x"
    simp only [sumI_map, x_some]
    refine ⟨by decide, ?_⟩
    refine for_ruleN (fun j σ S' => ∃ fs a b c d, S' = put S p (.lst (fs.map .int)) ∧ σ = [some (.scr ns), some (.ref p), a, b, c, some (.int d)] ∧ FdI fs 330 ∧ (j ≤ fs.length ∨ 270 ≤ fs.length)) ⟨fs, _, _, _, _, rfl, rfl, hfs, .inl (Nat.zero_le _)⟩ ?_ ?_
    · rintro j d1 σ S' hd ⟨fs, a, b, c, d, rfl, rfl, hfs, hj⟩
      refine ⟨trivial, ?_⟩
      unfold b__law_feed_4
      walk_at "x"
      rw [List.length_map]
      split
      · rename_i hlt
        refine ⟨.inr (by decide), by decide, by decide, by decide, ?_, ?_⟩
        · have := hfs.hi; have : sizeLine = 16777216 := rfl; omega
        · refine ⟨fs ++ [_], _, _, _, _, by rw [List.map_append]; rfl, rfl, ⟨?_, (hfs.app (Int.emod_nonneg _ (by decide)) (Int.emod_lt_of_pos _ (by decide))).nn⟩, .inl ?_⟩
          · rw [List.length_append]; simp; omega
          · rw [List.length_append]; simp; omega
      · rename_i hlt
        exact ⟨fs, _, _, _, _, rfl, rfl, hfs, .inr (by omega)⟩
    · rintro σ S' ⟨fs, a, b, c, d, rfl, rfl, hfs, hj⟩
      refine ⟨trivial, ?_⟩
      walk_at "x"
      rw [rm_put hp]
      refine q fs ⟨?_, by have := hfs.hi; omega, hfs.nn⟩
      have e : ((List.range (Int.toNat 270)).map fun (k : Nat) => D.int (k : Int)).length = 270 := by simp
      omega
end Mn

namespace Mn
open PySem L2
local macro_rules | `(tactic| walk_at "x") => `(tactic| try simp only [wSs, wS, wE, wEs, wC, x_add, x_sub, x_addS, x_addT, x_addL, x_mul, x_mulS, x_mulL, x_div, x_mod, x_pow, x_lt, x_le, x_gt, x_ge, x_eqD, x_neD, x_in, x_notIn, x_is, x_isNot, x_eqI, x_eqS, x_eqB, x_isNN, x_isBN, x_isIN, x_isSN, x_isTN, x_isLN, x_isRN, x_isBB, x_lenS, x_lenT, x_lenL, x_lenP, x_sumP, x_appP, x_appTP, x_idxP, x_frzP, x_abs, x_intI, x_intB, x_max, x_allL, x_sumL, x_listL, x_listT, x_isi, x_truB, x_truI, x_truL, x_truT, x_truN, x_idxS, x_idxL, x_idxT, x_slS, x_slT, x_slL, x_it0L, x_it0T, x_it0S, x_it0C, x_it1, x_it2L, x_val, x_upd, x_newF, x_newT, x_nm, x_tp, x_tps, x_tp0, x_ite, x_iteD, x_ifD, x_some, x_some2, x_map, x_eqInt, i_N_tuple, i_N_list, i_N_bool, i_N_int, i_N_str, i_N_tl, i_B_tuple, i_B_list, i_B_bool, i_B_int, i_B_str, i_B_tl, i_I_tuple, i_I_list, i_I_bool, i_I_int, i_I_str, i_I_tl, i_S_tuple, i_S_list, i_S_bool, i_S_int, i_S_str, i_S_tl, i_T_tuple, i_T_list, i_T_bool, i_T_int, i_T_str, i_T_tl, i_L_tuple, i_L_list, i_L_bool, i_L_int, i_L_str, i_L_tl, x_pure, x_new, x_fn, List.getElem?_cons_zero, List.getElem?_cons_succ, List.set_cons_zero, List.set_cons_succ, Option.bind_some, List.length_cons, List.length_nil, Nat.reduceAdd, true_and, and_true, decide_eq_true_eq, Bool.not_eq_true', decide_eq_false_iff_not, Bool.not_false, Bool.not_true, Bool.false_eq_true, Bool.true_eq_false, if_true, if_false, ite_true, ite_false])
def n__law_same : List Str := ["_law_found", "_law_due", "_law_k"]
def e__law_same_1 : ME := (.call "_law_same" [(.idx (.var 0) (.var 2)), (.idx (.var 1) (.var 2))])
def m__law_same : List MS := [(.ite (.blt .isinstance false [(.var 1), (.tup [(.cst (.ty "tuple")), (.cst (.ty "list"))])]) [(.ite (.or (.cmp .NotEq (.blt .isinstance false [(.var 1), (.cst (.ty "tuple"))]) (.blt .isinstance false [(.var 0), (.cst (.ty "tuple"))])) (.cmp .NotEq (.blt .isinstance false [(.var 1), (.cst (.ty "list"))]) (.blt .isinstance false [(.var 0), (.cst (.ty "list"))]))) [(.ret (.cst (.bl false)))] []), (.ret (.and (.cmp .Eq (.blt .len false [(.var 0)]) (.blt .len false [(.var 1)])) (.blt .all false [(.lc 1 false (.nm 2) [(.blt .len false [(.var 1)])] [] e__law_same_1)])))] []), (.ite (.cmp .Is (.var 1) (.cst .non)) [(.ret (.cmp .Is (.var 0) (.cst .non)))] []), (.ite (.or (.blt .isinstance false [(.var 1), (.cst (.ty "bool"))]) (.blt .isinstance false [(.var 0), (.cst (.ty "bool"))])) [(.ret (.and (.blt .isinstance false [(.var 1), (.cst (.ty "bool"))]) (.and (.blt .isinstance false [(.var 0), (.cst (.ty "bool"))]) (.cmp .Eq (.var 0) (.var 1)))))] []), (.ret (.and (.cmp .Eq (.blt .isinstance false [(.var 0), (.cst (.ty "int"))]) (.blt .isinstance false [(.var 1), (.cst (.ty "int"))])) (.cmp .Eq (.var 0) (.var 1))))]
mutual
def sameD : D → D → Bool
  | f, .tup ds => (match f with
    | .tup fs => sameDs fs ds
    | _ => false)
  | f, .lst ds => (match f with
    | .lst fs => sameDs fs ds
    | _ => false)
  | f, .non => (match f with
    | .non => true
    | _ => false)
  | f, .bl b => (match f with
    | .bl c => c == b
    | _ => false)
  | f, .int j => (match f with
    | .int i => decide (i = j)
    | _ => false)
  | f, .str y => (match f with
    | .str x => decide (x = y)
    | _ => false)
  | _, _ => false
def sameDs : List D → List D → Bool
  | [], [] => true
  | f :: fs, d :: ds => sameD f d && sameDs fs ds
  | _, _ => false
end
theorem sameDs_len : ∀ {fs ds : List D}, ¬ fs.length = ds.length → sameDs fs ds = false
  | [], [], h => absurd rfl h
  | [], _ :: _, _ => by unfold sameDs; rfl
  | _ :: _, [], _ => by unfold sameDs; rfl
  | f :: fs, d :: ds, h => by
    unfold sameDs
    rw [sameDs_len (fs := fs) (ds := ds) (fun e => h (by rw [List.length_cons, List.length_cons, e])), Bool.and_false]
mutual
/-- no list or tuple of it is too long -/
def dsize : D → Prop
  | .tup ds => ds.length ≤ 1000 ∧ dsizes ds
  | .lst ds => ds.length ≤ 1000 ∧ dsizes ds
  | _ => True
def dsizes : List D → Prop
  | [] => True
  | d :: ds => dsize d ∧ dsizes ds
end
theorem dsizes_get : ∀ {ds : List D} {i : Nat} {d : D}, dsizes ds → ds[i]? = some d → dsize d
  | [], i, d, _, e => by simp at e
  | d' :: ds, 0, d, h, e => by unfold dsizes at h; simp at e; subst e; exact h.1
  | d' :: ds, i + 1, d, h, e => by unfold dsizes at h; exact dsizes_get h.2 (by simpa using e)
theorem pureDs_get : ∀ {ds : List D} {i : Nat} {d : D}, pureDs ds = true → ds[i]? = some d → pureD d = true
  | [], i, d, _, e => by simp at e
  | d' :: ds, 0, d, h, e => by unfold pureDs at h; simp at e; subst e; exact (and2 h).1
  | d' :: ds, i + 1, d, h, e => by unfold pureDs at h; exact pureDs_get (and2 h).2 (by simpa using e)
theorem deps_get : ∀ {ds : List D} {i : Nat} {d : D}, ds[i]? = some d → dep d ≤ deps ds
  | [], i, d, e => by simp at e
  | d' :: ds, 0, d, e => by unfold deps; simp at e; subst e; exact Nat.le_max_left _ _
  | d' :: ds, i + 1, d, e => by unfold deps; exact Nat.le_trans (deps_get (ds := ds) (by simpa using e)) (Nat.le_max_right _ _)
theorem top_pure {S : Sto} {d : D} (h : pureD d = true) : top S d = d := by
  cases d with
  | ref a => unfold pureD at h; cases h
  | _ => rfl
/-- the truths of a comparison item by item -/
def sameL (fs ds : List D) : List Bool := (List.range ds.length).map fun k => match fs[k]?, ds[k]? with
  | some f, some d => sameD f d
  | _, _ => false
theorem sameL_all : ∀ {fs ds : List D}, fs.length = ds.length → (sameL fs ds).all id = sameDs fs ds
  | [], [], _ => by unfold sameDs sameL; rfl
  | [], _ :: _, h => by simp at h
  | _ :: _, [], h => by simp at h
  | f :: fs, d :: ds, h => by
    have ih := sameL_all (fs := fs) (ds := ds) (by simpa using h)
    unfold sameDs
    rw [← ih]
    unfold sameL
    rw [List.length_cons, List.range_succ_eq_map, List.map_cons, List.all_cons, List.map_map]
    rfl
/-- found is data, or a list of the store with data -/
def spSame (n : Nat) : DSp := fun ds S Q _ => ∃ f d, ds = [f, d] ∧ pureD (top S f) = true ∧ pureD d = true ∧ dep d ≤ n ∧ dsize (top S f) ∧ dsize d ∧ Q (.bl (sameD (top S f) d)) S
theorem allB_some {S : Sto} : ∀ bs : List Bool, allB S (bs.map .bl) = some (bs.all id)
  | [] => rfl
  | b :: bs => by
    show (match allB S (bs.map .bl) with
      | some c => some (b && c)
      | none => none) = _
    rw [allB_some bs]
    rfl
/-- the types of data -/
theorem tyN_top {S : Sto} {f : D} (h : pureD (top S f) = true) : ∃ t, tyN S f = some t ∧ tyN S (top S f) = some t := by
  cases f with
  | ref a =>
    cases e : lstAt S a with
    | none =>
      have q : top S (.ref a) = .ref a := by simp only [top, e]
      rw [q] at h; unfold pureD at h; cases h
    | some ds =>
      have q : top S (.ref a) = .lst ds := by simp only [top, e]
      refine ⟨"list", ?_, by rw [q]; rfl⟩
      show (lstAt S a).map (fun _ => "list") = _
      rw [e]; rfl
  | non => exact ⟨_, rfl, rfl⟩
  | bl b => exact ⟨_, rfl, rfl⟩
  | int b => exact ⟨_, rfl, rfl⟩
  | str b => exact ⟨_, rfl, rfl⟩
  | tup b => exact ⟨_, rfl, rfl⟩
  | lst b => exact ⟨_, rfl, rfl⟩
  | ty b => unfold top pureD at h; cases h
  | scr b => unfold top pureD at h; cases h
theorem isi_top {S : Sto} {f c : D} (h : pureD (top S f) = true) : isiR S f c = isiR S (top S f) c := by
  obtain ⟨t, h1, h2⟩ := tyN_top h
  unfold isiR
  rw [h1, h2]
theorem len_top {S : Sto} {f : D} : seqOf S f = seqOf S (top S f) := by
  cases f with
  | ref a =>
    cases e : lstAt S a with
    | none => simp only [top, e]
    | some ds => simp only [top, e, seqOf]
  | _ => rfl
theorem lenB_top {S : Sto} {f : D} : bltR .len [f] S = bltR .len [top S f] S := by
  cases f with
  | ref a =>
    cases e : lstAt S a with
    | none => simp only [top, e]
    | some ds =>
      simp only [top, e]
      show (lstAt S a).map _ = _
      rw [e]; rfl
  | _ => rfl
theorem idx_top {S : Sto} {f : D} {i : D} : idxR f i S = idxR (top S f) i S := by
  cases f with
  | ref a =>
    cases e : lstAt S a with
    | none => simp only [top, e]
    | some ds =>
      simp only [top, e]
      cases i <;> first | rfl | skip
      show (match lstAt S a with | some ds => _ | none => none) = _
      rw [e]; rfl
  | _ => rfl
theorem eq_top {S : Sto} {f d : D} : eqR f d S = eqR (top S f) d S := by
  have e : top S (top S f) = top S f := by
    cases f with
    | ref a =>
      cases e : lstAt S a with
      | none => simp only [top, e]
      | some ds => simp only [top, e]
    | _ => rfl
  unfold eqR
  rw [e]
theorem is_top {S : Sto} {f : D} : isR f .non = isR (top S f) .non := by
  cases f with
  | ref a =>
    cases e : lstAt S a with
    | none => simp only [top, e]
    | some ds => simp only [top, e]; rfl
  | _ => rfl
theorem eq_pure {S : Sto} {f d : D} (h1 : pureD f = true) (h2 : pureD d = true) (h : dep f ≤ 60 ∨ dep d ≤ 60) : eqR f d S = some (deq f d) := by
  unfold eqR
  rw [top_pure h1, top_pure h2, g?_pos ⟨h1, h2, by omega⟩]
/-- the comparison of two sequences -/
theorem same_seq {G : Gc} {n : Nat} {f d : D} {fs ds : List D} {S : Sto} {k : D → Sto → Prop} (hG : G.fn "_law_same" = some (2, spSame n)) (hf : seqOf S f = some fs) (hd : seqOf S d = some ds) (hl : fs.length = ds.length) (hz : ds.length ≤ 1000)
    (pf : pureDs fs = true) (pd : pureDs ds = true) (zf : dsizes fs) (zd : dsizes ds) (hn : deps ds ≤ n) (ntf : ∀ z, f ≠ .str z) (ntd : ∀ z, d ≠ .str z) (q : k (.bl (sameDs fs ds)) S) :
    lcLoop (fun _ => True) (fun d_2 S2 q => wE G (fun _ _ _ => False) e__law_same_1 [some f, some d, some d_2] S2 fun y S4 => q (some y) S4) ((List.range ds.length).map fun (k : Nat) => .int (k : Int)) [] S fun acc S2 => ∃ a, allB S2 acc = some a ∧ k (.bl a) S2 := by
  have idx : ∀ (g : D) (gs : List D) (j : Nat) (z : D), (∀ z, g ≠ .str z) → seqOf S g = some gs → gs[j]? = some z → idxR g (.int (j : Int)) S = some z := by
    intro g gs j z hg h1 h2
    have hj : j < gs.length := (List.getElem?_eq_some_iff.mp h2).1
    have e : idxR g (.int (j : Int)) S = (match seqOf S g with
      | some ds => atI ds (j : Int)
      | none => none) := by
      cases g with
      | str z => exact absurd rfl (hg z)
      | _ => rfl
    rw [e, h1]
    show atI gs (j : Int) = _
    rw [atI_nn (Int.natCast_nonneg j) (by omega)]
    simpa using h2
  have hS : ∀ j : Nat, j < ds.length → ∃ u v, fs[j]? = some u ∧ ds[j]? = some v := fun j hj => ⟨_, _, List.getElem?_eq_getElem (by omega), List.getElem?_eq_getElem hj⟩
  refine lc_any (fun z => match z with
      | .int j => some (.bl (match fs[j.toNat]?, ds[j.toNat]? with
        | some u, some v => sameD u v
        | _, _ => false))
      | _ => none) (by rw [List.length_map, List.length_range]; exact Nat.le_trans hz (by decide)) trivial ?_ ?_
  · intro z hz q' hq
    obtain ⟨j, hj, rfl⟩ := List.mem_map.mp hz
    have hj : j < ds.length := List.mem_range.mp hj
    obtain ⟨u, v, hu, hv⟩ := hS j hj
    unfold e__law_same_1
    walk_at "x"
    rw [hG]
    walk_at "x"
    rw [idx f fs j u ntf hf hu, idx d ds j v ntd hd hv]
    walk_at "x"
    refine callW_of ⟨u, v, rfl, ?_, pureDs_get pd hv, Nat.le_trans (deps_get hv) hn, ?_, dsizes_get zd hv, ?_⟩
    · rw [top_pure (pureDs_get pf hu)]; exact pureDs_get pf hu
    · rw [top_pure (pureDs_get pf hu)]; exact dsizes_get zf hu
    · rw [top_pure (pureDs_get pf hu)]
      simp only [Int.toNat_natCast, hu, hv] at hq
      exact hq
  · refine ⟨sameDs fs ds, ?_, q⟩
    rw [← sameL_all hl, ← allB_some (S := S)]
    congr 1
    unfold sameL
    rw [List.filterMap_map, List.map_map]
    rw [← List.filterMap_eq_map]
    congr 1
theorem ok_same {G : Gc} (n : Nat) (hG : ∀ k, n = k + 1 → G.fn "_law_same" = some (2, spSame k)) : BodyOk G n__law_same 2 m__law_same (spSame n) := by
  rintro ds S Q X - ⟨f, d, rfl, hf, hd, hn, zf, zd, q⟩
  show wSs G _ m__law_same [some f, some d, none] S _
  unfold m__law_same
  walk_at "x"
  simp only [isi_top hf, lenB_top (f := f), eq_top (f := f), is_top (S := S) (f := f)]
  refine ⟨by decide, ?_⟩
  have ft : seqOf S f = seqOf S (top S f) := len_top
  generalize top S f = g at *
  cases d with
  | ty _ => unfold pureD at hd; cases hd
  | ref _ => unfold pureD at hd; cases hd
  | scr _ => unfold pureD at hd; cases hd
  | non =>
    cases g with
    | ty _ => unfold pureD at hf; cases hf
    | ref _ => unfold pureD at hf; cases hf
    | scr _ => unfold pureD at hf; cases hf
    | _ =>
      unfold sameD at q
      walk_at "x"
      exact q
  | bl b =>
    cases g with
    | ty _ => unfold pureD at hf; cases hf
    | ref _ => unfold pureD at hf; cases hf
    | scr _ => unfold pureD at hf; cases hf
    | _ =>
      unfold sameD at q
      walk_at "x"
      exact q
  | int b =>
    rw [eq_pure hf hd (.inr (Nat.zero_le _))]
    cases g with
    | ty _ => unfold pureD at hf; cases hf
    | ref _ => unfold pureD at hf; cases hf
    | scr _ => unfold pureD at hf; cases hf
    | _ =>
      unfold sameD at q
      walk_at "x"
      exact q
  | str b =>
    rw [eq_pure hf hd (.inr (Nat.zero_le _))]
    cases g with
    | ty _ => unfold pureD at hf; cases hf
    | ref _ => unfold pureD at hf; cases hf
    | scr _ => unfold pureD at hf; cases hf
    | _ =>
      unfold sameD at q
      walk_at "x"
      exact q
  | tup ds =>
    cases g with
    | ty _ => unfold pureD at hf; cases hf
    | ref _ => unfold pureD at hf; cases hf
    | scr _ => unfold pureD at hf; cases hf
    | tup fs =>
      walk_at "x"
      rw [if_neg (by decide), if_neg (by decide)]
      unfold sameD at q
      simp only at q
      unfold pureD at hf hd
      unfold dsize at zf zd
      unfold dep at hn
      have hG := hG (n - 1) (by omega)
      by_cases hl : fs.length = ds.length
      · rw [if_pos (by rw [hl])]
        refine ⟨⟨by omega, by omega⟩, ?_⟩
        rw [Int.toNat_natCast]
        exact same_seq hG ft rfl hl zd.1 hf hd zf.2 zd.2 (by omega) (fun z e => by subst e; cases ft) (fun z e => by cases e) q
      · rw [if_neg (by omega)]
        rw [sameDs_len hl] at q
        rw [decide_eq_false (by omega)]
        exact q
    | _ =>
      unfold sameD at q
      walk_at "x"
      exact q
  | lst ds =>
    cases g with
    | ty _ => unfold pureD at hf; cases hf
    | ref _ => unfold pureD at hf; cases hf
    | scr _ => unfold pureD at hf; cases hf
    | lst fs =>
      walk_at "x"
      rw [if_neg (by decide), if_neg (by decide)]
      unfold sameD at q
      simp only at q
      unfold pureD at hf hd
      unfold dsize at zf zd
      unfold dep at hn
      have hG := hG (n - 1) (by omega)
      by_cases hl : fs.length = ds.length
      · rw [if_pos (by rw [hl])]
        refine ⟨⟨by omega, by omega⟩, ?_⟩
        rw [Int.toNat_natCast]
        exact same_seq hG ft rfl hl zd.1 hf hd zf.2 zd.2 (by omega) (fun z e => by subst e; cases ft) (fun z e => by cases e) q
      · rw [if_neg (by omega)]
        rw [sameDs_len hl] at q
        rw [decide_eq_false (by omega)]
        exact q
    | _ =>
      unfold sameD at q
      walk_at "x"
      exact q
end Mn

namespace Mn
open PySem L2
local macro_rules | `(tactic| walk_at "x") => `(tactic| try simp only [wSs, wS, wE, wEs, wC, x_add, x_sub, x_addS, x_addT, x_addL, x_mul, x_mulS, x_mulL, x_div, x_mod, x_pow, x_lt, x_le, x_gt, x_ge, x_eqD, x_neD, x_in, x_notIn, x_is, x_isNot, x_eqI, x_eqS, x_eqB, x_isNN, x_isBN, x_isIN, x_isSN, x_isTN, x_isLN, x_isRN, x_isBB, x_lenS, x_lenT, x_lenL, x_lenP, x_sumP, x_appP, x_appTP, x_idxP, x_frzP, x_abs, x_intI, x_intB, x_max, x_allL, x_sumL, x_listL, x_listT, x_isi, x_truB, x_truI, x_truL, x_truT, x_truN, x_idxS, x_idxL, x_idxT, x_slS, x_slT, x_slL, x_it0L, x_it0T, x_it0S, x_it0C, x_it1, x_it2L, x_val, x_upd, x_newF, x_newT, x_nm, x_tp, x_tps, x_tp0, x_ite, x_iteD, x_ifD, x_some, x_some2, x_map, x_eqInt, i_N_tuple, i_N_list, i_N_bool, i_N_int, i_N_str, i_N_tl, i_B_tuple, i_B_list, i_B_bool, i_B_int, i_B_str, i_B_tl, i_I_tuple, i_I_list, i_I_bool, i_I_int, i_I_str, i_I_tl, i_S_tuple, i_S_list, i_S_bool, i_S_int, i_S_str, i_S_tl, i_T_tuple, i_T_list, i_T_bool, i_T_int, i_T_str, i_T_tl, i_L_tuple, i_L_list, i_L_bool, i_L_int, i_L_str, i_L_tl, x_pure, x_new, x_fn, List.getElem?_cons_zero, List.getElem?_cons_succ, List.set_cons_zero, List.set_cons_succ, Option.bind_some, List.length_cons, List.length_nil, Nat.reduceAdd, true_and, and_true, decide_eq_true_eq, Bool.not_eq_true', decide_eq_false_iff_not, Bool.not_false, Bool.not_true, Bool.false_eq_true, Bool.true_eq_false, if_true, if_false, ite_true, ite_false])
def n__law_is_name : List Str := ["_law_word", "_law_sign_here"]
def e__law_is_name_1 : ME := (.cmp .In (.var 1) (.cst (.str "abcdefghijklmnopqrstuvwxyz")))
def m__law_is_name : List MS := [(.ret (.and (.cmp2 .LtE .LtE (.cst (.int 1)) (.blt .len false [(.var 0)]) (.cst (.int 8))) (.blt .all false [(.lc 0 false (.nm 1) [(.var 0)] [] e__law_is_name_1)])))]
def n__law_sign : List Str := ["_law_number", "_law_other"]
def m__law_sign : List MS := [(.asg (.nm 1) (.cst (.str " !\"#$&'()*+,-./0123456789:;<=>?@ABCDEFGHIJKLMNOPQRSTUVWXYZ[\\]^_`{|}~\n"))), (.ite (.cmp .Eq (.bin .Mod false (.var 0) (.cst (.int 5))) (.cst (.int 0))) [(.ret (.idx (.var 1) (.bin .Mod false (.bin .FloorDiv false (.var 0) (.cst (.int 5))) (.blt .len false [(.var 1)]))))] []), (.ret (.idx (.cst (.str "abcdefghijklmnopqrstuvwxyz")) (.bin .Mod false (.bin .FloorDiv false (.var 0) (.cst (.int 5))) (.cst (.int 26)))))]
def n_law : List Str := ["_law_script", "_law_feed_here", "_law_word", "_law_k", "_law_sign_here"]
def b_law_1 : List MS := [(.asg (.nm 4) (.call "_law_sign" [(.idx (.var 1) (.bin .Add false (.cst (.int 1)) (.var 3)))])), (.ite (.and (.cmp .Eq (.bin .Mod false (.idx (.var 1) (.cst (.int 20))) (.cst (.int 2))) (.cst (.int 0))) (.cmp .NotEq (.var 3) (.bin .Mod false (.idx (.var 1) (.cst (.int 21))) (.cst (.int 10))))) [(.asg (.nm 4) (.call "_law_sign" [(.bin .Add false (.cst (.int 1)) (.bin .Mult false (.cst (.int 5)) (.idx (.var 1) (.bin .Add false (.cst (.int 1)) (.var 3)))))]))] []), (.asg (.nm 2) (.bin .Add false (.var 2) (.var 4)))]
def m_law : List MS := [(.asg (.nm 1) (.call "_law_feed" [(.var 0)])), (.asg (.nm 2) (.cst (.str ""))), (.for_ 1 (.nm 3) [(.bin .Mod false (.idx (.var 1) (.cst (.int 0))) (.cst (.int 11)))] b_law_1), (.ret (.call "_law_same" [(.call "is_name" [(.var 2)]), (.call "_law_is_name" [(.var 2)])]))]
def spLaw : DSp := fun ds S Q _ => ∃ ns : List Int, ds = [.scr ns] ∧ ns.length ≤ 63 ∧ S = (fun _ => none) ∧ ∀ S', Q (.bl true) S'
/-- an item of the feed -/
theorem fd_at {fs : List Int} (h : Feed fs) {i : Int} (h0 : 0 ≤ i) (h1 : i < 270) {P : D → Prop} (hp : ∀ v : Int, 0 ≤ v → v < 55440 → P (.int v)) : ∃ d, atI (fs.map .int) i = some d ∧ P d := by
  have hl := h.lo
  rw [atI_map, atI_nn h0 (by omega), List.getElem?_eq_getElem (by omega)]
  exact ⟨_, rfl, hp _ (h.nn _ (List.getElem_mem _)).1 (h.nn _ (List.getElem_mem _)).2⟩
theorem ok_law_is_name {G : Gc} : BodyOk G n__law_is_name 1 m__law_is_name (spPure fIsName) := by
  rintro ds S Q X - ⟨d, hf, q⟩
  unfold fIsName at hf
  split at hf
  · rename_i x
    split at hf
    · rename_i hx
      cases hf
      show wSs G _ m__law_is_name [some (.str x), none] S _
      unfold m__law_is_name
      walk_at "x"
      refine ⟨hx, ?_⟩
      unfold isNm at q
      by_cases h1 : 1 ≤ x.length
      · by_cases h2 : x.length ≤ 8
        · rw [decide_eq_true h1, decide_eq_true h2, Bool.true_and, Bool.true_and] at q
          rw [if_pos (by omega), if_pos (by omega)]
          refine lc_any (fun z => match z with
            | .str y => some (.bl (y.cps.toList.all fun c => decide (c ∈ lettersS.cps.toList)))
            | _ => none) ?_ trivial ?_ ?_
          · rw [List.length_map]; exact Nat.le_trans (m := 8) (by simpa [Str.length] using h2) (by decide)
          · intro z hz q' hq
            obtain ⟨c, hc, rfl⟩ := List.mem_map.mp hz
            unfold e__law_is_name_1
            walk_at "x"
            simp only [inR_sign, x_some]
            simpa [lettersS] using hq
          · refine ⟨_, ?_, q⟩
            rw [List.filterMap_map]
            rw [show (x.cps.toList.filterMap ((fun z => match z with
              | D.str y => some (D.bl (y.cps.toList.all fun c => decide (c ∈ lettersS.cps.toList)))
              | _ => none) ∘ fun c => D.str ⟨#[c]⟩)) = (x.cps.toList.map fun c => decide (c ∈ lettersS.cps.toList)).map .bl from ?_]
            · rw [allB_some, List.all_map]; rfl
            · rw [List.map_map, ← List.filterMap_eq_map]
              congr 1
              funext c
              simp
        · rw [decide_eq_false h2, Bool.false_and, Bool.and_false] at q
          rw [if_pos (by omega), if_neg (by omega)]
          rw [decide_eq_false (by omega)]
          exact q
      · rw [decide_eq_false h1, Bool.false_and] at q
        rw [if_neg (by omega)]
        exact q
    · cases hf
  · cases hf
/-- one sign, whichever -/
def spSign : DSp := fun ds S Q _ => ∃ n : Int, ds = [.int n] ∧ ∀ c, Q (.str ⟨#[c]⟩) S
theorem sign_at {x : Str} {n : Int} (h0 : 0 ≤ n) (h1 : n < x.length) {P : Nat → Prop} (h : ∀ c, P c) : ∃ a, atI x.cps.toList n = some a ∧ P a := by
  have e : x.cps.toList.length = x.length := by simp [Str.length]
  rw [atI_nn h0 (by omega), List.getElem?_eq_getElem (by omega)]
  exact ⟨_, rfl, h _⟩
theorem ok_sign {G : Gc} : BodyOk G n__law_sign 1 m__law_sign spSign := by
  rintro ds S Q X - ⟨n, rfl, q⟩
  show wSs G _ m__law_sign [some (.int n), none] S _
  unfold m__law_sign
  walk_at "x"
  refine ⟨by decide, ?_⟩
  split
  · have hz : 0 < (("" ++ " !\"#$&'()*+,-./0123456789:;<=>?@ABCDEFGHIJKLMNOPQRSTUVWXYZ[\\]^_`{|}~\n" : String) |> Str.ofString).length := by decide +kernel
    refine ⟨by decide, by decide +kernel, by decide +kernel, by decide +kernel, sign_at (Int.emod_nonneg _ ?_) (Int.emod_lt_of_pos _ ?_) q⟩
    · decide +kernel
    · decide +kernel
  · refine ⟨by decide, by decide, by decide +kernel, sign_at (Int.emod_nonneg _ (by decide)) ?_ q⟩
    have e : (Str.ofString "abcdefghijklmnopqrstuvwxyz").length = 26 := by decide +kernel
    rw [e]
    exact Int.emod_lt_of_pos _ (by decide)
theorem range_at {n i : Nat} {d : D} (h : ((List.range n).map fun (k : Nat) => D.int (k : Int))[i]? = some d) : d = .int i ∧ i < n := by
  rw [List.getElem?_map] at h
  obtain ⟨j, h1, h2⟩ := Option.map_eq_some_iff.mp h
  have hl : i < (List.range n).length := (List.getElem?_eq_some_iff.mp h1).1
  rw [List.getElem?_range (by simpa using hl)] at h1
  cases h1
  exact ⟨h2.symm, by simpa using hl⟩
theorem ok_k01 {G : Gc} (h1 : G.fn "_law_feed" = some (1, spFeed)) (h2 : G.fn "_law_sign" = some (1, spSign)) (h3 : G.fn "is_name" = some (1, spPure fIsName)) (h4 : G.fn "_law_is_name" = some (1, spPure fIsName)) (h5 : G.fn "_law_same" = some (2, spSame 0)) : BodyOk G n_law 1 m_law spLaw := by
  rintro ds S Q X - ⟨ns, rfl, hl, -, q⟩
  show wSs G _ m_law [some (.scr ns), none, none, none, none] S _
  unfold m_law
  walk_at "x"
  simp only [h1, x_fn, true_and]
  refine callW_of ⟨ns, rfl, fun fs F => ?_⟩
  unfold fdD
  walk_at "x"
  refine fd_at F (by decide) (by decide) fun v v0 v1 => ?_
  walk_at "x"
  refine ⟨by decide, ⟨by omega, by omega⟩, ?_⟩
  refine for_ruleN (fun i σ S' => ∃ x a b, x.length ≤ i ∧ σ = [some (.scr ns), some (.lst (fs.map .int)), some (.str x), a, b]) ⟨_, _, _, by decide +kernel, rfl⟩ ?_ ?_
  · rintro i d σ S' hd ⟨x, a, b, hx, rfl⟩
    refine ⟨trivial, ?_⟩
    obtain ⟨rfl, hi⟩ := range_at hd
    have hi : i < 11 := by omega
    unfold b_law_1
    walk_at "x"
    simp only [h2, x_fn, true_and]
    refine fd_at F (by omega) (by omega) fun u u0 u1 => ?_
    refine callW_of ⟨_, rfl, fun c => ?_⟩
    walk_at "x"
    refine fd_at F (by decide) (by decide) fun u' u0' u1' => ?_
    walk_at "x"
    refine ⟨by decide, ?_⟩
    have fin : ∀ y : Str, y.length = 1 → (x.length + y.length ≤ sizeLine ∧ ∃ x_1 a b, x_1.length ≤ i + 1 ∧ ([some (.scr ns), some (.lst (fs.map .int)), some (.str (x ++ y)), some (.int i), some (.str y)] : Env) = [some (.scr ns), some (.lst (fs.map .int)), some (.str x_1), a, b]) := by
      intro y hy
      refine ⟨by rw [hy]; exact Nat.le_trans (m := 12) (by omega) (by decide), x ++ y, _, _, ?_, rfl⟩
      have e : (x ++ y).length = x.length + y.length := by
        show (x.cps ++ y.cps).size = _
        rw [Array.size_append]; rfl
      rw [e, hy]; omega
    split
    · refine fd_at F (by decide) (by decide) fun u2 _ _ => ?_
      walk_at "x"
      refine ⟨by decide, ?_⟩
      split
      · refine fd_at F (by omega) (by omega) fun u3 _ _ => ?_
        walk_at "x"
        refine ⟨.inl (by decide), callW_of ⟨_, rfl, fun c => ?_⟩⟩
        walk_at "x"
        exact fin _ rfl
      · exact fin _ rfl
    · exact fin _ rfl
  · rintro σ S' ⟨x, a, b, hx, rfl⟩
    refine ⟨trivial, ?_⟩
    have hx : x.length ≤ sizeLine := by
      rw [List.length_map, List.length_range] at hx
      exact Nat.le_trans (m := 11) (by omega) (by decide)
    walk_at "x"
    simp only [h5, h3, h4, x_fn, true_and]
    walk_at "x"
    simp only [fIsName, if_pos hx]
    walk_at "x"
    refine callW_of ⟨_, _, rfl, rfl, rfl, Nat.le_refl _, ?_, ?_, ?_⟩
    · unfold top dsize; trivial
    · unfold dsize; trivial
    · have e : sameD (top S' (.bl (isNm x))) (.bl (isNm x)) = true := by unfold top sameD; simp
      rw [e]
      exact q _
end Mn

namespace Mn
open PySem L2
local macro_rules | `(tactic| walk_at "x") => `(tactic| try simp only [wSs, wS, wE, wEs, wC, x_add, x_sub, x_addS, x_addT, x_addL, x_mul, x_mulS, x_mulL, x_div, x_mod, x_pow, x_lt, x_le, x_gt, x_ge, x_eqD, x_neD, x_in, x_notIn, x_is, x_isNot, x_eqI, x_eqS, x_eqB, x_isNN, x_isBN, x_isIN, x_isSN, x_isTN, x_isLN, x_isRN, x_isBB, x_lenS, x_lenT, x_lenL, x_lenP, x_sumP, x_appP, x_appTP, x_idxP, x_frzP, x_abs, x_intI, x_intB, x_max, x_allL, x_sumL, x_listL, x_listT, x_isi, x_truB, x_truI, x_truL, x_truT, x_truN, x_idxS, x_idxL, x_idxT, x_slS, x_slT, x_slL, x_it0L, x_it0T, x_it0S, x_it0C, x_it1, x_it2L, x_val, x_upd, x_newF, x_newT, x_nm, x_tp, x_tps, x_tp0, x_ite, x_iteD, x_ifD, x_some, x_some2, x_map, x_eqInt, i_N_tuple, i_N_list, i_N_bool, i_N_int, i_N_str, i_N_tl, i_B_tuple, i_B_list, i_B_bool, i_B_int, i_B_str, i_B_tl, i_I_tuple, i_I_list, i_I_bool, i_I_int, i_I_str, i_I_tl, i_S_tuple, i_S_list, i_S_bool, i_S_int, i_S_str, i_S_tl, i_T_tuple, i_T_list, i_T_bool, i_T_int, i_T_str, i_T_tl, i_L_tuple, i_L_list, i_L_bool, i_L_int, i_L_str, i_L_tl, x_pure, x_new, x_fn, List.getElem?_cons_zero, List.getElem?_cons_succ, List.set_cons_zero, List.set_cons_succ, Option.bind_some, List.length_cons, List.length_nil, Nat.reduceAdd, true_and, and_true, decide_eq_true_eq, Bool.not_eq_true', decide_eq_false_iff_not, Bool.not_false, Bool.not_true, Bool.false_eq_true, Bool.true_eq_false, if_true, if_false, ite_true, ite_false])
def n__law_name : List Str := ["_law_pick", "_law_k", "_law_sign", "_law_at", "_law_words", "_law_some"]
def m__law_name : List MS := [(.asg (.nm 2) (.idx (.cst (.str "abcdefghijklmnopqrstuvwxyz")) (.bin .Mod false (.bin .Add false (.bin .FloorDiv false (.var 0) (.cst (.int 32))) (.bin .Mult false (.cst (.int 11)) (.var 1))) (.cst (.int 26))))), (.asg (.nm 3) (.bin .Mod false (.bin .FloorDiv false (.var 0) (.cst (.int 4))) (.cst (.int 8)))), (.asg (.nm 4) (.lst false [(.cst (.str "ask")), (.cst (.str "bound")), (.cst (.str "in")), (.cst (.str "fair")), (.cst (.str "free")), (.cst (.str "none")), (.cst (.str "house")), (.cst (.str "a")), (.cst (.str "paid"))])), (.asg (.nm 5) (.lst false [(.var 2), (.bin .Add false (.bin .Add false (.slU false (.cst (.str "mistral")) (.var 3)) (.var 2)) (.slL false (.cst (.str "mistral")) (.var 3))), (.bin .Mult false (.var 2) (.bin .Add false (.cst (.int 1)) (.bin .Mod false (.bin .Add false (.var 3) (.bin .Mult false (.cst (.int 3)) (.var 1))) (.cst (.int 8)))))])), (.ret (.idx (.bin .Add false (.var 5) (.lst false [(.idx (.var 4) (.bin .Mod false (.bin .Add false (.var 3) (.var 1)) (.cst (.int 9))))])) (.bin .Mod false (.var 0) (.cst (.int 4)))))]
/-! ### a list, frozen or in the store -/
section
variable {S : Sto} {o : D} {ds : List D} {i : Int}
theorem x_lenO (h : listOf S o = some ds) : bltR .len [o] S = some (.val (.int ds.length)) := by
  cases o with
  | lst es => cases h; rfl
  | ref a => exact x_lenR (lstAt_some h)
  | _ => cases h
theorem x_idxO (h : listOf S o = some ds) : idxR o (.int i) S = atI ds i := by
  cases o with
  | lst es => cases h; rfl
  | ref a => exact x_idxR (lstAt_some h)
  | _ => cases h
theorem x_slO (h : listOf S o = some ds) (lo hi : Option Int) : slcR o lo hi S = some (.newL (cutD ds lo hi)) := by
  cases o with
  | lst es => cases h; rfl
  | ref a =>
    show (match listOf S (.ref a) with | some ds => some (R.newL (cutD ds lo hi)) | none => none) = _
    rw [h]
  | _ => cases h
theorem x_itO (h : listOf S o = some ds) : ∃ g : Sto → Prop, itR o S = some (ds, g) ∧ g S := by
  cases o with
  | lst es => cases h; exact ⟨_, rfl, trivial⟩
  | ref a =>
    refine ⟨fun S' => S' a = some (.lst ds), ?_, lstAt_some h⟩
    show (lstAt S a).map _ = _
    rw [show lstAt S a = some ds from h]; rfl
  | _ => cases h
theorem x_it2O (h : listOf S o = some ds) : ∃ g : Sto → Prop, itS 2 [o] S = some (enmL 0 ds, g) ∧ g S := by
  obtain ⟨g, h1, h2⟩ := x_itO h
  refine ⟨g, ?_, h2⟩
  show (match listOf S o, itR o S with | some _, some its => some (enmL 0 its.1, its.2) | _, _ => none) = _
  rw [h, h1]
theorem enm_at : ∀ {ds : List D} {n i : Nat} {d : D}, (enmL n ds)[i]? = some d → ∃ e, ds[i]? = some e ∧ d = .tup [.int ((n + i : Nat) : Int), e]
  | [], n, i, d, h => by simp [enmL] at h
  | e :: ds, n, 0, d, h => by simp [enmL] at h; exact ⟨e, rfl, by rw [← h]; rfl⟩
  | e :: ds, n, i + 1, d, h => by
    simp only [enmL, List.getElem?_cons_succ] at h
    obtain ⟨e', h1, h2⟩ := enm_at h
    exact ⟨e', by simpa using h1, by rw [h2]; congr 4; omega⟩
theorem enm_len : ∀ {ds : List D} {n : Nat}, (enmL n ds).length = ds.length
  | [], _ => rfl
  | _ :: ds, n => by simp only [enmL, List.length_cons, enm_len]
end
/-! ### names -/
def letC (i : Int) : Nat := 97 + i.toNat
theorem let_at {i : Int} (h0 : 0 ≤ i) (h1 : i < 26) : atI (Str.ofString "abcdefghijklmnopqrstuvwxyz").cps.toList i = some (letC i) := by
  obtain ⟨n, rfl⟩ : ∃ n : Nat, i = n := ⟨i.toNat, by omega⟩
  have hn : n < 26 := by omega
  have all : ∀ n : Fin 26, atI (Str.ofString "abcdefghijklmnopqrstuvwxyz").cps.toList (n.val : Int) = some (letC (n.val : Int)) := by decide +kernel
  exact all ⟨n, hn⟩
def wordsA : List Str := ["ask", "bound", "in", "fair", "free", "none", "house", "a", "paid"]
/-- the k-th name of a pick -/
def nameOf (p k : Int) : Str :=
  let c : Str := ⟨#[letC ((p / 32 + 11 * k) % 26)]⟩
  let t : Int := p / 4 % 8
  if p % 4 = 0 then c else if p % 4 = 1 then cutS "mistral" none (some t) ++ c ++ cutS "mistral" (some t) none else if p % 4 = 2 then repS c (1 + (t + 3 * k) % 8).toNat else wordsA.getD ((t + k) % 9).toNat ""
def spName : DSp := fun ds S Q _ => ∃ p k : Int, ds = [.int p, .int k] ∧ Q (.str (nameOf p k)) S
theorem len_app (x y : Str) : (x ++ y).length = x.length + y.length := by
  show (x.cps ++ y.cps).size = _
  rw [Array.size_append]; rfl
theorem cut_len {t : Int} (h0 : 0 ≤ t) (h1 : t < 8) : (cutS "mistral" none (some t)).length ≤ 7 ∧ (cutS "mistral" (some t) none).length ≤ 7 := by
  obtain ⟨n, rfl⟩ : ∃ n : Nat, t = n := ⟨t.toNat, by omega⟩
  have all : ∀ n : Fin 8, (cutS "mistral" none (some (n.val : Int))).length ≤ 7 ∧ (cutS "mistral" (some (n.val : Int)) none).length ≤ 7 := by decide +kernel
  exact all ⟨n, by omega⟩
theorem name_ne (p k : Int) : nameOf p k ≠ "nobody" := by
  have t0 : 0 ≤ p / 4 % 8 := Int.emod_nonneg _ (by decide)
  have t1 : p / 4 % 8 < 8 := Int.emod_lt_of_pos _ (by decide)
  have w0 : 0 ≤ (p / 4 % 8 + k) % 9 := Int.emod_nonneg _ (by decide)
  have w1 : (p / 4 % 8 + k) % 9 < 9 := Int.emod_lt_of_pos _ (by decide)
  have nl : (Str.ofString "nobody").length = 6 := by decide +kernel
  intro e
  have el := congrArg Str.length e
  rw [nl] at el
  unfold nameOf at e el
  simp only at e el
  split at el
  · cases el
  · rename_i c0
    rw [if_neg c0] at e
    split at el
    · rw [len_app, len_app] at el
      obtain ⟨n, hn⟩ : ∃ n : Nat, p / 4 % 8 = n := ⟨(p / 4 % 8).toNat, by omega⟩
      have all : ∀ n : Fin 8, (cutS "mistral" none (some (n.val : Int))).length + (cutS "mistral" (some (n.val : Int)) none).length = 7 := by decide +kernel
      have a := all ⟨n, by omega⟩
      simp only at a
      rw [hn] at el
      have one : ∀ c : Nat, (⟨#[c]⟩ : Str).length = 1 := fun _ => rfl
      rw [one] at el
      omega
    · rename_i c1
      rw [if_neg c1] at e
      split at el
      · rename_i c2
        rw [if_pos c2] at e
        have h := congrArg (fun z : Str => z.cps.toList) e
        rw [repS_list] at h
        have hm : ∀ c ∈ (Str.ofString "nobody").cps.toList, c = letC ((p / 32 + 11 * k) % 26) := by
          intro c hc
          rw [← h] at hc
          obtain ⟨l, h1, h2⟩ := List.mem_flatten.mp hc
          rw [(List.mem_replicate.mp h1).2] at h2
          simpa using h2
        have e1 := hm 110 (by decide +kernel)
        have e2 := hm 111 (by decide +kernel)
        rw [← e1] at e2
        exact absurd e2 (by decide)
      · rename_i c2
        rw [if_neg c2] at e
        have all : ∀ n : Fin 9, wordsA.getD n.val "" ≠ "nobody" := by decide +kernel
        exact all ⟨((p / 4 % 8 + k) % 9).toNat, by omega⟩ e
theorem ok_name {G : Gc} : BodyOk G n__law_name 2 m__law_name spName := by
  rintro ds S Q X - ⟨p, k, rfl, q⟩
  show wSs G _ m__law_name [some (.int p), some (.int k), none, none, none, none] S _
  unfold m__law_name
  walk_at "x"
  refine ⟨by decide, .inl (by decide), by decide, by decide +kernel, ?_⟩
  rw [let_at (Int.emod_nonneg _ (by decide)) (Int.emod_lt_of_pos _ (by decide))]
  refine ⟨_, rfl, ?_⟩
  have hS : sizeLine = 16777216 := rfl
  have t0 : 0 ≤ p / 4 % 8 := Int.emod_nonneg _ (by decide)
  have t1 : p / 4 % 8 < 8 := Int.emod_lt_of_pos _ (by decide)
  have u0 : 0 ≤ (p / 4 % 8 + 3 * k) % 8 := Int.emod_nonneg _ (by decide)
  have u1 : (p / 4 % 8 + 3 * k) % 8 < 8 := Int.emod_lt_of_pos _ (by decide)
  have w0 : 0 ≤ (p / 4 % 8 + k) % 9 := Int.emod_nonneg _ (by decide)
  have w1 : (p / 4 % 8 + k) % 9 < 9 := Int.emod_lt_of_pos _ (by decide)
  have z0 : 0 ≤ p % 4 := Int.emod_nonneg _ (by decide)
  have z1 : p % 4 < 4 := Int.emod_lt_of_pos _ (by decide)
  obtain ⟨c1, c2⟩ := cut_len t0 t1
  have one : ∀ c : Nat, (⟨#[c]⟩ : Str).length = 1 := fun _ => rfl
  refine ⟨by decide, by decide, by decide, by decide +kernel, by rw [one]; omega, by decide +kernel, by rw [len_app, one]; omega, .inl (by decide), by decide, ⟨by omega, by omega, by rw [one]; decide⟩, by decide, by decide, ?_⟩
  have hw : ∀ n : Fin 9, atI [D.str (Str.ofString "ask"), D.str (Str.ofString "bound"), D.str (Str.ofString "in"), D.str (Str.ofString "fair"), D.str (Str.ofString "free"), D.str (Str.ofString "none"), D.str (Str.ofString "house"), D.str (Str.ofString "a"), D.str (Str.ofString "paid")] (n.val : Int) = some (.str (wordsA.getD n.val "")) := by
    intro n
    obtain ⟨n, hn⟩ := n
    rcases n with _ | _ | _ | _ | _ | _ | _ | _ | _ | n
    all_goals first | rfl | (exfalso; omega)
  have hw := hw ⟨((p / 4 % 8 + k) % 9).toNat, by omega⟩
  simp only [Int.toNat_of_nonneg w0] at hw
  rw [hw]
  refine ⟨_, rfl, by decide, by decide, by decide, ?_⟩
  unfold nameOf at q
  have hz : p % 4 = 0 ∨ p % 4 = 1 ∨ p % 4 = 2 ∨ p % 4 = 3 := by omega
  rcases hz with e | e | e | e
  · rw [e] at q ⊢
    exact ⟨_, rfl, q⟩
  · rw [e] at q ⊢
    exact ⟨_, rfl, q⟩
  · rw [e] at q ⊢
    exact ⟨_, rfl, q⟩
  · rw [e] at q ⊢
    exact ⟨_, rfl, q⟩
end Mn

namespace Mn
open PySem L2
local macro_rules | `(tactic| walk_at "x") => `(tactic| try simp only [wSs, wS, wE, wEs, wC, x_add, x_sub, x_addS, x_addT, x_addL, x_mul, x_mulS, x_mulL, x_div, x_mod, x_pow, x_lt, x_le, x_gt, x_ge, x_eqD, x_neD, x_in, x_notIn, x_is, x_isNot, x_eqI, x_eqS, x_eqB, x_isNN, x_isBN, x_isIN, x_isSN, x_isTN, x_isLN, x_isRN, x_isBB, x_lenS, x_lenT, x_lenL, x_lenP, x_sumP, x_appP, x_appTP, x_idxP, x_frzP, x_abs, x_intI, x_intB, x_max, x_allL, x_sumL, x_listL, x_listT, x_isi, x_truB, x_truI, x_truL, x_truT, x_truN, x_idxS, x_idxL, x_idxT, x_slS, x_slT, x_slL, x_it0L, x_it0T, x_it0S, x_it0C, x_it1, x_it2L, x_val, x_upd, x_newF, x_newT, x_nm, x_tp, x_tps, x_tp0, x_ite, x_iteD, x_ifD, x_some, x_some2, x_map, x_eqInt, i_N_tuple, i_N_list, i_N_bool, i_N_int, i_N_str, i_N_tl, i_B_tuple, i_B_list, i_B_bool, i_B_int, i_B_str, i_B_tl, i_I_tuple, i_I_list, i_I_bool, i_I_int, i_I_str, i_I_tl, i_S_tuple, i_S_list, i_S_bool, i_S_int, i_S_str, i_S_tl, i_T_tuple, i_T_list, i_T_bool, i_T_int, i_T_str, i_T_tl, i_L_tuple, i_L_list, i_L_bool, i_L_int, i_L_str, i_L_tl, x_pure, x_new, x_fn, List.getElem?_cons_zero, List.getElem?_cons_succ, List.set_cons_zero, List.set_cons_succ, Option.bind_some, List.length_cons, List.length_nil, Nat.reduceAdd, true_and, and_true, decide_eq_true_eq, Bool.not_eq_true', decide_eq_false_iff_not, Bool.not_false, Bool.not_true, Bool.false_eq_true, Bool.true_eq_false, if_true, if_false, ite_true, ite_false])
/-! ### rows -/
abbrev Row := List (Str × Bool)
def plD (q : Str × Bool) : D := .tup [.str q.1, .bl q.2]
def rowD (r : Row) : List D := r.map plD
/-- the first place where the house is bound; the row's length, if none -/
def rch : Row → Str → Nat
  | [], _ => 0
  | (n, b) :: r, h => if b = true ∧ n = h then 0 else rch r h + 1
theorem rch_le : ∀ (r : Row) (h : Str), rch r h ≤ r.length
  | [], _ => Nat.le_refl _
  | (n, b) :: r, h => by
    unfold rch
    split
    · exact Nat.zero_le _
    · exact Nat.succ_le_succ (rch_le r h)
theorem rch_at : ∀ {r : Row} {h : Str} {i : Nat}, (∀ j, j < i → ∀ q, r[j]? = some q → ¬ (q.2 = true ∧ q.1 = h)) → (r[i]? = some (h, true)) → rch r h = i
  | [], h, i, _, e => by simp at e
  | (n, b) :: r, h, 0, _, e => by
    simp at e
    unfold rch
    rw [if_pos ⟨e.2, e.1⟩]
  | (n, b) :: r, h, i + 1, a, e => by
    have n0 := a 0 (Nat.succ_pos _) (n, b) rfl
    unfold rch
    rw [if_neg n0, rch_at (r := r) (h := h) (i := i) (fun j hj q hq => a (j + 1) (Nat.succ_lt_succ hj) q (by simpa using hq)) (by simpa using e)]
theorem rch_end : ∀ {r : Row} {h : Str}, (∀ j, j < r.length → ∀ q, r[j]? = some q → ¬ (q.2 = true ∧ q.1 = h)) → rch r h = r.length
  | [], h, _ => rfl
  | (n, b) :: r, h, a => by
    have n0 := a 0 (Nat.succ_pos _) (n, b) rfl
    unfold rch
    rw [if_neg n0, rch_end (r := r) (h := h) (fun j hj q hq => a (j + 1) (Nat.succ_lt_succ hj) q (by simpa using hq))]
    rfl
theorem rowD_at {r : Row} {i : Nat} {d : D} (h : (rowD r)[i]? = some d) : ∃ n b, r[i]? = some (n, b) ∧ d = .tup [.str n, .bl b] := by
  unfold rowD at h
  rw [List.getElem?_map] at h
  obtain ⟨⟨n, b⟩, h1, h2⟩ := Option.map_eq_some_iff.mp h
  exact ⟨n, b, h1, h2.symm⟩
theorem rowD_len {r : Row} : (rowD r).length = r.length := by unfold rowD; rw [List.length_map]
/-! ### equality of data -/
mutual
theorem deq_refl : ∀ d : D, PyData.eqv (toPy d) (toPy d) = true
  | .non => rfl
  | .bl b => by unfold toPy PyData.eqv; simp
  | .int b => by unfold toPy PyData.eqv; simp
  | .str b => by unfold toPy PyData.eqv; simp
  | .ty _ => rfl
  | .ref _ => rfl
  | .scr _ => rfl
  | .tup ds => by unfold toPy PyData.eqv; exact deqs_refl ds
  | .lst ds => by unfold toPy PyData.eqv; exact deqs_refl ds
theorem deqs_refl : ∀ ds : List D, PyData.eqvAll (toPys ds) (toPys ds) = true
  | [] => rfl
  | d :: ds => by unfold toPys PyData.eqvAll; rw [deq_refl d, deqs_refl ds]; rfl
end
theorem x_eqSelf {S : Sto} {d : D} (h : pureD d = true) (hd : dep d ≤ 60) : eqR d d S = some true := by
  unfold eqR
  rw [top_pure h, g?_pos ⟨h, h, by omega⟩]
  exact congrArg some (deq_refl d)
theorem x_eqPl {S : Sto} {n h : Str} {b c : Bool} : eqR (.tup [.str n, .bl b]) (.tup [.str h, .bl c]) S = some (decide (n = h) && (b == c)) := by
  unfold eqR
  rw [g?_pos ⟨rfl, rfl, show min 1 1 ≤ 60 by decide⟩]
  congr 1
  show PyData.eqv (.tuple [.str n, .bool b]) (.tuple [.str h, .bool c]) = _
  simp [PyData.eqv, PyData.eqvAll]
  rfl
theorem row_pure : ∀ r : Row, pureDs (rowD r) = true ∧ deps (rowD r) ≤ 1 ∧ dsizes (rowD r)
  | [] => ⟨rfl, Nat.zero_le _, by unfold rowD dsizes; exact trivial⟩
  | (n, b) :: r => by
    obtain ⟨h1, h2, h3⟩ := row_pure r
    have e : rowD ((n, b) :: r) = .tup [.str n, .bl b] :: rowD r := rfl
    rw [e]
    refine ⟨by unfold pureDs; rw [h1]; rfl, ?_, ?_⟩
    · unfold deps
      have : dep (.tup [.str n, .bl b]) = 1 := rfl
      omega
    · unfold dsizes
      refine ⟨?_, h3⟩
      unfold dsize
      refine ⟨show 2 ≤ 1000 by decide, ?_⟩
      unfold dsizes dsizes dsizes dsize
      exact ⟨trivial, trivial, trivial⟩
def spReach : DSp := fun ds S Q _ => ∃ o r h, ds = [o, .str h] ∧ listOf S o = some (rowD r) ∧ (r.length : Int) < 2 ^ 62 ∧ Q (.int (rch r h)) S
def n_reach : List Str := ["row", "house", "place", "name", "bound"]
def b_reach_1 : List MS := [(.ite (.and (.var 4) (.cmp .Eq (.var 3) (.var 1))) [(.ret (.var 2))] [])]
def m_reach : List MS := [(.for_ 2 (.tp [(.nm 2), (.tp [(.nm 3), (.nm 4)])]) [(.var 0)] b_reach_1), (.ret (.blt .len false [(.var 0)]))]
def n__law_reach : List Str := ["_law_row_here", "_law_house", "_law_place"]
def b__law_reach_1 : List MS := [(.ite (.cmp .Eq (.idx (.var 0) (.var 2)) (.tup [(.var 1), (.cst (.bl true))])) [(.ret (.var 2))] [])]
def m__law_reach : List MS := [(.for_ 1 (.nm 2) [(.blt .len false [(.var 0)])] b__law_reach_1), (.ret (.blt .len false [(.var 0)]))]
def n__law_row : List Str := ["_law_feed_here", "_law_many", "_law_row_here", "_law_k"]
def b__law_row_1 : List MS := [(.exp (.bm .append false (.var 2) [(.tup [(.call "_law_name" [(.idx (.var 0) (.cst (.int 2))), (.bin .Mod false (.idx (.var 0) (.bin .Add false (.cst (.int 4)) (.var 3))) (.var 1))]), (.cmp .Gt (.bin .Mod false (.idx (.var 0) (.bin .Add false (.cst (.int 13)) (.var 3))) (.cst (.int 4))) (.cst (.int 0)))])]))]
def m__law_row : List MS := [(.asg (.nm 1) (.bin .Add false (.cst (.int 1)) (.bin .Mod false (.idx (.var 0) (.cst (.int 0))) (.cst (.int 9))))), (.asg (.nm 2) (.lst true [])), (.for_ 1 (.nm 3) [(.bin .Add false (.cst (.int 2)) (.bin .Mod false (.idx (.var 0) (.cst (.int 3))) (.cst (.int 7))))] b__law_row_1), (.ret (.frz (.var 2)))]
theorem ok_reach {G : Gc} : BodyOk G n_reach 2 m_reach spReach := by
  rintro ds S Q X - ⟨o, r, h, rfl, hl, hz, q⟩
  show wSs G _ m_reach [some o, some (.str h), none, none, none] S _
  unfold m_reach
  obtain ⟨g, h1, h2⟩ := x_it2O hl
  walk_at "x"
  simp only [h1, x_some]
  refine for_rule (fun i σ S' => S' = S ∧ (∃ a b c, σ = [some o, some (.str h), a, b, c]) ∧ ∀ j, j < i → ∀ q, r[j]? = some q → ¬ (q.2 = true ∧ q.1 = h)) ⟨rfl, ⟨_, _, _, rfl⟩, fun j hj => absurd hj (Nat.not_lt_zero _)⟩ ?_ ?_
  · rintro i d σ S' hd ⟨rfl, ⟨a, b, c, rfl⟩, hall⟩
    refine ⟨h2, ?_⟩
    obtain ⟨e, he, rfl⟩ := enm_at hd
    obtain ⟨n, b, hr, rfl⟩ := rowD_at he
    unfold b_reach_1
    walk_at "x"
    rw [Nat.zero_add]
    have step : ¬ (b = true ∧ n = h) → ∀ j, j < i + 1 → ∀ q, r[j]? = some q → ¬ (q.2 = true ∧ q.1 = h) := by
      intro hn j hj q hq
      rcases Nat.lt_succ_iff_lt_or_eq.mp hj with z | rfl
      · exact hall j z q hq
      · rw [hr] at hq; cases hq; exact hn
    by_cases hb : b = true
    · by_cases hq : n = h
      · subst hb hq
        rw [rch_at hall hr] at q
        rw [if_pos rfl, if_pos rfl]
        exact q
      · rw [if_pos hb, if_neg hq]
        exact ⟨⟨_, _, _, rfl⟩, step fun z => hq z.2⟩
    · rw [if_neg hb, if_neg hb]
      exact ⟨⟨_, _, _, rfl⟩, step fun z => hb z.1⟩
  · rintro σ S' ⟨rfl, ⟨a, b, c, rfl⟩, hall⟩
    refine ⟨h2, ?_⟩
    rw [enm_len, rowD_len] at hall
    walk_at "x"
    simp only [x_lenO hl, x_some, x_val, rowD_len]
    rw [rch_end hall] at q
    exact q
theorem ok_law_reach {G : Gc} : BodyOk G n__law_reach 2 m__law_reach spReach := by
  rintro ds S Q X - ⟨o, r, h, rfl, hl, hz, q⟩
  show wSs G _ m__law_reach [some o, some (.str h), none] S _
  unfold m__law_reach
  walk_at "x"
  simp only [x_lenO hl, x_some, x_val, rowD_len]
  walk_at "x"
  have hr8 : (r.length : Int) < 2 ^ 62 := hz
  refine ⟨⟨by omega, hr8⟩, ?_⟩
  refine for_ruleN (fun i σ S' => S' = S ∧ (∃ a, σ = [some o, some (.str h), a]) ∧ ∀ j, j < i → ∀ q, r[j]? = some q → ¬ (q.2 = true ∧ q.1 = h)) ⟨rfl, ⟨_, rfl⟩, fun j hj => absurd hj (Nat.not_lt_zero _)⟩ ?_ ?_
  · rintro i d σ S' hd ⟨rfl, ⟨a, rfl⟩, hall⟩
    obtain ⟨rfl, hi⟩ := range_at hd
    rw [Int.toNat_natCast] at hi
    refine ⟨trivial, ?_⟩
    obtain ⟨⟨n, b⟩, hr⟩ : ∃ q, r[i]? = some q := ⟨_, List.getElem?_eq_getElem hi⟩
    have hat : atI (rowD r) (i : Int) = some (.tup [.str n, .bl b]) := by
      rw [atI_nn (by omega) (by rw [rowD_len]; omega), Int.toNat_natCast]
      unfold rowD
      rw [List.getElem?_map, hr]
      rfl
    unfold b__law_reach_1
    walk_at "x"
    simp only [x_idxO hl, hat, x_some, x_eqPl, beq_true]
    refine ⟨by decide, ?_⟩
    have step : ¬ (b = true ∧ n = h) → ∀ j, j < i + 1 → ∀ q, r[j]? = some q → ¬ (q.2 = true ∧ q.1 = h) := by
      intro hn j hj q hq
      rcases Nat.lt_succ_iff_lt_or_eq.mp hj with z | rfl
      · exact hall j z q hq
      · rw [hr] at hq; cases hq; exact hn
    by_cases hc : b = true ∧ n = h
    · obtain ⟨rfl, rfl⟩ := hc
      rw [rch_at hall hr] at q
      rw [if_pos (by simp)]
      exact q
    · rw [if_neg (by simpa [and_comm] using hc)]
      exact ⟨⟨_, rfl⟩, step hc⟩
  · rintro σ S' ⟨rfl, ⟨a, rfl⟩, hall⟩
    refine ⟨trivial, ?_⟩
    rw [List.length_map, List.length_range, Int.toNat_natCast] at hall
    walk_at "x"
    simp only [x_lenO hl, x_some, x_val, rowD_len]
    rw [rch_end hall] at q
    exact q
def RowOk (r : Row) : Prop := 2 ≤ r.length ∧ r.length ≤ 8 ∧ ∀ q ∈ r, ∃ p k : Int, q.1 = nameOf p k
/-- the row drawn of a feed -/
def spRow : DSp := fun ds S Q _ => ∃ fs, ds = [fdD fs] ∧ Feed fs ∧ ∀ r, RowOk r → Q (.lst (rowD r)) S
theorem ok_row {G : Gc} (h1 : G.fn "_law_name" = some (2, spName)) : BodyOk G n__law_row 1 m__law_row spRow := by
  rintro ds S Q X - ⟨fs, rfl, F, q⟩
  show wSs G _ m__law_row [some (fdD fs), none, none, none] S _
  unfold m__law_row fdD
  walk_at "x"
  refine fd_at F (by decide) (by decide) fun v v0 v1 => ?_
  walk_at "x"
  refine ⟨by decide, Nat.zero_le _, fun p hp => ?_⟩
  refine fd_at F (by decide) (by decide) fun v3 _ _ => ?_
  walk_at "x"
  refine ⟨by decide, ⟨by omega, by omega⟩, ?_⟩
  refine for_ruleN (fun i σ S' => ∃ r c, (r.length = i ∧ ∀ q ∈ r, ∃ p k : Int, q.1 = nameOf p k) ∧ S' = put S p (.lst (rowD r)) ∧ σ = [some (.lst (fs.map .int)), some (.int (1 + v % 9)), some (.ref p), c]) ⟨[], _, ⟨rfl, fun _ h => nomatch h⟩, rfl, rfl⟩ ?_ ?_
  · rintro i d σ S' hd ⟨r, c, ⟨hr, hn⟩, rfl, rfl⟩
    obtain ⟨rfl, hi⟩ := range_at hd
    have hi : i < 9 := by omega
    refine ⟨trivial, ?_⟩
    unfold b__law_row_1
    walk_at "x"
    simp only [h1, x_fn, true_and]
    refine fd_at F (by decide) (by decide) fun v2 _ _ => fd_at F (by omega) (by omega) fun v4 _ _ => ?_
    walk_at "x"
    refine ⟨by omega, callW_of ⟨_, _, rfl, fd_at F (by omega) (by omega) fun v13 _ _ => ?_⟩⟩
    walk_at "x"
    refine ⟨by decide, by decide, by rw [rowD_len]; exact Nat.lt_of_lt_of_le (m := 10) (by omega) (by decide), r ++ [(nameOf v2 (v4 % (1 + v % 9)), decide (0 < v13 % 4))], _, ⟨by rw [List.length_append]; simp; omega, fun q hq => ?_⟩, ?_, rfl⟩
    · rcases List.mem_append.mp hq with z | z
      · exact hn q z
      · obtain rfl := List.mem_singleton.mp z; exact ⟨_, _, rfl⟩
    unfold rowD plD
    rw [List.map_append]
    rfl
  · rintro σ S' ⟨r, c, ⟨hr, hn⟩, rfl, rfl⟩
    refine ⟨trivial, ?_⟩
    walk_at "x"
    rw [rm_put hp]
    rw [List.length_map, List.length_range] at hr
    exact q r ⟨by omega, by omega, hn⟩
end Mn

namespace Mn
open PySem L2
local macro_rules | `(tactic| walk_at "x") => `(tactic| try simp only [wSs, wS, wE, wEs, wC, x_add, x_sub, x_addS, x_addT, x_addL, x_mul, x_mulS, x_mulL, x_div, x_mod, x_pow, x_lt, x_le, x_gt, x_ge, x_eqD, x_neD, x_in, x_notIn, x_is, x_isNot, x_eqI, x_eqS, x_eqB, x_isNN, x_isBN, x_isIN, x_isSN, x_isTN, x_isLN, x_isRN, x_isBB, x_lenS, x_lenT, x_lenL, x_lenP, x_sumP, x_appP, x_appTP, x_idxP, x_frzP, x_abs, x_intI, x_intB, x_max, x_allL, x_sumL, x_listL, x_listT, x_isi, x_truB, x_truI, x_truL, x_truT, x_truN, x_idxS, x_idxL, x_idxT, x_slS, x_slT, x_slL, x_it0L, x_it0T, x_it0S, x_it0C, x_it1, x_it2L, x_val, x_upd, x_newF, x_newT, x_nm, x_tp, x_tps, x_tp0, x_ite, x_iteD, x_ifD, x_some, x_some2, x_map, x_eqInt, i_N_tuple, i_N_list, i_N_bool, i_N_int, i_N_str, i_N_tl, i_B_tuple, i_B_list, i_B_bool, i_B_int, i_B_str, i_B_tl, i_I_tuple, i_I_list, i_I_bool, i_I_int, i_I_str, i_I_tl, i_S_tuple, i_S_list, i_S_bool, i_S_int, i_S_str, i_S_tl, i_T_tuple, i_T_list, i_T_bool, i_T_int, i_T_str, i_T_tl, i_L_tuple, i_L_list, i_L_bool, i_L_int, i_L_str, i_L_tl, x_pure, x_new, x_fn, List.getElem?_cons_zero, List.getElem?_cons_succ, List.set_cons_zero, List.set_cons_succ, Option.bind_some, List.length_cons, List.length_nil, Nat.reduceAdd, true_and, and_true, decide_eq_true_eq, Bool.not_eq_true', decide_eq_false_iff_not, Bool.not_false, Bool.not_true, Bool.false_eq_true, Bool.true_eq_false, if_true, if_false, ite_true, ite_false])
def n_askable : List Str := ["row", "holder", "protested", "found", "place", "name", "bound"]
def b_askable_1 : List MS := [(.ite (.and (.var 6) (.or (.var 2) (.cmp .Eq (.var 4) (.cst (.int 0))))) [(.exp (.bm .append false (.var 3) [(.var 4)]))] [])]
def m_askable : List MS := [(.asg (.nm 3) (.lst true [])), (.for_ 2 (.tp [(.nm 4), (.tp [(.nm 5), (.nm 6)])]) [(.slU false (.var 0) (.call "reach" [(.var 0), (.var 1)]))] b_askable_1), (.ret (.var 3))]
def n__law_askable : List Str := ["_law_row_here", "_law_holder", "_law_protested", "_law_before", "_law_place"]
def c__law_askable_1 : List ME := [(.and (.idx (.idx (.var 3) (.var 4)) (.cst (.int 1))) (.or (.var 2) (.cmp .Eq (.var 4) (.cst (.int 0)))))]
def e__law_askable_2 : ME := (.var 4)
def m__law_askable : List MS := [(.asg (.nm 3) (.slU false (.var 0) (.call "_law_reach" [(.var 0), (.var 1)]))), (.ret (.lc 1 false (.nm 4) [(.blt .len false [(.var 3)])] c__law_askable_1 e__law_askable_2))]
/-! ### the places that may be asked -/
def mayAsk (r : Row) (p : Bool) (j : Nat) : Bool := match r[j]? with
  | some (_, b) => b && (p || decide (j = 0))
  | none => false
def asksTo (r : Row) (p : Bool) (n : Nat) : List Nat := (List.range n).filter (mayAsk r p)
def asks (r : Row) (h : Str) (p : Bool) : List Nat := asksTo r p (rch r h)
def natsD (l : List Nat) : List D := l.map fun (j : Nat) => .int (j : Int)
theorem asksTo_succ (r : Row) (p : Bool) (n : Nat) : asksTo r p (n + 1) = asksTo r p n ++ (if mayAsk r p n = true then [n] else []) := by
  unfold asksTo
  rw [List.range_succ, List.filter_append]
  congr 1
  simp only [List.filter_cons, List.filter_nil]
theorem asksTo_len (r : Row) (p : Bool) (n : Nat) : (asksTo r p n).length ≤ n := by
  have := List.length_filter_le (mayAsk r p) (List.range n)
  rw [List.length_range] at this
  exact this
theorem cut_to {ds : List D} {n : Nat} (h : n ≤ ds.length) : cutD ds none (some (n : Int)) = ds.take n := by
  unfold cutD
  have e0 : HT.sIx ds.length 0 none = 0 := rfl
  have e1 : HT.sIx ds.length ds.length (some (n : Int)) = n := by
    rw [HT.sIx_nat]
    omega
  rw [e0, e1]
  simp
def spAsk : DSp := fun ds S Q _ => ∃ o r h p, ds = [o, .str h, .bl p] ∧ listOf S o = some (rowD r) ∧ r.length ≤ 1000 ∧ ∀ q, S q = none → Q (.ref q) (put S q (.lst (natsD (asks r h p))))
def spLawAsk : DSp := fun ds S Q _ => ∃ o r h p, ds = [o, .str h, .bl p] ∧ listOf S o = some (rowD r) ∧ r.length ≤ 1000 ∧ Q (.lst (natsD (asks r h p))) S
theorem ok_askable {G : Gc} (h1 : G.fn "reach" = some (2, spReach)) : BodyOk G n_askable 3 m_askable spAsk := by
  rintro ds S Q X - ⟨o, r, h, p, rfl, hl, hz, q⟩
  show wSs G _ m_askable [some o, some (.str h), some (.bl p), none, none, none, none] S _
  unfold m_askable
  walk_at "x"
  refine ⟨Nat.zero_le _, fun l hp => ?_⟩
  simp only [h1, x_fn, true_and]
  have hl' : listOf (put S l (.lst [])) o = some (rowD r) := by
    cases o with
    | lst es => exact hl
    | ref a =>
      have ha := lstAt_some (show lstAt S a = some (rowD r) from hl)
      have n : a ≠ l := fun e => by subst e; rw [hp] at ha; cases ha
      exact lstAt_of (by rw [put_ne n]; exact ha)
    | _ => cases hl
  refine callW_of ⟨o, r, h, rfl, hl', by omega, ?_⟩
  walk_at "x"
  simp only [x_slO hl', x_some, x_newF, cut_to (ds := rowD r) (n := rch r h) (by rw [rowD_len]; exact rch_le r h), x_it2L]
  refine for_rule (fun i σ S' => S' = put S l (.lst (natsD (asksTo r p i))) ∧ ∃ a b c, σ = [some o, some (.str h), some (.bl p), some (.ref l), a, b, c]) ⟨rfl, _, _, _, rfl⟩ ?_ ?_
  · rintro i d σ S' hd ⟨rfl, a, b, c, rfl⟩
    refine ⟨trivial, ?_⟩
    have hi : i < ((rowD r).take (rch r h)).length := by
      have := (List.getElem?_eq_some_iff.mp hd).1
      rwa [enm_len] at this
    obtain ⟨e, he, rfl⟩ := enm_at hd
    have he : (rowD r)[i]? = some e := by
      rw [List.getElem?_take] at he
      split at he
      · exact he
      · cases he
    obtain ⟨n, b, hr, rfl⟩ := rowD_at he
    have hl : i < r.length := (List.getElem?_eq_some_iff.mp hr).1
    have hm : mayAsk r p i = (b && (p || decide (i = 0))) := by unfold mayAsk; rw [hr]
    unfold b_askable_1
    walk_at "x"
    rw [Nat.zero_add]
    rw [asksTo_succ, hm]
    have hlen : (natsD (asksTo r p i)).length < sizeLine := by
      unfold natsD
      rw [List.length_map]
      exact Nat.lt_of_le_of_lt (asksTo_len r p i) (Nat.lt_of_lt_of_le (m := 1000) (by omega) (by decide))
    have happ : natsD (asksTo r p i ++ [i]) = natsD (asksTo r p i) ++ [.int i] := by unfold natsD; rw [List.map_append]; rfl
    cases b with
    | false => simp
    | true =>
      cases p with
      | true => simp [hlen, happ]
      | false =>
        by_cases h0 : i = 0
        · subst h0
          simp [hlen, happ] at *
        · simp [h0, show ¬ (i : Int) = 0 by omega]
  · rintro σ S' ⟨rfl, a, b, c, rfl⟩
    refine ⟨trivial, ?_⟩
    rw [enm_len, List.length_take, rowD_len, Nat.min_eq_left (rch_le r h)]
    walk_at "x"
    exact q l hp
theorem fm_filter {α : Type} {F : D → Option D} {g h : α → D} {c : α → Bool} : ∀ (l : List α), (∀ x, F (g x) = if c x = true then some (h x) else none) → (l.map g).filterMap F = (l.filter c).map h
  | [], _ => rfl
  | x :: l, H => by
    rw [List.map_cons, List.filterMap_cons, H x, List.filter_cons]
    cases c x with
    | true => simp only [if_true, List.map_cons, fm_filter l H]
    | false => simp only [Bool.false_eq_true, if_false, fm_filter l H]
theorem asks_le (r : Row) (h : Str) (p : Bool) : (asks r h p).length ≤ r.length := Nat.le_trans (asksTo_len r p _) (rch_le r h)
theorem nats_pure : ∀ l : List Nat, pureDs (natsD l) = true ∧ deps (natsD l) = 0 ∧ dsizes (natsD l)
  | [] => ⟨rfl, rfl, by unfold natsD dsizes; exact trivial⟩
  | j :: l => by
    obtain ⟨h1, h2, h3⟩ := nats_pure l
    have e : natsD (j :: l) = .int (j : Int) :: natsD l := rfl
    rw [e]
    refine ⟨by unfold pureDs; rw [h1]; rfl, by unfold deps; rw [h2]; rfl, ?_⟩
    unfold dsizes dsize
    exact ⟨trivial, h3⟩
theorem top_put {S : Sto} {a : Addr} {ds : List D} : top (put S a (.lst ds)) (.ref a) = .lst ds := by
  show (match lstAt (put S a (.lst ds)) a with | some ds => D.lst ds | none => .ref a) = _
  rw [lstAt_of put_same]
mutual
theorem same_refl : ∀ d : D, pureD d = true → sameD d d = true
  | .non, _ => by unfold sameD; rfl
  | .bl b, _ => by unfold sameD; simp
  | .int b, _ => by unfold sameD; simp
  | .str b, _ => by unfold sameD; simp
  | .ty _, h => by unfold pureD at h; cases h
  | .ref _, h => by unfold pureD at h; cases h
  | .scr _, h => by unfold pureD at h; cases h
  | .tup ds, h => by unfold pureD at h; unfold sameD; exact sames_refl ds h
  | .lst ds, h => by unfold pureD at h; unfold sameD; exact sames_refl ds h
theorem sames_refl : ∀ ds : List D, pureDs ds = true → sameDs ds ds = true
  | [], _ => by unfold sameDs; rfl
  | d :: ds, h => by unfold pureDs at h; unfold sameDs; rw [same_refl d (and2 h).1, sames_refl ds (and2 h).2]; rfl
end
theorem ok_law_askable {G : Gc} (h1 : G.fn "_law_reach" = some (2, spReach)) : BodyOk G n__law_askable 3 m__law_askable spLawAsk := by
  rintro ds S Q X - ⟨o, r, h, p, rfl, hl, hz, q⟩
  show wSs G _ m__law_askable [some o, some (.str h), some (.bl p), none, none] S _
  unfold m__law_askable
  walk_at "x"
  simp only [h1, x_fn, true_and]
  refine callW_of ⟨o, r, h, rfl, hl, by omega, ?_⟩
  have hc := rch_le r h
  have hlt : ((rowD r).take (rch r h)).length = rch r h := by rw [List.length_take, rowD_len]; omega
  walk_at "x"
  simp only [x_slO hl, x_some, x_newF, cut_to (ds := rowD r) (n := rch r h) (by rw [rowD_len]; exact hc), x_lenL, x_val, hlt]
  walk_at "x"
  refine ⟨⟨by omega, by omega⟩, ?_⟩
  rw [Int.toNat_natCast]
  refine lc_any (fun z => match z with
    | .int j => if mayAsk r p j.toNat = true then some (.int j) else none
    | _ => none) ?_ trivial ?_ ?_
  · rw [List.length_map, List.length_range]
    exact Nat.le_trans (m := 1000) (by omega) (by decide)
  · intro z hz' q' hq
    obtain ⟨j, hj, rfl⟩ := List.mem_map.mp hz'
    have hj : j < rch r h := List.mem_range.mp hj
    obtain ⟨⟨n, b⟩, hr⟩ : ∃ q, r[j]? = some q := ⟨_, List.getElem?_eq_getElem (by omega)⟩
    have hm : mayAsk r p j = (b && (p || decide (j = 0))) := by unfold mayAsk; rw [hr]
    have hat : atI ((rowD r).take (rch r h)) (j : Int) = some (.tup [.str n, .bl b]) := by
      rw [atI_nn (by omega) (by rw [hlt]; omega), Int.toNat_natCast, List.getElem?_take, if_pos hj]
      unfold rowD
      rw [List.getElem?_map, hr]
      rfl
    have hat1 : atI [D.str n, D.bl b] 1 = some (.bl b) := rfl
    simp only [Int.toNat_natCast, hm] at hq
    unfold c__law_askable_1 e__law_askable_2
    walk_at "x"
    simp only [hat, x_some, x_idxT, hat1, x_truB]
    cases b with
    | false => simpa using hq
    | true =>
      cases p with
      | true => simpa [x_truB, x_some] using hq
      | false =>
        by_cases h0 : j = 0
        · subst h0
          simpa [x_truB, x_some] using hq
        · simpa [x_truB, x_some, h0, show ¬ (j : Int) = 0 by omega] using hq
  · rw [fm_filter (List.range (rch r h)) (c := mayAsk r p) (h := fun (j : Nat) => .int (j : Int)) (fun j => by simp)]
    exact q
end Mn

namespace Mn
open PySem L2
local macro_rules | `(tactic| walk_at "x") => `(tactic| try simp only [wSs, wS, wE, wEs, wC, x_add, x_sub, x_addS, x_addT, x_addL, x_mul, x_mulS, x_mulL, x_div, x_mod, x_pow, x_lt, x_le, x_gt, x_ge, x_eqD, x_neD, x_in, x_notIn, x_is, x_isNot, x_eqI, x_eqS, x_eqB, x_isNN, x_isBN, x_isIN, x_isSN, x_isTN, x_isLN, x_isRN, x_isBB, x_lenS, x_lenT, x_lenL, x_lenP, x_sumP, x_appP, x_appTP, x_idxP, x_frzP, x_abs, x_intI, x_intB, x_max, x_allL, x_sumL, x_listL, x_listT, x_isi, x_truB, x_truI, x_truL, x_truT, x_truN, x_idxS, x_idxL, x_idxT, x_slS, x_slT, x_slL, x_it0L, x_it0T, x_it0S, x_it0C, x_it1, x_it2L, x_val, x_upd, x_newF, x_newT, x_nm, x_tp, x_tps, x_tp0, x_ite, x_iteD, x_ifD, x_some, x_some2, x_map, x_eqInt, i_N_tuple, i_N_list, i_N_bool, i_N_int, i_N_str, i_N_tl, i_B_tuple, i_B_list, i_B_bool, i_B_int, i_B_str, i_B_tl, i_I_tuple, i_I_list, i_I_bool, i_I_int, i_I_str, i_I_tl, i_S_tuple, i_S_list, i_S_bool, i_S_int, i_S_str, i_S_tl, i_T_tuple, i_T_list, i_T_bool, i_T_int, i_T_str, i_T_tl, i_L_tuple, i_L_list, i_L_bool, i_L_int, i_L_str, i_L_tl, x_pure, x_new, x_fn, List.getElem?_cons_zero, List.getElem?_cons_succ, List.set_cons_zero, List.set_cons_succ, Option.bind_some, List.length_cons, List.length_nil, Nat.reduceAdd, true_and, and_true, decide_eq_true_eq, Bool.not_eq_true', decide_eq_false_iff_not, Bool.not_false, Bool.not_true, Bool.false_eq_true, Bool.true_eq_false, if_true, if_false, ite_true, ite_false])
def n_returned : List Str := ["row", "place"]
def m_returned : List MS := [(.ret (.blt .list true [(.slU false (.var 0) (.blt .max false [(.cst (.int 2)), (.var 1)]))]))]
def n_honoured : List Str := ["row", "place"]
def m_honoured : List MS := [(.ite (.cmp .Eq (.var 1) (.cst (.int 0))) [(.ret (.lst true [(.idx (.var 0) (.cst (.int 0))), (.tup [(.idx (.idx (.var 0) (.cst (.int 1))) (.cst (.int 0))), (.cst (.bl false))])]))] []), (.ret (.blt .list true [(.slU false (.var 0) (.blt .max false [(.cst (.int 2)), (.bin .Add false (.var 1) (.cst (.int 1)))]))]))]
def n__law_kept : List Str := ["_law_row_here", "_law_place", "_law_k"]
def c__law_kept_1 : List ME := [(.or (.cmp .Lt (.var 2) (.cst (.int 2))) (.cmp .LtE (.var 2) (.var 1)))]
def e__law_kept_2 : ME := (.idx (.var 0) (.var 2))
def m__law_kept : List MS := [(.ite (.cmp .Eq (.var 1) (.cst (.int 0))) [(.ret (.lst false [(.idx (.var 0) (.cst (.int 0))), (.tup [(.idx (.idx (.var 0) (.cst (.int 1))) (.cst (.int 0))), (.cst (.bl false))])]))] []), (.ret (.lc 1 false (.nm 2) [(.blt .len false [(.var 0)])] c__law_kept_1 e__law_kept_2))]
/-! ### rows struck -/
theorem cut_take {ds : List D} {n : Nat} : cutD ds none (some (n : Int)) = ds.take n := by
  unfold cutD
  rw [HT.sIx_nat, HT.sIx_none]
  simp
theorem rowD_take {r : Row} {n : Nat} : (rowD r).take n = rowD (r.take n) := by unfold rowD; rw [List.map_take]
theorem take_fm : ∀ (ds : List D) (m : Nat), (List.range ds.length).filterMap (fun k => if k < m then ds[k]? else none) = ds.take m
  | [], m => by simp
  | d :: ds, 0 => by
    simp
  | d :: ds, m + 1 => by
    rw [List.length_cons, List.range_succ_eq_map, List.filterMap_cons]
    simp only [Nat.zero_lt_succ, if_true, List.getElem?_cons_zero, List.take_succ_cons]
    congr 1
    rw [List.filterMap_map, ← take_fm ds m]
    congr 1
    funext k
    simp [Function.comp]
/-- what is left behind an asking, an honouring -/
def retR (r : Row) (j : Nat) : Row := r.take (max 2 j)
def honR (r : Row) (j : Nat) : Row := if j = 0 then [r.getD 0 default, ((r.getD 1 default).1, false)] else r.take (max 2 (j + 1))
def spRet : DSp := fun ds S Q _ => ∃ o r j, ds = [o, .int (j : Nat)] ∧ listOf S o = some (rowD r) ∧ ∀ q, S q = none → Q (.ref q) (put S q (.lst (rowD (retR r j))))
def spHon : DSp := fun ds S Q _ => ∃ o r j, ds = [o, .int (j : Nat)] ∧ listOf S o = some (rowD r) ∧ 2 ≤ r.length ∧ ∀ q, S q = none → Q (.ref q) (put S q (.lst (rowD (honR r j))))
def spKept : DSp := fun ds S Q _ => ∃ o r j, ds = [o, .int (j : Nat)] ∧ listOf S o = some (rowD r) ∧ 2 ≤ r.length ∧ r.length ≤ 1000 ∧ Q (.lst (rowD (honR r j))) S
theorem max_nat (j : Nat) : (if (j : Int) > 2 then (j : Int) else 2) = ((max 2 j : Nat) : Int) := by
  split <;> omega
theorem ok_returned {G : Gc} : BodyOk G n_returned 2 m_returned spRet := by
  rintro ds S Q X - ⟨o, r, j, rfl, hl, q⟩
  show wSs G _ m_returned [some o, some (.int j)] S _
  unfold m_returned
  walk_at "x"
  rw [max_nat]
  simp only [x_slO hl, x_some, x_newF, cut_take, x_listL, x_newT, rowD_take]
  exact q
theorem row_at {r : Row} {j : Nat} (h : j < r.length) : atI (rowD r) (j : Int) = some (plD (r.getD j default)) := by
  rw [atI_nn (by omega) (by rw [rowD_len]; omega), Int.toNat_natCast]
  unfold rowD
  rw [List.getElem?_map, List.getElem?_eq_getElem h, List.getD_eq_getElem?_getD, List.getElem?_eq_getElem h]
  rfl
theorem ok_honoured {G : Gc} : BodyOk G n_honoured 2 m_honoured spHon := by
  rintro ds S Q X - ⟨o, r, j, rfl, hl, h2, q⟩
  show wSs G _ m_honoured [some o, some (.int j)] S _
  unfold m_honoured
  have a0 := row_at (r := r) (j := 0) (by omega)
  have a1 := row_at (r := r) (j := 1) (by omega)
  have a0 : atI (rowD r) 0 = some (plD (r.getD 0 default)) := a0
  have a1 : atI (rowD r) 1 = some (plD (r.getD 1 default)) := a1
  walk_at "x"
  simp only [x_idxO hl, a0, a1, x_some]
  split
  · rename_i h0
    have h0 : j = 0 := by omega
    subst h0
    refine ⟨_, rfl, by decide, by decide, fun p hp => ?_⟩
    exact q p hp
  · rename_i h0
    have h0 : j ≠ 0 := by omega
    have e := max_nat (j + 1)
    rw [Int.natCast_add] at e
    have e : (if (j : Int) + 1 > 2 then (j : Int) + 1 else 2) = ((max 2 (j + 1) : Nat) : Int) := e
    rw [e]
    simp only [x_slO hl, x_some, x_newF, cut_take, x_listL, x_newT, rowD_take]
    have eh : honR r j = r.take (max 2 (j + 1)) := by unfold honR; rw [if_neg h0]
    rw [eh] at q
    exact q
/-- the items of a row below a place -/
theorem kept_lc {S : Sto} {o : D} {r : Row} {m : Nat} {f : D → Sto → (Option D → Sto → Prop) → Prop} {K : List D → Sto → Prop} (hl : listOf S o = some (rowD r)) (hz : r.length ≤ 1000)
    (hs : ∀ k, k < r.length → ∀ q : Option D → Sto → Prop, q (if k < m then some (plD (r.getD k default)) else none) S → f (.int (k : Int)) S q) (q : K (rowD (r.take m)) S) :
    lcLoop (fun _ => True) f ((List.range r.length).map fun (k : Nat) => .int (k : Int)) [] S K := by
  refine lc_any (fun z => match z with
    | .int k => if k.toNat < m then (rowD r)[k.toNat]? else none
    | _ => none) ?_ trivial ?_ ?_
  · rw [List.length_map, List.length_range]
    exact Nat.le_trans hz (by decide)
  · intro z hz' q' hq
    obtain ⟨k, hk, rfl⟩ := List.mem_map.mp hz'
    have hk := List.mem_range.mp hk
    refine hs k hk q' ?_
    have e : (rowD r)[k]? = some (plD (r.getD k default)) := by
      unfold rowD
      rw [List.getElem?_map, List.getElem?_eq_getElem hk, List.getD_eq_getElem?_getD, List.getElem?_eq_getElem hk]
      rfl
    simp only [Int.toNat_natCast, e] at hq
    exact hq
  · rw [List.filterMap_map]
    have e := take_fm (rowD r) m
    rw [rowD_take, rowD_len] at e
    rw [← e] at q
    exact q
theorem ok_kept {G : Gc} : BodyOk G n__law_kept 2 m__law_kept spKept := by
  rintro ds S Q X - ⟨o, r, j, rfl, hl, h2, hz, q⟩
  show wSs G _ m__law_kept [some o, some (.int j), none] S _
  unfold m__law_kept
  have a0 := row_at (r := r) (j := 0) (by omega)
  have a1 := row_at (r := r) (j := 1) (by omega)
  have a0 : atI (rowD r) 0 = some (plD (r.getD 0 default)) := a0
  have a1 : atI (rowD r) 1 = some (plD (r.getD 1 default)) := a1
  walk_at "x"
  simp only [x_idxO hl, a0, a1, x_some, x_lenO hl, x_val, rowD_len]
  walk_at "x"
  split
  · rename_i h0
    have h0 : j = 0 := by omega
    subst h0
    exact ⟨_, rfl, by decide, by decide, q⟩
  · rename_i h0
    have h0 : j ≠ 0 := by omega
    have eh : honR r j = r.take (max 2 (j + 1)) := by unfold honR; rw [if_neg h0]
    rw [eh] at q
    refine ⟨⟨by omega, by omega⟩, ?_⟩
    rw [Int.toNat_natCast]
    exact kept_lc (m := max 2 (j + 1)) hl hz (fun k hk => by
      unfold c__law_kept_1 e__law_kept_2
      walk_at "x"
      intro q' hq
      simp only [x_idxO hl, row_at hk, x_some]
      by_cases c2 : (k : Int) < 2
      · rw [if_pos c2, if_pos c2]
        rw [if_pos (by omega)] at hq
        exact hq
      · rw [if_neg c2]
        by_cases cj : (k : Int) ≤ j
        · rw [if_pos cj]
          rw [if_pos (by omega)] at hq
          exact hq
        · rw [if_neg cj]
          rw [if_neg (by omega)] at hq
          exact hq) q
theorem same_row {n : Nat} {S : Sto} {f : D} {r : Row} (hn : 2 ≤ n) (hl : r.length ≤ 1000) (hf : top S f = .lst (rowD r)) {k : D → Sto → Prop} {x : Exc → Sto → Prop} (h : k (.bl true) S) : callW (spSame n) [f, .lst (rowD r)] S k x := by
  obtain ⟨p1, p2, p3⟩ := row_pure r
  have hd : dsize (.lst (rowD r)) := by unfold dsize; exact ⟨by rw [rowD_len]; exact hl, p3⟩
  refine callW_of ⟨_, _, rfl, by rw [hf]; unfold pureD; exact p1, by unfold pureD; exact p1, by unfold dep; omega, by rw [hf]; exact hd, hd, ?_⟩
  rw [hf, same_refl _ (by unfold pureD; exact p1)]
  exact h
theorem ret_len (r : Row) (j : Nat) : (retR r j).length ≤ r.length := by unfold retR; rw [List.length_take]; omega
theorem hon_len (r : Row) (j : Nat) (h : 2 ≤ r.length) : (honR r j).length ≤ r.length := by
  unfold honR
  split
  · exact h
  · rw [List.length_take]; omega
end Mn

namespace Mn
open PySem L2
local macro_rules | `(tactic| walk_at "x") => `(tactic| try simp only [wSs, wS, wE, wEs, wC, x_add, x_sub, x_addS, x_addT, x_addL, x_mul, x_mulS, x_mulL, x_div, x_mod, x_pow, x_lt, x_le, x_gt, x_ge, x_eqD, x_neD, x_in, x_notIn, x_is, x_isNot, x_eqI, x_eqS, x_eqB, x_isNN, x_isBN, x_isIN, x_isSN, x_isTN, x_isLN, x_isRN, x_isBB, x_lenS, x_lenT, x_lenL, x_lenP, x_sumP, x_appP, x_appTP, x_idxP, x_frzP, x_abs, x_intI, x_intB, x_max, x_allL, x_sumL, x_listL, x_listT, x_isi, x_truB, x_truI, x_truL, x_truT, x_truN, x_idxS, x_idxL, x_idxT, x_slS, x_slT, x_slL, x_it0L, x_it0T, x_it0S, x_it0C, x_it1, x_it2L, x_val, x_upd, x_newF, x_newT, x_nm, x_tp, x_tps, x_tp0, x_ite, x_iteD, x_ifD, x_some, x_some2, x_map, x_eqInt, i_N_tuple, i_N_list, i_N_bool, i_N_int, i_N_str, i_N_tl, i_B_tuple, i_B_list, i_B_bool, i_B_int, i_B_str, i_B_tl, i_I_tuple, i_I_list, i_I_bool, i_I_int, i_I_str, i_I_tl, i_S_tuple, i_S_list, i_S_bool, i_S_int, i_S_str, i_S_tl, i_T_tuple, i_T_list, i_T_bool, i_T_int, i_T_str, i_T_tl, i_L_tuple, i_L_list, i_L_bool, i_L_int, i_L_str, i_L_tl, x_pure, x_new, x_fn, List.getElem?_cons_zero, List.getElem?_cons_succ, List.set_cons_zero, List.set_cons_succ, Option.bind_some, List.length_cons, List.length_nil, Nat.reduceAdd, true_and, and_true, decide_eq_true_eq, Bool.not_eq_true', decide_eq_false_iff_not, Bool.not_false, Bool.not_true, Bool.false_eq_true, Bool.true_eq_false, if_true, if_false, ite_true, ite_false])
/-! ### found reads as due, lists of the store too -/
mutual
def Vw (S : Sto) : D → D → Prop
  | f, .lst gs => ∃ fs, (f = .lst fs ∨ ∃ a, f = .ref a ∧ S a = some (.lst fs)) ∧ Vws S fs gs
  | f, .tup gs => ∃ fs, f = .tup fs ∧ Vws S fs gs
  | f, .non => f = .non
  | f, .bl b => f = .bl b
  | f, .int b => f = .int b
  | f, .str b => f = .str b
  | _, .ty _ => False
  | _, .ref _ => False
  | _, .scr _ => False
def Vws (S : Sto) : List D → List D → Prop
  | fs, [] => fs = []
  | fs, g :: gs => ∃ f r, fs = f :: r ∧ Vw S f g ∧ Vws S r gs
end
theorem Vws.len {S : Sto} : ∀ {fs gs : List D}, Vws S fs gs → fs.length = gs.length
  | fs, [], h => by unfold Vws at h; rw [h]
  | fs, g :: gs, h => by
    unfold Vws at h
    obtain ⟨f, r, rfl, _, h2⟩ := h
    rw [List.length_cons, List.length_cons, h2.len]
theorem Vws.get {S : Sto} : ∀ {fs gs : List D} {i : Nat} {g : D}, Vws S fs gs → gs[i]? = some g → ∃ f, fs[i]? = some f ∧ Vw S f g
  | fs, [], i, g, h, e => by simp at e
  | fs, g' :: gs, 0, g, h, e => by
    unfold Vws at h
    obtain ⟨f, r, rfl, h1, h2⟩ := h
    simp at e; subst e
    exact ⟨f, rfl, h1⟩
  | fs, g' :: gs, i + 1, g, h, e => by
    unfold Vws at h
    obtain ⟨f, r, rfl, h1, h2⟩ := h
    obtain ⟨f', h3, h4⟩ := Vws.get (i := i) (g := g) h2 (by simpa using e)
    exact ⟨f', by simpa using h3, h4⟩
mutual
theorem Vw.refl {S : Sto} : ∀ d : D, pureD d = true → Vw S d d
  | .non, _ => by unfold Vw; rfl
  | .bl b, _ => by unfold Vw; rfl
  | .int b, _ => by unfold Vw; rfl
  | .str b, _ => by unfold Vw; rfl
  | .ty _, h => by unfold pureD at h; cases h
  | .ref _, h => by unfold pureD at h; cases h
  | .scr _, h => by unfold pureD at h; cases h
  | .tup ds, h => by unfold pureD at h; unfold Vw; exact ⟨ds, rfl, Vws.refl ds h⟩
  | .lst ds, h => by unfold pureD at h; unfold Vw; exact ⟨ds, .inl rfl, Vws.refl ds h⟩
theorem Vws.refl {S : Sto} : ∀ ds : List D, pureDs ds = true → Vws S ds ds
  | [], _ => by unfold Vws; rfl
  | d :: ds, h => by unfold pureDs at h; unfold Vws; exact ⟨d, ds, rfl, Vw.refl d (and2 h).1, Vws.refl ds (and2 h).2⟩
end
mutual
/-- no list or tuple of it is too long, nor too deep -/
def dSmall : Nat → D → Prop
  | 0, .tup _ => False
  | 0, .lst _ => False
  | n + 1, .tup ds => ds.length ≤ 100000 ∧ dSmalls n ds
  | n + 1, .lst ds => ds.length ≤ 100000 ∧ dSmalls n ds
  | _, _ => True
def dSmalls : Nat → List D → Prop
  | _, [] => True
  | n, d :: ds => dSmall n d ∧ dSmalls n ds
end
theorem dSmalls_get {n : Nat} : ∀ {ds : List D} {i : Nat} {d : D}, dSmalls n ds → ds[i]? = some d → dSmall n d
  | [], i, d, _, e => by simp at e
  | d' :: ds, 0, d, h, e => by unfold dSmalls at h; simp at e; subst e; exact h.1
  | d' :: ds, i + 1, d, h, e => by unfold dSmalls at h; exact dSmalls_get h.2 (by simpa using e)
def spSameT (n : Nat) : DSp := fun ds S Q _ => ∃ f d, ds = [f, d] ∧ Vw S f d ∧ dSmall n d ∧ Q (.bl true) S
/-- two sequences that read alike -/
theorem sameT_seq {G : Gc} {n : Nat} {f d : D} {fs ds : List D} {S : Sto} {k : D → Sto → Prop} (hG : G.fn "_law_same" = some (2, spSameT n)) (hf : ∀ j : Int, idxR f (.int j) S = atI fs j) (hd : ∀ j : Int, idxR d (.int j) S = atI ds j) (hv : Vws S fs ds) (hz : ds.length ≤ 100000) (zd : dSmalls n ds) (q : k (.bl true) S) :
    lcLoop (fun _ => True) (fun d_2 S2 q => wE G (fun _ _ _ => False) e__law_same_1 [some f, some d, some d_2] S2 fun y S4 => q (some y) S4) ((List.range ds.length).map fun (k : Nat) => .int (k : Int)) [] S fun acc S2 => ∃ a, allB S2 acc = some a ∧ k (.bl a) S2 := by
  refine lc_any (fun z => some (.bl true)) (by rw [List.length_map, List.length_range]; exact Nat.le_trans hz (by decide)) trivial ?_ ?_
  · intro z hz q' hq
    obtain ⟨j, hj, rfl⟩ := List.mem_map.mp hz
    have hj : j < ds.length := List.mem_range.mp hj
    have hv' : ds[j]? = some ds[j] := List.getElem?_eq_getElem hj
    obtain ⟨u, hu, vw⟩ := hv.get hv'
    unfold e__law_same_1
    walk_at "x"
    rw [hG]
    walk_at "x"
    rw [hf, hd, atI_nn (by omega) (by rw [hv.len]; omega), atI_nn (by omega) (by omega), Int.toNat_natCast, hu, hv']
    walk_at "x"
    exact callW_of ⟨_, _, rfl, vw, dSmalls_get zd hv', hq⟩
  · refine ⟨true, ?_, q⟩
    have e : ((List.range ds.length).map fun (k : Nat) => D.int (k : Int)).filterMap (fun _ => some (D.bl true)) = (List.replicate ds.length true).map .bl := by
      rw [List.filterMap_map, List.map_replicate]
      generalize ds.length = m
      induction m with
      | zero => rfl
      | succ m ih => rw [List.range_succ, List.filterMap_append, ih, List.replicate_succ']; rfl
    rw [e, allB_some]
    simp
theorem ok_sameT {G : Gc} (n : Nat) (hG : ∀ k, n = k + 1 → G.fn "_law_same" = some (2, spSameT k)) : BodyOk G n__law_same 2 m__law_same (spSameT n) := by
  rintro ds S Q X - ⟨f, d, rfl, vw, sm, q⟩
  show wSs G _ m__law_same [some f, some d, none] S _
  unfold m__law_same
  walk_at "x"
  cases d with
  | ty _ => unfold Vw at vw; exact vw.elim
  | ref _ => unfold Vw at vw; exact vw.elim
  | scr _ => unfold Vw at vw; exact vw.elim
  | non => unfold Vw at vw; subst vw; walk_at "x"; exact ⟨by decide, q⟩
  | bl b => unfold Vw at vw; subst vw; walk_at "x"; exact ⟨by decide, by simpa using q⟩
  | int b => unfold Vw at vw; subst vw; walk_at "x"; exact ⟨by decide, by simpa using q⟩
  | str b => unfold Vw at vw; subst vw; walk_at "x"; exact ⟨by decide, by simpa using q⟩
  | tup ds =>
    unfold Vw at vw
    obtain ⟨fs, rfl, hv⟩ := vw
    obtain ⟨k, rfl⟩ : ∃ k, n = k + 1 := by
      cases n with
      | zero => unfold dSmall at sm; exact sm.elim
      | succ k => exact ⟨k, rfl⟩
    unfold dSmall at sm
    walk_at "x"
    refine ⟨by decide, ?_⟩
    rw [if_neg (by decide), if_neg (by decide), if_pos (by rw [hv.len])]
    refine ⟨⟨by omega, by have := sm.1; omega⟩, ?_⟩
    rw [Int.toNat_natCast]
    exact sameT_seq (hG k rfl) (fun _ => rfl) (fun _ => rfl) hv sm.1 sm.2 q
  | lst ds =>
    unfold Vw at vw
    obtain ⟨fs, ho, hv⟩ := vw
    obtain ⟨k, rfl⟩ : ∃ k, n = k + 1 := by
      cases n with
      | zero => unfold dSmall at sm; exact sm.elim
      | succ k => exact ⟨k, rfl⟩
    unfold dSmall at sm
    have hl : listOf S f = some fs := by
      rcases ho with rfl | ⟨a, rfl, h⟩
      · rfl
      · exact lstAt_of h
    have hi : ∀ c, isiR S f c = isiR S (.lst fs) c := by
      rcases ho with rfl | ⟨a, rfl, h⟩
      · exact fun _ => rfl
      · intro c
        unfold isiR
        have e : tyN S (.ref a) = some "list" := by
          show (lstAt S a).map _ = _
          rw [lstAt_of h]; rfl
        rw [e]; rfl
    simp only [hi, x_lenO hl, x_some]
    walk_at "x"
    refine ⟨by decide, ?_⟩
    rw [if_neg (by decide), if_neg (by decide), if_pos (by rw [hv.len])]
    refine ⟨⟨by omega, by have := sm.1; omega⟩, ?_⟩
    rw [Int.toNat_natCast]
    exact sameT_seq (hG k rfl) (fun _ => x_idxO hl) (fun _ => rfl) hv sm.1 sm.2 q
end Mn

namespace Mn
open PySem L2
local macro_rules | `(tactic| walk_at "x") => `(tactic| try simp only [wSs, wS, wE, wEs, wC, x_add, x_sub, x_addS, x_addT, x_addL, x_mul, x_mulS, x_mulL, x_div, x_mod, x_pow, x_lt, x_le, x_gt, x_ge, x_eqD, x_neD, x_in, x_notIn, x_is, x_isNot, x_eqI, x_eqS, x_eqB, x_isNN, x_isBN, x_isIN, x_isSN, x_isTN, x_isLN, x_isRN, x_isBB, x_lenS, x_lenT, x_lenL, x_lenP, x_sumP, x_appP, x_appTP, x_idxP, x_frzP, x_abs, x_intI, x_intB, x_max, x_allL, x_sumL, x_listL, x_listT, x_isi, x_truB, x_truI, x_truL, x_truT, x_truN, x_idxS, x_idxL, x_idxT, x_slS, x_slT, x_slL, x_it0L, x_it0T, x_it0S, x_it0C, x_it1, x_it2L, x_val, x_upd, x_newF, x_newT, x_nm, x_tp, x_tps, x_tp0, x_ite, x_iteD, x_ifD, x_some, x_some2, x_map, x_eqInt, i_N_tuple, i_N_list, i_N_bool, i_N_int, i_N_str, i_N_tl, i_B_tuple, i_B_list, i_B_bool, i_B_int, i_B_str, i_B_tl, i_I_tuple, i_I_list, i_I_bool, i_I_int, i_I_str, i_I_tl, i_S_tuple, i_S_list, i_S_bool, i_S_int, i_S_str, i_S_tl, i_T_tuple, i_T_list, i_T_bool, i_T_int, i_T_str, i_T_tl, i_L_tuple, i_L_list, i_L_bool, i_L_int, i_L_str, i_L_tl, x_pure, x_new, x_fn, List.getElem?_cons_zero, List.getElem?_cons_succ, List.set_cons_zero, List.set_cons_succ, Option.bind_some, List.length_cons, List.length_nil, Nat.reduceAdd, true_and, and_true, decide_eq_true_eq, Bool.not_eq_true', decide_eq_false_iff_not, Bool.not_false, Bool.not_true, Bool.false_eq_true, Bool.true_eq_false, if_true, if_false, ite_true, ite_false])
def n_payable : List Str := ["row", "holder", "able", "protested", "place"]
def c_payable_1 : List ME := [(.cmp .In (.idx (.idx (.var 0) (.var 4)) (.cst (.int 0))) (.var 2))]
def e_payable_2 : ME := (.var 4)
def m_payable : List MS := [(.ret (.lc 0 false (.nm 4) [(.frz (.call "askable" [(.var 0), (.var 1), (.var 3)]))] c_payable_1 e_payable_2))]
def n_runs_of : List Str := ["row", "holder", "able", "protested", "places", "found", "place", "rest"]
def b_runs_of_1 : List MS := [(.exp (.bm .append false (.var 5) [(.bin .Add true (.lst false [(.var 6)]) (.var 7))]))]
def b_runs_of_2 : List MS := [(.ite (.cmp .Eq (.var 6) (.cst (.int 0))) [(.exp (.bm .append false (.var 5) [(.lst true [(.cst (.int 0))])]))] [(.for_ 0 (.nm 7) [(.frz (.call "runs_of" [(.frz (.call "returned" [(.var 0), (.var 6)])), (.idx (.idx (.var 0) (.var 6)) (.cst (.int 0))), (.var 2), (.var 3)]))] b_runs_of_1)])]
def m_runs_of : List MS := [(.asg (.nm 4) (.call "payable" [(.var 0), (.var 1), (.var 2), (.var 3)])), (.ite (.cmp .Eq (.var 4) (.lst false [])) [(.ret (.lst true [(.lst true [])]))] []), (.asg (.nm 5) (.lst true [])), (.for_ 0 (.nm 6) [(.var 4)] b_runs_of_2), (.ret (.var 5))]
def n__law_runs : List Str := ["_law_row_here", "_law_holder", "_law_able", "_law_protested", "_law_places", "_law_place", "_law_found", "_law_behind", "_law_rest"]
def c__law_runs_1 : List ME := [(.cmp .In (.idx (.idx (.var 0) (.var 5)) (.cst (.int 0))) (.var 2))]
def e__law_runs_2 : ME := (.var 5)
def e__law_runs_3 : ME := (.bin .Add false (.lst false [(.var 5)]) (.var 8))
def b__law_runs_4 : List MS := [(.ite (.cmp .Eq (.var 5) (.cst (.int 0))) [(.exp (.bm .append false (.var 6) [(.lst false [(.cst (.int 0))])]))] [(.asg (.nm 7) (.slU false (.var 0) (.blt .max false [(.cst (.int 2)), (.var 5)]))), (.asg (.nm 6) (.bin .Add true (.var 6) (.lc 0 false (.nm 8) [(.call "_law_runs" [(.var 7), (.idx (.idx (.var 0) (.var 5)) (.cst (.int 0))), (.var 2), (.var 3)])] [] e__law_runs_3)))])]
def m__law_runs : List MS := [(.asg (.nm 4) (.lc 0 false (.nm 5) [(.call "_law_askable" [(.var 0), (.var 1), (.var 3)])] c__law_runs_1 e__law_runs_2)), (.asg (.nm 6) (.lst true [])), (.for_ 0 (.nm 5) [(.var 4)] b__law_runs_4), (.ite (.cmp .Eq (.var 6) (.lst false [])) [(.ret (.lst false [(.lst false [])]))] []), (.ret (.frz (.var 6)))]
def n__law_able_names : List Str := ["_law_feed_here", "_law_k"]
def c__law_able_names_1 : List ME := [(.cmp .Gt (.bin .Mod false (.idx (.var 0) (.bin .Add false (.cst (.int 22)) (.var 1))) (.cst (.int 3))) (.cst (.int 0)))]
def e__law_able_names_2 : ME := (.call "_law_name" [(.idx (.var 0) (.cst (.int 2))), (.var 1)])
def m__law_able_names : List MS := [(.ret (.lc 1 false (.nm 1) [(.cst (.int 9))] c__law_able_names_1 e__law_able_names_2))]
/-! ### who pays, in which runs -/
def nmAt (r : Row) (j : Nat) : Str := (r.getD j default).1
def pays (r : Row) (h : Str) (able : List Str) (p : Bool) : List Nat := (asks r h p).filter fun j => decide (nmAt r j ∈ able)
def runsF : Nat → Row → Str → List Str → Bool → List (List Nat)
  | 0, _, _, _, _ => [[]]
  | n + 1, r, h, able, p => if pays r h able p = [] then [[]] else (pays r h able p).flatMap fun j => if j = 0 then [[0]] else (runsF n (retR r j) (nmAt r j) able p).map (j :: ·)
def strsD (l : List Str) : List D := l.map .str
theorem any_strs (x : Str) : ∀ l : List Str, (l.any ((fun z => deq z (.str x)) ∘ D.str)) = decide (x ∈ l)
  | [] => rfl
  | y :: l => by
    rw [List.any_cons, any_strs x l]
    have e : ((fun z => deq z (.str x)) ∘ D.str) y = (y == x) := by
      show PyData.eqv (.str y) (.str x) = _
      unfold PyData.eqv
      rfl
    rw [e]
    by_cases h : y = x
    · subst h; simp
    · have h' : ¬ x = y := fun q => h q.symm
      simp [h, h']
theorem inR_strs {S : Sto} {o : D} {x : Str} {l : List Str} (h : listOf S o = some (strsD l)) : inR (.str x) o S = some (decide (x ∈ l)) := by
  have e : ∀ ds, seqOf S o = some ds → listOf S o = some ds → inR (.str x) o S = g? (flat (.str x) = true ∧ ds.all flat = true) (ds.any fun z => deq z (.str x)) := by
    intro ds h1 h2
    cases o with
    | lst es => cases h2; rfl
    | ref a =>
      show (match seqOf S (.ref a) with | some ds => _ | none => none) = _
      rw [h1]
    | _ => cases h2
  have hs : seqOf S o = some (strsD l) := by
    cases o with
    | lst es => exact h
    | ref a => exact h
    | _ => cases h
  rw [e _ hs h, g?_pos ⟨rfl, by unfold strsD; rw [List.all_map]; simp [flat, Function.comp]⟩]
  congr 1
  unfold strsD
  rw [List.any_map]
  exact any_strs x l
theorem asks_lt {r : Row} {h : Str} {p : Bool} {j : Nat} (hj : j ∈ asks r h p) : j < rch r h ∧ (r.getD j default).2 = true ∧ j < r.length := by
  unfold asks asksTo at hj
  obtain ⟨h1, h2⟩ := List.mem_filter.mp hj
  have h1 := List.mem_range.mp h1
  have hl : j < r.length := Nat.lt_of_lt_of_le h1 (rch_le r h)
  refine ⟨h1, ?_, hl⟩
  unfold mayAsk at h2
  rw [List.getElem?_eq_getElem hl] at h2
  rw [List.getD_eq_getElem?_getD, List.getElem?_eq_getElem hl]
  simp only [Option.getD_some]
  generalize r[j] = z at h2 ⊢
  obtain ⟨n, b⟩ := z
  simp only [Bool.and_eq_true] at h2
  exact h2.1
theorem rch_take_le {r : Row} {h : Str} {n : Nat} : rch (r.take n) h ≤ n := by
  refine Nat.le_trans (rch_le _ _) ?_
  rw [List.length_take]
  omega
theorem rch_bound : ∀ {r : Row} {j : Nat}, j < r.length → (r.getD j default).2 = true → rch r (nmAt r j) ≤ j
  | [], j, h, _ => by simp at h
  | (n, b) :: r, 0, h, e => by
    have e : b = true := e
    have : nmAt ((n, b) :: r) 0 = n := rfl
    unfold rch
    rw [this, if_pos ⟨e, rfl⟩]
    exact Nat.le_refl _
  | (n, b) :: r, j + 1, h, e => by
    have : nmAt ((n, b) :: r) (j + 1) = nmAt r j := rfl
    rw [this]
    unfold rch
    split
    · exact Nat.zero_le _
    · exact Nat.succ_le_succ (rch_bound (r := r) (j := j) (by simpa using h) e)
/-- behind an asking fewer places are open -/
theorem rch_ret {r : Row} {h : Str} {p : Bool} {j : Nat} (hj : j ∈ asks r h p) (h0 : j ≠ 0) : rch (retR r j) (nmAt r j) ≤ j := by
  obtain ⟨h1, h2, h3⟩ := asks_lt hj
  unfold retR
  by_cases hc : 2 ≤ j
  · rw [Nat.max_eq_right hc]; exact rch_take_le
  · have : j = 1 := by omega
    subst this
    have e : (r.take (max 2 1)).getD 1 default = r.getD 1 default := by
      rw [List.getD_eq_getElem?_getD, List.getD_eq_getElem?_getD, List.getElem?_take, if_pos (by decide)]
    have := rch_bound (r := r.take (max 2 1)) (j := 1) (by rw [List.length_take]; omega) (by rw [e]; exact h2)
    unfold nmAt at this ⊢
    rw [e] at this
    exact this
theorem runsF_ne : ∀ (n : Nat) (r : Row) (h : Str) (able : List Str) (p : Bool), runsF n r h able p ≠ []
  | 0, _, _, _, _ => by unfold runsF; simp
  | n + 1, r, h, able, p => by
    unfold runsF
    split
    · simp
    · rename_i hp
      intro e
      obtain ⟨j, l, hl⟩ := List.exists_cons_of_ne_nil hp
      rw [hl, List.flatMap_cons] at e
      have e := (List.append_eq_nil_iff.mp e).1
      split at e
      · simp at e
      · exact runsF_ne n _ _ _ _ (List.map_eq_nil_iff.mp e)
theorem sum_runs (c : Nat → Bool) (f : Nat → List (List Nat)) : ∀ m : Nat, (∀ j, j < m → (f j).length ≤ 2 ^ j) → (((List.range m).filter c).flatMap f).length + 1 ≤ 2 ^ m
  | 0, _ => by simp
  | m + 1, h => by
    have ih := sum_runs c f m fun j hj => h j (Nat.lt_succ_of_lt hj)
    have hm := h m (Nat.lt_succ_self m)
    rw [List.range_succ, List.filter_append, List.flatMap_append, List.length_append, Nat.pow_succ]
    have e : (([m].filter c).flatMap f).length ≤ 2 ^ m := by
      simp only [List.filter_cons, List.filter_nil]
      split
      · simp only [List.flatMap_cons, List.flatMap_nil, List.append_nil]; exact hm
      · simp
    omega
theorem runsF_len : ∀ (n m : Nat) (r : Row) (h : Str) (able : List Str) (p : Bool), rch r h ≤ m → (runsF n r h able p).length ≤ 2 ^ m
  | 0, m, _, _, _, _, _ => by unfold runsF; simp; exact Nat.one_le_two_pow
  | n + 1, m, r, h, able, p, hm => by
    unfold runsF
    split
    · simp; exact Nat.one_le_two_pow
    · have e : pays r h able p = (List.range (rch r h)).filter (fun j => decide (nmAt r j ∈ able) && mayAsk r p j) := by
        unfold pays asks asksTo
        rw [List.filter_filter]
      rw [e]
      have := sum_runs (fun j => decide (nmAt r j ∈ able) && mayAsk r p j) (fun j => if j = 0 then [[0]] else if mayAsk r p j = true then (runsF n (retR r j) (nmAt r j) able p).map (j :: ·) else []) (rch r h) (fun j hj => by
        split
        · simp; exact Nat.one_le_two_pow
        · rename_i h0
          split
          · rename_i hma
            rw [List.length_map]
            exact runsF_len n j _ _ _ _ (rch_ret (h := h) (p := p) (by unfold asks asksTo; exact List.mem_filter.mpr ⟨List.mem_range.mpr hj, hma⟩) h0)
          · simp)
      have e2 : ((List.range (rch r h)).filter (fun j => decide (nmAt r j ∈ able) && mayAsk r p j)).flatMap (fun j => if j = 0 then [[0]] else if mayAsk r p j = true then (runsF n (retR r j) (nmAt r j) able p).map (j :: ·) else []) = ((List.range (rch r h)).filter (fun j => decide (nmAt r j ∈ able) && mayAsk r p j)).flatMap (fun j => if j = 0 then [[0]] else (runsF n (retR r j) (nmAt r j) able p).map (j :: ·)) := by
        rw [List.flatMap_def, List.flatMap_def]
        congr 1
        refine List.map_congr_left fun j hj => ?_
        have := (List.mem_filter.mp hj).2
        simp only [Bool.and_eq_true] at this
        rw [if_pos this.2]
      rw [e2] at this
      have := Nat.pow_le_pow_right (show 0 < 2 by decide) hm
      omega
theorem runsF_run : ∀ (n : Nat) (r : Row) (h : Str) (able : List Str) (p : Bool), ∀ l ∈ runsF n r h able p, l.length ≤ n
  | 0, _, _, _, _, l, hl => by
    unfold runsF at hl
    obtain rfl := List.mem_singleton.mp hl
    exact Nat.le_refl _
  | n + 1, r, h, able, p, l, hl => by
    unfold runsF at hl
    split at hl
    · obtain rfl := List.mem_singleton.mp hl
      exact Nat.zero_le _
    · obtain ⟨j, hj, hl⟩ := List.mem_flatMap.mp hl
      split at hl
      · obtain rfl := List.mem_singleton.mp hl
        exact Nat.succ_le_succ (Nat.zero_le _)
      · obtain ⟨l', hl', rfl⟩ := List.mem_map.mp hl
        exact Nat.succ_le_succ (runsF_run n _ _ _ _ l' hl')
def spPay : DSp := fun ds S Q _ => ∃ o r h o2 able p, ds = [o, .str h, o2, .bl p] ∧ listOf S o = some (rowD r) ∧ listOf S o2 = some (strsD able) ∧ r.length ≤ 1000 ∧ Q (.lst (natsD (pays r h able p))) S
/-- the comprehension that keeps the places that pay -/
theorem pay_lc {S : Sto} {f : D → Sto → (Option D → Sto → Prop) → Prop} {r : Row} {h : Str} {able : List Str} {p : Bool} {K : List D → Sto → Prop} {g : Sto → Prop} (hg : g S) (hz : r.length ≤ 1000)
    (hs : ∀ j, j ∈ asks r h p → ∀ q : Option D → Sto → Prop, q (if nmAt r j ∈ able then some (.int (j : Int)) else none) S → f (.int (j : Int)) S q) (q : K (natsD (pays r h able p)) S) :
    lcLoop g f (natsD (asks r h p)) [] S K := by
  refine lc_any (fun z => match z with
    | .int k => if nmAt r k.toNat ∈ able then some (.int k) else none
    | _ => none) ?_ hg ?_ ?_
  · unfold natsD; rw [List.length_map]
    exact Nat.le_trans (asks_le r h p) (Nat.le_trans hz (by decide))
  · intro z hz' q' hq
    obtain ⟨j, hj, rfl⟩ := List.mem_map.mp hz'
    refine hs j hj q' ?_
    simp only [Int.toNat_natCast] at hq
    exact hq
  · have e : natsD (pays r h able p) = (natsD (asks r h p)).filterMap (fun z => match z with
      | .int k => if nmAt r k.toNat ∈ able then some (.int k) else none
      | _ => none) := by
      unfold natsD pays
      rw [fm_filter (asks r h p) (c := fun j => decide (nmAt r j ∈ able)) (h := fun (j : Nat) => .int (j : Int)) (fun j => by simp)]
    rw [e] at q
    exact q
theorem pl0 {q : Str × Bool} {S : Sto} : idxR (plD q) (.int 0) S = some (.str q.1) := rfl
theorem ok_payable {G : Gc} (h1 : G.fn "askable" = some (3, spAsk)) : BodyOk G n_payable 4 m_payable spPay := by
  rintro ds S Q X - ⟨o, r, h, o2, able, p, rfl, hl, hl2, hz, q⟩
  show wSs G _ m_payable [some o, some (.str h), some o2, some (.bl p), none] S _
  unfold m_payable
  walk_at "x"
  simp only [h1, x_fn, true_and]
  refine callW_of ⟨o, r, h, p, rfl, hl, hz, fun l hp => ?_⟩
  walk_at "x"
  rw [rm_put hp]
  refine pay_lc trivial hz (fun j hj q' hq => ?_) q
  obtain ⟨a1, a2, a3⟩ := asks_lt hj
  unfold c_payable_1 e_payable_2
  walk_at "x"
  simp only [x_idxO hl, row_at a3, x_some, pl0, inR_strs hl2, decide_eq_true_eq]
  unfold nmAt at hq
  split
  · rename_i hc
    rw [if_pos hc] at hq
    exact hq
  · rename_i hc
    rw [if_neg hc] at hq
    exact hq
end Mn

namespace Mn
open PySem L2
local macro_rules | `(tactic| walk_at "x") => `(tactic| try simp only [wSs, wS, wE, wEs, wC, x_add, x_sub, x_addS, x_addT, x_addL, x_mul, x_mulS, x_mulL, x_div, x_mod, x_pow, x_lt, x_le, x_gt, x_ge, x_eqD, x_neD, x_in, x_notIn, x_is, x_isNot, x_eqI, x_eqS, x_eqB, x_isNN, x_isBN, x_isIN, x_isSN, x_isTN, x_isLN, x_isRN, x_isBB, x_lenS, x_lenT, x_lenL, x_lenP, x_sumP, x_appP, x_appTP, x_idxP, x_frzP, x_abs, x_intI, x_intB, x_max, x_allL, x_sumL, x_listL, x_listT, x_isi, x_truB, x_truI, x_truL, x_truT, x_truN, x_idxS, x_idxL, x_idxT, x_slS, x_slT, x_slL, x_it0L, x_it0T, x_it0S, x_it0C, x_it1, x_it2L, x_val, x_upd, x_newF, x_newT, x_nm, x_tp, x_tps, x_tp0, x_ite, x_iteD, x_ifD, x_some, x_some2, x_map, x_eqInt, i_N_tuple, i_N_list, i_N_bool, i_N_int, i_N_str, i_N_tl, i_B_tuple, i_B_list, i_B_bool, i_B_int, i_B_str, i_B_tl, i_I_tuple, i_I_list, i_I_bool, i_I_int, i_I_str, i_I_tl, i_S_tuple, i_S_list, i_S_bool, i_S_int, i_S_str, i_S_tl, i_T_tuple, i_T_list, i_T_bool, i_T_int, i_T_str, i_T_tl, i_L_tuple, i_L_list, i_L_bool, i_L_int, i_L_str, i_L_tl, x_pure, x_new, x_fn, List.getElem?_cons_zero, List.getElem?_cons_succ, List.set_cons_zero, List.set_cons_succ, Option.bind_some, List.length_cons, List.length_nil, Nat.reduceAdd, true_and, and_true, decide_eq_true_eq, Bool.not_eq_true', decide_eq_false_iff_not, Bool.not_false, Bool.not_true, Bool.false_eq_true, Bool.true_eq_false, if_true, if_false, ite_true, ite_false])
/-! ### runs told -/
def Sup (S S' : Sto) : Prop := ∀ a m, S a = some m → S' a = some m
theorem Sup.refl (S : Sto) : Sup S S := fun _ _ h => h
theorem Sup.trans {S S1 S2 : Sto} (a : Sup S S1) (b : Sup S1 S2) : Sup S S2 := fun x m h => b x m (a x m h)
theorem Sup.put {S S' : Sto} {p : Addr} {o : MO} (a : Sup S S') (h : S p = none) : Sup S (put S' p o) := fun x m e => by
  have n : x ≠ p := fun q => by subst q; rw [h] at e; cases e
  rw [put_ne n]
  exact a x m e
theorem Sup.fresh {S S' : Sto} {p : Addr} (a : Sup S S') (h : S' p = none) : S p = none := by
  cases e : S p with
  | none => rfl
  | some m => rw [a p m e] at h; cases h
theorem Sup.rm {S S' : Sto} {p : Addr} (a : Sup S S') (h : S p = none) : Sup S (rm S' p) := fun x m e => by
  have n : x ≠ p := fun q => by subst q; rw [h] at e; cases e
  rw [rm_ne n]
  exact a x m e
theorem Sup.list {S S' : Sto} {o : D} {ds : List D} (a : Sup S S') (h : listOf S o = some ds) : listOf S' o = some ds := by
  cases o with
  | lst es => exact h
  | ref x => exact lstAt_of (a _ _ (lstAt_some h))
  | _ => cases h
structure RunsAt (S S' : Sto) (q : Addr) (qs : List Addr) (rs : List (List Nat)) : Prop where
  top : S' q = some (.lst (qs.map .ref))
  len : qs.length = rs.length
  at_ : ∀ (i : Nat) x l, qs[i]? = some x → rs[i]? = some l → S' x = some (.lst (natsD l)) ∧ x ≠ q ∧ S x = none
theorem RunsAt.push {S S' : Sto} {q y : Addr} {qs : List Addr} {rs : List (List Nat)} {l : List Nat} (h : RunsAt S S' q qs rs) (hy : S' y = none) (sy : S y = none) : RunsAt S (put (put S' y (.lst (natsD l))) q (.lst ((qs ++ [y]).map .ref))) q (qs ++ [y]) (rs ++ [l]) := by
  have nq : y ≠ q := fun e => by subst e; rw [h.top] at hy; cases hy
  refine ⟨put_same, by simp [h.len], fun i x l' hx hl => ?_⟩
  rcases Nat.lt_or_ge i qs.length with hi | hi
  · rw [List.getElem?_append_left hi] at hx
    rw [List.getElem?_append_left (by rw [← h.len]; exact hi)] at hl
    obtain ⟨h1, h2, h3⟩ := h.at_ i x l' hx hl
    have nx : x ≠ y := fun e => by subst e; rw [h1] at hy; cases hy
    exact ⟨by rw [put_ne h2, put_ne nx]; exact h1, h2, h3⟩
  · rw [List.getElem?_append_right hi] at hx
    rw [List.getElem?_append_right (by rw [← h.len]; exact hi), ← h.len] at hl
    have hz : i - qs.length = 0 := by
      have := (List.getElem?_eq_some_iff.mp hx).1
      simp at this
      omega
    rw [hz] at hx hl
    simp at hx hl
    subst hx hl
    exact ⟨by rw [put_ne nq, put_same], nq, sy⟩
def spRuns (n : Nat) : DSp := fun ds S Q _ => ∃ o r h o2 able p, ds = [o, .str h, o2, .bl p] ∧ listOf S o = some (rowD r) ∧ listOf S o2 = some (strsD able) ∧ r.length ≤ 8 ∧ rch r h ≤ n ∧ n ≤ 8 ∧ ∀ S' q qs, Sup S S' → S q = none → RunsAt S S' q qs (runsF n r h able p) → Q (.ref q) S'
theorem pays_nil {r : Row} {h : Str} {able : List Str} {p : Bool} (e : rch r h = 0) : pays r h able p = [] := by
  unfold pays asks asksTo
  rw [e]
  rfl
theorem runsF_nil {n : Nat} {r : Row} {h : Str} {able : List Str} {p : Bool} (e : pays r h able p = []) : runsF n r h able p = [[]] := by
  cases n with
  | zero => rfl
  | succ n => unfold runsF; rw [if_pos e]
theorem eq_nil {S : Sto} {l : List Nat} : eqR (.lst (natsD l)) (.lst []) S = some (decide (l = [])) := by
  obtain ⟨p1, p2, p3⟩ := nats_pure l
  rw [eq_pure (by unfold pureD; exact p1) (by unfold pureD; rfl) (.inr (by decide))]
  congr 1
  cases l with
  | nil => rfl
  | cons j l => rfl
def runF (n : Nat) (r : Row) (able : List Str) (p : Bool) (j : Nat) : List (List Nat) := if j = 0 then [[0]] else (runsF n (retR r j) (nmAt r j) able p).map (j :: ·)
theorem take_flat {ps : List Nat} {i j : Nat} {f : Nat → List (List Nat)} (h : ps[i]? = some j) : (ps.take (i + 1)).flatMap f = (ps.take i).flatMap f ++ f j := by
  have e : ps.take (i + 1) = ps.take i ++ [j] := by rw [List.take_add_one, h]; rfl
  rw [e, List.flatMap_append]
  simp
theorem runs_bound {n : Nat} {r : Row} {h : Str} {able : List Str} {p : Bool} {i : Nat} (hp : pays r h able p ≠ []) (hc : rch r h ≤ 8) : (((pays r h able p).take i).flatMap (runF n r able p)).length ≤ 256 := by
  have h1 := runsF_len (n + 1) 8 r h able p hc
  have e : runsF (n + 1) r h able p = (pays r h able p).flatMap (runF n r able p) := by
    unfold runsF
    rw [if_neg hp]
    rfl
  rw [e, ← List.take_append_drop i (pays r h able p), List.flatMap_append, List.length_append] at h1
  have : (2 : Nat) ^ 8 = 256 := by decide
  omega
theorem bmT_ref {S : Sto} {a : Addr} {ds : List D} (h : S a = some (.lst ds)) : bmT .append (.ref a) S = true := x_appT h
theorem x_addO {S : Sto} {x y : D} {ds es : List D} (hx : listOf S x = some ds) (hy : listOf S y = some es) : binR .Add x y S = if ds.length + es.length ≤ sizeLine then some (.newL (ds ++ es)) else none := by
  cases x with
  | lst xs =>
    cases hx
    cases y with
    | lst ys => cases hy; rfl
    | ref a =>
      show (match listOf S (.lst ds), listOf S (.ref a) with | some ds, some es => g? (ds.length + es.length ≤ sizeLine) (R.newL (ds ++ es)) | _, _ => none) = _
      rw [hy]; rfl
    | _ => cases hy
  | ref b =>
    cases y with
    | lst ys =>
      cases hy
      show (match listOf S (.ref b), listOf S (.lst es) with | some ds, some es => g? (ds.length + es.length ≤ sizeLine) (R.newL (ds ++ es)) | _, _ => none) = _
      rw [hx]; rfl
    | ref a =>
      show (match listOf S (.ref b), listOf S (.ref a) with | some ds, some es => g? (ds.length + es.length ≤ sizeLine) (R.newL (ds ++ es)) | _, _ => none) = _
      rw [hx, hy]; rfl
    | _ => cases hy
  | _ => cases hx
theorem ok_runs {G : Gc} (n : Nat) (h1 : G.fn "payable" = some (4, spPay)) (h2 : G.fn "returned" = some (2, spRet)) (hG : ∀ k, n = k + 1 → G.fn "runs_of" = some (4, spRuns k)) : BodyOk G n_runs_of 4 m_runs_of (spRuns n) := by
  rintro ds S Q X - ⟨o, r, h, o2, able, p, rfl, hl, hl2, hz, hn, hn8, q⟩
  show wSs G _ m_runs_of [some o, some (.str h), some o2, some (.bl p), none, none, none, none] S _
  unfold m_runs_of
  walk_at "x"
  simp only [h1, x_fn, true_and]
  refine callW_of ⟨o, r, h, o2, able, p, rfl, hl, hl2, by omega, ?_⟩
  walk_at "x"
  simp only [eq_nil, x_some, decide_eq_true_eq]
  refine ⟨Nat.zero_le _, ?_⟩
  by_cases hp : pays r h able p = []
  · rw [if_pos hp]
    refine ⟨Nat.zero_le _, fun y hy => ⟨by decide, fun l hl' => ?_⟩⟩
    have nl : l ≠ y := fun e => by subst e; rw [put_same] at hl'; cases hl'
    rw [put_ne nl] at hl'
    refine q _ l [y] (((Sup.refl S).put hy).put hl') hl' ?_
    rw [runsF_nil hp]
    refine ⟨put_same, rfl, fun i x l' hx hl'' => ?_⟩
    rcases i with _ | i
    · simp at hx hl''
      subst hx hl''
      exact ⟨by rw [put_ne nl.symm, put_same]; rfl, nl.symm, hy⟩
    · simp at hx
  · rw [if_neg hp]
    refine ⟨Nat.zero_le _, fun l hlN => ?_⟩
    obtain ⟨k, rfl⟩ : ∃ k, n = k + 1 := by
      cases n with
      | zero => exact absurd (pays_nil (by omega)) hp
      | succ k => exact ⟨k, rfl⟩
    have hG := hG k rfl
    refine for_ruleN (fun i σ S' => ∃ qs a b, Sup S S' ∧ RunsAt S S' l qs (((pays r h able p).take i).flatMap (runF k r able p)) ∧ σ = [some o, some (.str h), some o2, some (.bl p), some (.lst (natsD (pays r h able p))), some (.ref l), a, b]) ?_ ?_ ?_
    · exact ⟨[], _, _, (Sup.refl S).put hlN, ⟨put_same, rfl, fun i x l' hx _ => by simp at hx⟩, rfl⟩
    · rintro i d σ S' hd ⟨qs, a, b, sup, ra, rfl⟩
      refine ⟨trivial, ?_⟩
      unfold natsD at hd
      rw [List.getElem?_map] at hd
      obtain ⟨j, hj, rfl⟩ := Option.map_eq_some_iff.mp hd
      have hja : j ∈ asks r h p := (List.mem_filter.mp (show j ∈ (asks r h p).filter _ from List.mem_of_getElem? hj)).1
      obtain ⟨a1, a2, a3⟩ := asks_lt hja
      have hb0 := runs_bound (n := k) (i := i) hp (Nat.le_trans (rch_le r h) hz)
      have tf := take_flat (f := runF k r able p) hj
      unfold b_runs_of_2
      walk_at "x"
      split
      · rename_i h0
        have h0 : j = 0 := by omega
        subst h0
        refine ⟨bmT_ref ra.top, by decide, fun y hy => ?_⟩
        have ny : l ≠ y := fun e => by subst e; rw [ra.top] at hy; cases hy
        have tl : put S' y (.lst [D.int 0]) l = some (.lst (qs.map .ref)) := by rw [put_ne ny]; exact ra.top
        have ql : qs.length ≤ 256 := by rw [ra.len]; exact hb0
        simp only [x_app tl, List.length_map]
        walk_at "x"
        refine ⟨Nat.lt_of_le_of_lt ql (by decide), qs ++ [y], _, _, (sup.put (sup.fresh hy)).put hlN, ?_, rfl⟩
        rw [tf]
        have ra' := ra.push (l := [0]) hy (sup.fresh hy)
        rw [List.map_append] at ra'
        exact ra'
      · rename_i h0
        have h0 : j ≠ 0 := by omega
        simp only [hG, h2, x_fn, true_and]
        refine callW_of ⟨o, r, j, rfl, sup.list hl, fun q2 hq2 => ?_⟩
        walk_at "x"
        rw [rm_put hq2]
        simp only [x_idxO (sup.list hl), row_at a3, x_some, pl0]
        refine callW_of ⟨_, retR r j, nmAt r j, o2, able, p, rfl, rfl, sup.list hl2, Nat.le_trans (ret_len r j) hz, Nat.le_trans (rch_ret hja h0) (by omega), by omega, fun S2 q3 qs3 sup2 hq3 ra3 => ?_⟩
        refine ⟨q3, _, rfl, ra3.top, ?_⟩
        have sup4 : Sup S' (rm S2 q3) := sup2.rm hq3
        have q3l : l ≠ q3 := fun e => by subst e; rw [ra.top] at hq3; cases hq3
        have rf : runF k r able p j = (runsF k (retR r j) (nmAt r j) able p).map (j :: ·) := by unfold runF; rw [if_neg h0]
        have hb1 : (((pays r h able p).take i).flatMap (runF k r able p)).length + (runsF k (retR r j) (nmAt r j) able p).length ≤ 256 := by
          have := runs_bound (n := k) (i := i + 1) hp (Nat.le_trans (rch_le r h) hz)
          rw [tf, List.length_append, rf, List.length_map] at this
          exact this
        walk_at "x"
        refine for_ruleN (fun i2 σ S3 => ∃ qs2 c, Sup S S3 ∧ RunsAt S S3 l qs2 (((pays r h able p).take i).flatMap (runF k r able p) ++ ((runsF k (retR r j) (nmAt r j) able p).take i2).map (j :: ·)) ∧ (∀ (i : Nat) x l', qs3[i]? = some x → (runsF k (retR r j) (nmAt r j) able p)[i]? = some l' → S3 x = some (.lst (natsD l')) ∧ x ≠ l) ∧ σ = [some o, some (.str h), some o2, some (.bl p), some (.lst (natsD (pays r h able p))), some (.ref l), some (.int j), c]) ?_ ?_ ?_
        · refine ⟨qs, _, sup.trans sup4, ⟨sup4 _ _ ra.top, by rw [ra.len]; simp, fun i x l' hx hl' => ?_⟩, fun i x l' hx hl' => ?_, rfl⟩
          · rw [List.take_zero, List.map_nil, List.append_nil] at hl'
            obtain ⟨z1, z2, z3⟩ := ra.at_ i x l' hx hl'
            exact ⟨sup4 _ _ z1, z2, z3⟩
          · obtain ⟨z1, z2, z3⟩ := ra3.at_ i x l' hx hl'
            exact ⟨by rw [rm_ne z2]; exact z1, fun e => by subst e; rw [ra.top] at z3; cases z3⟩
        · rintro i2 d σ S3 hd ⟨qs2, c, sup3, ra2, inn, rfl⟩
          refine ⟨trivial, ?_⟩
          rw [List.getElem?_map] at hd
          obtain ⟨x, hx, rfl⟩ := Option.map_eq_some_iff.mp hd
          have hi2 : i2 < (runsF k (retR r j) (nmAt r j) able p).length := by rw [← ra3.len]; exact (List.getElem?_eq_some_iff.mp hx).1
          obtain ⟨l', hl'⟩ : ∃ l', (runsF k (retR r j) (nmAt r j) able p)[i2]? = some l' := ⟨_, List.getElem?_eq_getElem hi2⟩
          obtain ⟨x1, x2⟩ := inn i2 x l' hx hl'
          have lx : listOf S3 (.ref x) = some (natsD l') := lstAt_of x1
          have ll : l'.length ≤ k := runsF_run k _ _ _ _ l' (List.mem_of_getElem? hl')
          unfold b_runs_of_1
          walk_at "x"
          refine ⟨bmT_ref ra2.top, by decide, ?_⟩
          simp only [x_addO (x := .lst [.int j]) rfl lx]
          walk_at "x"
          have lk : [D.int (j : Int)].length + (natsD l').length ≤ sizeLine := by
            unfold natsD
            rw [List.length_map]
            exact Nat.le_trans (m := 9) (by show 1 + l'.length ≤ 9; omega) (by decide)
          refine ⟨lk, fun y hy => ?_⟩
          have ny : l ≠ y := fun e => by subst e; rw [ra2.top] at hy; cases hy
          have tl : put S3 y (.lst ([D.int j] ++ natsD l')) l = some (.lst (qs2.map .ref)) := by rw [put_ne ny]; exact ra2.top
          have ql : qs2.length ≤ 256 := by rw [ra2.len, List.length_append, List.length_map, List.length_take]; omega
          simp only [x_app tl, List.length_map]
          walk_at "x"
          refine ⟨Nat.lt_of_le_of_lt ql (by decide), qs2 ++ [y], _, (sup3.put (sup3.fresh hy)).put hlN, ?_, ?_, rfl⟩
          · have ra' := ra2.push (l := j :: l') hy (sup3.fresh hy)
            rw [List.map_append] at ra'
            have e : (runsF k (retR r j) (nmAt r j) able p).take (i2 + 1) = (runsF k (retR r j) (nmAt r j) able p).take i2 ++ [l'] := by rw [List.take_add_one, hl']; rfl
            rw [e, List.map_append, ← List.append_assoc]
            exact ra'
          · intro i x' l'' hx' hl''
            obtain ⟨z1, z2⟩ := inn i x' l'' hx' hl''
            have nx : x' ≠ y := fun e => by subst e; rw [z1] at hy; cases hy
            exact ⟨by rw [put_ne z2, put_ne nx]; exact z1, z2⟩
        · rintro σ S3 ⟨qs2, c, sup3, ra2, inn, rfl⟩
          refine ⟨trivial, qs2, _, _, sup3, ?_, rfl⟩
          rw [tf, rf]
          rw [List.length_map, ra3.len, List.take_length] at ra2
          exact ra2
    · rintro σ S' ⟨qs, a, b, sup, ra, rfl⟩
      refine ⟨trivial, ?_⟩
      walk_at "x"
      refine q S' l qs sup hlN ?_
      have e : runsF (k + 1) r h able p = (pays r h able p).flatMap (runF k r able p) := by
        unfold runsF
        rw [if_neg hp]
        rfl
      have el : (natsD (pays r h able p)).length = (pays r h able p).length := by unfold natsD; rw [List.length_map]
      rw [e]
      rw [el, List.take_length] at ra
      exact ra
def runsD (rs : List (List Nat)) : List D := rs.map fun l => .lst (natsD l)
theorem runs_pure : ∀ rs : List (List Nat), pureDs (runsD rs) = true ∧ deps (runsD rs) ≤ 1
  | [] => ⟨rfl, Nat.zero_le _⟩
  | l :: rs => by
    obtain ⟨h1, h2⟩ := runs_pure rs
    obtain ⟨p1, p2, p3⟩ := nats_pure l
    have e : runsD (l :: rs) = .lst (natsD l) :: runsD rs := rfl
    rw [e]
    refine ⟨by unfold pureDs pureD; rw [h1, p1]; rfl, ?_⟩
    unfold deps dep
    omega
def spLawRuns (n : Nat) : DSp := fun ds S Q _ => ∃ o r h o2 able p, ds = [o, .str h, o2, .bl p] ∧ listOf S o = some (rowD r) ∧ listOf S o2 = some (strsD able) ∧ r.length ≤ 8 ∧ rch r h ≤ n ∧ n ≤ 8 ∧ ∀ S', Sup S S' → Q (.lst (runsD (runsF n r h able p))) S'
theorem ok_law_runs {G : Gc} (n : Nat) (h1 : G.fn "_law_askable" = some (3, spLawAsk)) (hG : ∀ k, n = k + 1 → G.fn "_law_runs" = some (4, spLawRuns k)) : BodyOk G n__law_runs 4 m__law_runs (spLawRuns n) := by
  rintro ds S Q X - ⟨o, r, h, o2, able, p, rfl, hl, hl2, hz, hn, hn8, q⟩
  show wSs G _ m__law_runs [some o, some (.str h), some o2, some (.bl p), none, none, none, none, none] S _
  unfold m__law_runs
  walk_at "x"
  simp only [h1, x_fn, true_and]
  refine callW_of ⟨o, r, h, p, rfl, hl, by omega, ?_⟩
  walk_at "x"
  refine pay_lc (able := able) trivial (by omega) (fun j hj q' hq => ?_) ?_
  · obtain ⟨a1, a2, a3⟩ := asks_lt hj
    unfold c__law_runs_1 e__law_runs_2
    walk_at "x"
    simp only [x_idxO hl, row_at a3, x_some, pl0, inR_strs hl2, decide_eq_true_eq]
    unfold nmAt at hq
    split
    · rename_i hc
      rw [if_pos hc] at hq
      exact hq
    · rename_i hc
      rw [if_neg hc] at hq
      exact hq
  refine ⟨Nat.zero_le _, fun l0 hl0 => ?_⟩
  walk_at "x"
  refine for_ruleN (fun i σ S' => ∃ l a b c, Sup S S' ∧ S l = none ∧ S' l = some (.lst (runsD (((pays r h able p).take i).flatMap (runF (n - 1) r able p)))) ∧ σ = [some o, some (.str h), some o2, some (.bl p), some (.lst (natsD (pays r h able p))), a, some (.ref l), b, c]) ?_ ?_ ?_
  · exact ⟨l0, _, _, _, (Sup.refl S).put hl0, hl0, put_same, rfl⟩
  · rintro i d σ S' hd ⟨l, a, b, c, sup, hlN, top', rfl⟩
    refine ⟨trivial, ?_⟩
    unfold natsD at hd
    rw [List.getElem?_map] at hd
    obtain ⟨j, hj, rfl⟩ := Option.map_eq_some_iff.mp hd
    have hja : j ∈ asks r h p := (List.mem_filter.mp (show j ∈ (asks r h p).filter _ from List.mem_of_getElem? hj)).1
    obtain ⟨a1, a2, a3⟩ := asks_lt hja
    have hp : pays r h able p ≠ [] := fun e => by rw [e] at hj; simp at hj
    obtain ⟨k, rfl⟩ : ∃ k, n = k + 1 := by
      cases n with
      | zero => exact absurd (pays_nil (by omega)) hp
      | succ k => exact ⟨k, rfl⟩
    have hG := hG k rfl
    rw [Nat.add_sub_cancel] at top' ⊢
    have hb0 := runs_bound (n := k) (i := i) hp (Nat.le_trans (rch_le r h) hz)
    have tf := take_flat (f := runF k r able p) hj
    have hb1 := runs_bound (n := k) (i := i + 1) hp (Nat.le_trans (rch_le r h) hz)
    unfold b__law_runs_4
    walk_at "x"
    split
    · rename_i h0
      have h0 : j = 0 := by omega
      subst h0
      refine ⟨bmT_ref top', by decide, ?_⟩
      simp only [x_app top', runsD, List.length_map]
      walk_at "x"
      refine ⟨Nat.lt_of_le_of_lt hb0 (by decide), l, _, _, _, sup.put hlN, hlN, ?_, rfl⟩
      rw [put_same, tf, List.map_append]
      rfl
    · rename_i h0
      have h0 : j ≠ 0 := by omega
      have rf : runF k r able p j = (runsF k (retR r j) (nmAt r j) able p).map (j :: ·) := by unfold runF; rw [if_neg h0]
      have e := max_nat j
      rw [e]
      simp only [x_slO (sup.list hl), x_some, x_newF, cut_take, rowD_take]
      walk_at "x"
      simp only [hG, x_fn, true_and, x_idxO (sup.list hl), row_at a3, x_some, pl0]
      refine callW_of ⟨_, retR r j, nmAt r j, o2, able, p, rfl, rfl, sup.list hl2, Nat.le_trans (ret_len r j) hz, Nat.le_trans (rch_ret hja h0) (by omega), by omega, fun S2 sup2 => ?_⟩
      walk_at "x"
      rw [tf, rf, List.length_append, List.length_map] at hb1
      refine lc_any (fun z => match z with
        | .lst ds => some (.lst (.int j :: ds))
        | _ => none) ?_ trivial ?_ ?_
      · unfold runsD; rw [List.length_map]
        exact Nat.le_trans (m := 256) (by omega) (by decide)
      · intro z hz' q' hq
        obtain ⟨l', hl', rfl⟩ := List.mem_map.mp hz'
        have ll : l'.length ≤ k := runsF_run k _ _ _ _ l' hl'
        unfold e__law_runs_3
        walk_at "x"
        refine ⟨by decide, ?_, hq⟩
        unfold natsD
        rw [List.length_map]
        exact Nat.le_trans (m := 9) (by omega) (by decide)
      · have t2 := sup2 _ _ top'
        have e2 : (runsD (runsF k (retR r j) (nmAt r j) able p)).filterMap (fun z => match z with
          | .lst ds => some (D.lst (.int j :: ds))
          | _ => none) = runsD ((runsF k (retR r j) (nmAt r j) able p).map (j :: ·)) := by
          unfold runsD
          rw [List.filterMap_map, List.map_map, ← List.filterMap_eq_map]
          rfl
        rw [e2]
        simp only [x_addO (x := .ref l) (lstAt_of t2) (y := .lst (runsD ((runsF k (retR r j) (nmAt r j) able p).map (j :: ·)))) rfl]
        walk_at "x"
        refine ⟨?_, fun y hy => ?_⟩
        · unfold runsD
          rw [List.length_map, List.length_map, List.length_map]
          exact Nat.le_trans (m := 256) (by omega) (by decide)
        · refine ⟨y, _, _, _, (sup.trans sup2).put ((sup.trans sup2).fresh hy), (sup.trans sup2).fresh hy, ?_, rfl⟩
          rw [put_same, tf, rf]
          unfold runsD
          rw [List.map_append]
  · rintro σ S' ⟨l, a, b, c, sup, hlN, top', rfl⟩
    refine ⟨trivial, ?_⟩
    have el : (natsD (pays r h able p)).length = (pays r h able p).length := by unfold natsD; rw [List.length_map]
    rw [el, List.take_length] at top'
    have et : top S' (.ref l) = .lst (runsD ((pays r h able p).flatMap (runF (n - 1) r able p))) := by
      show (match lstAt S' l with | some ds => D.lst ds | none => .ref l) = _
      rw [lstAt_of top']
    obtain ⟨p1, p2⟩ := runs_pure ((pays r h able p).flatMap (runF (n - 1) r able p))
    have ee : eqR (.ref l) (.lst []) S' = some (decide ((pays r h able p).flatMap (runF (n - 1) r able p) = [])) := by
      rw [eq_top, et, eq_pure (by unfold pureD; exact p1) (by unfold pureD; rfl) (.inr (by decide))]
      congr 1
      cases (pays r h able p).flatMap (runF (n - 1) r able p) with
      | nil => rfl
      | cons x xs => rfl
    walk_at "x"
    simp only [ee, x_some, decide_eq_true_eq]
    refine ⟨Nat.zero_le _, ?_⟩
    by_cases hp : pays r h able p = []
    · rw [hp] at ee
      rw [if_pos (by rw [hp]; rfl)]
      refine ⟨Nat.zero_le _, by decide, ?_⟩
      have q := q S' sup
      rw [runsF_nil hp] at q
      exact q
    · obtain ⟨k, rfl⟩ : ∃ k, n = k + 1 := by
        cases n with
        | zero => exact absurd (pays_nil (by omega)) hp
        | succ k => exact ⟨k, rfl⟩
      rw [Nat.add_sub_cancel] at top' ⊢
      have e : runsF (k + 1) r h able p = (pays r h able p).flatMap (runF k r able p) := by
        rw [runsF]
        rw [if_neg hp]
        rfl
      rw [if_neg (by rw [← e]; exact runsF_ne _ _ _ _ _)]
      rw [← e] at top'
      exact ⟨l, _, rfl, top', q _ (sup.rm hlN)⟩
end Mn

namespace Mn
open PySem L2
local macro_rules | `(tactic| walk_at "x") => `(tactic| try simp only [wSs, wS, wE, wEs, wC, x_add, x_sub, x_addS, x_addT, x_addL, x_mul, x_mulS, x_mulL, x_div, x_mod, x_pow, x_lt, x_le, x_gt, x_ge, x_eqD, x_neD, x_in, x_notIn, x_is, x_isNot, x_eqI, x_eqS, x_eqB, x_isNN, x_isBN, x_isIN, x_isSN, x_isTN, x_isLN, x_isRN, x_isBB, x_lenS, x_lenT, x_lenL, x_lenP, x_sumP, x_appP, x_appTP, x_idxP, x_frzP, x_abs, x_intI, x_intB, x_max, x_allL, x_sumL, x_listL, x_listT, x_isi, x_truB, x_truI, x_truL, x_truT, x_truN, x_idxS, x_idxL, x_idxT, x_slS, x_slT, x_slL, x_it0L, x_it0T, x_it0S, x_it0C, x_it1, x_it2L, x_val, x_upd, x_newF, x_newT, x_nm, x_tp, x_tps, x_tp0, x_ite, x_iteD, x_ifD, x_some, x_some2, x_map, x_eqInt, i_N_tuple, i_N_list, i_N_bool, i_N_int, i_N_str, i_N_tl, i_B_tuple, i_B_list, i_B_bool, i_B_int, i_B_str, i_B_tl, i_I_tuple, i_I_list, i_I_bool, i_I_int, i_I_str, i_I_tl, i_S_tuple, i_S_list, i_S_bool, i_S_int, i_S_str, i_S_tl, i_T_tuple, i_T_list, i_T_bool, i_T_int, i_T_str, i_T_tl, i_L_tuple, i_L_list, i_L_bool, i_L_int, i_L_str, i_L_tl, x_pure, x_new, x_fn, List.getElem?_cons_zero, List.getElem?_cons_succ, List.set_cons_zero, List.set_cons_succ, Option.bind_some, List.length_cons, List.length_nil, Nat.reduceAdd, true_and, and_true, decide_eq_true_eq, Bool.not_eq_true', decide_eq_false_iff_not, Bool.not_false, Bool.not_true, Bool.false_eq_true, Bool.true_eq_false, if_true, if_false, ite_true, ite_false])
/-! ### the feed's numbers by their places -/
def fv (fs : List Int) (i : Nat) : Int := fs.getD i 0
theorem fv_at {fs : List Int} (h : Feed fs) {i : Int} (h0 : 0 ≤ i) (h1 : i < 270) : atI (fs.map D.int) i = some (.int (fv fs i.toNat)) := by
  have hl := h.lo
  rw [atI_map, atI_nn h0 (by omega), List.getElem?_eq_getElem (by omega)]
  unfold fv
  rw [List.getD_eq_getElem?_getD, List.getElem?_eq_getElem (by omega)]
  rfl
theorem fv_nn {fs : List Int} (h : Feed fs) (i : Nat) : 0 ≤ fv fs i ∧ fv fs i < 55440 := by
  unfold fv
  rw [List.getD_eq_getElem?_getD]
  cases e : fs[i]? with
  | none => exact ⟨by decide, by decide⟩
  | some v => exact h.nn v (List.mem_of_getElem? e)
def spAble : DSp := fun ds S Q _ => ∃ fs, ds = [fdD fs] ∧ Feed fs ∧ ∀ able, able.length ≤ 9 → Q (.lst (strsD able)) S
theorem fm_strs {α : Type} {F : D → Option D} {g : α → D} {c : α → Bool} {h : α → Str} : ∀ (l : List α), (∀ x, F (g x) = if c x = true then some (.str (h x)) else none) → (l.map g).filterMap F = strsD ((l.filter c).map h) := fun l H => by
  unfold strsD
  rw [List.map_map]
  exact fm_filter l H
theorem ok_able {G : Gc} (h1 : G.fn "_law_name" = some (2, spName)) : BodyOk G n__law_able_names 1 m__law_able_names spAble := by
  rintro ds S Q X - ⟨fs, rfl, F, q⟩
  show wSs G _ m__law_able_names [some (fdD fs), none] S _
  unfold m__law_able_names fdD
  walk_at "x"
  refine ⟨by decide, ?_⟩
  refine lc_any (fun z => match z with
    | .int k => if 0 < fv fs (22 + k).toNat % 3 then some (.str (nameOf (fv fs 2) k)) else none
    | _ => none) (by simp; decide) trivial ?_ ?_
  · intro z hz q' hq
    obtain ⟨k, hk, rfl⟩ := List.mem_map.mp hz
    have hk : k < 9 := by simpa using hk
    simp only at hq
    unfold c__law_able_names_1 e__law_able_names_2
    walk_at "x"
    simp only [fv_at F (i := 22 + (k : Int)) (by omega) (by omega), x_some]
    walk_at "x"
    refine ⟨by decide, ?_⟩
    split
    · rename_i hc
      rw [if_pos hc] at hq
      simp only [h1, x_fn, true_and, fv_at F (i := 2) (by decide) (by decide), x_some]
      exact callW_of ⟨_, _, rfl, hq⟩
    · rename_i hc
      rw [if_neg hc] at hq
      exact hq
  · rw [fm_strs (List.range (Int.toNat 9)) (c := fun (k : Nat) => decide (0 < fv fs (22 + (k : Int)).toNat % 3)) (h := fun (k : Nat) => nameOf (fv fs 2) (k : Int)) (fun k => by simp)]
    refine q _ ?_
    rw [List.length_map]
    exact Nat.le_trans (List.length_filter_le _ _) (by simp)
end Mn
namespace Mn.K05
open PySem L2 Mn
local macro_rules | `(tactic| walk_at "x") => `(tactic| try simp only [wSs, wS, wE, wEs, wC, x_add, x_sub, x_addS, x_addT, x_addL, x_mul, x_mulS, x_mulL, x_div, x_mod, x_pow, x_lt, x_le, x_gt, x_ge, x_eqD, x_neD, x_in, x_notIn, x_is, x_isNot, x_eqI, x_eqS, x_eqB, x_isNN, x_isBN, x_isIN, x_isSN, x_isTN, x_isLN, x_isRN, x_isBB, x_lenS, x_lenT, x_lenL, x_lenP, x_sumP, x_appP, x_appTP, x_idxP, x_frzP, x_abs, x_intI, x_intB, x_max, x_allL, x_sumL, x_listL, x_listT, x_isi, x_truB, x_truI, x_truL, x_truT, x_truN, x_idxS, x_idxL, x_idxT, x_slS, x_slT, x_slL, x_it0L, x_it0T, x_it0S, x_it0C, x_it1, x_it2L, x_val, x_upd, x_newF, x_newT, x_nm, x_tp, x_tps, x_tp0, x_ite, x_iteD, x_ifD, x_some, x_some2, x_map, x_eqInt, i_N_tuple, i_N_list, i_N_bool, i_N_int, i_N_str, i_N_tl, i_B_tuple, i_B_list, i_B_bool, i_B_int, i_B_str, i_B_tl, i_I_tuple, i_I_list, i_I_bool, i_I_int, i_I_str, i_I_tl, i_S_tuple, i_S_list, i_S_bool, i_S_int, i_S_str, i_S_tl, i_T_tuple, i_T_list, i_T_bool, i_T_int, i_T_str, i_T_tl, i_L_tuple, i_L_list, i_L_bool, i_L_int, i_L_str, i_L_tl, x_pure, x_new, x_fn, List.getElem?_cons_zero, List.getElem?_cons_succ, List.set_cons_zero, List.set_cons_succ, Option.bind_some, List.length_cons, List.length_nil, Nat.reduceAdd, true_and, and_true, decide_eq_true_eq, Bool.not_eq_true', decide_eq_false_iff_not, Bool.not_false, Bool.not_true, Bool.false_eq_true, Bool.true_eq_false, if_true, if_false, ite_true, ite_false])
def n_law : List Str := ["_law_script", "_law_feed_here", "_law_row_here", "_law_able", "_law_handed", "_law_holder", "_law_protested", "_law_due", "_law_found"]
def b_law_1 : List MS := [(.asg (.nm 7) (.call "_law_runs" [(.var 2), (.var 5), (.var 3), (.var 6)])), (.asg (.nm 8) (.call "runs_of" [(.idx (.var 4) (.cst (.int 0))), (.var 5), (.idx (.var 4) (.cst (.int 1))), (.var 6)])), (.ite (.not (.call "_law_same" [(.var 8), (.var 7)])) [(.ret (.cst (.bl false)))] []), (.exp (.bm .append false (.idx (.var 8) (.cst (.int 0))) [(.cst (.int 0))])), (.exp (.bm .append false (.var 8) [(.lst false [])])), (.ite (.not (.call "_law_same" [(.frz (.call "runs_of" [(.idx (.var 4) (.cst (.int 0))), (.var 5), (.idx (.var 4) (.cst (.int 1))), (.var 6)])), (.var 7)])) [(.ret (.cst (.bl false)))] [])]
def b_law_2 : List MS := [(.for_ 0 (.nm 6) [(.tup [(.cst (.bl true)), (.cst (.bl false))])] b_law_1)]
def m_law : List MS := [(.asg (.nm 1) (.call "_law_feed" [(.var 0)])), (.asg (.nm 2) (.call "_law_row" [(.var 1)])), (.asg (.nm 3) (.call "_law_able_names" [(.var 1)])), (.asg (.nm 4) (.lst false [(.blt .list false [(.var 2)]), (.blt .list false [(.var 3)])])), (.for_ 0 (.nm 5) [(.tup [(.call "_law_name" [(.idx (.var 1) (.cst (.int 2))), (.bin .Mod false (.idx (.var 1) (.cst (.int 31))) (.cst (.int 9)))]), (.cst (.str "nobody"))])] b_law_2), (.ret (.cmp .Eq (.var 4) (.lst false [(.var 2), (.var 3)])))]
theorem strs_pure : ∀ l : List Str, pureDs (strsD l) = true ∧ deps (strsD l) = 0
  | [] => ⟨rfl, rfl⟩
  | x :: l => by
    obtain ⟨h1, h2⟩ := strs_pure l
    have e : strsD (x :: l) = .str x :: strsD l := rfl
    rw [e]
    exact ⟨by unfold pureDs; rw [h1]; rfl, by unfold deps; rw [h2]; rfl⟩
theorem vw_nats {S : Sto} {l : List Nat} {x : Addr} (h : S x = some (.lst (natsD l))) : Vw S (.ref x) (.lst (natsD l)) := by
  unfold Vw
  exact ⟨_, .inr ⟨x, rfl, h⟩, Vws.refl _ (nats_pure l).1⟩
theorem vws_runs {S : Sto} : ∀ {qs : List Addr} {rs : List (List Nat)}, qs.length = rs.length → (∀ (i : Nat) x l, qs[i]? = some x → rs[i]? = some l → S x = some (.lst (natsD l))) → Vws S (qs.map .ref) (runsD rs)
  | [], [], _, _ => by unfold runsD Vws; rfl
  | [], _ :: _, h, _ => by simp at h
  | _ :: _, [], h, _ => by simp at h
  | x :: qs, l :: rs, h, a => by
    have e : runsD (l :: rs) = .lst (natsD l) :: runsD rs := rfl
    rw [e]
    unfold Vws
    exact ⟨.ref x, qs.map .ref, rfl, vw_nats (a 0 x l rfl rfl), vws_runs (by simpa using h) fun i x' l' h1 h2 => a (i + 1) x' l' (by simpa using h1) (by simpa using h2)⟩
theorem small_nats {n : Nat} : ∀ l : List Nat, dSmalls n (natsD l)
  | [] => by unfold natsD dSmalls; exact trivial
  | j :: l => by
    have e : natsD (j :: l) = .int (j : Int) :: natsD l := rfl
    rw [e]
    unfold dSmalls
    refine ⟨?_, small_nats l⟩
    cases n <;> (unfold dSmall; exact trivial)
theorem small_runs {n : Nat} : ∀ rs : List (List Nat), (∀ l ∈ rs, l.length ≤ 100000) → dSmalls (n + 1) (runsD rs)
  | [], _ => by unfold runsD dSmalls; exact trivial
  | l :: rs, h => by
    have e : runsD (l :: rs) = .lst (natsD l) :: runsD rs := rfl
    rw [e]
    unfold dSmalls dSmall
    exact ⟨⟨by unfold natsD; rw [List.length_map]; exact h l List.mem_cons_self, small_nats l⟩, small_runs rs fun l' hl => h l' (List.mem_cons_of_mem _ hl)⟩
theorem same_runs {S' : Sto} {q : Addr} {qs : List Addr} {r : Row} {h : Str} {able : List Str} {p : Bool} {f : D} (hf : f = .ref q ∧ S' q = some (.lst (qs.map .ref)) ∨ f = .lst (qs.map .ref)) (hl : qs.length = (runsF 8 r h able p).length) (ha : ∀ (i : Nat) x l, qs[i]? = some x → (runsF 8 r h able p)[i]? = some l → S' x = some (.lst (natsD l))) (hr : rch r h ≤ 8) {k : D → Sto → Prop} {x : Exc → Sto → Prop} (z : k (.bl true) S') :
    callW (spSameT 2) [f, .lst (runsD (runsF 8 r h able p))] S' k x := by
  refine callW_of ⟨_, _, rfl, ?_, ?_, z⟩
  · unfold Vw
    rcases hf with ⟨rfl, hq⟩ | rfl
    · exact ⟨_, .inr ⟨q, rfl, hq⟩, vws_runs hl ha⟩
    · exact ⟨_, .inl rfl, vws_runs hl ha⟩
  · unfold dSmall
    refine ⟨?_, small_runs _ fun l hl => Nat.le_trans (runsF_run 8 _ _ _ _ l hl) (by decide)⟩
    unfold runsD
    rw [List.length_map]
    exact Nat.le_trans (runsF_len 8 8 r h able p hr) (by decide)
theorem ok_law {G : Gc} (h1 : G.fn "_law_feed" = some (1, spFeed)) (h2 : G.fn "_law_row" = some (1, spRow)) (h3 : G.fn "_law_name" = some (2, spName)) (h4 : G.fn "_law_able_names" = some (1, spAble)) (h5 : G.fn "runs_of" = some (4, spRuns 8)) (h6 : G.fn "_law_runs" = some (4, spLawRuns 8)) (h7 : G.fn "_law_same" = some (2, spSameT 2)) : BodyOk G n_law 1 m_law spLaw := by
  rintro ds S Q X - ⟨ns, rfl, hl, -, q⟩
  show wSs G _ m_law [some (.scr ns), none, none, none, none, none, none, none, none] S _
  unfold m_law
  walk_at "x"
  simp only [h1, x_fn, true_and]
  refine callW_of ⟨ns, rfl, fun fs F => ?_⟩
  simp only [h2, x_fn, true_and]
  refine callW_of ⟨fs, rfl, F, fun r R => ?_⟩
  simp only [h4, x_fn, true_and]
  refine callW_of ⟨fs, rfl, F, fun able hable => ?_⟩
  have rz : r.length ≤ 8 := R.2.1
  unfold fdD
  walk_at "x"
  simp only [h3, x_fn, true_and, fv_at F (i := 2) (by decide) (by decide), fv_at F (i := 31) (by decide) (by decide), x_some]
  walk_at "x"
  refine ⟨by decide, by decide, callW_of ⟨_, _, rfl, by decide, ?_⟩⟩
  refine for_ruleN (fun i σ S' => ∃ a b c d, σ = [some (.scr ns), some (.lst (fs.map .int)), some (.lst (rowD r)), some (.lst (strsD able)), some (.lst [.lst (rowD r), .lst (strsD able)]), a, b, c, d]) ⟨_, _, _, _, rfl⟩ ?_ ?_
  · rintro i z σ S' hd ⟨a, b, c, d, rfl⟩
    obtain ⟨h, rfl⟩ : ∃ h, z = .str h := by
      rcases i with _ | _ | i
      · simp at hd; exact ⟨_, hd.symm⟩
      · simp at hd; exact ⟨_, hd.symm⟩
      · simp at hd
    have hr8 : rch r h ≤ 8 := Nat.le_trans (rch_le r h) rz
    refine ⟨trivial, ?_⟩
    unfold b_law_2
    walk_at "x"
    refine ⟨by decide, ?_⟩
    refine for_ruleN (fun i σ S' => ∃ b c d, σ = [some (.scr ns), some (.lst (fs.map .int)), some (.lst (rowD r)), some (.lst (strsD able)), some (.lst [.lst (rowD r), .lst (strsD able)]), some (.str h), b, c, d]) ⟨_, _, _, rfl⟩ ?_ ?_
    · rintro j z σ S' hd ⟨b, c, d, rfl⟩
      obtain ⟨p, rfl⟩ : ∃ p, z = .bl p := by
        rcases j with _ | _ | j
        · simp at hd; exact ⟨_, hd.symm⟩
        · simp at hd; exact ⟨_, hd.symm⟩
        · simp at hd
      refine ⟨trivial, ?_⟩
      have i0 : atI [D.lst (rowD r), D.lst (strsD able)] 0 = some (.lst (rowD r)) := rfl
      have i1 : atI [D.lst (rowD r), D.lst (strsD able)] 1 = some (.lst (strsD able)) := rfl
      unfold b_law_1
      walk_at "x"
      simp only [h5, h6, h7, x_fn, true_and, i0, i1, x_some]
      refine callW_of ⟨_, r, h, _, able, p, rfl, rfl, rfl, rz, hr8, Nat.le_refl _, fun S1 _ => ?_⟩
      refine callW_of ⟨_, r, h, _, able, p, rfl, rfl, rfl, rz, hr8, Nat.le_refl _, fun S2 y ys _ hy ra => ?_⟩
      refine same_runs (.inl ⟨rfl, ra.top⟩) ra.len (fun i x l h1 h2 => (ra.at_ i x l h1 h2).1) hr8 ?_
      obtain ⟨l0, rs0, hl0⟩ := List.exists_cons_of_ne_nil (runsF_ne 8 r h able p)
      obtain ⟨y0, ys0, hy0⟩ : ∃ y0 ys0, ys = y0 :: ys0 := by
        have := ra.len
        rw [hl0] at this
        cases ys with
        | nil => simp at this
        | cons y0 ys0 => exact ⟨_, _, rfl⟩
      subst hy0
      obtain ⟨a1, a2, a3⟩ := ra.at_ 0 y0 l0 rfl (by rw [hl0]; rfl)
      have g0 : idxR (.ref y) (.int 0) S2 = some (.ref y0) := by
        rw [x_idxR ra.top, atI_nn (by decide) (by rw [List.length_map, List.length_cons]; omega)]
        rfl
      walk_at "x"
      simp only [g0, x_some, bmT_ref a1, x_app a1, true_and]
      have hl0' : l0.length ≤ 8 := runsF_run 8 r h able p l0 (by rw [hl0]; exact List.mem_cons_self)
      walk_at "x"
      refine ⟨by unfold natsD; rw [List.length_map]; exact Nat.lt_of_le_of_lt hl0' (by decide), ?_⟩
      have t3 : put S2 y0 (.lst (natsD l0 ++ [D.int 0])) y = some (.lst ((y0 :: ys0).map .ref)) := by rw [put_ne (fun e => a2 e.symm)]; exact ra.top
      refine ⟨bmT_ref t3, Nat.zero_le _, ?_⟩
      simp only [x_app t3]
      walk_at "x"
      have hlen : ((y0 :: ys0).map D.ref).length < sizeLine := by
        rw [List.length_map, ra.len]
        exact Nat.lt_of_le_of_lt (runsF_len 8 8 r h able p hr8) (by decide)
      refine ⟨by simpa using hlen, ?_⟩
      refine callW_of ⟨_, r, h, _, able, p, rfl, rfl, rfl, rz, hr8, Nat.le_refl _, fun S4 w ws _ hw rb => ?_⟩
      refine ⟨w, _, rfl, rb.top, ?_⟩
      refine same_runs (qs := ws) (q := w) (.inr rfl) rb.len (fun i x l h1 h2 => by rw [rm_ne (rb.at_ i x l h1 h2).2.1]; exact (rb.at_ i x l h1 h2).1) hr8 ?_
      walk_at "x"
      exact ⟨_, _, _, rfl⟩
    · rintro σ S' ⟨b, c, d, rfl⟩
      exact ⟨trivial, _, _, _, _, rfl⟩
  · rintro σ S' ⟨a, b, c, d, rfl⟩
    refine ⟨trivial, ?_⟩
    obtain ⟨p1, p2, p3⟩ := row_pure r
    obtain ⟨s1, s2⟩ := strs_pure able
    walk_at "x"
    refine ⟨by decide, ?_⟩
    rw [x_eqSelf (d := .lst [.lst (rowD r), .lst (strsD able)])]
    · exact ⟨_, rfl, q _⟩
    · show (pureDs (rowD r) && (pureDs (strsD able) && true)) = true
      rw [p1, s1]; rfl
    · show max (deps (rowD r) + 1) (max (deps (strsD able) + 1) 0) + 1 ≤ 60
      omega
end Mn.K05

namespace Mn
open PySem L2
local macro_rules | `(tactic| walk_at "x") => `(tactic| try simp only [wSs, wS, wE, wEs, wC, x_add, x_sub, x_addS, x_addT, x_addL, x_mul, x_mulS, x_mulL, x_div, x_mod, x_pow, x_lt, x_le, x_gt, x_ge, x_eqD, x_neD, x_in, x_notIn, x_is, x_isNot, x_eqI, x_eqS, x_eqB, x_isNN, x_isBN, x_isIN, x_isSN, x_isTN, x_isLN, x_isRN, x_isBB, x_lenS, x_lenT, x_lenL, x_lenP, x_sumP, x_appP, x_appTP, x_idxP, x_frzP, x_abs, x_intI, x_intB, x_max, x_allL, x_sumL, x_listL, x_listT, x_isi, x_truB, x_truI, x_truL, x_truT, x_truN, x_idxS, x_idxL, x_idxT, x_slS, x_slT, x_slL, x_it0L, x_it0T, x_it0S, x_it0C, x_it1, x_it2L, x_val, x_upd, x_newF, x_newT, x_nm, x_tp, x_tps, x_tp0, x_ite, x_iteD, x_ifD, x_some, x_some2, x_map, x_eqInt, i_N_tuple, i_N_list, i_N_bool, i_N_int, i_N_str, i_N_tl, i_B_tuple, i_B_list, i_B_bool, i_B_int, i_B_str, i_B_tl, i_I_tuple, i_I_list, i_I_bool, i_I_int, i_I_str, i_I_tl, i_S_tuple, i_S_list, i_S_bool, i_S_int, i_S_str, i_S_tl, i_T_tuple, i_T_list, i_T_bool, i_T_int, i_T_str, i_T_tl, i_L_tuple, i_L_list, i_L_bool, i_L_int, i_L_str, i_L_tl, x_pure, x_new, x_fn, List.getElem?_cons_zero, List.getElem?_cons_succ, List.set_cons_zero, List.set_cons_succ, Option.bind_some, List.length_cons, List.length_nil, Nat.reduceAdd, true_and, and_true, decide_eq_true_eq, Bool.not_eq_true', decide_eq_false_iff_not, Bool.not_false, Bool.not_true, Bool.false_eq_true, Bool.true_eq_false, if_true, if_false, ite_true, ite_false])
def n_bearer_of : List Str := ["row", "holder", "able", "protested", "places"]
def m_bearer_of : List MS := [(.asg (.nm 4) (.call "payable" [(.var 0), (.var 1), (.var 2), (.var 3)])), (.ite (.cmp .Eq (.var 4) (.lst false [])) [(.ret (.var 1))] []), (.ret (.idx (.idx (.var 0) (.idx (.var 4) (.cst (.int 0)))) (.cst (.int 0))))]
def n__law_end : List Str := ["_law_row_here", "_law_holder", "_law_able", "_law_protested", "_law_picks", "_law_pick", "_law_places", "_law_place"]
def c__law_end_1 : List ME := [(.cmp .In (.idx (.idx (.var 0) (.var 7)) (.cst (.int 0))) (.var 2))]
def e__law_end_2 : ME := (.var 7)
def b__law_end_3 : List MS := [(.asg (.nm 6) (.lc 0 false (.nm 7) [(.call "_law_askable" [(.var 0), (.var 1), (.var 3)])] c__law_end_1 e__law_end_2)), (.ite (.cmp .NotEq (.var 6) (.lst false [])) [(.asg (.nm 7) (.idx (.var 6) (.bin .Mod false (.var 5) (.blt .len false [(.var 6)])))), (.asg (.nm 1) (.idx (.idx (.var 0) (.var 7)) (.cst (.int 0)))), (.asg (.nm 0) (.slU false (.var 0) (.blt .max false [(.cst (.int 2)), (.var 7)]))), (.ite (.cmp .Eq (.var 7) (.cst (.int 0))) [(.ret (.var 1))] [])] [])]
def m__law_end : List MS := [(.for_ 0 (.nm 5) [(.var 4)] b__law_end_3), (.ret (.var 1))]
def n__law_walked : List Str := ["_law_row_here", "_law_holder", "_law_run", "_law_place"]
def b__law_walked_1 : List MS := [(.asg (.nm 1) (.idx (.idx (.var 0) (.var 3)) (.cst (.int 0)))), (.asg (.nm 0) (.slU false (.var 0) (.blt .max false [(.cst (.int 2)), (.var 3)])))]
def m__law_walked : List MS := [(.for_ 0 (.nm 3) [(.var 2)] b__law_walked_1), (.ret (.var 1))]
/-! ### one bearer -/
def bear (r : Row) (h : Str) (able : List Str) (p : Bool) : Str := match pays r h able p with
  | [] => h
  | j :: _ => nmAt r j
theorem mem_pays {r : Row} {h : Str} {able : List Str} {p : Bool} {j : Nat} : j ∈ pays r h able p ↔ j < rch r h ∧ mayAsk r p j = true ∧ nmAt r j ∈ able := by
  unfold pays asks asksTo
  rw [List.mem_filter, List.mem_filter, List.mem_range, decide_eq_true_eq, and_assoc]
theorem pays_sorted (r : Row) (h : Str) (able : List Str) (p : Bool) : (pays r h able p).Pairwise (· < ·) := by
  unfold pays asks asksTo
  exact (List.pairwise_lt_range.filter _).filter _
theorem bear_min {r : Row} {h : Str} {able : List Str} {p : Bool} {j0 : Nat} (hj : j0 ∈ pays r h able p) (hm : ∀ j ∈ pays r h able p, j0 ≤ j) : bear r h able p = nmAt r j0 := by
  have hs := pays_sorted r h able p
  unfold bear
  cases e : pays r h able p with
  | nil => rw [e] at hj; cases hj
  | cons j l =>
    rw [e] at hj hm hs
    have h1 := hm j List.mem_cons_self
    rcases List.mem_cons.mp hj with rfl | z
    · rfl
    · have := (List.pairwise_cons.mp hs).1 j0 z
      omega
theorem bear_nil {r : Row} {h : Str} {able : List Str} {p : Bool} (e : pays r h able p = []) : bear r h able p = h := by unfold bear; rw [e]
theorem pays_min {r : Row} {h : Str} {able : List Str} {p : Bool} (e : pays r h able p ≠ []) : ∃ j0, j0 ∈ pays r h able p ∧ ∀ j ∈ pays r h able p, j0 ≤ j := by
  have hs := pays_sorted r h able p
  cases q : pays r h able p with
  | nil => exact absurd q e
  | cons j l =>
    rw [q] at hs
    refine ⟨j, List.mem_cons_self, fun k hk => ?_⟩
    rcases List.mem_cons.mp hk with rfl | z
    · exact Nat.le_refl _
    · exact Nat.le_of_lt ((List.pairwise_cons.mp hs).1 k z)
theorem may_take {r : Row} {p : Bool} {m i : Nat} (h : i < m) : mayAsk (r.take m) p i = mayAsk r p i := by
  unfold mayAsk
  rw [List.getElem?_take, if_pos h]
theorem nm_take {r : Row} {m i : Nat} (h : i < m) : nmAt (r.take m) i = nmAt r i := by
  unfold nmAt
  rw [List.getD_eq_getElem?_getD, List.getD_eq_getElem?_getD, List.getElem?_take, if_pos h]
theorem may_bound {r : Row} {p : Bool} {j : Nat} (h : mayAsk r p j = true) : (r.getD j default).2 = true ∧ j < r.length ∧ (p = true ∨ j = 0) := by
  unfold mayAsk at h
  cases e : r[j]? with
  | none => rw [e] at h; cases h
  | some z =>
    obtain ⟨n, b⟩ := z
    rw [e] at h
    simp only [Bool.and_eq_true, Bool.or_eq_true, decide_eq_true_eq] at h
    refine ⟨?_, (List.getElem?_eq_some_iff.mp e).1, h.2⟩
    rw [List.getD_eq_getElem?_getD, e]
    exact h.1
/-- the place where a house is bound first -/
theorem rch_spec : ∀ {r : Row} {h : Str}, rch r h < r.length → (r.getD (rch r h) default).2 = true ∧ nmAt r (rch r h) = h
  | [], h, e => by simp at e
  | (n, b) :: r, h, e => by
    unfold rch at e ⊢
    split
    · rename_i c
      exact ⟨c.1, c.2⟩
    · rename_i c
      rw [if_neg c] at e
      have e : rch r h < r.length := by simpa using e
      exact rch_spec (r := r) (h := h) e
/-- whoever is asked: the same bears it in the end -/
theorem bear_step {r : Row} {h : Str} {able : List Str} {p : Bool} {j : Nat} (hj : j ∈ pays r h able p) (h0 : j ≠ 0) : bear (retR r j) (nmAt r j) able p = bear r h able p := by
  have hne : pays r h able p ≠ [] := fun e => by rw [e] at hj; cases hj
  obtain ⟨j0, m1, m2⟩ := pays_min hne
  rw [bear_min m1 m2]
  have hj0 := m2 j hj
  obtain ⟨a1, a2, a3⟩ := mem_pays.mp hj
  obtain ⟨b1, b2, b3⟩ := mem_pays.mp m1
  obtain ⟨c1, c2, c3⟩ := may_bound a2
  have hja : j ∈ asks r h p := (List.mem_filter.mp hj).1
  have hr' : rch (retR r j) (nmAt r j) ≤ j := rch_ret hja h0
  -- places below j pay in the row that is left just as they did
  have keep : ∀ i, i < rch (retR r j) (nmAt r j) → i ∈ pays (retR r j) (nmAt r j) able p → i ∈ pays r h able p := by
    intro i hi hp
    obtain ⟨d1, d2, d3⟩ := mem_pays.mp hp
    have lt : i < max 2 j := by omega
    unfold retR at d2 d3
    rw [may_take lt] at d2
    rw [nm_take lt] at d3
    exact mem_pays.mpr ⟨by omega, d2, d3⟩
  by_cases hc : j0 < rch (retR r j) (nmAt r j)
  · have lt : j0 < max 2 j := by omega
    have in' : j0 ∈ pays (retR r j) (nmAt r j) able p := by
      refine mem_pays.mpr ⟨hc, ?_, ?_⟩
      · unfold retR; rw [may_take lt]; exact b2
      · unfold retR; rw [nm_take lt]; exact b3
    rw [bear_min in' fun i hi => m2 i (keep i (mem_pays.mp hi).1 hi)]
    unfold retR
    exact nm_take lt
  · have none' : pays (retR r j) (nmAt r j) able p = [] := by
      refine List.eq_nil_iff_forall_not_mem.mpr fun i hi => ?_
      have h1 := (mem_pays.mp hi).1
      have h2 := m2 i (keep i h1 hi)
      omega
    rw [bear_nil none']
    -- the house asked is bound at the first place that pays
    have hlen : (retR r j).length = min (max 2 j) r.length := by unfold retR; rw [List.length_take]
    rcases Nat.lt_or_ge (rch (retR r j) (nmAt r j)) (retR r j).length with hl | hl
    · obtain ⟨e1, e2⟩ := rch_spec hl
      generalize rch (retR r j) (nmAt r j) = m at *
      have lt : m < max 2 j := by omega
      have e3 : (r.getD m default).2 = true := by
        unfold retR at e1
        rw [List.getD_eq_getElem?_getD, List.getElem?_take, if_pos lt, ← List.getD_eq_getElem?_getD] at e1
        exact e1
      have e2' : nmAt r m = nmAt r j := by
        unfold retR at e2
        rw [nm_take lt] at e2
        exact e2
      have hm : mayAsk r p m = true := by
        have lm : m < r.length := by omega
        unfold mayAsk
        rw [List.getElem?_eq_getElem lm]
        rw [List.getD_eq_getElem?_getD, List.getElem?_eq_getElem lm] at e3
        have hp : p = true := c3.resolve_right h0
        generalize r[m] = z at e3 ⊢
        obtain ⟨n, b⟩ := z
        have e3 : b = true := e3
        simp [e3, hp]
      have := m2 m (mem_pays.mpr ⟨by omega, hm, by rw [e2']; exact a3⟩)
      have em : m = j0 := by omega
      rw [← em, e2']
    · have : j0 = j := by omega
      rw [this]
def walkR : Row → Str → List Nat → Str
  | _, h, [] => h
  | r, _, j :: l => walkR (retR r j) (nmAt r j) l
def walkOk : Row → List Nat → Prop
  | _, [] => True
  | r, j :: l => j < r.length ∧ walkOk (retR r j) l
theorem bear_zero {r : Row} {h : Str} {able : List Str} {p : Bool} (hj : 0 ∈ pays r h able p) : nmAt r 0 = bear r h able p := (bear_min hj fun _ _ => Nat.zero_le _).symm
theorem walk_bear : ∀ (n : Nat) (r : Row) (h : Str) (able : List Str) (p : Bool), rch r h ≤ n → ∀ l ∈ runsF n r h able p, walkOk r l ∧ walkR r h l = bear r h able p
  | 0, r, h, able, p, hn, l, hl => by
    unfold runsF at hl
    obtain rfl := List.mem_singleton.mp hl
    unfold walkOk walkR
    exact ⟨trivial, (bear_nil (pays_nil (by omega))).symm⟩
  | n + 1, r, h, able, p, hn, l, hl => by
    unfold runsF at hl
    split at hl
    · rename_i e
      obtain rfl := List.mem_singleton.mp hl
      unfold walkOk walkR
      exact ⟨trivial, (bear_nil e).symm⟩
    · obtain ⟨j, hj, hl⟩ := List.mem_flatMap.mp hl
      have hja : j ∈ asks r h p := (List.mem_filter.mp hj).1
      obtain ⟨a1, a2, a3⟩ := asks_lt hja
      split at hl
      · rename_i h0
        subst h0
        obtain rfl := List.mem_singleton.mp hl
        unfold walkOk walkR walkOk walkR
        exact ⟨⟨a3, trivial⟩, bear_zero hj⟩
      · rename_i h0
        obtain ⟨l', hl', rfl⟩ := List.mem_map.mp hl
        obtain ⟨i1, i2⟩ := walk_bear n (retR r j) (nmAt r j) able p (Nat.le_trans (rch_ret hja h0) (by omega)) l' hl'
        unfold walkOk walkR
        exact ⟨⟨a3, i1⟩, by rw [i2, bear_step hj h0]⟩
def spBear : DSp := fun ds S Q _ => ∃ o r h o2 able p, ds = [o, .str h, o2, .bl p] ∧ listOf S o = some (rowD r) ∧ listOf S o2 = some (strsD able) ∧ r.length ≤ 1000 ∧ Q (.str (bear r h able p)) S
theorem ok_bearer {G : Gc} (h1 : G.fn "payable" = some (4, spPay)) : BodyOk G n_bearer_of 4 m_bearer_of spBear := by
  rintro ds S Q X - ⟨o, r, h, o2, able, p, rfl, hl, hl2, hz, q⟩
  show wSs G _ m_bearer_of [some o, some (.str h), some o2, some (.bl p), none] S _
  unfold m_bearer_of
  walk_at "x"
  simp only [h1, x_fn, true_and]
  refine callW_of ⟨o, r, h, o2, able, p, rfl, hl, hl2, hz, ?_⟩
  walk_at "x"
  simp only [eq_nil, x_some, decide_eq_true_eq]
  refine ⟨Nat.zero_le _, ?_⟩
  by_cases hp : pays r h able p = []
  · rw [if_pos hp]
    rw [bear_nil hp] at q
    exact q
  · rw [if_neg hp]
    have eb : bear r h able p = nmAt r ((pays r h able p).headD 0) := by
      unfold bear
      cases e : pays r h able p with
      | nil => exact absurd e hp
      | cons j l => rfl
    obtain ⟨j, l, e⟩ := List.exists_cons_of_ne_nil hp
    have hj : j ∈ pays r h able p := by rw [e]; exact List.mem_cons_self
    obtain ⟨a1, a2, a3⟩ := asks_lt (List.mem_filter.mp hj).1
    have e0 : atI (natsD (pays r h able p)) 0 = some (.int j) := by
      rw [e, atI_nn (by decide) (by unfold natsD; rw [List.length_map, List.length_cons]; omega)]
      rfl
    rw [e] at eb
    simp only [e0, x_some, x_idxO hl, row_at a3, pl0]
    rw [eb] at q
    exact q
def spWalked : DSp := fun ds S Q _ => ∃ o r h o2 l, ds = [o, .str h, o2] ∧ listOf S o = some (rowD r) ∧ listOf S o2 = some (natsD l) ∧ walkOk r l ∧ Q (.str (walkR r h l)) S
theorem walk_drop : ∀ {l : List Nat} {r : Row} {h : Str} {i j : Nat}, True → l[i]? = some j → l.drop i = j :: l.drop (i + 1)
  | l, r, h, i, j, _, e => by
    have hi : i < l.length := (List.getElem?_eq_some_iff.mp e).1
    rw [List.drop_eq_getElem_cons hi]
    congr 1
    rw [List.getElem?_eq_getElem hi] at e
    exact Option.some.inj e
theorem ok_walked {G : Gc} : BodyOk G n__law_walked 3 m__law_walked spWalked := by
  rintro ds S Q X - ⟨o, r, h, o2, l, rfl, hl, hl2, wk, q⟩
  show wSs G _ m__law_walked [some o, some (.str h), some o2, none] S _
  unfold m__law_walked
  obtain ⟨g, g1, g2⟩ := x_itO hl2
  have g1 : itS 0 [o2] S = some (natsD l, g) := g1
  walk_at "x"
  simp only [g1, x_some]
  refine for_ruleN (fun i σ S' => S' = S ∧ ∃ o r' h' a, listOf S o = some (rowD r') ∧ walkOk r' (l.drop i) ∧ walkR r' h' (l.drop i) = walkR r h l ∧ σ = [some o, some (.str h'), some o2, a]) ⟨rfl, o, r, h, _, hl, wk, rfl, rfl⟩ ?_ ?_
  · rintro i d σ S' hd ⟨rfl, o, r', h', a, hl', wk', ew, rfl⟩
    refine ⟨g2, ?_⟩
    unfold natsD at hd
    rw [List.getElem?_map] at hd
    obtain ⟨j, hj, rfl⟩ := Option.map_eq_some_iff.mp hd
    rw [walk_drop (r := r) (h := h) trivial hj] at wk' ew
    unfold walkOk at wk'
    have ew : walkR (retR r' j) (nmAt r' j) (l.drop (i + 1)) = walkR r h l := ew
    unfold b__law_walked_1
    walk_at "x"
    rw [max_nat]
    simp only [x_idxO hl', row_at wk'.1, x_some, pl0, x_slO hl', x_newF, cut_take, rowD_take]
    exact ⟨trivial, _, retR r' j, nmAt r' j, _, rfl, wk'.2, ew, rfl⟩
  · rintro σ S' ⟨rfl, o, r', h', a, hl', wk', ew, rfl⟩
    refine ⟨g2, ?_⟩
    have el : (natsD l).length = l.length := by unfold natsD; rw [List.length_map]
    rw [el, List.drop_length] at ew
    have ew : h' = walkR r h l := ew
    walk_at "x"
    rw [← ew] at q
    exact q
def spEnd : DSp := fun ds S Q _ => ∃ o r h o2 able p, ∃ ps : List Int, ds = [o, .str h, o2, .bl p, .lst (ps.map .int)] ∧ listOf S o = some (rowD r) ∧ listOf S o2 = some (strsD able) ∧ r.length ≤ 8 ∧ 9 ≤ ps.length ∧ Q (.str (bear r h able p)) S
theorem ok_end {G : Gc} (h1 : G.fn "_law_askable" = some (3, spLawAsk)) : BodyOk G n__law_end 5 m__law_end spEnd := by
  rintro ds S Q X - ⟨o, r, h, o2, able, p, ps, rfl, hl, hl2, hz, h9, q⟩
  show wSs G _ m__law_end [some o, some (.str h), some o2, some (.bl p), some (.lst (ps.map .int)), none, none, none] S _
  unfold m__law_end
  walk_at "x"
  refine for_ruleN (fun i σ S' => S' = S ∧ ∃ o r' h' a b c, listOf S o = some (rowD r') ∧ r'.length ≤ 8 ∧ bear r' h' able p = bear r h able p ∧ (rch r' h' + i ≤ 8 ∨ pays r' h' able p = []) ∧ σ = [some o, some (.str h'), some o2, some (.bl p), some (.lst (ps.map .int)), a, b, c]) ⟨rfl, o, r, h, _, _, _, hl, hz, rfl, .inl (Nat.le_trans (rch_le r h) hz), rfl⟩ ?_ ?_
  · rintro i d σ S' hd ⟨rfl, o, r', h', a, b, c, hl', hz', eb, hi, rfl⟩
    refine ⟨trivial, ?_⟩
    rw [List.getElem?_map] at hd
    obtain ⟨v, -, rfl⟩ := Option.map_eq_some_iff.mp hd
    unfold b__law_end_3
    walk_at "x"
    simp only [h1, x_fn, true_and]
    refine callW_of ⟨o, r', h', p, rfl, hl', by omega, ?_⟩
    walk_at "x"
    refine pay_lc (able := able) trivial (by omega) (fun j hj q' hq => ?_) ?_
    · obtain ⟨a1, a2, a3⟩ := asks_lt hj
      unfold c__law_end_1 e__law_end_2
      walk_at "x"
      simp only [x_idxO hl', row_at a3, x_some, pl0, inR_strs hl2, decide_eq_true_eq]
      unfold nmAt at hq
      split
      · rename_i hc
        rw [if_pos hc] at hq
        exact hq
      · rename_i hc
        rw [if_neg hc] at hq
        exact hq
    walk_at "x"
    simp only [eq_nil, x_some, decide_eq_false_iff_not]
    refine ⟨Nat.zero_le _, ?_⟩
    by_cases hp : pays r' h' able p = []
    · rw [if_neg (fun z => z hp)]
      exact ⟨_, r', h', _, _, _, hl', hz', eb, .inr hp, rfl⟩
    · rw [if_pos hp]
      have hlen : 0 < (pays r' h' able p).length := List.length_pos_iff.mpr hp
      have en : (natsD (pays r' h' able p)).length = (pays r' h' able p).length := by unfold natsD; rw [List.length_map]
      have m0 : 0 ≤ v % ((pays r' h' able p).length : Int) := Int.emod_nonneg _ (by omega)
      have m1 : v % ((pays r' h' able p).length : Int) < (pays r' h' able p).length := Int.emod_lt_of_pos _ (by omega)
      obtain ⟨j, hj⟩ : ∃ j, (pays r' h' able p)[(v % ((pays r' h' able p).length : Int)).toNat]? = some j := ⟨_, List.getElem?_eq_getElem (by omega)⟩
      have hat : atI (natsD (pays r' h' able p)) (v % ((pays r' h' able p).length : Int)) = some (.int j) := by
        rw [atI_nn m0 (by rw [en]; exact m1)]
        unfold natsD
        rw [List.getElem?_map, hj]
        rfl
      have hjp := List.mem_of_getElem? hj
      have hja : j ∈ asks r' h' p := (List.mem_filter.mp hjp).1
      obtain ⟨a1, a2, a3⟩ := asks_lt hja
      walk_at "x"
      simp only [en, hat, x_some]
      refine ⟨by omega, ?_⟩
      walk_at "x"
      rw [max_nat]
      simp only [x_idxO hl', row_at a3, x_some, pl0, x_slO hl', x_newF, cut_take, rowD_take]
      walk_at "x"
      split
      · rename_i h0
        have h0 : j = 0 := by omega
        subst h0
        have := bear_zero hjp
        rw [eb] at this
        rw [← this] at q
        exact q
      · rename_i h0
        have h0 : j ≠ 0 := by omega
        refine ⟨_, retR r' j, nmAt r' j, _, _, _, rfl, Nat.le_trans (ret_len r' j) hz', by rw [bear_step hjp h0]; exact eb, .inl ?_, rfl⟩
        have := rch_ret hja h0
        rcases hi with hi | hi
        · omega
        · exact absurd hi hp
  · rintro σ S' ⟨rfl, o, r', h', a, b, c, hl', hz', eb, hi, rfl⟩
    refine ⟨trivial, ?_⟩
    walk_at "x"
    rw [List.length_map] at hi
    have hp : pays r' h' able p = [] := hi.resolve_left (by omega)
    rw [← eb, bear_nil hp] at q
    exact q
end Mn

namespace Mn.K06
open PySem L2 Mn
local macro_rules | `(tactic| walk_at "x") => `(tactic| try simp only [wSs, wS, wE, wEs, wC, x_add, x_sub, x_addS, x_addT, x_addL, x_mul, x_mulS, x_mulL, x_div, x_mod, x_pow, x_lt, x_le, x_gt, x_ge, x_eqD, x_neD, x_in, x_notIn, x_is, x_isNot, x_eqI, x_eqS, x_eqB, x_isNN, x_isBN, x_isIN, x_isSN, x_isTN, x_isLN, x_isRN, x_isBB, x_lenS, x_lenT, x_lenL, x_lenP, x_sumP, x_appP, x_appTP, x_idxP, x_frzP, x_abs, x_intI, x_intB, x_max, x_allL, x_sumL, x_listL, x_listT, x_isi, x_truB, x_truI, x_truL, x_truT, x_truN, x_idxS, x_idxL, x_idxT, x_slS, x_slT, x_slL, x_it0L, x_it0T, x_it0S, x_it0C, x_it1, x_it2L, x_val, x_upd, x_newF, x_newT, x_nm, x_tp, x_tps, x_tp0, x_ite, x_iteD, x_ifD, x_some, x_some2, x_map, x_eqInt, i_N_tuple, i_N_list, i_N_bool, i_N_int, i_N_str, i_N_tl, i_B_tuple, i_B_list, i_B_bool, i_B_int, i_B_str, i_B_tl, i_I_tuple, i_I_list, i_I_bool, i_I_int, i_I_str, i_I_tl, i_S_tuple, i_S_list, i_S_bool, i_S_int, i_S_str, i_S_tl, i_T_tuple, i_T_list, i_T_bool, i_T_int, i_T_str, i_T_tl, i_L_tuple, i_L_list, i_L_bool, i_L_int, i_L_str, i_L_tl, x_pure, x_new, x_fn, List.getElem?_cons_zero, List.getElem?_cons_succ, List.set_cons_zero, List.set_cons_succ, Option.bind_some, List.length_cons, List.length_nil, Nat.reduceAdd, true_and, and_true, decide_eq_true_eq, Bool.not_eq_true', decide_eq_false_iff_not, Bool.not_false, Bool.not_true, Bool.false_eq_true, Bool.true_eq_false, if_true, if_false, ite_true, ite_false])
def n_law : List Str := ["_law_script", "_law_feed_here", "_law_row_here", "_law_able", "_law_holder", "_law_protested", "_law_handed", "_law_due", "_law_picks", "_law_run"]
def b_law_1 : List MS := [(.ite (.cmp .NotEq (.call "_law_end" [(.var 2), (.var 4), (.var 3), (.var 5), (.var 8)]) (.var 7)) [(.ret (.cst (.bl false)))] [])]
def b_law_2 : List MS := [(.ite (.or (.cmp .NotEq (.call "_law_walked" [(.var 2), (.var 4), (.var 9)]) (.var 7)) (.cmp .NotEq (.var 6) (.lst false [(.var 2), (.var 3)]))) [(.ret (.cst (.bl false)))] [])]
def b_law_3 : List MS := [(.asg (.nm 6) (.lst false [(.blt .list false [(.var 2)]), (.blt .list false [(.var 3)])])), (.asg (.nm 7) (.call "bearer_of" [(.idx (.var 6) (.cst (.int 0))), (.var 4), (.idx (.var 6) (.cst (.int 1))), (.var 5)])), (.ite (.or (.not (.blt .isinstance false [(.var 7), (.cst (.ty "str"))])) (.cmp .NotEq (.var 6) (.lst false [(.var 2), (.var 3)]))) [(.ret (.cst (.bl false)))] []), (.for_ 0 (.nm 8) [(.tup [(.bin .Mult false (.lst false [(.cst (.int 0))]) (.cst (.int 9))), (.bin .Mult false (.lst false [(.neg (.cst (.int 1)))]) (.cst (.int 9))), (.slLU false (.var 1) (.cst (.int 32)) (.cst (.int 41)))])] b_law_1), (.for_ 0 (.nm 9) [(.frz (.call "runs_of" [(.idx (.var 6) (.cst (.int 0))), (.var 4), (.idx (.var 6) (.cst (.int 1))), (.var 5)]))] b_law_2)]
def b_law_4 : List MS := [(.for_ 0 (.nm 5) [(.tup [(.cst (.bl true)), (.cst (.bl false))])] b_law_3)]
def m_law : List MS := [(.asg (.nm 1) (.call "_law_feed" [(.var 0)])), (.asg (.nm 2) (.call "_law_row" [(.var 1)])), (.asg (.nm 3) (.call "_law_able_names" [(.var 1)])), (.for_ 0 (.nm 4) [(.tup [(.call "_law_name" [(.idx (.var 1) (.cst (.int 2))), (.bin .Mod false (.idx (.var 1) (.cst (.int 31))) (.cst (.int 9)))]), (.cst (.str "nobody"))])] b_law_4), (.ret (.cst (.bl true)))]
theorem eq_hand {S : Sto} {r : Row} {able : List Str} : eqR (.lst [.lst (rowD r), .lst (strsD able)]) (.lst [.lst (rowD r), .lst (strsD able)]) S = some true := by
  obtain ⟨p1, p2, p3⟩ := row_pure r
  obtain ⟨s1, s2⟩ := K05.strs_pure able
  refine x_eqSelf ?_ ?_
  · show (pureDs (rowD r) && (pureDs (strsD able) && true)) = true
    rw [p1, s1]; rfl
  · show max (deps (rowD r) + 1) (max (deps (strsD able) + 1) 0) + 1 ≤ 60
    omega
theorem ok_law {G : Gc} (h1 : G.fn "_law_feed" = some (1, spFeed)) (h2 : G.fn "_law_row" = some (1, spRow)) (h3 : G.fn "_law_name" = some (2, spName)) (h4 : G.fn "_law_able_names" = some (1, spAble)) (h5 : G.fn "runs_of" = some (4, spRuns 8)) (h6 : G.fn "bearer_of" = some (4, spBear)) (h7 : G.fn "_law_end" = some (5, spEnd)) (h8 : G.fn "_law_walked" = some (3, spWalked)) : BodyOk G n_law 1 m_law spLaw := by
  rintro ds S Q X - ⟨ns, rfl, hl, -, q⟩
  show wSs G _ m_law [some (.scr ns), none, none, none, none, none, none, none, none, none] S _
  unfold m_law
  walk_at "x"
  simp only [h1, x_fn, true_and]
  refine callW_of ⟨ns, rfl, fun fs F => ?_⟩
  simp only [h2, x_fn, true_and]
  refine callW_of ⟨fs, rfl, F, fun r R => ?_⟩
  simp only [h4, x_fn, true_and]
  refine callW_of ⟨fs, rfl, F, fun able hable => ?_⟩
  have rz : r.length ≤ 8 := R.2.1
  unfold fdD
  walk_at "x"
  simp only [h3, x_fn, true_and, fv_at F (i := 2) (by decide) (by decide), fv_at F (i := 31) (by decide) (by decide), x_some]
  walk_at "x"
  refine ⟨by decide, callW_of ⟨_, _, rfl, by decide, ?_⟩⟩
  refine for_ruleN (fun i σ S' => ∃ a b c d e f, σ = [some (.scr ns), some (.lst (fs.map .int)), some (.lst (rowD r)), some (.lst (strsD able)), a, b, c, d, e, f]) ⟨_, _, _, _, _, _, rfl⟩ ?_ ?_
  · rintro i z σ S' hd ⟨a, b, c, d, e, f, rfl⟩
    obtain ⟨h, rfl⟩ : ∃ h, z = .str h := by
      rcases i with _ | _ | i
      · simp at hd; exact ⟨_, hd.symm⟩
      · simp at hd; exact ⟨_, hd.symm⟩
      · simp at hd
    have hr8 : rch r h ≤ 8 := Nat.le_trans (rch_le r h) rz
    refine ⟨trivial, ?_⟩
    unfold b_law_4
    walk_at "x"
    refine ⟨by decide, ?_⟩
    refine for_ruleN (fun i σ S' => ∃ b c d e f, σ = [some (.scr ns), some (.lst (fs.map .int)), some (.lst (rowD r)), some (.lst (strsD able)), some (.str h), b, c, d, e, f]) ⟨_, _, _, _, _, rfl⟩ ?_ ?_
    · rintro j z σ S' hd ⟨b, c, d, e, f, rfl⟩
      obtain ⟨p, rfl⟩ : ∃ p, z = .bl p := by
        rcases j with _ | _ | j
        · simp at hd; exact ⟨_, hd.symm⟩
        · simp at hd; exact ⟨_, hd.symm⟩
        · simp at hd
      refine ⟨trivial, ?_⟩
      have i0 : atI [D.lst (rowD r), D.lst (strsD able)] 0 = some (.lst (rowD r)) := rfl
      have i1 : atI [D.lst (rowD r), D.lst (strsD able)] 1 = some (.lst (strsD able)) := rfl
      have cut9 : ∃ ps : List Int, cutD (fs.map D.int) (some 32) (some 41) = ps.map .int ∧ 9 ≤ ps.length := by
        refine ⟨(fs.drop 32).take 9, ?_, ?_⟩
        · unfold cutD
          have e1 := HT.sIx_nat (fs.map D.int).length 0 32
          have e2 := HT.sIx_nat (fs.map D.int).length (fs.map D.int).length 41
          have hlo := F.lo
          rw [List.length_map] at e1 e2 ⊢
          have e1 : HT.sIx fs.length 0 (some 32) = 32 := by rw [show (some (32 : Int)) = some ((32 : Nat) : Int) from rfl, e1]; omega
          have e2 : HT.sIx fs.length fs.length (some 41) = 41 := by rw [show (some (41 : Int)) = some ((41 : Nat) : Int) from rfl, e2]; omega
          rw [e1, e2, List.map_take, List.map_drop]
        · have hlo := F.lo
          rw [List.length_take, List.length_drop]
          omega
      obtain ⟨ps, hps, hps9⟩ := cut9
      unfold b_law_3
      walk_at "x"
      simp only [h5, h6, x_fn, true_and, i0, i1, x_some, hps]
      refine ⟨by decide, callW_of ⟨_, r, h, _, able, p, rfl, rfl, rfl, by omega, ?_⟩⟩
      walk_at "x"
      simp only [eq_hand, x_some]
      walk_at "x"
      refine ⟨by decide, by decide, ⟨by decide, by decide, by decide⟩, by decide, ⟨by decide, by decide, by decide⟩, by decide, ?_⟩
      refine for_ruleN (fun i σ S' => ∃ e f, σ = [some (.scr ns), some (.lst (fs.map .int)), some (.lst (rowD r)), some (.lst (strsD able)), some (.str h), some (.bl p), some (.lst [.lst (rowD r), .lst (strsD able)]), some (.str (bear r h able p)), e, f]) ⟨_, _, rfl⟩ ?_ ?_
      · rintro i2 z σ S' hd2 ⟨e, f, rfl⟩
        obtain ⟨qs, rfl, hq9⟩ : ∃ qs : List Int, z = .lst (qs.map .int) ∧ 9 ≤ qs.length := by
          rcases i2 with _ | _ | _ | i2
          · simp only [List.getElem?_cons_zero] at hd2; cases hd2; exact ⟨List.replicate 9 0, rfl, by decide⟩
          · simp only [List.getElem?_cons_zero, List.getElem?_cons_succ] at hd2; cases hd2; exact ⟨List.replicate 9 (-1), rfl, by decide⟩
          · simp only [List.getElem?_cons_zero, List.getElem?_cons_succ] at hd2; cases hd2; exact ⟨ps, rfl, hps9⟩
          · simp at hd2
        refine ⟨trivial, ?_⟩
        unfold b_law_1
        walk_at "x"
        simp only [h7, x_fn, true_and]
        refine callW_of ⟨_, r, h, _, able, p, qs, rfl, rfl, rfl, rz, hq9, ?_⟩
        walk_at "x"
        exact ⟨_, _, rfl⟩
      · rintro σ S' ⟨e, f, rfl⟩
        refine ⟨trivial, ?_⟩
        walk_at "x"
        simp only [i0, i1, x_some]
        refine callW_of ⟨_, r, h, _, able, p, rfl, rfl, rfl, rz, hr8, Nat.le_refl _, fun S4 w ws _ hw rb => ?_⟩
        refine ⟨w, _, rfl, rb.top, ?_⟩
        refine for_ruleN (fun i σ S' => S' = rm S4 w ∧ ∃ f, σ = [some (.scr ns), some (.lst (fs.map .int)), some (.lst (rowD r)), some (.lst (strsD able)), some (.str h), some (.bl p), some (.lst [.lst (rowD r), .lst (strsD able)]), some (.str (bear r h able p)), e, f]) ⟨rfl, _, rfl⟩ ?_ ?_
        · rintro i2 z σ S' hd2 ⟨rfl, f, rfl⟩
          rw [List.getElem?_map] at hd2
          obtain ⟨x, hx, rfl⟩ := Option.map_eq_some_iff.mp hd2
          obtain ⟨l, hlr⟩ : ∃ l, (runsF 8 r h able p)[i2]? = some l := ⟨_, List.getElem?_eq_getElem (by rw [← rb.len]; exact (List.getElem?_eq_some_iff.mp hx).1)⟩
          obtain ⟨x1, x2, x3⟩ := rb.at_ i2 x l hx hlr
          obtain ⟨wk, eb⟩ := walk_bear 8 r h able p hr8 l (List.mem_of_getElem? hlr)
          have lx : listOf (rm S4 w) (.ref x) = some (natsD l) := lstAt_of (by rw [rm_ne x2]; exact x1)
          refine ⟨trivial, ?_⟩
          unfold b_law_2
          walk_at "x"
          simp only [h8, x_fn, true_and]
          refine callW_of ⟨_, r, h, _, l, rfl, rfl, lx, wk, ?_⟩
          rw [eb]
          walk_at "x"
          simp only [eq_hand, x_some]
          walk_at "x"
          refine ⟨by decide, ?_⟩
          exact ⟨_, rfl⟩
        · rintro σ S' ⟨rfl, f, rfl⟩
          exact ⟨trivial, _, _, _, _, _, rfl⟩
    · rintro σ S' ⟨b, c, d, e, f, rfl⟩
      exact ⟨trivial, _, _, _, _, _, _, rfl⟩
  · rintro σ S' ⟨a, b, c, d, e, f, rfl⟩
    refine ⟨trivial, ?_⟩
    walk_at "x"
    exact q _
end Mn.K06

namespace Mn
open PySem L2
def stAt (i : Nat) : Stmt := PySem.Challenge.pw_allonge_k06_whole_one_bearer.main.body.getD i (.Pass ⟨0, 0, 0, 0⟩)
def d_reach : He.DefD := ⟨("reach", none), "reach", "reach", defArgs (stAt 1), defBody (stAt 1), defScope (stAt 1), [], []⟩
def d_askable : He.DefD := ⟨("askable", none), "askable", "askable", defArgs (stAt 2), defBody (stAt 2), defScope (stAt 2), [], []⟩
def d_returned : He.DefD := ⟨("returned", none), "returned", "returned", defArgs (stAt 3), defBody (stAt 3), defScope (stAt 3), [], []⟩
def d_payable : He.DefD := ⟨("payable", none), "payable", "payable", defArgs (stAt 4), defBody (stAt 4), defScope (stAt 4), [], []⟩
def d_runs_of : He.DefD := ⟨("runs_of", none), "runs_of", "runs_of", defArgs (stAt 5), defBody (stAt 5), defScope (stAt 5), [], []⟩
def d_bearer_of : He.DefD := ⟨("bearer_of", none), "bearer_of", "bearer_of", defArgs (stAt 6), defBody (stAt 6), defScope (stAt 6), [], []⟩
def d__law_feed : He.DefD := ⟨("_law_feed", none), "_law_feed", "_law_feed", defArgs (stAt 8), defBody (stAt 8), defScope (stAt 8), [], []⟩
def d__law_name : He.DefD := ⟨("_law_name", none), "_law_name", "_law_name", defArgs (stAt 9), defBody (stAt 9), defScope (stAt 9), [], []⟩
def d__law_reach : He.DefD := ⟨("_law_reach", none), "_law_reach", "_law_reach", defArgs (stAt 10), defBody (stAt 10), defScope (stAt 10), [], []⟩
def d__law_askable : He.DefD := ⟨("_law_askable", none), "_law_askable", "_law_askable", defArgs (stAt 11), defBody (stAt 11), defScope (stAt 11), [], []⟩
def d__law_row : He.DefD := ⟨("_law_row", none), "_law_row", "_law_row", defArgs (stAt 12), defBody (stAt 12), defScope (stAt 12), [], []⟩
def d__law_able_names : He.DefD := ⟨("_law_able_names", none), "_law_able_names", "_law_able_names", defArgs (stAt 13), defBody (stAt 13), defScope (stAt 13), [], []⟩
def d__law_end : He.DefD := ⟨("_law_end", none), "_law_end", "_law_end", defArgs (stAt 14), defBody (stAt 14), defScope (stAt 14), [], []⟩
def d__law_walked : He.DefD := ⟨("_law_walked", none), "_law_walked", "_law_walked", defArgs (stAt 15), defBody (stAt 15), defScope (stAt 15), [], []⟩
def d_law : He.DefD := ⟨("law", none), "law", "law", defArgs (stAt 16), defBody (stAt 16), defScope (stAt 16), [], []⟩
def fn0 : List He.DefD := [d_reach, d_askable, d_returned, d_payable, d_runs_of, d_bearer_of, d__law_feed, d__law_name, d__law_reach, d__law_askable, d__law_row, d__law_able_names, d__law_end, d__law_walked, d_law]
def fnA : List He.DefD := fn0
def conA : List (Str × D) := []
def fa0 : List He.Fa := [.glo "reach", .glo "askable", .glo "returned", .glo "payable", .glo "runs_of", .glo "bearer_of", .glo "_law_feed", .glo "_law_name", .glo "_law_reach", .glo "_law_askable", .glo "_law_row", .glo "_law_able_names", .glo "_law_end", .glo "_law_walked", .glo "law"]
def faA : List He.Fa := frees.map He.Fa.free ++ (fa0)
def en0 : Ent := ⟨d_reach, ["row", "house"], n_reach, m_reach, spReach⟩
def es0 : List Ent := [en0]
def en1 : Ent := ⟨d_askable, ["row", "holder", "protested"], n_askable, m_askable, spAsk⟩
def es1 : List Ent := en1 :: es0
def en2 : Ent := ⟨d_returned, ["row", "place"], n_returned, m_returned, spRet⟩
def es2 : List Ent := en2 :: es1
def en3 : Ent := ⟨d_payable, ["row", "holder", "able", "protested"], n_payable, m_payable, spPay⟩
def es3 : List Ent := en3 :: es2
def en4 : Ent := ⟨d_runs_of, ["row", "holder", "able", "protested"], n_runs_of, m_runs_of, spRuns 0⟩
def es4 : List Ent := en4 :: es3
def en5 : Ent := ⟨d_runs_of, ["row", "holder", "able", "protested"], n_runs_of, m_runs_of, spRuns 1⟩
def es5 : List Ent := en5 :: es4
def en6 : Ent := ⟨d_runs_of, ["row", "holder", "able", "protested"], n_runs_of, m_runs_of, spRuns 2⟩
def es6 : List Ent := en6 :: es5
def en7 : Ent := ⟨d_runs_of, ["row", "holder", "able", "protested"], n_runs_of, m_runs_of, spRuns 3⟩
def es7 : List Ent := en7 :: es6
def en8 : Ent := ⟨d_runs_of, ["row", "holder", "able", "protested"], n_runs_of, m_runs_of, spRuns 4⟩
def es8 : List Ent := en8 :: es7
def en9 : Ent := ⟨d_runs_of, ["row", "holder", "able", "protested"], n_runs_of, m_runs_of, spRuns 5⟩
def es9 : List Ent := en9 :: es8
def en10 : Ent := ⟨d_runs_of, ["row", "holder", "able", "protested"], n_runs_of, m_runs_of, spRuns 6⟩
def es10 : List Ent := en10 :: es9
def en11 : Ent := ⟨d_runs_of, ["row", "holder", "able", "protested"], n_runs_of, m_runs_of, spRuns 7⟩
def es11 : List Ent := en11 :: es10
def en12 : Ent := ⟨d_runs_of, ["row", "holder", "able", "protested"], n_runs_of, m_runs_of, spRuns 8⟩
def es12 : List Ent := en12 :: es11
def en13 : Ent := ⟨d_bearer_of, ["row", "holder", "able", "protested"], n_bearer_of, m_bearer_of, spBear⟩
def es13 : List Ent := en13 :: es12
def en14 : Ent := ⟨d__law_feed, ["_law_script"], n__law_feed, m__law_feed, spFeed⟩
def es14 : List Ent := en14 :: es13
def en15 : Ent := ⟨d__law_name, ["_law_pick", "_law_k"], n__law_name, m__law_name, spName⟩
def es15 : List Ent := en15 :: es14
def en16 : Ent := ⟨d__law_reach, ["_law_row_here", "_law_house"], n__law_reach, m__law_reach, spReach⟩
def es16 : List Ent := en16 :: es15
def en17 : Ent := ⟨d__law_askable, ["_law_row_here", "_law_holder", "_law_protested"], n__law_askable, m__law_askable, spLawAsk⟩
def es17 : List Ent := en17 :: es16
def en18 : Ent := ⟨d__law_row, ["_law_feed_here"], n__law_row, m__law_row, spRow⟩
def es18 : List Ent := en18 :: es17
def en19 : Ent := ⟨d__law_able_names, ["_law_feed_here"], n__law_able_names, m__law_able_names, spAble⟩
def es19 : List Ent := en19 :: es18
def en20 : Ent := ⟨d__law_end, ["_law_row_here", "_law_holder", "_law_able", "_law_protested", "_law_picks"], n__law_end, m__law_end, spEnd⟩
def es20 : List Ent := en20 :: es19
def en21 : Ent := ⟨d__law_walked, ["_law_row_here", "_law_holder", "_law_run"], n__law_walked, m__law_walked, spWalked⟩
def es21 : List Ent := en21 :: es20
def en22 : Ent := ⟨d_law, ["_law_script"], K06.n_law, K06.m_law, spLaw⟩
def es22 : List Ent := en22 :: es21
theorem ck0 : en0.chk = true := by kernel_rfl
theorem bi0 : en0.binds := fun _ _ _ _ _ _ us hl => match us, hl with | [_, _], _ => rfl
theorem md0 : Mods (conL conA) faA fnA es0 := .cons .nil 0 (by rfl) (List.mem_of_getElem? (i := 13) (by kernel_rfl)) ck0 bi0 (ok_reach)
theorem ck1 : en1.chk = true := by kernel_rfl
theorem bi1 : en1.binds := fun _ _ _ _ _ _ us hl => match us, hl with | [_, _, _], _ => rfl
theorem md1 : Mods (conL conA) faA fnA es1 := .cons md0 1 (by rfl) (List.mem_of_getElem? (i := 14) (by kernel_rfl)) ck1 bi1 (ok_askable (by kernel_rfl))
theorem ck2 : en2.chk = true := by kernel_rfl
theorem bi2 : en2.binds := fun _ _ _ _ _ _ us hl => match us, hl with | [_, _], _ => rfl
theorem md2 : Mods (conL conA) faA fnA es2 := .cons md1 2 (by rfl) (List.mem_of_getElem? (i := 15) (by kernel_rfl)) ck2 bi2 (ok_returned)
theorem ck3 : en3.chk = true := by kernel_rfl
theorem bi3 : en3.binds := fun _ _ _ _ _ _ us hl => match us, hl with | [_, _, _, _], _ => rfl
theorem md3 : Mods (conL conA) faA fnA es3 := .cons md2 3 (by rfl) (List.mem_of_getElem? (i := 16) (by kernel_rfl)) ck3 bi3 (ok_payable (by kernel_rfl))
theorem ck4 : en4.chk = true := by kernel_rfl
theorem bi4 : en4.binds := fun _ _ _ _ _ _ us hl => match us, hl with | [_, _, _, _], _ => rfl
theorem md4 : Mods (conL conA) faA fnA es4 := .cons md3 4 (by rfl) (List.mem_of_getElem? (i := 17) (by kernel_rfl)) ck4 bi4 (ok_runs 0 (by kernel_rfl) (by kernel_rfl) (fun _ h => nomatch h))
theorem ck5 : en5.chk = true := ck4
theorem bi5 : en5.binds := bi4
theorem md5 : Mods (conL conA) faA fnA es5 := .cons md4 4 (by rfl) (List.mem_of_getElem? (i := 17) (by kernel_rfl)) ck5 bi5 (ok_runs 1 (by kernel_rfl) (by kernel_rfl) (fun _ h => by cases h; kernel_rfl))
theorem ck6 : en6.chk = true := ck4
theorem bi6 : en6.binds := bi4
theorem md6 : Mods (conL conA) faA fnA es6 := .cons md5 4 (by rfl) (List.mem_of_getElem? (i := 17) (by kernel_rfl)) ck6 bi6 (ok_runs 2 (by kernel_rfl) (by kernel_rfl) (fun _ h => by cases h; kernel_rfl))
theorem ck7 : en7.chk = true := ck4
theorem bi7 : en7.binds := bi4
theorem md7 : Mods (conL conA) faA fnA es7 := .cons md6 4 (by rfl) (List.mem_of_getElem? (i := 17) (by kernel_rfl)) ck7 bi7 (ok_runs 3 (by kernel_rfl) (by kernel_rfl) (fun _ h => by cases h; kernel_rfl))
theorem ck8 : en8.chk = true := ck4
theorem bi8 : en8.binds := bi4
theorem md8 : Mods (conL conA) faA fnA es8 := .cons md7 4 (by rfl) (List.mem_of_getElem? (i := 17) (by kernel_rfl)) ck8 bi8 (ok_runs 4 (by kernel_rfl) (by kernel_rfl) (fun _ h => by cases h; kernel_rfl))
theorem ck9 : en9.chk = true := ck4
theorem bi9 : en9.binds := bi4
theorem md9 : Mods (conL conA) faA fnA es9 := .cons md8 4 (by rfl) (List.mem_of_getElem? (i := 17) (by kernel_rfl)) ck9 bi9 (ok_runs 5 (by kernel_rfl) (by kernel_rfl) (fun _ h => by cases h; kernel_rfl))
theorem ck10 : en10.chk = true := ck4
theorem bi10 : en10.binds := bi4
theorem md10 : Mods (conL conA) faA fnA es10 := .cons md9 4 (by rfl) (List.mem_of_getElem? (i := 17) (by kernel_rfl)) ck10 bi10 (ok_runs 6 (by kernel_rfl) (by kernel_rfl) (fun _ h => by cases h; kernel_rfl))
theorem ck11 : en11.chk = true := ck4
theorem bi11 : en11.binds := bi4
theorem md11 : Mods (conL conA) faA fnA es11 := .cons md10 4 (by rfl) (List.mem_of_getElem? (i := 17) (by kernel_rfl)) ck11 bi11 (ok_runs 7 (by kernel_rfl) (by kernel_rfl) (fun _ h => by cases h; kernel_rfl))
theorem ck12 : en12.chk = true := ck4
theorem bi12 : en12.binds := bi4
theorem md12 : Mods (conL conA) faA fnA es12 := .cons md11 4 (by rfl) (List.mem_of_getElem? (i := 17) (by kernel_rfl)) ck12 bi12 (ok_runs 8 (by kernel_rfl) (by kernel_rfl) (fun _ h => by cases h; kernel_rfl))
theorem ck13 : en13.chk = true := by kernel_rfl
theorem bi13 : en13.binds := fun _ _ _ _ _ _ us hl => match us, hl with | [_, _, _, _], _ => rfl
theorem md13 : Mods (conL conA) faA fnA es13 := .cons md12 5 (by rfl) (List.mem_of_getElem? (i := 18) (by kernel_rfl)) ck13 bi13 (ok_bearer (by kernel_rfl))
theorem ck14 : en14.chk = true := by kernel_rfl
theorem bi14 : en14.binds := fun _ _ _ _ _ _ us hl => match us, hl with | [_], _ => rfl
theorem md14 : Mods (conL conA) faA fnA es14 := .cons md13 6 (by rfl) (List.mem_of_getElem? (i := 19) (by kernel_rfl)) ck14 bi14 (ok_feed)
theorem ck15 : en15.chk = true := by kernel_rfl
theorem bi15 : en15.binds := fun _ _ _ _ _ _ us hl => match us, hl with | [_, _], _ => rfl
theorem md15 : Mods (conL conA) faA fnA es15 := .cons md14 7 (by rfl) (List.mem_of_getElem? (i := 20) (by kernel_rfl)) ck15 bi15 (ok_name)
theorem ck16 : en16.chk = true := by kernel_rfl
theorem bi16 : en16.binds := fun _ _ _ _ _ _ us hl => match us, hl with | [_, _], _ => rfl
theorem md16 : Mods (conL conA) faA fnA es16 := .cons md15 8 (by rfl) (List.mem_of_getElem? (i := 21) (by kernel_rfl)) ck16 bi16 (ok_law_reach)
theorem ck17 : en17.chk = true := by kernel_rfl
theorem bi17 : en17.binds := fun _ _ _ _ _ _ us hl => match us, hl with | [_, _, _], _ => rfl
theorem md17 : Mods (conL conA) faA fnA es17 := .cons md16 9 (by rfl) (List.mem_of_getElem? (i := 22) (by kernel_rfl)) ck17 bi17 (ok_law_askable (by kernel_rfl))
theorem ck18 : en18.chk = true := by kernel_rfl
theorem bi18 : en18.binds := fun _ _ _ _ _ _ us hl => match us, hl with | [_], _ => rfl
theorem md18 : Mods (conL conA) faA fnA es18 := .cons md17 10 (by rfl) (List.mem_of_getElem? (i := 23) (by kernel_rfl)) ck18 bi18 (ok_row (by kernel_rfl))
theorem ck19 : en19.chk = true := by kernel_rfl
theorem bi19 : en19.binds := fun _ _ _ _ _ _ us hl => match us, hl with | [_], _ => rfl
theorem md19 : Mods (conL conA) faA fnA es19 := .cons md18 11 (by rfl) (List.mem_of_getElem? (i := 24) (by kernel_rfl)) ck19 bi19 (ok_able (by kernel_rfl))
theorem ck20 : en20.chk = true := by kernel_rfl
theorem bi20 : en20.binds := fun _ _ _ _ _ _ us hl => match us, hl with | [_, _, _, _, _], _ => rfl
theorem md20 : Mods (conL conA) faA fnA es20 := .cons md19 12 (by rfl) (List.mem_of_getElem? (i := 25) (by kernel_rfl)) ck20 bi20 (ok_end (by kernel_rfl))
theorem ck21 : en21.chk = true := by kernel_rfl
theorem bi21 : en21.binds := fun _ _ _ _ _ _ us hl => match us, hl with | [_, _, _], _ => rfl
theorem md21 : Mods (conL conA) faA fnA es21 := .cons md20 13 (by rfl) (List.mem_of_getElem? (i := 26) (by kernel_rfl)) ck21 bi21 (ok_walked)
theorem ck22 : en22.chk = true := by kernel_rfl
theorem bi22 : en22.binds := fun _ _ _ _ _ _ us hl => match us, hl with | [_], _ => rfl
theorem md22 : Mods (conL conA) faA fnA es22 := .cons md21 14 (by rfl) (List.mem_of_getElem? (i := 27) (by kernel_rfl)) ck22 bi22 (K06.ok_law (by kernel_rfl) (by kernel_rfl) (by kernel_rfl) (by kernel_rfl) (by kernel_rfl) (by kernel_rfl) (by kernel_rfl) (by kernel_rfl))
def nm0 : List PySem.Str := ["__name__", "reach", "askable", "returned", "payable", "runs_of", "bearer_of", "_law_feed", "_law_name", "_law_reach", "_law_askable", "_law_row", "_law_able_names", "_law_end", "_law_walked"]
def nmA : List PySem.Str := nm0
abbrev R0 : PySem.W.OpenRow := PySem.W.OpenLaw.row PySem.Challenge.rw_allonge_k06_whole_one_bearer
abbrev hkA : PySem.W.Hook := hookM faA fnA
def obA (s : PySem.W.SharedT) : He.AlD := obsMG faA fnA (HandSHeadRun.getT s)
theorem obA_eq (s : PySem.W.SharedT) : obA s = hkA.obs s.abs := obsMG_eq (HandSHeadRun.getT_eq s)
theorem runA (w : World) : HandSHeadRun.RunEq R0 (PySem.W.view R0.prog [16]) hkA obA 2000 nmA w := by
  intro os
  kernel_rfl
end Mn
open PySem PySem.W PySem.Calls PyProof.Rows
theorem PySem.Challenge.cw_allonge_k06_whole_one_bearer_holds : PySem.Challenge.rw_allonge_k06_whole_one_bearer.Holds := by
  w_on; o_law
  refine HandSHeadRun.head_any (r := Mn.R0) (q := view Mn.R0.prog [16]) (H := Mn.hkA) (ob := Mn.obA) (M := 2000) (loose := Mn.nmA) (d := HandSHeadRun.topDef Mn.R0.prog 16) (kwd := []) Mn.obA_eq
    (by kernel_rfl) (fun s => by kernel_rfl) Mn.runA (by kernel_rfl) (by kernel_rfl) (by kernel_rfl) (by rfl) (by first | assumption | decide +kernel) (by decide +kernel) ⟨rfl, rfl, rfl, rfl, rfl, by decide +kernel⟩ ?hw ?hc
  case hw => w_witness2
  case hc =>
    refine Mn.walk_mn (l := PySem.Challenge.rw_allonge_k06_whole_one_bearer) (k := 23) (x := "_law_script") (sp := Mn.spLaw) rfl (by kernel_rfl) ⟨rfl, by decide, by decide⟩ (by kernel_rfl) (fun ns hl => ⟨ns, rfl, hl, rfl, fun _ => rfl⟩) ?F
    exact Mn.law_of (e := Mn.en22) (r := Mn.es21) (con := Mn.conL Mn.conA) ⟨_, rfl⟩ (fun K h mg X G c => Mn.conL_ok (fun _ h => nomatch h) X G c) Mn.md22 rfl rfl

