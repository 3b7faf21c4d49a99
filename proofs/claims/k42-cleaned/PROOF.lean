import PyProof.Rows.All
import Wide.All
import OpenK.AllK
import Wide.FinOn
import HandS.ForMost
import HandS.IsInst
import HandS.ForExc
import HandS.TryMany
import HandS.ExcIs
import HandS.ExcField
import HandS.Small
import KE.KExcIs
import HandS.More
import KE.DataEq
import HandS.ExcInit
import PyProof.StrOps2
import HandS.DeepEq
import HandS.Style
import HandS.Flow
import PySem.Challenge.RW_fellwhere_k42_texts_cleaned
set_option Elab.async false
set_option linter.all false
set_option maxRecDepth 100000
set_option maxHeartbeats 4000000
/-! data by value over the hand layer -/
namespace D
open PySem PySem.Spec PyProof.Rows L2

inductive Dt where
  | non | bl (b : Bool) | int (i : Int) | str (x : Str) | byt (b : Array UInt8) | ty (n : String)
  | lst (xs : List Dt) | tup (xs : List Dt) | dct (kvs : List (Key × Dt)) | ins (C : Addr) (fs : List (Str × Dt)) | ref (a : Addr) | exn (a : Addr) (d : Option Addr) (C : Addr) (fs : List (Str × Dt))

def KL (K : PySem.W.Frag) (a : Addr) (xs : List V) : Prop :=
  ∃ (o : Obj) (its : Array Value) (n : Nat), K.lookup a = some o ∧ o.cls = .type "list" ∧ o.dict = none ∧ o.data = .seq its n ∧ its.size ≤ sizeLine ∧ Vals xs its.toList
def KT (K : PySem.W.Frag) (a : Addr) (xs : List V) : Prop :=
  ∃ (o : Obj) (its : Array Value) (n : Nat), K.lookup a = some o ∧ o.cls = .type "tuple" ∧ o.data = .seq its n ∧ its.size ≤ sizeLine ∧ Vals xs its.toList

abbrev Zs := Addr → Prop
mutual
inductive Rp (K : PySem.W.Frag) (Z : Zs) (H : Hp) : V → Dt → Prop
  | non : Rp K Z H .non .non
  | bl (b : Bool) : Rp K Z H (.bl b) (.bl b)
  | int (i : Int) : Rp K Z H (.int i) (.int i)
  | str (x : Str) : Rp K Z H (.str x) (.str x)
  | byt (b : Array UInt8) : Rp K Z H (.byt b) (.byt b)
  | ty (n : String) : Rp K Z H (.ty n) (.ty n)
  | ref (a : Addr) : Rp K Z H (.ref a) (.ref a)
  | lst {a : Addr} {vs : List V} {ds : List Dt} : Z a → H a = some (.lst vs) → RpAll K Z H vs ds → Rp K Z H (.ref a) (.lst ds)
  | tup {a : Addr} {vs : List V} {ds : List Dt} : (Z a ∧ Rd H a (.tup vs)) ∨ KT K a vs → RpAll K Z H vs ds → Rp K Z H (.ref a) (.tup ds)
  | dct {a : Addr} {ks : List Key} {vs : List V} {ds : List Dt} : Z a → Rd H a (.dK (ks.zip vs)) → ks.length = vs.length → RpAll K Z H vs ds → Rp K Z H (.ref a) (.dct (ks.zip ds))
  | exn0 (a C : Addr) : Rp K Z H (.ref a) (.exn a none C [])
  | exn1 {dd : Addr} {ns : List Str} {vs : List V} {ds : List Dt} (a C : Addr) : Z dd → H dd = some (.xd (ns.zip vs)) → ns.length = vs.length → RpAll K Z H vs ds → Rp K Z H (.ref a) (.exn a (some dd) C (ns.zip ds))
  | ins {a C dx : Addr} {ns : List Str} {vs : List V} {ds : List Dt} : Z a → H a = some (.ins C dx (ns.zip vs)) → ns.length = vs.length → RpAll K Z H vs ds → Rp K Z H (.ref a) (.ins C (ns.zip ds))
inductive RpAll (K : PySem.W.Frag) (Z : Zs) (H : Hp) : List V → List Dt → Prop
  | nil : RpAll K Z H [] []
  | cons {v : V} {vs : List V} {d : Dt} {ds : List Dt} : Rp K Z H v d → RpAll K Z H vs ds → RpAll K Z H (v :: vs) (d :: ds)
end

section
variable {K : PySem.W.Frag} {Z Z' : Zs} {H H' : Hp}
theorem rd_mono (hz : ∀ b o, Z b → H b = some o → H' b = some o) {a : Addr} {u : HO} (za : Z a) (h : Rd H a u) : Rd H' a u := by
  rcases h with h | ⟨o, h⟩
  · exact .inl (hz _ _ za h)
  · exact .inr ⟨o, hz _ _ za h⟩
theorem Rp.mono (h1 : ∀ b, Z b → Z' b) (hz : ∀ b o, Z b → H b = some o → H' b = some o) {v : V} {d : Dt} (h : Rp K Z H v d) : Rp K Z' H' v d := by
  refine Rp.rec (motive_1 := fun v d _ => Rp K Z' H' v d) (motive_2 := fun vs ds _ => RpAll K Z' H' vs ds) .non .bl .int .str .byt .ty .ref ?_ ?_ ?_ .exn0 ?_ ?_ .nil ?_ h
  · intro a vs ds z h _ ih
    exact .lst (h1 _ z) (hz _ _ z h) ih
  · intro a vs ds h _ ih
    exact .tup (h.imp (fun ⟨z, r⟩ => ⟨h1 _ z, rd_mono hz z r⟩) id) ih
  · intro a ks vs ds z r l _ ih
    exact .dct (h1 _ z) (rd_mono hz z r) l ih
  · intro dd ns vs ds a C z r l _ ih
    exact .exn1 a C (h1 _ z) (hz _ _ z r) l ih
  · intro a C dx ns vs ds z r l _ ih
    exact .ins (h1 _ z) (hz _ _ z r) l ih
  · intro v vs d ds _ _ i1 i2
    exact .cons i1 i2
theorem RpAll.mono (h1 : ∀ b, Z b → Z' b) (hz : ∀ b o, Z b → H b = some o → H' b = some o) {vs : List V} {ds : List Dt} (h : RpAll K Z H vs ds) : RpAll K Z' H' vs ds := by
  induction vs generalizing ds with
  | nil => cases h; exact .nil
  | cons v vs ih =>
    cases h with
    | cons a b => exact .cons (a.mono h1 hz) (ih b)
theorem RpAll.length {vs : List V} {ds : List Dt} (h : RpAll K Z H vs ds) : vs.length = ds.length := by
  induction vs generalizing ds with
  | nil => cases h; rfl
  | cons v vs ih =>
    cases h with
    | cons a b => simp [ih b]
theorem RpAll.get {vs : List V} {ds : List Dt} (h : RpAll K Z H vs ds) {i : Nat} {d : Dt} (e : ds[i]? = some d) : ∃ v, vs[i]? = some v ∧ Rp K Z H v d := by
  induction vs generalizing ds i with
  | nil => cases h; simp at e
  | cons v vs ih =>
    cases h with
    | cons a b =>
      cases i with
      | zero => simp at e; subst e; exact ⟨v, rfl, a⟩
      | succ i => simp at e; obtain ⟨w, h1, h2⟩ := ih b e; exact ⟨w, by simpa using h1, h2⟩
theorem RpAll.get' {vs : List V} {ds : List Dt} (h : RpAll K Z H vs ds) {i : Nat} {v : V} (e : vs[i]? = some v) : ∃ d, ds[i]? = some d ∧ Rp K Z H v d := by
  induction vs generalizing ds i with
  | nil => simp at e
  | cons w vs ih =>
    cases h with
    | cons a b =>
      cases i with
      | zero => simp at e; subst e; exact ⟨_, rfl, a⟩
      | succ i => simp at e; obtain ⟨d, h1, h2⟩ := ih b e; exact ⟨d, by simpa using h1, h2⟩
theorem RpAll.append {vs ws : List V} {ds es : List Dt} (h : RpAll K Z H vs ds) (h' : RpAll K Z H ws es) : RpAll K Z H (vs ++ ws) (ds ++ es) := by
  induction vs generalizing ds with
  | nil => cases h; exact h'
  | cons v vs ih =>
    cases h with
    | cons a b => exact .cons a (ih b)
theorem RpAll.take {vs : List V} {ds : List Dt} (h : RpAll K Z H vs ds) (n : Nat) : RpAll K Z H (vs.take n) (ds.take n) := by
  induction vs generalizing ds n with
  | nil => cases h; simp; exact .nil
  | cons v vs ih =>
    cases h with
    | cons a b =>
      cases n with
      | zero => simp; exact .nil
      | succ n => simp; exact .cons a (ih b n)
theorem RpAll.drop {vs : List V} {ds : List Dt} (h : RpAll K Z H vs ds) (n : Nat) : RpAll K Z H (vs.drop n) (ds.drop n) := by
  induction vs generalizing ds n with
  | nil => cases h; simp; exact .nil
  | cons v vs ih =>
    cases h with
    | cons a b =>
      cases n with
      | zero => simp; exact .cons a b
      | succ n => simp; exact ih b n
theorem RpAll.set {vs : List V} {ds : List Dt} (h : RpAll K Z H vs ds) {v : V} {d : Dt} (r : Rp K Z H v d) (n : Nat) : RpAll K Z H (vs.set n v) (ds.set n d) := by
  induction vs generalizing ds n with
  | nil => cases h; simp; exact .nil
  | cons w vs ih =>
    cases h with
    | cons a b =>
      cases n with
      | zero => simp; exact .cons r b
      | succ n => simp; exact .cons a (ih b n)
theorem RpAll.reverse {vs : List V} {ds : List Dt} (h : RpAll K Z H vs ds) : RpAll K Z H vs.reverse ds.reverse := by
  induction vs generalizing ds with
  | nil => cases h; simp; exact .nil
  | cons w vs ih =>
    cases h with
    | cons a b => simp; exact (ih b).append (.cons a .nil)
theorem RpAll.erase {vs : List V} {ds : List Dt} (h : RpAll K Z H vs ds) (n : Nat) : RpAll K Z H (vs.eraseIdx n) (ds.eraseIdx n) := by
  induction vs generalizing ds n with
  | nil => cases h; simp; exact .nil
  | cons w vs ih =>
    cases h with
    | cons a b =>
      cases n with
      | zero => simp; exact b
      | succ n => simp; exact .cons a (ih b n)
end

/-! ### entries -/
/-- the content of a thing that is written here: a datum, or what is told by a predicate of the value, its own addresses, the frozen, the heap -/
inductive Ct where
  | dt (d : Dt)
  | rs (G : List Addr) (P : V → Zs → Hp → Prop)
inductive En where
  | val (d : Dt)
  | mu (p : Option Nat) (c : Ct)
  | bor (d : Dt)

/-- the base: the heap at the entry, what may be written of it, what was frozen -/
structure Base where
  H0 : Hp
  F0 : List Addr
  Z0 : Zs
  V0 : List V

/-- the object at a, known alone here -/
def OwnAt (K : PySem.W.Frag) (Z : Zs) (H : Hp) (a : Addr) : Dt → Prop
  | .lst ds => ∃ vs, H a = some (.lst vs) ∧ RpAll K Z H vs ds
  | .dct kvs => ∃ (ks : List Key) (vs : List V) (ds : List Dt), kvs = ks.zip ds ∧ ks.length = vs.length ∧ H a = some (.dK (ks.zip vs)) ∧ RpAll K Z H vs ds
  | .ins C fs => ∃ (dx : Addr) (ns : List Str) (vs : List V) (ds : List Dt), fs = ns.zip ds ∧ ns.length = vs.length ∧ H a = some (.ins C dx (ns.zip vs)) ∧ RpAll K Z H vs ds
  | _ => False
theorem OwnAt.mono {K : PySem.W.Frag} {Z Z' : Zs} {H H' : Hp} {a : Addr} {d : Dt} (h : OwnAt K Z H a d) (h1 : ∀ b, Z b → Z' b) (hz : ∀ b o, Z b ∨ b = a → H b = some o → H' b = some o) : OwnAt K Z' H' a d := by
  have hz' : ∀ b o, Z b → H b = some o → H' b = some o := fun b o z => hz b o (.inl z)
  cases d with
  | lst ds => obtain ⟨vs, e1, e2⟩ := h; exact ⟨vs, hz _ _ (.inr rfl) e1, e2.mono h1 hz'⟩
  | dct kvs => obtain ⟨ks, vs, ds, e0, e1, e2, e3⟩ := h; exact ⟨ks, vs, ds, e0, e1, hz _ _ (.inr rfl) e2, e3.mono h1 hz'⟩
  | ins C fs => obtain ⟨dx, ns, vs, ds, e0, e1, e2, e3⟩ := h; exact ⟨dx, ns, vs, ds, e0, e1, hz _ _ (.inr rfl) e2, e3.mono h1 hz'⟩
  | non => exact h.elim
  | bl b => exact h.elim
  | int b => exact h.elim
  | str b => exact h.elim
  | byt b => exact h.elim
  | ty b => exact h.elim
  | tup b => exact h.elim
  | ref b => exact h.elim
  | exn a d C fs => exact h.elim
/-- frozen -/
theorem OwnAt.rp {K : PySem.W.Frag} {Z : Zs} {H : Hp} {a : Addr} {d : Dt} (h : OwnAt K Z H a d) (z : Z a) : Rp K Z H (.ref a) d := by
  cases d with
  | lst ds => obtain ⟨vs, e1, e2⟩ := h; exact .lst z e1 e2
  | dct kvs => obtain ⟨ks, vs, ds, e0, e1, e2, e3⟩ := h; subst e0; exact .dct z (.inl e2) e1 e3
  | ins C fs => obtain ⟨dx, ns, vs, ds, e0, e1, e2, e3⟩ := h; subst e0; exact .ins z e2 e1 e3
  | non => exact h.elim
  | bl b => exact h.elim
  | int b => exact h.elim
  | str b => exact h.elim
  | byt b => exact h.elim
  | ty b => exact h.elim
  | tup b => exact h.elim
  | ref b => exact h.elim
  | exn a d C fs => exact h.elim
theorem OwnAt.there {K : PySem.W.Frag} {Z : Zs} {H : Hp} {a : Addr} {d : Dt} (h : OwnAt K Z H a d) : ∃ o, H a = some o := by
  cases d with
  | lst ds => obtain ⟨vs, e1, e2⟩ := h; exact ⟨_, e1⟩
  | dct kvs => obtain ⟨ks, vs, ds, e0, e1, e2, e3⟩ := h; exact ⟨_, e2⟩
  | ins C fs => obtain ⟨dx, ns, vs, ds, e0, e1, e2, e3⟩ := h; exact ⟨_, e2⟩
  | non => exact h.elim
  | bl b => exact h.elim
  | int b => exact h.elim
  | str b => exact h.elim
  | byt b => exact h.elim
  | ty b => exact h.elim
  | tup b => exact h.elim
  | ref b => exact h.elim
  | exn a d C fs => exact h.elim

/-- by value, or a list that the program itself keeps -/
def BRp (K : PySem.W.Frag) (Z : Zs) (H : Hp) (v : V) (d : Dt) : Prop := Rp K Z H v d ∨ ∃ (a : Addr) (vs : List V) (ds : List Dt), v = .ref a ∧ d = .lst ds ∧ KL K a vs ∧ RpAll K Z H vs ds
theorem BRp.mono {K : PySem.W.Frag} {Z Z' : Zs} {H H' : Hp} (h1 : ∀ b, Z b → Z' b) (hz : ∀ b o, Z b → H b = some o → H' b = some o) {v : V} {d : Dt} (h : BRp K Z H v d) : BRp K Z' H' v d :=
  h.imp (fun r => r.mono h1 hz) fun ⟨a, vs, ds, e1, e2, e3, r⟩ => ⟨a, vs, ds, e1, e2, e3, r.mono h1 hz⟩

/-- a thing that may be read: somebody's own, or locked -/
def BorAt (K : PySem.W.Frag) (Z : Zs) (H : Hp) (a : Addr) (d : Dt) : Prop := OwnAt K Z H a d ∨ ∃ (o : Obj) (vs : List V) (ds : List Dt), d = .lst ds ∧ H a = some (.frz o (.lst vs)) ∧ RpAll K Z H vs ds
theorem BorAt.mono {K : PySem.W.Frag} {Z Z' : Zs} {H H' : Hp} {a : Addr} {d : Dt} (h : BorAt K Z H a d) (h1 : ∀ b, Z b → Z' b) (hz : ∀ b o, Z b ∨ b = a → H b = some o → H' b = some o) : BorAt K Z' H' a d :=
  h.imp (fun h => h.mono h1 hz) fun ⟨o, vs, ds, e, h, r⟩ => ⟨o, vs, ds, e, hz _ _ (.inr rfl) h, r.mono h1 fun b o z => hz b o (.inl z)⟩
def COk (K : PySem.W.Frag) (Z : Zs) (H : Hp) (v : V) (F : List Addr) : Ct → Prop
  | .dt d => ∃ a, v = .ref a ∧ F = [a] ∧ OwnAt K Z H a d
  | .rs G P => F = G ∧ ∀ (Z' : Zs) (H' : Hp), (∀ b, Z b → Z' b) → (∀ b o, Z b ∨ b ∈ G → H b = some o → H' b = some o) → P v Z' H'
theorem COk.mono {K : PySem.W.Frag} {Z Z' : Zs} {H H' : Hp} {v : V} {F : List Addr} {c : Ct} (h : COk K Z H v F c) (h1 : ∀ b, Z b → Z' b) (hz : ∀ b o, Z b ∨ b ∈ F → H b = some o → H' b = some o) : COk K Z' H' v F c := by
  cases c with
  | dt d =>
    obtain ⟨a, e1, e2, e4⟩ := h
    exact ⟨a, e1, e2, e4.mono h1 fun b o q => hz b o (q.imp id fun q => by rw [e2, q]; simp)⟩
  | rs G P =>
    refine ⟨h.1, fun Z2 H2 g1 g2 => ?_⟩
    exact h.2 Z2 H2 (fun b z => g1 b (h1 b z)) fun b o z q => g2 b o (z.imp (h1 b) id) (hz b o (z.imp id fun q => by rw [h.1]; exact q) q)
/-- made here, or the j-th thing that was handed in -/
def Mine (B : Base) (v : V) : Option Nat → Prop
  | none => ∀ a, v = .ref a → B.H0 a = none
  | some j => B.V0[j]? = some v
def EnOk (B : Base) (K : PySem.W.Frag) (Z : Zs) (H : Hp) (v : V) (F : List Addr) : En → Prop
  | .val d => F = [] ∧ Rp K Z H v d
  | .mu p c => COk K Z H v F c ∧ Mine B v p
  | .bor d => F = [] ∧ (BRp K Z H v d ∨ ∃ a, v = .ref a ∧ (∃ o, B.H0 a = some o) ∧ a ∉ B.F0 ∧ BorAt K Z H a d)

/-- what was there at the entry and isn't written stands -/
abbrev Bs (B : Base) (H : Hp) : Prop := ∀ b o, B.H0 b = some o → b ∉ B.F0 → H b = some o
/-- what a step keeps: the frozen, its own, and what was there at the entry -/
theorem EnOk.mono {B : Base} {K : PySem.W.Frag} {Z Z' : Zs} {H H' : Hp} {v : V} {F : List Addr} {e : En} (h : EnOk B K Z H v F e) (h0 : Bs B H) (h0' : Bs B H') (h1 : ∀ b, Z b → Z' b) (hz : ∀ b o, Z b ∨ b ∈ F → H b = some o → H' b = some o) : EnOk B K Z' H' v F e := by
  have hz' : ∀ b o, Z b → H b = some o → H' b = some o := fun b o z => hz b o (.inl z)
  cases e with
  | val d => exact ⟨h.1, h.2.mono h1 hz'⟩
  | mu p c => exact ⟨h.1.mono h1 hz, h.2⟩
  | bor d =>
    refine ⟨h.1, h.2.imp (fun r => r.mono h1 hz') ?_⟩
    rintro ⟨a, e1, ⟨o, e2⟩, e3, e5⟩
    refine ⟨a, e1, ⟨o, e2⟩, e3, ?_⟩
    refine e5.mono h1 fun b ob q => ?_
    rcases q with q | q
    · exact hz' b ob q
    · subst q
      intro hb
      have := h0 b o e2 e3
      rw [hb] at this
      cases this
      exact h0' b _ e2 e3
/-- entries apart from one another -/
def Sep (B : Base) (K : PySem.W.Frag) (Z : Zs) (H : Hp) : List (V × En) → List Addr → Prop
  | [], F => F = []
  | p :: r, F => ∃ F1 F2, EnOk B K Z H p.1 F1 p.2 ∧ Sep B K Z H r F2 ∧ (∀ b, b ∈ F1 → b ∉ F2) ∧ F = F1 ++ F2

/-- an entry's own addresses are told by its value -/
theorem EnOk.uniq {B B' : Base} {K : PySem.W.Frag} {Z Z' : Zs} {H H' : Hp} {v : V} {F F' : List Addr} {e : En} (h : EnOk B K Z H v F e) (h' : EnOk B' K Z' H' v F' e) : F = F' := by
  cases e with
  | val d => rw [h.1, h'.1]
  | bor d => rw [h.1, h'.1]
  | mu p c =>
    cases c with
    | dt d =>
      obtain ⟨⟨a, e1, e2, _⟩, _⟩ := h
      obtain ⟨⟨a', e1', e2', _⟩, _⟩ := h'
      rw [e1] at e1'
      cases e1'
      rw [e2, e2']
    | rs G P => rw [h.1.1, h'.1.1]
theorem Sep.uniq {B B' : Base} {K : PySem.W.Frag} {Z Z' : Zs} {H H' : Hp} : ∀ {l : List (V × En)} {F F' : List Addr}, Sep B K Z H l F → Sep B' K Z' H' l F' → F = F'
  | [], _, _, h, h' => by rw [h, h']
  | p :: r, _, _, ⟨F1, F2, e1, e2, _, e4⟩, ⟨F1', F2', e1', e2', _, e4'⟩ => by rw [e4, e4', e1.uniq e1', Sep.uniq e2 e2']
section
variable {B : Base} {K : PySem.W.Frag} {Z Z' : Zs} {H H' : Hp}
theorem Sep.mono {l : List (V × En)} {F : List Addr} (h : Sep B K Z H l F) (h0 : Bs B H) (h0' : Bs B H') (h1 : ∀ b, Z b → Z' b) (hz : ∀ b o, Z b ∨ b ∈ F → H b = some o → H' b = some o) : Sep B K Z' H' l F := by
  induction l generalizing F with
  | nil => exact h
  | cons p r ih =>
    obtain ⟨F1, F2, e1, e2, e3, rfl⟩ := h
    refine ⟨F1, F2, e1.mono h0 h0' h1 fun b o z => hz b o (z.imp id fun m => List.mem_append_left _ m), ih e2 fun b o z => hz b o (z.imp id fun m => List.mem_append_right _ m), e3, rfl⟩
theorem Sep.perm {l l' : List (V × En)} (p : l.Perm l') : ∀ {F : List Addr}, Sep B K Z H l F → ∃ F', Sep B K Z H l' F' ∧ ∀ b, b ∈ F' ↔ b ∈ F := by
  induction p with
  | nil => intro F h; exact ⟨F, h, fun b => Iff.rfl⟩
  | cons x _ ih =>
    rintro F ⟨F1, F2, e1, e2, e3, rfl⟩
    obtain ⟨F', h', hm⟩ := ih e2
    exact ⟨F1 ++ F', ⟨F1, F', e1, h', fun b hb hb' => e3 b hb ((hm b).mp hb'), rfl⟩, fun b => by simp [hm]⟩
  | swap x y l =>
    rintro F ⟨F1, F2, e1, ⟨F3, F4, g1, g2, g3, rfl⟩, e3, rfl⟩
    refine ⟨F3 ++ (F1 ++ F4), ⟨F3, F1 ++ F4, g1, ⟨F1, F4, e1, g2, fun b hb hb' => e3 b hb (List.mem_append_right _ hb'), rfl⟩, fun b hb hb' => ?_, rfl⟩, fun b => ?_⟩
    · rcases List.mem_append.mp hb' with q | q
      · exact e3 b q (List.mem_append_left _ hb)
      · exact g3 b hb q
    · simp only [List.mem_append]
      constructor
      · rintro (h | h | h)
        · exact .inr (.inl h)
        · exact .inl h
        · exact .inr (.inr h)
      · rintro (h | h | h)
        · exact .inr (.inl h)
        · exact .inl h
        · exact .inr (.inr h)
  | trans _ _ ih1 ih2 =>
    intro F h
    obtain ⟨F', h', hm⟩ := ih1 h
    obtain ⟨F'', h'', hm'⟩ := ih2 h'
    exact ⟨F'', h'', fun b => (hm' b).trans (hm b)⟩
theorem Sep.mem {l : List (V × En)} {F : List Addr} (h : Sep B K Z H l F) {p : V × En} (hp : p ∈ l) : ∃ F1, EnOk B K Z H p.1 F1 p.2 ∧ ∀ b ∈ F1, b ∈ F := by
  induction l generalizing F with
  | nil => simp at hp
  | cons x r ih =>
    obtain ⟨F1, F2, e1, e2, e3, rfl⟩ := h
    rcases List.mem_cons.mp hp with rfl | hp
    · exact ⟨F1, e1, fun b hb => List.mem_append_left _ hb⟩
    · obtain ⟨F3, g1, g2⟩ := ih e2 hp
      exact ⟨F3, g1, fun b hb => List.mem_append_right _ (g2 b hb)⟩
theorem Sep.append {l l' : List (V × En)} : ∀ {F : List Addr}, Sep B K Z H (l ++ l') F ↔ ∃ F1 F2, Sep B K Z H l F1 ∧ Sep B K Z H l' F2 ∧ (∀ b, b ∈ F1 → b ∉ F2) ∧ F = F1 ++ F2 := by
  induction l with
  | nil =>
    intro F
    constructor
    · intro h; exact ⟨[], F, rfl, h, by simp, rfl⟩
    · rintro ⟨F1, F2, rfl, h, _, rfl⟩; exact h
  | cons x r ih =>
    intro F
    constructor
    · rintro ⟨F1, F2, e1, e2, e3, rfl⟩
      obtain ⟨F3, F4, g1, g2, g3, rfl⟩ := ih.mp e2
      refine ⟨F1 ++ F3, F4, ⟨F1, F3, e1, g1, fun b hb hb' => e3 b hb (List.mem_append_left _ hb'), rfl⟩, g2, fun b hb hb' => ?_, by rw [List.append_assoc]⟩
      rcases List.mem_append.mp hb with q | q
      · exact e3 b q (List.mem_append_right _ hb')
      · exact g3 b q hb'
    · rintro ⟨F1, F4, ⟨F2, F3, e1, e2, e3, rfl⟩, g2, g3, rfl⟩
      refine ⟨F2, F3 ++ F4, e1, ih.mpr ⟨F3, F4, e2, g2, fun b hb => g3 b (List.mem_append_right _ hb), rfl⟩, fun b hb hb' => ?_, by rw [List.append_assoc]⟩
      rcases List.mem_append.mp hb' with q | q
      · exact e3 b hb q
      · exact g3 b (List.mem_append_left _ hb) q
theorem Sep.tail {p : V × En} {l : List (V × En)} {F : List Addr} (h : Sep B K Z H (p :: l) F) : ∃ F', Sep B K Z H l F' ∧ ∀ b ∈ F', b ∈ F := by
  obtain ⟨F1, F2, e1, e2, e3, rfl⟩ := h
  exact ⟨F2, e2, fun b hb => List.mem_append_right _ hb⟩
end

/-! ### the state -/
abbrev Env := List (Option En)
/-- slots that hold something -/
def pack : L2.St → Env → List (V × En)
  | some v :: σ, some e :: η => (v, e) :: pack σ η
  | _ :: σ, _ :: η => pack σ η
  | _, _ => []
/-- each slot that is told holds a value -/
def Slots : L2.St → Env → Prop
  | [], [] => True
  | o :: σ, q :: η => (q.isSome = true → o.isSome = true) ∧ Slots σ η
  | _, _ => False
theorem Slots.length : ∀ {σ : L2.St} {η : Env}, Slots σ η → σ.length = η.length
  | [], [], _ => rfl
  | _ :: _, _ :: _, h => by simp [Slots.length h.2]
  | [], _ :: _, h => h.elim
  | _ :: _, [], h => h.elim
theorem pack_take : ∀ {σ : L2.St} {η : Env} {i : Nat} {e : En}, Slots σ η → η[i]? = some (some e) → ∃ v, σ[i]? = some (some v) ∧ (pack σ η).Perm ((v, e) :: pack σ (η.set i none))
  | [], [], i, e, _, h => by simp at h
  | o :: σ, q :: η, 0, e, hs, h => by
    simp at h
    subst h
    have := hs.1 rfl
    cases o with
    | none => simp at this
    | some v => exact ⟨v, rfl, List.Perm.refl _⟩
  | o :: σ, q :: η, i + 1, e, hs, h => by
    obtain ⟨v, h1, h2⟩ := pack_take (i := i) hs.2 (by simpa using h)
    refine ⟨v, by simpa using h1, ?_⟩
    cases o with
    | none => cases q <;> exact h2
    | some w =>
      cases q with
      | none => exact h2
      | some u => exact (h2.cons _).trans (List.Perm.swap _ _ _)
  | [], _ :: _, _, _, h, _ => h.elim
  | _ :: _, [], _, _, h, _ => h.elim
theorem pack_set : ∀ {σ : L2.St} {η : Env} {i : Nat} (v : V) (e : En), Slots σ η → i < η.length → (pack (σ.set i (some v)) (η.set i (some e))).Perm ((v, e) :: pack σ (η.set i none))
  | [], [], i, v, e, _, h => by simp at h
  | o :: σ, q :: η, 0, v, e, hs, h => by cases o <;> exact List.Perm.refl _
  | o :: σ, q :: η, i + 1, v, e, hs, h => by
    have h2 := pack_set (i := i) v e hs.2 (by simpa using h)
    cases o with
    | none => cases q <;> exact h2
    | some w =>
      cases q with
      | none => exact h2
      | some u => exact (h2.cons _).trans (List.Perm.swap _ _ _)
  | [], _ :: _, _, _, _, h, _ => h.elim
  | _ :: _, [], _, _, _, h, _ => h.elim
/-- a slot is forgotten -/
theorem pack_forget : ∀ {σ : L2.St} {η : Env} {i : Nat}, Slots σ η → i < η.length → η[i]? = some none ∨ ∃ v e, σ[i]? = some (some v) ∧ η[i]? = some (some e) ∧ (pack σ η).Perm ((v, e) :: pack σ (η.set i none)) := fun {σ η i} hs h => by
  cases q : η[i]? with
  | none => exact absurd (List.getElem?_eq_none_iff.mp q) (by omega)
  | some o =>
    cases o with
    | none => exact .inl rfl
    | some e =>
      obtain ⟨v, h1, h2⟩ := pack_take hs q
      exact .inr ⟨v, e, h1, rfl, h2⟩
theorem slots_none : ∀ {σ : L2.St} {η : Env} (i : Nat), Slots σ η → Slots σ (η.set i none)
  | [], [], i, _ => trivial
  | o :: σ, q :: η, 0, h => ⟨by simp, h.2⟩
  | o :: σ, q :: η, i + 1, h => ⟨h.1, slots_none i h.2⟩
  | [], _ :: _, _, h => h.elim
  | _ :: _, [], _, h => h.elim
theorem slots_set : ∀ {σ : L2.St} {η : Env} (i : Nat) (v : V) (o : Option En), Slots σ η → Slots (σ.set i (some v)) (η.set i o)
  | [], [], i, _, _, _ => trivial
  | o :: σ, q :: η, 0, v, e, h => ⟨by simp, h.2⟩
  | o :: σ, q :: η, i + 1, v, e, h => ⟨h.1, slots_set i v e h.2⟩
  | [], _ :: _, _, _, _, h => h.elim
  | _ :: _, [], _, _, _, h => h.elim
theorem slots_put : ∀ {σ : L2.St} {η : Env} {i : Nat} {v : V} (e : En), Slots σ η → σ[i]? = some (some v) → Slots σ (η.set i (some e))
  | [], [], i, _, _, _, _ => trivial
  | o :: σ, q :: η, 0, v, e, h, hv => ⟨by intro _; simp at hv; simp [hv], h.2⟩
  | o :: σ, q :: η, i + 1, v, e, h, hv => ⟨h.1, slots_put e h.2 (by simpa using hv)⟩
  | [], _ :: _, _, _, _, h, _ => h.elim
  | _ :: _, [], _, _, _, h, _ => h.elim
theorem set_self : ∀ {σ : L2.St} {i : Nat} {v : V}, σ[i]? = some (some v) → σ.set i (some v) = σ
  | [], i, v, h => by simp at h
  | o :: σ, 0, v, h => by simp at h; simp [h]
  | o :: σ, i + 1, v, h => by simp; exact set_self (by simpa using h)

structure OkF (B : Base) (K : PySem.W.Frag) (Z : Zs) (H : Hp) (σ : L2.St) (η : Env) (τ : List (V × En)) (F : List Addr) : Prop where
  slots : Slots σ η
  sep : Sep B K Z H (pack σ η ++ τ) F
  live : ∀ b ∈ F, ¬ Z b ∧ H b ≠ none ∧ (B.H0 b = none ∨ b ∈ B.F0)
  base : Bs B H
  there : ∀ b, B.H0 b ≠ none → H b ≠ none
  grow : ∀ b, Z b → B.Z0 b ∨ B.H0 b = none
  old : ∀ b, B.Z0 b → Z b
  zl : ∀ b, Z b → H b ≠ none
def Ok (B : Base) (K : PySem.W.Frag) (Z : Zs) (H : Hp) (σ : L2.St) (η : Env) (τ : List (V × En)) : Prop := ∃ F, OkF B K Z H σ η τ F

section
variable {B : Base} {K : PySem.W.Frag} {Z Z' : Zs} {H H' : Hp} {σ : L2.St} {η : Env} {τ τ' : List (V × En)}
theorem Ok.perm (h : Ok B K Z H σ η τ) (p : τ.Perm τ') : Ok B K Z H σ η τ' := by
  obtain ⟨F, h⟩ := h
  obtain ⟨F', s, m⟩ := h.sep.perm (List.Perm.append_left _ p)
  exact ⟨F', h.slots, s, fun b hb => h.live b ((m b).mp hb), h.base, h.there, h.grow, h.old, h.zl⟩
theorem Ok.drop {x : V × En} (h : Ok B K Z H σ η (x :: τ)) : Ok B K Z H σ η τ := by
  obtain ⟨F, h⟩ := h
  obtain ⟨F', s, m⟩ := h.sep.perm (l' := x :: (pack σ η ++ τ)) (List.perm_middle)
  obtain ⟨F2, s2, m2⟩ := s.tail
  exact ⟨F2, h.slots, s2, fun b hb => h.live b ((m b).mp (m2 b hb)), h.base, h.there, h.grow, h.old, h.zl⟩
theorem Ok.drops (h : Ok B K Z H σ η (τ' ++ τ)) : Ok B K Z H σ η τ := by
  induction τ' with
  | nil => exact h
  | cons x r ih => exact ih h.drop
/-- the heap grows, some of the new is frozen -/
theorem Ok.ext (h : Ok B K Z H σ η τ) (k : ∀ b o, H b = some o → H' b = some o) (h1 : ∀ b, Z b → Z' b) (h2 : ∀ b, Z' b → Z b ∨ (H b = none ∧ H' b ≠ none)) : Ok B K Z' H' σ η τ := by
  obtain ⟨F, h⟩ := h
  have hb : Bs B H' := fun b o e n => k b o (h.base b o e n)
  have kn : ∀ b, H b ≠ none → H' b ≠ none := fun b n q => by
    cases e : H b with
    | none => exact n e
    | some o => rw [k b o e] at q; cases q
  refine ⟨F, h.slots, h.sep.mono h.base hb h1 fun b o _ e => k b o e, fun b hb => ?_, hb, fun b n => kn b (h.there b n), fun b z => ?_, fun b z => h1 b (h.old b z), fun b z => ?_⟩
  · obtain ⟨l1, l2, l3⟩ := h.live b hb
    exact ⟨fun z => (h2 b z).elim l1 fun q => l2 q.1, kn b l2, l3⟩
  · rcases h2 b z with z | ⟨z, _⟩
    · exact h.grow b z
    · refine .inr ?_
      cases e : B.H0 b with
      | none => rfl
      | some o => exact absurd z (h.there b (by rw [e]; simp))
  · rcases h2 b z with z | ⟨_, z⟩
    · exact kn b (h.zl b z)
    · exact z
/-- a frozen value beside -/
theorem Ok.val (h : Ok B K Z H σ η τ) {v : V} {d : Dt} (r : Rp K Z H v d) : Ok B K Z H σ η ((v, .val d) :: τ) := by
  obtain ⟨F, h⟩ := h
  obtain ⟨F', s, m⟩ := Sep.perm (l := (v, .val d) :: (pack σ η ++ τ)) (l' := pack σ η ++ (v, .val d) :: τ) List.perm_middle.symm (F := F) ⟨[], F, ⟨rfl, r⟩, h.sep, by simp, rfl⟩
  exact ⟨F', h.slots, s, fun b hb => h.live b ((m b).mp hb), h.base, h.there, h.grow, h.old, h.zl⟩
/-- the first of the values beside -/
theorem Ok.head {v : V} {e : En} (h : Ok B K Z H σ η ((v, e) :: τ)) : ∃ F, EnOk B K Z H v F e := by
  obtain ⟨F, h⟩ := h
  obtain ⟨F1, e1, _⟩ := h.sep.mem (p := (v, e)) (by simp)
  exact ⟨F1, e1⟩
theorem Ok.rp {v : V} {d : Dt} (h : Ok B K Z H σ η ((v, .val d) :: τ)) : Rp K Z H v d := by
  obtain ⟨F, e⟩ := h.head
  exact e.2
/-- a slot is taken out -/
theorem Ok.take (h : Ok B K Z H σ η τ) {i : Nat} {e : En} (hi : η[i]? = some (some e)) : ∃ v, σ[i]? = some (some v) ∧ Ok B K Z H σ (η.set i none) ((v, e) :: τ) := by
  obtain ⟨F, h⟩ := h
  obtain ⟨v, h1, h2⟩ := pack_take h.slots hi
  obtain ⟨F', s, m⟩ := h.sep.perm ((h2.append_right τ).trans List.perm_middle.symm)
  exact ⟨v, h1, F', slots_none i h.slots, s, fun b hb => h.live b ((m b).mp hb), h.base, h.there, h.grow, h.old, h.zl⟩
/-- .. and put back, with another entry -/
theorem Ok.put {i : Nat} {v : V} {e : En} (h : Ok B K Z H σ (η.set i none) ((v, e) :: τ)) (hi : i < η.length) (hv : σ[i]? = some (some v)) : Ok B K Z H σ (η.set i (some e)) τ := by
  obtain ⟨F, h⟩ := h
  have hs : Slots σ (η.set i (some e)) := by
    have := slots_put e h.slots hv
    simpa using this
  have p := pack_set (i := i) v e h.slots (by simpa using hi)
  rw [set_self hv] at p
  simp only [List.set_set] at p
  obtain ⟨F', s, m⟩ := h.sep.perm (l' := pack σ (η.set i (some e)) ++ τ) (List.perm_middle.trans (p.symm.append_right τ))
  exact ⟨F', hs, s, fun b hb => h.live b ((m b).mp hb), h.base, h.there, h.grow, h.old, h.zl⟩
/-- a slot is forgotten -/
theorem Ok.forget (h : Ok B K Z H σ η τ) (i : Nat) : Ok B K Z H σ (η.set i none) τ := by
  by_cases hi : i < η.length
  · obtain ⟨F, h'⟩ := id h
    rcases pack_forget (i := i) h'.slots hi with q | ⟨v, e, _, q, _⟩
    · have : η.set i none = η := by
        apply List.ext_getElem?
        intro j
        by_cases hj : j = i
        · subst hj; simp [hi] at *; exact q.symm
        · rw [List.getElem?_set_ne (Ne.symm hj)]
      rw [this]; exact h
    · obtain ⟨v, _, h2⟩ := h.take q
      exact h2.drop
  · rw [List.set_eq_of_length_le (by omega)]; exact h
/-- a value is stored in a slot -/
theorem Ok.store {i : Nat} {v : V} {e : En} (h : Ok B K Z H σ η ((v, e) :: τ)) (hi : i < η.length) : Ok B K Z H (σ.set i (some v)) (η.set i (some e)) τ := by
  obtain ⟨F, h'⟩ := h.forget i
  have hs := h'.slots
  have hs0 : Slots (σ.set i (some v)) ((η.set i none).set i none) := slots_set i v none hs
  have p := pack_set (σ := σ) (i := i) v e hs (by simpa using hi)
  simp only [List.set_set] at p
  obtain ⟨F', s, m⟩ := h'.sep.perm (l' := pack (σ.set i (some v)) (η.set i (some e)) ++ τ) (List.perm_middle.trans (p.symm.append_right τ))
  refine ⟨F', ?_, s, fun b hb => h'.live b ((m b).mp hb), h'.base, h'.there, h'.grow, h'.old, h'.zl⟩
  have := slots_set i v (some e) hs
  simpa using this
theorem Ok.none0 (h : Ok B K Z H σ η τ) {p : Addr} (hp : H p = none) : B.H0 p = none := by
  obtain ⟨F0, h0⟩ := h
  cases e : B.H0 p with
  | none => rfl
  | some o => exact absurd hp (h0.there p (by rw [e]; simp))
theorem upd_keep {p : Addr} (hp : H p = none) {o : HO} : ∀ b u, H b = some u → upd H p o b = some u := fun b u e => by rw [upd_ne (ne_of_none e hp)]; exact e
theorem mine1 {p : Addr} (h : B.H0 p = none) : Mine B (.ref p) none := fun b hb => by
  cases hb; exact h
/-- a new object of one's own -/
theorem Ok.new (h : Ok B K Z H σ η τ) {p : Addr} (hp : H p = none) {o : HO} {d : Dt} (hd : OwnAt K Z (upd H p o) p d) : Ok B K Z (upd H p o) σ η ((.ref p, .mu none (.dt d)) :: τ) := by
  have nh0 := h.none0 hp
  obtain ⟨F0, h0⟩ := id h
  have nz : ¬ Z p := fun z => h0.zl p z hp
  have nf : p ∉ F0 := fun m => (h0.live p m).2.1 hp
  have h1 : OkF B K Z (upd H p o) σ η τ F0 := by
    have hb : Bs B (upd H p o) := fun b u e n => upd_keep hp b u (h0.base b u e n)
    have kn : ∀ b, H b ≠ none → upd H p o b ≠ none := fun b n q => by
      cases e : H b with
      | none => exact n e
      | some u => rw [upd_keep hp b u e] at q; cases q
    exact ⟨h0.slots, h0.sep.mono h0.base hb (fun _ z => z) fun b u _ e => upd_keep hp b u e, fun b hb => ⟨(h0.live b hb).1, kn b (h0.live b hb).2.1, (h0.live b hb).2.2⟩, hb, fun b n => kn b (h0.there b n), h0.grow, h0.old, fun b z => kn b (h0.zl b z)⟩
  obtain ⟨F', s, m⟩ := Sep.perm (B := B) (K := K) (Z := Z) (H := upd H p o) (l := (.ref p, .mu none (.dt d)) :: (pack σ η ++ τ)) (l' := pack σ η ++ (.ref p, .mu none (.dt d)) :: τ) List.perm_middle.symm (F := [p] ++ F0) ⟨[p], F0, ⟨⟨p, rfl, rfl, hd⟩, mine1 nh0⟩, h1.sep, by simpa using nf, rfl⟩
  refine ⟨F', h1.slots, s, fun b hb => ?_, h1.base, h1.there, h1.grow, h1.old, h1.zl⟩
  rcases List.mem_append.mp ((m b).mp hb) with q | q
  · have : b = p := by simpa using q
    subst this
    exact ⟨nz, by rw [upd_same]; simp, .inl nh0⟩
  · exact h1.live b q
/-- a new frozen object -/
theorem Ok.newZ (h : Ok B K Z H σ η τ) {p : Addr} (hp : H p = none) (o : HO) : Ok B K (fun b => Z b ∨ b = p) (upd H p o) σ η τ :=
  h.ext (upd_keep hp) (fun _ z => .inl z) fun b z => z.imp id fun q => by subst q; exact ⟨hp, by rw [upd_same]; simp⟩
/-- one's own is frozen -/
theorem Ok.freeze {v : V} {d : Dt} (h : Ok B K Z H σ η ((v, .mu none (.dt d)) :: τ)) : ∃ Z' : Zs, (∀ b, Z b → Z' b) ∧ Ok B K Z' H σ η ((v, .val d) :: τ) := by
  obtain ⟨F, h0⟩ := id h
  obtain ⟨F', s, m⟩ := h0.sep.perm (l' := (v, .mu none (.dt d)) :: (pack σ η ++ τ)) List.perm_middle
  obtain ⟨F1, F2, ⟨⟨a, e1, e2, e4⟩, e3⟩, s2, dis, eF⟩ := s
  subst e2
  have e3' : B.H0 a = none := e3 a e1
  have z1 : ∀ b, Z b → (Z b ∨ b = a) := fun _ z => .inl z
  have keep : ∀ b u, (Z b ∨ b ∈ F2) → H b = some u → H b = some u := fun _ _ _ e => e
  have hF2 : ∀ b ∈ F2, b ∈ F := fun b hb => (m b).mp (by rw [eF]; exact List.mem_append_right _ hb)
  have h1 : OkF B K (fun b => Z b ∨ b = a) H σ η τ F2 := by
    refine ⟨h0.slots, s2.mono h0.base h0.base z1 keep, fun b hb => ?_, h0.base, h0.there, fun b z => ?_, fun b z => .inl (h0.old b z), fun b z => ?_⟩
    · obtain ⟨l1, l2, l3⟩ := h0.live b (hF2 b hb)
      exact ⟨fun z => z.elim l1 fun q => dis a (by simp) (q ▸ hb), l2, l3⟩
    · rcases z with z | z
      · exact h0.grow b z
      · subst z; exact .inr e3'
    · rcases z with z | z
      · exact h0.zl b z
      · subst z
        obtain ⟨o, q⟩ := e4.there
        rw [q]; simp
  refine ⟨_, z1, (show Ok _ _ _ _ _ _ _ from ⟨F2, h1⟩).val ?_⟩
  have e1 : v = .ref a := e1
  rw [e1]
  exact (e4.mono z1 fun _ _ _ e => e).rp (.inr rfl)
/-- what one may write is written -/
theorem Ok.write {a : Addr} {p : Option Nat} {d d' : Dt} {o : HO} (h : Ok B K Z H σ η ((.ref a, .mu p (.dt d)) :: τ)) (hd : OwnAt K Z (upd H a o) a d') : Ok B K Z (upd H a o) σ η ((.ref a, .mu p (.dt d')) :: τ) := by
  obtain ⟨F, h0⟩ := id h
  obtain ⟨F', s, m⟩ := h0.sep.perm (l' := (.ref a, .mu p (.dt d)) :: (pack σ η ++ τ)) List.perm_middle
  obtain ⟨F1, F2, ⟨⟨a', e1, e2, e4⟩, e3⟩, s2, dis, eF⟩ := s
  cases e1
  subst e2
  have hF : ∀ b, b ∈ a :: F2 → b ∈ F := fun b hb => (m b).mp (by rw [eF]; simpa using hb)
  obtain ⟨la1, la2, la3⟩ := h0.live a (hF a (by simp))
  have oth : ∀ b, b ≠ a → upd H a o b = H b := fun b hb => upd_ne hb
  have hb : Bs B (upd H a o) := fun b u e n => by
    rw [oth b ?_]
    · exact h0.base b u e n
    · intro q
      subst q
      rcases la3 with q | q
      · rw [e] at q; cases q
      · exact n q
  have kn : ∀ b, H b ≠ none → upd H a o b ≠ none := fun b n => by
    by_cases q : b = a
    · subst q; rw [upd_same]; simp
    · rw [oth b q]; exact n
  have s3 : Sep B K Z (upd H a o) (pack σ η ++ τ) F2 := s2.mono h0.base hb (fun _ z => z) fun b u hz e => by
    rw [oth b ?_]
    · exact e
    · intro q
      subst q
      rcases hz with z | z
      · exact la1 z
      · exact dis b (by simp) z
  obtain ⟨F3, s4, m4⟩ := Sep.perm (B := B) (K := K) (Z := Z) (H := upd H a o) (l := (.ref a, .mu p (.dt d')) :: (pack σ η ++ τ)) (l' := pack σ η ++ (.ref a, .mu p (.dt d')) :: τ) List.perm_middle.symm (F := [a] ++ F2) ⟨[a], F2, ⟨⟨a, rfl, rfl, hd⟩, e3⟩, s3, dis, rfl⟩
  refine ⟨F3, h0.slots, s4, fun b hb => ?_, hb, fun b n => kn b (h0.there b n), h0.grow, h0.old, fun b z => kn b (h0.zl b z)⟩
  obtain ⟨l1, l2, l3⟩ := h0.live b (hF b (by simpa using (m4 b).mp hb))
  exact ⟨l1, kn b l2, l3⟩
/-- the frozen stand where one's own is written -/
theorem Ok.notZ {v : V} {p : Option Nat} {d : Dt} (h : Ok B K Z H σ η ((v, .mu p (.dt d)) :: τ)) : ∃ a, v = .ref a ∧ ¬ Z a ∧ OwnAt K Z H a d := by
  obtain ⟨F, h0⟩ := id h
  obtain ⟨F1, e1, e2⟩ := h0.sep.mem (p := (v, .mu p (.dt d))) (by simp)
  obtain ⟨⟨a', g1, g2, g4⟩, g3⟩ := e1
  exact ⟨a', g1, (h0.live a' (e2 a' (by rw [g2]; simp))).1, g4⟩
theorem RpAll.write {a : Addr} (nz : ¬ Z a) {o : HO} {vs : List V} {ds : List Dt} (h : RpAll K Z H vs ds) : RpAll K Z (upd H a o) vs ds :=
  h.mono (fun _ z => z) fun b u z e => by
    have hb : b ≠ a := fun q => by subst q; exact nz z
    rw [upd_ne hb]; exact e
theorem Rp.write {a : Addr} (nz : ¬ Z a) {o : HO} {v : V} {d : Dt} (h : Rp K Z H v d) : Rp K Z (upd H a o) v d :=
  h.mono (fun _ z => z) fun b u z e => by
    have hb : b ≠ a := fun q => by subst q; exact nz z
    rw [upd_ne hb]; exact e
theorem RpAll.new {p : Addr} (hp : H p = none) {o : HO} {vs : List V} {ds : List Dt} (h : RpAll K Z H vs ds) : RpAll K (fun b => Z b ∨ b = p) (upd H p o) vs ds :=
  h.mono (fun _ z => .inl z) fun b u _ e => upd_keep hp b u e
theorem RpAll.new' {p : Addr} (hp : H p = none) {o : HO} {vs : List V} {ds : List Dt} (h : RpAll K Z H vs ds) : RpAll K Z (upd H p o) vs ds :=
  h.mono (fun _ z => z) fun b u _ e => upd_keep hp b u e
end

/-! ### values of expressions -/
inductive Vl where
  | d (x : Dt)
  | nw (x : Dt)
  | sl (i : Nat)
def tmp : List Vl → List V → List (V × En)
  | .d x :: r, v :: vs => (v, .val x) :: tmp r vs
  | .nw x :: r, v :: vs => (v, .mu none (.dt x)) :: tmp r vs
  | .sl _ :: r, _ :: vs => tmp r vs
  | _, _ => []
def Ali (σ : L2.St) : List Vl → List V → Prop
  | [], [] => True
  | .sl i :: r, v :: vs => σ[i]? = some (some v) ∧ Ali σ r vs
  | .d _ :: r, _ :: vs => Ali σ r vs
  | .nw _ :: r, _ :: vs => Ali σ r vs
  | _, _ => False
def OkV (B : Base) (K : PySem.W.Frag) (Z : Zs) (H : Hp) (σ : L2.St) (η : Env) (τ : List (V × En)) (xs : List Vl) (vs : List V) : Prop := Ali σ xs vs ∧ Ok B K Z H σ η (tmp xs vs ++ τ)
theorem tmp_append : ∀ {xs ys : List Vl} {vs ws : List V} {σ : L2.St}, Ali σ xs vs → tmp (xs ++ ys) (vs ++ ws) = tmp xs vs ++ tmp ys ws
  | [], ys, [], ws, _, _ => rfl
  | .sl i :: r, ys, v :: vs, ws, σ, h => tmp_append (xs := r) (vs := vs) h.2
  | .d x :: r, ys, v :: vs, ws, σ, h => congrArg (List.cons _) (tmp_append (xs := r) (vs := vs) h)
  | .nw x :: r, ys, v :: vs, ws, σ, h => congrArg (List.cons _) (tmp_append (xs := r) (vs := vs) h)
  | [], _, _ :: _, _, _, h => h.elim
  | .sl _ :: _, _, [], _, _, h => h.elim
  | .d _ :: _, _, [], _, _, h => h.elim
  | .nw _ :: _, _, [], _, _, h => h.elim
theorem Ali.append : ∀ {xs ys : List Vl} {vs ws : List V} {σ : L2.St}, Ali σ xs vs → Ali σ ys ws → Ali σ (xs ++ ys) (vs ++ ws)
  | [], ys, [], ws, _, _, h => h
  | .sl i :: r, ys, v :: vs, ws, σ, h, h' => ⟨h.1, Ali.append h.2 h'⟩
  | .d x :: r, ys, v :: vs, ws, σ, h, h' => Ali.append (xs := r) (vs := vs) h h'
  | .nw x :: r, ys, v :: vs, ws, σ, h, h' => Ali.append (xs := r) (vs := vs) h h'
  | [], _, _ :: _, _, _, h, _ => h.elim
  | .sl _ :: _, _, [], _, _, h, _ => h.elim
  | .d _ :: _, _, [], _, _, h, _ => h.elim
  | .nw _ :: _, _, [], _, _, h, _ => h.elim
theorem Ali.length : ∀ {xs : List Vl} {vs : List V} {σ : L2.St}, Ali σ xs vs → xs.length = vs.length
  | [], [], _, _ => rfl
  | .sl i :: r, v :: vs, σ, h => congrArg (· + 1) (Ali.length h.2)
  | .d x :: r, v :: vs, σ, h => congrArg (· + 1) (Ali.length (xs := r) (vs := vs) h)
  | .nw x :: r, v :: vs, σ, h => congrArg (· + 1) (Ali.length (xs := r) (vs := vs) h)
  | [], _ :: _, _, h => h.elim
  | .sl _ :: _, [], _, h => h.elim
  | .d _ :: _, [], _, h => h.elim
  | .nw _ :: _, [], _, h => h.elim

abbrev RE := Env → (Vl → Env → Prop) → Prop
abbrev RA := Env → (List Vl → Env → Prop) → Prop
abbrev RT := Env → (Bool → Env → Prop) → Prop
/-- an exception's own dict -/
def XdOk (K : PySem.W.Frag) (Z : Zs) (H : Hp) (d : Option Addr) (fs : List (Str × Dt)) : Prop :=
  (d = none ∧ fs = []) ∨ ∃ (a : Addr) (ns : List Str) (vs : List V) (ds : List Dt), d = some a ∧ fs = ns.zip ds ∧ ns.length = vs.length ∧ Z a ∧ H a = some (.xd (ns.zip vs)) ∧ RpAll K Z H vs ds
/-- what is wished of an exception: over the heap, by value -/
structure Wsh where
  W : Value → Option Addr → L2.St → Hp → Prop
  w : Addr → List (Str × Dt) → Env → Prop
abbrev W0 : Wsh := ⟨fun _ _ _ _ => False, fun _ _ _ => False⟩
def Lk (B : Base) (K : PySem.W.Frag) (X : Wsh) (τ : List (V × En)) : Prop := ∀ C fs η Z H σ d, X.w C fs η → Ok B K Z H σ η τ → XdOk K Z H d fs → X.W (.ref C) d σ H
theorem Lk.cons {B : Base} {K : PySem.W.Frag} {X : Wsh} {τ : List (V × En)} (h : Lk B K X τ) {p : V × En} : Lk B K X (p :: τ) := fun C fs η Z H σ d w o x => h C fs η Z H σ d w o.drop x
theorem Lk.app {B : Base} {K : PySem.W.Frag} {X : Wsh} {τ : List (V × En)} (h : Lk B K X τ) {δ : List (V × En)} : Lk B K X (δ ++ τ) := fun C fs η Z H σ d w o x => h C fs η Z H σ d w o.drops x
theorem Lk.none {B : Base} {K : PySem.W.Frag} {τ : List (V × En)} : Lk B K W0 τ := fun C fs η Z H σ d w o x => w
/-- a hand reading keeps a reading by value -/
structure DE (K : PySem.W.Frag) (X : Wsh) (t : TE) (r : RE) : Prop where
  mono : ∀ η (Q Q' : Vl → Env → Prop), (∀ x η', Q x η' → Q' x η') → r η Q → r η Q'
  run : ∀ (B : Base) (Z : Zs) (H : Hp) (σ : L2.St) (η : Env) (τ : List (V × En)) (P : VK), Lk B K X τ → Ok B K Z H σ η τ → r η (fun x η' => ∀ Z' H' v, OkV B K Z' H' σ η' τ [x] [v] → P v H') → t σ H P
structure DA (K : PySem.W.Frag) (X : Wsh) (t : TA) (r : RA) : Prop where
  mono : ∀ η (Q Q' : List Vl → Env → Prop), (∀ x η', Q x η' → Q' x η') → r η Q → r η Q'
  run : ∀ (B : Base) (Z : Zs) (H : Hp) (σ : L2.St) (η : Env) (τ : List (V × En)) (P : List V → Hp → Prop), Lk B K X τ → Ok B K Z H σ η τ → r η (fun xs η' => ∀ Z' H' vs, OkV B K Z' H' σ η' τ xs vs → P vs H') → t σ H P
structure DT (K : PySem.W.Frag) (X : Wsh) (t : TT) (r : RT) : Prop where
  mono : ∀ η (Q Q' : Bool → Env → Prop), (∀ x η', Q x η' → Q' x η') → r η Q → r η Q'
  run : ∀ (B : Base) (Z : Zs) (H : Hp) (σ : L2.St) (η : Env) (τ : List (V × En)) (P : Bool → Hp → Prop), Lk B K X τ → Ok B K Z H σ η τ → r η (fun b η' => ∀ Z' H', Ok B K Z' H' σ η' τ → P b H') → t σ H P
structure EndsD where
  nx : Env → Prop
  rt : Vl → Env → Prop
  bk : Env → Prop := fun _ => False
  ct : Env → Prop := fun _ => False
structure EndsD.Le (D D' : EndsD) : Prop where
  nx : ∀ η, D.nx η → D'.nx η
  rt : ∀ x η, D.rt x η → D'.rt x η
  bk : ∀ η, D.bk η → D'.bk η
  ct : ∀ η, D.ct η → D'.ct η
theorem EndsD.Le.rfl' (D : EndsD) : D.Le D := ⟨fun _ h => h, fun _ _ h => h, fun _ h => h, fun _ h => h⟩
abbrev RS := EndsD → Env → Prop
def lft (B : Base) (K : PySem.W.Frag) (τ : List (V × En)) (E : Ends) : EndsD where
  nx := fun η => ∀ Z H σ, Ok B K Z H σ η τ → E.nx σ H
  rt := fun x η => ∀ Z H σ v, OkV B K Z H σ η τ [x] [v] → E.rt v H
  bk := fun η => ∀ Z H σ, Ok B K Z H σ η τ → E.bk σ H
  ct := fun η => ∀ Z H σ, Ok B K Z H σ η τ → E.ct σ H
structure DS (K : PySem.W.Frag) (X : Wsh) (t : TS) (r : RS) : Prop where
  mono : ∀ η (D D' : EndsD), D.Le D' → r D η → r D' η
  run : ∀ (B : Base) (Z : Zs) (H : Hp) (σ : L2.St) (η : Env) (τ : List (V × En)) (E : Ends), Lk B K X τ → Ok B K Z H σ η τ → r (lft B K τ E) η → t E σ H
end D

set_option Elab.async false
set_option linter.all false
set_option maxRecDepth 100000
set_option maxHeartbeats 4000000
namespace D
open PySem PySem.Spec PyProof.Rows L2

section
variable {B : Base} {K : PySem.W.Frag} {Z Z' : Zs} {H H' : Hp} {σ : L2.St} {η η' : Env} {τ τ' : List (V × En)}
/-! ### values -/
theorem OkV.of (h : Ok B K Z H σ η τ) : OkV B K Z H σ η τ [] [] := ⟨trivial, h⟩
theorem OkV.ok {xs : List Vl} {vs : List V} (h : OkV B K Z H σ η τ xs vs) : Ok B K Z H σ η τ := h.2.drops
theorem OkV.d (h : Ok B K Z H σ η τ) {v : V} {x : Dt} (r : Rp K Z H v x) : OkV B K Z H σ η τ [.d x] [v] := ⟨trivial, h.val r⟩
theorem OkV.nw {v : V} {x : Dt} (h : Ok B K Z H σ η ((v, .mu none (.dt x)) :: τ)) : OkV B K Z H σ η τ [.nw x] [v] := ⟨trivial, h⟩
theorem OkV.app {xs ys : List Vl} {vs ws : List V} (h : Ali σ xs vs) (h' : OkV B K Z H σ η (tmp xs vs ++ τ) ys ws) : OkV B K Z H σ η τ (xs ++ ys) (vs ++ ws) := by
  refine ⟨h.append h'.1, ?_⟩
  rw [tmp_append h]
  refine h'.2.perm ?_
  rw [← List.append_assoc]
  exact List.Perm.append_right _ List.perm_append_comm
theorem OkV.cons {x : Vl} {ys : List Vl} {v : V} {ws : List V} (h : Ali σ [x] [v]) (h' : OkV B K Z H σ η (tmp [x] [v] ++ τ) ys ws) : OkV B K Z H σ η τ (x :: ys) (v :: ws) := OkV.app h h'
theorem OkV.inv {xs : List Vl} {vs : List V} (h : OkV B K Z H σ η τ xs vs) : xs.length = vs.length := h.1.length
theorem OkV.head {x : Vl} {xs : List Vl} {v : V} {vs : List V} (h : OkV B K Z H σ η τ (x :: xs) (v :: vs)) : OkV B K Z H σ η (tmp xs vs ++ τ) [x] [v] := by
  obtain ⟨a, o⟩ := h
  cases x with
  | d x => exact ⟨trivial, o⟩
  | nw x => exact ⟨trivial, o⟩
  | sl i => exact ⟨⟨a.1, trivial⟩, o⟩
theorem OkV.tail {x : Vl} {xs : List Vl} {v : V} {vs : List V} (h : OkV B K Z H σ η τ (x :: xs) (v :: vs)) : OkV B K Z H σ η (tmp [x] [v] ++ τ) xs vs := by
  obtain ⟨a, o⟩ := h
  cases x with
  | d x => exact ⟨a, o.perm (List.perm_middle (l₁ := tmp xs vs) (l₂ := τ)).symm⟩
  | nw x => exact ⟨a, o.perm (List.perm_middle (l₁ := tmp xs vs) (l₂ := τ)).symm⟩
  | sl i => exact ⟨a.2, o⟩

/-- what a value is now -/
def look (η : Env) : Vl → Option Dt
  | .d x => some x
  | .nw x => some x
  | .sl i => match η[i]? with
    | some (some (.mu _ (.dt x))) => some x
    | some (some (.bor x)) => some x
    | _ => none
def See (K : PySem.W.Frag) (Z : Zs) (H : Hp) (v : V) : Dt → Prop
  | .non => v = .non
  | .bl b => v = .bl b
  | .int i => v = .int i
  | .str x => v = .str x
  | .byt x => v = .byt x
  | .ty x => v = .ty x
  | .ref a => v = .ref a
  | .exn a d C fs => v = .ref a ∧ ((d = none ∧ fs = []) ∨ ∃ (dd : Addr) (ns : List Str) (vs : List V) (ds : List Dt), d = some dd ∧ fs = ns.zip ds ∧ ns.length = vs.length ∧ Z dd ∧ H dd = some (.xd (ns.zip vs)) ∧ RpAll K Z H vs ds)
  | .lst ds => ∃ a vs, v = .ref a ∧ SqL K H a vs ∧ RpAll K Z H vs ds
  | .tup ds => ∃ a vs, v = .ref a ∧ SqT K H a vs ∧ RpAll K Z H vs ds
  | .dct kvs => ∃ (a : Addr) (ks : List Key) (vs : List V) (ds : List Dt), v = .ref a ∧ kvs = ks.zip ds ∧ ks.length = vs.length ∧ Rd H a (.dK (ks.zip vs)) ∧ RpAll K Z H vs ds
  | .ins C fs => ∃ (a dx : Addr) (ns : List Str) (vs : List V) (ds : List Dt), v = .ref a ∧ fs = ns.zip ds ∧ ns.length = vs.length ∧ H a = some (.ins C dx (ns.zip vs)) ∧ RpAll K Z H vs ds
theorem Rp.see {v : V} {d : Dt} (h : Rp K Z H v d) : See K Z H v d := by
  cases h with
  | non => rfl
  | bl b => rfl
  | int b => rfl
  | str b => rfl
  | byt b => rfl
  | ty b => rfl
  | ref b => rfl
  | lst z h r => exact ⟨_, _, rfl, .inl (.inl h), r⟩
  | tup h r => exact ⟨_, _, rfl, h.imp (fun q => q.2) id, r⟩
  | dct z h l r => exact ⟨_, _, _, _, rfl, rfl, l, h, r⟩
  | ins z h l r => exact ⟨_, _, _, _, _, rfl, rfl, l, h, r⟩
  | exn0 a C => exact ⟨rfl, .inl ⟨rfl, rfl⟩⟩
  | exn1 a C z h l r => exact ⟨rfl, .inr ⟨_, _, _, _, rfl, rfl, l, z, h, r⟩⟩
theorem OwnAt.see {a : Addr} {d : Dt} (h : OwnAt K Z H a d) : See K Z H (.ref a) d := by
  cases d with
  | lst ds => obtain ⟨vs, e1, e2⟩ := h; exact ⟨a, vs, rfl, .inl (.inl e1), e2⟩
  | dct kvs => obtain ⟨ks, vs, ds, e0, e1, e2, e3⟩ := h; exact ⟨a, ks, vs, ds, rfl, e0, e1, .inl e2, e3⟩
  | ins C fs => obtain ⟨dx, ns, vs, ds, e0, e1, e2, e3⟩ := h; exact ⟨a, dx, ns, vs, ds, rfl, e0, e1, e2, e3⟩
  | non => exact h.elim
  | bl b => exact h.elim
  | int b => exact h.elim
  | str b => exact h.elim
  | byt b => exact h.elim
  | ty b => exact h.elim
  | tup b => exact h.elim
  | ref b => exact h.elim
  | exn a d C fs => exact h.elim
theorem BorAt.see {a : Addr} {d : Dt} (h : BorAt K Z H a d) : See K Z H (.ref a) d := by
  rcases h with h | ⟨o, vs, ds, rfl, h, r⟩
  · exact h.see
  · exact ⟨a, vs, rfl, .inl (.inr ⟨o, h⟩), r⟩
theorem BRp.see {v : V} {d : Dt} (h : BRp K Z H v d) : See K Z H v d := by
  rcases h with h | ⟨a, vs, ds, rfl, rfl, k, r⟩
  · exact h.see
  · exact ⟨a, vs, rfl, .inr k, r⟩
theorem EnOk.see {v : V} {F : List Addr} {e : En} {d : Dt} (h : EnOk B K Z H v F e) (hd : e = .val d ∨ (∃ p, e = .mu p (.dt d)) ∨ e = .bor d) : See K Z H v d := by
  rcases hd with rfl | ⟨p, rfl⟩ | rfl
  · exact h.2.see
  · obtain ⟨⟨a, e1, _, e4⟩, _⟩ := h
    rw [e1]
    exact e4.see
  · rcases h.2 with r | ⟨a, e1, _, _, r⟩
    · exact r.see
    · rw [e1]; exact r.see
theorem look_sl {η : Env} {i : Nat} {d : Dt} (h : look η (.sl i) = some d) : (∃ p, η[i]? = some (some (.mu p (.dt d)))) ∨ η[i]? = some (some (.bor d)) := by
  unfold look at h
  simp only at h
  split at h
  · rename_i p x e; cases h; exact .inl ⟨p, e⟩
  · rename_i x e; cases h; exact .inr e
  · cases h
theorem OkV.see {x : Vl} {v : V} {d : Dt} (h : OkV B K Z H σ η τ [x] [v]) (e : look η x = some d) : See K Z H v d := by
  cases x with
  | d y =>
    obtain ⟨F, q⟩ := h.2.head
    cases e
    exact q.see (.inl rfl)
  | nw y =>
    obtain ⟨F, q⟩ := h.2.head
    cases e
    exact q.see (.inr (.inl ⟨_, rfl⟩))
  | sl i =>
    obtain ⟨a, o⟩ := h
    rcases look_sl e with ⟨p, q⟩ | q
    · obtain ⟨w, hw, o'⟩ := o.take q
      rw [a.1] at hw; cases hw
      obtain ⟨F, q'⟩ := o'.head
      exact q'.see (.inr (.inl ⟨_, rfl⟩))
    · obtain ⟨w, hw, o'⟩ := o.take q
      rw [a.1] at hw; cases hw
      obtain ⟨F, q'⟩ := o'.head
      exact q'.see (.inr (.inr rfl))
inductive SeeAll (K : PySem.W.Frag) (Z : Zs) (H : Hp) : List V → List Dt → Prop
  | nil : SeeAll K Z H [] []
  | cons {v : V} {vs : List V} {d : Dt} {ds : List Dt} : See K Z H v d → SeeAll K Z H vs ds → SeeAll K Z H (v :: vs) (d :: ds)
def looks (η : Env) : List Vl → Option (List Dt)
  | [] => some []
  | x :: r => match look η x, looks η r with
    | some d, some ds => some (d :: ds)
    | _, _ => none
theorem OkV.sees : ∀ {xs : List Vl} {vs : List V} {ds : List Dt}, OkV B K Z H σ η τ xs vs → looks η xs = some ds → SeeAll K Z H vs ds := by
  intro xs
  induction xs generalizing τ with
  | nil =>
    intro vs ds h e
    cases e
    cases vs with
    | nil => exact .nil
    | cons _ _ => exact h.1.elim
  | cons x r ih =>
    intro vs ds h e
    cases vs with
    | nil => have := h.inv; simp at this
    | cons v vs =>
      unfold looks at e
      cases e1 : look η x with
      | none => rw [e1] at e; cases e
      | some d =>
        cases e2 : looks η r with
        | none => rw [e1, e2] at e; cases e
        | some ds' =>
          rw [e1, e2] at e
          cases e
          exact .cons (h.head.see e1) (ih h.tail e2)
/-- the value may be put into a thing that stays -/
def frz (η : Env) : Vl → Option Dt
  | .d x => some x
  | .nw x => some x
  | .sl i => match η[i]? with
    | some (some (.bor .non)) => some .non
    | some (some (.bor (.bl b))) => some (.bl b)
    | some (some (.bor (.int b))) => some (.int b)
    | some (some (.bor (.str b))) => some (.str b)
    | some (some (.bor (.byt b))) => some (.byt b)
    | some (some (.bor (.tup b))) => some (.tup b)
    | some (some (.bor (.ref b))) => some (.ref b)
    | _ => none
def frzs (η : Env) : List Vl → Option (List Dt)
  | [] => some []
  | x :: r => match frz η x, frzs η r with
    | some d, some ds => some (d :: ds)
    | _, _ => none
theorem frz_sl {η : Env} {i : Nat} {d : Dt} (h : frz η (.sl i) = some d) : η[i]? = some (some (.bor d)) ∧ ∀ a K Z H, ¬ BorAt K Z H a d := by
  unfold frz at h
  simp only at h
  split at h <;> first | (rename_i e; cases h; exact ⟨e, fun a K Z H q => q.elim (fun q => q) fun ⟨_, _, _, q, _⟩ => nomatch q⟩) | (rename_i b e; cases h; exact ⟨e, fun a K Z H q => q.elim (fun q => q) fun ⟨_, _, _, q, _⟩ => nomatch q⟩) | cases h
theorem frz_nl {η : Env} {i : Nat} {d : Dt} (h : frz η (.sl i) = some d) : ∀ ds, d ≠ .lst ds := by
  unfold frz at h
  simp only at h
  split at h <;> first | (cases h; exact fun _ z => nomatch z) | cases h
theorem OkV.frz {x : Vl} {v : V} {d : Dt} (h : OkV B K Z H σ η τ [x] [v]) (e : D.frz η x = some d) : ∃ Z' : Zs, (∀ b, Z b → Z' b) ∧ Ok B K Z' H σ η ((v, .val d) :: τ) := by
  cases x with
  | d y => cases e; exact ⟨Z, fun _ z => z, h.2⟩
  | nw y => cases e; exact Ok.freeze h.2
  | sl i =>
    obtain ⟨a, o⟩ := h
    obtain ⟨q, nq⟩ := frz_sl e
    obtain ⟨w, hw, o'⟩ := o.take q
    rw [a.1] at hw; cases hw
    obtain ⟨F, _, q'⟩ := o'.head
    rcases q' with (r | ⟨_, _, _, _, r, _⟩) | ⟨a, _, _, _, r⟩
    · exact ⟨Z, fun _ z => z, Ok.val o r⟩
    · exact (frz_nl e _ r).elim
    · exact (nq _ _ _ _ r).elim
def vals (vs : List V) (ds : List Dt) : List (V × En) := (vs.zip ds).map fun p => (p.1, .val p.2)
theorem OkV.frzs : ∀ {xs : List Vl} {vs : List V} {ds : List Dt} {τ : List (V × En)} {Z : Zs}, OkV B K Z H σ η τ xs vs → D.frzs η xs = some ds → ∃ Z' : Zs, (∀ b, Z b → Z' b) ∧ Ok B K Z' H σ η τ ∧ RpAll K Z' H vs ds := by
  intro xs
  induction xs with
  | nil =>
    intro vs ds τ Z h e
    cases e
    cases vs with
    | nil => exact ⟨Z, fun _ z => z, h.2, .nil⟩
    | cons _ _ => exact h.1.elim
  | cons x r ih =>
    intro vs ds τ Z h e
    cases vs with
    | nil => have := h.inv; simp at this
    | cons v vs =>
      unfold D.frzs at e
      cases e1 : D.frz η x with
      | none => rw [e1] at e; cases e
      | some d =>
        cases e2 : D.frzs η r with
        | none => rw [e1, e2] at e; cases e
        | some ds' =>
          rw [e1, e2] at e
          cases e
          obtain ⟨Z1, z1, o1⟩ := h.head.frz e1
          have o2 : OkV B K Z1 H σ η ((v, .val d) :: τ) r vs := by
            refine ⟨?_, o1.perm (List.perm_middle (l₁ := tmp r vs) (l₂ := τ)).symm⟩
            cases x with
            | d _ => exact h.1
            | nw _ => exact h.1
            | sl _ => exact h.1.2
          obtain ⟨Z2, z2, o3, r3⟩ := ih o2 e2
          exact ⟨Z2, fun b z => z2 b (z1 b z), o3.drop, .cons o3.rp r3⟩
end

/-! ### names, constants -/
section
variable {K : PySem.W.Frag} {X : Wsh}
def ofEn (i : Nat) : En → Vl
  | .val d => .d d
  | _ => .sl i
def rVar (i : Nat) : RE := fun η Q => ∃ e, η[i]? = some (some e) ∧ Q (ofEn i e) η
theorem de_var (i : Nat) : DE K X (tVar i) (rVar i) := by
  refine ⟨fun η Q Q' hq ⟨e, he, q⟩ => ⟨e, he, hq _ _ q⟩, ?_⟩
  intro B Z H σ η τ P lk o ⟨e, he, q⟩
  obtain ⟨v, hv, o'⟩ := o.take he
  refine ⟨v, hv, q Z H v ?_⟩
  cases e with
  | val d => exact .d o o'.rp
  | mu p c => exact ⟨⟨hv, trivial⟩, o⟩
  | bor d => exact ⟨⟨hv, trivial⟩, o⟩
def rC (d : Dt) : RE := fun η Q => Q (.d d) η
theorem de_c {v : V} {d : Dt} (h : ∀ Z H, Rp K Z H v d) : DE K X (tC v) (rC d) := by
  refine ⟨fun η Q Q' hq q => hq _ _ q, ?_⟩
  intro B Z H σ η τ P lk o q
  exact q Z H v (.d o (h Z H))
theorem de_int {i : Int} : DE K X (tC (.int i)) (rC (.int i)) := de_c fun _ _ => .int i
theorem de_str {i : Str} : DE K X (tC (.str i)) (rC (.str i)) := de_c fun _ _ => .str i
theorem de_bl {i : Bool} : DE K X (tC (.bl i)) (rC (.bl i)) := de_c fun _ _ => .bl i
theorem de_non : DE K X (tC .non) (rC .non) := de_c fun _ _ => .non
theorem de_byt {b : Array UInt8} : DE K X (fun _ H Q => Q (.byt b) H) (rC (.byt b)) := by
  refine ⟨fun η Q Q' hq q => hq _ _ q, ?_⟩
  intro B Z H σ η τ P lk o q
  exact q Z H _ (.d o (.byt b))

/-! ### two values, one value -/
abbrev RO2 := Vl → Vl → RE
abbrev RO1 := Vl → RE
abbrev ROs := List Vl → RE
structure D2 (K : PySem.W.Frag) (r : R2) (ro : RO2) : Prop where
  mono : ∀ x y η (Q Q' : Vl → Env → Prop), (∀ x η', Q x η' → Q' x η') → ro x y η Q → ro x y η Q'
  run : ∀ (B : Base) (Z : Zs) (H : Hp) (σ : L2.St) (η : Env) (τ : List (V × En)) (x y : Vl) (v w : V) (P : VK), OkV B K Z H σ η τ [x, y] [v, w] → ro x y η (fun z η' => ∀ Z' H' u, OkV B K Z' H' σ η' τ [z] [u] → P u H') → r v w H P
structure D1 (K : PySem.W.Frag) (r : V → Hp → VK → Prop) (ro : RO1) : Prop where
  mono : ∀ x η (Q Q' : Vl → Env → Prop), (∀ x η', Q x η' → Q' x η') → ro x η Q → ro x η Q'
  run : ∀ (B : Base) (Z : Zs) (H : Hp) (σ : L2.St) (η : Env) (τ : List (V × En)) (x : Vl) (v : V) (P : VK), OkV B K Z H σ η τ [x] [v] → ro x η (fun z η' => ∀ Z' H' u, OkV B K Z' H' σ η' τ [z] [u] → P u H') → r v H P
structure DC (K : PySem.W.Frag) (r : List V → Hp → VK → Prop) (ro : ROs) : Prop where
  mono : ∀ x η (Q Q' : Vl → Env → Prop), (∀ x η', Q x η' → Q' x η') → ro x η Q → ro x η Q'
  run : ∀ (B : Base) (Z : Zs) (H : Hp) (σ : L2.St) (η : Env) (τ : List (V × En)) (xs : List Vl) (vs : List V) (P : VK), OkV B K Z H σ η τ xs vs → ro xs η (fun z η' => ∀ Z' H' u, OkV B K Z' H' σ η' τ [z] [u] → P u H') → r vs H P
structure DM (K : PySem.W.Frag) (r : V → List V → Hp → VK → Prop) (ro : Vl → ROs) : Prop where
  mono : ∀ x xs η (Q Q' : Vl → Env → Prop), (∀ x η', Q x η' → Q' x η') → ro x xs η Q → ro x xs η Q'
  run : ∀ (B : Base) (Z : Zs) (H : Hp) (σ : L2.St) (η : Env) (τ : List (V × En)) (x : Vl) (v : V) (xs : List Vl) (vs : List V) (P : VK), OkV B K Z H σ η τ (x :: xs) (v :: vs) → ro x xs η (fun z η' => ∀ Z' H' u, OkV B K Z' H' σ η' τ [z] [u] → P u H') → r v vs H P
def rOp (ro : RO2) (ra rb : RE) : RE := fun η Q => ra η fun x η1 => rb η1 fun y η2 => ro x y η2 Q
theorem de_op {r : R2} {ro : RO2} {ta tb : TE} {ra rb : RE} (h : D2 K r ro) (ha : DE K X ta ra) (hb : DE K X tb rb) : DE K X (tOp r ta tb) (rOp ro ra rb) := by
  refine ⟨fun η Q Q' hq q => ha.mono _ _ _ (fun x η1 q => hb.mono _ _ _ (fun y η2 q => h.mono _ _ _ _ _ hq q) q) q, ?_⟩
  intro B Z H σ η τ P lk o q
  refine ha.run B Z H σ η τ _ lk o (ha.mono _ _ _ (fun x η1 q Z1 H1 v o1 => ?_) q)
  refine hb.run B Z1 H1 σ η1 _ _ lk.app o1.2 (hb.mono _ _ _ (fun y η2 q Z2 H2 w o2 => ?_) q)
  exact h.run B Z2 H2 σ η2 τ x y v w P (OkV.cons o1.1 o2) q
def rUn (ro : RO1) (ra : RE) : RE := fun η Q => ra η fun x η1 => ro x η1 Q
theorem de_un {r : V → Hp → VK → Prop} {ro : RO1} {ta : TE} {ra : RE} (h : D1 K r ro) (ha : DE K X ta ra) : DE K X (tUn r ta) (rUn ro ra) := by
  refine ⟨fun η Q Q' hq q => ha.mono _ _ _ (fun x η1 q => h.mono _ _ _ _ hq q) q, ?_⟩
  intro B Z H σ η τ P lk o q
  exact ha.run B Z H σ η τ _ lk o (ha.mono _ _ _ (fun x η1 q Z1 H1 v o1 => h.run B Z1 H1 σ η1 τ x v P o1 q) q)
/-! ### arguments -/
def rNil : RA := fun η Q => Q [] η
def rCons (ra : RE) (rr : RA) : RA := fun η Q => ra η fun x η1 => rr η1 fun xs η2 => Q (x :: xs) η2
theorem da_nil : DA K X tNil rNil := ⟨fun η Q Q' hq q => hq _ _ q, fun B Z H σ η τ P lk o q => q Z H [] (.of o)⟩
theorem da_cons {ta : TE} {tr : TA} {ra : RE} {rr : RA} (ha : DE K X ta ra) (hr : DA K X tr rr) : DA K X (tCons ta tr) (rCons ra rr) := by
  refine ⟨fun η Q Q' hq q => ha.mono _ _ _ (fun x η1 q => hr.mono _ _ _ (fun y η2 q => hq _ _ q) q) q, ?_⟩
  intro B Z H σ η τ P lk o q
  refine ha.run B Z H σ η τ _ lk o (ha.mono _ _ _ (fun x η1 q Z1 H1 v o1 => ?_) q)
  refine hr.run B Z1 H1 σ η1 _ _ lk.app o1.2 (hr.mono _ _ _ (fun y η2 q Z2 H2 w o2 => ?_) q)
  exact q Z2 H2 (v :: w) (OkV.cons o1.1 o2)
def rCB (ro : ROs) (ra : RA) : RE := fun η Q => ra η fun xs η1 => ro xs η1 Q
theorem de_cb {r : List V → Hp → VK → Prop} {ro : ROs} {ta : TA} {ra : RA} (h : DC K r ro) (ha : DA K X ta ra) : DE K X (tCB r ta) (rCB ro ra) := by
  refine ⟨fun η Q Q' hq q => ha.mono _ _ _ (fun x η1 q => h.mono _ _ _ _ hq q) q, ?_⟩
  intro B Z H σ η τ P lk o q
  exact ha.run B Z H σ η τ _ lk o (ha.mono _ _ _ (fun x η1 q Z1 H1 v o1 => h.run B Z1 H1 σ η1 τ x v P o1 q) q)
/-- a new tuple, a new list -/
def rTup (ra : RA) : RE := fun η Q => ra η fun xs η1 => ∃ ds, frzs η1 xs = some ds ∧ ds.length ≤ 100000 ∧ Q (.d (.tup ds)) η1
theorem sz {n : Nat} (h : n ≤ 100000) : n ≤ sizeLine := Nat.le_trans h (by decide)
theorem szl {n : Nat} (h : n < 100000) : n < sizeLine := Nat.lt_of_lt_of_le h (by decide)
theorem Ok.newTup {B : Base} {Z : Zs} {H : Hp} {σ : L2.St} {η : Env} {τ : List (V × En)} (o : Ok B K Z H σ η τ) {vs : List V} {ds : List Dt} (r : RpAll K Z H vs ds) {p : Addr} (hp : H p = none) :
    OkV B K (fun b => Z b ∨ b = p) (upd H p (.tup vs)) σ η τ [.d (.tup ds)] [.ref p] :=
  .d (o.newZ hp _) (.tup (.inl ⟨.inr rfl, .inl upd_same⟩) (r.new hp))
theorem Ok.newLst {B : Base} {Z : Zs} {H : Hp} {σ : L2.St} {η : Env} {τ : List (V × En)} (o : Ok B K Z H σ η τ) {vs : List V} {ds : List Dt} (r : RpAll K Z H vs ds) {p : Addr} (hp : H p = none) :
    OkV B K Z (upd H p (.lst vs)) σ η τ [.nw (.lst ds)] [.ref p] :=
  .nw (o.new hp ⟨vs, upd_same, r.new' hp⟩)
theorem de_tup {ta : TA} {ra : RA} (ha : DA K X ta ra) : DE K X (tTup ta) (rTup ra) := by
  refine ⟨fun η Q Q' hq q => ha.mono _ _ _ (fun x η1 ⟨ds, e, l, q⟩ => ⟨ds, e, l, hq _ _ q⟩) q, ?_⟩
  intro B Z H σ η τ P lk o q
  refine ha.run B Z H σ η τ _ lk o (ha.mono _ _ _ (fun xs η1 q Z1 H1 vs o1 => ?_) q)
  obtain ⟨ds, e, l, q⟩ := q
  obtain ⟨Z2, z2, o2, r⟩ := o1.frzs e
  refine ⟨by rw [r.length]; exact sz l, fun p hp => ?_⟩
  exact q _ _ _ (o2.newTup r hp)
def rLst (ra : RA) : RE := fun η Q => ra η fun xs η1 => ∃ ds, frzs η1 xs = some ds ∧ ds.length ≤ 100000 ∧ Q (.nw (.lst ds)) η1
theorem de_lst {ta : TA} {ra : RA} (ha : DA K X ta ra) : DE K X (tLst ta) (rLst ra) := by
  refine ⟨fun η Q Q' hq q => ha.mono _ _ _ (fun x η1 ⟨ds, e, l, q⟩ => ⟨ds, e, l, hq _ _ q⟩) q, ?_⟩
  intro B Z H σ η τ P lk o q
  refine ha.run B Z H σ η τ _ lk o (ha.mono _ _ _ (fun xs η1 q Z1 H1 vs o1 => ?_) q)
  obtain ⟨ds, e, l, q⟩ := q
  obtain ⟨Z2, z2, o2, r⟩ := o1.frzs e
  refine ⟨by rw [r.length]; exact sz l, fun p hp => ?_⟩
  exact q _ _ _ (o2.newLst r hp)
/-! ### tests -/
def rB (ra : RE) : RT := fun η Q => ra η fun x η1 => ∃ b, look η1 x = some (.bl b) ∧ Q b η1
theorem dt_B {ta : TE} {ra : RE} (ha : DE K X ta ra) : DT K X (tB ta) (rB ra) := by
  refine ⟨fun η Q Q' hq q => ha.mono _ _ _ (fun x η1 ⟨b, e, q⟩ => ⟨b, e, hq _ _ q⟩) q, ?_⟩
  intro B Z H σ η τ P lk o q
  refine ha.run B Z H σ η τ _ lk o (ha.mono _ _ _ (fun x η1 q Z1 H1 v o1 => ?_) q)
  obtain ⟨b, e, q⟩ := q
  exact ⟨b, o1.see e, q Z1 H1 o1.ok⟩
theorem dt_test {ta : TE} {ra : RE} (ha : DE K X ta ra) : DT K X (tTest ta) (rB ra) := dt_B ha
def rAnd (r u : RT) : RT := fun η Q => r η fun c η1 => if c = true then u η1 Q else Q false η1
def rOr (r u : RT) : RT := fun η Q => r η fun c η1 => if c = true then Q true η1 else u η1 Q
def rNot (r : RT) : RT := fun η Q => r η fun c η1 => Q (!c) η1
theorem dt_and {t u : TT} {r s : RT} (h1 : DT K X t r) (h2 : DT K X u s) : DT K X (tAnd t u) (rAnd r s) := by
  refine ⟨fun η Q Q' hq q => h1.mono _ _ _ (fun c η1 q => ?_) q, ?_⟩
  · cases c with
    | true => exact h2.mono _ _ _ hq q
    | false => exact hq _ _ q
  intro B Z H σ η τ P lk o q
  refine h1.run B Z H σ η τ _ lk o (h1.mono _ _ _ (fun c η1 q Z1 H1 o1 => ?_) q)
  cases c with
  | true => exact h2.run B Z1 H1 σ η1 τ P lk o1 q
  | false => exact q Z1 H1 o1
theorem dt_or {t u : TT} {r s : RT} (h1 : DT K X t r) (h2 : DT K X u s) : DT K X (tOr t u) (rOr r s) := by
  refine ⟨fun η Q Q' hq q => h1.mono _ _ _ (fun c η1 q => ?_) q, ?_⟩
  · cases c with
    | false => exact h2.mono _ _ _ hq q
    | true => exact hq _ _ q
  intro B Z H σ η τ P lk o q
  refine h1.run B Z H σ η τ _ lk o (h1.mono _ _ _ (fun c η1 q Z1 H1 o1 => ?_) q)
  cases c with
  | false => exact h2.run B Z1 H1 σ η1 τ P lk o1 q
  | true => exact q Z1 H1 o1
theorem dt_not {t : TT} {r : RT} (h1 : DT K X t r) : DT K X (tNot t) (rNot r) :=
  ⟨fun η Q Q' hq q => h1.mono _ _ _ (fun c η1 q => hq _ _ q) q, fun B Z H σ η τ P lk o q => h1.run B Z H σ η τ _ lk o q⟩
def rAndV (ra rb : RE) : RE := fun η Q => ra η fun x η1 => ∃ c, look η1 x = some (.bl c) ∧ if c = true then rb η1 Q else Q (.d (.bl false)) η1
def rOrV (ra rb : RE) : RE := fun η Q => ra η fun x η1 => ∃ c, look η1 x = some (.bl c) ∧ if c = true then Q (.d (.bl true)) η1 else rb η1 Q
def rNotV (ra : RE) : RE := fun η Q => ra η fun x η1 => ∃ c, look η1 x = some (.bl c) ∧ Q (.d (.bl (!c))) η1
theorem de_andV {ta tb : TE} {ra rb : RE} (ha : DE K X ta ra) (hb : DE K X tb rb) : DE K X (tAndV ta tb) (rAndV ra rb) := by
  constructor
  · intro η Q Q' hq q
    refine ha.mono _ _ _ ?_ q
    rintro x η1 ⟨c, e, q⟩
    refine ⟨c, e, ?_⟩
    cases c with
    | true => exact hb.mono _ _ _ hq q
    | false => exact hq _ _ q
  intro B Z H σ η τ P lk o q
  refine ha.run B Z H σ η τ _ lk o (ha.mono _ _ _ (fun x η1 q Z1 H1 v o1 => ?_) q)
  obtain ⟨c, e, q⟩ := q
  refine ⟨c, o1.see e, ?_⟩
  cases c with
  | true => exact hb.run B Z1 H1 σ η1 τ P lk o1.ok q
  | false => exact q Z1 H1 _ (.d o1.ok (.bl _))
theorem de_orV {ta tb : TE} {ra rb : RE} (ha : DE K X ta ra) (hb : DE K X tb rb) : DE K X (tOrV ta tb) (rOrV ra rb) := by
  constructor
  · intro η Q Q' hq q
    refine ha.mono _ _ _ ?_ q
    rintro x η1 ⟨c, e, q⟩
    refine ⟨c, e, ?_⟩
    cases c with
    | false => exact hb.mono _ _ _ hq q
    | true => exact hq _ _ q
  intro B Z H σ η τ P lk o q
  refine ha.run B Z H σ η τ _ lk o (ha.mono _ _ _ (fun x η1 q Z1 H1 v o1 => ?_) q)
  obtain ⟨c, e, q⟩ := q
  refine ⟨c, o1.see e, ?_⟩
  cases c with
  | false => exact hb.run B Z1 H1 σ η1 τ P lk o1.ok q
  | true => exact q Z1 H1 _ (.d o1.ok (.bl _))
theorem de_notV {ta : TE} {ra : RE} (ha : DE K X ta ra) : DE K X (tNotV ta) (rNotV ra) := by
  refine ⟨fun η Q Q' hq q => ha.mono _ _ _ (fun x η1 ⟨c, e, q⟩ => ⟨c, e, hq _ _ q⟩) q, ?_⟩
  intro B Z H σ η τ P lk o q
  refine ha.run B Z H σ η τ _ lk o (ha.mono _ _ _ (fun x η1 q Z1 H1 v o1 => ?_) q)
  obtain ⟨c, e, q⟩ := q
  exact ⟨c, o1.see e, q Z1 H1 _ (.d o1.ok (.bl _))⟩
def rIf (r : RT) (ra rb : RE) : RE := fun η Q => r η fun c η1 => if c = true then ra η1 Q else rb η1 Q
theorem de_if {t : TT} {r : RT} {ta tb : TE} {ra rb : RE} (h : DT K X t r) (ha : DE K X ta ra) (hb : DE K X tb rb) : DE K X (tIf t ta tb) (rIf r ra rb) := by
  refine ⟨fun η Q Q' hq q => h.mono _ _ _ (fun c η1 q => ?_) q, ?_⟩
  · cases c with
    | true => exact ha.mono _ _ _ hq q
    | false => exact hb.mono _ _ _ hq q
  intro B Z H σ η τ P lk o q
  refine h.run B Z H σ η τ _ lk o (h.mono _ _ _ (fun c η1 q Z1 H1 o1 => ?_) q)
  cases c with
  | true => exact ha.run B Z1 H1 σ η1 τ P lk o1 q
  | false => exact hb.run B Z1 H1 σ η1 τ P lk o1 q

/-! ### pure operations: R of the two data and the answer -/
def roP (R : Dt → Dt → Dt → Prop) : RO2 := fun x y η Q => ∃ dx dy d, look η x = some dx ∧ look η y = some dy ∧ R dx dy d ∧ Q (.d d) η
structure P2 (K : PySem.W.Frag) (r : R2) (R : Dt → Dt → Dt → Prop) : Prop where
  run : ∀ (Z : Zs) (H : Hp) (v w : V) (dx dy d : Dt) (P : VK), See K Z H v dx → See K Z H w dy → R dx dy d → (∀ u, Rp K Z H u d → P u H) → r v w H P
theorem OkV.see2 {B : Base} {Z : Zs} {H : Hp} {σ : L2.St} {η : Env} {τ : List (V × En)} {x y : Vl} {v w : V} {dx dy : Dt} (h : OkV B K Z H σ η τ [x, y] [v, w]) (e1 : look η x = some dx) (e2 : look η y = some dy) : See K Z H v dx ∧ See K Z H w dy :=
  ⟨h.head.see e1, h.tail.see e2⟩
theorem d2_P {r : R2} {R : Dt → Dt → Dt → Prop} (h : P2 K r R) : D2 K r (roP R) := by
  refine ⟨fun x y η Q Q' hq ⟨dx, dy, d, e1, e2, e3, q⟩ => ⟨dx, dy, d, e1, e2, e3, hq _ _ q⟩, ?_⟩
  intro B Z H σ η τ x y v w P o ⟨dx, dy, d, e1, e2, e3, q⟩
  obtain ⟨s1, s2⟩ := o.see2 e1 e2
  exact h.run Z H v w dx dy d P s1 s2 e3 fun u ru => q Z H u (.d o.ok ru)
theorem D2.or {r r' : R2} {ro ro' : RO2} (h : D2 K r ro) (h' : D2 K r' ro') : D2 K (fun x y H Q => r x y H Q ∨ r' x y H Q) (fun x y η Q => ro x y η Q ∨ ro' x y η Q) :=
  ⟨fun x y η Q Q' hq q => q.imp (h.mono _ _ _ _ _ hq) (h'.mono _ _ _ _ _ hq), fun B Z H σ η τ x y v w P o q => q.imp (h.run B Z H σ η τ x y v w P o) (h'.run B Z H σ η τ x y v w P o)⟩
theorem P2.or {r r' : R2} {R R' : Dt → Dt → Dt → Prop} (h : P2 K r R) (h' : P2 K r' R') : P2 K (fun x y H Q => r x y H Q ∨ r' x y H Q) (fun x y d => R x y d ∨ R' x y d) :=
  ⟨fun Z H v w dx dy d P s1 s2 q k => q.imp (fun q => h.run Z H v w dx dy d P s1 s2 q k) (fun q => h'.run Z H v w dx dy d P s1 s2 q k)⟩
/-- ints -/
def RI0 (g : Int → Int → Dt) : Dt → Dt → Dt → Prop := fun x y d => ∃ i j, x = .int i ∧ y = .int j ∧ d = g i j
def RI (C : Int → Int → Prop) (g : Int → Int → Dt) : Dt → Dt → Dt → Prop := fun x y d => ∃ i j, x = .int i ∧ y = .int j ∧ C i j ∧ d = g i j
theorem p2_I0 {g : Int → Int → V} {g' : Int → Int → Dt} (h : ∀ Z H i j, Rp K Z H (g i j) (g' i j)) : P2 K (rI0 g) (RI0 g') := by
  refine ⟨fun Z H v w dx dy d P s1 s2 e k => ?_⟩
  obtain ⟨i, j, rfl, rfl, rfl⟩ := e
  exact ⟨i, j, s1, s2, k _ (h Z H i j)⟩
theorem p2_I {C : Int → Int → Prop} {g : Int → Int → V} {g' : Int → Int → Dt} (h : ∀ Z H i j, Rp K Z H (g i j) (g' i j)) : P2 K (rI C g) (RI C g') := by
  refine ⟨fun Z H v w dx dy d P s1 s2 e k => ?_⟩
  obtain ⟨i, j, rfl, rfl, c, rfl⟩ := e
  exact ⟨i, j, s1, s2, c, k _ (h Z H i j)⟩
def iI (f : Int → Int → Int) : Int → Int → Dt := fun i j => .int (f i j)
def iB (f : Int → Int → Bool) : Int → Int → Dt := fun i j => .bl (f i j)
theorem p2_ii {f : Int → Int → Int} : P2 K (rI0 fun i j => .int (f i j)) (RI0 fun i j => .int (f i j)) := p2_I0 fun _ _ _ _ => .int _
theorem p2_ib {f : Int → Int → Bool} : P2 K (rI0 fun i j => .bl (f i j)) (RI0 fun i j => .bl (f i j)) := p2_I0 fun _ _ _ _ => .bl _
theorem p2_ci {C : Int → Int → Prop} {f : Int → Int → Int} : P2 K (rI C fun i j => .int (f i j)) (RI C fun i j => .int (f i j)) := p2_I fun _ _ _ _ => .int _
/-- a chain of two pure comparisons -/
def rChain (R R' : Dt → Dt → Dt → Prop) (ra rb rc : RE) : RE := fun η Q => ra η fun x η1 => rb η1 fun y η2 => ∃ dx dy k, look η2 x = some dx ∧ look η2 y = some dy ∧ R dx dy (.bl k) ∧
  if k = true then rc η2 fun z η3 => ∃ dy' dz d, look η3 y = some dy' ∧ look η3 z = some dz ∧ R' dy' dz d ∧ Q (.d d) η3 else Q (.d (.bl false)) η2
theorem de_chain {r r' : R2} {R R' : Dt → Dt → Dt → Prop} {ta tb tc : TE} {ra rb rc : RE} (h : P2 K r R) (h' : P2 K r' R') (ha : DE K X ta ra) (hb : DE K X tb rb) (hc : DE K X tc rc)
    : DE K X (tChain r r' ta tb tc) (rChain R R' ra rb rc) := by
  constructor
  · intro η Q Q' hq q
    refine ha.mono _ _ _ (fun x η1 q => hb.mono _ _ _ ?_ q) q
    rintro y η2 ⟨dx, dy, k, e1, e2, e3, q⟩
    refine ⟨dx, dy, k, e1, e2, e3, ?_⟩
    cases k with
    | true =>
      refine hc.mono _ _ _ ?_ q
      rintro z η3 ⟨dy', dz, d, e4, e5, e6, q⟩
      exact ⟨dy', dz, d, e4, e5, e6, hq _ _ q⟩
    | false => exact hq _ _ q
  intro B Z H σ η τ P lk o q
  refine ha.run B Z H σ η τ _ lk o (ha.mono _ _ _ (fun x η1 q Z1 H1 v o1 => ?_) q)
  refine hb.run B Z1 H1 σ η1 _ _ lk.app o1.2 (hb.mono _ _ _ ?_ q)
  rintro y η2 ⟨dx, dy, k, e1, e2, e3, q⟩ Z2 H2 w o2
  obtain ⟨s1, s2⟩ := (OkV.cons o1.1 o2).see2 e1 e2
  refine h.run Z2 H2 v w dx dy (.bl k) _ s1 s2 e3 fun u ru => ?_
  refine ⟨k, ru.see, ?_⟩
  cases k with
  | true =>
    refine hc.run B Z2 H2 σ η2 _ _ lk.app.app o2.2 (hc.mono _ _ _ ?_ q)
    rintro z η3 ⟨dy', dz, d, e4, e5, e6, q⟩ Z3 H3 u3 o3
    have o4 := OkV.cons o2.1 o3
    obtain ⟨s3, s4⟩ := o4.see2 e4 e5
    exact h'.run Z3 H3 w u3 dy' dz d P s3 s4 e6 fun u4 r4 => q Z3 H3 u4 (.d o4.ok.drops r4)
  | false => exact q Z2 H2 _ (.d o2.ok.drops (.bl _))

/-! ### statements -/
def rNext : RS := fun D η => D.nx η
theorem ds_next : DS K X tNext rNext := ⟨fun η D D' hd q => hd.nx _ q, fun B Z H σ η τ E lk o q => q Z H σ o⟩
def rBreak : RS := fun D η => D.bk η
def rCont : RS := fun D η => D.ct η
theorem ds_break : DS K X tBreak rBreak := ⟨fun η D D' hd q => hd.bk _ q, fun B Z H σ η τ E lk o q => q Z H σ o⟩
theorem ds_cont : DS K X tCont rCont := ⟨fun η D D' hd q => hd.ct _ q, fun B Z H σ η τ E lk o q => q Z H σ o⟩
def rSeq (r u : RS) : RS := fun D η => r { D with nx := u D } η
theorem ds_seq {t u : TS} {r s : RS} (h1 : DS K X t r) (h2 : DS K X u s) : DS K X (tSeq t u) (rSeq r s) := by
  refine ⟨fun η D D' hd q => h1.mono _ { D with nx := s D } { D' with nx := s D' } ⟨fun η q => h2.mono _ _ _ hd q, hd.rt, hd.bk, hd.ct⟩ q, ?_⟩
  intro B Z H σ η τ E lk o q
  exact h1.run B Z H σ η τ { E with nx := u E } lk o (h1.mono _ { lft B K τ E with nx := s (lft B K τ E) } _ ⟨fun η q Z1 H1 σ1 o1 => h2.run B Z1 H1 σ1 η τ E lk o1 q, fun _ _ h => h, fun _ h => h, fun _ h => h⟩ q)
def rAsg (ra : RE) (i : Nat) : RS := fun D η => ra η fun x η1 => i < η1.length ∧ match x with
  | .d d => D.nx (η1.set i (some (.val d)))
  | .nw d => D.nx (η1.set i (some (.mu none (.dt d))))
  | .sl j => match frz η1 (.sl j) with
    | some d => D.nx (η1.set i (some (.val d)))
    | none => False
theorem ds_asg {ta : TE} {ra : RE} (ha : DE K X ta ra) (i : Nat) : DS K X (tAsg ta (gName i)) (rAsg ra i) := by
  constructor
  · intro η D D' hd q
    refine ha.mono _ _ _ ?_ q
    rintro x η1 ⟨hi, q⟩
    refine ⟨hi, ?_⟩
    cases x with
    | d x => exact hd.nx _ q
    | nw x => exact hd.nx _ q
    | sl j =>
      simp only at q ⊢
      split at q
      · exact hd.nx _ q
      · exact q.elim
  intro B Z H σ η τ E lk o q
  refine ha.run B Z H σ η τ _ lk o (ha.mono _ _ _ ?_ q)
  rintro x η1 ⟨hi, q⟩ Z1 H1 v o1
  show E.nx (σ.set i (some v)) H1
  cases x with
  | d x => exact q Z1 H1 _ (Ok.store o1.2 hi)
  | nw x => exact q Z1 H1 _ (Ok.store o1.2 hi)
  | sl j =>
    simp only at q
    split at q
    · rename_i d e
      obtain ⟨Z2, _, o2⟩ := o1.frz e
      exact q Z2 H1 _ (o2.store hi)
    · exact q.elim
def rDrop (ra : RE) : RS := fun D η => ra η fun _ η1 => D.nx η1
theorem ds_drop {ta : TE} {ra : RE} (ha : DE K X ta ra) : DS K X (tDrop ta) (rDrop ra) := by
  refine ⟨fun η D D' hd q => ha.mono _ _ _ (fun x η1 q => hd.nx _ q) q, ?_⟩
  intro B Z H σ η τ E lk o q
  exact ha.run B Z H σ η τ _ lk o (ha.mono _ _ _ (fun x η1 q Z1 H1 v o1 => q Z1 H1 σ o1.ok) q)
def rRet (ra : RE) : RS := fun D η => ra η fun x η1 => D.rt x η1
theorem ds_ret {ta : TE} {ra : RE} (ha : DE K X ta ra) : DS K X (tRet ta) (rRet ra) := by
  refine ⟨fun η D D' hd q => ha.mono _ _ _ (fun x η1 q => hd.rt _ _ q) q, ?_⟩
  intro B Z H σ η τ E lk o q
  exact ha.run B Z H σ η τ _ lk o (ha.mono _ _ _ (fun x η1 q Z1 H1 v o1 => q Z1 H1 σ v o1) q)
def rRetN : RS := fun D η => D.rt (.d .non) η
theorem ds_retN : DS K X tRetN rRetN := ⟨fun η D D' hd q => hd.rt _ _ q, fun B Z H σ η τ E lk o q => q Z H σ _ (.d o .non)⟩
def rIfS (c : RT) (r u : RS) : RS := fun D η => c η fun b η1 => if b = true then r D η1 else u D η1
theorem ds_if {t : TT} {c : RT} {t1 t2 : TS} {r u : RS} (h : DT K X t c) (h1 : DS K X t1 r) (h2 : DS K X t2 u) : DS K X (tIfS t t1 t2) (rIfS c r u) := by
  refine ⟨fun η D D' hd q => h.mono _ _ _ (fun b η1 q => ?_) q, ?_⟩
  · cases b with
    | true => exact h1.mono _ _ _ hd q
    | false => exact h2.mono _ _ _ hd q
  intro B Z H σ η τ E lk o q
  refine h.run B Z H σ η τ _ lk o (h.mono _ _ _ (fun b η1 q Z1 H1 o1 => ?_) q)
  cases b with
  | true => exact h1.run B Z1 H1 σ η1 τ E lk o1 q
  | false => exact h2.run B Z1 H1 σ η1 τ E lk o1 q
def rNever : RS := fun _ _ => False
theorem ds_never : DS K X tNever rNever := ⟨fun _ _ _ _ h => h, fun _ _ _ _ _ _ _ _ _ h => h⟩
end
end D

set_option Elab.async false
set_option linter.all false
set_option maxRecDepth 100000
set_option maxHeartbeats 4000000
namespace D
open PySem PySem.Spec PyProof.Rows L2
section
variable {K : PySem.W.Frag} {X : Wsh} {B : Base} {Z : Zs} {H : Hp} {σ : L2.St} {η : Env} {τ : List (V × En)}
/-! ### what is held for a while -/
def held (η : Env) : Vl → Option Dt
  | .d x => some x
  | .nw x => some x
  | .sl i => match η[i]? with
    | some (some (.bor x)) => some x
    | _ => none
/-- an entry that bears a datum -/
def Bears (e : En) (d : Dt) : Prop := e = .val d ∨ (∃ p, e = .mu p (.dt d)) ∨ e = .bor d
theorem Ok.seeT {v : V} {e : En} {d : Dt} (o : Ok B K Z H σ η ((v, e) :: τ)) (b : Bears e d) : See K Z H v d := by
  obtain ⟨F, q⟩ := o.head
  exact q.see b
theorem Ok.dup {v : V} {d : Dt} {i : Nat} (o : Ok B K Z H σ η τ) (hv : σ[i]? = some (some v)) (he : η[i]? = some (some (.bor d))) : Ok B K Z H σ η ((v, .bor d) :: τ) := by
  obtain ⟨w, hw, o'⟩ := o.take he
  rw [hv] at hw; cases hw
  obtain ⟨F, h⟩ := o
  obtain ⟨F1, e1, m1⟩ := h.sep.mem (p := (v, .bor d)) (List.mem_append_left _ (by
    obtain ⟨w, hw, p⟩ := pack_take h.slots he
    rw [hv] at hw; cases hw
    exact p.mem_iff.mpr (by simp)))
  have e0 := e1.1
  subst e0
  obtain ⟨F', s, m⟩ := Sep.perm (B := B) (K := K) (Z := Z) (H := H) (l := (v, .bor d) :: (pack σ η ++ τ)) (l' := pack σ η ++ (v, .bor d) :: τ) List.perm_middle.symm (F := F) ⟨[], F, e1, h.sep, by simp, rfl⟩
  exact ⟨F', h.slots, s, fun b hb => h.live b ((m b).mp hb), h.base, h.there, h.grow, h.old, h.zl⟩
theorem OkV.hold {x : Vl} {v : V} {d : Dt} (o : OkV B K Z H σ η τ [x] [v]) (e : held η x = some d) : ∃ en, Bears en d ∧ Ok B K Z H σ η ((v, en) :: τ) := by
  cases x with
  | d y => cases e; exact ⟨_, .inl rfl, o.2⟩
  | nw y => cases e; exact ⟨_, .inr (.inl ⟨_, rfl⟩), o.2⟩
  | sl i =>
    obtain ⟨a, o⟩ := o
    unfold held at e
    simp only at e
    split at e
    · rename_i y q
      cases e
      exact ⟨_, .inr (.inr rfl), o.dup a.1 q⟩
    · cases e
theorem OkV.dropτ {p : V × En} {xs : List Vl} {vs : List V} (o : OkV B K Z H σ η (p :: τ) xs vs) : OkV B K Z H σ η τ xs vs :=
  ⟨o.1, (o.2.perm (List.perm_middle (l₁ := tmp xs vs) (l₂ := τ))).drop⟩

/-! ### what a loop walks: its items are told at the start -/
structure IterOk (B : Base) (K : PySem.W.Frag) (J : It) (p : V × En) (ds : List Dt) : Prop where
  go : ∀ (Z : Zs) (H : Hp) (σ : L2.St) (η : Env) (τ : List (V × En)) (i : Nat), Ok B K Z H σ η (p :: τ) → i < ds.length → J.go i H
  yld : ∀ (Z : Zs) (H : Hp) (σ : L2.St) (η : Env) (τ : List (V × En)) (i : Nat) (x : V) (H' : Hp), Ok B K Z H σ η (p :: τ) → J.yld i H x H' → i < ds.length → ∃ Z' d, ds[i]? = some d ∧ Ok B K Z' H' σ η ((x, .val d) :: p :: τ)
  stop : ∀ (Z : Zs) (H : Hp) (σ : L2.St) (η : Env) (τ : List (V × En)) (i : Nat), Ok B K Z H σ η (p :: τ) → ds.length ≤ i → J.stop i H
abbrev RI' := Env → (List Dt → Env → Prop) → Prop
structure DI (K : PySem.W.Frag) (X : Wsh) (wi : TI) (r : RI') : Prop where
  mono : ∀ η (Q Q' : List Dt → Env → Prop), (∀ x η', Q x η' → Q' x η') → r η Q → r η Q'
  run : ∀ (B : Base) (Z : Zs) (H : Hp) (σ : L2.St) (η : Env) (τ : List (V × En)) (R : It → Hp → Prop), Lk B K X τ → Ok B K Z H σ η τ →
    r η (fun ds η' => ∀ Z' H' p J, Ok B K Z' H' σ η' (p :: τ) → IterOk B K J p ds → R J H') → wi σ H R
theorem getlt {α : Type} {l : List α} {i : Nat} (h : i < l.length) : ∃ d, l[i]? = some d := ⟨l[i], by simp [h]⟩
/-- a list -/
def riList (ra : RE) : RI' := fun η Q => ra η fun x η1 => ∃ ds, held η1 x = some (.lst ds) ∧ Q ds η1
theorem iter_list {v : V} {en : En} {a : Addr} {ds : List Dt} (b : Bears en (.lst ds)) (hv : v = .ref a) : IterOk B K (Itl K a) (v, en) ds := by
  subst hv
  refine ⟨fun Z H σ η τ i o hi => ?_, fun Z H σ η τ i x H' o y hi => ?_, fun Z H σ η τ i o hi => ?_⟩
  · obtain ⟨a', vs, e, s, r⟩ := o.seeT b
    cases e
    obtain ⟨x, hx⟩ := getlt (l := vs) (i := i) (by rw [r.length]; exact hi)
    exact ⟨vs, x, s, hx⟩
  · obtain ⟨a', vs, e, s, r⟩ := o.seeT b
    cases e
    obtain ⟨e', y⟩ := y
    subst e'
    obtain ⟨d, hd, rd⟩ := r.get' (y vs s)
    exact ⟨Z, d, hd, o.val rd⟩
  · obtain ⟨a', vs, e, s, r⟩ := o.seeT b
    cases e
    exact ⟨vs, s, by rw [r.length]; exact hi⟩
theorem di_list {tl : TE} {ra : RE} (ha : DE K X tl ra) : DI K X (iList K tl) (riList ra) := by
  constructor
  · intro η Q Q' hq q
    refine ha.mono _ _ _ ?_ q
    rintro x η1 ⟨ds, e, q⟩
    exact ⟨ds, e, hq _ _ q⟩
  intro B Z H σ η τ R lk o q
  refine ha.run B Z H σ η τ _ lk o (ha.mono _ _ _ ?_ q)
  rintro x η1 ⟨ds, e, q⟩ Z1 H1 v o1
  obtain ⟨en, b, o2⟩ := o1.hold e
  obtain ⟨a, vs, e1, s, r⟩ := o2.seeT b
  exact ⟨a, e1, ⟨vs, s⟩, q Z1 H1 (v, en) _ o2 (iter_list b e1)⟩
def riTup (ra : RE) : RI' := fun η Q => ra η fun x η1 => ∃ ds, held η1 x = some (.tup ds) ∧ Q ds η1
theorem iter_tup {v : V} {en : En} {a : Addr} {ds : List Dt} (b : Bears en (.tup ds)) (hv : v = .ref a) : IterOk B K (Itt K a) (v, en) ds := by
  subst hv
  refine ⟨fun Z H σ η τ i o hi => ?_, fun Z H σ η τ i x H' o y hi => ?_, fun Z H σ η τ i o hi => ?_⟩
  · obtain ⟨a', vs, e, s, r⟩ := o.seeT b
    cases e
    obtain ⟨x, hx⟩ := getlt (l := vs) (i := i) (by rw [r.length]; exact hi)
    exact ⟨vs, x, s, hx⟩
  · obtain ⟨a', vs, e, s, r⟩ := o.seeT b
    cases e
    obtain ⟨e', y⟩ := y
    subst e'
    obtain ⟨d, hd, rd⟩ := r.get' (y vs s)
    exact ⟨Z, d, hd, o.val rd⟩
  · obtain ⟨a', vs, e, s, r⟩ := o.seeT b
    cases e
    exact ⟨vs, s, by rw [r.length]; exact hi⟩
theorem di_tup {tl : TE} {ra : RE} (ha : DE K X tl ra) : DI K X (iTup K tl) (riTup ra) := by
  constructor
  · intro η Q Q' hq q
    refine ha.mono _ _ _ ?_ q
    rintro x η1 ⟨ds, e, q⟩
    exact ⟨ds, e, hq _ _ q⟩
  intro B Z H σ η τ R lk o q
  refine ha.run B Z H σ η τ _ lk o (ha.mono _ _ _ ?_ q)
  rintro x η1 ⟨ds, e, q⟩ Z1 H1 v o1
  obtain ⟨en, b, o2⟩ := o1.hold e
  obtain ⟨a, vs, e1, s, r⟩ := o2.seeT b
  exact ⟨a, e1, ⟨vs, s⟩, q Z1 H1 (v, en) _ o2 (iter_tup b e1)⟩
/-- a text, sign by sign -/
def signs (x : Str) : List Dt := x.cps.toList.map fun c => .str ⟨#[c]⟩
theorem signs_length (x : Str) : (signs x).length = x.cps.size := by simp [signs]
def riStr (ra : RE) : RI' := fun η Q => ra η fun x η1 => ∃ s, look η1 x = some (.str s) ∧ Q (signs s) η1
theorem iter_str {s : Str} {p : V × En} : IterOk B K (Its s) p (signs s) := by
  refine ⟨fun Z H σ η τ i o hi => ?_, fun Z H σ η τ i x H' o y hi => ?_, fun Z H σ η τ i o hi => ?_⟩
  · show i < s.cps.size
    rw [signs_length] at hi; exact hi
  · obtain ⟨e, c, hc, e2⟩ := y
    subst e; subst e2
    refine ⟨Z, .str ⟨#[c]⟩, ?_, o.val (.str _)⟩
    unfold signs
    rw [List.getElem?_map, Array.getElem?_toList, hc]
    rfl
  · show s.cps.size ≤ i
    rw [signs_length] at hi; exact hi
theorem di_str {tl : TE} {ra : RE} (ha : DE K X tl ra) : DI K X (iStr tl) (riStr ra) := by
  constructor
  · intro η Q Q' hq q
    refine ha.mono _ _ _ ?_ q
    rintro x η1 ⟨ds, e, q⟩
    exact ⟨ds, e, hq _ _ q⟩
  intro B Z H σ η τ R lk o q
  refine ha.run B Z H σ η τ _ lk o (ha.mono _ _ _ ?_ q)
  rintro x η1 ⟨s, e, q⟩ Z1 H1 v o1
  exact ⟨s, o1.see e, q Z1 H1 (.non, .val .non) _ (o1.ok.val .non) iter_str⟩
/-- a range -/
def nums (lo : Int) (n : Nat) : List Dt := (List.range n).map fun (i : Nat) => .int (lo + (i : Int))
theorem nums_length (lo : Int) (n : Nat) : (nums lo n).length = n := by simp [nums]
theorem nums_at {lo : Int} {n i : Nat} (h : i < n) : (nums lo n)[i]? = some (.int (lo + (i : Int))) := by
  unfold nums
  rw [List.getElem?_map, List.getElem?_range h]
  rfl
theorem nums_get {lo : Int} {n i : Nat} {d : Dt} (h : (nums lo n)[i]? = some d) : i < n ∧ d = .int (lo + (i : Int)) := by
  by_cases hi : i < n
  · rw [nums_at hi] at h; exact ⟨hi, (Option.some.inj h).symm⟩
  · rw [List.getElem?_eq_none (by rw [nums_length]; omega)] at h; cases h
theorem iter_range {lo : Int} {n : Nat} {p : V × En} : IterOk B K (Itr lo n) p (nums lo n) := by
  refine ⟨fun Z H σ η τ i o hi => ?_, fun Z H σ η τ i x H' o y hi => ?_, fun Z H σ η τ i o hi => ?_⟩
  · show i < n
    rw [nums_length] at hi; exact hi
  · obtain ⟨e, e2⟩ := y
    subst e; subst e2
    rw [nums_length] at hi
    exact ⟨Z, _, nums_at hi, o.val (.int _)⟩
  · show n ≤ i
    rw [nums_length] at hi; exact hi
def riRange1 (ra : RA) : RI' := fun η Q => ra η fun xs η1 => ∃ j : Int, looks η1 xs = some [.int j] ∧ -(2 ^ 62) ≤ j ∧ j < 2 ^ 62 ∧ Q (nums 0 j.toNat) η1
theorem sees1 {vs : List V} {d : Dt} (h : SeeAll K Z H vs [d]) : ∃ v, vs = [v] ∧ See K Z H v d := by
  cases h with
  | cons a b => cases b; exact ⟨_, rfl, a⟩
theorem sees2 {vs : List V} {d e : Dt} (h : SeeAll K Z H vs [d, e]) : ∃ v w, vs = [v, w] ∧ See K Z H v d ∧ See K Z H w e := by
  cases h with
  | cons a b =>
    obtain ⟨w, rfl, r⟩ := sees1 b
    exact ⟨_, w, rfl, a, r⟩
theorem di_range1 {t : TA} {ra : RA} (ha : DA K X t ra) : DI K X (iRng1 t) (riRange1 ra) := by
  constructor
  · intro η Q Q' hq q
    refine ha.mono _ _ _ ?_ q
    rintro x η1 ⟨ds, e, h1, h2, q⟩
    exact ⟨ds, e, h1, h2, hq _ _ q⟩
  intro B Z H σ η τ R lk o q
  refine ha.run B Z H σ η τ _ lk o (ha.mono _ _ _ ?_ q)
  rintro x η1 ⟨j, e, h1, h2, q⟩ Z1 H1 vs o1
  obtain ⟨v, e1, s⟩ := sees1 (o1.sees e)
  have s' : v = .int j := s
  subst e1; subst s'
  exact ⟨j, rfl, h1, h2, q Z1 H1 (.non, .val .non) _ (o1.ok.val .non) iter_range⟩
def riRange2 (ra : RA) : RI' := fun η Q => ra η fun xs η1 => ∃ i j : Int, looks η1 xs = some [.int i, .int j] ∧ (-(2 ^ 62) ≤ i ∧ i < 2 ^ 62 ∧ -(2 ^ 62) ≤ j ∧ j < 2 ^ 62) ∧ Q (nums i (j - i).toNat) η1
theorem di_range2 {t : TA} {ra : RA} (ha : DA K X t ra) : DI K X (iRng2 t) (riRange2 ra) := by
  constructor
  · intro η Q Q' hq q
    refine ha.mono _ _ _ ?_ q
    rintro x η1 ⟨i, j, e, h1, q⟩
    exact ⟨i, j, e, h1, hq _ _ q⟩
  intro B Z H σ η τ R lk o q
  refine ha.run B Z H σ η τ _ lk o (ha.mono _ _ _ ?_ q)
  rintro x η1 ⟨i, j, e, h1, q⟩ Z1 H1 vs o1
  obtain ⟨v, w, e1, s, t⟩ := sees2 (o1.sees e)
  have s' : v = .int i := s
  have t' : w = .int j := t
  subst e1; subst s'; subst t'
  exact ⟨i, j, rfl, h1, q Z1 H1 (.non, .val .non) _ (o1.ok.val .non) iter_range⟩
/-- range(a, b, -1) and other steps -/
def numsC (lo c : Int) (n : Nat) : List Dt := (List.range n).map fun (i : Nat) => .int (lo + (i : Int) * c)
theorem numsC_length (lo c : Int) (n : Nat) : (numsC lo c n).length = n := by simp [numsC]
theorem numsC_at {lo c : Int} {n i : Nat} (h : i < n) : (numsC lo c n)[i]? = some (.int (lo + (i : Int) * c)) := by
  unfold numsC
  rw [List.getElem?_map, List.getElem?_range h]
  rfl
theorem numsC_get {lo c : Int} {n i : Nat} {d : Dt} (h : (numsC lo c n)[i]? = some d) : i < n ∧ d = .int (lo + (i : Int) * c) := by
  by_cases hi : i < n
  · rw [numsC_at hi] at h; exact ⟨hi, (Option.some.inj h).symm⟩
  · rw [List.getElem?_eq_none (by rw [numsC_length]; omega)] at h; cases h
theorem iter_rangeC {lo c : Int} {n : Nat} {p : V × En} : IterOk B K (Itc lo c n) p (numsC lo c n) := by
  refine ⟨fun Z H σ η τ i o hi => ?_, fun Z H σ η τ i x H' o y hi => ?_, fun Z H σ η τ i o hi => ?_⟩
  · show i < n
    rw [numsC_length] at hi; exact hi
  · obtain ⟨e, e2⟩ := y
    subst e; subst e2
    rw [numsC_length] at hi
    exact ⟨Z, _, numsC_at hi, o.val (.int _)⟩
  · show n ≤ i
    rw [numsC_length] at hi; exact hi
def riRange3 (ra : RA) : RI' := fun η Q => ra η fun xs η1 => ∃ (i j c : Int) (n : Nat), looks η1 xs = some [.int i, .int j, .int c] ∧ RgC i j c n ∧ Q (numsC i c n) η1
theorem sees3 {vs : List V} {d e f : Dt} (h : SeeAll K Z H vs [d, e, f]) : ∃ v w u, vs = [v, w, u] ∧ See K Z H v d ∧ See K Z H w e ∧ See K Z H u f := by
  cases h with
  | cons a b =>
    obtain ⟨w, u, rfl, r, r'⟩ := sees2 b
    exact ⟨_, w, u, rfl, a, r, r'⟩
theorem di_range3 {t : TA} {ra : RA} (ha : DA K X t ra) : DI K X (iRng3 t) (riRange3 ra) := by
  constructor
  · intro η Q Q' hq q
    refine ha.mono _ _ _ ?_ q
    rintro x η1 ⟨i, j, c, n, e, h1, q⟩
    exact ⟨i, j, c, n, e, h1, hq _ _ q⟩
  intro B Z H σ η τ R lk o q
  refine ha.run B Z H σ η τ _ lk o (ha.mono _ _ _ ?_ q)
  rintro x η1 ⟨i, j, c, n, e, h1, q⟩ Z1 H1 vs o1
  obtain ⟨v, w, u, e1, s, t, t2⟩ := sees3 (o1.sees e)
  have s' : v = .int i := s
  have t' : w = .int j := t
  have u' : u = .int c := t2
  subst e1; subst s'; subst t'; subst u'
  exact ⟨i, j, c, n, rfl, h1, q Z1 H1 (.non, .val .non) _ (o1.ok.val .non) iter_rangeC⟩
/-- enumerate(list) -/
def enumD (ds : List Dt) : List Dt := ds.zipIdx.map fun p => .tup [.int (p.2 : Int), p.1]
theorem enumD_length (ds : List Dt) : (enumD ds).length = ds.length := by simp [enumD]
theorem enumD_at {ds : List Dt} {i : Nat} {d : Dt} (h : ds[i]? = some d) : (enumD ds)[i]? = some (.tup [.int (i : Int), d]) := by
  unfold enumD
  rw [List.getElem?_map, List.getElem?_zipIdx, h]
  simp
theorem enumD_get {ds : List Dt} {i : Nat} {d : Dt} (h : (enumD ds)[i]? = some d) : ∃ e, ds[i]? = some e ∧ d = .tup [.int (i : Int), e] := by
  cases q : ds[i]? with
  | none => rw [List.getElem?_eq_none (by rw [enumD_length]; exact List.getElem?_eq_none_iff.mp q)] at h; cases h
  | some e => rw [enumD_at q] at h; exact ⟨e, rfl, (Option.some.inj h).symm⟩
theorem iter_enum {v : V} {en : En} {a : Addr} {ds : List Dt} (b : Bears en (.lst ds)) (hv : v = .ref a) : IterOk B K (Ite K a) (v, en) (enumD ds) := by
  subst hv
  refine ⟨fun Z H σ η τ i o hi => ?_, fun Z H σ η τ i x H' o y hi => ?_, fun Z H σ η τ i o hi => ?_⟩
  · obtain ⟨a', vs, e, s, r⟩ := o.seeT b
    cases e
    rw [enumD_length] at hi
    obtain ⟨x, hx⟩ := getlt (l := vs) (i := i) (by rw [r.length]; exact hi)
    exact ⟨vs, x, s, hx⟩
  · obtain ⟨a', vs, e, s, r⟩ := o.seeT b
    cases e
    obtain ⟨T, y, e', hT, eH, hy⟩ := y
    subst e'; subst eH
    obtain ⟨d, hd, rd⟩ := r.get' (hy vs s)
    exact ⟨_, _, enumD_at hd, (o.newTup (.cons (.int _) (.cons rd .nil)) hT).2⟩
  · obtain ⟨a', vs, e, s, r⟩ := o.seeT b
    cases e
    rw [enumD_length] at hi
    exact ⟨vs, s, by rw [r.length]; exact hi⟩
def heldAll (η : Env) : List Vl → Option (List Dt)
  | [] => some []
  | x :: r => match held η x, heldAll η r with
    | some d, some ds => some (d :: ds)
    | _, _ => none
def riEnum (ra : RA) : RI' := fun η Q => ra η fun xs η1 => ∃ x ds, xs = [x] ∧ held η1 x = some (.lst ds) ∧ Q (enumD ds) η1
theorem ali1 {x : Vl} {vs : List V} (h : Ali σ [x] vs) : ∃ v, vs = [v] := by
  match vs, h with
  | [v], _ => exact ⟨v, rfl⟩
  | [], h => cases x <;> exact h.elim
  | a :: b :: r, h =>
    have := h.length
    simp at this
theorem di_enum {t : TA} {ra : RA} (ha : DA K X t ra) : DI K X (iEnum K t) (riEnum ra) := by
  constructor
  · intro η Q Q' hq q
    refine ha.mono _ _ _ ?_ q
    rintro x η1 ⟨y, ds, e, e2, q⟩
    exact ⟨y, ds, e, e2, hq _ _ q⟩
  intro B Z H σ η τ R lk o q
  refine ha.run B Z H σ η τ _ lk o (ha.mono _ _ _ ?_ q)
  rintro xs η1 ⟨x, ds, e, e2, q⟩ Z1 H1 vs o1
  subst e
  obtain ⟨v, e1⟩ := ali1 o1.1
  subst e1
  obtain ⟨en, b, o2⟩ := o1.hold e2
  obtain ⟨a, vs, e1, s, r⟩ := o2.seeT b
  exact ⟨a, vs, by rw [e1], s, q Z1 H1 (v, en) _ o2 (iter_enum b e1)⟩
/-- reversed(list) -/
theorem iter_rev {v : V} {en : En} {a : Addr} {ds : List Dt} (b : Bears en (.lst ds)) (hv : v = .ref a) : IterOk B K (Itv K a ds.length) (v, en) ds.reverse := by
  subst hv
  refine ⟨fun Z H σ η τ i o hi => ?_, fun Z H σ η τ i x H' o y hi => ?_, fun Z H σ η τ i o hi => ?_⟩
  · obtain ⟨a', vs, e, s, r⟩ := o.seeT b
    cases e
    rw [List.length_reverse] at hi
    obtain ⟨x, hx⟩ := getlt (l := vs) (i := ds.length - 1 - i) (by rw [r.length]; omega)
    exact ⟨hi, vs, x, s, hx⟩
  · obtain ⟨a', vs, e, s, r⟩ := o.seeT b
    cases e
    obtain ⟨e', y⟩ := y
    subst e'
    obtain ⟨d, hd, rd⟩ := r.get' (y vs s)
    rw [List.length_reverse] at hi
    exact ⟨Z, d, by rw [List.getElem?_reverse hi]; exact hd, o.val rd⟩
  · rw [List.length_reverse] at hi
    exact hi
def riRev (ra : RA) : RI' := fun η Q => ra η fun xs η1 => ∃ x ds, xs = [x] ∧ held η1 x = some (.lst ds) ∧ Q ds.reverse η1
theorem di_rev {t : TA} {ra : RA} (ha : DA K X t ra) : DI K X (iRev K t) (riRev ra) := by
  constructor
  · intro η Q Q' hq q
    refine ha.mono _ _ _ ?_ q
    rintro x η1 ⟨y, ds, e, e2, q⟩
    exact ⟨y, ds, e, e2, hq _ _ q⟩
  intro B Z H σ η τ R lk o q
  refine ha.run B Z H σ η τ _ lk o (ha.mono _ _ _ ?_ q)
  rintro xs η1 ⟨x, ds, e, e2, q⟩ Z1 H1 vs o1
  subst e
  obtain ⟨v, e1⟩ := ali1 o1.1
  subst e1
  obtain ⟨en, b, o2⟩ := o1.hold e2
  obtain ⟨a, vs, e1, s, r⟩ := o2.seeT b
  refine ⟨a, vs, by rw [e1], s, ?_⟩
  rw [r.length]
  exact q Z1 H1 (v, en) _ o2 (iter_rev b e1)

/-! ### targets -/
abbrev RG := Dt → Env → (Env → Prop) → Prop
theorem wipe_set {σ : L2.St} {i : Nat} {o : Option V} : ∀ {vs : List Nat}, i ∈ vs → wipe (σ.set i o) vs = wipe σ vs
  | [], h => by simp at h
  | v :: vs, h => by
    show (wipe (σ.set i o) vs).set v none = (wipe σ vs).set v none
    by_cases hv : i ∈ vs
    · rw [wipe_set hv]
    · have e : i = v := by
        rcases List.mem_cons.mp h with q | q
        · exact q
        · exact absurd q hv
      subst e
      have gen : ∀ (vs : List Nat), i ∉ vs → wipe (σ.set i o) vs = (wipe σ vs).set i o := by
        intro vs
        induction vs with
        | nil => intro _; rfl
        | cons w vs ih =>
          intro hn
          have h1 : i ≠ w := fun q => hn (by simp [q])
          have h2 : i ∉ vs := fun q => hn (by simp [q])
          show (wipe (σ.set i o) vs).set w none = ((wipe σ vs).set w none).set i o
          rw [ih h2, List.set_comm _ _ h1]
      rw [gen vs hv, List.set_set]
/-- σ' is σ but at the slots sl -/
abbrev But (sl : List Nat) (σ σ' : L2.St) : Prop := ∀ vs : List Nat, (∀ i ∈ sl, i ∈ vs) → wipe σ' vs = wipe σ vs
structure DG (K : PySem.W.Frag) (sl : List Nat) (g : TG) (r : RG) : Prop where
  mono : ∀ d η (Q Q' : Env → Prop), (∀ η', Q η' → Q' η') → r d η Q → r d η Q'
  run : ∀ (B : Base) (Z : Zs) (H : Hp) (σ : L2.St) (η : Env) (τ : List (V × En)) (v : V) (d : Dt) (P : L2.St → Hp → Prop), Ok B K Z H σ η ((v, .val d) :: τ) → r d η (fun η' => ∀ Z' H' σ', But sl σ σ' → Ok B K Z' H' σ' η' τ → P σ' H') → g v σ H P
abbrev RGs := List Dt → Env → (Env → Prop) → Prop
structure DGs (K : PySem.W.Frag) (sl : List Nat) (g : TGs) (r : RGs) : Prop where
  mono : ∀ d η (Q Q' : Env → Prop), (∀ η', Q η' → Q' η') → r d η Q → r d η Q'
  run : ∀ (B : Base) (Z : Zs) (H : Hp) (σ : L2.St) (η : Env) (τ : List (V × En)) (vs : List V) (ds : List Dt) (P : L2.St → Hp → Prop), Ok B K Z H σ η τ → RpAll K Z H vs ds → r ds η (fun η' => ∀ Z' H' σ', But sl σ σ' → Ok B K Z' H' σ' η' τ → P σ' H') → g vs σ H P
def rgName (i : Nat) : RG := fun d η Q => i < η.length ∧ Q (η.set i (some (.val d)))
theorem dg_name (i : Nat) : DG K [i] (gName i) (rgName i) := by
  refine ⟨fun d η Q Q' hq ⟨h, q⟩ => ⟨h, hq _ q⟩, ?_⟩
  intro B Z H σ η τ v d P o ⟨h, q⟩
  exact q Z H _ (fun vs hi => wipe_set (hi i (by simp))) (o.store h)
def rgNil : RGs := fun ds η Q => ds = [] ∧ Q η
def rgCons (r : RG) (u : RGs) : RGs := fun ds η Q => ∃ d e, ds = d :: e ∧ r d η fun η' => u e η' Q
theorem dgs_nil : DGs K [] gNil rgNil := by
  refine ⟨fun d η Q Q' hq ⟨h, q⟩ => ⟨h, hq _ q⟩, ?_⟩
  intro B Z H σ η τ vs ds P o r ⟨h, q⟩
  subst h
  cases r
  exact ⟨rfl, q Z H σ (fun _ _ => rfl) o⟩
theorem dgs_cons {g : TG} {gs : TGs} {r : RG} {u : RGs} {sl sl' : List Nat} (h1 : DG K sl g r) (h2 : DGs K sl' gs u) : DGs K (sl ++ sl') (gCons g gs) (rgCons r u) := by
  constructor
  · rintro ds η Q Q' hq ⟨d, e, h, q⟩
    exact ⟨d, e, h, h1.mono _ _ _ _ (fun η' q => h2.mono _ _ _ _ hq q) q⟩
  intro B Z H σ η τ vs ds P o r ⟨d, e, h, q⟩
  subst h
  cases r with
  | @cons v ws _ _ r1 r2 =>
    refine ⟨v, ws, rfl, ?_⟩
    -- the rest is held as a tuple that is not there: each by itself
    have hold : ∀ (ws : List V) (e : List Dt) (τ : List (V × En)), RpAll K Z H ws e → Ok B K Z H σ η τ → Ok B K Z H σ η ((ws.zip e).map (fun p => (p.1, En.val p.2)) ++ τ) := by
      intro ws
      induction ws with
      | nil => intro e τ r o; cases r; exact o
      | cons w ws ih =>
        intro e τ r o
        cases r with
        | cons a b => exact (ih _ _ b o).val a
    have o1 := hold ws e τ r2 o
    refine h1.run B Z H σ η _ v d _ (o1.val r1) (h1.mono _ _ _ _ ?_ q)
    intro η' q Z' H' σ' bt o2
    have back : ∀ (ws : List V) (e : List Dt), ws.length = e.length → ∀ (τ : List (V × En)), Ok B K Z' H' σ' η' ((ws.zip e).map (fun p => (p.1, En.val p.2)) ++ τ) → RpAll K Z' H' ws e := by
      intro ws
      induction ws with
      | nil =>
        intro e hl τ o
        cases e with
        | nil => exact .nil
        | cons _ _ => simp at hl
      | cons w ws ih =>
        intro e hl τ o
        cases e with
        | nil => simp at hl
        | cons d e =>
          have o' : Ok B K Z' H' σ' η' ((w, En.val d) :: ((ws.zip e).map (fun p => (p.1, En.val p.2)) ++ τ)) := o
          exact .cons o'.rp (ih e (by simpa using hl) τ o'.drop)
    refine h2.run B Z' H' σ' η' τ ws e P o2.drops (back ws e r2.length τ o2) (h2.mono _ _ _ _ ?_ q)
    intro η2 q Z2 H2 σ2 bt2 o3
    exact q Z2 H2 σ2 (fun vs hi => (bt2 vs fun i h => hi i (List.mem_append_right _ h)).trans (bt vs fun i h => hi i (List.mem_append_left _ h))) o3
def rgTup (n : Nat) (u : RGs) : RG := fun d η Q => ∃ ds, d = .tup ds ∧ ds.length = n ∧ u ds η Q
theorem dg_tup {gs : TGs} {u : RGs} {n : Nat} {sl : List Nat} (h : DGs K sl gs u) : DG K sl (gTup K n gs) (rgTup n u) := by
  refine ⟨fun d η Q Q' hq ⟨ds, e, l, q⟩ => ⟨ds, e, l, h.mono _ _ _ _ hq q⟩, ?_⟩
  rintro B Z H σ η τ v d P o ⟨ds, rfl, l, q⟩
  obtain ⟨a, vs, e1, s, r⟩ := o.rp.see
  exact ⟨a, vs, e1, s, by rw [r.length]; exact l, h.run B Z H σ η τ vs ds P o.drop r q⟩
/-- any target, a value that stays -/
def rAsgG (ra : RE) (r : RG) : RS := fun D η => ra η fun x η1 => ∃ d, frz η1 x = some d ∧ r d η1 D.nx
theorem ds_asgG {ta : TE} {ra : RE} {g : TG} {r : RG} {sl : List Nat} (ha : DE K X ta ra) (hg : DG K sl g r) : DS K X (tAsg ta g) (rAsgG ra r) := by
  constructor
  · intro η D D' hd q
    refine ha.mono _ _ _ ?_ q
    rintro x η1 ⟨d, e, q⟩
    exact ⟨d, e, hg.mono _ _ _ _ hd.nx q⟩
  intro B Z H σ η τ E lk o q
  refine ha.run B Z H σ η τ _ lk o (ha.mono _ _ _ ?_ q)
  rintro x η1 ⟨d, e, q⟩ Z1 H1 v o1
  obtain ⟨Z2, _, o2⟩ := o1.frz e
  exact hg.run B Z2 H1 σ η1 τ v d _ o2 (hg.mono _ _ _ _ (fun η' q Z' H' σ' _ o' => q Z' H' σ' o') q)

/-! ### for -/
def rFor (ri : RI') (rg : RG) (rb : RS) : RS := fun D η => ri η fun ds η1 => ∃ W : Nat → Env → Prop, W 0 η1 ∧
  (∀ i d η', ds[i]? = some d → W i η' → rg d η' fun η2 => rb { D with nx := W (i + 1), ct := W (i + 1), bk := D.nx } η2) ∧ ∀ η', W ds.length η' → D.nx η'
theorem ds_for {wi : TI} {g : TG} {tb : TS} {ri : RI'} {rg : RG} {rb : RS} {sl : List Nat} (hi : DI K X wi ri) (hg : DG K sl g rg) (hb : DS K X tb rb) : DS K X (tFor wi g tb) (rFor ri rg rb) := by
  constructor
  · intro η D D' hd q
    refine hi.mono _ _ _ ?_ q
    rintro ds η1 ⟨W, h0, h1, h2⟩
    exact ⟨W, h0, fun i d η' e w => hg.mono _ _ _ _ (fun η2 q => hb.mono _ { D with nx := W (i + 1), ct := W (i + 1), bk := D.nx } { D' with nx := W (i + 1), ct := W (i + 1), bk := D'.nx } ⟨fun _ h => h, hd.rt, hd.nx, fun _ h => h⟩ q) (h1 i d η' e w), fun η' w => hd.nx _ (h2 η' w)⟩
  intro B Z H σ η τ E lk o q
  refine hi.run B Z H σ η τ _ lk o (hi.mono _ _ _ ?_ q)
  rintro ds η1 ⟨W, h0, h1, h2⟩ Z1 H1 p J o1 it
  refine ⟨fun i m σ' H' => m = ds.length - i ∧ i ≤ ds.length ∧ ∃ Z' η', Ok B K Z' H' σ' η' (p :: τ) ∧ W i η', ⟨ds.length, by simp, Nat.zero_le _, Z1, η1, o1, h0⟩, ?_⟩
  rintro i m σ' H' ⟨rfl, hle, Z', η', o', w⟩
  by_cases hlt : i < ds.length
  · refine .inr ⟨it.go Z' H' σ' η' τ i o' hlt, fun σ'' H'' => ∃ Z'' η'', Ok B K Z'' H'' σ'' η'' (p :: τ) ∧ W (i + 1) η'', ?_, ?_⟩
    · rintro σ'' H'' n
      exact ⟨ds.length - (i + 1), by omega, rfl, hlt, n⟩
    · intro x H'' y
      obtain ⟨Z2, d, hd, o2⟩ := it.yld Z' H' σ' η' τ i x H'' o' y hlt
      refine hg.run B Z2 H'' σ' η' (p :: τ) x d _ o2 (hg.mono _ _ _ _ ?_ (h1 i d η' hd w))
      intro η2 q Z3 H3 σ3 _ o3
      refine hb.run B Z3 H3 σ3 η2 (p :: τ) _ lk.cons o3 (hb.mono _ _ _ ⟨?_, ?_, ?_, ?_⟩ q)
      · intro η4 w4 Z4 H4 σ4 o4
        exact ⟨Z4, η4, o4, w4⟩
      · intro x4 η4 w4 Z4 H4 σ4 v4 o4
        exact w4 Z4 H4 σ4 v4 o4.dropτ
      · intro η4 w4 Z4 H4 σ4 o4
        exact w4 Z4 H4 σ4 o4.drop
      · intro η4 w4 Z4 H4 σ4 o4
        exact ⟨Z4, η4, o4, w4⟩
  · have e : i = ds.length := by omega
    subst e
    exact .inl ⟨it.stop Z' H' σ' η' τ _ o' (Nat.le_refl _), h2 η' w Z' H' σ' o'.drop⟩

/-! ### while -/
def rWhile (rc : RT) (rb : RS) : RS := fun D η => ∃ W : Nat → Env → Prop, (∃ m, W m η) ∧ ∀ m η, W m η → rc η fun b η1 =>
  if b = true then ∃ N : Env → Prop, (∀ η', N η' → ∃ m', m' < m ∧ W m' η') ∧ rb { D with nx := N, ct := N, bk := D.nx } η1 else D.nx η1
theorem ds_while {c : TT} {tb : TS} {rc : RT} {rb : RS} (hc : DT K X c rc) (hb : DS K X tb rb) : DS K X (tWhile c tb) (rWhile rc rb) := by
  constructor
  · rintro η D D' hd ⟨W, h0, h1⟩
    refine ⟨W, h0, fun m η w => hc.mono _ _ _ ?_ (h1 m η w)⟩
    rintro b η1 q
    cases b with
    | true =>
      obtain ⟨N, hn, q⟩ := q
      exact ⟨N, hn, hb.mono _ { D with nx := N, ct := N, bk := D.nx } { D' with nx := N, ct := N, bk := D'.nx } ⟨fun _ h => h, hd.rt, hd.nx, fun _ h => h⟩ q⟩
    | false => exact hd.nx _ q
  rintro B Z H σ η τ E lk o ⟨W, ⟨m0, h0⟩, h1⟩
  refine ⟨fun m σ' H' => ∃ Z' η', Ok B K Z' H' σ' η' τ ∧ W m η', ⟨m0, Z, η, o, h0⟩, ?_⟩
  rintro m σ' H' ⟨Z', η', o', w⟩
  refine hc.run B Z' H' σ' η' τ _ lk o' (hc.mono _ _ _ ?_ (h1 m η' w))
  rintro b η1 q Z1 H1 o1
  cases b with
  | true =>
    obtain ⟨N, hn, q⟩ := q
    refine ⟨fun σ'' H'' => ∃ Z'' η'', Ok B K Z'' H'' σ'' η'' τ ∧ N η'', ?_, ?_⟩
    · rintro σ'' H'' ⟨Z'', η'', o'', n⟩
      obtain ⟨m', hm, w'⟩ := hn _ n
      exact ⟨m', hm, Z'', η'', o'', w'⟩
    · refine hb.run B Z1 H1 σ' η1 τ _ lk o1 (hb.mono _ _ _ ⟨?_, ?_, ?_, ?_⟩ q)
      · intro η4 w4 Z4 H4 σ4 o4
        exact ⟨Z4, η4, o4, w4⟩
      · intro x4 η4 w4 Z4 H4 σ4 v4 o4
        exact w4 Z4 H4 σ4 v4 o4
      · intro η4 w4 Z4 H4 σ4 o4
        exact w4 Z4 H4 σ4 o4
      · intro η4 w4 Z4 H4 σ4 o4
        exact ⟨Z4, η4, o4, w4⟩
  | false => exact q Z1 H1 σ' o1
end
end D

set_option Elab.async false
set_option linter.all false
set_option maxRecDepth 100000
set_option maxHeartbeats 4000000
namespace D
open PySem PySem.Spec PyProof.Rows L2
section
variable {K : PySem.W.Frag} {X : Wsh} {B : Base} {Z : Zs} {H : Hp} {σ : L2.St} {η : Env} {τ : List (V × En)}
/-! ### comprehensions: the block's own slots are empty ahead of each turn -/
def wipeE (η : Env) : List Nat → Env
  | [] => η
  | v :: vs => (wipeE η vs).set v none
/-- the block's slots as they were -/
def unw (η η' : Env) : List Nat → Env
  | [] => η'
  | v :: vs => unw η (η'.set v (((wipeE η vs)[v]?).getD none)) vs
theorem pack_reslot : ∀ {σ : L2.St} {η : Env} {i : Nat} (o : Option V), η[i]? = some none → pack (σ.set i o) η = pack σ η
  | [], _, _, _, _ => rfl
  | x :: σ, [], 0, o, h => by simp at h
  | x :: σ, [], i + 1, o, h => by simp at h
  | x :: σ, q :: η, 0, o, h => by
    simp at h; subst h
    cases o <;> cases x <;> rfl
  | x :: σ, q :: η, i + 1, o, h => by
    have := pack_reslot (σ := σ) (η := η) (i := i) o (by simpa using h)
    cases x <;> cases q <;> simp [pack, this]
theorem slots_reslot : ∀ {σ : L2.St} {η : Env} {i : Nat} (o : Option V), η[i]? = some none → Slots σ η → Slots (σ.set i o) η
  | [], [], _, _, _, h => h
  | [], _ :: _, _, _, _, h => h.elim
  | _ :: _, [], _, _, _, h => h.elim
  | x :: σ, q :: η, 0, o, h, s => by
    simp at h; subst h
    exact ⟨by simp, s.2⟩
  | x :: σ, q :: η, i + 1, o, h, s => ⟨s.1, slots_reslot o (by simpa using h) s.2⟩
theorem Ok.reslot {i : Nat} (o : Option V) (h : Ok B K Z H σ η τ) (hi : η[i]? = some none) : Ok B K Z H (σ.set i o) η τ := by
  obtain ⟨F, h⟩ := h
  exact ⟨F, slots_reslot o hi h.slots, by rw [pack_reslot o hi]; exact h.sep, h.live, h.base, h.there, h.grow, h.old, h.zl⟩
theorem Ok.len (h : Ok B K Z H σ η τ) : σ.length = η.length := by
  obtain ⟨F, h⟩ := h
  exact h.slots.length
/-- one slot is emptied; and filled again -/
theorem Ok.wipe1 (h : Ok B K Z H σ η τ) (v : Nat) : ∃ δ : List (V × En), Ok B K Z H (σ.set v none) (η.set v none) (δ ++ τ) ∧
    ∀ (Z' : Zs) (H' : Hp) (η' : Env) (τ' : List (V × En)), Ok B K Z' H' (σ.set v none) η' (δ ++ τ') → Ok B K Z' H' σ (η'.set v ((η[v]?).getD none)) τ' := by
  by_cases hv : v < η.length
  · cases e : η[v]? with
    | none => exact absurd (List.getElem?_eq_none_iff.mp e) (by omega)
    | some o =>
      cases o with
      | none =>
        refine ⟨[], (h.forget v).reslot none (by rw [List.getElem?_set_self hv]), fun Z' H' η' τ' h' => ?_⟩
        have hl : v < η'.length := by have := h'.len; rw [List.length_set, h.len] at this; omega
        have h2 := (h'.forget v).reslot (((σ[v]?).getD none)) (by rw [List.getElem?_set_self hl])
        have e2 : (σ.set v none).set v ((σ[v]?).getD none) = σ := by
          rw [List.set_set]
          apply List.ext_getElem?
          intro j
          by_cases hj : j = v
          · subst hj
            have : j < σ.length := by rw [h.len]; exact hv
            rw [List.getElem?_set_self this, List.getElem?_eq_getElem this]
            rfl
          · rw [List.getElem?_set_ne (Ne.symm hj)]
        rw [e2] at h2
        exact h2
      | some en =>
        obtain ⟨w, hw, o'⟩ := h.take e
        refine ⟨[(w, en)], o'.reslot none (by simp [hv]), fun Z' H' η' τ' h' => ?_⟩
        have hl : v < η'.length := by have := h'.len; rw [List.length_set, h.len] at this; omega
        have h2 := Ok.store h' hl
        rw [List.set_set, set_self hw] at h2
        exact h2
  · have hl := h.len
    have e1 : σ.set v none = σ := List.set_eq_of_length_le (by omega)
    have e2 : η.set v none = η := List.set_eq_of_length_le (by omega)
    rw [e1, e2]
    refine ⟨[], h, fun Z' H' η' τ' h' => ?_⟩
    have hl' := h'.len
    rw [List.set_eq_of_length_le (by omega)]
    exact h'
theorem Ok.wipe (h : Ok B K Z H σ η τ) : ∀ vs : List Nat, ∃ δ : List (V × En), Ok B K Z H (L2.wipe σ vs) (wipeE η vs) (δ ++ τ) ∧
    ∀ (Z' : Zs) (H' : Hp) (η' : Env) (τ' : List (V × En)), Ok B K Z' H' (L2.wipe σ vs) η' (δ ++ τ') → Ok B K Z' H' σ (unw η η' vs) τ' := by
  intro vs
  induction vs with
  | nil => exact ⟨[], h, fun Z' H' η' τ' h' => h'⟩
  | cons v vs ih =>
    obtain ⟨δ, o1, back⟩ := ih
    obtain ⟨δ1, o2, back1⟩ := o1.wipe1 v
    refine ⟨δ1 ++ δ, by rw [List.append_assoc]; exact o2, fun Z' H' η' τ' h' => ?_⟩
    rw [List.append_assoc] at h'
    exact back Z' H' _ τ' (back1 Z' H' η' (δ ++ τ') h')
/-- forgetting the block's slots -/
theorem Ok.wipeF (h : Ok B K Z H σ η τ) : ∀ vs : List Nat, Ok B K Z H (L2.wipe σ vs) (wipeE η vs) τ := by
  intro vs
  obtain ⟨δ, o, _⟩ := h.wipe vs
  exact o.drops
def rYes : RT := fun η Q => Q true η
theorem dt_yes : DT K X tYes rYes := ⟨fun η Q Q' hq q => hq _ _ q, fun B Z H σ η τ P lk o q => q Z H o⟩
def rLc (ri : RI') (rg : RG) (rt : RT) (re : RE) (vs : List Nat) : RE := fun η Q => ri η fun ds η1 => ds.length ≤ 100000 ∧ ∃ W : Nat → List Dt → Env → Prop, W 0 [] (wipeE η1 vs) ∧
  (∀ i d acc η', ds[i]? = some d → acc.length ≤ i → W i acc η' → rg d η' fun η2 => rt η2 fun b η3 => if b = true then re η3 fun x η4 => ∃ e, frz η4 x = some e ∧ W (i + 1) (acc ++ [e]) (wipeE η4 vs) else W (i + 1) acc (wipeE η3 vs)) ∧
  ∀ acc η', acc.length ≤ ds.length → W ds.length acc η' → Q (.nw (.lst acc)) (unw η1 η' vs)
theorem de_lc {wi : TI} {g : TG} {tt : TT} {te : TE} {vs sl : List Nat} {ri : RI'} {rg : RG} {rt : RT} {re : RE} (hi : DI K X wi ri) (hg : DG K sl g rg) (ht : DT K W0 tt rt) (he : DE K W0 te re) (hs : ∀ i ∈ sl, i ∈ vs) :
    DE K X (tLc wi g tt te vs) (rLc ri rg rt re vs) := by
  constructor
  · intro η Q Q' hq q
    refine hi.mono _ _ _ ?_ q
    rintro ds η1 ⟨hl, W, h0, h1, h2⟩
    exact ⟨hl, W, h0, h1, fun acc η' l w => hq _ _ (h2 acc η' l w)⟩
  intro B Z H σ η τ P lk o q
  refine hi.run B Z H σ η τ _ lk o (hi.mono _ _ _ ?_ q)
  rintro ds η1 ⟨hl, W, h0, h1, h2⟩ Z1 H1 p J o1 it D hD
  obtain ⟨δ, o2, back⟩ := o1.drop.wipe vs
  obtain ⟨δ', o2', back'⟩ := o1.wipe vs
  have o3 : Ok B K Z1 (upd H1 D (.lst [])) (wipe σ vs) (wipeE η1 vs) ((.ref D, .mu none (.dt (.lst []))) :: (δ' ++ p :: τ)) := o2'.new hD ⟨[], upd_same, .nil⟩
  refine ⟨fun i m H' => m = ds.length - i ∧ i ≤ ds.length ∧ ∃ Z' η' acc, Ok B K Z' H' (wipe σ vs) η' ((.ref D, .mu none (.dt (.lst acc))) :: (δ' ++ p :: τ)) ∧ acc.length ≤ i ∧ W i acc η',
    ⟨ds.length, by simp, Nat.zero_le _, Z1, _, [], o3, Nat.le_refl _, h0⟩, ?_⟩
  rintro i m H' ⟨rfl, hle, Z', η', acc, o', la, w⟩
  have op : Ok B K Z' H' (wipe σ vs) η' (p :: (.ref D, .mu none (.dt (.lst acc))) :: (δ' ++ τ)) := o'.perm ((List.perm_middle.cons _).trans (List.Perm.swap _ _ _))
  by_cases hlt : i < ds.length
  · refine .inr ⟨it.go Z' H' _ η' _ i op hlt, fun H'' => ∃ Z'' η'' acc', Ok B K Z'' H'' (wipe σ vs) η'' ((.ref D, .mu none (.dt (.lst acc'))) :: (δ' ++ p :: τ)) ∧ acc'.length ≤ i + 1 ∧ W (i + 1) acc' η'', ?_, ?_⟩
    · rintro H'' n
      exact ⟨ds.length - (i + 1), by omega, rfl, hlt, n⟩
    · intro x H'' y
      obtain ⟨Z2, d, hd, o4⟩ := it.yld Z' H' _ η' _ i x H'' op y hlt
      refine hg.run B Z2 H'' _ η' _ x d _ o4 (hg.mono _ _ _ _ ?_ (h1 i d acc η' hd la w))
      intro η2 q Z3 H3 σ3 bt o5
      have bt' : L2.wipe σ3 vs = L2.wipe σ vs := (bt vs hs).trans (by
        have idem : ∀ (us : List Nat), (∀ i ∈ us, i ∈ vs) → L2.wipe (L2.wipe σ us) vs = L2.wipe σ vs := by
          intro us
          induction us with
          | nil => intro _; rfl
          | cons u us ih =>
            intro hu
            show L2.wipe ((L2.wipe σ us).set u none) vs = L2.wipe σ vs
            rw [wipe_set (hu u (by simp))]
            exact ih fun i hi => hu i (by simp [hi])
        exact idem vs fun _ h => h)
      refine ⟨bt', ?_⟩
      refine ht.run B Z3 H3 σ3 η2 _ _ .none o5 (ht.mono _ _ _ ?_ q)
      intro b η3 q Z4 H4 o6
      have fwd : ∀ {Z' : Zs} {H' : Hp} {η' : Env} {a : List Dt}, Ok B K Z' H' σ3 η' (p :: (.ref D, .mu none (.dt (.lst a))) :: (δ' ++ τ)) → Ok B K Z' H' (L2.wipe σ vs) (wipeE η' vs) ((.ref D, .mu none (.dt (.lst a))) :: (δ' ++ p :: τ)) := by
        intro Z' H' η' a o
        have := o.wipeF vs
        rw [bt'] at this
        exact this.perm ((List.Perm.swap _ _ _).trans (List.perm_middle.symm.cons _))
      cases b with
      | false => exact ⟨Z4, _, acc, fwd o6, by omega, q⟩
      | true =>
        refine he.run B Z4 H4 σ3 η3 _ _ .none o6 (he.mono _ _ _ ?_ q)
        rintro x5 η4 ⟨e, hfe, w'⟩ Z5 H5 y5 o7
        obtain ⟨Z6, z6, o8⟩ := o7.frz hfe
        have o9 : Ok B K Z6 H5 σ3 η4 ((.ref D, .mu none (.dt (.lst acc))) :: (y5, .val e) :: p :: (δ' ++ τ)) := o8.perm (((List.Perm.swap _ _ _).cons _).trans (List.Perm.swap _ _ _))
        obtain ⟨a, ea, nz, vs', hH, r⟩ := o9.notZ
        cases ea
        have hlen : vs'.length < sizeLine := by rw [r.length]; exact szl (by omega)
        have o10 := o9.write (o := .lst (vs' ++ [y5])) (d' := .lst (acc ++ [e])) ⟨_, upd_same, (r.append (.cons o8.rp .nil)).write nz⟩
        have o11 := (o10.perm (List.Perm.swap _ _ _)).drop
        exact ⟨vs', hH, hlen, Z6, _, acc ++ [e], fwd (o11.perm (List.Perm.swap _ _ _)), by simp; omega, w'⟩
  · have e : i = ds.length := by omega
    subst e
    refine .inl ⟨it.stop Z' H' _ η' _ _ op (Nat.le_refl _), ?_⟩
    have o5 : Ok B K Z' H' (L2.wipe σ vs) η' (δ' ++ p :: (.ref D, .mu none (.dt (.lst acc))) :: τ) := by
      refine o'.perm ?_
      have h1 : ((V.ref D, En.mu none (.dt (.lst acc))) :: (δ' ++ p :: τ)) = ((V.ref D, En.mu none (.dt (.lst acc))) :: (δ' ++ [p])) ++ τ := by simp
      have h2 : (δ' ++ p :: (V.ref D, En.mu none (.dt (.lst acc))) :: τ) = (δ' ++ [p]) ++ (V.ref D, En.mu none (.dt (.lst acc))) :: τ := by simp
      rw [h1, h2]
      exact List.perm_middle.symm
    have o6 := back' Z' H' η' _ o5
    exact h2 acc η' la w Z' H' _ ⟨trivial, o6.drop⟩
end
end D

set_option Elab.async false
set_option linter.all false
set_option maxRecDepth 100000
set_option maxHeartbeats 4000000
namespace D
open PySem PySem.Spec PyProof.Rows L2

/-! ### how arguments are handed in: by value, borrowed, to be written -/
inductive Md where
  | v | b | p
def ent (j : Nat) : Md → Ct → En
  | .v, .dt d => .val d
  | .b, .dt d => .bor d
  | _, c => .mu (some j) c
def ents : Nat → List Md → List Ct → List En
  | j, m :: ms, c :: cs => ent j m c :: ents (j + 1) ms cs
  | _, _, _ => []
/-- the arguments as the callee finds them: F what it may write of, G all that any of them may write of -/
def ArgsOk (K : PySem.W.Frag) (Z : Zs) (H : Hp) (G : List Addr) : List V → List Md → List Ct → List Addr → Prop
  | [], [], [], F => F = []
  | v :: vs, .v :: ms, .dt d :: cs, F => Rp K Z H v d ∧ ArgsOk K Z H G vs ms cs F
  | v :: vs, .b :: ms, .dt d :: cs, F => (BRp K Z H v d ∨ ∃ a, v = .ref a ∧ (∃ o, H a = some o) ∧ a ∉ G ∧ BorAt K Z H a d) ∧ ArgsOk K Z H G vs ms cs F
  | v :: vs, .p :: ms, c :: cs, F => ∃ F1 F2, COk K Z H v F1 c ∧ ArgsOk K Z H G vs ms cs F2 ∧ (∀ b, b ∈ F1 → b ∉ F2) ∧ F = F1 ++ F2
  | _, _, _, _ => False
theorem ArgsOk.lens {K : PySem.W.Frag} {Z : Zs} {H : Hp} {G : List Addr} : ∀ {vs : List V} {ms : List Md} {cs : List Ct} {F : List Addr}, ArgsOk K Z H G vs ms cs F → vs.length = ms.length ∧ cs.length = ms.length := by
  intro vs
  induction vs with
  | nil =>
    intro ms cs F h
    cases ms with
    | nil => cases cs with
      | nil => exact ⟨rfl, rfl⟩
      | cons _ _ => exact h.elim
    | cons m ms => cases m <;> cases cs <;> exact h.elim
  | cons v vs ih =>
    intro ms cs F h
    cases ms with
    | nil => cases cs <;> exact h.elim
    | cons m ms =>
      cases cs with
      | nil => cases m <;> exact h.elim
      | cons c cs =>
        cases m with
        | v => cases c with
          | dt d => obtain ⟨h1, h2⟩ := ih h.2; exact ⟨by simp [h1], by simp [h2]⟩
          | rs G P => exact h.elim
        | b => cases c with
          | dt d => obtain ⟨h1, h2⟩ := ih h.2; exact ⟨by simp [h1], by simp [h2]⟩
          | rs G P => exact h.elim
        | p =>
          obtain ⟨F1, F2, _, h', _⟩ := h
          obtain ⟨h1, h2⟩ := ih h'
          exact ⟨by simp [h1], by simp [h2]⟩
/-- the callee's own base -/
abbrev inB (H : Hp) (F : List Addr) (Z : Zs) (vs : List V) : Base := ⟨H, F, Z, vs⟩
theorem args_sep {K : PySem.W.Frag} {Z : Zs} {H : Hp} {G : List Addr} {us : List V} : ∀ {vs : List V} {ms : List Md} {cs : List Ct} {F : List Addr} (j : Nat), (∀ k v, vs[k]? = some v → us[j + k]? = some v) → ArgsOk K Z H G vs ms cs F → Sep (inB H G Z us) K Z H (vs.zip (ents j ms cs)) F := by
  intro vs
  induction vs with
  | nil =>
    intro ms cs F j hu h
    cases ms with
    | nil => cases cs with
      | nil => exact h
      | cons _ _ => exact h.elim
    | cons m ms => cases m <;> cases cs <;> exact h.elim
  | cons v vs ih =>
    intro ms cs F j hu h
    have hu0 : us[j]? = some v := by simpa using hu 0 v rfl
    have hu1 : ∀ k v', vs[k]? = some v' → us[j + 1 + k]? = some v' := fun k v' e => by
      have := hu (k + 1) v' (by simpa using e)
      rw [show j + 1 + k = j + (k + 1) by omega]
      exact this
    cases ms with
    | nil => cases cs <;> exact h.elim
    | cons m ms =>
      cases cs with
      | nil => cases m <;> exact h.elim
      | cons c cs =>
        cases m with
        | v => cases c with
          | dt d => exact ⟨[], F, ⟨rfl, h.1⟩, ih (j + 1) hu1 h.2, by simp, rfl⟩
          | rs G P => exact h.elim
        | b => cases c with
          | dt d => exact ⟨[], F, ⟨rfl, h.1⟩, ih (j + 1) hu1 h.2, by simp, rfl⟩
          | rs G P => exact h.elim
        | p =>
          obtain ⟨F1, F2, e1, h', e3, rfl⟩ := h
          refine ⟨F1, F2, ?_, ih (j + 1) hu1 h', e3, rfl⟩
          cases c with
          | dt d => exact ⟨e1, hu0⟩
          | rs G P => exact ⟨e1, hu0⟩
/-- what a written argument is behind the call -/
def pars : Nat → List Md → List V → List Ct → List (V × En)
  | j, .p :: ms, v :: vs, c :: cs => (v, .mu (some j) c) :: pars (j + 1) ms vs cs
  | j, .v :: ms, _ :: vs, cs => pars (j + 1) ms vs cs
  | j, .b :: ms, _ :: vs, cs => pars (j + 1) ms vs cs
  | _, _, _, _ => []
/-- behind the call -/
structure Lv (K : PySem.W.Frag) (ms : List Md) (vs : List V) (H : Hp) (Z : Zs) (F : List Addr) (Z' : Zs) (H' : Hp) (cs : List Ct) (xs : List Vl) (ws : List V) : Prop where
  bs : ∀ b o, H b = some o → b ∉ F → H' b = some o
  there : ∀ b, H b ≠ none → H' b ≠ none
  old : ∀ b, Z b → Z' b
  grow : ∀ b, Z' b → Z b ∨ H b = none
  zl : ∀ b, Z' b → H' b ≠ none
  ali : ∀ σ, Ali σ xs ws
  sep : ∃ F', Sep (inB H F Z vs) K Z' H' (pars 0 ms vs cs ++ tmp xs ws) F' ∧ ∀ b ∈ F', ¬ Z' b ∧ H' b ≠ none ∧ (H b = none ∨ b ∈ F)
/-- a promise by value -/
structure Spc where
  pre : List Ct → Prop
  post : List Ct → Vl → List Ct → Prop
  exc : List Ct → Addr → List (Str × Dt) → List Ct → Prop := fun _ _ _ _ => False
def toSp (K : PySem.W.Frag) (ms : List Md) (S : Spc) : Sp := fun vs H Q E => ∃ (as : List Ct) (Z : Zs) (F : List Addr), ArgsOk K Z H F vs ms as F ∧ (∀ b ∈ F, ¬ Z b ∧ H b ≠ none) ∧ (∀ b, Z b → H b ≠ none) ∧ S.pre as ∧
  (∀ y cs, S.post as y cs → ∀ Z' H' v, Lv K ms vs H Z F Z' H' cs [y] [v] → Q v H') ∧
  (∀ C fs cs, S.exc as C fs cs → ∀ Z' H' d, Lv K ms vs H Z F Z' H' cs [] [] → XdOk K Z' H' d fs → E (.ref C) d H')
theorem toSp_len {K : PySem.W.Frag} {ms : List Md} {S : Spc} {vs : List V} {H : Hp} {Q : VK} {E : XK} (h : toSp K ms S vs H Q E) : vs.length = ms.length := by
  obtain ⟨as, Z, F, h, _⟩ := h
  exact h.lens.1

/-! ### a body -/
def finds (η : Env) (j : Nat) : Option Ct := η.findSome? fun o => match o with
  | some (.mu (some k) c) => if k = j then some c else none
  | _ => none
def csOf (η : Env) : Nat → List Md → Option (List Ct)
  | _, [] => some []
  | j, .p :: ms => match finds η j, csOf η (j + 1) ms with
    | some c, some r => some (c :: r)
    | _, _ => none
  | j, _ :: ms => csOf η (j + 1) ms
def unal (η : Env) : Vl → Option Vl
  | .d x => some (.d x)
  | .nw x => some (.nw x)
  | .sl i => match η[i]? with
    | some (some (.mu none (.dt d))) => some (.nw d)
    | _ => (frz η (.sl i)).map .d
def retD (ms : List Md) (Q : Vl → List Ct → Prop) : Vl → Env → Prop := fun x η => ∃ cs y, csOf η 0 ms = some cs ∧ unal η x = some y ∧ Q y cs
def excD (ms : List Md) (E : Addr → List (Str × Dt) → List Ct → Prop) : Addr → List (Str × Dt) → Env → Prop := fun C fs η => ∃ cs, csOf η 0 ms = some cs ∧ E C fs cs
abbrev bodyD (ms : List Md) (Q : Vl → List Ct → Prop) : EndsD := { nx := fun η => retD ms Q (.d .non) η, rt := retD ms Q }
/-- the slots at the start -/
def startE (n : Nat) (ms : List Md) (as : List Ct) : Env := (ents 0 ms as).map some ++ List.replicate (n - ms.length) none
theorem pack_none (k : Nat) : pack (List.replicate k none) (List.replicate k none) = [] := by
  induction k with
  | zero => rfl
  | succ k ih => exact ih
theorem pack_start : ∀ {vs : List V} {es : List En} (k : Nat), vs.length = es.length → pack (vs.map some ++ List.replicate k none) (es.map some ++ List.replicate k none) = vs.zip es
  | [], [], k, _ => pack_none k
  | v :: vs, e :: es, k, h => by
    have := pack_start (vs := vs) (es := es) k (by simpa using h)
    simp [pack, this]
  | [], _ :: _, _, h => by simp at h
  | _ :: _, [], _, h => by simp at h
theorem slots_start : ∀ {vs : List V} {es : List En} (k : Nat), vs.length = es.length → Slots (vs.map some ++ List.replicate k none) (es.map some ++ List.replicate k none)
  | [], [], k, _ => by
    induction k with
    | zero => trivial
    | succ k ih =>
      rw [List.replicate_succ]
      exact ⟨by simp, by simpa using ih⟩
  | v :: vs, e :: es, k, h => ⟨by simp, slots_start (vs := vs) (es := es) k (by simpa using h)⟩
  | [], _ :: _, _, h => by simp at h
  | _ :: _, [], _, h => by simp at h
theorem ents_length : ∀ {j : Nat} {ms : List Md} {cs : List Ct}, cs.length = ms.length → (ents j ms cs).length = ms.length
  | _, [], [], _ => rfl
  | j, m :: ms, c :: cs, h => by simp [ents, ents_length (j := j + 1) (ms := ms) (cs := cs) (by simpa using h)]
  | _, [], _ :: _, h => by simp at h
  | _, _ :: _, [], h => by simp at h
def parOf (j : Nat) : Option En → Option Ct
  | some (.mu (some k) c) => if k = j then some c else none
  | _ => none
theorem parOf_some {j : Nat} {o : Option En} {c : Ct} (h : parOf j o = some c) : o = some (.mu (some j) c) := by
  unfold parOf at h
  split at h
  · rename_i k c'
    by_cases e : k = j
    · rw [if_pos e] at h
      cases h
      rw [e]
    · rw [if_neg e] at h; cases h
  · cases h
theorem finds_eq (η : Env) (j : Nat) : finds η j = η.findSome? (parOf j) := rfl
theorem finds_some {η : Env} {j : Nat} {c : Ct} (h : finds η j = some c) : ∃ i : Nat, η[i]? = some (some (.mu (some j) c)) := by
  rw [finds_eq] at h
  obtain ⟨o, ho, q⟩ := List.exists_of_findSome?_eq_some h
  obtain ⟨i, hi⟩ := List.mem_iff_getElem?.mp ho
  exact ⟨i, by rw [hi, parOf_some q]⟩
theorem finds_set : ∀ {η : Env} {i j j' : Nat} {c : Ct}, η[i]? = some (some (.mu (some j) c)) → j' ≠ j → finds (η.set i none) j' = finds η j'
  | [], _, _, _, _, h, _ => by simp at h
  | o :: η, 0, j, j', c, h, hj => by
    simp at h
    subst h
    rw [finds_eq, finds_eq]
    show List.findSome? (parOf j') (none :: η) = List.findSome? (parOf j') (some (.mu (some j) c) :: η)
    have e1 : parOf j' (some (.mu (some j) c)) = none := by
      show (if j = j' then some c else none) = none
      rw [if_neg (Ne.symm hj)]
    rw [List.findSome?_cons, List.findSome?_cons, e1]
    rfl
  | o :: η, i + 1, j, j', c, h, hj => by
    have ih := finds_set (η := η) (i := i) (j := j) (j' := j') (c := c) (by simpa using h) hj
    rw [finds_eq, finds_eq] at ih ⊢
    show List.findSome? (parOf j') (o :: η.set i none) = List.findSome? (parOf j') (o :: η)
    rw [List.findSome?_cons, List.findSome?_cons, ih]
theorem csOf_set {η : Env} {i j : Nat} {c : Ct} (h : η[i]? = some (some (.mu (some j) c))) : ∀ (ms : List Md) (j' : Nat), j < j' → csOf (η.set i none) j' ms = csOf η j' ms
  | [], _, _ => rfl
  | .p :: ms, j', hj => by
    show (match finds (η.set i none) j', csOf (η.set i none) (j' + 1) ms with | some c, some r => some (c :: r) | _, _ => none) = (match finds η j', csOf η (j' + 1) ms with | some c, some r => some (c :: r) | _, _ => none)
    rw [finds_set h (by omega), csOf_set h ms (j' + 1) (by omega)]
  | .v :: ms, j', hj => csOf_set h ms (j' + 1) (by omega)
  | .b :: ms, j', hj => csOf_set h ms (j' + 1) (by omega)
section
variable {K : PySem.W.Frag} {B : Base} {Z : Zs} {H : Hp} {σ : L2.St} {η : Env} {τ : List (V × En)}
/-- what was handed in is taken out of the slots -/
theorem Ok.outs : ∀ {ms : List Md} {vs : List V} {cs : List Ct} {j : Nat} {η : Env} {τ : List (V × En)}, Ok B K Z H σ η τ → csOf η j ms = some cs → vs.length = ms.length → (∀ k v, vs[k]? = some v → B.V0[j + k]? = some v) →
    ∃ η', Ok B K Z H σ η' (pars j ms vs cs ++ τ) ∧ ∀ (i : Nat) c, η[i]? = some (some (.mu none c)) → η'[i]? = some (some (.mu none c)) := by
  intro ms
  induction ms with
  | nil =>
    intro vs cs j η τ o hc hl hv
    cases vs with
    | nil => exact ⟨η, o, fun i c h => h⟩
    | cons _ _ => simp at hl
  | cons m ms ih =>
    intro vs cs j η τ o hc hl hv
    cases vs with
    | nil => simp at hl
    | cons v vs =>
      have hv0 : B.V0[j]? = some v := by simpa using hv 0 v rfl
      have hv1 : ∀ k v', vs[k]? = some v' → B.V0[j + 1 + k]? = some v' := fun k v' e => by
        have := hv (k + 1) v' (by simpa using e)
        rw [show j + 1 + k = j + (k + 1) by omega]
        exact this
      cases m with
      | v => exact ih (j := j + 1) o hc (by simpa using hl) hv1
      | b => exact ih (j := j + 1) o hc (by simpa using hl) hv1
      | p =>
        have hc' : (match finds η j, csOf η (j + 1) ms with | some c, some r => some (c :: r) | _, _ => none) = some cs := hc
        cases e1 : finds η j with
        | none => rw [e1] at hc'; cases hc'
        | some c =>
          cases e2 : csOf η (j + 1) ms with
          | none => rw [e1, e2] at hc'; cases hc'
          | some r =>
            rw [e1, e2] at hc'
            cases hc'
            obtain ⟨i, hi⟩ := finds_some e1
            obtain ⟨v', hv', o1⟩ := o.take hi
            obtain ⟨F1, q⟩ := o1.head
            have e3 : B.V0[j]? = some v' := q.2
            rw [hv0] at e3
            cases e3
            rw [← csOf_set hi ms (j + 1) (by omega)] at e2
            obtain ⟨η', o2, k⟩ := ih (j := j + 1) o1 e2 (by simpa using hl) hv1
            refine ⟨η', ?_, fun i' c' h' => k i' c' ?_⟩
            · refine o2.perm ?_
              exact List.perm_middle
            · by_cases ei : i' = i
              · subst ei
                rw [hi] at h'
                cases h'
              · rw [List.getElem?_set_ne (Ne.symm ei)]
                exact h'
/-- what is told behind a body -/
theorem lv_of {ms : List Md} {vs : List V} {F : List Addr} {Z' : Zs} {H' : Hp} {cs : List Ct} {y : List Vl} {ws : List V} {η' : Env} (o : Ok (inB H F Z vs) K Z' H' σ η' (pars 0 ms vs cs ++ tmp y ws)) (ha : ∀ σ, Ali σ y ws) : Lv K ms vs H Z F Z' H' cs y ws := by
  obtain ⟨F', h⟩ := o
  obtain ⟨F1, F2, s1, s2, _, eF⟩ := Sep.append.mp h.sep
  exact ⟨h.base, h.there, h.old, h.grow, h.zl, ha, F2, s2, fun b hb => h.live b (by rw [eF]; exact List.mem_append_right _ hb)⟩
theorem unal_ok {x y : Vl} {v : V} {η : Env} (o : OkV B K Z H σ η τ [x] [v]) (h : unal η x = some y) : (∀ σ, Ali σ [y] [v]) ∧ ∃ Z' : Zs, ∃ η', (∀ b, Z b → Z' b) ∧ Ok B K Z' H σ η' (tmp [y] [v] ++ τ) ∧ ∀ (j : Nat) ms, csOf η' j ms = csOf η j ms := by
  cases x with
  | d x => cases h; exact ⟨fun _ => trivial, Z, η, fun _ z => z, o.2, fun _ _ => rfl⟩
  | nw x => cases h; exact ⟨fun _ => trivial, Z, η, fun _ z => z, o.2, fun _ _ => rfl⟩
  | sl i =>
    unfold unal at h
    simp only at h
    split at h
    · rename_i d e
      cases h
      obtain ⟨w, hw, o'⟩ := o.2.take e
      rw [o.1.1] at hw; cases hw
      refine ⟨fun _ => trivial, Z, η.set i none, fun _ z => z, o', fun j ms => ?_⟩
      have fs : ∀ {η : Env} {i j' : Nat} {c : Ct}, η[i]? = some (some (.mu none c)) → finds (η.set i none) j' = finds η j' := by
        intro η
        induction η with
        | nil => intro i j' c h; simp at h
        | cons o η ih =>
          intro i j' c h
          cases i with
          | zero =>
            simp at h
            subst h
            rfl
          | succ i =>
            have := ih (i := i) (j' := j') (c := c) (by simpa using h)
            rw [finds_eq, finds_eq] at this ⊢
            show List.findSome? (parOf j') (o :: η.set i none) = List.findSome? (parOf j') (o :: η)
            rw [List.findSome?_cons, List.findSome?_cons, this]
      induction ms generalizing j with
      | nil => rfl
      | cons m ms ih =>
        cases m with
        | v => exact ih (j + 1)
        | b => exact ih (j + 1)
        | p =>
          show (match finds (η.set i none) j, csOf (η.set i none) (j + 1) ms with | some c, some r => some (c :: r) | _, _ => none) = (match finds η j, csOf η (j + 1) ms with | some c, some r => some (c :: r) | _, _ => none)
          rw [fs e, ih (j + 1)]
    · cases e : frz η (.sl i) with
      | none => rw [e] at h; cases h
      | some d =>
        rw [e] at h
        cases h
        obtain ⟨Z', z, o'⟩ := o.frz e
        exact ⟨fun _ => trivial, Z', η, z, o', fun _ _ => rfl⟩
/-- THE BODY: its reading by value, from what was handed in, gives the promise -/
theorem run_body {ms : List Md} {S : Spc} {vs : List V} {N : List Str} {Q : VK} {E : XK} {t : TS} {r : List Ct → RS} (h : toSp K ms S vs H Q E) (hN : ms.length ≤ N.length)
    (hd : ∀ as, DS K ⟨fun cls d _ H => E cls d H, excD ms (S.exc as)⟩ t (r as)) (hr : ∀ as, S.pre as → as.length = ms.length → r as (bodyD ms (S.post as)) (startE N.length ms as)) :
    t { nx := fun _ H' => Q .non H', rt := Q } (start N vs) H := by
  obtain ⟨as, Z, F, ha, hF, hZ, hp, hq, he⟩ := h
  obtain ⟨l1, l2⟩ := ha.lens
  have hs := args_sep (us := vs) 0 (fun k v e => by simpa using e) ha
  have l3 : vs.length = (ents 0 ms as).length := by rw [ents_length l2, l1]
  have o : Ok (inB H F Z vs) K Z H (start N vs) (startE N.length ms as) [] := by
    refine ⟨F, ?_, ?_, fun b hb => ⟨(hF b hb).1, (hF b hb).2, .inr hb⟩, fun b o e _ => e, fun b n => n, fun b z => .inl z, fun b z => z, hZ⟩
    · show Slots (vs.map some ++ List.replicate (N.length - vs.length) none) ((ents 0 ms as).map some ++ List.replicate (N.length - ms.length) none)
      rw [l1]
      exact slots_start _ l3
    · rw [List.append_nil]
      show Sep _ K Z H (pack (vs.map some ++ List.replicate (N.length - vs.length) none) ((ents 0 ms as).map some ++ List.replicate (N.length - ms.length) none)) F
      rw [l1, pack_start _ l3]
      exact hs
  have fin : ∀ (x : Vl) (η : Env) (Z' : Zs) (H' : Hp) (σ' : L2.St) (v : V), retD ms (S.post as) x η → OkV (inB H F Z vs) K Z' H' σ' η [] [x] [v] → Q v H' := by
    rintro x η Z' H' σ' v ⟨cs, y, e1, e2, e3⟩ o'
    obtain ⟨al, Z2, η2, z2, o2, k2⟩ := unal_ok o' e2
    rw [← k2] at e1
    obtain ⟨η3, o3, _⟩ := o2.outs (vs := vs) e1 l1 (fun k v e => by simpa using e)
    have o4 : Ok (inB H F Z vs) K Z2 H' σ' η3 (pars 0 ms vs cs ++ tmp [y] [v]) := by simpa using o3
    exact hq y cs e3 Z2 H' v (lv_of o4 al)
  refine (hd as).run (inB H F Z vs) Z H (start N vs) _ [] _ ?_ o ((hd as).mono _ _ _ ⟨?_, ?_, ?_, ?_⟩ (hr as hp l2))
  · rintro C fs η Z' H' σ' d ⟨cs, e1, e2⟩ o' x
    obtain ⟨η3, o3, _⟩ := o'.outs (vs := vs) e1 l1 (fun k v e => by simpa using e)
    have o4 : Ok (inB H F Z vs) K Z' H' σ' η3 (pars 0 ms vs cs ++ tmp [] []) := o3
    exact he C fs cs e2 Z' H' d (lv_of o4 fun _ => trivial) x
  · intro η w Z' H' σ' o'
    exact fin _ η Z' H' σ' .non w (.d o' .non)
  · intro x η w Z' H' σ' v o'
    exact fin x η Z' H' σ' v w o'
  · intro η w; exact w.elim
  · intro η w; exact w.elim
end
end D

set_option Elab.async false
set_option linter.all false
set_option maxRecDepth 100000
set_option maxHeartbeats 4000000
namespace D
open PySem PySem.Spec PyProof.Rows L2
theorem pm3 {α : Type} {a b c : List α} : (a ++ (b ++ c)).Perm (b ++ (a ++ c)) := by
  rw [← List.append_assoc, ← List.append_assoc]
  exact List.Perm.append_right _ List.perm_append_comm
def flagAt (η : Env) (i : Nat) : Option Nat := match η[i]? with
  | some (some (.mu p _)) => p
  | _ => none
def remP : List Md → List Vl → Env → Env
  | .p :: ms, .sl i :: xs, η => remP ms xs (η.set i none)
  | .p :: ms, _ :: xs, η => remP ms xs η
  | .v :: ms, _ :: xs, η => remP ms xs η
  | .b :: ms, _ :: xs, η => remP ms xs η
  | _, _, η => η
def flagsP : List Md → List Vl → Env → List (Option Nat)
  | .p :: ms, .sl i :: xs, η => flagAt η i :: flagsP ms xs (η.set i none)
  | .p :: ms, _ :: xs, η => none :: flagsP ms xs η
  | .v :: ms, _ :: xs, η => flagsP ms xs η
  | .b :: ms, _ :: xs, η => flagsP ms xs η
  | _, _, _ => []
def conP : List Md → List Vl → Env → Option (List Ct)
  | .p :: ms, .sl i :: xs, η => match η[i]? with
    | some (some (.mu _ c)) => (conP ms xs (η.set i none)).map (c :: ·)
    | _ => none
  | .p :: ms, .nw d :: xs, η => (conP ms xs η).map (.dt d :: ·)
  | .p :: _, .d _ :: _, _ => none
  | .v :: ms, _ :: xs, η => conP ms xs η
  | .b :: ms, _ :: xs, η => conP ms xs η
  | [], [], _ => some []
  | _, _, _ => none
def entD (η : Env) : List Md → List Vl → List Ct → Option (List Ct)
  | .p :: ms, _ :: xs, c :: cs => (entD η ms xs cs).map (c :: ·)
  | .v :: ms, x :: xs, cs => match frz η x with
    | some d => (entD η ms xs cs).map (.dt d :: ·)
    | none => none
  | .b :: ms, x :: xs, cs => match look η x with
    | some d => (entD η ms xs cs).map (.dt d :: ·)
    | none => none
  | [], [], [] => some []
  | _, _, _ => none
def argsD (ms : List Md) (xs : List Vl) (η : Env) : Option (List Ct) := match conP ms xs η with
  | some cs => entD (remP ms xs η) ms xs cs
  | none => none
/-- the written arguments, with their flags -/
def pl : List Md → List V → List (Option Nat) → List Ct → List (V × En)
  | .p :: ms, v :: vs, f :: fl, c :: cs => (v, .mu f c) :: pl ms vs fl cs
  | .v :: ms, _ :: vs, fl, cs => pl ms vs fl cs
  | .b :: ms, _ :: vs, fl, cs => pl ms vs fl cs
  | _, _, _, _ => []
/-- what else is held of the arguments -/
def tmpR : List Md → List Vl → List V → List (V × En)
  | .p :: ms, _ :: xs, _ :: vs => tmpR ms xs vs
  | .v :: ms, x :: xs, v :: vs => tmp [x] [v] ++ tmpR ms xs vs
  | .b :: ms, x :: xs, v :: vs => tmp [x] [v] ++ tmpR ms xs vs
  | _, _, _ => []
def putP : List Md → List Vl → List (Option Nat) → List Ct → Env → Env
  | .p :: ms, .sl i :: xs, f :: fl, c :: cs, η => putP ms xs fl cs (η.set i (some (.mu f c)))
  | .p :: ms, _ :: xs, _ :: fl, _ :: cs, η => putP ms xs fl cs η
  | .v :: ms, _ :: xs, fl, cs, η => putP ms xs fl cs η
  | .b :: ms, _ :: xs, fl, cs, η => putP ms xs fl cs η
  | _, _, _, _, η => η
/-- the slots behind the call -/
def aft (ms : List Md) (xs : List Vl) (η : Env) (cs : List Ct) : Env := putP ms xs (flagsP ms xs η) cs (remP ms xs η)
section
variable {K : PySem.W.Frag} {B : Base} {Z : Zs} {H : Hp} {σ : L2.St}
theorem tmp_cons {x : Vl} {xs : List Vl} {v : V} {vs : List V} : tmp (x :: xs) (v :: vs) = tmp [x] [v] ++ tmp xs vs := by cases x <;> rfl
/-- 1. what is written is taken out of its slots -/
theorem call_outs : ∀ {ms : List Md} {xs : List Vl} {vs : List V} {η : Env} {cs : List Ct} {τ : List (V × En)}, Ali σ xs vs → conP ms xs η = some cs → Ok B K Z H σ η (tmp xs vs ++ τ) →
    Ok B K Z H σ (remP ms xs η) (pl ms vs (flagsP ms xs η) cs ++ (tmpR ms xs vs ++ τ)) := by
  intro ms
  induction ms with
  | nil =>
    intro xs vs η cs τ ha hc o
    cases xs with
    | nil =>
      cases vs with
      | nil => exact o
      | cons _ _ => exact ha.elim
    | cons _ _ => cases hc
  | cons m ms ih =>
    intro xs vs η cs τ ha hc o
    cases xs with
    | nil => cases m <;> cases hc
    | cons x xs =>
      cases vs with
      | nil => cases x <;> exact ha.elim
      | cons v vs =>
        have ha' : Ali σ xs vs := by cases x <;> first | exact ha.2 | exact ha
        have keep : ∀ (e : List (V × En)), e = tmp [x] [v] → conP ms xs η = some cs → Ok B K Z H σ (remP ms xs η) (pl ms vs (flagsP ms xs η) cs ++ ((tmp [x] [v] ++ tmpR ms xs vs) ++ τ)) := by
          intro e he hc
          have o1 : Ok B K Z H σ η (tmp xs vs ++ (tmp [x] [v] ++ τ)) := by
            refine o.perm ?_
            rw [tmp_cons, ← List.append_assoc]
            exact List.Perm.append_right _ List.perm_append_comm
          refine (ih ha' hc o1).perm (List.Perm.append_left _ ?_)
          rw [← List.append_assoc]
          exact List.Perm.append_right _ List.perm_append_comm
        cases m with
        | v => exact keep _ rfl hc
        | b => exact keep _ rfl hc
        | p =>
          cases x with
          | d y => cases hc
          | nw y =>
            have hc' : (conP ms xs η).map (Ct.dt y :: ·) = some cs := hc
            cases e : conP ms xs η with
            | none => rw [e] at hc'; cases hc'
            | some r =>
              rw [e] at hc'
              cases hc'
              have o1 : Ok B K Z H σ η (tmp xs vs ++ ((v, .mu none (.dt y)) :: τ)) := o.perm List.perm_middle.symm
              refine (ih ha' e o1).perm ?_
              show (pl ms vs (flagsP ms xs η) r ++ (tmpR ms xs vs ++ ((v, .mu none (.dt y)) :: τ))).Perm ((v, .mu none (.dt y)) :: (pl ms vs (flagsP ms xs η) r ++ (tmpR ms xs vs ++ τ)))
              rw [← List.append_assoc, ← List.append_assoc]
              exact List.perm_middle
          | sl i =>
            have hc' : (match η[i]? with | some (some (.mu _ c)) => (conP ms xs (η.set i none)).map (c :: ·) | _ => none) = some cs := hc
            split at hc'
            · rename_i p c hi
              cases e : conP ms xs (η.set i none) with
              | none => rw [e] at hc'; cases hc'
              | some r =>
                rw [e] at hc'
                cases hc'
                obtain ⟨w, hw, o1⟩ := o.take hi
                rw [ha.1] at hw; cases hw
                have o2 : Ok B K Z H σ (η.set i none) (tmp xs vs ++ ((v, .mu p c) :: τ)) := o1.perm List.perm_middle.symm
                refine (ih ha' e o2).perm ?_
                have ef : flagAt η i = p := by unfold flagAt; rw [hi]
                show (pl ms vs (flagsP ms xs (η.set i none)) r ++ (tmpR ms xs vs ++ ((v, .mu p c) :: τ))).Perm ((v, .mu (flagAt η i) c) :: (pl ms vs (flagsP ms xs (η.set i none)) r ++ (tmpR ms xs vs ++ τ)))
                rw [ef, ← List.append_assoc, ← List.append_assoc]
                exact List.perm_middle
            · cases hc'
/-- a thing that may be looked at -/
def BorOk (K : PySem.W.Frag) (Z : Zs) (H : Hp) (G : List Addr) (v : V) (d : Dt) : Prop := BRp K Z H v d ∨ ∃ a, v = .ref a ∧ (∃ o, H a = some o) ∧ a ∉ G ∧ BorAt K Z H a d
/-- what is known of the arguments that are not written -/
def Vb (K : PySem.W.Frag) (Z : Zs) (H : Hp) (G : List Addr) : List Md → List V → List Ct → Prop
  | .p :: ms, _ :: vs, _ :: as => Vb K Z H G ms vs as
  | .v :: ms, v :: vs, .dt d :: as => Rp K Z H v d ∧ Vb K Z H G ms vs as
  | .b :: ms, v :: vs, .dt d :: as => BorOk K Z H G v d ∧ Vb K Z H G ms vs as
  | [], [], [] => True
  | _, _, _ => False
theorem Vb.mono {Z' : Zs} {G : List Addr} (h1 : ∀ b, Z b → Z' b) : ∀ {ms : List Md} {vs : List V} {as : List Ct}, Vb K Z H G ms vs as → Vb K Z' H G ms vs as := by
  intro ms
  induction ms with
  | nil => intro vs as h; cases vs <;> cases as <;> first | trivial | exact h.elim
  | cons m ms ih =>
    intro vs as h
    cases vs with
    | nil => cases m <;> cases as <;> exact h.elim
    | cons v vs =>
      cases as with
      | nil => cases m <;> exact h.elim
      | cons a as =>
        cases m with
        | p => exact ih (vs := vs) (as := as) h
        | v => cases a with
          | dt d => exact ⟨h.1.mono h1 fun _ _ _ e => e, ih h.2⟩
          | rs G P => exact h.elim
        | b => cases a with
          | dt d => exact ⟨h.1.imp (fun r => r.mono h1 fun _ _ _ e => e) fun ⟨a, e1, e2, e3, e4⟩ => ⟨a, e1, e2, e3, e4.mono h1 fun _ _ _ e => e⟩, ih h.2⟩
          | rs G P => exact h.elim
/-- 2. what is handed in by value stays from now on -/
theorem call_vals {η : Env} {κ : List (V × En)} {G : List Addr} (hG : ∀ b ∈ G, B.H0 b = none ∨ b ∈ B.F0) : ∀ {ms : List Md} {xs : List Vl} {vs : List V} {cs as : List Ct} {τ : List (V × En)} {Z : Zs}, Ali σ xs vs → entD η ms xs cs = some as → Ok B K Z H σ η (κ ++ (tmpR ms xs vs ++ τ)) →
    (∀ (Z' : Zs) (i : Nat) (v : V) (p : Option Nat) (d : Dt), (∀ b, Z b → Z' b) → σ[i]? = some (some v) → η[i]? = some (some (.mu p (.dt d))) → ∀ τ', Ok B K Z' H σ η (κ ++ τ') → ∃ a, v = V.ref a ∧ (∃ o, H a = some o) ∧ a ∉ G ∧ BorAt K Z' H a d) →
    ∃ Z' : Zs, (∀ b, Z b → Z' b) ∧ Ok B K Z' H σ η (κ ++ τ) ∧ Vb K Z' H G ms vs as := by
  intro ms
  induction ms with
  | nil =>
    intro xs vs cs as τ Z ha he o hown
    cases xs with
    | nil =>
      cases vs with
      | nil =>
        cases cs with
        | nil => cases he; exact ⟨Z, fun _ z => z, o, trivial⟩
        | cons _ _ => cases he
      | cons _ _ => exact ha.elim
    | cons _ _ => cases cs <;> cases he
  | cons m ms ih =>
    intro xs vs cs as τ Z ha he o hown
    cases xs with
    | nil => cases m <;> cases cs <;> cases he
    | cons x xs =>
      cases vs with
      | nil => cases x <;> exact ha.elim
      | cons v vs =>
        have ha' : Ali σ xs vs := by cases x <;> first | exact ha.2 | exact ha
        have ov : OkV B K Z H σ η (κ ++ (tmpR ms xs vs ++ τ)) [x] [v] → OkV B K Z H σ η (κ ++ (tmpR ms xs vs ++ τ)) [x] [v] := fun h => h
        cases m with
        | p =>
          cases cs with
          | nil => cases he
          | cons c cs =>
            have he' : (entD η ms xs cs).map (c :: ·) = some as := he
            cases e : entD η ms xs cs with
            | none => rw [e] at he'; cases he'
            | some r =>
              rw [e] at he'
              cases he'
              exact ih ha' e o hown
        | v =>
          have he' : (match frz η x with | some d => (entD η ms xs cs).map (.dt d :: ·) | none => none) = some as := he
          cases e1 : frz η x with
          | none => rw [e1] at he'; cases he'
          | some d =>
            cases e : entD η ms xs cs with
            | none => rw [e1, e] at he'; cases he'
            | some r =>
              rw [e1, e] at he'
              cases he'
              have o1 : OkV B K Z H σ η (κ ++ (tmpR ms xs vs ++ τ)) [x] [v] := by
                refine ⟨by cases x <;> first | exact ⟨ha.1, trivial⟩ | trivial, o.perm ?_⟩
                show (κ ++ ((tmp [x] [v] ++ tmpR ms xs vs) ++ τ)).Perm (tmp [x] [v] ++ (κ ++ (tmpR ms xs vs ++ τ)))
                rw [List.append_assoc]
                exact pm3
              obtain ⟨Z1, z1, o2⟩ := o1.frz e1
              have rv := o2.rp
              obtain ⟨Z2, z2, o3, vb⟩ := ih ha' e o2.drop (fun Z' i w p d' z => hown Z' i w p d' fun b h => z b (z1 b h))
              exact ⟨Z2, fun b z => z2 b (z1 b z), o3, rv.mono z2 fun _ _ _ e => e, vb⟩
        | b =>
          have he' : (match look η x with | some d => (entD η ms xs cs).map (.dt d :: ·) | none => none) = some as := he
          cases e1 : look η x with
          | none => rw [e1] at he'; cases he'
          | some d =>
            cases e : entD η ms xs cs with
            | none => rw [e1, e] at he'; cases he'
            | some r =>
              rw [e1, e] at he'
              cases he'
              have o1 : OkV B K Z H σ η (κ ++ (tmpR ms xs vs ++ τ)) [x] [v] := by
                refine ⟨by cases x <;> first | exact ⟨ha.1, trivial⟩ | trivial, o.perm ?_⟩
                show (κ ++ ((tmp [x] [v] ++ tmpR ms xs vs) ++ τ)).Perm (tmp [x] [v] ++ (κ ++ (tmpR ms xs vs ++ τ)))
                rw [List.append_assoc]
                exact pm3
              have fr : ∀ y, x = .d y ∨ x = .nw y → frz η x = some d := by
                rintro y (rfl | rfl) <;> exact e1
              cases x with
              | d y =>
                obtain ⟨Z1, z1, o2⟩ := o1.frz (fr y (.inl rfl))
                obtain ⟨Z2, z2, o3, vb⟩ := ih ha' e o2.drop (fun Z' i w p d' z => hown Z' i w p d' fun b h => z b (z1 b h))
                exact ⟨Z2, fun b z => z2 b (z1 b z), o3, .inl (.inl (o2.rp.mono z2 fun _ _ _ e => e)), vb⟩
              | nw y =>
                obtain ⟨Z1, z1, o2⟩ := o1.frz (fr y (.inr rfl))
                obtain ⟨Z2, z2, o3, vb⟩ := ih ha' e o2.drop (fun Z' i w p d' z => hown Z' i w p d' fun b h => z b (z1 b h))
                exact ⟨Z2, fun b z => z2 b (z1 b z), o3, .inl (.inl (o2.rp.mono z2 fun _ _ _ e => e)), vb⟩
              | sl i =>
                obtain ⟨Z2, z2, o3, vb⟩ := ih ha' e o1.ok hown
                refine ⟨Z2, z2, o3, ?_, vb⟩
                rcases look_sl e1 with ⟨p, q⟩ | q
                · exact .inr (hown Z2 i v p d z2 ha.1 q τ o3)
                · have o4 := o3.dup ha.1 q
                  obtain ⟨F1, _, h⟩ := o4.head
                  rcases h with h | ⟨a, h1, ⟨ob, h2⟩, h3, h4⟩
                  · exact .inl h
                  · refine .inr ⟨a, h1, ?_, fun m => ?_, h4⟩
                    · obtain ⟨F2, o5⟩ := o4
                      exact ⟨ob, o5.base a ob h2 h3⟩
                    · rcases hG a m with z | z
                      · rw [h2] at z; cases z
                      · exact h3 z
/-- 3. the arguments as the callee finds them -/
theorem args_of {G : List Addr} : ∀ {ms : List Md} {xs : List Vl} {vs : List V} {fl : List (Option Nat)} {cs as : List Ct} {F : List Addr} {η : Env}, Vb K Z H G ms vs as → entD η ms xs cs = some as → fl.length = cs.length → Sep B K Z H (pl ms vs fl cs) F → ArgsOk K Z H G vs ms as F := by
  intro ms
  induction ms with
  | nil =>
    intro xs vs fl cs as F η hv he hl hs
    cases vs with
    | nil =>
      cases as with
      | nil => exact hs
      | cons _ _ => exact hv.elim
    | cons _ _ => cases as <;> exact hv.elim
  | cons m ms ih =>
    intro xs vs fl cs as F η hv he hl hs
    cases xs with
    | nil => cases m <;> cases cs <;> cases he
    | cons x xs =>
      cases vs with
      | nil => cases m <;> cases as <;> exact hv.elim
      | cons v vs =>
        cases as with
        | nil => cases m <;> exact hv.elim
        | cons a as =>
          cases m with
          | p =>
            cases cs with
            | nil => cases he
            | cons c cs =>
              cases fl with
              | nil => simp at hl
              | cons f fl =>
                have he' : (entD η ms xs cs).map (c :: ·) = some (a :: as) := he
                cases e : entD η ms xs cs with
                | none => rw [e] at he'; cases he'
                | some r =>
                  rw [e] at he'
                  cases he'
                  obtain ⟨F1, F2, e1, e2, e3, rfl⟩ := hs
                  exact ⟨F1, F2, e1.1, ih hv e (by simpa using hl) e2, e3, rfl⟩
          | v =>
            cases a with
            | rs G P => exact hv.elim
            | dt d =>
              have he' : (match frz η x with | some d => (entD η ms xs cs).map (.dt d :: ·) | none => none) = some (.dt d :: as) := he
              cases e1 : frz η x with
              | none => rw [e1] at he'; cases he'
              | some d' =>
                cases e : entD η ms xs cs with
                | none => rw [e1, e] at he'; cases he'
                | some r =>
                  rw [e1, e] at he'
                  cases he'
                  exact ⟨hv.1, ih hv.2 e hl hs⟩
          | b =>
            cases a with
            | rs G P => exact hv.elim
            | dt d =>
              have he' : (match look η x with | some d => (entD η ms xs cs).map (.dt d :: ·) | none => none) = some (.dt d :: as) := he
              cases e1 : look η x with
              | none => rw [e1] at he'; cases he'
              | some d' =>
                cases e : entD η ms xs cs with
                | none => rw [e1, e] at he'; cases he'
                | some r =>
                  rw [e1, e] at he'
                  cases he'
                  exact ⟨hv.1, ih hv.2 e hl hs⟩
theorem flags_len : ∀ {ms : List Md} {xs : List Vl} {η : Env} {cs : List Ct}, conP ms xs η = some cs → (flagsP ms xs η).length = cs.length := by
  intro ms
  induction ms with
  | nil =>
    intro xs η cs h
    cases xs with
    | nil => cases h; rfl
    | cons _ _ => cases h
  | cons m ms ih =>
    intro xs η cs h
    cases xs with
    | nil => cases m <;> cases h
    | cons x xs =>
      cases m with
      | v => exact ih (xs := xs) (η := η) h
      | b => exact ih (xs := xs) (η := η) h
      | p =>
        cases x with
        | d y => cases h
        | nw y =>
          have h' : (conP ms xs η).map (Ct.dt y :: ·) = some cs := h
          cases e : conP ms xs η with
          | none => rw [e] at h'; cases h'
          | some r =>
            rw [e] at h'
            cases h'
            show (none :: flagsP ms xs η).length = _
            simp [ih e]
        | sl i =>
          have hc' : (match η[i]? with | some (some (.mu _ c)) => (conP ms xs (η.set i none)).map (c :: ·) | _ => none) = some cs := h
          split at hc'
          · cases e : conP ms xs (η.set i none) with
            | none => rw [e] at hc'; cases hc'
            | some r =>
              rw [e] at hc'
              cases hc'
              show (flagAt η i :: flagsP ms xs (η.set i none)).length = _
              simp [ih e]
          · cases hc'
/-- the flags of the written ones, for what they hold behind the call -/
theorem pl_back {H' : Hp} {Z' : Zs} {F : List Addr} {us : List V} (hn : ∀ b, H b = none → B.H0 b = none) {ys : List Vl} {ws : List V} (hy : ∀ σ, Ali σ ys ws) : ∀ {ms : List Md} {vs : List V} {fl : List (Option Nat)} {cs cs' : List Ct} {j : Nat} {F' F1 : List Addr}, fl.length = cs.length →
    Sep B K Z H (pl ms vs fl cs) F1 → Sep (inB H F Z us) K Z' H' (pars j ms vs cs' ++ tmp ys ws) F' → ∃ F2, Sep B K Z' H' (pl ms vs fl cs' ++ tmp ys ws) F2 ∧ ∀ b ∈ F2, b ∈ F' := by
  intro ms
  have base : ∀ {ys : List Vl} {ws : List V} {F' : List Addr}, (∀ σ, Ali σ ys ws) → Sep (inB H F Z us) K Z' H' (tmp ys ws) F' → ∃ F2, Sep B K Z' H' (tmp ys ws) F2 ∧ ∀ b ∈ F2, b ∈ F' := by
    intro ys
    induction ys with
    | nil =>
      intro ws F' hy h
      cases ws with
      | nil => exact ⟨F', h, fun b hb => hb⟩
      | cons _ _ => exact (hy []).elim
    | cons y ys ih =>
      intro ws F' hy h
      cases ws with
      | nil => cases y <;> exact (hy []).elim
      | cons w ws =>
        cases y with
        | sl i =>
          have := (hy []).1
          simp at this
        | d x =>
          obtain ⟨F1, F2, e1, e2, e3, rfl⟩ := h
          obtain ⟨F3, g1, g2⟩ := ih (ws := ws) (fun σ => hy σ) e2
          exact ⟨F1 ++ F3, ⟨F1, F3, e1, g1, fun b hb hb' => e3 b hb (g2 b hb'), rfl⟩, fun b hb => (List.mem_append.mp hb).elim (fun q => List.mem_append_left _ q) fun q => List.mem_append_right _ (g2 b q)⟩
        | nw x =>
          obtain ⟨F1, F2, e1, e2, e3, rfl⟩ := h
          obtain ⟨F3, g1, g2⟩ := ih (ws := ws) (fun σ => hy σ) e2
          exact ⟨F1 ++ F3, ⟨F1, F3, ⟨e1.1, fun a ea => hn a (e1.2 a ea)⟩, g1, fun b hb hb' => e3 b hb (g2 b hb'), rfl⟩, fun b hb => (List.mem_append.mp hb).elim (fun q => List.mem_append_left _ q) fun q => List.mem_append_right _ (g2 b q)⟩
  induction ms with
  | nil =>
    intro vs fl cs cs' j F' F1 hl h1 h2
    exact base hy (by cases vs <;> exact h2)
  | cons m ms ih =>
    intro vs fl cs cs' j F' F1 hl h1 h2
    cases vs with
    | nil =>
      have e0 : pl (m :: ms) [] fl cs' = [] := by cases m <;> rfl
      rw [e0]
      exact base hy (by cases m <;> exact h2)
    | cons v vs =>
      cases m with
      | v => exact ih hl h1 h2
      | b => exact ih hl h1 h2
      | p =>
        cases cs' with
        | nil =>
          obtain ⟨F2, g1, g2⟩ := base hy h2
          refine ⟨F2, ?_, g2⟩
          cases fl <;> exact g1
        | cons c' cs' =>
          cases fl with
          | nil =>
            -- no flags are left: nothing was written
            cases cs with
            | nil =>
              obtain ⟨F3, F4, _, g2, _, rfl⟩ := h2
              have tl : ∀ {ms : List Md} {vs : List V} {cs' : List Ct} {j : Nat} {F' : List Addr}, Sep (inB H F Z us) K Z' H' (pars j ms vs cs' ++ tmp ys ws) F' → ∃ F2, Sep (inB H F Z us) K Z' H' (tmp ys ws) F2 ∧ ∀ b ∈ F2, b ∈ F' := by
                intro ms vs cs' j F' h
                obtain ⟨F5, F6, _, k2, _, rfl⟩ := Sep.append.mp h
                exact ⟨F6, k2, fun b hb => List.mem_append_right _ hb⟩
              obtain ⟨F5, k1, k2⟩ := tl g2
              obtain ⟨F6, k3, k4⟩ := base hy k1
              exact ⟨F6, k3, fun b hb => List.mem_append_right _ (k2 b (k4 b hb))⟩
            | cons _ _ => simp at hl
          | cons f fl =>
            cases cs with
            | nil => simp at hl
            | cons c cs =>
              obtain ⟨F2, F3, e1, e2, e3, rfl⟩ := h1
              obtain ⟨F4, F5, g1, g2, g3, rfl⟩ := h2
              obtain ⟨F6, k1, k2⟩ := ih (by simpa using hl) e2 g2
              exact ⟨F4 ++ F6, ⟨F4, F6, ⟨g1.1, e1.2⟩, k1, fun b hb hb' => g3 b hb (k2 b hb'), rfl⟩, fun b hb => (List.mem_append.mp hb).elim (fun q => List.mem_append_left _ q) fun q => List.mem_append_right _ (k2 b q)⟩
/-- put back into the slots -/
theorem call_put : ∀ {ms : List Md} {xs : List Vl} {vs : List V} {fl : List (Option Nat)} {cs : List Ct} {η : Env} {τ : List (V × En)}, Ali σ xs vs → Ok B K Z H σ η (pl ms vs fl cs ++ τ) → Ok B K Z H σ (putP ms xs fl cs η) τ := by
  intro ms
  induction ms with
  | nil => intro xs vs fl cs η τ ha o; cases vs <;> exact o
  | cons m ms ih =>
    intro xs vs fl cs η τ ha o
    cases xs with
    | nil =>
      have : Ok B K Z H σ η τ := o.drops
      cases m <;> exact this
    | cons x xs =>
      cases vs with
      | nil => cases x <;> exact ha.elim
      | cons v vs =>
        have ha' : Ali σ xs vs := by cases x <;> first | exact ha.2 | exact ha
        cases m with
        | v => cases x <;> exact ih ha' o
        | b => cases x <;> exact ih ha' o
        | p =>
          cases fl with
          | nil =>
            have : Ok B K Z H σ η τ := o.drops
            cases x <;> exact this
          | cons f fl =>
            cases cs with
            | nil =>
              have : Ok B K Z H σ η τ := o.drops
              cases x <;> exact this
            | cons c cs =>
              cases x with
              | d y => exact ih ha' (Ok.drop o)
              | nw y => exact ih ha' (Ok.drop o)
              | sl i =>
                refine ih ha' ?_
                have o' : Ok B K Z H σ η ((v, .mu f c) :: (pl ms vs fl cs ++ τ)) := o
                have hi : i < η.length := by
                  have := o'.len
                  have h2 := (List.getElem?_eq_some_iff.mp ha.1).1
                  omega
                exact (o'.forget i).put hi ha.1
end
/-! ### the call -/
def rCall (ms : List Md) (S : Spc) (w : Addr → List (Str × Dt) → Env → Prop) (ra : RA) : RE := fun η Q => ra η fun xs η1 => ∃ as, argsD ms xs η1 = some as ∧ S.pre as ∧
  (∀ y cs, S.post as y cs → Q y (aft ms xs η1 cs)) ∧ ∀ C fs cs, S.exc as C fs cs → w C fs (aft ms xs η1 cs)
theorem de_callS {K : PySem.W.Frag} {X : Wsh} {ms : List Md} {S : Spc} {t : TA} {ra : RA} {E : L2.St → XK} (hE : ∀ σ C d H, X.W (.ref C) d σ H → E σ (.ref C) d H) (ha : DA K X t ra) : DE K X (tCallS (toSp K ms S) E t) (rCall ms S X.w ra) := by
  constructor
  · intro η Q Q' hq q
    refine ha.mono _ _ _ ?_ q
    rintro xs η1 ⟨as, e, hp, h1, h2⟩
    exact ⟨as, e, hp, fun y cs h => hq _ _ (h1 y cs h), h2⟩
  intro B Z H σ η τ P lk o q
  refine ha.run B Z H σ η τ _ lk o (ha.mono _ _ _ ?_ q)
  rintro xs η1 ⟨as, e, hp, hk1, hk2⟩ Z1 H1 vs o1
  unfold argsD at e
  cases ec : conP ms xs η1 with
  | none => rw [ec] at e; cases e
  | some cs =>
    rw [ec] at e
    have e : entD (remP ms xs η1) ms xs cs = some as := e
    have o2 := call_outs o1.1 ec o1.2
    -- the written ones' addresses
    obtain ⟨F0, h0⟩ := id o2
    have split : ∀ {Z : Zs} {τ' : List (V × En)}, Ok B K Z H1 σ (remP ms xs η1) (pl ms vs (flagsP ms xs η1) cs ++ τ') → ∃ G Gr, Sep B K Z H1 (pl ms vs (flagsP ms xs η1) cs) G ∧ OkF B K Z H1 σ (remP ms xs η1) τ' Gr ∧ (∀ b, b ∈ G → b ∉ Gr) ∧ ∀ b ∈ G, ¬ Z b ∧ H1 b ≠ none ∧ (B.H0 b = none ∨ b ∈ B.F0) := by
      intro Z τ' ⟨F0, h0⟩
      obtain ⟨F1, s1, m1⟩ := h0.sep.perm (l' := pl ms vs (flagsP ms xs η1) cs ++ (pack σ (remP ms xs η1) ++ τ')) pm3
      obtain ⟨G, Gr, sG, sR, dG, eG⟩ := Sep.append.mp s1
      exact ⟨G, Gr, sG, ⟨h0.slots, sR, fun b hb => h0.live b ((m1 b).mp (by rw [eG]; exact List.mem_append_right _ hb)), h0.base, h0.there, h0.grow, h0.old, h0.zl⟩, dG, fun b hb => h0.live b ((m1 b).mp (by rw [eG]; exact List.mem_append_left _ hb))⟩
    obtain ⟨G, Gr, sG, hR, dG, lG⟩ := split o2
    have hown : ∀ (Z' : Zs) (i : Nat) (v : V) (p : Option Nat) (d : Dt), (∀ b, Z1 b → Z' b) → σ[i]? = some (some v) → (remP ms xs η1)[i]? = some (some (En.mu p (.dt d))) → ∀ τ', Ok B K Z' H1 σ (remP ms xs η1) (pl ms vs (flagsP ms xs η1) cs ++ τ') → ∃ a, v = V.ref a ∧ (∃ o, H1 a = some o) ∧ a ∉ G ∧ BorAt K Z' H1 a d := by
      intro Z' i v p d hz hv hi τ' _
      obtain ⟨w, hw, pm⟩ := pack_take hR.slots hi
      rw [hv] at hw; cases hw
      obtain ⟨F2, e2, m2⟩ := hR.sep.mem (p := (v, En.mu p (.dt d))) (List.mem_append_left _ (pm.mem_iff.mpr (by simp)))
      obtain ⟨⟨a, g1, g2, g3⟩, _⟩ := e2
      exact ⟨a, g1, g3.there, fun hm => dG a hm (m2 a (by rw [g2]; simp)), BorAt.mono (.inl g3) hz fun _ _ _ e => e⟩
    obtain ⟨Z2, z2, o3, vb⟩ := call_vals (fun b hb => (lG b hb).2.2) o1.1 e o2 hown
    obtain ⟨G', Gr', sG', hR', dG', lG'⟩ := split o3
    have eG : G' = G := sG'.uniq sG
    subst eG
    have hA := args_of vb e (flags_len ec) sG'
    -- the way back
    have back : ∀ (Z' : Zs) (H' : Hp) (cs' : List Ct) (ys : List Vl) (ws : List V), Lv K ms vs H1 Z2 G' Z' H' cs' ys ws → OkV B K Z' H' σ (aft ms xs η1 cs') τ ys ws := by
      intro Z' H' cs' ys ws lv
      obtain ⟨F', sF, lF⟩ := lv.sep
      have nn : ∀ b, H1 b = none → B.H0 b = none := fun b hb => by
        cases q : B.H0 b with
        | none => rfl
        | some o => exact absurd hb (hR'.there b (by rw [q]; simp))
      obtain ⟨F2, s2, m2⟩ := pl_back (B := B) nn lv.ali (flags_len ec) sG' sF
      have hb' : Bs B H' := fun b o e n => lv.bs b o (hR'.base b o e n) fun hm => by
        rcases (lG' b hm).2.2 with q | q
        · rw [e] at q; cases q
        · exact n q
      have sR' : Sep B K Z' H' (pack σ (remP ms xs η1) ++ τ) Gr' := hR'.sep.mono hR'.base hb' lv.old fun b o hz e => lv.bs b o e fun hm => by
        rcases hz with z | z
        · exact (lG' b hm).1 z
        · exact dG' b hm z
      have dis : ∀ b, b ∈ F2 → b ∉ Gr' := fun b hb hm => by
        rcases (lF b (m2 b hb)).2.2 with q | q
        · exact (hR'.live b hm).2.1 q
        · exact dG' b q hm
      obtain ⟨F3, s3, m3⟩ := Sep.perm (B := B) (K := K) (Z := Z') (H := H') (l := (pl ms vs (flagsP ms xs η1) cs' ++ tmp ys ws) ++ (pack σ (remP ms xs η1) ++ τ)) (l' := pack σ (remP ms xs η1) ++ ((pl ms vs (flagsP ms xs η1) cs' ++ tmp ys ws) ++ τ)) pm3 (F := F2 ++ Gr') (Sep.append.mpr ⟨F2, Gr', s2, sR', dis, rfl⟩)
      have o5 : Ok B K Z' H' σ (remP ms xs η1) (pl ms vs (flagsP ms xs η1) cs' ++ (tmp ys ws ++ τ)) := by
        rw [← List.append_assoc]
        refine ⟨F3, hR'.slots, s3, fun b hb => ?_, hb', fun b n => lv.there b (hR'.there b n), fun b z => ?_, fun b z => lv.old b (hR'.old b z), lv.zl⟩
        · rcases List.mem_append.mp ((m3 b).mp hb) with q | q
          · obtain ⟨l1, l2, l3⟩ := lF b (m2 b q)
            refine ⟨l1, l2, ?_⟩
            rcases l3 with l3 | l3
            · exact .inl (nn b l3)
            · exact (lG' b l3).2.2
          · obtain ⟨l1, l2, l3⟩ := hR'.live b q
            refine ⟨fun z => ?_, lv.there b l2, l3⟩
            rcases lv.grow b z with z | z
            · exact l1 z
            · exact l2 z
        · rcases lv.grow b z with z | z
          · exact hR'.grow b z
          · exact .inr (nn b z)
      exact ⟨lv.ali σ, call_put o1.1 o5⟩
    refine ⟨as, Z2, G', hA, fun b hb => ⟨(lG' b hb).1, (lG' b hb).2.1⟩, hR'.zl, hp, fun y cs' hpost Z' H' v lv => ?_, fun C fs cs' hx Z' H' d lv xd => ?_⟩
    · exact hk1 y cs' hpost Z' H' v (back Z' H' cs' [y] [v] lv)
    · refine hE σ C d H' (lk C fs _ Z' H' σ d (hk2 C fs cs' hx) (back Z' H' cs' [] [] lv).2 xd)
end D

set_option Elab.async false
set_option linter.all false
set_option maxRecDepth 100000
set_option maxHeartbeats 4000000
namespace D
open PySem PySem.Spec PyProof.Rows L2
/-! ### try with several clauses, each with a name or without -/
abbrev Hd := Value × Option Nat × (Addr → Value → Option Addr → TS)
def gone (D : Ends) (i : Nat) : Ends := { nx := fun σ' H' => D.nx (σ'.set i none) H', rt := D.rt, bk := fun σ' H' => D.bk (σ'.set i none) H', ct := fun σ' H' => D.ct (σ'.set i none) H' }
def wMix (K : PySem.W.Frag) (Wout : WX) (D : Ends) : List Hd → WX
  | [] => Wout
  | (c, none, ts) :: r => fun cls d σ H => ∃ b, PySem.W.exmOne K cls c = some b ∧ (b = true → ∀ a, H a = none → ts a cls d D σ H) ∧ (b = false → wMix K Wout D r cls d σ H)
  | (c, some i, ts) :: r => fun cls d σ H => ∃ b, PySem.W.exmOne K cls c = some b ∧ (b = true → ∀ a, H a = none → ts a cls d (gone D i) (σ.set i (some (.ref a))) H) ∧ (b = false → wMix K Wout D r cls d σ H)
inductive MixOk (X : Cx) : List ExceptHandler → List Hd → Prop
  | nil : MixOk X [] []
  | cons {x : Str} {c : Value} {ts : Addr → Value → Option Addr → TS} {b₀ : Stmt} {suite : List Stmt} {np pos' : Pos} {hds : List ExceptHandler} {l : List Hd} (hc : Names X x c)
      (hsu : ∀ (a : Addr) (oe : Obj) (cls : Value) (d : Option Addr) (pn : List (Addr × Obj)), Zc cls d oe → (∃ vs, oe.data = .fields vs) → PSs (X.suite a ((a, oe) :: pn)) (b₀ :: suite) (ts a cls d)) (r : MixOk X hds l) :
      MixOk X (.ExceptHandler (some (.Name x np)) none (b₀ :: suite) pos' :: hds) ((c, none, ts) :: l)
  | consAs {x n : Str} {i : Nat} {c : Value} {ts : Addr → Value → Option Addr → TS} {b₀ : Stmt} {suite : List Stmt} {np pos' : Pos} {hds : List ExceptHandler} {l : List Hd} (hc : Names X x c) (hi : X.N[i]? = some n) (hln : X.env.kindOf n = some .local)
      (hsu : ∀ (a : Addr) (oe : Obj) (cls : Value) (d : Option Addr) (pn : List (Addr × Obj)), Zc cls d oe → (∃ vs, oe.data = .fields vs) → PSs (X.suite a ((a, oe) :: pn)) (b₀ :: suite) (ts a cls d)) (r : MixOk X hds l) :
      MixOk X (.ExceptHandler (some (.Name x np)) (some n) (b₀ :: suite) pos' :: hds) ((c, some i, ts) :: l)
section
variable {X : Cx} {body : List Stmt} {h₀ : ExceptHandler} {hds : List ExceptHandler} {l : List Hd} {pos : Pos} {tb : WX → TS} {Wout : WX}
theorem ps_try_mix (hs : X.stack = X.env :: X.outer) (hf : X.env.frame = some X.env.locals) (hN : X.N.Nodup) (tk : Takes X Wout)
    (hb : ∀ (W : WX) (pn : List (Addr × Obj)) (xe : Value → Shared → Prop), Takes (X.tr pn xe) W → PassesOwn (model X.prog X.w) X.A X.env xe → PSs (X.tr pn xe) body (tb W))
    (hh : MixOk X (h₀ :: hds) l) : PS X (.Try body (h₀ :: hds) [] [] pos) (fun D σ H => tb (wMix X.K Wout D l) D σ H) := by
  refine ⟨fun pins s σ H D I h => ?_⟩
  have ok := I.ok
  have hfr : X.A.frames = some (X.env :: X.outer) := by rw [ok.frames, hs]
  refine wpAny_Try_except ?_
  refine wpAny_mono ((hb (wMix X.K Wout D l) (X.pn ++ pins) (fun e s₁ => wpAny (model X.prog X.w) X.A (noteFrame e X.env) (fun _ s₂ => wpAny (model X.prog X.w) X.A (setFlight e none) (fun _ s₃ =>
    wpAny (model X.prog X.w) X.A (handleBy e X.env (h₀ :: hds)) (SP X pins D) X.xe s₃) X.xe s₂) X.xe s₁) (fun u s' xx => ?_) PassesOwn.looking).run [] s σ H D (I.toTry _) h) (fun f s1 hsp => ?_) (fun e s1 he => he)
  · -- the catch
    obtain ⟨a, B, sI, pins', σ', H', cls, d, rfl, J', nb, up, sky, na, os, ag, w⟩ := xx
    have J : Inv X pins σ' H' sI := J'.ofTry ok
    have sky' : Sky B (X.env :: X.outer) a (Zc cls d) X.env.locals s'.heap := by rw [← hs]; exact sky
    show wpAny (model X.prog X.w) X.A (noteFrame (.ref a) X.env) _ _ _
    refine Sky.land Zc.steady hfr hf sky' fun h3 fl3 up3 => ?_
    have J3 : Inv X pins σ' H' { s' with heap := h3 } := J.landed nb fl3.1 (up.trans up3) os ag
    obtain ⟨oe3, vs3, he3, hz3, hd3⟩ := fl3.there
    have notFr : ∀ {h : Heap} {o : Obj} {vs : Array Value}, h.FunFrames B (X.env :: X.outer) → h.get? a = some o → o.data = .fields vs → a ∉ frs (X.env :: X.outer) := fun {h o vs} ff e dd hm => by
      obtain ⟨_, o', e', hnf⟩ := ff.mem hm
      rw [e] at e'; cases e'
      exact hnf _ dd
    have nfr := notFr fl3.2.2.1 he3 hd3
    have nL : a ≠ X.env.locals := fun z => nfr (List.mem_filterMap.mpr ⟨X.env, List.mem_cons_self, by rw [hf, z]⟩)
    have nF : a ∉ X.fs := fun hm => by
      obtain ⟨e, he, q⟩ := List.mem_filterMap.mp hm
      exact nfr (List.mem_filterMap.mpr ⟨e, List.mem_cons_of_mem _ he, q⟩)
    have S3 := J3.suite he3 hd3 na nL nF
    have go : ∀ {hds' : List ExceptHandler} {l' : List Hd}, MixOk X hds' l' → wMix X.K Wout D l' cls d σ' H' →
        wpAny (model X.prog X.w) X.A (handleBy (.ref a) X.env hds') (SP X pins D) X.xe { s' with heap := h3 } := by
      intro hds' l' hk
      induction hk with
      | nil =>
        intro w
        refine wpAny_handleBy_nil ?_
        obtain ⟨k1, k2, k3, oe, vs, T, oT, ts', he, hz, hd, h1, hr⟩ := id fl3
        unfold PySem.passOn
        refine wpAny_bind (wpAny_field he hd h1 ?_)
        rw [if_neg (show ¬ ((Value.ref T == Value.none) = true) from by simp)]
        have fin : wpAny (model X.prog X.w) X.A (setFlight (.ref a) X.env.frame) (fun _ s4 => wpAny (model X.prog X.w) X.A (throw (.ref a) : Sem Flow) (SP X pins D) X.xe s4) X.xe { s' with heap := h3 } := by
          rw [hf]
          refine HandSPX.setFlight_upZ fl3 fun h4 hh4 up4 => wpAny_throw (tk _ _ ?_)
          exact ⟨a, B, sI, pins, σ', H', cls, d, rfl, J, nb, (up.trans up3).trans up4, .inr (.inr (by rw [hs]; exact hh4)), na, os, ag, w⟩
        first
          | exact wpAny_bind (wpAny_pure (wpAny_bind fin))
          | exact wpAny_bind fin
      | @cons x c ts b₀ suite np pos' hds2 l2 hc hsu r ih =>
        intro w
        obtain ⟨b, hb1, hyes, hno⟩ := w
        refine wpAny_handleBy_cons (codeAny_handlers_test ?_) (by intro q; cases q)
        have LT : PySem.W.Looks (model X.prog X.w) h3 (typeOf (.ref a)) cls := fun A Q E s k q => wpAny_typeOf_ref (k _ _ he3) (by rw [hz3.1]; exact q)
        have LM := PySem.W.exm_one (M := model X.prog X.w) (J3.kIn) LT hb1
        have test : ∀ {Q : Value → Shared → Prop} {E : Value → Shared → Prop}, Q c { s' with heap := h3 } → wpAny (model X.prog X.w) (X.A.mark (some (.ref a))) (eval (.Name x np) X.env) Q E { s' with heap := h3 } := fun {Q E} q => by
          obtain ⟨hg, hdbg, hm | ⟨hm, hv, hnn⟩⟩ := hc
          · exact ld_glob (X := X.suite a ((a, oe3) :: (X.pn ++ pins))) S3 hg hm q hdbg
          · exact ld_blt (X := X.suite a ((a, oe3) :: (X.pn ++ pins))) S3 hg hm hv q hnn hdbg
        refine test (LM.here ?_)
        cases b with
        | true =>
          refine codeAny_handlers_suite ?_
          refine HandSPX.lands_againZ fl3 fun h4 fl4 up4 => ?_
          have J4 : Inv X pins σ' H' { s' with heap := h4 } := J.landed nb fl4.1 ((up.trans up3).trans up4) os ag
          obtain ⟨oe4, vs4, he4, hz4, hd4⟩ := fl4.there
          have S4 := J4.suite he4 hd4 na nL nF
          refine wpAny_mono ((hsu a oe4 cls d (X.pn ++ pins) hz4 ⟨_, hd4⟩).run [] _ _ H' _ S4 (hyes rfl a na)) (fun f s6 hsp => ?_) (fun _ _ z => False.elim z)
          cases f with
          | next =>
            obtain ⟨σ6, H6, S6, q6⟩ := hsp
            exact ⟨_, _, S6.unsuite ok, q6⟩
          | brk =>
            obtain ⟨σ6, H6, S6, q6⟩ := hsp
            exact ⟨_, _, S6.unsuite ok, q6⟩
          | cont =>
            obtain ⟨σ6, H6, S6, q6⟩ := hsp
            exact ⟨_, _, S6.unsuite ok, q6⟩
          | ret u =>
            obtain ⟨v6, σ6, H6, S6, r6, q6⟩ := hsp
            exact ⟨_, _, _, S6.unsuite ok, r6, q6⟩
        | false =>
          show wpAny _ X.A (handleBy (.ref a) X.env hds2) _ _ _
          exact ih (hno rfl)
      | @consAs x n i c ts b₀ suite np pos' hds2 l2 hc hi hln hsu r ih =>
        intro w
        obtain ⟨b, hb1, hyes, hno⟩ := w
        have hloc : Loc X.env.scope n := .inl hln
        refine wpAny_handleBy_cons (codeAny_handlers_test ?_) (by intro q; cases q)
        have LT : PySem.W.Looks (model X.prog X.w) h3 (typeOf (.ref a)) cls := fun A Q E s k q => wpAny_typeOf_ref (k _ _ he3) (by rw [hz3.1]; exact q)
        have LM := PySem.W.exm_one (M := model X.prog X.w) (J3.kIn) LT hb1
        have test : ∀ {Q : Value → Shared → Prop} {E : Value → Shared → Prop}, Q c { s' with heap := h3 } → wpAny (model X.prog X.w) (X.A.mark (some (.ref a))) (eval (.Name x np) X.env) Q E { s' with heap := h3 } := fun {Q E} q => by
          obtain ⟨hg, hdbg, hm | ⟨hm, hv, hnn⟩⟩ := hc
          · exact ld_glob (X := X.suite a ((a, oe3) :: (X.pn ++ pins))) S3 hg hm q hdbg
          · exact ld_blt (X := X.suite a ((a, oe3) :: (X.pn ++ pins))) S3 hg hm hv q hnn hdbg
        refine test (LM.here ?_)
        cases b with
        | true =>
          refine codeAny_handlers_suite_as ?_
          refine HandSPX.lands_againZ fl3 fun h4 fl4 up4 => ?_
          have J4 : Inv X pins σ' H' { s' with heap := h4 } := J.landed nb fl4.1 ((up.trans up3).trans up4) os ag
          obtain ⟨oe4, vs4, he4, hz4, hd4⟩ := fl4.there
          have S4 := J4.suite he4 hd4 na nL nF
          refine store_ok (X := X.suite a ((a, oe4) :: (X.pn ++ pins))) (v := .ref a) S4 hN hi hloc rfl (fun s5 S5 => ?_) (.inr hln)
          refine wpAny_mono ((hsu a oe4 cls d (X.pn ++ pins) hz4 ⟨_, hd4⟩).run [] s5 _ H' _ S5 (hyes rfl a na)) (fun f s6 hsp => ?_) (fun _ _ z => False.elim z)
          have end_ : ∀ {σ6 : L2.St} {H6 : Hp} {Q : Shared → Prop}, Inv (X.suite a ((a, oe4) :: (X.pn ++ pins))) [] σ6 H6 s6 → (∀ s7, Inv X pins (σ6.set i none) H6 s7 → Q s7) →
              wpAny (model X.prog X.w) X.A (do bindName X.env n .none; unbindBehindTheSuite X.env n pos') (fun _ s7 => Q s7) X.xe s6 := fun {σ6 H6 Q} S6 hq => gone_ok (S6.unsuite ok) hN hi hln hq
          cases f with
          | next =>
            obtain ⟨σ6, H6, S6, q6⟩ := hsp
            exact end_ S6 fun s7 J7 => ⟨_, _, J7, q6⟩
          | brk =>
            obtain ⟨σ6, H6, S6, q6⟩ := hsp
            exact end_ S6 fun s7 J7 => ⟨_, _, J7, q6⟩
          | cont =>
            obtain ⟨σ6, H6, S6, q6⟩ := hsp
            exact end_ S6 fun s7 J7 => ⟨_, _, J7, q6⟩
          | ret u =>
            obtain ⟨v6, σ6, H6, S6, r6, q6⟩ := hsp
            exact end_ S6 fun s7 J7 => ⟨_, _, _, J7, r6, q6⟩
        | false =>
          show wpAny _ X.A (handleBy (.ref a) X.env hds2) _ _ _
          exact ih (hno rfl)
    exact go hh w
  · cases f with
    | next =>
      obtain ⟨σ', H', J', q⟩ := hsp
      exact wpAny_execs_nil ⟨σ', H', J'.ofTry ok, q⟩
    | brk =>
      obtain ⟨σ', H', J', q⟩ := hsp
      exact ⟨σ', H', J'.ofTry ok, q⟩
    | cont =>
      obtain ⟨σ', H', J', q⟩ := hsp
      exact ⟨σ', H', J'.ofTry ok, q⟩
    | ret u =>
      obtain ⟨v, σ', H', J', r, q⟩ := hsp
      exact ⟨v, σ', H', J'.ofTry ok, r, q⟩
end
end D

set_option Elab.async false
set_option linter.all false
set_option maxRecDepth 100000
set_option maxHeartbeats 4000000
namespace D
open PySem PySem.Spec PyProof.Rows L2
section
variable {K : PySem.W.Frag} {X : Wsh}
/-! ### raise -/
def rRaise0 (C : Addr) (w : Addr → List (Str × Dt) → Env → Prop) : RS := fun _ η => w C [] η
theorem ds_raise0 {C : Addr} {W : L2.WX} (hW : ∀ d σ H, X.W (.ref C) d σ H → W (.ref C) d σ H) : DS K X (fun _ σ H => (fun (_ : L2.St) (H : Hp) (Q : XK) => Q (.ref C) none H) σ H fun cls d H' => W cls d σ H') (rRaise0 C X.w) :=
  ⟨fun _ _ _ _ q => q, fun B Z H σ η τ E lk o q => hW _ _ _ (lk C [] η Z H σ none q o (.inl ⟨rfl, rfl⟩))⟩
/-- X(e), the value kept by one name -/
def tMk1 (C : Addr) (f : Str) (ta : TA) : L2.St → Hp → XK → Prop := fun σ H Q => ta σ H fun vs H1 => ∃ v, vs = [v] ∧ ∀ d, H1 d = none → Q (.ref C) (some d) (upd H1 d (.xd [(f, v)]))
def rRaise1 (C : Addr) (f : Str) (ra : RA) (w : Addr → List (Str × Dt) → Env → Prop) : RS := fun _ η => ra η fun xs η1 => ∃ d, frzs η1 xs = some [d] ∧ w C [(f, d)] η1
theorem ds_raise1 {C : Addr} {f : Str} {ta : TA} {ra : RA} {W : L2.WX} (hW : ∀ d σ H, X.W (.ref C) d σ H → W (.ref C) d σ H) (ha : DA K X ta ra) : DS K X (fun _ σ H => tMk1 C f ta σ H fun cls d H' => W cls d σ H') (rRaise1 C f ra X.w) := by
  refine ⟨fun η _ _ _ q => q, ?_⟩
  intro B Z H σ η τ E lk o q
  refine ha.run B Z H σ η τ _ lk o (ha.mono _ _ _ ?_ q)
  rintro xs η1 ⟨d, e, q⟩ Z1 H1 vs o1
  obtain ⟨Z2, z2, o2, r⟩ := o1.frzs e
  cases r with
  | @cons v ws _ _ r1 r2 =>
    cases r2
    refine ⟨v, rfl, fun dd hd => ?_⟩
    refine hW _ _ _ (lk C [(f, d)] η1 _ _ σ (some dd) q (o2.newZ hd _) (.inr ⟨dd, [f], [v], [d], rfl, rfl, rfl, .inr rfl, upd_same, ?_⟩))
    exact (RpAll.cons r1 .nil).new hd
/-! ### try -/
abbrev HdD := Value × Option Nat × (Addr → Option Addr → Addr → List (Str × Dt) → RS)
def goneD (D : EndsD) (i : Nat) : EndsD := { nx := fun η => D.nx (η.set i none), rt := D.rt, bk := fun η => D.bk (η.set i none), ct := fun η => D.ct (η.set i none) }
def wMixD (K : PySem.W.Frag) (w : Addr → List (Str × Dt) → Env → Prop) (D : EndsD) : List HdD → Addr → List (Str × Dt) → Env → Prop
  | [] => w
  | (c, none, rs) :: r => fun C fs η => ∃ b, PySem.W.exmOne K (.ref C) c = some b ∧ (b = true → ∀ a d, rs a d C fs D η) ∧ (b = false → wMixD K w D r C fs η)
  | (c, some i, rs) :: r => fun C fs η => ∃ b, PySem.W.exmOne K (.ref C) c = some b ∧ (b = true → i < η.length ∧ ∀ a d, rs a d C fs (goneD D i) (η.set i (some (.val (.exn a d C fs))))) ∧ (b = false → wMixD K w D r C fs η)
inductive DHds (K : PySem.W.Frag) : List Hd → List HdD → Prop
  | nil : DHds K [] []
  | cons {c : Value} {oi : Option Nat} {ts : Addr → Value → Option Addr → TS} {rs : Addr → Option Addr → Addr → List (Str × Dt) → RS} {l : List Hd} {m : List HdD} (h : ∀ a d C fs, DS K W0 (ts a (.ref C) d) (rs a d C fs)) (r : DHds K l m) : DHds K ((c, oi, ts) :: l) ((c, oi, rs) :: m)
def rTry (K : PySem.W.Frag) (rb : (Addr → List (Str × Dt) → Env → Prop) → RS) (m : List HdD) (w : Addr → List (Str × Dt) → Env → Prop) : RS := fun D η => ∃ D0 : EndsD, D0.Le D ∧ rb (wMixD K w D0 m) D0 η
theorem xd_rp {Z : Zs} {H : Hp} {a C : Addr} {d : Option Addr} {fs : List (Str × Dt)} (x : XdOk K Z H d fs) : Rp K Z H (.ref a) (.exn a d C fs) := by
  rcases x with ⟨rfl, rfl⟩ | ⟨dd, ns, vs, ds, rfl, rfl, l, z, h, r⟩
  · exact .exn0 a C
  · exact .exn1 a C z h l r
theorem gone_le {B : Base} {τ : List (V × En)} {E : Ends} {D : EndsD} (h : D.Le (lft B K τ E)) (i : Nat) : (goneD D i).Le (lft B K τ (gone E i)) := by
  have key : ∀ {Z : Zs} {H : Hp} {σ : L2.St} {η : Env}, Ok B K Z H σ η τ → Ok B K Z H (σ.set i none) (η.set i none) τ := by
    intro Z H σ η o
    by_cases hi : i < η.length
    · exact (o.forget i).reslot none (by rw [List.getElem?_set_self hi])
    · have := o.len
      rw [List.set_eq_of_length_le (by omega), List.set_eq_of_length_le (by omega)]
      exact o
  refine ⟨?_, ?_, ?_, ?_⟩
  · intro η w Z H σ o
    exact h.nx _ w Z H _ (key o)
  · intro x η w
    exact h.rt x η w
  · intro η w Z H σ o
    exact h.bk _ w Z H _ (key o)
  · intro η w Z H σ o
    exact h.ct _ w Z H _ (key o)
theorem ds_try {tb : WX → TS} {rb : (Addr → List (Str × Dt) → Env → Prop) → RS} {l : List Hd} {m : List HdD} {Wout : WX} (hW : ∀ C d σ H, X.W (.ref C) d σ H → Wout (.ref C) d σ H) (hb : ∀ W w, DS K ⟨W, w⟩ (tb W) (rb w)) (hh : DHds K l m) :
    DS K X (fun D σ H => tb (wMix K Wout D l) D σ H) (rTry K rb m X.w) := by
  constructor
  · rintro η D D' hd ⟨D0, h0, q⟩
    exact ⟨D0, ⟨fun η q => hd.nx _ (h0.nx _ q), fun x η q => hd.rt _ _ (h0.rt _ _ q), fun η q => hd.bk _ (h0.bk _ q), fun η q => hd.ct _ (h0.ct _ q)⟩, q⟩
  rintro B Z H σ η τ E lk o ⟨D0, h0, q⟩
  refine (hb _ _).run B Z H σ η τ E ?_ o ((hb (wMix K Wout E l) _).mono _ _ _ h0 q)
  have go : ∀ {l : List Hd} {m : List HdD}, DHds K l m → ∀ C fs η Z H σ d, wMixD K X.w D0 m C fs η → Ok B K Z H σ η τ → XdOk K Z H d fs → wMix K Wout E l (.ref C) d σ H := by
    intro l m hk
    induction hk with
    | nil => intro C fs η Z H σ d w o x; exact hW _ _ _ _ (lk C fs η Z H σ d w o x)
    | @cons c oi ts rs l m h r ih =>
      intro C fs η Z H σ d w o x
      cases oi with
      | none =>
        obtain ⟨b, e, w1, w2⟩ := w
        refine ⟨b, e, fun hb a ha => ?_, fun hb => ih C fs η Z H σ d (w2 hb) o x⟩
        exact (h a d C fs).run B Z H σ η τ E .none o ((h a d C fs).mono _ _ _ h0 (w1 hb a d))
      | some i =>
        obtain ⟨b, e, w1, w2⟩ := w
        refine ⟨b, e, fun hb a ha => ?_, fun hb => ih C fs η Z H σ d (w2 hb) o x⟩
        obtain ⟨hi, w1⟩ := w1 hb
        have o2 := Ok.store (o.val (xd_rp (a := a) (C := C) x)) hi
        exact (h a d C fs).run B Z H _ _ τ (gone E i) .none o2 ((h a d C fs).mono _ _ _ (gone_le h0 i) (w1 a d))
  exact fun C fs η Z H σ d w o x => go hh C fs η Z H σ d w o x

/-! ### the exception in hand -/
def rXf (a : Addr) (d : Option Addr) (C : Addr) (f : Str) (re : RE) : RE := fun η Q => re η fun x η1 => ∃ fs v, look η1 x = some (.exn a d C fs) ∧ fs.lookup f = some v ∧ Q (.d v) η1
theorem lookup_zip {α β : Type} {ns : List Str} : ∀ {vs : List α} {ds : List β} {R : α → β → Prop}, (∀ (i : Nat) v d, vs[i]? = some v → ds[i]? = some d → R v d) → ns.length = vs.length → vs.length = ds.length → ∀ {f : Str} {d : β}, (ns.zip ds).lookup f = some d → ∃ v, (ns.zip vs).lookup f = some v ∧ R v d := by
  induction ns with
  | nil => intro vs ds R h l1 l2 f d e; simp at e
  | cons n ns ih =>
    intro vs ds R h l1 l2 f d e
    cases vs with
    | nil => simp at l1
    | cons v vs =>
      cases ds with
      | nil => simp at l2
      | cons d' ds =>
        rw [List.zip_cons_cons, List.lookup_cons] at e ⊢
        cases q : f == n with
        | true =>
          rw [q] at e
          cases e
          exact ⟨v, rfl, h 0 v _ rfl rfl⟩
        | false =>
          rw [q] at e
          exact ih (fun (i : Nat) v d a b => h (i + 1) v d (by simpa using a) (by simpa using b)) (by simpa using l1) (by simpa using l2) e
theorem RpAll.lookup {Z : Zs} {H : Hp} {ns : List Str} {vs : List V} {ds : List Dt} (r : RpAll K Z H vs ds) (l : ns.length = vs.length) {f : Str} {d : Dt} (e : (ns.zip ds).lookup f = some d) : ∃ v, (ns.zip vs).lookup f = some v ∧ Rp K Z H v d :=
  lookup_zip (R := fun v d => Rp K Z H v d) (fun i v d a b => by
    obtain ⟨e', h1, h2⟩ := r.get' a
    rw [b] at h1; cases h1; exact h2) l r.length e
theorem de_xf {a C : Addr} {d : Option Addr} {f : Str} {te : TE} {re : RE} (he : DE K X te re) : DE K X (tXf a (.ref C) d C f te) (rXf a d C f re) := by
  constructor
  · intro η Q Q' hq q
    refine he.mono _ _ _ ?_ q
    rintro x η1 ⟨fs, v, e, l, q⟩
    exact ⟨fs, v, e, l, hq _ _ q⟩
  intro B Z H σ η τ P lk o q
  refine he.run B Z H σ η τ _ lk o (he.mono _ _ _ ?_ q)
  rintro x η1 ⟨fs, dv, e, l, q⟩ Z1 H1 v o1
  obtain ⟨e1, h | ⟨dd, ns, vs, ds, e2, e3, len, z, hx, r⟩⟩ := o1.see e
  · rw [h.2] at l; cases l
  · rw [e3] at l
    obtain ⟨u, h1, h2⟩ := r.lookup len l
    exact ⟨e1, rfl, dd, _, u, e2, hx, h1, q Z1 H1 u (.d o1.ok h2)⟩
/-- isinstance(e, c) of the exception in hand, also one with a dict of its own -/
def rIsX (K : PySem.W.Frag) (C a : Addr) (d : Option Addr) : List V → Hp → VK → Prop := fun xs H Q => ∃ (c : V) (cv : Value) (b : Bool), xs = [.ref a, c] ∧ ClsV c cv ∧ (d = none ∨ ∃ dd fs, d = some dd ∧ H dd = some (.xd fs)) ∧ PySem.W.kitOne K (.ref C) cv = some b ∧ Q (.bl b) H
theorem inst_of {X : Cx} {pins : List (Addr × Obj)} {σ : L2.St} {H : Hp} {s : Shared} {a C : Addr} {d : Option Addr} {oe : Obj} {pn : List (Addr × Obj)} (I : Inv (X.suite a ((a, oe) :: pn)) pins σ H s) (hz : Zc (.ref C) d oe) (hf : ∃ vs, oe.data = .fields vs) (hd : d = none ∨ ∃ dd fs, d = some dd ∧ H dd = some (.xd fs)) : ∃ od, PySem.W.InstAt s.heap a oe C od := by
  obtain ⟨hget, _⟩ := I.pin (a, oe) (List.mem_append.mpr (.inl List.mem_cons_self))
  obtain ⟨vs, hv⟩ := hf
  rcases hd with rfl | ⟨dd, fs, rfl, hx⟩
  · refine ⟨none, ?_⟩
    obtain ⟨oc, od, oda, osl⟩ := oe
    obtain ⟨h1, h2⟩ := hz
    dsimp only at h1 h2 hv
    subst h1 h2 hv
    exact ⟨hget, rfl, rfl, trivial⟩
  · have hx' : ObjOk (X.suite a ((a, oe) :: pn)).prog (X.suite a ((a, oe) :: pn)).w H s.heap dd (.xd fs) := I.hok dd _ hx
    obtain ⟨mA, hns, hr⟩ := hx'
    obtain ⟨od, ho, hl⟩ := lookIn_ns hns
    exact ⟨some od, hget, hz.1, by unfold PySem.W.notCls; rw [hv] <;> rfl, by rw [hz.2]; exact ho⟩
theorem call_isX {X : Cx} {a C : Addr} {d : Option Addr} {oe : Obj} {pn : List (Addr × Obj)} (T : ExcC X.K C) (hz : Zc (.ref C) d oe) (hf : ∃ vs, oe.data = .fields vs) : CallR (X.suite a ((a, oe) :: pn)) (.builtin "isinstance") (rIsX X.K C a d) := by
  intro pins s σ H xs us Q I r h
  obtain ⟨c, cv, b, rfl, hcv, hd, e, q⟩ := h
  obtain ⟨u1, u2, rfl, r1, r2⟩ := vals2 r
  have e2 := hcv.eq r2
  subst e2
  cases r1
  obtain ⟨od, J⟩ := inst_of I hz hf hd
  exact PySem.W.kia_one (PySem.W.kitx_exc (by obtain ⟨cd, hc, _⟩ := PySem.W.any_some T.hd; rw [hc]; rfl) T.hg T.hk T.hs T.ha T.hn T.ht T.hm) I.kIn J e (fun z => nomatch z) fun tk => ⟨.bl b, H, I.kept (t' := tk) fun _ _ z => z, rfl, q⟩
/-- .. a tuple of classes, that was just laid -/
def rIsXT (K : PySem.W.Frag) (C a : Addr) (d : Option Addr) : List V → Hp → VK → Prop := fun xs H Q => ∃ (tp : Addr) (cs : List V) (us : List Value) (b : Bool), xs = [.ref a, .ref tp] ∧ H tp = some (.tup cs) ∧ Paired ClsV cs us ∧ (d = none ∨ ∃ dd fs, d = some dd ∧ H dd = some (.xd fs)) ∧ PySem.W.kitAny K (.ref C) us = some b ∧ Q (.bl b) H
theorem call_isXT {X : Cx} {a C : Addr} {d : Option Addr} {oe : Obj} {pn : List (Addr × Obj)} (T : ExcC X.K C) (hz : Zc (.ref C) d oe) (hf : ∃ vs, oe.data = .fields vs) : CallR (X.suite a ((a, oe) :: pn)) (.builtin "isinstance") (rIsXT X.K C a d) := by
  intro pins s σ H xs us Q I r h
  obtain ⟨tp, cs, ws, b, rfl, hT, k, hd, e, q⟩ := h
  obtain ⟨u1, u2, rfl, r1, r2⟩ := vals2 r
  cases (show u2 = Value.ref tp from r2)
  cases r1
  obtain ⟨_, its, rv, o, h1, h2, n, h3⟩ := (show ObjOk (X.suite a ((a, oe) :: pn)).prog (X.suite a ((a, oe) :: pn)).w H s.heap tp (.tup cs) from I.hok tp _ hT)
  have e3 := ClsV.all k rv
  subst e3
  obtain ⟨od, J⟩ := inst_of I hz hf hd
  obtain ⟨oc, odd, dt, sl⟩ := o
  simp only at h2 h3
  subst h2 h3
  exact PySem.W.kia_tup (PySem.W.kitx_exc (by obtain ⟨cd, hc, _⟩ := PySem.W.any_some T.hd; rw [hc]; rfl) T.hg T.hk T.hs T.ha T.hn T.ht T.hm) I.kIn J h1 e (fun z => nomatch z) fun tk => ⟨.bl b, H, I.kept (t' := tk) fun _ _ z => z, rfl, q⟩
/-- a class as a datum -/
inductive ClsD : Dt → Value → Prop where
  | ty (n : String) : ClsD (.ty n) (.type n)
  | own (C : Addr) : ClsD (.ref C) (.ref C)
theorem ClsD.v {Z : Zs} {H : Hp} {v : V} {c : Dt} {u : Value} (h : ClsD c u) (s : See K Z H v c) : ClsV v u := by
  cases h with
  | ty n => cases (show v = .ty n from s); exact .ty n
  | own C => cases (show v = .ref C from s); exact .own C
def roIsX (K : PySem.W.Frag) (a : Addr) (d : Option Addr) (C : Addr) : ROs := fun xs η Q => ∃ x y c u fs b, xs = [x, y] ∧ look η x = some (.exn a d C fs) ∧ look η y = some c ∧ ClsD c u ∧ PySem.W.kitOne K (.ref C) u = some b ∧ Q (.d (.bl b)) η
theorem ali2 {σ : L2.St} {x y : Vl} {vs : List V} (h : Ali σ [x, y] vs) : ∃ v w, vs = [v, w] := by
  match vs, h with
  | [v, w], _ => exact ⟨v, w, rfl⟩
  | [], h => cases x <;> exact h.elim
  | [_], h => have := h.length; simp at this
  | _ :: _ :: _ :: _, h => have := h.length; simp at this
theorem dc_isX {a : Addr} {d : Option Addr} {C : Addr} : DC K (rIsX K C a d) (roIsX K a d C) := by
  constructor
  · rintro xs η Q Q' hq ⟨x, y, c, u, fs, b, e1, e2, e3, e4, e5, q⟩
    exact ⟨x, y, c, u, fs, b, e1, e2, e3, e4, e5, hq _ _ q⟩
  rintro B Z H σ η τ xs vs P o ⟨x, y, c, u, fs, b, rfl, e2, e3, e4, e5, q⟩
  obtain ⟨v, w, rfl⟩ := ali2 o.1
  obtain ⟨s1, s2⟩ := o.see2 e2 e3
  obtain ⟨e1, h⟩ := s1
  subst e1
  refine ⟨w, u, b, rfl, e4.v s2, ?_, e5, q Z H _ (.d o.ok (.bl b))⟩
  rcases h with ⟨h, _⟩ | ⟨dd, ns, vs, ds, h1, h2, len, z, hx, r⟩
  · exact .inl h
  · exact .inr ⟨dd, _, h1, hx⟩
inductive ClsDs : List Dt → List Value → Prop where
  | nil : ClsDs [] []
  | cons {c : Dt} {u : Value} {cs : List Dt} {us : List Value} (h : ClsD c u) (r : ClsDs cs us) : ClsDs (c :: cs) (u :: us)
theorem ClsDs.vs {Z : Zs} {H : Hp} : ∀ {cs : List Dt} {us : List Value} {vs : List V}, ClsDs cs us → RpAll K Z H vs cs → Paired ClsV vs us
  | _, _, _, .nil, r => by cases r; exact .nil
  | _, _, _, .cons h r, .cons a b => .cons (h.v a.see) (ClsDs.vs r b)
def roIsXT (K : PySem.W.Frag) (a : Addr) (d : Option Addr) (C : Addr) : ROs := fun xs η Q => ∃ x y cs us fs b, xs = [x, y] ∧ look η x = some (.exn a d C fs) ∧ y = .d (.tup cs) ∧ ClsDs cs us ∧ PySem.W.kitAny K (.ref C) us = some b ∧ Q (.d (.bl b)) η
end
end D

set_option Elab.async false
set_option linter.all false
set_option maxRecDepth 100000
set_option maxHeartbeats 4000000
namespace D
open PySem PySem.Spec PyProof.Rows L2
section
variable {K : PySem.W.Frag} {X : Wsh}
/-! ### isinstance of the built-in kinds -/
def isa (n : String) : Dt → Bool
  | .bl _ => n == "bool" || n == "int"
  | .int _ => n == "int"
  | .str _ => n == "str"
  | .byt _ => n == "bytes"
  | .lst _ => n == "list"
  | .tup _ => n == "tuple"
  | .dct _ => n == "dict"
  | _ => false
def plainD : Dt → Bool
  | .non => true
  | .bl _ => true
  | .int _ => true
  | .str _ => true
  | .byt _ => true
  | .lst _ => true
  | .tup _ => true
  | .dct _ => true
  | _ => false
def tyN : Dt → String
  | .non => "NoneType"
  | .bl _ => "bool"
  | .int _ => "int"
  | .str _ => "str"
  | .byt _ => "bytes"
  | .lst _ => "list"
  | .tup _ => "tuple"
  | .dct _ => "dict"
  | _ => ""
def inKinds (n : String) : Bool := n == "bool" || n == "int" || n == "str" || n == "bytes" || n == "list" || n == "tuple" || n == "dict"
theorem kitNN : kitB "NoneType" "bool" = some false ∧ kitB "NoneType" "int" = some false ∧ kitB "NoneType" "str" = some false ∧ kitB "NoneType" "bytes" = some false ∧ kitB "NoneType" "list" = some false ∧ kitB "NoneType" "tuple" = some false ∧ kitB "NoneType" "dict" = some false := by decide +kernel
theorem kitBL : kitB "bool" "bool" = some true ∧ kitB "bool" "int" = some true ∧ kitB "bool" "str" = some false ∧ kitB "bool" "bytes" = some false ∧ kitB "bool" "list" = some false ∧ kitB "bool" "tuple" = some false ∧ kitB "bool" "dict" = some false := by decide +kernel
theorem kitIN : kitB "int" "bool" = some false ∧ kitB "int" "int" = some true ∧ kitB "int" "str" = some false ∧ kitB "int" "bytes" = some false ∧ kitB "int" "list" = some false ∧ kitB "int" "tuple" = some false ∧ kitB "int" "dict" = some false := by decide +kernel
theorem kitST : kitB "str" "bool" = some false ∧ kitB "str" "int" = some false ∧ kitB "str" "str" = some true ∧ kitB "str" "bytes" = some false ∧ kitB "str" "list" = some false ∧ kitB "str" "tuple" = some false ∧ kitB "str" "dict" = some false := by decide +kernel
theorem kitBY : kitB "bytes" "bool" = some false ∧ kitB "bytes" "int" = some false ∧ kitB "bytes" "str" = some false ∧ kitB "bytes" "bytes" = some true ∧ kitB "bytes" "list" = some false ∧ kitB "bytes" "tuple" = some false ∧ kitB "bytes" "dict" = some false := by decide +kernel
theorem kitLI : kitB "list" "bool" = some false ∧ kitB "list" "int" = some false ∧ kitB "list" "str" = some false ∧ kitB "list" "bytes" = some false ∧ kitB "list" "list" = some true ∧ kitB "list" "tuple" = some false ∧ kitB "list" "dict" = some false := by decide +kernel
theorem kitTU : kitB "tuple" "bool" = some false ∧ kitB "tuple" "int" = some false ∧ kitB "tuple" "str" = some false ∧ kitB "tuple" "bytes" = some false ∧ kitB "tuple" "list" = some false ∧ kitB "tuple" "tuple" = some true ∧ kitB "tuple" "dict" = some false := by decide +kernel
theorem kitDI : kitB "dict" "bool" = some false ∧ kitB "dict" "int" = some false ∧ kitB "dict" "str" = some false ∧ kitB "dict" "bytes" = some false ∧ kitB "dict" "list" = some false ∧ kitB "dict" "tuple" = some false ∧ kitB "dict" "dict" = some true := by decide +kernel
theorem kit_gen {f : String → String → Option Bool} (h0 : f "NoneType" "bool" = some false) (h1 : f "NoneType" "int" = some false) (h2 : f "NoneType" "str" = some false) (h3 : f "NoneType" "bytes" = some false) (h4 : f "NoneType" "list" = some false) (h5 : f "NoneType" "tuple" = some false) (h6 : f "NoneType" "dict" = some false) (h7 : f "bool" "bool" = some true) (h8 : f "bool" "int" = some true) (h9 : f "bool" "str" = some false) (h10 : f "bool" "bytes" = some false) (h11 : f "bool" "list" = some false) (h12 : f "bool" "tuple" = some false) (h13 : f "bool" "dict" = some false) (h14 : f "int" "bool" = some false) (h15 : f "int" "int" = some true) (h16 : f "int" "str" = some false) (h17 : f "int" "bytes" = some false) (h18 : f "int" "list" = some false) (h19 : f "int" "tuple" = some false) (h20 : f "int" "dict" = some false) (h21 : f "str" "bool" = some false) (h22 : f "str" "int" = some false) (h23 : f "str" "str" = some true) (h24 : f "str" "bytes" = some false) (h25 : f "str" "list" = some false) (h26 : f "str" "tuple" = some false) (h27 : f "str" "dict" = some false) (h28 : f "bytes" "bool" = some false) (h29 : f "bytes" "int" = some false) (h30 : f "bytes" "str" = some false) (h31 : f "bytes" "bytes" = some true) (h32 : f "bytes" "list" = some false) (h33 : f "bytes" "tuple" = some false) (h34 : f "bytes" "dict" = some false) (h35 : f "list" "bool" = some false) (h36 : f "list" "int" = some false) (h37 : f "list" "str" = some false) (h38 : f "list" "bytes" = some false) (h39 : f "list" "list" = some true) (h40 : f "list" "tuple" = some false) (h41 : f "list" "dict" = some false) (h42 : f "tuple" "bool" = some false) (h43 : f "tuple" "int" = some false) (h44 : f "tuple" "str" = some false) (h45 : f "tuple" "bytes" = some false) (h46 : f "tuple" "list" = some false) (h47 : f "tuple" "tuple" = some true) (h48 : f "tuple" "dict" = some false) (h49 : f "dict" "bool" = some false) (h50 : f "dict" "int" = some false) (h51 : f "dict" "str" = some false) (h52 : f "dict" "bytes" = some false) (h53 : f "dict" "list" = some false) (h54 : f "dict" "tuple" = some false) (h55 : f "dict" "dict" = some true) {n : String} {d : Dt} (hn : inKinds n = true) (hd : plainD d = true) : f (tyN d) n = some (isa n d) := by
  unfold inKinds at hn
  simp only [Bool.or_eq_true, beq_iff_eq] at hn
  rcases hn with (((((rfl | rfl) | rfl) | rfl) | rfl) | rfl) | rfl <;> cases d <;> first | (cases hd; done) | simp only [tyN, isa, *] <;> rfl
theorem kit_isa {n : String} {d : Dt} (hn : inKinds n = true) (hd : plainD d = true) : kitB (tyN d) n = some (isa n d) :=
  kit_gen kitNN.1 kitNN.2.1 kitNN.2.2.1 kitNN.2.2.2.1 kitNN.2.2.2.2.1 kitNN.2.2.2.2.2.1 kitNN.2.2.2.2.2.2 kitBL.1 kitBL.2.1 kitBL.2.2.1 kitBL.2.2.2.1 kitBL.2.2.2.2.1 kitBL.2.2.2.2.2.1 kitBL.2.2.2.2.2.2 kitIN.1 kitIN.2.1 kitIN.2.2.1 kitIN.2.2.2.1 kitIN.2.2.2.2.1 kitIN.2.2.2.2.2.1 kitIN.2.2.2.2.2.2 kitST.1 kitST.2.1 kitST.2.2.1 kitST.2.2.2.1 kitST.2.2.2.2.1 kitST.2.2.2.2.2.1 kitST.2.2.2.2.2.2 kitBY.1 kitBY.2.1 kitBY.2.2.1 kitBY.2.2.2.1 kitBY.2.2.2.2.1 kitBY.2.2.2.2.2.1 kitBY.2.2.2.2.2.2 kitLI.1 kitLI.2.1 kitLI.2.2.1 kitLI.2.2.2.1 kitLI.2.2.2.2.1 kitLI.2.2.2.2.2.1 kitLI.2.2.2.2.2.2 kitTU.1 kitTU.2.1 kitTU.2.2.1 kitTU.2.2.2.1 kitTU.2.2.2.2.1 kitTU.2.2.2.2.2.1 kitTU.2.2.2.2.2.2 kitDI.1 kitDI.2.1 kitDI.2.2.1 kitDI.2.2.2.1 kitDI.2.2.2.2.1 kitDI.2.2.2.2.2.1 kitDI.2.2.2.2.2.2 hn hd
theorem tyx_of {Z : Zs} {H : Hp} {v : V} {d : Dt} (s : See K Z H v d) (hd : plainD d = true) : TyX K H v (.type (tyN d)) := by
  cases d with
  | non => cases (show v = .non from s); exact .base .non
  | bl b => cases (show v = .bl b from s); exact .base (.bl b)
  | int b => cases (show v = .int b from s); exact .base (.int b)
  | str b => cases (show v = .str b from s); exact .base (.str b)
  | byt b => cases (show v = .byt b from s); exact .byt b
  | lst ds =>
    obtain ⟨a, vs, rfl, (h | ⟨o, h⟩) | ⟨o, its, n, hk, hc, _⟩, r⟩ := s
    · exact .base (.lst h)
    · exact .base (.frz h)
    · exact .kList hk hc
  | tup ds =>
    obtain ⟨a, vs, rfl, (h | ⟨o, h⟩) | ⟨o, its, n, hk, hc, _⟩, r⟩ := s
    · exact .base (.tup h)
    · exact .fTuple h
    · exact .kTuple hk hc
  | dct kvs =>
    obtain ⟨a, ks, vs, ds, rfl, e, l, (h | ⟨o, h⟩), r⟩ := s
    · exact .base (.dK h)
    · exact .fDict h
  | ty _ => cases hd
  | ins _ _ => cases hd
  | ref _ => cases hd
  | exn _ _ _ _ => cases hd
/-- isinstance(x, T), T a built-in kind -/
def roIsi : ROs := fun xs η Q => ∃ x n d, xs = [x, .d (.ty n)] ∧ look η x = some d ∧ inKinds n = true ∧ plainD d = true ∧ Q (.d (.bl (isa n d))) η
theorem dc_isi : DC K (rIsi K) roIsi := by
  constructor
  · rintro xs η Q Q' hq ⟨x, n, d, e1, e2, e3, e4, q⟩
    exact ⟨x, n, d, e1, e2, e3, e4, hq _ _ q⟩
  rintro B Z H σ η τ xs vs P o ⟨x, n, d, rfl, e2, e3, e4, q⟩
  obtain ⟨v, w, rfl⟩ := ali2 o.1
  obtain ⟨s1, s2⟩ := o.see2 e2 (rfl : look η (.d (.ty n)) = some (.ty n))
  cases (show w = .ty n from s2)
  exact ⟨v, .ty n, .type (tyN d), .type n, isa n d, rfl, .ty n, tyx_of s1 e4, kit_ty (kit_isa e3 e4), q Z H _ (.d o.ok (.bl _))⟩
theorem de_ty {n : String} : DE K X (tC (.ty n)) (rC (.ty n)) := de_c fun _ _ => .ty n
theorem de_ref {a : Addr} : DE K X (tC (.ref a)) (rC (.ref a)) := de_c fun _ _ => .ref a

/-! ### one argument, a pure answer -/
def roF1 (R : Dt → Dt → Prop) : ROs := fun xs η Q => ∃ x dx d, xs = [x] ∧ look η x = some dx ∧ R dx d ∧ Q (.d d) η
structure F1 (K : PySem.W.Frag) (r : List V → Hp → VK → Prop) (R : Dt → Dt → Prop) : Prop where
  run : ∀ (Z : Zs) (H : Hp) (v : V) (dx d : Dt) (P : VK), See K Z H v dx → R dx d → (∀ u, Rp K Z H u d → P u H) → r [v] H P
theorem dc_F1 {r : List V → Hp → VK → Prop} {R : Dt → Dt → Prop} (h : F1 K r R) : DC K r (roF1 R) := by
  constructor
  · rintro xs η Q Q' hq ⟨x, dx, d, e1, e2, e3, q⟩
    exact ⟨x, dx, d, e1, e2, e3, hq _ _ q⟩
  rintro B Z H σ η τ xs vs P o ⟨x, dx, d, rfl, e2, e3, q⟩
  obtain ⟨v, rfl⟩ := ali1 o.1
  exact h.run Z H v dx d P (o.see e2) e3 fun u ru => q Z H u (.d o.ok ru)
theorem DC.or {r r' : List V → Hp → VK → Prop} {ro ro' : ROs} (h : DC K r ro) (h' : DC K r' ro') : DC K (fun xs H Q => r xs H Q ∨ r' xs H Q) (fun xs η Q => ro xs η Q ∨ ro' xs η Q) :=
  ⟨fun xs η Q Q' hq q => q.imp (h.mono _ _ _ _ hq) (h'.mono _ _ _ _ hq), fun B Z H σ η τ xs vs P o q => q.imp (h.run B Z H σ η τ xs vs P o) (h'.run B Z H σ η τ xs vs P o)⟩
/-- len -/
def RLen : Dt → Dt → Prop
  | .lst ds, d => d = .int ds.length
  | .tup ds, d => d = .int ds.length
  | .str s, d => s.length ≤ 100000 ∧ d = .int s.length
  | .byt b, d => b.size ≤ 100000 ∧ d = .int b.size
  | _, _ => False
theorem f1_len : F1 K (fun xs H Q => ∃ x n, xs = [x] ∧ LenV K x H n ∧ Q (.int n) H) RLen := by
  constructor
  intro Z H v dx d P s e k
  cases dx with
  | lst ds =>
    obtain ⟨a, vs, rfl, h, r⟩ := s
    cases (show d = .int ds.length from e)
    exact ⟨_, vs.length, rfl, .inl ⟨vs, h, rfl⟩, by rw [r.length]; exact k _ (.int _)⟩
  | tup ds =>
    obtain ⟨a, vs, rfl, h, r⟩ := s
    cases (show d = .int ds.length from e)
    exact ⟨_, vs.length, rfl, .inr ⟨vs, h, rfl⟩, by rw [r.length]; exact k _ (.int _)⟩
  | str x =>
    cases (show v = .str x from s)
    obtain ⟨h, rfl⟩ := e
    exact ⟨_, x.length, rfl, ⟨sz h, rfl⟩, k _ (.int _)⟩
  | byt x =>
    cases (show v = .byt x from s)
    obtain ⟨h, rfl⟩ := e
    exact ⟨_, x.size, rfl, ⟨sz h, rfl⟩, k _ (.int _)⟩
  | _ => exact e.elim
/-- int(x) of an int, of a truth -/
def RInt : Dt → Dt → Prop
  | .int i, d => d = .int i
  | .bl b, d => d = .int (if b then 1 else 0)
  | _, _ => False
theorem f1_int : F1 K (fun xs H Q => (∃ i, xs = [V.int i] ∧ Q (.int i) H) ∨ ∃ k, xs = [V.bl k] ∧ Q (.int (if k then 1 else 0)) H) RInt := by
  constructor
  intro Z H v dx d P s e k
  cases dx with
  | int i =>
    cases (show v = .int i from s)
    cases (show d = .int i from e)
    exact .inl ⟨i, rfl, k _ (.int _)⟩
  | bl b =>
    cases (show v = .bl b from s)
    cases (show d = .int (if b then 1 else 0) from e)
    exact .inr ⟨b, rfl, k _ (.int _)⟩
  | _ => exact e.elim
theorem bls_of {Z : Zs} {H : Hp} : ∀ {bs : List Bool} {vs : List V}, RpAll K Z H vs (bs.map Dt.bl) → vs = bs.map V.bl
  | [], vs, r => by cases r; rfl
  | b :: bs, vs, r => by
    cases r with
    | cons a b =>
      cases a
      rw [bls_of b]
      rfl
theorem ints_of {Z : Zs} {H : Hp} : ∀ {ns : List Int} {vs : List V}, RpAll K Z H vs (ns.map Dt.int) → vs = ns.map V.int
  | [], vs, r => by cases r; rfl
  | b :: bs, vs, r => by
    cases r with
    | cons a b =>
      cases a
      rw [ints_of b]
      rfl
theorem strs_of {Z : Zs} {H : Hp} : ∀ {ns : List Str} {vs : List V}, RpAll K Z H vs (ns.map Dt.str) → vs = ns.map V.str
  | [], vs, r => by cases r; rfl
  | b :: bs, vs, r => by
    cases r with
    | cons a b =>
      cases a
      rw [strs_of b]
      rfl
def RAll : Dt → Dt → Prop := fun x d => ∃ bs : List Bool, x = .lst (bs.map .bl) ∧ d = .bl (bs.all id)
def RAny : Dt → Dt → Prop := fun x d => ∃ bs : List Bool, x = .lst (bs.map .bl) ∧ d = .bl (bs.any id)
theorem f1_all : F1 K (rAll K) RAll := by
  constructor
  rintro Z H v dx d P s ⟨bs, rfl, rfl⟩ k
  obtain ⟨a, vs, rfl, h, r⟩ := s
  rw [bls_of r] at h
  exact ⟨a, bs, rfl, h, k _ (.bl _)⟩
theorem f1_any : F1 K (rAny K) RAny := by
  constructor
  rintro Z H v dx d P s ⟨bs, rfl, rfl⟩ k
  obtain ⟨a, vs, rfl, h, r⟩ := s
  rw [bls_of r] at h
  exact ⟨a, bs, rfl, h, k _ (.bl _)⟩
def RBytes : Dt → Dt → Prop := fun x d => ∃ ns : List Int, x = .lst (ns.map .int) ∧ (∀ n ∈ ns, 0 ≤ n ∧ n ≤ 255) ∧ d = .byt (byteArr ns)
theorem f1_bytes : F1 K (fun xs H Q => ∃ p ns, xs = [V.ref p] ∧ SqL K H p (ns.map V.int) ∧ B8 ns ∧ Q (.byt (byteArr ns)) H) RBytes := by
  constructor
  rintro Z H v dx d P s ⟨ns, rfl, hb, rfl⟩ k
  obtain ⟨a, vs, rfl, h, r⟩ := s
  rw [ints_of r] at h
  exact ⟨a, ns, rfl, h, fun n hn => by have := hb n hn; omega, k _ (.byt _)⟩
/-- one argument, a new list -/
def roL1 (R : Dt → List Dt → Prop) : ROs := fun xs η Q => ∃ x dx ds, xs = [x] ∧ look η x = some dx ∧ R dx ds ∧ Q (.nw (.lst ds)) η
structure L1 (K : PySem.W.Frag) (r : List V → Hp → VK → Prop) (R : Dt → List Dt → Prop) : Prop where
  run : ∀ (Z : Zs) (H : Hp) (v : V) (dx : Dt) (ds : List Dt) (P : VK), See K Z H v dx → R dx ds → (∀ vs l, RpAll K Z H vs ds → H l = none → P (.ref l) (upd H l (.lst vs))) → r [v] H P
theorem dc_L1 {r : List V → Hp → VK → Prop} {R : Dt → List Dt → Prop} (h : L1 K r R) : DC K r (roL1 R) := by
  constructor
  · rintro xs η Q Q' hq ⟨x, dx, d, e1, e2, e3, q⟩
    exact ⟨x, dx, d, e1, e2, e3, hq _ _ q⟩
  rintro B Z H σ η τ xs vs P o ⟨x, dx, ds, rfl, e2, e3, q⟩
  obtain ⟨v, rfl⟩ := ali1 o.1
  exact h.run Z H v dx ds P (o.see e2) e3 fun vs l r hl => q Z _ _ (o.ok.newLst r hl)
def RListOf : Dt → List Dt → Prop := fun x ds => x = .lst ds ∨ x = .tup ds
theorem l1_list : L1 K (fun xs H Q => ∃ p ys, xs = [V.ref p] ∧ (SqL K H p ys ∨ SqT K H p ys) ∧ ∀ l, H l = none → Q (.ref l) (upd H l (.lst ys))) RListOf := by
  constructor
  rintro Z H v dx ds P s (rfl | rfl) k
  · obtain ⟨a, vs, rfl, h, r⟩ := s
    exact ⟨a, vs, rfl, .inl h, fun l hl => k vs l r hl⟩
  · obtain ⟨a, vs, rfl, h, r⟩ := s
    exact ⟨a, vs, rfl, .inr h, fun l hl => k vs l r hl⟩
/-- tuple(list): a new tuple -/
def roTupOf : ROs := fun xs η Q => ∃ x ds, xs = [x] ∧ look η x = some (.lst ds) ∧ Q (.d (.tup ds)) η
theorem dc_tupOf : DC K (fun xs H Q => ∃ p ys, xs = [V.ref p] ∧ ((SqL K H p ys ∧ ∀ l, H l = none → Q (.ref l) (upd H l (.tup ys))) ∨ (SqT K H p ys ∧ Q (.ref p) H))) roTupOf := by
  constructor
  · rintro xs η Q Q' hq ⟨x, dx, e1, e2, q⟩
    exact ⟨x, dx, e1, e2, hq _ _ q⟩
  rintro B Z H σ η τ xs vs P o ⟨x, ds, rfl, e2, q⟩
  obtain ⟨v, rfl⟩ := ali1 o.1
  obtain ⟨a, vs, rfl, h, r⟩ := o.see e2
  exact ⟨a, vs, rfl, .inl ⟨h, fun l hl => q _ _ _ (o.ok.newTup r hl)⟩⟩
/-! ### subscripts -/
def RIx : Dt → Dt → Dt → Prop := fun x y d => ∃ ds i, (x = .lst ds ∨ x = .tup ds) ∧ y = .int i ∧ atI ds i = some d
theorem atI_rp {Z : Zs} {H : Hp} {vs : List V} {ds : List Dt} (r : RpAll K Z H vs ds) {i : Int} {d : Dt} (h : atI ds i = some d) : ∃ v, atI vs i = some v ∧ Rp K Z H v d := by
  unfold atI at h ⊢
  rw [r.length]
  cases q : ixN ds.length i with
  | none => rw [q] at h; cases h
  | some j =>
    rw [q] at h
    exact r.get h
theorem p2_ixL : P2 K (rIxL K) (fun x y d => ∃ ds i, x = .lst ds ∧ y = .int i ∧ atI ds i = some d) := by
  constructor
  rintro Z H v w dx dy d P s1 s2 ⟨ds, i, rfl, rfl, h⟩ k
  obtain ⟨a, vs, rfl, hs, r⟩ := s1
  cases (show w = .int i from s2)
  obtain ⟨u, h1, h2⟩ := atI_rp r h
  exact ⟨a, vs, i, u, rfl, rfl, hs, h1, k u h2⟩
theorem p2_ixT : P2 K (rIxT K) (fun x y d => ∃ ds i, x = .tup ds ∧ y = .int i ∧ atI ds i = some d) := by
  constructor
  rintro Z H v w dx dy d P s1 s2 ⟨ds, i, rfl, rfl, h⟩ k
  obtain ⟨a, vs, rfl, hs, r⟩ := s1
  cases (show w = .int i from s2)
  obtain ⟨u, h1, h2⟩ := atI_rp r h
  exact ⟨a, vs, i, u, rfl, rfl, hs, h1, k u h2⟩
theorem p2_ixS : P2 K rIxS (fun x y d => ∃ s i c, x = .str s ∧ y = .int i ∧ s.length ≤ 100000 ∧ atI s.cps.toList i = some c ∧ d = .str ⟨#[c]⟩) := by
  constructor
  rintro Z H v w dx dy d P s1 s2 ⟨s, i, c, rfl, rfl, hl, h, rfl⟩ k
  cases (show v = .str s from s1)
  cases (show w = .int i from s2)
  exact ⟨s, i, c, rfl, rfl, sz hl, h, k _ (.str _)⟩
/-- any of them -/
def RIxA : Dt → Dt → Dt → Prop := fun x y d => (∃ ds i, x = .lst ds ∧ y = .int i ∧ atI ds i = some d) ∨ (∃ ds i, x = .tup ds ∧ y = .int i ∧ atI ds i = some d) ∨ (∃ s i c, x = .str s ∧ y = .int i ∧ s.length ≤ 100000 ∧ atI s.cps.toList i = some c ∧ d = .str ⟨#[c]⟩)
theorem p2_ix : P2 K (rIx K) RIxA := p2_ixL.or (p2_ixT.or p2_ixS)
/-! ### xs[i] = e on one's own list -/
structure DSet (K : PySem.W.Frag) (t : TSet) (ro : Vl → Vl → Vl → Env → (Env → Prop) → Prop) : Prop where
  mono : ∀ o i v η (Q Q' : Env → Prop), (∀ η', Q η' → Q' η') → ro o i v η Q → ro o i v η Q'
  run : ∀ (B : Base) (Z : Zs) (H : Hp) (σ : L2.St) (η : Env) (τ : List (V × En)) (o i x : Vl) (vo vi vx : V) (P : Hp → Prop), OkV B K Z H σ η τ [x, o, i] [vx, vo, vi] → ro o i x η (fun η' => ∀ Z' H', Ok B K Z' H' σ η' τ → P H') → t vo vi vx H P
def roSetL : Vl → Vl → Vl → Env → (Env → Prop) → Prop := fun o i x η Q => ∃ k p ds n j d, o = .sl k ∧ η[k]? = some (some (.mu p (.dt (.lst ds)))) ∧ look η i = some (.int n) ∧ ixN ds.length n = some j ∧ frz η x = some d ∧ Q (η.set k (some (.mu p (.dt (.lst (ds.set j d))))))
theorem dset_list : DSet K rSetL roSetL := by
  constructor
  · rintro o i v η Q Q' hq ⟨k, p, ds, n, j, d, e1, e2, e3, e4, e5, q⟩
    exact ⟨k, p, ds, n, j, d, e1, e2, e3, e4, e5, hq _ q⟩
  rintro B Z H σ η τ o i x vo vi vx P ok ⟨k, p, ds, n, j, d, rfl, e2, e3, e4, e5, q⟩
  have si : See K Z H vi (.int n) := ok.tail.tail.see e3
  cases (show vi = .int n from si)
  have al : σ[k]? = some (some vo) := by
    have := ok.tail.1
    exact this.1
  have o1 : OkV B K Z H σ η τ [x] [vx] := ⟨ok.head.1, by
    have h := ok.head.2
    have : tmp [Vl.sl k, i] [vo, V.int n] = tmp [i] [V.int n] := by cases i <;> rfl
    rw [this] at h
    exact ((h.perm (pm3 (a := tmp [x] [vx]))).drops)⟩
  obtain ⟨Z2, z2, o2⟩ := o1.frz e5
  obtain ⟨w, hw, o3⟩ := o2.take e2
  rw [al] at hw; cases hw
  obtain ⟨a, rfl, nz, vs, hH, r⟩ := o3.notZ
  have rv := (o3.perm (List.Perm.swap _ _ _)).rp
  have o4 := o3.write (o := .lst (vs.set j vx)) (d' := .lst (ds.set j d)) ⟨_, upd_same, (r.set rv j).write nz⟩
  have hk : k < η.length := by
    have := (List.getElem?_eq_some_iff.mp e2).1
    exact this
  exact ⟨a, vs, n, j, rfl, rfl, hH, by rw [r.length]; exact e4, q _ _ ((o4.put hk al).drop)⟩
def rgSub (ro ri : RE) (rs : Vl → Vl → Vl → Env → (Env → Prop) → Prop) : Vl → Env → (Env → Prop) → Prop := fun x η Q => ro η fun o η1 => ri η1 fun i η2 => rs o i x η2 Q
/-- o[i] = e as a statement -/
def rAsgSub (re ro ri : RE) (rs : Vl → Vl → Vl → Env → (Env → Prop) → Prop) : RS := fun D η => re η fun x η0 => ro η0 fun o η1 => ri η1 fun i η2 => rs o i x η2 D.nx
theorem ds_asgSub {te to ti : TE} {t : TSet} {re ro ri : RE} {rs : Vl → Vl → Vl → Env → (Env → Prop) → Prop} (he : DE K X te re) (ho : DE K X to ro) (hi : DE K X ti ri) (hs : DSet K t rs) : DS K X (tAsg te (gSub to ti t)) (rAsgSub re ro ri rs) := by
  refine ⟨fun η D D' hd q => he.mono _ _ _ (fun x η1 q => ho.mono _ _ _ (fun o η2 q => hi.mono _ _ _ (fun i η3 q => hs.mono _ _ _ _ _ _ hd.nx q) q) q) q, ?_⟩
  intro B Z H σ η τ E lk o q
  refine he.run B Z H σ η τ _ lk o (he.mono _ _ _ (fun x η1 q Z1 H1 v1 o1 => ?_) q)
  refine ho.run B Z1 H1 σ η1 _ _ lk.app o1.2 (ho.mono _ _ _ (fun y η2 q Z2 H2 v2 o2 => ?_) q)
  refine hi.run B Z2 H2 σ η2 _ _ lk.app.app o2.2 (hi.mono _ _ _ (fun z η3 q Z3 H3 v3 o3 => ?_) q)
  refine hs.run B Z3 H3 σ η3 τ y z x v2 v3 v1 _ (OkV.cons o1.1 (OkV.cons o2.1 o3)) (hs.mono _ _ _ _ _ _ (fun η' q Z' H' o' => q Z' H' σ o') q)
/-! ### methods of a list of one's own -/
def rBM (T : String) (ro : Vl → ROs) (re : RE) (ra : RA) : RE := fun η Q => re η fun x η1 => (∃ d, look η1 x = some d ∧ isa T d = true ∧ (T = "list" ∨ T = "str")) ∧ ra η1 fun xs η2 => ro x xs η2 Q
theorem tyV_of {Z : Zs} {H : Hp} {v : V} {d : Dt} {T : String} (s : See K Z H v d) (h : isa T d = true) (hT : T = "list" ∨ T = "str") : tyV K T v H := by
  cases d with
  | str x =>
    cases (show v = .str x from s)
    show T = "str"
    simpa [isa] using h
  | lst ds =>
    obtain ⟨a, vs, rfl, hs, r⟩ := s
    exact .inl ⟨by simpa [isa] using h, vs, hs⟩
  | int _ => rcases hT with rfl | rfl <;> simp [isa] at h
  | bl _ => rcases hT with rfl | rfl <;> simp [isa] at h
  | byt _ => rcases hT with rfl | rfl <;> simp [isa] at h
  | tup _ => rcases hT with rfl | rfl <;> simp [isa] at h
  | dct _ => rcases hT with rfl | rfl <;> simp [isa] at h
  | _ => simp [isa] at h
theorem de_bm {T : String} {r : V → List V → Hp → VK → Prop} {ro : Vl → ROs} {te : TE} {ta : TA} {re : RE} {ra : RA} (h : DM K r ro) (he : DE K X te re) (ha : DA K X ta ra) : DE K X (tBM K T r te ta) (rBM T ro re ra) := by
  refine ⟨fun η Q Q' hq q => he.mono _ _ _ (fun x η1 ⟨t, q⟩ => ⟨t, ha.mono _ _ _ (fun xs η2 q => h.mono _ _ _ _ _ hq q) q⟩) q, ?_⟩
  intro B Z H σ η τ P lk o q
  refine he.run B Z H σ η τ _ lk o (he.mono _ _ _ (fun x η1 q Z1 H1 v1 o1 => ?_) q)
  obtain ⟨⟨d, e1, e2, e3⟩, q⟩ := q
  refine ⟨tyV_of (o1.see e1) e2 e3, ?_⟩
  refine ha.run B Z1 H1 σ η1 _ _ lk.app o1.2 (ha.mono _ _ _ (fun xs η2 q Z2 H2 vs o2 => ?_) q)
  exact h.run B Z2 H2 σ η2 τ x v1 xs vs P (OkV.cons o1.1 o2) q
def rBM0 (T : String) (ro : Vl → ROs) (re : RE) : RE := fun η Q => re η fun x η1 => (∃ d, look η1 x = some d ∧ isa T d = true ∧ (T = "list" ∨ T = "str")) ∧ ro x [] η1 Q
theorem de_bm0 {T : String} {r : V → List V → Hp → VK → Prop} {ro : Vl → ROs} {te : TE} {re : RE} (h : DM K r ro) (he : DE K X te re) : DE K X (tBM0 K T r te) (rBM0 T ro re) := by
  refine ⟨fun η Q Q' hq q => he.mono _ _ _ (fun x η1 ⟨t, q⟩ => ⟨t, h.mono _ _ _ _ _ hq q⟩) q, ?_⟩
  intro B Z H σ η τ P lk o q
  refine he.run B Z H σ η τ _ lk o (he.mono _ _ _ (fun x η1 q Z1 H1 v1 o1 => ?_) q)
  obtain ⟨⟨d, e1, e2, e3⟩, q⟩ := q
  exact ⟨tyV_of (o1.see e1) e2 e3, h.run B Z1 H1 σ η1 τ x v1 [] [] P o1 q⟩
/-- a list of one's own is changed by a method without arguments, which tells d -/
theorem own_upd {B : Base} {Z : Zs} {H : Hp} {σ : L2.St} {η : Env} {τ : List (V × En)} {k : Nat} {v : V} {p : Option Nat} {ds : List Dt} (o : Ok B K Z H σ η τ) (al : σ[k]? = some (some v)) (e : η[k]? = some (some (.mu p (.dt (.lst ds))))) :
    ∃ a vs, v = .ref a ∧ H a = some (.lst vs) ∧ RpAll K Z H vs ds ∧ ∀ vs' ds', RpAll K Z H vs' ds' → Ok B K Z (upd H a (.lst vs')) σ (η.set k (some (.mu p (.dt (.lst ds'))))) τ ∧ ∀ {u d}, Rp K Z H u d → Rp K Z (upd H a (.lst vs')) u d := by
  obtain ⟨w, hw, o3⟩ := o.take e
  rw [al] at hw; cases hw
  obtain ⟨a, rfl, nz, vs, hH, r⟩ := o3.notZ
  refine ⟨a, vs, rfl, hH, r, fun vs' ds' r' => ⟨?_, fun ru => ru.write nz⟩⟩
  have o4 := o3.write (o := .lst vs') (d' := .lst ds') ⟨_, upd_same, r'.write nz⟩
  exact o4.put (List.getElem?_eq_some_iff.mp e).1 al
def roAppend : Vl → ROs := fun x xs η Q => ∃ k p ds y d, x = .sl k ∧ η[k]? = some (some (.mu p (.dt (.lst ds)))) ∧ xs = [y] ∧ frz η y = some d ∧ ds.length < 100000 ∧ Q (.d .non) (η.set k (some (.mu p (.dt (.lst (ds ++ [d]))))))
theorem dm_append : DM K rAppend roAppend := by
  constructor
  · rintro x xs η Q Q' hq ⟨k, p, ds, y, d, e1, e2, e3, e4, e5, q⟩
    exact ⟨k, p, ds, y, d, e1, e2, e3, e4, e5, hq _ _ q⟩
  rintro B Z H σ η τ x v xs vs P ok ⟨k, p, ds, y, d, rfl, e2, rfl, e4, e5, q⟩
  obtain ⟨w, rfl⟩ := ali1 ok.tail.1
  have al : σ[k]? = some (some v) := ok.1.1
  have o1 : OkV B K Z H σ η τ [y] [w] := ok.tail
  obtain ⟨Z2, z2, o2⟩ := o1.frz e4
  obtain ⟨a, ws, rfl, hH, r, up⟩ := own_upd o2.drop al e2
  obtain ⟨o5, rk⟩ := up (ws ++ [w]) (ds ++ [d]) (r.append (.cons o2.rp .nil))
  exact ⟨a, ws, w, rfl, rfl, hH, by rw [r.length]; exact szl e5, q _ _ _ (.d o5 .non)⟩
def roOwn0 (f : List Dt → List Dt) : Vl → ROs := fun x xs η Q => ∃ k p ds, x = .sl k ∧ η[k]? = some (some (.mu p (.dt (.lst ds)))) ∧ xs = [] ∧ Q (.d .non) (η.set k (some (.mu p (.dt (.lst (f ds))))))
theorem dm_clear : DM K rClear (roOwn0 fun _ => []) := by
  constructor
  · rintro x xs η Q Q' hq ⟨k, p, ds, e1, e2, e3, q⟩
    exact ⟨k, p, ds, e1, e2, e3, hq _ _ q⟩
  rintro B Z H σ η τ x v xs vs P ok ⟨k, p, ds, rfl, e2, rfl, q⟩
  cases vs with
  | cons _ _ => have := ok.inv; simp at this
  | nil =>
    obtain ⟨a, ws, rfl, hH, r, up⟩ := own_upd ok.ok ok.1.1 e2
    exact ⟨a, ws, rfl, rfl, hH, q _ _ _ (.d (up [] [] .nil).1 .non)⟩
theorem dm_reverse : DM K rReverse (roOwn0 List.reverse) := by
  constructor
  · rintro x xs η Q Q' hq ⟨k, p, ds, e1, e2, e3, q⟩
    exact ⟨k, p, ds, e1, e2, e3, hq _ _ q⟩
  rintro B Z H σ η τ x v xs vs P ok ⟨k, p, ds, rfl, e2, rfl, q⟩
  cases vs with
  | cons _ _ => have := ok.inv; simp at this
  | nil =>
    obtain ⟨a, ws, rfl, hH, r, up⟩ := own_upd ok.ok ok.1.1 e2
    exact ⟨a, ws, rfl, rfl, hH, q _ _ _ (.d (up _ _ r.reverse).1 .non)⟩
def roPopAt : Vl → ROs := fun x xs η Q => ∃ k p ds y i j d, x = .sl k ∧ η[k]? = some (some (.mu p (.dt (.lst ds)))) ∧ xs = [y] ∧ look η y = some (.int i) ∧ -(2 ^ 63) ≤ i ∧ i < 2 ^ 63 ∧ seqIndex? i ds.length = some j ∧ ds[j]? = some d ∧ Q (.d d) (η.set k (some (.mu p (.dt (.lst (ds.eraseIdx j))))))
theorem dm_popAt : DM K rPopAt roPopAt := by
  constructor
  · rintro x xs η Q Q' hq ⟨k, p, ds, y, i, j, d, e1, e2, e3, e4, e5, e6, e7, e8, q⟩
    exact ⟨k, p, ds, y, i, j, d, e1, e2, e3, e4, e5, e6, e7, e8, hq _ _ q⟩
  rintro B Z H σ η τ x v xs vs P ok ⟨k, p, ds, y, i, j, d, rfl, e2, rfl, e4, e5, e6, e7, e8, q⟩
  obtain ⟨w, rfl⟩ := ali1 ok.tail.1
  have si : See K Z H w (.int i) := ok.tail.see e4
  cases (show w = .int i from si)
  obtain ⟨a, ws, rfl, hH, r, up⟩ := own_upd ok.ok ok.1.1 e2
  obtain ⟨u, h1, h2⟩ := r.get e8
  obtain ⟨o5, rk⟩ := up _ _ (r.erase j)
  exact ⟨a, ws, i, j, u, rfl, rfl, hH, e5, e6, by rw [r.length]; exact e7, h1, q _ _ _ (.d o5 (rk h2))⟩
/-! ### slices, sums of lists -/
structure DO (K : PySem.W.Frag) (X : Wsh) (t : TO) (r : Env → (Option Int → Env → Prop) → Prop) : Prop where
  mono : ∀ η (Q Q' : Option Int → Env → Prop), (∀ x η', Q x η' → Q' x η') → r η Q → r η Q'
  run : ∀ (B : Base) (Z : Zs) (H : Hp) (σ : L2.St) (η : Env) (τ : List (V × En)) (P : Option Int → Hp → Prop), Lk B K X τ → Ok B K Z H σ η τ → r η (fun x η' => ∀ Z' H', Ok B K Z' H' σ η' τ → P x H') → t σ H P
def roNone : Env → (Option Int → Env → Prop) → Prop := fun η Q => Q none η
theorem do_none : DO K X tNoPart roNone := ⟨fun η Q Q' hq q => hq _ _ q, fun B Z H σ η τ P lk o q => q Z H o⟩
def roSome (re : RE) : Env → (Option Int → Env → Prop) → Prop := fun η Q => re η fun x η1 => ∃ i, look η1 x = some (.int i) ∧ Q (some i) η1
theorem do_some {te : TE} {re : RE} (he : DE K X te re) : DO K X (tPart te) (roSome re) := by
  refine ⟨fun η Q Q' hq q => he.mono _ _ _ (fun x η1 ⟨i, e, q⟩ => ⟨i, e, hq _ _ q⟩) q, ?_⟩
  intro B Z H σ η τ P lk o q
  refine he.run B Z H σ η τ _ lk o (he.mono _ _ _ (fun x η1 q Z1 H1 v1 o1 => ?_) q)
  obtain ⟨i, e, q⟩ := q
  exact ⟨i, o1.see e, q Z1 H1 o1.ok⟩
def cutD (ds : List Dt) (lo hi : Option Int) : List Dt := (ds.drop (HT.sIx ds.length 0 lo)).take (HT.sIx ds.length ds.length hi - HT.sIx ds.length 0 lo)
def rSlL' (re : RE) (rl rh : Env → (Option Int → Env → Prop) → Prop) : RE := fun η Q => re η fun x η1 => rl η1 fun lo η2 => rh η2 fun hi η3 => ∃ ds, look η3 x = some (.lst ds) ∧ Q (.nw (.lst (cutD ds lo hi))) η3
theorem de_slL {te : TE} {tl th : TO} {re : RE} {rl rh : Env → (Option Int → Env → Prop) → Prop} (he : DE K X te re) (hl : DO K X tl rl) (hh : DO K X th rh) : DE K X (tSl (rSlL K) te tl th) (rSlL' re rl rh) := by
  refine ⟨fun η Q Q' hq q => he.mono _ _ _ (fun x η1 q => hl.mono _ _ _ (fun lo η2 q => hh.mono _ _ _ (fun hi η3 ⟨ds, e, q⟩ => ⟨ds, e, hq _ _ q⟩) q) q) q, ?_⟩
  intro B Z H σ η τ P lk o q
  refine he.run B Z H σ η τ _ lk o (he.mono _ _ _ (fun x η1 q Z1 H1 v1 o1 => ?_) q)
  refine hl.run B Z1 H1 σ η1 _ _ lk.app o1.2 (hl.mono _ _ _ (fun lo η2 q Z2 H2 o2 => ?_) q)
  refine hh.run B Z2 H2 σ η2 _ _ lk.app o2 (hh.mono _ _ _ (fun hi η3 q Z3 H3 o3 => ?_) q)
  obtain ⟨ds, e, q⟩ := q
  have ov : OkV B K Z3 H3 σ η3 τ [x] [v1] := ⟨o1.1, o3⟩
  obtain ⟨a, vs, rfl, hs, r⟩ := ov.see e
  refine ⟨a, vs, rfl, hs, fun p hp => q _ _ _ (ov.ok.newLst ?_ hp)⟩
  unfold cutV cutD
  rw [r.length]
  exact (r.drop _).take _
end
end D

set_option Elab.async false
set_option linter.all false
set_option maxRecDepth 100000
set_option maxHeartbeats 4000000
namespace D
open PySem PySem.Spec PyProof.Rows L2
/-! ### data that are compared -/
mutual
def toP : Dt → PyData
  | .non => .none
  | .bl b => .bool b
  | .int i => .int i
  | .str x => .str x
  | .lst xs => .list (toPs xs)
  | .tup xs => .tuple (toPs xs)
  | .byt _ => .none
  | .ty _ => .none
  | .dct _ => .none
  | .ins _ _ => .none
  | .ref _ => .none
  | .exn _ _ _ _ => .none
def toPs : List Dt → List PyData
  | [] => []
  | x :: r => toP x :: toPs r
end
theorem toPs_map : ∀ xs : List Dt, toPs xs = xs.map toP
  | [] => by simp [toPs]
  | x :: r => by simp [toPs, toPs_map r]
/-- data without dicts and objects, not deeper than n -/
def Pd : Nat → Dt → Prop
  | _, .non => True
  | _, .bl _ => True
  | _, .int _ => True
  | _, .str _ => True
  | n + 1, .lst xs => ∀ x ∈ xs, Pd n x
  | n + 1, .tup xs => ∀ x ∈ xs, Pd n x
  | _, _ => False
theorem Pd.up : ∀ {n m : Nat} {d : Dt}, Pd n d → n ≤ m → Pd m d := by
  intro n
  induction n with
  | zero =>
    intro m d h _
    cases d <;> first | exact h.elim | (cases m <;> trivial)
  | succ n ih =>
    intro m d h hm
    cases m with
    | zero => omega
    | succ m => cases d <;> first | exact h.elim | trivial | exact fun x hx => ih (h x hx) (by omega)
theorem pd_nat : ∀ {n : Nat} {d : Dt}, Pd n d → (toP d).plain = true ∧ (toP d).depth ≤ n := by
  intro n
  have all : ∀ {n : Nat} {xs : List Dt}, (∀ x ∈ xs, (toP x).plain = true ∧ (toP x).depth ≤ n) → PyData.plainAll (toPs xs) = true ∧ PyData.depthAll (toPs xs) ≤ n := by
    intro n xs
    induction xs with
    | nil => intro _; simp [toPs, PyData.plainAll, PyData.depthAll]
    | cons x r ih =>
      intro h
      obtain ⟨h1, h2⟩ := h x (by simp)
      obtain ⟨h3, h4⟩ := ih fun y hy => h y (by simp [hy])
      constructor
      · simp [toPs, PyData.plainAll, h1, h3]
      · simp only [toPs, PyData.depthAll]
        omega
  induction n with
  | zero =>
    intro d h
    cases d <;> first | exact h.elim | simp [toP, PyData.plain, PyData.depth]
  | succ n ih =>
    intro d h
    cases d with
    | lst xs =>
      obtain ⟨h1, h2⟩ := all fun x hx => ih (h x hx)
      exact ⟨by simpa [toP, PyData.plain] using h1, by simp only [toP, PyData.depth]; omega⟩
    | tup xs =>
      obtain ⟨h1, h2⟩ := all fun x hx => ih (h x hx)
      exact ⟨by simpa [toP, PyData.plain] using h1, by simp only [toP, PyData.depth]; omega⟩
    | _ => first | exact h.elim | simp [toP, PyData.plain, PyData.depth]
section
variable {K : PySem.W.Frag} {X : Wsh} {Z : Zs} {H : Hp}
theorem dp_of : ∀ {n : Nat} {d : Dt} {v : V}, Pd n d → Rp K Z H v d → Dp K H v (toP d) := by
  intro n
  have st : ∀ {a : Addr} {vs : List V}, (Z a ∧ Rd H a (.tup vs)) ∨ KT K a vs → SqT K H a vs := fun h => h.imp (fun q => q.2) id
  have all : ∀ {n : Nat} {xs : List Dt} {vs : List V}, (∀ x ∈ xs, Pd n x) → RpAll K Z H vs xs → (∀ {d : Dt} {v : V}, Pd n d → Rp K Z H v d → Dp K H v (toP d)) → DpAll K H vs (toPs xs) := by
    intro n xs
    induction xs with
    | nil => intro vs _ r _; cases r; simp only [toPs]; exact .nil
    | cons x r ih =>
      intro vs h rr f
      cases rr with
      | cons a b =>
        simp only [toPs]
        exact .cons (f (h x (by simp)) a) (ih (fun y hy => h y (by simp [hy])) b f)
  induction n with
  | zero =>
    intro d v h r
    cases r with
    | non => simp only [toP]; exact .non
    | bl b => simp only [toP]; exact .bl b
    | int b => simp only [toP]; exact .int b
    | str b => simp only [toP]; exact .str b
    | _ => exact h.elim
  | succ n ih =>
    intro d v h r
    cases r with
    | non => simp only [toP]; exact .non
    | bl b => simp only [toP]; exact .bl b
    | int b => simp only [toP]; exact .int b
    | str b => simp only [toP]; exact .str b
    | lst z hs ra => simp only [toP]; exact .lst (.inl (.inl hs)) (all h ra ih)
    | tup hs ra => simp only [toP]; exact .tup (st hs) (all h ra ih)
    | _ => exact h.elim
theorem dps_of {n : Nat} : ∀ {xs : List Dt} {vs : List V}, (∀ x ∈ xs, Pd n x) → RpAll K Z H vs xs → DpAll K H vs (toPs xs)
  | [], vs, _, r => by cases r; simp only [toPs]; exact .nil
  | x :: xs, vs, h, r => by
    cases r with
    | cons a b =>
      simp only [toPs]
      exact .cons (dp_of (h x (by simp)) a) (dps_of (fun y hy => h y (by simp [hy])) b)
theorem dp_see {n : Nat} {d : Dt} {v : V} (h : Pd n d) (s : See K Z H v d) : Dp K H v (toP d) := by
  cases d with
  | non => cases (show v = .non from s); simp only [toP]; exact .non
  | bl b => cases (show v = .bl b from s); simp only [toP]; exact .bl b
  | int b => cases (show v = .int b from s); simp only [toP]; exact .int b
  | str b => cases (show v = .str b from s); simp only [toP]; exact .str b
  | lst xs =>
    obtain ⟨a, vs, rfl, hs, r⟩ := s
    cases n with
    | zero => exact h.elim
    | succ n => simp only [toP]; exact .lst hs (dps_of h r)
  | tup xs =>
    obtain ⟨a, vs, rfl, hs, r⟩ := s
    cases n with
    | zero => exact h.elim
    | succ n => simp only [toP]; exact .tup hs (dps_of h r)
  | _ => cases n <;> exact h.elim
end
/-- == of data -/
def deq (a b : Dt) : Bool := PyData.eqv (toP a) (toP b)
theorem deq_self {n : Nat} {d : Dt} (h : Pd n d) : deq d d = true := SeqAt.eqv_refl_plain _ (pd_nat h).1
/-! ### == and != -/
def rEqP (K : PySem.W.Frag) : R2 := fun x y H Q => ∃ d e, Dp K H x d ∧ Dp K H y e ∧ d.plain = true ∧ e.plain = true ∧ min d.depth e.depth ≤ 40 ∧ Q (.bl (PyData.eqv d e)) H
def rNeP (K : PySem.W.Frag) : R2 := fun x y H Q => ∃ d e, Dp K H x d ∧ Dp K H y e ∧ d.plain = true ∧ e.plain = true ∧ min d.depth e.depth ≤ 40 ∧ Q (.bl (!PyData.eqv d e)) H
theorem op_eqP {X : Cx} (hu : X.A.units + 64 < cLine) : OpR X (compareOp .Eq) (rEqP X.K) := by
  intro pins s σ H x y v u Q I rx ry h
  obtain ⟨d, e, hd, he, sd, se, hm, q⟩ := h
  obtain ⟨as, r1⟩ := Dp.reads I d x v hd rx
  obtain ⟨bs, r2⟩ := Dp.reads I e y u he ry
  exact SeqAt.eq_plain r1 r2 sd se (by omega) ⟨.bl _, H, I, rfl, q⟩
theorem op_neP {X : Cx} (hu : X.A.units + 64 < cLine) : OpR X (compareOp .NotEq) (rNeP X.K) := by
  intro pins s σ H x y v u Q I rx ry h
  obtain ⟨d, e, hd, he, sd, se, hm, q⟩ := h
  obtain ⟨as, r1⟩ := Dp.reads I d x v hd rx
  obtain ⟨bs, r2⟩ := Dp.reads I e y u he ry
  exact SeqAt.ne_plain r1 r2 sd se (by omega) ⟨.bl _, H, I, rfl, q⟩
def rInP (K : PySem.W.Frag) (neg : Bool) : R2 := fun x y H Q => ∃ d es, Dp K H x d ∧ (Dp K H y (.list es) ∨ Dp K H y (.tuple es)) ∧ d.plain = true ∧ PyData.plainAll es = true ∧ min (PyData.depthAll es) d.depth ≤ 40 ∧ Q (.bl (if neg then !(es.any fun y => PyData.eqv y d) else es.any fun y => PyData.eqv y d)) H
theorem op_inP {X : Cx} (hu : X.A.units + 64 < cLine) : OpR X (compareOp .In) (rInP X.K false) := by
  intro pins s σ H x y v u Q I rx ry h
  obtain ⟨d, es, hd, he, sd, se, hm, q⟩ := h
  obtain ⟨as, r1⟩ := Dp.reads I d x v hd rx
  rcases he with he | he
  · obtain ⟨bs, r2⟩ := Dp.reads I _ y u he ry
    exact SeqAt.in_list_data r2 r1 se sd (by omega) ⟨.bl _, H, I, rfl, q⟩
  · obtain ⟨bs, r2⟩ := Dp.reads I _ y u he ry
    exact SeqAt.in_tuple_data r2 r1 se sd (by omega) ⟨.bl _, H, I, rfl, q⟩
theorem op_notInP {X : Cx} (hu : X.A.units + 64 < cLine) : OpR X (compareOp .NotIn) (rInP X.K true) := by
  intro pins s σ H x y v u Q I rx ry h
  obtain ⟨d, es, hd, he, sd, se, hm, q⟩ := h
  obtain ⟨as, r1⟩ := Dp.reads I d x v hd rx
  rcases he with he | he
  · obtain ⟨bs, r2⟩ := Dp.reads I _ y u he ry
    exact SeqAt.notIn_list_data r2 r1 se sd (by omega) ⟨.bl _, H, I, rfl, q⟩
  · obtain ⟨bs, r2⟩ := Dp.reads I _ y u he ry
    exact SeqAt.notIn_tuple_data r2 r1 se sd (by omega) ⟨.bl _, H, I, rfl, q⟩
/-- with bytes beside -/
def rEqA (K : PySem.W.Frag) : R2 := fun x y H Q => rEqP K x y H Q ∨ rEq x y H Q
def rNeA (K : PySem.W.Frag) : R2 := fun x y H Q => rNeP K x y H Q ∨ rNe x y H Q
theorem op_eqA {X : Cx} (hu : X.A.units + 64 < cLine) : OpR X (compareOp .Eq) (rEqA X.K) := (op_eqP hu).or op_eq
theorem op_neA {X : Cx} (hu : X.A.units + 64 < cLine) : OpR X (compareOp .NotEq) (rNeA X.K) := (op_neP hu).or op_ne
/-- the answer of == -/
def EqV (a b : Dt) (k : Bool) : Prop := (∃ n m, n ≤ 40 ∧ Pd n a ∧ Pd m b ∧ k = deq a b) ∨ ∃ x y, a = .byt x ∧ b = .byt y ∧ k = decide (x = y)
def REq : Dt → Dt → Dt → Prop := fun a b d => ∃ k, EqV a b k ∧ d = .bl k
def RNe : Dt → Dt → Dt → Prop := fun a b d => ∃ k, EqV a b k ∧ d = .bl (!k)
section
variable {K : PySem.W.Frag} {X : Wsh}
theorem dec_byt' {x y : Array UInt8} : decide (V.byt x = V.byt y) = decide (x = y) := by
  by_cases e : x = y
  · subst e; simp
  · have : ¬ (V.byt x = V.byt y) := fun q => e (V.byt.inj q)
    rw [decide_eq_false this, decide_eq_false e]
theorem p2_eq : P2 K (rEqA K) REq := by
  constructor
  rintro Z H v w dx dy d P s1 s2 ⟨k, (⟨n, m, hn, h1, h2, rfl⟩ | ⟨x, y, rfl, rfl, rfl⟩), rfl⟩ q
  · refine .inl ⟨toP dx, toP dy, dp_see h1 s1, dp_see h2 s2, (pd_nat h1).1, (pd_nat h2).1, ?_, q _ (.bl _)⟩
    have := (pd_nat h1).2
    omega
  · cases (show v = .byt x from s1)
    cases (show w = .byt y from s2)
    exact .inr ⟨rfl, by rw [dec_byt']; exact q _ (.bl _)⟩
theorem p2_ne : P2 K (rNeA K) RNe := by
  constructor
  rintro Z H v w dx dy d P s1 s2 ⟨k, (⟨n, m, hn, h1, h2, rfl⟩ | ⟨x, y, rfl, rfl, rfl⟩), rfl⟩ q
  · refine .inl ⟨toP dx, toP dy, dp_see h1 s1, dp_see h2 s2, (pd_nat h1).1, (pd_nat h2).1, ?_, q _ (.bl _)⟩
    have := (pd_nat h1).2
    omega
  · cases (show v = .byt x from s1)
    cases (show w = .byt y from s2)
    exact .inr ⟨rfl, by rw [dec_byt']; exact q _ (.bl _)⟩
/-- in, not in: data in a list or a tuple; a sign in a text -/
def InV (a b : Dt) (k : Bool) : Prop := (∃ n m es, n ≤ 40 ∧ Pd n a ∧ (b = .lst es ∨ b = .tup es) ∧ (∀ e ∈ es, Pd m e) ∧ k = es.any fun e => deq e a) ∨ ∃ c s, a = .str ⟨#[c]⟩ ∧ b = .str s ∧ k = decide (c ∈ s.cps.toList)
def RIn : Dt → Dt → Dt → Prop := fun a b d => ∃ k, InV a b k ∧ d = .bl k
def RNotIn : Dt → Dt → Dt → Prop := fun a b d => ∃ k, InV a b k ∧ d = .bl (!k)
def rInA (K : PySem.W.Frag) : R2 := fun x y H Q => rInP K false x y H Q ∨ ∃ (c : Nat) (z : Str), x = .str ⟨#[c]⟩ ∧ y = .str z ∧ Q (.bl (decide (c ∈ z.cps.toList))) H
def rNotInA (K : PySem.W.Frag) : R2 := fun x y H Q => rInP K true x y H Q ∨ ∃ (c : Nat) (z : Str), x = .str ⟨#[c]⟩ ∧ y = .str z ∧ Q (.bl (!decide (c ∈ z.cps.toList))) H
theorem any_toPs (es : List Dt) (a : Dt) : ((toPs es).any fun y => PyData.eqv y (toP a)) = es.any fun e => deq e a := by
  rw [toPs_map, List.any_map]
  rfl
theorem plainAll_of {m : Nat} : ∀ {es : List Dt}, (∀ e ∈ es, Pd m e) → PyData.plainAll (toPs es) = true
  | [], _ => by simp [toPs, PyData.plainAll]
  | x :: r, h => by simp [toPs, PyData.plainAll, (pd_nat (h x (by simp))).1, plainAll_of (es := r) fun e he => h e (by simp [he])]
theorem p2_in : P2 K (rInA K) RIn := by
  constructor
  rintro Z H v w dx dy d P s1 s2 ⟨k, (⟨n, m, es, hn, h1, h2, h3, rfl⟩ | ⟨x, y, rfl, rfl, rfl⟩), rfl⟩ q
  · refine .inl ⟨toP dx, toPs es, dp_see h1 s1, ?_, (pd_nat h1).1, plainAll_of h3, ?_, ?_⟩
    · rcases h2 with rfl | rfl
      · exact .inl (by have := dp_see (n := m + 1) (d := .lst es) h3 s2; simpa [toP] using this)
      · exact .inr (by have := dp_see (n := m + 1) (d := .tup es) h3 s2; simpa [toP] using this)
    · have := (pd_nat h1).2
      omega
    · rw [any_toPs]; exact q _ (.bl _)
  · cases (show v = .str ⟨#[x]⟩ from s1)
    cases (show w = .str y from s2)
    exact .inr ⟨x, y, rfl, rfl, q _ (.bl _)⟩
theorem p2_notIn : P2 K (rNotInA K) RNotIn := by
  constructor
  rintro Z H v w dx dy d P s1 s2 ⟨k, (⟨n, m, es, hn, h1, h2, h3, rfl⟩ | ⟨x, y, rfl, rfl, rfl⟩), rfl⟩ q
  · refine .inl ⟨toP dx, toPs es, dp_see h1 s1, ?_, (pd_nat h1).1, plainAll_of h3, ?_, ?_⟩
    · rcases h2 with rfl | rfl
      · exact .inl (by have := dp_see (n := m + 1) (d := .lst es) h3 s2; simpa [toP] using this)
      · exact .inr (by have := dp_see (n := m + 1) (d := .tup es) h3 s2; simpa [toP] using this)
    · have := (pd_nat h1).2
      omega
    · rw [any_toPs]; exact q _ (.bl _)
  · cases (show v = .str ⟨#[x]⟩ from s1)
    cases (show w = .str y from s2)
    exact .inr ⟨x, y, rfl, rfl, q _ (.bl _)⟩
end
theorem op_inA {X : Cx} (hu : X.A.units + 64 < cLine) : OpR X (compareOp .In) (rInA X.K) := (op_inP hu).or op_in_sign
theorem op_notInA {X : Cx} (hu : X.A.units + 64 < cLine) : OpR X (compareOp .NotIn) (rNotInA X.K) := (op_notInP hu).or op_notIn_sign
/-- is None -/
def RIsN : Dt → Dt → Dt → Prop := fun a b d => b = .non ∧ ((a = .non ∧ d = .bl true) ∨ (a ≠ .non ∧ d = .bl false))
def RNotN : Dt → Dt → Dt → Prop := fun a b d => b = .non ∧ ((a = .non ∧ d = .bl false) ∨ (a ≠ .non ∧ d = .bl true))
section
variable {K : PySem.W.Frag} {X : Wsh} {Z : Zs} {H : Hp}
theorem see_non {v : V} {d : Dt} (s : See K Z H v d) : decide (v = .non) = true ↔ d = .non := by
  rw [decide_eq_true_iff]
  constructor
  · rintro rfl
    cases d with
    | non => rfl
    | lst _ => obtain ⟨a, vs, h, _⟩ := s; cases h
    | tup _ => obtain ⟨a, vs, h, _⟩ := s; cases h
    | dct _ => obtain ⟨a, ks, vs, ds, h, _⟩ := s; cases h
    | ins _ _ => obtain ⟨a, dx, ks, vs, ds, h, _⟩ := s; cases h
    | exn _ _ _ _ => obtain ⟨h, _⟩ := s; cases h
    | bl b => cases (show V.non = .bl b from s)
    | int b => cases (show V.non = .int b from s)
    | str b => cases (show V.non = .str b from s)
    | byt b => cases (show V.non = .byt b from s)
    | ty b => cases (show V.non = .ty b from s)
    | ref b => cases (show V.non = .ref b from s)
  · rintro rfl
    exact s
theorem p2_isN : P2 K (fun x y H Q => y = .non ∧ Q (.bl (decide (x = .non))) H) RIsN := by
  constructor
  rintro Z H v w dx dy d P s1 s2 ⟨rfl, (⟨rfl, rfl⟩ | ⟨h, rfl⟩)⟩ q
  · exact ⟨s2, by rw [(see_non s1).mpr rfl]; exact q _ (.bl _)⟩
  · have : decide (v = .non) = false := by
      cases e : decide (v = V.non) with
      | false => rfl
      | true => exact absurd ((see_non s1).mp e) h
    exact ⟨s2, by rw [this]; exact q _ (.bl _)⟩
theorem p2_notN : P2 K (fun x y H Q => y = .non ∧ Q (.bl (!decide (x = .non))) H) RNotN := by
  constructor
  rintro Z H v w dx dy d P s1 s2 ⟨rfl, (⟨rfl, rfl⟩ | ⟨h, rfl⟩)⟩ q
  · exact ⟨s2, by rw [(see_non s1).mpr rfl]; exact q _ (.bl _)⟩
  · have : decide (v = .non) = false := by
      cases e : decide (v = V.non) with
      | false => rfl
      | true => exact absurd ((see_non s1).mp e) h
    exact ⟨s2, by rw [this]; exact q _ (.bl _)⟩
/-! ### + and * -/
def RAddS : Dt → Dt → Dt → Prop := fun x y d => ∃ a b, x = .str a ∧ y = .str b ∧ a.length + b.length ≤ 100000 ∧ d = .str (a ++ b)
theorem p2_addS : P2 K (fun x y H Q => ∃ i j, x = V.str i ∧ y = V.str j ∧ i.length + j.length ≤ sizeLine ∧ Q (.str (i ++ j)) H) RAddS := by
  constructor
  rintro Z H v w dx dy d P s1 s2 ⟨a, b, rfl, rfl, h, rfl⟩ q
  cases (show v = .str a from s1)
  cases (show w = .str b from s2)
  exact ⟨a, b, rfl, rfl, sz h, q _ (.str _)⟩
def RAddB : Dt → Dt → Dt → Prop := fun x y d => ∃ a b, x = .byt a ∧ y = .byt b ∧ a.size + b.size ≤ 100000 ∧ d = .byt (a ++ b)
theorem p2_addB : P2 K (fun x y H Q => ∃ i j, x = V.byt i ∧ y = V.byt j ∧ i.size + j.size ≤ 16777216 ∧ Q (.byt (i ++ j)) H) RAddB := by
  constructor
  rintro Z H v w dx dy d P s1 s2 ⟨a, b, rfl, rfl, h, rfl⟩ q
  cases (show v = .byt a from s1)
  cases (show w = .byt b from s2)
  exact ⟨a, b, rfl, rfl, by omega, q _ (.byt _)⟩
/-- a list that is told whole -/
def trk (η : Env) : Vl → Option (List Dt)
  | .d (.lst ds) => some ds
  | .nw (.lst ds) => some ds
  | .sl i => match η[i]? with
    | some (some (.mu _ (.dt (.lst ds)))) => some ds
    | _ => none
  | _ => none
theorem OkV.trk {B : Base} {σ : L2.St} {η : Env} {τ : List (V × En)} {x : Vl} {v : V} {ds : List Dt} (o : OkV B K Z H σ η τ [x] [v]) (h : D.trk η x = some ds) : ∃ a vs, v = .ref a ∧ H a = some (.lst vs) ∧ RpAll K Z H vs ds := by
  cases x with
  | d y =>
    cases y with
    | lst es =>
      cases h
      cases o.2.rp with
      | lst z h r => exact ⟨_, _, rfl, h, r⟩
    | _ => cases h
  | nw y =>
    cases y with
    | lst es =>
      cases h
      obtain ⟨F, ⟨a, e1, e2, vs, e3, e4⟩, _⟩ := o.2.head
      exact ⟨a, vs, e1, e3, e4⟩
    | _ => cases h
  | sl i =>
    unfold D.trk at h
    simp only at h
    split at h
    · rename_i p es e
      cases h
      obtain ⟨w, hw, o'⟩ := o.2.take e
      rw [o.1.1] at hw; cases hw
      obtain ⟨a, e1, nz, vs, h1, h2⟩ := o'.notZ
      exact ⟨a, vs, e1, h1, h2⟩
    · cases h
/-- + of lists: a new one -/
def roCat : RO2 := fun x y η Q => ∃ xs ys, trk η x = some xs ∧ trk η y = some ys ∧ xs.length + ys.length ≤ 100000 ∧ Q (.nw (.lst (xs ++ ys))) η
theorem d2_cat : D2 K rCat roCat := by
  constructor
  · rintro x y η Q Q' hq ⟨xs, ys, e1, e2, e3, q⟩
    exact ⟨xs, ys, e1, e2, e3, hq _ _ q⟩
  rintro B Z H σ η τ x y v w P o ⟨xs, ys, e1, e2, e3, q⟩
  obtain ⟨a, vs, rfl, h1, r1⟩ := o.head.trk e1
  obtain ⟨b, ws, rfl, h2, r2⟩ := o.tail.trk e2
  exact ⟨a, b, vs, ws, rfl, rfl, h1, h2, by rw [r1.length, r2.length]; exact sz e3, fun p hp => q _ _ _ (o.ok.newLst (r1.append r2) hp)⟩
/-- a list times a number -/
def roRep : RO2 := fun x y η Q => ∃ xs k, trk η x = some xs ∧ look η y = some (.int k) ∧ -(2 ^ 63) ≤ k ∧ k < 2 ^ 63 ∧ xs.length * k.toNat ≤ 100000 ∧ Q (.nw (.lst (List.replicate k.toNat xs).flatten)) η
theorem RpAll.rep {vs : List V} {ds : List Dt} (r : RpAll K Z H vs ds) : ∀ k, RpAll K Z H (List.replicate k vs).flatten (List.replicate k ds).flatten
  | 0 => .nil
  | k + 1 => by
    rw [List.replicate_succ, List.replicate_succ, List.flatten_cons, List.flatten_cons]
    exact r.append (RpAll.rep r k)
theorem d2_rep : D2 K rRep roRep := by
  constructor
  · rintro x y η Q Q' hq ⟨xs, k, e1, e2, e3, e4, e5, q⟩
    exact ⟨xs, k, e1, e2, e3, e4, e5, hq _ _ q⟩
  rintro B Z H σ η τ x y v w P o ⟨xs, k, e1, e2, e3, e4, e5, q⟩
  obtain ⟨a, vs, rfl, h1, r1⟩ := o.head.trk e1
  have s := o.tail.see e2
  cases (show w = .int k from s)
  exact ⟨a, k, vs, rfl, rfl, h1, e3, e4, by rw [r1.length]; exact sz e5, fun p hp => q _ _ _ (o.ok.newLst (r1.rep _) hp)⟩
/-- + of tuples, the left one not empty -/
def roCatT : RO2 := fun x y η Q => ∃ xs ys, look η x = some (.tup xs) ∧ look η y = some (.tup ys) ∧ xs ≠ [] ∧ ys ≠ [] ∧ xs.length + ys.length ≤ 100000 ∧ Q (.d (.tup (xs ++ ys))) η
theorem d2_catT : D2 K (rCatT K) roCatT := by
  constructor
  · rintro x y η Q Q' hq ⟨xs, ys, e1, e2, e3, e4, e5, q⟩
    exact ⟨xs, ys, e1, e2, e3, e4, e5, hq _ _ q⟩
  rintro B Z H σ η τ x y v w P o ⟨xs, ys, e1, e2, e3, e4, e5, q⟩
  obtain ⟨s1, s2⟩ := o.see2 e1 e2
  obtain ⟨a, vs, rfl, h1, r1⟩ := s1
  obtain ⟨b, ws, rfl, h2, r2⟩ := s2
  have l1 := r1.length
  have l2 := r2.length
  refine ⟨a, b, vs, ws, rfl, rfl, h1, h2, ?_, by rw [l1, l2]; exact sz e5, fun h => ?_, fun _ p hp => q _ _ _ (o.ok.newTup (r1.append r2) hp)⟩
  · rintro rfl
    cases xs with
    | nil => exact e3 rfl
    | cons _ _ => simp at l1
  · subst h
    cases ys with
    | nil => exact absurd rfl e4
    | cons _ _ => simp at l2
end
end D

set_option Elab.async false
set_option linter.all false
set_option maxRecDepth 100000
set_option maxHeartbeats 4000000
namespace D
open PySem PySem.Spec PyProof.Rows L2
variable {K : PySem.W.Frag} {X : Wsh}
theorem DS.w0 {t : TS} {r : RS} (h : DS K W0 t r) : DS K X t r := ⟨h.mono, fun B Z H σ η τ E _ o q => h.run B Z H σ η τ E Lk.none o q⟩
theorem run_body0 {ms : List Md} {S : Spc} {vs : List V} {N : List Str} {Q : VK} {E : XK} {t : TS} {r : List Ct → RS} (h : toSp K ms S vs H Q E) (hN : ms.length ≤ N.length)
    (hd : ∀ as, DS K W0 t (r as)) (hr : ∀ as, S.pre as → as.length = ms.length → r as (bodyD ms (S.post as)) (startE N.length ms as)) :
    t { nx := fun _ H' => Q .non H', rt := Q } (start N vs) H := run_body h hN (fun as => (hd as).w0) hr
def roNeg : RO1 := fun x η Q => ∃ i, look η x = some (.int i) ∧ Q (.d (.int (-i))) η
theorem d1_neg : D1 K (rU fun i => .int (-i)) roNeg := by
  constructor
  · rintro x η Q Q' hq ⟨i, e, q⟩
    exact ⟨i, e, hq _ _ q⟩
  rintro B Z H σ η τ x v P o ⟨i, e, q⟩
  exact ⟨i, o.see e, q Z H _ (.d o.ok (.int _))⟩
def rDNew : RE := fun η Q => Q (.nw (.dct [])) η
theorem de_dnew : DE K X tDNewK rDNew := by
  constructor
  · exact fun η Q Q' hq q => hq _ _ q
  intro B Z H σ η τ P lk o q p hp
  exact q _ _ _ (.nw (o.new hp ⟨[], [], [], rfl, rfl, upd_same, .nil⟩))
def RListB : Dt → List Dt → Prop := fun x ds => ∃ b, x = .byt b ∧ b.size ≤ 100000 ∧ ds = (bi b).map .int
theorem RpAll.ints {Z : Zs} {H : Hp} : ∀ ns : List Int, RpAll K Z H (ns.map .int) (ns.map .int)
  | [] => .nil
  | n :: ns => .cons (.int n) (RpAll.ints ns)
theorem l1_listB : L1 K (r1 kLstB) RListB := by
  constructor
  rintro Z H v dx ds P s ⟨b, rfl, l, rfl⟩ k
  cases (show v = .byt b from s)
  exact ⟨b, rfl, sz l, fun q hq => k _ q (RpAll.ints _) hq⟩
end D

set_option Elab.async false
set_option linter.all false
set_option maxRecDepth 100000
set_option maxHeartbeats 4000000
namespace D
open PySem PySem.Spec PyProof.Rows L2
/-! ### the way there and back of a call -/
theorem call_core {K : PySem.W.Frag} {ms : List Md} {B : Base} {σ : L2.St} {η1 : Env} {τ : List (V × En)} {Z1 : Zs} {H1 : Hp} {xs : List Vl} {vs : List V} {as : List Ct} (o1 : OkV B K Z1 H1 σ η1 τ xs vs) (e : argsD ms xs η1 = some as) :
    ∃ (Z2 : Zs) (G' : List Addr), ArgsOk K Z2 H1 G' vs ms as G' ∧ (∀ b ∈ G', ¬ Z2 b ∧ H1 b ≠ none) ∧ (∀ b, Z2 b → H1 b ≠ none) ∧
      ∀ (Z' : Zs) (H' : Hp) (cs' : List Ct) (ys : List Vl) (ws : List V), Lv K ms vs H1 Z2 G' Z' H' cs' ys ws → Ok B K Z' H' σ (remP ms xs η1) (pl ms vs (flagsP ms xs η1) cs' ++ (tmp ys ws ++ τ)) := by
  unfold argsD at e
  cases ec : conP ms xs η1 with
  | none => rw [ec] at e; cases e
  | some cs =>
    rw [ec] at e
    have e : entD (remP ms xs η1) ms xs cs = some as := e
    have o2 := call_outs o1.1 ec o1.2
    -- the written ones' addresses
    obtain ⟨F0, h0⟩ := id o2
    have split : ∀ {Z : Zs} {τ' : List (V × En)}, Ok B K Z H1 σ (remP ms xs η1) (pl ms vs (flagsP ms xs η1) cs ++ τ') → ∃ G Gr, Sep B K Z H1 (pl ms vs (flagsP ms xs η1) cs) G ∧ OkF B K Z H1 σ (remP ms xs η1) τ' Gr ∧ (∀ b, b ∈ G → b ∉ Gr) ∧ ∀ b ∈ G, ¬ Z b ∧ H1 b ≠ none ∧ (B.H0 b = none ∨ b ∈ B.F0) := by
      intro Z τ' ⟨F0, h0⟩
      obtain ⟨F1, s1, m1⟩ := h0.sep.perm (l' := pl ms vs (flagsP ms xs η1) cs ++ (pack σ (remP ms xs η1) ++ τ')) pm3
      obtain ⟨G, Gr, sG, sR, dG, eG⟩ := Sep.append.mp s1
      exact ⟨G, Gr, sG, ⟨h0.slots, sR, fun b hb => h0.live b ((m1 b).mp (by rw [eG]; exact List.mem_append_right _ hb)), h0.base, h0.there, h0.grow, h0.old, h0.zl⟩, dG, fun b hb => h0.live b ((m1 b).mp (by rw [eG]; exact List.mem_append_left _ hb))⟩
    obtain ⟨G, Gr, sG, hR, dG, lG⟩ := split o2
    have hown : ∀ (Z' : Zs) (i : Nat) (v : V) (p : Option Nat) (d : Dt), (∀ b, Z1 b → Z' b) → σ[i]? = some (some v) → (remP ms xs η1)[i]? = some (some (En.mu p (.dt d))) → ∀ τ', Ok B K Z' H1 σ (remP ms xs η1) (pl ms vs (flagsP ms xs η1) cs ++ τ') → ∃ a, v = V.ref a ∧ (∃ o, H1 a = some o) ∧ a ∉ G ∧ BorAt K Z' H1 a d := by
      intro Z' i v p d hz hv hi τ' _
      obtain ⟨w, hw, pm⟩ := pack_take hR.slots hi
      rw [hv] at hw; cases hw
      obtain ⟨F2, e2, m2⟩ := hR.sep.mem (p := (v, En.mu p (.dt d))) (List.mem_append_left _ (pm.mem_iff.mpr (by simp)))
      obtain ⟨⟨a, g1, g2, g3⟩, _⟩ := e2
      exact ⟨a, g1, g3.there, fun hm => dG a hm (m2 a (by rw [g2]; simp)), BorAt.mono (.inl g3) hz fun _ _ _ e => e⟩
    obtain ⟨Z2, z2, o3, vb⟩ := call_vals (fun b hb => (lG b hb).2.2) o1.1 e o2 hown
    obtain ⟨G', Gr', sG', hR', dG', lG'⟩ := split o3
    have eG : G' = G := sG'.uniq sG
    subst eG
    have hA := args_of vb e (flags_len ec) sG'
    -- the way back
    have back : ∀ (Z' : Zs) (H' : Hp) (cs' : List Ct) (ys : List Vl) (ws : List V), Lv K ms vs H1 Z2 G' Z' H' cs' ys ws → Ok B K Z' H' σ (remP ms xs η1) (pl ms vs (flagsP ms xs η1) cs' ++ (tmp ys ws ++ τ)) := by
      intro Z' H' cs' ys ws lv
      obtain ⟨F', sF, lF⟩ := lv.sep
      have nn : ∀ b, H1 b = none → B.H0 b = none := fun b hb => by
        cases q : B.H0 b with
        | none => rfl
        | some o => exact absurd hb (hR'.there b (by rw [q]; simp))
      obtain ⟨F2, s2, m2⟩ := pl_back (B := B) nn lv.ali (flags_len ec) sG' sF
      have hb' : Bs B H' := fun b o e n => lv.bs b o (hR'.base b o e n) fun hm => by
        rcases (lG' b hm).2.2 with q | q
        · rw [e] at q; cases q
        · exact n q
      have sR' : Sep B K Z' H' (pack σ (remP ms xs η1) ++ τ) Gr' := hR'.sep.mono hR'.base hb' lv.old fun b o hz e => lv.bs b o e fun hm => by
        rcases hz with z | z
        · exact (lG' b hm).1 z
        · exact dG' b hm z
      have dis : ∀ b, b ∈ F2 → b ∉ Gr' := fun b hb hm => by
        rcases (lF b (m2 b hb)).2.2 with q | q
        · exact (hR'.live b hm).2.1 q
        · exact dG' b q hm
      obtain ⟨F3, s3, m3⟩ := Sep.perm (B := B) (K := K) (Z := Z') (H := H') (l := (pl ms vs (flagsP ms xs η1) cs' ++ tmp ys ws) ++ (pack σ (remP ms xs η1) ++ τ)) (l' := pack σ (remP ms xs η1) ++ ((pl ms vs (flagsP ms xs η1) cs' ++ tmp ys ws) ++ τ)) pm3 (F := F2 ++ Gr') (Sep.append.mpr ⟨F2, Gr', s2, sR', dis, rfl⟩)
      have o5 : Ok B K Z' H' σ (remP ms xs η1) (pl ms vs (flagsP ms xs η1) cs' ++ (tmp ys ws ++ τ)) := by
        rw [← List.append_assoc]
        refine ⟨F3, hR'.slots, s3, fun b hb => ?_, hb', fun b n => lv.there b (hR'.there b n), fun b z => ?_, fun b z => lv.old b (hR'.old b z), lv.zl⟩
        · rcases List.mem_append.mp ((m3 b).mp hb) with q | q
          · obtain ⟨l1, l2, l3⟩ := lF b (m2 b q)
            refine ⟨l1, l2, ?_⟩
            rcases l3 with l3 | l3
            · exact .inl (nn b l3)
            · exact (lG' b l3).2.2
          · obtain ⟨l1, l2, l3⟩ := hR'.live b q
            refine ⟨fun z => ?_, lv.there b l2, l3⟩
            rcases lv.grow b z with z | z
            · exact l1 z
            · exact l2 z
        · rcases lv.grow b z with z | z
          · exact hR'.grow b z
          · exact .inr (nn b z)
      exact o5
    exact ⟨Z2, G', hA, fun b hb => ⟨(lG' b hb).1, (lG' b hb).2.1⟩, hR'.zl, back⟩
/-- a call, judged -/
theorem call_go {K : PySem.W.Frag} {X : Wsh} {ms : List Md} {S : Spc} {B : Base} {σ : L2.St} {η1 : Env} {τ : List (V × En)} {Z1 : Zs} {H1 : Hp} {xs : List Vl} {vs : List V} {as : List Ct} {P : VK} {E : XK} (lk : Lk B K X τ) (hE : ∀ C d H, X.W (.ref C) d σ H → E (.ref C) d H)
    (o1 : OkV B K Z1 H1 σ η1 τ xs vs) (e : argsD ms xs η1 = some as) (hp : S.pre as) (h1 : ∀ y cs, S.post as y cs → ∀ Z' H' v, OkV B K Z' H' σ (aft ms xs η1 cs) τ [y] [v] → P v H') (h2 : ∀ C fs cs, S.exc as C fs cs → X.w C fs (aft ms xs η1 cs)) : toSp K ms S vs H1 P E := by
  obtain ⟨Z2, G', hA, hG, hz, back⟩ := call_core o1 e
  refine ⟨as, Z2, G', hA, hG, hz, hp, fun y cs' hpost Z' H' v lv => ?_, fun C fs cs' hx Z' H' d lv xd => ?_⟩
  · exact h1 y cs' hpost Z' H' v ⟨lv.ali σ, call_put o1.1 (back Z' H' cs' [y] [v] lv)⟩
  · exact hE C d H' (lk C fs _ Z' H' σ d (h2 C fs cs' hx) (call_put o1.1 (back Z' H' cs' [] [] lv)) xd)
/-! ### objects of own classes -/
theorem zip_none {α β : Type} {f : Str} : ∀ {ns : List Str} {vs : List α} {ds : List β}, ns.length = vs.length → vs.length = ds.length → (ns.zip ds).lookup f = none → (ns.zip vs).lookup f = none
  | [], _, _, _, _, _ => rfl
  | n :: ns, [], _, h, _, _ => by simp at h
  | n :: ns, v :: vs, [], _, h, _ => by simp at h
  | n :: ns, v :: vs, d :: ds, h, h', e => by
    simp only [List.zip_cons_cons, List.lookup_cons] at e ⊢
    cases q : f == n with
    | true => rw [q] at e; cases e
    | false =>
      rw [q] at e
      exact zip_none (by simpa using h) (by simpa using h') e
def putD (f : Str) (d : Dt) : List (Str × Dt) → List (Str × Dt)
  | [] => [(f, d)]
  | (g, x) :: r => if g = f then (g, d) :: r else (g, x) :: putD f d r
theorem putF_zip {K : PySem.W.Frag} {Z : Zs} {H : Hp} {f : Str} {y : V} {d : Dt} (r : Rp K Z H y d) : ∀ {ns : List Str} {vs : List V} {ds : List Dt}, ns.length = vs.length → RpAll K Z H vs ds →
    ∃ (ns' : List Str) (vs' : List V) (ds' : List Dt), putF f y (ns.zip vs) = ns'.zip vs' ∧ putD f d (ns.zip ds) = ns'.zip ds' ∧ ns'.length = vs'.length ∧ RpAll K Z H vs' ds' := by
  intro ns
  induction ns with
  | nil =>
    intro vs ds h ra
    exact ⟨[f], [y], [d], rfl, rfl, rfl, .cons r .nil⟩
  | cons n ns ih =>
    intro vs ds h ra
    cases ra with
    | nil => simp at h
    | @cons v vs d0 ds r0 ra =>
      by_cases e : n = f
      · exact ⟨n :: ns, y :: vs, d :: ds, by simp [putF, e], by simp [putD, e], by simpa using h, .cons r ra⟩
      · obtain ⟨ns', vs', ds', e1, e2, e3, e4⟩ := ih (by simpa using h) ra
        refine ⟨n :: ns', v :: vs', d0 :: ds', ?_, ?_, by simpa using e3, .cons r0 e4⟩
        · simp only [List.zip_cons_cons, putF, if_neg e]
          rw [e1]
        · simp only [List.zip_cons_cons, putD, if_neg e]
          rw [e2]
theorem see_ins {K : PySem.W.Frag} {Z : Zs} {H : Hp} {v : V} {C : Addr} {fs : List (Str × Dt)} (s : See K Z H v (.ins C fs)) : ∃ (a dx : Addr) (ns : List Str) (vs : List V) (ds : List Dt), v = .ref a ∧ fs = ns.zip ds ∧ ns.length = vs.length ∧ H a = some (.ins C dx (ns.zip vs)) ∧ RpAll K Z H vs ds := s
section
variable {K : PySem.W.Frag} {X : Wsh}
/-- e.f -/
def rFld (K : PySem.W.Frag) (re : RE) (f : Str) : RE := fun η Q => re η fun x η1 => ∃ C fs d, look η1 x = some (.ins C fs) ∧ Cls K C ∧ NoAttr K C f ∧ fs.lookup f = some d ∧ Q (.d d) η1
theorem de_fld {te : TE} {re : RE} {f : Str} (he : DE K X te re) : DE K X (tFld K te f) (rFld K re f) := by
  constructor
  · intro η Q Q' hq q
    refine he.mono _ _ _ ?_ q
    rintro x η1 ⟨C, fs, d, e1, e2, e3, e4, q⟩
    exact ⟨C, fs, d, e1, e2, e3, e4, hq _ _ q⟩
  intro B Z H σ η τ P lk o q
  refine he.run B Z H σ η τ _ lk o (he.mono _ _ _ ?_ q)
  rintro x η1 ⟨C, fs, d, e1, e2, e3, e4, q⟩ Z1 H1 v o1
  obtain ⟨a, dx, ns, vs, ds, rfl, rfl, l, h, r⟩ := see_ins (o1.see e1)
  obtain ⟨u, h1, h2⟩ := r.lookup l e4
  exact ⟨a, C, dx, _, u, rfl, h, e2, e3, h1, q Z1 H1 u (.d o1.ok h2)⟩
/-- o.f = e, o one's own -/
def rSetF (K : PySem.W.Frag) (ro re : RE) (f : Str) : RS := fun D η => re η fun y η1 => ro η1 fun x η2 => ∃ k p C fs d, x = .sl k ∧ η2[k]? = some (some (.mu p (.dt (.ins C fs)))) ∧ frz η2 y = some d ∧ Cls K C ∧ NoAttr K C f ∧ fs.length < 1000 ∧ D.nx (η2.set k (some (.mu p (.dt (.ins C (putD f d fs))))))
theorem ds_setF {to te : TE} {ro re : RE} {f : Str} (ho : DE K X to ro) (he : DE K X te re) : DS K X (sFld K to te f) (rSetF K ro re f) := by
  constructor
  · intro η D D' hd q
    refine he.mono _ _ _ (fun y η1 q => ho.mono _ _ _ ?_ q) q
    rintro x η2 ⟨k, p, C, fs, d, e1, e2, e3, e4, e5, e6, q⟩
    exact ⟨k, p, C, fs, d, e1, e2, e3, e4, e5, e6, hd.nx _ q⟩
  intro B Z H σ η τ E lk o q
  refine he.run B Z H σ η τ _ lk o (he.mono _ _ _ (fun y η1 q Z1 H1 v1 o1 => ?_) q)
  refine ho.run B Z1 H1 σ η1 _ _ lk.app o1.2 (ho.mono _ _ _ ?_ q)
  rintro x η2 ⟨k, p, C, fs, d, rfl, e2, e3, e4, e5, e6, q⟩ Z2 H2 v2 o2
  have al : σ[k]? = some (some v2) := o2.1.1
  have o3 : OkV B K Z2 H2 σ η2 τ [y] [v1] := ⟨by cases y <;> first | exact ⟨o1.1.1, trivial⟩ | trivial, o2.2⟩
  obtain ⟨Z3, z3, o4⟩ := o3.frz e3
  obtain ⟨w, hw, o5⟩ := o4.take e2
  rw [al] at hw; cases hw
  obtain ⟨a, rfl, nz, dx, ns, vs, ds, e0, l, hH, r⟩ := o5.notZ
  have rv := (o5.perm (List.Perm.swap _ _ _)).rp
  subst e0
  obtain ⟨ns', vs', ds', g1, g2, g3, g4⟩ := putF_zip (f := f) rv l r
  have hlen : (ns.zip vs).length < 1000 := by
    have h := e6
    rw [List.length_zip] at h ⊢
    have := r.length
    omega
  have o6 := o5.write (o := .ins C dx (putF f v1 (ns.zip vs))) (d' := .ins C (putD f d (ns.zip ds))) ⟨dx, ns', vs', ds', g2, g3, by rw [upd_same, g1], g4.write nz⟩
  have hk : k < η2.length := (List.getElem?_eq_some_iff.mp e2).1
  exact ⟨a, C, dx, _, rfl, hH, e4, e5, hlen, q _ _ _ ((o6.put hk al).drop)⟩
end
end D

set_option Elab.async false
set_option linter.all false
set_option maxRecDepth 100000
set_option maxHeartbeats 4000000
namespace D
open PySem PySem.Spec PyProof.Rows L2
/-! ### C(..), o.m(..) where the wish may hang on the frame's values -/
def tMakeS (C : Addr) (sp : Sp) (E : L2.St → XK) (t : TA) : TE := fun σ H Q => t σ H fun vs H1 => ∀ x dx, H1 x = none → H1 dx = none → dx ≠ x → sp (.ref x :: vs) (upd (upd H1 dx (.own x)) x (.ins C dx [])) (fun v H2 => v = .non ∧ Q (.ref x) H2) (E σ)
def tMethS (C : Addr) (m : Str) (sp : Sp) (E : L2.St → XK) (ta : TE) (t : TA) : TE := fun σ H Q => ta σ H fun x H1 => ∃ a dx fs, x = .ref a ∧ H1 a = some (.ins C dx fs) ∧ fs.lookup m = none ∧ t σ H1 fun vs H2 => sp (x :: vs) H2 Q (E σ)
section
variable {X : Cx} {CT : CXT} {k : Nat} {f C : Addr} {fd : FuncData} {ps : List Str} {sp : Sp} {E : L2.St → XK} {x m : Str} {p pos apos : Pos} {e o : Expr} {es : List Expr} {ta : TE} {t : TA}
theorem make_go {pins : List (Addr × Obj)} {σ : L2.St} {H : Hp} {s : Shared} {Q : VK} {us : List Value} {vs : List V} (M : Mk X.K C f) (F : FnOk X.prog X.w X.K X.mg X.base CT k f fd ps sp) (hr : Room (k + 1) X.A) (hb : Binds X.K fd ps [])
    (hx : PassesAt CT X σ (E σ)) (I : Inv X pins σ H s) (r : Vals vs us)
    (h : ∀ x dx, H x = none → H dx = none → dx ≠ x → sp (.ref x :: vs) (upd (upd H dx (.own x)) x (.ins C dx [])) (fun v H2 => v = .non ∧ Q (.ref x) H2) (E σ)) :
    wpAny (model X.prog X.w) X.A (call (.ref C) us) (EP X pins σ Q) X.xe s := by
  generalize hn : s.heap.objs.size = n
  have f1 : H (n + 1) = none := I.hok.fresh (by rw [hn]; exact Nat.le_succ n)
  have f0 : H n = none := I.hok.fresh (by rw [hn]; exact Nat.le_refl n)
  have hq := h (n + 1) n f1 f0 (Nat.ne_of_lt (Nat.lt_succ_self n))
  have I2 := Inv.made (C := C) I
  rw [hn] at I2
  have r2 : Vals (V.ref (n + 1) :: vs) (Value.ref (n + 1) :: us) := .cons rfl r
  have hl : (Value.ref (n + 1) :: us).length = ps.length := r2.length.symm.trans (F.len _ _ _ _ hq)
  have b := hb _ (Value.ref (n + 1) :: us) I2.kIn (by rw [List.append_nil]; exact hl)
  rw [List.append_nil] at b
  subst hn
  refine wpAny_call (make_map (f := f) I.kIn M.makes M.init (beq_iff_eq.mp M.fn) ?_)
  refine codeAny_mono (F.run _ X.stack _ _ ⟨_, []⟩ _ _ _ (E σ) (hr.make C us []) (I2.env0.make C us []) b r2 hq) ?_
  intro r s' hq'
  match r, hq' with
  | .error e, hq' => exact hx pins _ _ e s' I2 hq'
  | .ok (.ret u), hq' =>
    obtain ⟨v, H', I3, rv, ev, q3⟩ := I2.after hq'
    cases ev
    exact ⟨rv, ⟨V.ref (s.heap.objs.size + 1), H', I3, rfl, q3⟩⟩
  | .ok .next, hq' => exact False.elim hq'
  | .ok .brk, hq' => exact False.elim hq'
  | .ok .cont, hq' => exact False.elim hq'
theorem pe_makeS (M : Mk X.K C f) (F : FnOk X.prog X.w X.K X.mg X.base CT k f fd ps sp) (hr : Room (k + 1) X.A) (hg : Gl X x) (hm : X.mg x = some (.ref C)) (hb : Binds X.K fd ps []) (hx : ∀ σ, PassesAt CT X σ (E σ))
    (ha : PA X (e :: es) t) (hd : (x == ("__debug__" : Str)) = false := by decide) (h1 : starEach (e :: es) X.env = (false, eval e X.env) :: starEach es X.env := by rfl) (h2 : (backTo pos (starEach es X.env)).any (·.1) = false := by rfl) :
    PE X (.Call (.Name x p) (e :: es) [] pos) (tMakeS C sp E t) := ⟨fun pins s σ H Q I h =>
  wpAny_Call_Name_kw (ld_glob I hg hm (PySem.W.callWith_K (h₀ := X.base) I.ok.mod.kin M.kp (thn (ha.run pos pins s σ H _ I h) fun us s1 ⟨vs, H1, I1, r, q⟩ => ⟨I1.kIn, make_go M F hr hb (hx σ) I1 r q⟩) h1 h2) hd)⟩
theorem pe_methS {pl : Sem Bool} (ho : PE X o ta) (c : Cls X.K C) (hm : Meth X.K C m f) (F : FnOk X.prog X.w X.K X.mg X.base CT k f fd ps sp) (hr : Room k X.A) (hb : Binds X.K fd ps []) (hx : ∀ σ, PassesAt CT X σ (E σ)) (ha : PA X (e :: es) t)
    (h1 : starEach (e :: es) X.env = (false, eval e X.env) :: starEach es X.env := by rfl) (h2 : (backTo pos (starEach es X.env)).any (·.1) = false := by rfl)
    (ht : eval (.Call (.Attribute o m apos) (e :: es) [] pos) X.env = (do let ov ← eval o X.env; standAt apos.atName; let (f, first) ← holding [ov] (getMethod ov m pl); callWith pos f first (backTo pos (starEach (e :: es) X.env)) (backToKw pos (keywordEach [] X.env))) := by rfl) :
    PE X (.Call (.Attribute o m apos) (e :: es) [] pos) (tMethS C m sp E ta t) := by
  constructor
  intro pins s σ H Q I h
  refine PySem.W.methodCall_KW (pl := pl) (thn (ho.run pins s σ H _ I h) ?_) ht
  rintro u s1 ⟨x, H1, I1, rx, a, dx, fs, rfl, ea, l, q⟩
  cases (show u = Value.ref a from rx)
  refine getmeth_ok I1 ea c hm l (PySem.W.callWith_K (first := [.ref a]) (h₀ := X.base) I.ok.mod.kin hm.kp ?_ h1 h2)
  exact thn (ha.run pos pins s1 σ H1 _ I1 q) fun us s2 ⟨vs, H2, I2, r, q2⟩ => ⟨I2.kIn, run_fnS (us := .ref a :: us) (vs := .ref a :: vs) F hr hb (hx σ) I2 (.cons rfl r) q2⟩
theorem pe_methS0 {pl : Sem Bool} (ho : PE X o ta) (c : Cls X.K C) (hm : Meth X.K C m f) (F : FnOk X.prog X.w X.K X.mg X.base CT k f fd ps sp) (hr : Room k X.A) (hb : Binds X.K fd ps []) (hx : ∀ σ, PassesAt CT X σ (E σ))
    (ht : eval (.Call (.Attribute o m apos) [] [] pos) X.env = (do let ov ← eval o X.env; standAt apos.atName; let (f, first) ← holding [ov] (getMethod ov m pl); callWith pos f first (backTo pos (starEach [] X.env)) (backToKw pos (keywordEach [] X.env))) := by rfl) :
    PE X (.Call (.Attribute o m apos) [] [] pos) (tMethS C m sp E ta tNil) := by
  constructor
  intro pins s σ H Q I h
  refine PySem.W.methodCall_KW (pl := pl) (thn (ho.run pins s σ H _ I h) ?_) ht
  rintro u s1 ⟨x, H1, I1, rx, a, dx, fs, rfl, ea, l, q⟩
  cases (show u = Value.ref a from rx)
  refine getmeth_ok I1 ea c hm l ?_
  exact PySem.W.callWith_K0 (first := [.ref a]) I1.kIn hm.kp (run_fnS (us := [.ref a]) (vs := [.ref a]) F hr hb (hx σ) I1 (.cons rfl .nil) q)
end
/-! ### .. by value -/
section
variable {K : PySem.W.Frag} {X : Wsh}
def rMeth (C : Addr) (m : Str) (ms : List Md) (S : Spc) (w : Addr → List (Str × Dt) → Env → Prop) (re : RE) (ra : RA) : RE := fun η Q => re η fun x η1 => (∃ fs, look η1 x = some (.ins C fs) ∧ fs.lookup m = none) ∧
  ra η1 fun xs η2 => ∃ as, argsD ms (x :: xs) η2 = some as ∧ S.pre as ∧ (∀ y cs, S.post as y cs → Q y (aft ms (x :: xs) η2 cs)) ∧ ∀ C fs cs, S.exc as C fs cs → w C fs (aft ms (x :: xs) η2 cs)
theorem de_methS {C : Addr} {m : Str} {ms : List Md} {S : Spc} {te : TE} {re : RE} {t : TA} {ra : RA} {E : L2.St → XK} (hE : ∀ σ C d H, X.W (.ref C) d σ H → E σ (.ref C) d H) (he : DE K X te re) (ha : DA K X t ra) : DE K X (tMethS C m (toSp K ms S) E te t) (rMeth C m ms S X.w re ra) := by
  constructor
  · intro η Q Q' hq q
    refine he.mono _ _ _ (fun x η1 ⟨h, q⟩ => ⟨h, ha.mono _ _ _ ?_ q⟩) q
    rintro xs η2 ⟨as, e, hp, h1, h2⟩
    exact ⟨as, e, hp, fun y cs h => hq _ _ (h1 y cs h), h2⟩
  intro B Z H σ η τ P lk o q
  refine he.run B Z H σ η τ _ lk o (he.mono _ _ _ ?_ q)
  rintro x η1 ⟨⟨fs, e1, e2⟩, q⟩ Z1 H1 v o1
  obtain ⟨a, dx, ns, vs, ds, rfl, rfl, l, h, r⟩ := see_ins (o1.see e1)
  refine ⟨a, dx, _, rfl, h, zip_none l r.length e2, ?_⟩
  refine ha.run B Z1 H1 σ η1 _ _ lk.app o1.2 (ha.mono _ _ _ ?_ q)
  rintro xs η2 ⟨as, e, hp, h1, h2⟩ Z2 H2 ws o2
  have o3 : OkV B K Z2 H2 σ η2 τ (x :: xs) (.ref a :: ws) := .cons o1.1 o2
  exact call_go lk (hE σ) o3 e hp (fun y cs h Z' H' v o => h1 y cs h Z' H' v o) h2
def rMake (C : Addr) (ms : List Md) (S : Spc) (w : Addr → List (Str × Dt) → Env → Prop) (ra : RA) : RE := fun η Q => ra η fun xs η1 => ∃ as, argsD ms xs η1 = some as ∧ S.pre (.dt (.ins C []) :: as) ∧
  (∀ y cs, S.post (.dt (.ins C []) :: as) y cs → ∃ d cs', y = .d .non ∧ cs = .dt d :: cs' ∧ Q (.nw d) (aft ms xs η1 cs')) ∧ ∀ C' fs cs, S.exc (.dt (.ins C []) :: as) C' fs cs → ∃ c cs', cs = c :: cs' ∧ w C' fs (aft ms xs η1 cs')
theorem args_nw {ms : List Md} {xs : List Vl} {η : Env} {as : List Ct} {d : Dt} (e : argsD ms xs η = some as) : argsD (.p :: ms) (.nw d :: xs) η = some (.dt d :: as) := by
  unfold argsD at e ⊢
  cases h : conP ms xs η with
  | none => rw [h] at e; cases e
  | some cs =>
    rw [h] at e
    have e' : entD (remP ms xs η) ms xs cs = some as := e
    have h1 : conP (.p :: ms) (.nw d :: xs) η = some (.dt d :: cs) := by
      show (conP ms xs η).map (.dt d :: ·) = _
      rw [h]; rfl
    rw [h1]
    show (entD (remP ms xs η) ms xs cs).map (.dt d :: ·) = _
    rw [e']; rfl
theorem de_makeS {C : Addr} {ms : List Md} {S : Spc} {t : TA} {ra : RA} {E : L2.St → XK} (hE : ∀ σ C d H, X.W (.ref C) d σ H → E σ (.ref C) d H) (ha : DA K X t ra) : DE K X (tMakeS C (toSp K (.p :: ms) S) E t) (rMake C ms S X.w ra) := by
  constructor
  · intro η Q Q' hq q
    refine ha.mono _ _ _ ?_ q
    rintro xs η1 ⟨as, e, hp, h1, h2⟩
    refine ⟨as, e, hp, fun y cs h => ?_, h2⟩
    obtain ⟨d, cs', e1, e2, q⟩ := h1 y cs h
    exact ⟨d, cs', e1, e2, hq _ _ q⟩
  intro B Z H σ η τ P lk o q
  refine ha.run B Z H σ η τ _ lk o (ha.mono _ _ _ ?_ q)
  rintro xs η1 ⟨as, e, hp, h1, h2⟩ Z1 H1 vs o1 x dx hx hdx ne
  have o2 : Ok B K Z1 (upd H1 dx (.own x)) σ η1 (tmp xs vs ++ τ) := o1.2.ext (upd_keep hdx) (fun _ z => z) fun _ z => .inl z
  have hx' : upd H1 dx (.own x) x = none := by rw [upd_ne ne.symm]; exact hx
  have o3 := o2.new hx' (o := .ins C dx []) (d := .ins C []) ⟨dx, [], [], [], rfl, rfl, upd_same, .nil⟩
  have o4 : OkV B K Z1 (upd (upd H1 dx (.own x)) x (.ins C dx [])) σ η1 τ (.nw (.ins C []) :: xs) (.ref x :: vs) := ⟨o1.1, o3⟩
  obtain ⟨Z2, G', hA, hG, hz, back⟩ := call_core o4 (args_nw e)
  refine ⟨_, Z2, G', hA, hG, hz, hp, fun y cs hpost Z' H' v lv => ?_, fun C' fs cs hxx Z' H' d lv xd => ?_⟩
  · obtain ⟨d, cs', rfl, rfl, q⟩ := h1 y cs hpost
    have o5 : Ok B K Z' H' σ (remP ms xs η1) ((.ref x, .mu none (.dt d)) :: (pl ms vs (flagsP ms xs η1) cs' ++ (tmp [.d .non] [v] ++ τ))) := back Z' H' _ _ _ lv
    have o6 : Ok B K Z' H' σ (remP ms xs η1) ((v, .val .non) :: ((.ref x, .mu none (.dt d)) :: (pl ms vs (flagsP ms xs η1) cs' ++ τ))) := by
      refine o5.perm ?_
      show ((V.ref x, En.mu none (.dt d)) :: (pl ms vs (flagsP ms xs η1) cs' ++ ((v, .val .non) :: τ))).Perm _
      exact ((List.perm_middle (l₁ := pl ms vs (flagsP ms xs η1) cs')).cons _).trans (.swap _ _ _)
    have ev : v = .non := o6.rp.see
    have o7 : Ok B K Z' H' σ (remP ms xs η1) (pl ms vs (flagsP ms xs η1) cs' ++ ((.ref x, .mu none (.dt d)) :: τ)) := o6.drop.perm List.perm_middle.symm
    exact ⟨ev, q Z' H' (.ref x) (.nw (call_put o1.1 o7))⟩
  · obtain ⟨c, cs', rfl, hw⟩ := h2 C' fs cs hxx
    have o5 : Ok B K Z' H' σ (remP ms xs η1) ((.ref x, .mu none c) :: (pl ms vs (flagsP ms xs η1) cs' ++ τ)) := back Z' H' _ [] [] lv
    exact hE σ C' d H' (lk C' fs _ Z' H' σ d hw (call_put o1.1 o5.drop) xd)
end
end D

set_option Elab.async false
set_option linter.all false
set_option maxRecDepth 100000
set_option maxHeartbeats 4000000
namespace D
open PySem PySem.Spec PyProof.Rows L2
/-! ### own exceptions whose __init__ is D.__init__(self, text); self.f = v -/
/-- the class D, D.__init__ being the ValueError's -/
structure FinC (K : PySem.W.Frag) (C : Addr) : Prop where
  rd : PySem.W.readsIn K C (.type "type") = true
  ga : PySem.W.specialIn K (.ref C) "__getattribute__" = some (some (.builtin "type.__getattribute__"))
  vi : PySem.W.findCls K (.ref C) (.type "type") "__init__" = some (.val (.builtin "ValueError.__init__"))
section
variable {X : Cx} {e : Expr} {es : List Expr} {ta : TA} {p1 p2 pos : Pos} {x : Str} {C0 : Addr}
theorem pe_finit {pl : Sem Bool} (T0 : FinC X.K C0) (hg : Gl X x) (hm : X.mg x = some (.ref C0)) (ha : PA X (e :: es) ta) (hd : (x == ("__debug__" : Str)) = false := by decide)
    (hc : eval (.Call (.Attribute (.Name x p1) "__init__" p2) (e :: es) [] pos) X.env = (do let ov ← eval (.Name x p1) X.env; standAt p2.atName; let (f, first) ← holding [ov] (getMethod ov "__init__" pl); callWith pos f first (backTo pos (starEach (e :: es) X.env)) (backToKw pos (keywordEach [] X.env))) := by rfl)
    (h1 : starEach (e :: es) X.env = (false, eval e X.env) :: starEach es X.env := by rfl) (h2 : (backTo pos (starEach es X.env)).any (·.1) = false := by rfl) :
    PE X (.Call (.Attribute (.Name x p1) "__init__" p2) (e :: es) [] pos) (tVeI X.K ta) := by
  constructor
  intro pins s σ H Q I h
  refine PySem.W.methodCall_KW (ld_glob I hg hm ?_ hd) hc
  refine PySem.W.method_cls I.kIn T0.ga (PySem.W.cls_value I.kIn T0.rd T0.vi (by decide +kernel) ?_)
  refine PyProof.Rows.callWith_method1 (thn (ha.run pos pins _ σ H _ (I.tok _) h) ?_) h1 h2
  rintro us s1 ⟨vs, H1, I1, r1, a, C, ws, rfl, hl, T, ea, q⟩
  match us, r1 with
  | _ :: ur, .cons ra rw' =>
    cases (show _ = Value.ref a from ra)
    have hlen : ur.length ≤ sizeLine := by rw [← Paired.length rw', sizeLine_eq]; omega
    exact oinit_ok T I1 ea hlen fun s' J => ⟨.non, H1, J, rfl, q⟩
end
/-- the promise of such an __init__ -/
def spFin (K : PySem.W.Frag) (C : Addr) (f : Str) : Sp := fun vs H Q _ => ∃ a v, vs = [.ref a, v] ∧ H a = some (exo a C none) ∧ ∀ dx, H dx = none → dx ≠ a → Q .non (upd (upd H dx (exd dx [(f, v)])) a (exo a C (some dx)))
theorem spFin_len {K : PySem.W.Frag} {C : Addr} {f : Str} {vs : List V} {H : Hp} {Q : VK} {E : XK} (h : spFin K C f vs H Q E) : vs.length = 2 := by
  obtain ⟨a, v, rfl, _⟩ := h
  rfl
theorem fin_body {K : PySem.W.Frag} {C : Addr} {f : Str} {x : Str} {vs : List V} {H : Hp} {Q : VK} {E : XK} (T : OexC K C) (nf : PySem.W.findIn K (.ref C) f = some none) (h : spFin K C f vs H Q E) :
    tSeq (tDrop (tVeI K (tCons (tVar 0) (tCons (tC (.str x)) tNil)))) (tOst K f (tVar 0) (tVar 1)) { nx := fun _ H' => Q .non H', rt := Q } (vs.map some) H := by
  obtain ⟨a, v, rfl, e, q⟩ := h
  refine ⟨_, rfl, a, C, _, rfl, (show 1 ≤ 1000 by decide), T, e, ?_⟩
  exact ⟨_, rfl, _, rfl, a, C, rfl, T, nf, .inl ⟨e, q⟩⟩
/-- raise C(e) -/
theorem ds_raiseO {K : PySem.W.Frag} {X : Wsh} {C : Addr} {f : Str} {ta : TA} {ra : RA} {W : L2.WX} (hW : ∀ d σ H, X.W (.ref C) d σ H → W (.ref C) d σ H) (ha : DA K X ta ra) :
    DS K X (fun _ σ H => tMkO C (spFin K C f) [] ta σ H fun cls d H' => W cls d σ H') (rRaise1 C f ra X.w) := by
  constructor
  · intro η D D' hd q
    exact q
  intro B Z H σ η τ E lk o q
  refine ha.run B Z H σ η τ _ lk o (ha.mono _ _ _ ?_ q)
  rintro xs η1 ⟨d, e, q⟩ Z1 H1 vs o1
  obtain ⟨Z2, z2, o2, r⟩ := o1.frzs e
  match vs, r with
  | [v], .cons r1 .nil =>
    refine ⟨by simp, fun a hna => ⟨a, v, rfl, upd_same, fun dx hdx ne => ⟨rfl, dx, _, upd_same, by rw [upd_ne ne, upd_same], by rw [← hdx, upd_ne ne], ?_⟩⟩⟩
    have hd : H1 dx = none := by rw [← hdx, upd_ne ne]
    have eh : upd (del (upd (upd (upd H1 a (exo a C none)) dx (exd dx [(f, v)])) a (exo a C (some dx))) a) dx (.xd [(f, v)]) = upd H1 dx (.xd [(f, v)]) := by
      funext b
      by_cases hb : b = dx
      · rw [hb, upd_same, upd_same]
      · rw [upd_ne hb, upd_ne hb]
        by_cases ha' : b = a
        · rw [ha', del_same, hna]
        · rw [del_ne ha', upd_ne ha', upd_ne hb, upd_ne ha']
    rw [eh]
    refine hW _ _ _ (lk C [(f, d)] η1 _ _ σ (some dx) q (o2.newZ hd _) (.inr ⟨dx, [f], [v], [d], rfl, rfl, rfl, .inr rfl, upd_same, ?_⟩))
    exact (RpAll.cons r1 .nil).new hd
theorem ds_raiseOT {K : PySem.W.Frag} {C : Addr} {f : Str} {ta : TA} {ra : RA} {W : Value → Option Addr → L2.St → Hp → Prop} {w : Addr → List (Str × Dt) → Env → Prop} (ha : DA K ⟨W, w⟩ ta ra) :
    DS K ⟨W, w⟩ (fun _ σ H => tMkO C (spFin K C f) [] ta σ H fun cls d H' => W cls d σ H') (rRaise1 C f ra w) := ds_raiseO (X := ⟨W, w⟩) (fun _ _ _ h => h) ha
end D

set_option Elab.async false
set_option linter.all false
set_option maxRecDepth 100000
set_option maxHeartbeats 4000000
namespace D
open PySem PySem.Spec PyProof.Rows L2
section
variable {K : PySem.W.Frag}
/-! ### texts -/
def repS (k : Int) (z : Str) : Str := ⟨(List.replicate k.toNat z.cps).foldl (· ++ ·) #[]⟩
theorem fold_size {α : Type} (a : Array α) : ∀ (n : Nat) (b : Array α), ((List.replicate n a).foldl (· ++ ·) b).size = b.size + n * a.size
  | 0, b => by simp
  | n + 1, b => by
    rw [List.replicate_succ, List.foldl_cons, fold_size a n, Array.size_append, Nat.succ_mul]
    omega
theorem rep_len (k : Int) (z : Str) : (repS k z).length = k.toNat * z.length := by
  show ((List.replicate k.toNat z.cps).foldl (· ++ ·) #[]).size = _
  rw [fold_size]
  simp
  rfl
def rMulS : R2 := fun x y H Q => ∃ z k, x = .str z ∧ y = .int k ∧ 2 ≤ k ∧ k ≤ 1000 ∧ 0 < z.length ∧ z.length ≤ 1000 ∧ Q (.str (repS k z)) H
theorem op_mulS {X : Cx} : OpR X (binaryOp .Mult) rMulS := by
  intro pins s σ H x y v u Q I rx ry h
  obtain ⟨z, k, rfl, rfl, k2, k9, z0, z9, q⟩ := h
  obtain ⟨t, rfl⟩ := rx
  obtain ⟨t', rfl⟩ := ry
  have e1 : ¬ k < 1 := by omega
  have e2 : (k == 1 || z.length == 0) = false := by
    rw [Bool.or_eq_false_iff]
    exact ⟨by simp; omega, by simp; omega⟩
  have hk : k.toNat ≤ 1000 := by omega
  have hm : z.length * k.toNat ≤ 1000 * 1000 := Nat.mul_le_mul z9 hk
  refine PySem.P.mul_str ?_ (fun _ _ => ?_) (fun _ _ => ?_) ?_
  · rw [decide_eq_false (by omega), decide_eq_false (by omega)]; rfl
  · have : (1000 : Int) ≤ (2 ^ 63 - 1) / k := by
      rw [Int.le_ediv_iff_mul_le (by omega)]
      omega
    omega
  · show decide (z.length * k.toNat > sizeLine) = false
    rw [sizeLine_eq]
    exact decide_eq_false (by omega)
  · rw [if_neg e1, e2]
    refine ⟨?_, ⟨.str (repS k z), H, I.tok _, ⟨_, rfl⟩, q⟩⟩
    show (repS k z).length ≤ sizeLine
    rw [rep_len, sizeLine_eq, Nat.mul_comm]
    omega
def RMulS : Dt → Dt → Dt → Prop := fun x y d => ∃ z k, x = .str z ∧ y = .int k ∧ 2 ≤ k ∧ k ≤ 1000 ∧ 0 < z.length ∧ z.length ≤ 1000 ∧ d = .str (repS k z)
theorem p2_mulS : P2 K rMulS RMulS := by
  constructor
  rintro Z H x y dx dy d P sx sy ⟨z, k, rfl, rfl, h1, h2, h3, h4, rfl⟩ q
  cases (show x = .str z from sx)
  cases (show y = .int k from sy)
  exact ⟨z, k, rfl, rfl, h1, h2, h3, h4, q _ (.str _)⟩
def RleS : Dt → Dt → Dt → Prop := fun x y d => ∃ a b, x = .str a ∧ y = .str b ∧ d = .bl (!decide (b.cps.toList < a.cps.toList))
theorem p2_leS : P2 K (fun x y H Q => ∃ i j, x = V.str i ∧ y = V.str j ∧ Q (.bl (!decide (j.cps.toList < i.cps.toList))) H) RleS := by
  constructor
  rintro Z H x y dx dy d P sx sy ⟨a, b, rfl, rfl, rfl⟩ q
  cases (show x = .str a from sx)
  cases (show y = .str b from sy)
  exact ⟨a, b, rfl, rfl, q _ (.bl _)⟩
def roJoin : Vl → ROs := fun x xs η Q => ∃ a y ys, look η x = some (.str a) ∧ xs = [y] ∧ look η y = some (.lst (ys.map .str)) ∧ (ys.map (·.length)).sum + ys.length * a.length ≤ 100000 ∧ Q (.d (.str (Txt.join a ys))) η
theorem dm_join : DM K (fun x xs H Q => ∃ a p, ∃ ys : List Str, x = .str a ∧ xs = [.ref p] ∧ (SqL K H p (ys.map V.str) ∨ SqT K H p (ys.map V.str)) ∧ (ys.map (·.length)).sum + ys.length * a.length ≤ 16777216 ∧ Q (.str (Txt.join a ys)) H) roJoin := by
  constructor
  · rintro x xs η Q Q' hq ⟨a, y, ys, e1, e2, e3, e4, q⟩
    exact ⟨a, y, ys, e1, e2, e3, e4, hq _ _ q⟩
  rintro B Z H σ η τ x v xs vs P o ⟨a, y, ys, e1, rfl, e3, e4, q⟩
  have s1 := o.head.see e1
  cases (show v = .str a from s1)
  obtain ⟨w, rfl⟩ := ali1 o.tail.1
  obtain ⟨p, ws, rfl, hs, r⟩ := o.tail.see e3
  cases strs_of r
  exact ⟨a, p, ys, rfl, rfl, .inl hs, by omega, q Z H _ (.d o.ok (.str _))⟩
def RMin : Dt → Dt → Prop := fun x d => ∃ (ns : List Int) (m : Int), x = .lst (ns.map .int) ∧ m ∈ ns ∧ (∀ y ∈ ns, m ≤ y) ∧ d = .int m
theorem f1_min : F1 K (rMin K) RMin := by
  constructor
  rintro Z H v dx d P s ⟨ns, m, rfl, hm, hl, rfl⟩ k
  obtain ⟨a, vs, rfl, hs, r⟩ := s
  cases ints_of r
  refine ⟨a, ns, rfl, hs, List.length_pos_of_mem hm, fun m' h1 h2 => ?_⟩
  have : m' = m := Int.le_antisymm (h2 _ hm) (hl _ h1)
  rw [this]
  exact k _ (.int _)
end
end D

set_option Elab.async false
set_option linter.all false
set_option maxRecDepth 100000
set_option maxHeartbeats 4000000
namespace D
open PySem PySem.Spec PyProof.Rows L2
/-! ### in an except suite: isinstance with several classes, e.f -/
def rIsXS (K : PySem.W.Frag) (C a : Addr) (d : Option Addr) : List V → Hp → VK → Prop := fun xs H Q => ∃ (tp : Addr) (cs : List V) (us : List Value) (b : Bool), xs = [.ref a, .ref tp] ∧ SqT K H tp cs ∧ Paired ClsV cs us ∧ (d = none ∨ ∃ dd fs, d = some dd ∧ H dd = some (.xd fs)) ∧ PySem.W.kitAny K (.ref C) us = some b ∧ Q (.bl b) H
theorem call_isXS {X : Cx} {a C : Addr} {d : Option Addr} {oe : Obj} {pn : List (Addr × Obj)} (T : ExcC X.K C) (hz : Zc (.ref C) d oe) (hf : ∃ vs, oe.data = .fields vs) : CallR (X.suite a ((a, oe) :: pn)) (.builtin "isinstance") (rIsXS X.K C a d) := by
  intro pins s σ H xs us Q I r h
  obtain ⟨tp, cs, ws, b, rfl, hT, k, hd, e, q⟩ := h
  obtain ⟨u1, u2, rfl, r1, r2⟩ := vals2 r
  cases (show u2 = Value.ref tp from r2)
  cases r1
  obtain ⟨its, rv, ⟨o, h1, h2, n, h3⟩, _⟩ := I.tuple hT
  have e3 := ClsV.all k rv
  subst e3
  obtain ⟨od, J⟩ := inst_of I hz hf hd
  obtain ⟨oc, odd, dt, sl⟩ := o
  simp only at h2 h3
  subst h2 h3
  have hi : PySem.W.isClsIn X.K C = true := by obtain ⟨cd, hc, _⟩ := PySem.W.any_some T.hd; unfold PySem.W.isClsIn; rw [hc]; rfl
  exact PySem.W.kia_tup (PySem.W.kitx_exc hi T.hg T.hk T.hs T.ha T.hn T.ht T.hm) I.kIn J h1 e (fun z => nomatch z) fun tk => ⟨.bl b, H, I.kept (t' := tk) fun _ _ z => z, rfl, q⟩
def roIsXS (K : PySem.W.Frag) (a : Addr) (d : Option Addr) (C : Addr) : ROs := fun xs η Q => ∃ x y cs us fs b, xs = [x, y] ∧ look η x = some (.exn a d C fs) ∧ look η y = some (.tup cs) ∧ ClsDs cs us ∧ PySem.W.kitAny K (.ref C) us = some b ∧ Q (.d (.bl b)) η
theorem dc_isXS {K : PySem.W.Frag} {a : Addr} {d : Option Addr} {C : Addr} : DC K (rIsXS K C a d) (roIsXS K a d C) := by
  constructor
  · rintro xs η Q Q' hq ⟨x, y, cs, us, fs, b, e1, e2, e3, e4, e5, q⟩
    exact ⟨x, y, cs, us, fs, b, e1, e2, e3, e4, e5, hq _ _ q⟩
  rintro B Z H σ η τ xs vs P o ⟨x, y, cs, us, fs, b, rfl, e2, e3, e4, e5, q⟩
  obtain ⟨v, w, rfl⟩ := ali2 o.1
  obtain ⟨s1, s2⟩ := o.see2 e2 e3
  obtain ⟨e1, h⟩ := s1
  subst e1
  obtain ⟨tp, ws, rfl, hs, r⟩ := s2
  refine ⟨tp, ws, us, b, rfl, hs, e4.vs r, ?_, e5, q Z H _ (.d o.ok (.bl b))⟩
  rcases h with ⟨h, _⟩ | ⟨dd, ns, vs, ds, h1, h2, len, z, hx, r⟩
  · exact .inl h
  · exact .inr ⟨dd, _, h1, hx⟩
def tXfn (K : PySem.W.Frag) (a C : Addr) (d : Option Addr) (f : Str) (te : TE) : TE := fun σ H Q => PySem.W.findIn K (.ref C) f = some none ∧ tXf a (.ref C) d C f te σ H Q
theorem pe_xfn {K : PySem.W.Frag} {X : Cx} {a C : Addr} {oe : Obj} {d : Option Addr} {pn : List (Addr × Obj)} {e : Expr} {te : TE} {pos : Pos} {n : Str} (hK : X.K = K) (T : ExcC X.K C) (hz : Zc (.ref C) d oe) (hf : ∃ vs, oe.data = .fields vs) (he : PE (X.suite a ((a, oe) :: pn)) e te)
    (hb : attributeBase e n X.env (eval e X.env) = eval e X.env := by rfl) : PE (X.suite a ((a, oe) :: pn)) (.Attribute e n pos) (tXfn K a C d n te) :=
  ⟨fun pins s σ H Q I h => (pe_xf ⟨T.hg, T.hk, T.hs, T.hd⟩ (hK ▸ h.1) hz hf he hb).run pins s σ H Q I h.2⟩
def rXfn (K : PySem.W.Frag) (a : Addr) (d : Option Addr) (C : Addr) (f : Str) (re : RE) : RE := fun η Q => PySem.W.findIn K (.ref C) f = some none ∧ rXf a d C f re η Q
theorem de_xfn {K : PySem.W.Frag} {X : Wsh} {a C : Addr} {d : Option Addr} {f : Str} {te : TE} {re : RE} (he : DE K X te re) : DE K X (tXfn K a C d f te) (rXfn K a d C f re) :=
  ⟨fun η Q Q' hq q => ⟨q.1, (de_xf he).mono η Q Q' hq q.2⟩, fun B Z H σ η τ P lk o q => ⟨q.1, (de_xf he).run B Z H σ η τ P lk o q.2⟩⟩
end D

set_option Elab.async false
set_option linter.all false
set_option maxRecDepth 100000
set_option maxHeartbeats 4000000
namespace D
open PySem PySem.Spec PyProof.Rows L2
variable {K : PySem.W.Frag} {X : Wsh}
/-! ### from here on the thing in slot i stays as it is -/
theorem Ok.freezeAt {B : Base} {Z : Zs} {H : Hp} {σ : L2.St} {η : Env} {τ : List (V × En)} {i : Nat} {d : Dt} (o : Ok B K Z H σ η τ) (e : η[i]? = some (some (.mu none (.dt d)))) : ∃ Z' : Zs, Ok B K Z' H σ (η.set i (some (.val d))) τ := by
  obtain ⟨v, hv, o1⟩ := o.take e
  obtain ⟨Z', _, o2⟩ := o1.freeze
  exact ⟨Z', o2.put (List.getElem?_eq_some_iff.mp e).1 hv⟩
def rSeqF (i : Nat) (r u : RS) : RS := fun D η => ∃ d, η[i]? = some (some (.mu none (.dt d))) ∧ r { D with nx := u D } (η.set i (some (.val d)))
theorem ds_seqF (i : Nat) {t u : TS} {r s : RS} (h1 : DS K X t r) (h2 : DS K X u s) : DS K X (tSeq t u) (rSeqF i r s) := by
  have h := ds_seq h1 h2
  refine ⟨fun η D D' hd ⟨d, e, q⟩ => ⟨d, e, h.mono _ D D' hd q⟩, ?_⟩
  rintro B Z H σ η τ E lk o ⟨d, e, q⟩
  obtain ⟨Z', o'⟩ := o.freezeAt e
  exact h.run B Z' H σ _ τ E lk o' q
end D

set_option Elab.async false
set_option linter.all false
set_option maxRecDepth 100000
set_option maxHeartbeats 4000000
/-! lists whose items are equal one by one: != is False -/
namespace PySem.SeqAt
open AutoSeq1 (wpAny_loadPart')
open MeetsSeq MeetsSeq2 MeetsSeq3 SeqRoads2
section
variable {prog : Program} {w : World}
abbrev LObj (dd : Option Addr) (its : Array Value) (n : Nat) (sl : Array (Option Value)) : Obj := { cls := .type "list", dict := dd, data := .seq its n, slots := sl }
theorem nq_loop (l b : Addr) (u v : Array Value) (n m : Nat) (d1 d2 : Option Addr) (s1 s2 : Array (Option Value)) (hz : u.size = v.size) : ∀ (k i : Nat), u.size - i = k →
    MeetsIn prog w (Builtin.«list.__eq__.loop» ⟨[.ref l, .ref b, rawInt i, rawInt 3], []⟩) (fun A R s => s.heap.get? l = some (LObj d1 u n s1) ∧ s.heap.get? b = some (LObj d2 v m s2) ∧ (∀ j (h1 : j < u.size) (h2 : j < v.size), EqP prog w A.in1 s u[j] v[j] true) ∧ R (.ok (.ret (.bool false))) s) := by
  intro k
  induction k with
  | zero =>
    rintro i hk A R ⟨hp, g, d, tk, os⟩ ⟨hl, hb, he, h⟩
    have i1 : u[((i : Nat) : Int).toNat]? = none := by simp; omega
    have i2 : v[((i : Nat) : Int).toNat]? = none := by simp; omega
    wp_walk using wpAny_loadPart' hl, wpAny_loadPart' hb
    rw [i1, i2]
    wp_walk using wpAny_loadPart' hl, wpAny_loadPart' hb
    show R (.ok (.ret (.bool (u.size != v.size)))) _
    rw [hz]
    simpa using h
  | succ k ih =>
    rintro i hk A R ⟨hp, g, d, tk, os⟩ ⟨hl, hb, he, h⟩
    have p1 : i < u.size := by omega
    have p2 : i < v.size := by omega
    have i1 : u[((i : Nat) : Int).toNat]? = some u[i] := by simp [p1]
    have i2 : v[((i : Nat) : Int).toNat]? = some v[i] := by simp [p2]
    have nx : ((i : Int) + 1) = ((i + 1 : Nat) : Int) := by push_cast; rfl
    wp_walk using wpAny_loadPart' hl, wpAny_loadPart' hb
    rw [i1, i2]
    refine wpAny_bind (he i p1 p2 _ _ ?_)
    wp_walk
    rw [nx]
    refine ⟨plainId_quiet plain_eq_loop _, codeAny_builtin entry_eq_loop ?_⟩
    rw [Around.under_plainId plain_eq_loop _]
    exact ih (i + 1) (by omega) A R _ ⟨hl, hb, he, h⟩
theorem nq_list (l b : Addr) (u v : Array Value) (n m : Nat) (d1 d2 : Option Addr) (s1 s2 : Array (Option Value)) (hz : u.size = v.size) :
    MeetsIn prog w (Builtin.«list.__ne__» ⟨[.ref l, .ref b], []⟩) (fun A R s => s.heap.get? l = some (LObj d1 u n s1) ∧ s.heap.get? b = some (LObj d2 v m s2) ∧ (∀ j (h1 : j < u.size) (h2 : j < v.size), EqP prog w A.in1 s u[j] v[j] true) ∧ R (.ok (.ret (.bool false))) s) := by
  rintro A R ⟨hp, g, d, tk, os⟩ ⟨hl, hb, he, h⟩
  have f3 := AutoSeq1.sub_list_list
  have nz : ¬ (u.size != v.size) = true := by simp [hz]
  wp_walk using wpAny_loadPart' hl, wpAny_loadPart' hb
  refine ⟨plainId_quiet plain_eq_loop _, codeAny_builtin entry_eq_loop ?_⟩
  rw [Around.under_plainId plain_eq_loop _]
  exact nq_loop l b u v n m d1 d2 s1 s2 hz _ 0 rfl A R _ ⟨hl, hb, he, h⟩
theorem nq_rc {A : Around} {s : Shared} {l b : Addr} {u v : Array Value} (hl : s.heap.IsList l u) (hb : s.heap.IsList b v) (hz : u.size = v.size) (hu : A.units < cLine) (he : ∀ j (h1 : j < u.size) (h2 : j < v.size), EqP prog w A.in1 s u[j] v[j] true) (E Q : Value → Shared → Prop) (h : Q (.bool false) s) :
    wpAny (model prog w) A (richCompare .NotEq (.ref l) (.ref b)) Q E s := by
  obtain ⟨⟨c1, d1, t1, s1⟩, o1, k1, n, e1⟩ := id hl
  obtain ⟨⟨c2, d2, t2, s2⟩, o2, k2, m, e2⟩ := id hb
  simp only at k1 e1 k2 e2
  subst k1 e1 k2 e2
  have ta : s.TypeIs (.ref l) "list" := ⟨_, o1, rfl⟩
  have tb : s.TypeIs (.ref b) "list" := ⟨_, o2, rfl⟩
  refine wpAny_richCompare_same_room (op := .NotEq) ta tb F.slot_list_ne (call_meetsIn F.slot_list_ne ta F.entry_list_ne (F.args_list_ne_2 _ _) (nq_list l b u v n m d1 d2 s1 s2 hz) ⟨o1, o2, he, ?_⟩) hu
  exact ⟨(fun x => nomatch x), h⟩
end
end PySem.SeqAt
namespace D
open PySem PySem.Spec PyProof.Rows L2
/-- two items that are equal: data, or dicts without keys -/
def EqE (K : PySem.W.Frag) (H : Hp) (x y : V) : Prop := (∃ d, Dp K H x d ∧ Dp K H y d ∧ d.plain = true ∧ d.depth ≤ 40) ∨ ∃ a b, x = .ref a ∧ y = .ref b ∧ Rd H a (.dK []) ∧ Rd H b (.dK [])
def rNeS (K : PySem.W.Frag) : R2 := fun x y H Q => ∃ a b xs ys, x = .ref a ∧ y = .ref b ∧ SqL K H a xs ∧ SqL K H b ys ∧ Paired (EqE K H) xs ys ∧ Q (.bl false) H
theorem eqE_run {X : Cx} {pins : List (Addr × Obj)} {σ : L2.St} {H : Hp} {s : Shared} (I : Inv X pins σ H s) {A : Around} (hu : A.units + 62 < cLine) (x y : V) (v u : Value) (h : EqE X.K H x y) (rx : RelV x v) (ry : RelV y u) : SeqAt.EqP X.prog X.w A s v u true := by
  rcases h with ⟨d, h1, h2, hp, hd⟩ | ⟨a, b, rfl, rfl, h1, h2⟩
  · obtain ⟨as, r1⟩ := Dp.reads I d x v h1 rx
    obtain ⟨bs, r2⟩ := Dp.reads I d y u h2 ry
    have := SeqAt.eqAt_plain d d A s v u as bs r1 r2 hp hp (by omega)
    rw [SeqAt.eqv_refl_plain d hp] at this
    exact this.eqP
  · cases (show v = Value.ref a from rx)
    cases (show u = Value.ref b from ry)
    by_cases e : a = b
    · subst e
      exact (SeqAt.EqAt.same _).eqP
    · obtain ⟨_, ya, va, ra, da⟩ := (show ObjOk X.prog X.w H s.heap a (.dK []) from h1.ok I.hok)
      obtain ⟨_, yb, vb, rb, db⟩ := (show ObjOk X.prog X.w H s.heap b (.dK []) from h2.ok I.hok)
      cases ra
      cases rb
      refine SeqAt.eqP_refs e fun E Q q => PySem.W.rcP_dicts (knd := mixKind X.prog X.w) (r := true) ya yb da db (by omega) (fun _ => .nil) E Q ?_
      exact q
theorem op_neS {X : Cx} (hu : X.A.units + 64 < cLine) : OpR X (compareOp .NotEq) (rNeS X.K) := by
  intro pins s σ H x y v u Q I rx ry h
  obtain ⟨a, b, xs, ys, rfl, rfl, ha, hb, hp, q⟩ := h
  cases (show v = Value.ref a from rx)
  cases (show u = Value.ref b from ry)
  obtain ⟨us, r1, p1, _⟩ := I.list ha
  obtain ⟨ws, r2, p2, _⟩ := I.list hb
  have hz : us.toArray.size = ws.toArray.size := by
    rw [List.size_toArray, List.size_toArray, ← r1.length, ← r2.length]
    exact Paired.length hp
  refine SeqAt.nq_rc (A := X.A) p1.isList p2.isList hz (by omega) (fun j h1 h2 => ?_) _ _ ⟨.bl false, H, I, rfl, q⟩
  have := items_run (fun x y v u h rx ry => eqE_run I (A := X.A.in1) (by show X.A.units + 1 + 62 < cLine; omega) x y v u h rx ry) hp r1 r2 j (by simpa using h1) (by simpa using h2)
  simpa using this
def RNeS : Dt → Dt → Dt → Prop := fun a b d => ∃ ds, a = .lst ds ∧ b = .lst ds ∧ (∀ e ∈ ds, Pd 30 e ∨ e = .dct []) ∧ d = .bl false
theorem eqE_of {K : PySem.W.Frag} {Z : Zs} {H : Hp} : ∀ {ds : List Dt} {vs ws : List V}, (∀ e ∈ ds, Pd 30 e ∨ e = .dct []) → RpAll K Z H vs ds → RpAll K Z H ws ds → Paired (EqE K H) vs ws
  | [], vs, ws, _, r1, r2 => by
    cases r1; cases r2
    exact .nil
  | d :: ds, vs, ws, h, r1, r2 => by
    cases r1 with
    | cons a1 b1 =>
      cases r2 with
      | cons a2 b2 =>
        refine .cons ?_ (eqE_of (fun e he => h e (by simp [he])) b1 b2)
        rcases h d (by simp) with hp | rfl
        · have := pd_nat hp
          exact .inl ⟨toP d, dp_of hp a1, dp_of hp a2, this.1, by omega⟩
        · obtain ⟨a, ks, vs', ds', e1, e2, e3, e4, e5⟩ := (show See K Z H _ (.dct []) from a1.see)
          obtain ⟨b, ks2, vs2, ds2, f1, f2, f3, f4, f5⟩ := (show See K Z H _ (.dct []) from a2.see)
          have z1 : ks.zip vs' = [] := by
            have l := e5.length
            have : (ks.zip ds').length = 0 := by rw [← e2]; rfl
            rw [List.length_zip] at this
            exact List.length_eq_zero_iff.mp (by rw [List.length_zip]; omega)
          have z2 : ks2.zip vs2 = [] := by
            have l := f5.length
            have : (ks2.zip ds2).length = 0 := by rw [← f2]; rfl
            rw [List.length_zip] at this
            exact List.length_eq_zero_iff.mp (by rw [List.length_zip]; omega)
          rw [z1] at e4
          rw [z2] at f4
          exact .inr ⟨a, b, e1, f1, e4, f4⟩
theorem p2_neS {K : PySem.W.Frag} : P2 K (rNeS K) RNeS := by
  constructor
  rintro Z H v w dx dy d P sx sy ⟨ds, rfl, rfl, h, rfl⟩ q
  obtain ⟨a, vs, rfl, h1, r1⟩ := sx
  obtain ⟨b, ws, rfl, h2, r2⟩ := sy
  exact ⟨a, b, vs, ws, rfl, rfl, h1, h2, eqE_of h r1 r2, q _ (.bl _)⟩
end D

set_option Elab.async false
set_option linter.all false
set_option maxRecDepth 100000
set_option maxHeartbeats 4000000
namespace D
open PySem PySem.Spec PyProof.Rows L2
section
variable {K : PySem.W.Frag} {X : Wsh}
/-! ### texts: parts, starts, counts, slices -/
theorem rp_strs {Z : Zs} {H : Hp} : ∀ ys : List Str, RpAll K Z H (ys.map V.str) (ys.map Dt.str)
  | [] => .nil
  | y :: ys => .cons (.str y) (rp_strs ys)
def roSplit : Vl → ROs := fun x xs η Q => ∃ a y b, look η x = some (.str a) ∧ xs = [y] ∧ look η y = some (.str b) ∧ 0 < b.length ∧ a.length ≤ 90000 ∧ Q (.nw (.lst ((Txt.split a b).map .str))) η
theorem dm_split : DM K (fun x xs H Q => ∃ a b, x = .str a ∧ xs = [.str b] ∧ (b.length == 0) = false ∧ a.length + 2 ≤ sizeLine ∧ rNewStrs (Txt.split a b) H Q) roSplit := by
  constructor
  · rintro x xs η Q Q' hq ⟨a, y, b, e1, e2, e3, e4, e5, q⟩
    exact ⟨a, y, b, e1, e2, e3, e4, e5, hq _ _ q⟩
  rintro B Z H σ η τ x v xs vs P o ⟨a, y, b, e1, rfl, e3, e4, e5, q⟩
  have s1 := o.head.see e1
  cases (show v = .str a from s1)
  obtain ⟨w, rfl⟩ := ali1 o.tail.1
  have s2 := o.tail.see e3
  cases (show w = .str b from s2)
  refine ⟨a, b, rfl, rfl, by rw [beq_eq_false_iff_ne]; omega, by rw [sizeLine_eq]; omega, fun p hp => ?_⟩
  exact q _ _ _ (o.ok.newLst (rp_strs _) hp)
def roStr1 (f : Str → Str → Dt) : Vl → ROs := fun x xs η Q => ∃ a y b, look η x = some (.str a) ∧ xs = [y] ∧ look η y = some (.str b) ∧ Q (.d (f a b)) η
theorem dm_str1 {f : Str → Str → Dt} {g : Str → Str → V} (hfg : ∀ a b Z H, Rp K Z H (g a b) (f a b)) : DM K (fun x xs H Q => ∃ a b, x = .str a ∧ xs = [.str b] ∧ Q (g a b) H) (roStr1 f) := by
  constructor
  · rintro x xs η Q Q' hq ⟨a, y, b, e1, e2, e3, q⟩
    exact ⟨a, y, b, e1, e2, e3, hq _ _ q⟩
  rintro B Z H σ η τ x v xs vs P o ⟨a, y, b, e1, rfl, e3, q⟩
  have s1 := o.head.see e1
  cases (show v = .str a from s1)
  obtain ⟨w, rfl⟩ := ali1 o.tail.1
  have s2 := o.tail.see e3
  cases (show w = .str b from s2)
  exact ⟨a, b, rfl, rfl, q _ _ _ (.d o.ok (hfg a b Z H))⟩
theorem dm_startswith : DM K (fun x xs H Q => ∃ a b, x = .str a ∧ xs = [.str b] ∧ Q (.bl (Txt.startswith a b)) H) (roStr1 fun a b => .bl (Txt.startswith a b)) := dm_str1 (g := fun a b => .bl (Txt.startswith a b)) fun _ _ _ _ => .bl _
theorem dm_endswith : DM K (fun x xs H Q => ∃ a b, x = .str a ∧ xs = [.str b] ∧ Q (.bl (Txt.endswith a b)) H) (roStr1 fun a b => .bl (Txt.endswith a b)) := dm_str1 (g := fun a b => .bl (Txt.endswith a b)) fun _ _ _ _ => .bl _
theorem dm_count : DM K (fun x xs H Q => ∃ a b, x = .str a ∧ xs = [.str b] ∧ Q (.int (Txt.count a b)) H) (roStr1 fun a b => .int (Txt.count a b)) := dm_str1 (g := fun a b => .int (Txt.count a b)) fun _ _ _ _ => .int _
theorem dm_find : DM K (fun x xs H Q => ∃ a b, x = .str a ∧ xs = [.str b] ∧ Q (.int (Txt.find a b)) H) (roStr1 fun a b => .int (Txt.find a b)) := dm_str1 (g := fun a b => .int (Txt.find a b)) fun _ _ _ _ => .int _
def rSlSt (re : RE) (rl rh : Env → (Option Int → Env → Prop) → Prop) : RE := fun η Q => re η fun x η1 => rl η1 fun lo η2 => rh η2 fun hi η3 => ∃ z, look η3 x = some (.str z) ∧ z.length ≤ 100000 ∧ Q (.d (.str (cutS z lo hi))) η3
theorem de_slS {te : TE} {tl th : TO} {re : RE} {rl rh : Env → (Option Int → Env → Prop) → Prop} (he : DE K X te re) (hl : DO K X tl rl) (hh : DO K X th rh) : DE K X (tSl rSlS te tl th) (rSlSt re rl rh) := by
  refine ⟨fun η Q Q' hq q => he.mono _ _ _ (fun x η1 q => hl.mono _ _ _ (fun lo η2 q => hh.mono _ _ _ (fun hi η3 ⟨ds, e, l, q⟩ => ⟨ds, e, l, hq _ _ q⟩) q) q) q, ?_⟩
  intro B Z H σ η τ P lk o q
  refine he.run B Z H σ η τ _ lk o (he.mono _ _ _ (fun x η1 q Z1 H1 v1 o1 => ?_) q)
  refine hl.run B Z1 H1 σ η1 _ _ lk.app o1.2 (hl.mono _ _ _ (fun lo η2 q Z2 H2 o2 => ?_) q)
  refine hh.run B Z2 H2 σ η2 _ _ lk.app o2 (hh.mono _ _ _ (fun hi η3 q Z3 H3 o3 => ?_) q)
  obtain ⟨z, e, l, q⟩ := q
  have ov : OkV B K Z3 H3 σ η3 τ [x] [v1] := ⟨o1.1, o3⟩
  have s := ov.see e
  cases (show v1 = .str z from s)
  exact ⟨z, rfl, sz l, q _ _ _ (.d ov.ok (.str _))⟩
def rSlBy (re : RE) (rl rh : Env → (Option Int → Env → Prop) → Prop) : RE := fun η Q => re η fun x η1 => rl η1 fun lo η2 => rh η2 fun hi η3 => ∃ z, look η3 x = some (.byt z) ∧ z.size ≤ 100000 ∧ Q (.d (.byt (PySem.W.KBy.picked z lo hi))) η3
theorem de_slB {te : TE} {tl th : TO} {re : RE} {rl rh : Env → (Option Int → Env → Prop) → Prop} (he : DE K X te re) (hl : DO K X tl rl) (hh : DO K X th rh) : DE K X (tSl rSlB te tl th) (rSlBy re rl rh) := by
  refine ⟨fun η Q Q' hq q => he.mono _ _ _ (fun x η1 q => hl.mono _ _ _ (fun lo η2 q => hh.mono _ _ _ (fun hi η3 ⟨ds, e, l, q⟩ => ⟨ds, e, l, hq _ _ q⟩) q) q) q, ?_⟩
  intro B Z H σ η τ P lk o q
  refine he.run B Z H σ η τ _ lk o (he.mono _ _ _ (fun x η1 q Z1 H1 v1 o1 => ?_) q)
  refine hl.run B Z1 H1 σ η1 _ _ lk.app o1.2 (hl.mono _ _ _ (fun lo η2 q Z2 H2 o2 => ?_) q)
  refine hh.run B Z2 H2 σ η2 _ _ lk.app o2 (hh.mono _ _ _ (fun hi η3 q Z3 H3 o3 => ?_) q)
  obtain ⟨z, e, l, q⟩ := q
  have ov : OkV B K Z3 H3 σ η3 τ [x] [v1] := ⟨o1.1, o3⟩
  have s := ov.see e
  cases (show v1 = .byt z from s)
  exact ⟨z, rfl, by omega, q _ _ _ (.d ov.ok (.byt _))⟩
/-- e[::-1] of a list -/
def rRevL (re : RE) : RE := fun η Q => re η fun x η1 => ∃ ds, look η1 x = some (.lst ds) ∧ Q (.nw (.lst ds.reverse)) η1
theorem de_revL {te : TE} {re : RE} (he : DE K X te re) : DE K X (tRevL K te) (rRevL re) := by
  refine ⟨fun η Q Q' hq q => he.mono _ _ _ (fun x η1 ⟨ds, e, q⟩ => ⟨ds, e, hq _ _ q⟩) q, ?_⟩
  intro B Z H σ η τ P lk o q
  refine he.run B Z H σ η τ _ lk o (he.mono _ _ _ (fun x η1 q Z1 H1 v1 o1 => ?_) q)
  obtain ⟨ds, e, q⟩ := q
  obtain ⟨a, vs, rfl, hs, r⟩ := o1.see e
  exact ⟨a, vs, rfl, hs, fun p hp => q _ _ _ (o1.ok.newLst r.reverse hp)⟩
/-! ### by truth -/
def TruD : Dt → Bool → Prop
  | .non, k => k = false
  | .bl b, k => k = b
  | .int i, k => k = decide (i ≠ 0)
  | .str y, k => y.length ≤ 100000 ∧ k = decide (y.length ≠ 0)
  | .byt y, k => y.size ≤ 100000 ∧ k = decide (y.size ≠ 0)
  | .lst ds, k => k = !ds.isEmpty
  | .tup ds, k => k = !ds.isEmpty
  | _, _ => False
theorem see_tru {Z : Zs} {H : Hp} {v : V} {d : Dt} {k : Bool} (s : See K Z H v d) (t : TruD d k) : TruV K v H k := by
  cases d with
  | non => cases (show v = .non from s); exact t
  | bl b => cases (show v = .bl b from s); exact t
  | int i =>
    cases (show v = .int i from s)
    show k = (i != 0)
    rw [show k = decide (i ≠ 0) from t]
    by_cases h : i = 0 <;> simp [h]
  | str y =>
    cases (show v = .str y from s)
    refine ⟨sz t.1, ?_⟩
    rw [t.2]
    by_cases h : y.length = 0 <;> simp [h]
  | byt y =>
    cases (show v = .byt y from s)
    refine ⟨sz t.1, ?_⟩
    rw [t.2]
    by_cases h : y.size = 0 <;> simp [h]
  | lst ds =>
    obtain ⟨a, vs, rfl, hs, r⟩ := s
    refine .inl ⟨vs, hs, ?_⟩
    rw [show k = !ds.isEmpty from t]
    cases r <;> rfl
  | tup ds =>
    obtain ⟨a, vs, rfl, hs, r⟩ := s
    refine .inr (.inl ⟨vs, hs, ?_⟩)
    rw [show k = !ds.isEmpty from t]
    cases r <;> rfl
  | dct kvs => exact t.elim
  | ty n => exact t.elim
  | ins C fs => exact t.elim
  | ref a => exact t.elim
  | exn a d C fs => exact t.elim
def rOrT (ra rb : RE) : RE := fun η Q => ra η fun x η1 => ∃ d k, look η1 x = some d ∧ TruD d k ∧ if k = true then Q x η1 else rb η1 Q
def rAndT (ra rb : RE) : RE := fun η Q => ra η fun x η1 => ∃ d k, look η1 x = some d ∧ TruD d k ∧ if k = true then rb η1 Q else Q x η1
theorem de_orT {ta tb : TE} {ra rb : RE} (ha : DE K X ta ra) (hb : DE K X tb rb) : DE K X (tOrT K ta tb) (rOrT ra rb) := by
  constructor
  · intro η Q Q' hq q
    refine ha.mono _ _ _ ?_ q
    rintro x η1 ⟨d, k, e, t, q⟩
    refine ⟨d, k, e, t, ?_⟩
    cases k with
    | true => exact hq _ _ q
    | false => exact hb.mono _ _ _ hq q
  intro B Z H σ η τ P lk o q
  refine ha.run B Z H σ η τ _ lk o (ha.mono _ _ _ (fun x η1 q Z1 H1 v1 o1 => ?_) q)
  obtain ⟨d, k, e, t, q⟩ := q
  refine ⟨k, see_tru (o1.see e) t, ?_⟩
  cases k with
  | true => exact q Z1 H1 v1 o1
  | false => exact hb.run B Z1 H1 σ η1 τ P lk o1.ok q
theorem de_andT {ta tb : TE} {ra rb : RE} (ha : DE K X ta ra) (hb : DE K X tb rb) : DE K X (tAndT K ta tb) (rAndT ra rb) := by
  constructor
  · intro η Q Q' hq q
    refine ha.mono _ _ _ ?_ q
    rintro x η1 ⟨d, k, e, t, q⟩
    refine ⟨d, k, e, t, ?_⟩
    cases k with
    | false => exact hq _ _ q
    | true => exact hb.mono _ _ _ hq q
  intro B Z H σ η τ P lk o q
  refine ha.run B Z H σ η τ _ lk o (ha.mono _ _ _ (fun x η1 q Z1 H1 v1 o1 => ?_) q)
  obtain ⟨d, k, e, t, q⟩ := q
  refine ⟨k, see_tru (o1.see e) t, ?_⟩
  cases k with
  | false => exact q Z1 H1 v1 o1
  | true => exact hb.run B Z1 H1 σ η1 τ P lk o1.ok q
/-! ### while, with the step's end told -/
abbrev Wn (W : Nat → Env → Prop) (m : Nat) : Env → Prop := fun η' => ∃ m', m' < m ∧ W m' η'
def rWh (rc : RT) (rb : RS) : RS := fun D η => ∃ W : Nat → Env → Prop, ∃ m, W m η ∧ ∀ m η, W m η → rc η fun b η1 =>
  if b = true then rb { D with nx := Wn W m, ct := Wn W m, bk := D.nx } η1 else D.nx η1
theorem ds_wh {c : TT} {tb : TS} {rc : RT} {rb : RS} (hc : DT K X c rc) (hb : DS K X tb rb) : DS K X (tWhile c tb) (rWh rc rb) := by
  have h := ds_while hc hb
  constructor
  · rintro η D D' hd ⟨W, m, h0, h1⟩
    refine ⟨W, m, h0, fun m η w => hc.mono _ _ _ ?_ (h1 m η w)⟩
    rintro b η1 q
    cases b with
    | true => exact hb.mono _ { D with nx := Wn W m, ct := Wn W m, bk := D.nx } { D' with nx := Wn W m, ct := Wn W m, bk := D'.nx } ⟨fun _ h => h, hd.rt, hd.nx, fun _ h => h⟩ q
    | false => exact hd.nx _ q
  rintro B Z H σ η τ E lk o ⟨W, m, h0, h1⟩
  refine h.run B Z H σ η τ E lk o ⟨W, ⟨m, h0⟩, fun m η w => hc.mono _ _ _ ?_ (h1 m η w)⟩
  rintro b η1 q
  cases b with
  | true => exact ⟨_, fun _ h => h, q⟩
  | false => exact q
/-! ### name op= e -/
theorem ds_aug {i : Nat} {te : TE} {re : RE} {r : R2} {ro : RO2} (h : D2 K r ro) (he : DE K X te re) : DS K X (tAug i te r) (rAsg (rOp ro (rVar i) re) i) := ds_asg (de_op h (de_var i) he) i
end
end D

set_option Elab.async false
set_option linter.all false
set_option maxRecDepth 100000
set_option maxHeartbeats 4000000
namespace Q
open PySem PySem.Spec PyProof.Rows L2 D
def top (i : Nat) : Stmt := PySem.Challenge.pw_fellwhere_k42_texts_cleaned.main.body.getD i (.Pass ⟨0, 0, 0, 0⟩)
def Hs (P : Program) (w : World) (K : PySem.W.Frag) (mg : Str → Option Value) (base : Heap) (CX : CXT) (k : Nat) (x : Str) (ps : List Str) (sp : Sp) : Prop :=
  ∃ f fd, FnOk P w K mg base CX k f fd ps sp ∧ mg x = some (.ref f) ∧ PySem.W.keepIn K (.ref f) = true ∧ Binds K fd ps []
structure ExcF (K : PySem.W.Frag) (mg : Str → Option Value) (x : Str) (C : Addr) : Prop where
  g : mg x = some (.ref C)
  nw : PySem.W.excIn K C [.type "ValueError", .type "Exception", .type "BaseException", .type "object"] "ValueError.__new__" = true
  kp : PySem.W.keepIn K (.ref C) = true
  sb : PySem.W.subIn K (.ref C) (.type "BaseException") = some true
  ty : PySem.W.typeIn K (.ref C) = some (.type "type")
  ec : ExcC K C
def tEx (K : PySem.W.Frag) (t : Addr → TS) (cls : Value) : TS := fun D σ H => ∃ C, cls = .ref C ∧ ExcC K C ∧ t C D σ H
theorem pss_ex {K : PySem.W.Frag} {X : Cx} {sts : List Stmt} {t : Addr → TS} {cls : Value} {d : Option Addr} {oe : Obj} (hK : X.K = K) (h : ∀ C, ExcC X.K C → Zc (.ref C) d oe → PSs X sts (t C)) (hz : Zc cls d oe) : PSs X sts (tEx K t cls) :=
  ⟨fun pins s σ H D I ⟨C, e, ec, q⟩ => (h C (hK ▸ ec) (e ▸ hz)).run pins s σ H D I q⟩
def rEx (K : PySem.W.Frag) (C : Addr) (r : RS) : RS := fun D η => ExcC K C ∧ r D η
theorem ds_ex {K : PySem.W.Frag} {X : Wsh} {t : Addr → TS} {r : RS} {C : Addr} (h : DS K X (t C) r) : DS K X (tEx K t (.ref C)) (rEx K C r) :=
  ⟨fun η D D' hd q => ⟨q.1, h.mono η D D' hd q.2⟩, fun B Z H σ η τ E lk o q => ⟨C, rfl, q.1, h.run B Z H σ η τ E lk o q.2⟩⟩
abbrev rLenK (K : PySem.W.Frag) : List V → Hp → VK → Prop := fun xs H Q => ∃ x n, xs = [x] ∧ LenV K x H n ∧ Q (.int n) H
abbrev rListK (K : PySem.W.Frag) : List V → Hp → VK → Prop := fun xs H Q => ∃ p ys, xs = [.ref p] ∧ (SqL K H p ys ∨ SqT K H p ys) ∧ ∀ l, H l = none → Q (.ref l) (upd H l (.lst ys))
def tTry (K : PySem.W.Frag) (Wout : WX) (l : List Hd) (tb : WX → TS) : TS := fun D σ H => tb (wMix K Wout D l) D σ H
theorem ps_tryT {K : PySem.W.Frag} {X : Cx} {body : List Stmt} {h₀ : ExceptHandler} {hds : List ExceptHandler} {l : List Hd} {pos : Pos} {tb : WX → TS} {Wout : WX} (hK : X.K = K) (hs : X.stack = X.env :: X.outer) (hf : X.env.frame = some X.env.locals) (hN : X.N.Nodup) (tk : Takes X Wout)
    (hb : ∀ (W : WX) (pn : List (Addr × Obj)) (xe : Value → Shared → Prop), Takes (X.tr pn xe) W → PassesOwn (model X.prog X.w) X.A X.env xe → PSs (X.tr pn xe) body (tb W))
    (hh : MixOk X (h₀ :: hds) l) : PS X (.Try body (h₀ :: hds) [] [] pos) (tTry K Wout l tb) := hK ▸ ps_try_mix hs hf hN tk hb hh
theorem ds_tryT {K : PySem.W.Frag} {X : Wsh} {tb : WX → TS} {rb : (Addr → List (Str × Dt) → _root_.D.Env → Prop) → RS} {l : List Hd} {m : List HdD} {Wout : WX} (hW : ∀ C d σ H, X.W (.ref C) d σ H → Wout (.ref C) d σ H) (hb : ∀ W w, DS K ⟨W, w⟩ (tb W) (rb w)) (hh : DHds K l m) :
    DS K X (tTry K Wout l tb) (rTry K rb m X.w) := ds_try hW hb hh
/-! #### reading a def statement by statement -/
theorem sg {r u : RS} {D : EndsD} {η : _root_.D.Env} (h : ∀ U, U = u D → r { D with nx := U } η) : rSeq r u D η := h _ rfl
def Lp (rg : RG) (rb : RS) (D : EndsD) (ds : List Dt) (η1 : _root_.D.Env) : Prop := ∃ W : Nat → _root_.D.Env → Prop, W 0 η1 ∧
  (∀ i d η', ds[i]? = some d → W i η' → rg d η' fun η2 => rb { D with nx := W (i + 1), ct := W (i + 1), bk := D.nx } η2) ∧ ∀ η', W ds.length η' → D.nx η'
theorem rFor_L {ri : RI'} {rg : RG} {rb : RS} {D : EndsD} {η : _root_.D.Env} : rFor ri rg rb D η = ri η fun ds η1 => Lp rg rb D ds η1 := rfl
def Lc (rg : RG) (rt : RT) (re : RE) (vs : List Nat) (Q : Vl → _root_.D.Env → Prop) (ds : List Dt) (η1 : _root_.D.Env) : Prop := ds.length ≤ 100000 ∧ ∃ W : Nat → List Dt → _root_.D.Env → Prop, W 0 [] (wipeE η1 vs) ∧
  (∀ i d acc η', ds[i]? = some d → acc.length ≤ i → W i acc η' → rg d η' fun η2 => rt η2 fun b η3 => if b = true then re η3 fun x η4 => ∃ e, frz η4 x = some e ∧ W (i + 1) (acc ++ [e]) (wipeE η4 vs) else W (i + 1) acc (wipeE η3 vs)) ∧
  ∀ acc η', acc.length ≤ ds.length → W ds.length acc η' → Q (.nw (.lst acc)) (unw η1 η' vs)
theorem rLc_L {ri : RI'} {rg : RG} {rt : RT} {re : RE} {vs : List Nat} {η : _root_.D.Env} {Q : Vl → _root_.D.Env → Prop} : rLc ri rg rt re vs η Q = ri η fun ds η1 => Lc rg rt re vs Q ds η1 := rfl
theorem asgLc {ri : RI'} {rg : RG} {rt : RT} {re : RE} {vs : List Nat} {η : _root_.D.Env} {i : Nat} {D : EndsD} : rAsg (rLc ri rg rt re vs) i D η = ri η fun ds η1 => Lc rg rt re vs (fun x η1 => i < η1.length ∧ match x with
  | .d d => D.nx (η1.set i (some (.val d)))
  | .nw d => D.nx (η1.set i (some (.mu none (.dt d))))
  | .sl j => match frz η1 (.sl j) with
    | some d => D.nx (η1.set i (some (.val d)))
    | none => False) ds η1 := rfl
/-- a comprehension without condition: by what is made of each -/
theorem lc_map {rg : RG} {re : RE} {vs : List Nat} {Q : Vl → _root_.D.Env → Prop} {ds : List Dt} {η1 : _root_.D.Env} (W : Nat → List Dt → _root_.D.Env → Prop) (hl : ds.length ≤ 100000) (h0 : W 0 [] (wipeE η1 vs))
    (h1 : ∀ i d acc η', ds[i]? = some d → acc.length ≤ i → W i acc η' → rg d η' fun η2 => re η2 fun x η4 => ∃ e, frz η4 x = some e ∧ W (i + 1) (acc ++ [e]) (wipeE η4 vs))
    (h2 : ∀ acc η', acc.length ≤ ds.length → W ds.length acc η' → Q (.nw (.lst acc)) (unw η1 η' vs)) : Lc rg rYes re vs Q ds η1 := ⟨hl, W, h0, h1, h2⟩
theorem lp_of {rg : RG} {rb : RS} {D : EndsD} {ds : List Dt} {η1 : _root_.D.Env} (W : Nat → _root_.D.Env → Prop) (h0 : W 0 η1)
    (h1 : ∀ i d η', ds[i]? = some d → W i η' → rg d η' fun η2 => rb { D with nx := W (i + 1), ct := W (i + 1), bk := D.nx } η2) (h2 : ∀ η', W ds.length η' → D.nx η') : Lp rg rb D ds η1 := ⟨W, h0, h1, h2⟩
theorem isa_no {n : String} : isa n .non = false := rfl
theorem isa_bl {n : String} {b : Bool} : isa n (.bl b) = (n == "bool" || n == "int") := rfl
theorem isa_in {n : String} {b : Int} : isa n (.int b) = (n == "int") := rfl
theorem isa_st {n : String} {b : Str} : isa n (.str b) = (n == "str") := rfl
theorem isa_by {n : String} {b : Array UInt8} : isa n (.byt b) = (n == "bytes") := rfl
theorem isa_ls {n : String} {b : List Dt} : isa n (.lst b) = (n == "list") := rfl
theorem isa_tu {n : String} {b : List Dt} : isa n (.tup b) = (n == "tuple") := rfl
theorem isa_di {n : String} {b : List (Key × Dt)} : isa n (.dct b) = (n == "dict") := rfl
/-- a promise by what is told (A) of a call that ends, and of one that raises (B) -/
def Spf {A : Type} (pre : List Ct → Prop) (R : List Ct → A → Prop) (f : List Ct → A → Vl) (g : List Ct → A → List Ct) : Spc := { pre := pre, post := fun as y cs => ∃ a, R as a ∧ y = f as a ∧ cs = g as a }
def Spg {A B : Type} (pre : List Ct → Prop) (R : List Ct → A → Prop) (f : List Ct → A → Vl) (g : List Ct → A → List Ct) (S : List Ct → B → Prop) (c : List Ct → B → Addr × List (Str × Dt)) (k : List Ct → B → List Ct) : Spc :=
  { pre := pre, post := fun as y cs => ∃ a, R as a ∧ y = f as a ∧ cs = g as a, exc := fun as C fs cs => ∃ b, S as b ∧ (C, fs) = c as b ∧ cs = k as b }
section
variable {A B : Type} {ms : List Md} {pre : List Ct → Prop} {R : List Ct → A → Prop} {f : List Ct → A → Vl} {g : List Ct → A → List Ct} {S : List Ct → B → Prop} {c : List Ct → B → Addr × List (Str × Dt)} {k : List Ct → B → List Ct} {w : Addr → List (Str × Dt) → _root_.D.Env → Prop} {ra : RA} {η : _root_.D.Env} {Q : Vl → _root_.D.Env → Prop}
theorem rCall_f : rCall ms (Spf pre R f g) w ra η Q = ra η fun xs η1 => ∃ as, argsD ms xs η1 = some as ∧ pre as ∧ ∀ a, R as a → Q (f as a) (aft ms xs η1 (g as a)) := by
  unfold rCall
  congr
  funext xs η1
  refine propext ⟨?_, ?_⟩
  · rintro ⟨as, h1, h2, h3, _⟩
    exact ⟨as, h1, h2, fun a r => h3 _ _ ⟨a, r, rfl, rfl⟩⟩
  · rintro ⟨as, h1, h2, h3⟩
    refine ⟨as, h1, h2, ?_, fun _ _ _ z => z.elim⟩
    rintro y cs ⟨a, r, rfl, rfl⟩
    exact h3 a r
theorem rCall_g : rCall ms (Spg pre R f g S c k) w ra η Q = ra η fun xs η1 => ∃ as, argsD ms xs η1 = some as ∧ pre as ∧ (∀ a, R as a → Q (f as a) (aft ms xs η1 (g as a))) ∧ ∀ b, S as b → w (c as b).1 (c as b).2 (aft ms xs η1 (k as b)) := by
  unfold rCall
  congr
  funext xs η1
  refine propext ⟨?_, ?_⟩
  · rintro ⟨as, h1, h2, h3, h4⟩
    exact ⟨as, h1, h2, fun a r => h3 _ _ ⟨a, r, rfl, rfl⟩, fun b r => h4 _ _ _ ⟨b, r, rfl, rfl⟩⟩
  · rintro ⟨as, h1, h2, h3, h4⟩
    refine ⟨as, h1, h2, ?_, ?_⟩
    · rintro y cs ⟨a, r, rfl, rfl⟩
      exact h3 a r
    · rintro C fs cs ⟨b, r, e, rfl⟩
      have e1 : C = (c as b).1 := congrArg Prod.fst e
      have e2 : fs = (c as b).2 := congrArg Prod.snd e
      rw [e1, e2]
      exact h4 b r
end
theorem f_pre {A : Type} {pre : List Ct → Prop} {R : List Ct → A → Prop} {f : List Ct → A → Vl} {g : List Ct → A → List Ct} : (Spf pre R f g).pre = pre := rfl
theorem f_post {A : Type} {pre : List Ct → Prop} {R : List Ct → A → Prop} {f : List Ct → A → Vl} {g : List Ct → A → List Ct} : (Spf pre R f g).post = fun as y cs => ∃ a, R as a ∧ y = f as a ∧ cs = g as a := rfl
theorem g_pre {A B : Type} {pre : List Ct → Prop} {R : List Ct → A → Prop} {f : List Ct → A → Vl} {g : List Ct → A → List Ct} {S : List Ct → B → Prop} {c : List Ct → B → Addr × List (Str × Dt)} {k : List Ct → B → List Ct} : (Spg pre R f g S c k).pre = pre := rfl
theorem g_post {A B : Type} {pre : List Ct → Prop} {R : List Ct → A → Prop} {f : List Ct → A → Vl} {g : List Ct → A → List Ct} {S : List Ct → B → Prop} {c : List Ct → B → Addr × List (Str × Dt)} {k : List Ct → B → List Ct} : (Spg pre R f g S c k).post = fun as y cs => ∃ a, R as a ∧ y = f as a ∧ cs = g as a := rfl
theorem g_exc {A B : Type} {pre : List Ct → Prop} {R : List Ct → A → Prop} {f : List Ct → A → Vl} {g : List Ct → A → List Ct} {S : List Ct → B → Prop} {c : List Ct → B → Addr × List (Str × Dt)} {k : List Ct → B → List Ct} : (Spg pre R f g S c k).exc = fun as C fs cs => ∃ b, S as b ∧ (C, fs) = c as b ∧ cs = k as b := rfl
theorem de_callT {K : PySem.W.Frag} {ms : List Md} {S : Spc} {t : TA} {ra : RA} {W : Value → Option Addr → L2.St → Hp → Prop} {w : Addr → List (Str × Dt) → _root_.D.Env → Prop} (ha : DA K ⟨W, w⟩ t ra) : DE K ⟨W, w⟩ (tCallS (toSp K ms S) (WE W) t) (rCall ms S w ra) := de_callS (X := ⟨W, w⟩) (fun _ _ _ _ h => h) ha
theorem ds_raiseT {K : PySem.W.Frag} {C : Addr} {W : Value → Option Addr → L2.St → Hp → Prop} {w : Addr → List (Str × Dt) → _root_.D.Env → Prop} : DS K ⟨W, w⟩ (fun _ σ H => (fun (_ : L2.St) (H : Hp) (Q : XK) => Q (.ref C) none H) σ H fun cls d H' => W cls d σ H') (rRaise0 C w) := ds_raise0 (X := ⟨W, w⟩) fun _ _ _ h => h
theorem take_succ_at {α : Type} {l : List α} {i : Nat} {x : α} (h : l[i]? = some x) : l.take (i + 1) = l.take i ++ [x] := by
  rw [List.take_add_one, h]
  rfl
theorem at0 {α : Type} {x : α} {l : List α} : atI (x :: l) 0 = some x := atI_nat (j := 0) rfl
theorem at1 {α : Type} {a x : α} {l : List α} : atI (a :: x :: l) 1 = some x := atI_nat (j := 1) rfl
theorem at2 {α : Type} {a b x : α} {l : List α} : atI (a :: b :: x :: l) 2 = some x := atI_nat (j := 2) rfl
theorem at3 {α : Type} {a b c x : α} {l : List α} : atI (a :: b :: c :: x :: l) 3 = some x := atI_nat (j := 3) rfl
theorem ix30 : ixN 3 0 = some 0 := by decide
theorem ix31 : ixN 3 1 = some 1 := by decide
theorem ix32 : ixN 3 2 = some 2 := by decide
theorem int_in {i : Int} {d : Dt} : RInt (.int i) d = (d = .int i) := rfl
theorem int_bl {b : Bool} {d : Dt} : RInt (.bl b) d = (d = .int (if b then 1 else 0)) := rfl
theorem deq_int (a b : Int) : deq (.int a) (.int b) = decide (a = b) := by
  simp [deq, toP, PyData.eqv]
  try rfl
theorem eq_pd {a b d : Dt} (n m : Nat) (ha : Pd n a) (hb : Pd m b) (hn : n ≤ 40) : REq a b d = (d = .bl (deq a b)) := by
  refine propext ⟨?_, fun e => ⟨_, .inl ⟨n, m, hn, ha, hb, rfl⟩, e⟩⟩
  rintro ⟨k, h | ⟨x, y, rfl, rfl, _⟩, rfl⟩
  · obtain ⟨_, _, _, _, _, rfl⟩ := h
    rfl
  · cases n <;> exact ha.elim
theorem ne_pd {a b d : Dt} (n m : Nat) (ha : Pd n a) (hb : Pd m b) (hn : n ≤ 40) : RNe a b d = (d = .bl (!deq a b)) := by
  refine propext ⟨?_, fun e => ⟨_, .inl ⟨n, m, hn, ha, hb, rfl⟩, e⟩⟩
  rintro ⟨k, h | ⟨x, y, rfl, rfl, _⟩, rfl⟩
  · obtain ⟨_, _, _, _, _, rfl⟩ := h
    rfl
  · cases n <;> exact ha.elim
theorem pd_int (a : Int) : Pd 0 (.int a) := trivial
theorem eq_ii {a b : Int} {d : Dt} : REq (.int a) (.int b) d = (d = .bl (decide (a = b))) := by rw [eq_pd 0 0 (pd_int a) (pd_int b) (by decide), deq_int]
theorem ne_ii {a b : Int} {d : Dt} : RNe (.int a) (.int b) d = (d = .bl (!decide (a = b))) := by rw [ne_pd 0 0 (pd_int a) (pd_int b) (by decide), deq_int]
theorem eq_by {a b : Array UInt8} {d : Dt} : REq (.byt a) (.byt b) d = (d = .bl (decide (a = b))) := by
  refine propext ⟨?_, fun e => ⟨_, .inr ⟨_, _, rfl, rfl, rfl⟩, e⟩⟩
  rintro ⟨k, ⟨n, _, _, h, _⟩ | ⟨x, y, e1, e2, rfl⟩, rfl⟩
  · cases n <;> exact h.elim
  · cases e1; cases e2; rfl
theorem ne_by {a b : Array UInt8} {d : Dt} : RNe (.byt a) (.byt b) d = (d = .bl (!decide (a = b))) := by
  refine propext ⟨?_, fun e => ⟨_, .inr ⟨_, _, rfl, rfl, rfl⟩, e⟩⟩
  rintro ⟨k, ⟨n, _, _, h, _⟩ | ⟨x, y, e1, e2, rfl⟩, rfl⟩
  · cases n <;> exact h.elim
  · cases e1; cases e2; rfl
theorem isX_own {K : PySem.W.Frag} {η : _root_.D.Env} {Q : Vl → _root_.D.Env → Prop} {a C D : Addr} {d : Option Addr} {fs : List (Str × Dt)} {b : Bool} (h : PySem.W.kitOne K (.ref C) (.ref D) = some b) : roIsX K a d C [.d (.exn a d C fs), .d (.ref D)] η Q = Q (.d (.bl b)) η := by
  refine propext ⟨?_, fun q => ⟨_, _, _, _, _, _, rfl, rfl, rfl, .own D, h, q⟩⟩
  rintro ⟨x, y, c, u, fs', b', e1, e2, e3, e4, e5, q⟩
  cases e1; cases e2; cases e3; cases e4
  rw [h] at e5; cases e5
  exact q
theorem isX_ty {K : PySem.W.Frag} {η : _root_.D.Env} {Q : Vl → _root_.D.Env → Prop} {a C : Addr} {d : Option Addr} {fs : List (Str × Dt)} {n : String} {b : Bool} (h : PySem.W.kitOne K (.ref C) (.type n) = some b) : roIsX K a d C [.d (.exn a d C fs), .d (.ty n)] η Q = Q (.d (.bl b)) η := by
  refine propext ⟨?_, fun q => ⟨_, _, _, _, _, _, rfl, rfl, rfl, .ty n, h, q⟩⟩
  rintro ⟨x, y, c, u, fs', b', e1, e2, e3, e4, e5, q⟩
  cases e1; cases e2; cases e3; cases e4
  rw [h] at e5; cases e5
  exact q
theorem at_mem {α : Type} {l : List α} {i : Int} (h0 : 0 ≤ i) (h1 : i < (l.length : Int)) : ∃ x, atI l i = some x ∧ x ∈ l := by
  have hj : i.toNat < l.length := by omega
  have e : l[i.toNat]? = some l[i.toNat] := List.getElem?_eq_getElem hj
  refine ⟨l[i.toNat], ?_, List.getElem_mem hj⟩
  have := atI_nat e
  rwa [show ((i.toNat : Nat) : Int) = i by omega] at this
theorem cut_len (ds : List Dt) (lo hi : Option Int) : (D.cutD ds lo hi).length ≤ ds.length := by
  unfold D.cutD
  rw [List.length_take, List.length_drop]
  omega
theorem cut_mem {ds : List Dt} {lo hi : Option Int} {x : Dt} (h : x ∈ D.cutD ds lo hi) : x ∈ ds := List.mem_of_mem_drop (List.mem_of_mem_take h)
theorem ne_self {n : Nat} {a d : Dt} (h : Pd n a) (hn : n ≤ 40) : RNe a a d = (d = .bl false) := by rw [ne_pd n n h h hn, deq_self h]; rfl
theorem eq_self' {n : Nat} {a d : Dt} (h : Pd n a) (hn : n ≤ 40) : REq a a d = (d = .bl true) := by rw [eq_pd n n h h hn, deq_self h]
theorem pd_ints (ks : List Int) : Pd 1 (.lst (ks.map .int)) := by
  intro x hx
  obtain ⟨k, _, rfl⟩ := List.mem_map.mp hx
  exact trivial
theorem rp_ints {K : PySem.W.Frag} {Z : Zs} {H : Hp} : ∀ ns : List Int, RpAll K Z H (ns.map V.int) (ns.map Dt.int)
  | [] => .nil
  | n :: ns => .cons (.int n) (rp_ints ns)
/-- the law's own promise -/
theorem sp_law {K : PySem.W.Frag} {S : Spc} {H : Hp} {a : Addr} {ns : List Int} (hpre : S.pre [.dt (.lst (ns.map .int))]) (hpost : ∀ as y cs, S.post as y cs → y = .d (.bl true)) (hexc : ∀ as C fs cs, ¬ S.exc as C fs cs)
    (hS : SqL K H a (ns.map V.int)) : toSp K [.b] S [.ref a] H (fun v _ => v = .bl true) fun _ _ _ => False := by
  have h1 : ArgsOk K (fun _ => False) H [] [.ref a] [.b] [.dt (.lst (ns.map .int))] [] := by
    refine ⟨?_, rfl⟩
    rcases hS with (h | ⟨o, h⟩) | h
    · exact .inr ⟨a, rfl, ⟨_, h⟩, by simp, .inl ⟨_, h, rp_ints ns⟩⟩
    · exact .inr ⟨a, rfl, ⟨_, h⟩, by simp, .inr ⟨o, _, _, rfl, h, rp_ints ns⟩⟩
    · exact .inl (.inr ⟨a, _, _, rfl, rfl, h, rp_ints ns⟩)
  refine ⟨_, _, _, h1, fun b hb => (List.not_mem_nil hb).elim, fun b hb => hb.elim, hpre, fun y cs h Z' H' v L => ?_, fun C fs cs h => (hexc _ _ _ _ h).elim⟩
  have e := hpost _ _ _ h
  subst e
  obtain ⟨F', s, _⟩ := L.sep
  obtain ⟨F1, F2, e, _⟩ := s
  exact e.see (.inl rfl)
theorem kit1 {K : PySem.W.Frag} {C D : Addr} (i : PySem.W.isClsIn K D = true) (t : PySem.W.typeIn K (.ref D) = some (.type "type")) (s : PySem.W.subIn K (.ref C) (.ref D) = some true) : PySem.W.kitOne K (.ref C) (.ref D) = some true := by
  unfold PySem.W.kitOne
  split
  · rfl
  · simp only [PySem.W.kitCls]
    rw [show (PySem.W.clsIn K D).isSome = true from i, t, s]
    rfl
theorem kit0 {K : PySem.W.Frag} {C D : Addr} (i : PySem.W.isClsIn K D = true) (t : PySem.W.typeIn K (.ref D) = some (.type "type")) (s : PySem.W.subIn K (.ref C) (.ref D) = some false) (r : PySem.W.subIn K (.ref C) (.ref C) = some true) : PySem.W.kitOne K (.ref C) (.ref D) = some false := by
  unfold PySem.W.kitOne
  split
  · rename_i h
    have e : (Value.ref C) = .ref D := by simpa using h
    rw [← e, r] at s
    cases s
  · simp only [PySem.W.kitCls]
    rw [show (PySem.W.clsIn K D).isSome = true from i, t, s]
    rfl
theorem kitT {K : PySem.W.Frag} {C : Addr} {n : String} {b : Bool} (m : PySem.W.kitMeta n = true) (s : PySem.W.subIn K (.ref C) (.type n) = some b) : PySem.W.kitOne K (.ref C) (.type n) = some b := by
  unfold PySem.W.kitOne
  split
  · rename_i h
    have e : (Value.ref C) = .type n := by simpa using h
    cases e
  · simp only [PySem.W.kitCls]
    rw [m, s]
    rfl
theorem exm1 {K : PySem.W.Frag} {C D : Addr} {b : Bool} (i : PySem.W.isClsIn K D = true) (t : PySem.W.typeIn K (.ref D) = some (.type "type")) (e : PySem.W.subIn K (.ref D) (.type "BaseException") = some true) (s : PySem.W.subIn K (.ref C) (.ref D) = some b) : PySem.W.exmOne K (.ref C) (.ref D) = some b := by
  unfold PySem.W.exmOne
  rw [e]
  simp only [PySem.W.kitCls]
  rw [show (PySem.W.clsIn K D).isSome = true from i, t, s]
  rfl
/-! #### classes and exceptions with a field -/
structure ExO (P : Program) (w : World) (K : PySem.W.Frag) (mg : Str → Option Value) (base : Heap) (x : Str) (C : Addr) (f : Str) : Prop where
  g : mg x = some (.ref C)
  oc : OexC K C
  nf : PySem.W.findIn K (.ref C) f = some none
  ec : ExcC K C
  ini : ∃ fI fd ps, PySem.W.findIn K (.ref C) "__init__" = some (some (.ref fI)) ∧ PySem.W.typeIn K (.ref fI) = some (.type "function") ∧ FnOk P w K mg base CX0 1 fI fd ps (spFin K C f) ∧ Binds K fd ps []
def HsI (P : Program) (w : World) (K : PySem.W.Frag) (mg : Str → Option Value) (base : Heap) (CX : CXT) (k : Nat) (C : Addr) (ps : List Str) (sp : Sp) : Prop := ∃ f fd, FnOk P w K mg base CX k f fd ps sp ∧ Mk K C f ∧ Binds K fd ps []
def HsM (P : Program) (w : World) (K : PySem.W.Frag) (mg : Str → Option Value) (base : Heap) (CX : CXT) (k : Nat) (C : Addr) (m : Str) (ps : List Str) (sp : Sp) : Prop := ∃ f fd, FnOk P w K mg base CX k f fd ps sp ∧ Meth K C m f ∧ Binds K fd ps []
structure ClF (K : PySem.W.Frag) (mg : Str → Option Value) (x : Str) (C : Addr) : Prop where
  g : mg x = some (.ref C)
  cl : Cls K C
theorem lk_eq {β : Type} {f : Str} {d : β} {r : List (Str × β)} : List.lookup f ((f, d) :: r) = some d := by simp [List.lookup]
theorem isXS_d {K : PySem.W.Frag} {η : _root_.D.Env} {Q : Vl → _root_.D.Env → Prop} {a C : Addr} {d : Option Addr} {fs : List (Str × Dt)} {cs : List Dt} {us : List Value} {b : Bool} (hc : ClsDs cs us) (h : PySem.W.kitAny K (.ref C) us = some b) : roIsXS K a d C [.d (.exn a d C fs), .d (.tup cs)] η Q = Q (.d (.bl b)) η := by
  refine propext ⟨?_, fun q => ⟨_, _, _, _, _, _, rfl, rfl, rfl, hc, h, q⟩⟩
  rintro ⟨x, y, cs', us', fs', b', e1, e2, e3, e4, e5, q⟩
  cases e1; cases e2; cases e3
  have : us' = us := by
    clear h e5 q
    induction hc generalizing us' with
    | nil => cases e4; rfl
    | cons h _ ih =>
      cases e4 with
      | cons h' r' =>
        rw [ih _ r']
        cases h <;> cases h' <;> rfl
  subst this
  rw [h] at e5; cases e5
  exact q
theorem any0 {K : PySem.W.Frag} {t : Value} : PySem.W.kitAny K t [] = some false := rfl
theorem anyF {K : PySem.W.Frag} {t c : Value} {r : List Value} {b : Bool} (h : PySem.W.kitOne K t c = some false) (q : PySem.W.kitAny K t r = some b) : PySem.W.kitAny K t (c :: r) = some b := by
  simp only [PySem.W.kitAny, h]
  exact q
theorem de_makeT {K : PySem.W.Frag} {C : Addr} {ms : List Md} {S : Spc} {t : TA} {ra : RA} {W : Value → Option Addr → L2.St → Hp → Prop} {w : Addr → List (Str × Dt) → _root_.D.Env → Prop} (ha : DA K ⟨W, w⟩ t ra) : DE K ⟨W, w⟩ (tMakeS C (toSp K (.p :: ms) S) (WE W) t) (rMake C ms S w ra) := de_makeS (X := ⟨W, w⟩) (fun _ _ _ _ h => h) ha
theorem len_ls {ds : List Dt} {d : Dt} : RLen (.lst ds) d = (d = .int ds.length) := rfl
theorem len_tu {ds : List Dt} {d : Dt} : RLen (.tup ds) d = (d = .int ds.length) := rfl
theorem len_st {s : Str} {d : Dt} : RLen (.str s) d = (s.length ≤ 100000 ∧ d = .int s.length) := rfl
theorem len_by {s : Array UInt8} {d : Dt} : RLen (.byt s) d = (s.size ≤ 100000 ∧ d = .int s.size) := rfl
theorem deq_str (x y : Str) : deq (.str x) (.str y) = decide (x = y) := by
  simp [deq, toP, PyData.eqv]
  try rfl
theorem notin_pd {a d : Dt} {es : List Dt} (n m : Nat) (ha : Pd n a) (hn : n ≤ 40) (he : ∀ e ∈ es, Pd m e) : RNotIn a (.tup es) d = (d = .bl (!(es.any fun e => deq e a))) := by
  refine propext ⟨?_, fun e => ⟨_, .inl ⟨n, m, es, hn, ha, .inr rfl, he, rfl⟩, e⟩⟩
  rintro ⟨k, h | ⟨c, s, _, h, _⟩, rfl⟩
  · obtain ⟨_, _, es', _, _, h, _, rfl⟩ := h
    rcases h with h | h <;> cases h
    rfl
  · cases h
theorem notin_c {c : Nat} {s : Str} {d : Dt} : RNotIn (.str ⟨#[c]⟩) (.str s) d = (d = .bl (!decide (c ∈ s.cps.toList))) := by
  refine propext ⟨?_, fun e => ⟨_, .inr ⟨c, s, rfl, rfl, rfl⟩, e⟩⟩
  rintro ⟨k, h | ⟨c', s', h1, h2, rfl⟩, rfl⟩
  · obtain ⟨_, _, es', _, _, h, _⟩ := h
    rcases h with h | h <;> cases h
  · cases h1; cases h2; rfl
theorem in_c {c : Nat} {s : Str} {d : Dt} : RIn (.str ⟨#[c]⟩) (.str s) d = (d = .bl (decide (c ∈ s.cps.toList))) := by
  refine propext ⟨?_, fun e => ⟨_, .inr ⟨c, s, rfl, rfl, rfl⟩, e⟩⟩
  rintro ⟨k, h | ⟨c', s', h1, h2, rfl⟩, rfl⟩
  · obtain ⟨_, _, es', _, _, h, _⟩ := h
    rcases h with h | h <;> cases h
  · cases h1; cases h2; rfl
theorem signs_get {s : Str} {i : Nat} {x : Dt} (h : (D.signs s)[i]? = some x) : ∃ c, s.cps.toList[i]? = some c ∧ x = .str ⟨#[c]⟩ := by
  unfold D.signs at h
  rw [List.getElem?_map] at h
  cases e : s.cps.toList[i]? with
  | none => rw [e] at h; cases h
  | some c => rw [e] at h; cases h; exact ⟨c, rfl, rfl⟩
def s1 (c : Nat) : Str := ⟨#[c]⟩
theorem jL_ones : ∀ cs : List Nat, TL.joinL [] (cs.map fun c => [c]) = cs
  | [] => rfl
  | [_] => rfl
  | c :: d :: r => by
    show [c] ++ ([] ++ TL.joinL [] ((d :: r).map fun c => [c])) = _
    rw [jL_ones (d :: r)]
    rfl
theorem join_s1 (cs : List Nat) : (Txt.join (Str.ofString "") (cs.map s1)).cps.toList = cs := by
  show (Builtin.Str.glued (Str.ofString "") (cs.map s1)).cps.toList = cs
  rw [StrLaws.glued_eq_join]
  have := TL.tl_join (Str.ofString "") (cs.map s1)
  rw [List.map_map] at this
  exact this.trans (jL_ones cs)
theorem join_s1_len (cs : List Nat) : (Txt.join (Str.ofString "") (cs.map s1)).length = cs.length := by
  have := congrArg List.length (join_s1 cs)
  rwa [Array.length_toList] at this
theorem sum_s1 (cs : List Nat) : ((cs.map s1).map (·.length)).sum + (cs.map s1).length * (Str.ofString "").length = cs.length := by
  rw [show (Str.ofString "").length = 0 from rfl, Nat.mul_zero, Nat.add_zero, List.map_map]
  induction cs with
  | nil => rfl
  | cons c r ih => simp only [List.map_cons, List.sum_cons, List.length_cons]; rw [ih]; show 1 + _ = _; omega
section
variable {A B : Type} {C : Addr} {ms : List Md} {pre : List Ct → Prop} {R : List Ct → A → Prop} {f : List Ct → A → Vl} {g : List Ct → A → List Ct} {S : List Ct → B → Prop} {c : List Ct → B → Addr × List (Str × Dt)} {k : List Ct → B → List Ct} {w : Addr → List (Str × Dt) → _root_.D.Env → Prop} {ra : RA} {η : _root_.D.Env} {Q : Vl → _root_.D.Env → Prop}
theorem rMake_g : rMake C ms (Spg pre R f g S c k) w ra η Q = ra η fun xs η1 => ∃ as, argsD ms xs η1 = some as ∧ pre (.dt (.ins C []) :: as) ∧ (∀ a, R (.dt (.ins C []) :: as) a → ∃ d cs', f (.dt (.ins C []) :: as) a = .d .non ∧ g (.dt (.ins C []) :: as) a = .dt d :: cs' ∧ Q (.nw d) (aft ms xs η1 cs')) ∧
    ∀ b, S (.dt (.ins C []) :: as) b → ∃ c0 cs', k (.dt (.ins C []) :: as) b = c0 :: cs' ∧ w (c (.dt (.ins C []) :: as) b).1 (c (.dt (.ins C []) :: as) b).2 (aft ms xs η1 cs') := by
  unfold rMake
  congr
  funext xs η1
  refine propext ⟨?_, ?_⟩
  · rintro ⟨as, h1, h2, h3, h4⟩
    exact ⟨as, h1, h2, fun a r => h3 _ _ ⟨a, r, rfl, rfl⟩, fun b r => h4 _ _ _ ⟨b, r, rfl, rfl⟩⟩
  · rintro ⟨as, h1, h2, h3, h4⟩
    refine ⟨as, h1, h2, ?_, ?_⟩
    · rintro y cs ⟨a, r, rfl, rfl⟩
      exact h3 a r
    · rintro C' fs cs ⟨b, r, e, rfl⟩
      have e1 : C' = (c (.dt (.ins C []) :: as) b).1 := congrArg Prod.fst e
      have e2 : fs = (c (.dt (.ins C []) :: as) b).2 := congrArg Prod.snd e
      rw [e1, e2]
      exact h4 b r
end
theorem sgF {i : Nat} {r u : RS} {D : EndsD} {η : _root_.D.Env} {d : Dt} (e : η[i]? = some (some (.mu none (.dt d)))) (h : ∀ U, U = u D → r { D with nx := U } (η.set i (some (.val d)))) : rSeqF i r u D η := ⟨d, e, h _ rfl⟩
theorem notin_ints {a : Int} {ps : List Int} {d : Dt} : RNotIn (.int a) (.lst (ps.map .int)) d = (d = .bl (!decide (a ∈ ps))) := by
  have key : ((ps.map Dt.int).any fun e => deq e (.int a)) = decide (a ∈ ps) := by
    rw [List.any_map]
    induction ps with
    | nil => rfl
    | cons p ps ih =>
      rw [List.any_cons, ih, Function.comp, deq_int, ← Bool.decide_or]
      exact decide_eq_decide.mpr (by rw [List.mem_cons]; exact or_congr_left eq_comm)
  refine propext ⟨?_, fun e => ⟨_, .inl ⟨0, 0, _, by decide, trivial, .inl rfl, ?_, rfl⟩, by rw [key]; exact e⟩⟩
  · rintro ⟨k, h | ⟨c, s, h, _, _⟩, rfl⟩
    · obtain ⟨_, _, es', _, _, h, _, rfl⟩ := h
      rcases h with h | h <;> cases h
      rw [key]
    · cases h
  · intro e he
    obtain ⟨z, _, rfl⟩ := List.mem_map.mp he
    exact trivial
theorem pd_nil0 : Pd 1 (.lst []) := fun x h => (List.not_mem_nil h).elim
theorem ne_nil {ps : List Int} {d : Dt} : RNe (.lst (ps.map .int)) (.lst []) d = (d = .bl (!decide (ps = []))) := by
  rw [ne_pd 1 1 (pd_ints ps) pd_nil0 (by decide)]
  congr 2
  cases ps with
  | nil => rfl
  | cons p ps => rfl
theorem cut_lo (ds : List Dt) {i : Int} (h0 : 0 ≤ i) (h1 : i ≤ ds.length) : D.cutD ds none (some i) = ds.take i.toNat := by
  unfold D.cutD
  have e1 : HT.sIx ds.length 0 none = 0 := rfl
  have e2 : HT.sIx ds.length ds.length (some i) = i.toNat := by
    show (if i < 0 then _ else min i.toNat ds.length) = _
    rw [if_neg (by omega)]
    omega
  rw [e1, e2, List.drop_zero, Nat.sub_zero]
theorem cut_hi (ds : List Dt) {i : Int} (h0 : 0 ≤ i) (h1 : i ≤ ds.length) : D.cutD ds (some i) none = ds.drop i.toNat := by
  unfold D.cutD
  have e1 : HT.sIx ds.length ds.length none = ds.length := rfl
  have e2 : HT.sIx ds.length 0 (some i) = i.toNat := by
    show (if i < 0 then _ else min i.toNat ds.length) = _
    rw [if_neg (by omega)]
    omega
  rw [e1, e2]
  exact List.take_of_length_le (by rw [List.length_drop]; exact Nat.le_refl _)
theorem at_ix {α : Type} {l : List α} {i : Int} (h0 : 0 ≤ i) (h1 : i < (l.length : Int)) : ∃ x, atI l i = some x ∧ l[i.toNat]? = some x := by
  have hj : i.toNat < l.length := by omega
  have e : l[i.toNat]? = some l[i.toNat] := List.getElem?_eq_getElem hj
  refine ⟨l[i.toNat], ?_, e⟩
  have := atI_nat e
  rwa [show ((i.toNat : Nat) : Int) = i by omega] at this

theorem len_two {α : Type} {l : List α} (h : l.length = 2) : ∃ a b, l = [a, b] := by
  match l, h with
  | [a, b], _ => exact ⟨a, b, rfl⟩
theorem len_three {α : Type} {l : List α} (h : l.length = 3) : ∃ a b c, l = [a, b, c] := by
  match l, h with
  | [a, b, c], _ => exact ⟨a, b, c, rfl⟩
theorem signs_ne {s : Str} (h : 0 < s.length) : D.signs s ≠ [] := by
  intro z
  have := congrArg List.length z
  rw [D.signs_length] at this
  have e : s.cps.size = s.length := rfl
  rw [List.length_nil] at this
  omega
theorem signs_lt {s : Str} (h : s.length < 100000) : (D.signs s).length < 100000 := by rw [D.signs_length]; exact h
theorem app_cps (a b : Str) : (a ++ b).cps.toList = a.cps.toList ++ b.cps.toList := TL.tl_append a b
theorem app_len (a b : Str) : (a ++ b).length = a.length + b.length := by
  have := congrArg List.length (app_cps a b)
  rw [List.length_append, Array.length_toList, Array.length_toList, Array.length_toList] at this
  exact this
theorem len_list (s : Str) : s.cps.toList.length = s.length := Array.length_toList
theorem eq_str {a b : Str} {d : Dt} : REq (.str a) (.str b) d = (d = .bl (decide (a = b))) := by
  rw [eq_pd (a := Dt.str a) (b := Dt.str b) 0 0 trivial trivial (by decide), deq_str]
theorem ne_str {a b : Str} {d : Dt} : RNe (.str a) (.str b) d = (d = .bl (!decide (a = b))) := by
  rw [ne_pd (a := Dt.str a) (b := Dt.str b) 0 0 trivial trivial (by decide), deq_str]
theorem str_ext {a b : Str} (h : a.cps.toList = b.cps.toList) : a = b := by
  obtain ⟨a⟩ := a
  obtain ⟨b⟩ := b
  have : a = b := Array.ext' h
  rw [this]
theorem cutS_lo (z : Str) {i : Int} (h0 : 0 ≤ i) : (cutS z none (some i)).cps.toList = z.cps.toList.take i.toNat := by
  have e1 : HT.sIx z.length 0 none = 0 := rfl
  have e2 : HT.sIx z.length z.length (some i) = min i.toNat z.length := by
    show (if i < 0 then _ else min i.toNat z.length) = _
    rw [if_neg (by omega)]
  show ((z.cps.toList.drop (HT.sIx z.length 0 none)).take (HT.sIx z.length z.length (some i) - HT.sIx z.length 0 none)) = _
  rw [e1, e2, List.drop_zero, Nat.sub_zero, ← len_list, ← List.take_eq_take_min]
theorem cutS_len {z : Str} {i : Int} (h0 : 0 ≤ i) : (cutS z none (some i)).length = min i.toNat z.length := by
  rw [← len_list, cutS_lo z h0, List.length_take, len_list]
theorem starts_cut (w t : Str) : decide (cutS w none (some (t.length : Int)) = t) = Txt.startswith w t := by
  have e : Txt.startswith w t = (decide (0 + t.length ≤ w.length) && Builtin.Str.subAt w t 0) := rfl
  rw [e, StrLaws.subAt_eq, List.drop_zero, Nat.zero_add]
  have hc := cutS_lo w (i := (t.length : Int)) (by omega)
  rw [show ((t.length : Int)).toNat = t.length by omega] at hc
  by_cases h : cutS w none (some (t.length : Int)) = t
  · rw [decide_eq_true h]
    have h1 : t.length ≤ w.length := by
      have := cutS_length w none (some (t.length : Int))
      rw [h] at this
      exact this
    rw [decide_eq_true h1, ← hc, h]
    simp
  · rw [decide_eq_false h]
    symm
    rw [Bool.and_eq_false_iff]
    right
    rw [beq_eq_false_iff_ne, ← hc]
    exact fun z => h (str_ext z)
theorem lc_of {rg : RG} {rt : RT} {re : RE} {vs : List Nat} {Q : Vl → _root_.D.Env → Prop} {ds : List Dt} {η1 : _root_.D.Env} (W : Nat → List Dt → _root_.D.Env → Prop) (hl : ds.length ≤ 100000) (h0 : W 0 [] (wipeE η1 vs))
    (h1 : ∀ i d acc η', ds[i]? = some d → acc.length ≤ i → W i acc η' → rg d η' fun η2 => rt η2 fun b η3 => if b = true then re η3 fun x η4 => ∃ e, frz η4 x = some e ∧ W (i + 1) (acc ++ [e]) (wipeE η4 vs) else W (i + 1) acc (wipeE η3 vs))
    (h2 : ∀ acc η', acc.length ≤ ds.length → W ds.length acc η' → Q (.nw (.lst acc)) (unw η1 η' vs)) : Lc rg rt re vs Q ds η1 := ⟨hl, W, h0, h1, h2⟩
theorem lw_of {rc : RT} {rb : RS} {D : EndsD} {η : _root_.D.Env} (W : Nat → _root_.D.Env → Prop) (m : Nat) (h0 : W m η)
    (h1 : ∀ m η, W m η → rc η fun b η1 => if b = true then rb { D with nx := Wn W m, ct := Wn W m, bk := D.nx } η1 else D.nx η1) : rWh rc rb D η := ⟨W, m, h0, h1⟩
theorem drop_at {α : Type} {l : List α} {i : Nat} {x : α} (h : l[i]? = some x) : l.drop i = x :: l.drop (i + 1) := by
  have hi : i < l.length := (List.getElem?_eq_some_iff.mp h).1
  rw [List.drop_eq_getElem_cons hi]
  rw [List.getElem?_eq_getElem hi] at h
  cases h
  rfl
theorem map_get {ss : List Str} {i : Nat} {x : Dt} (h : (ss.map Dt.str)[i]? = some x) : ∃ w, ss[i]? = some w ∧ x = .str w := by
  rw [List.getElem?_map] at h
  cases e : ss[i]? with
  | none => rw [e] at h; cases h
  | some c => rw [e] at h; cases h; exact ⟨c, rfl, rfl⟩
theorem in_lst {a d : Dt} {es : List Dt} (n m : Nat) (ha : Pd n a) (hn : n ≤ 40) (he : ∀ e ∈ es, Pd m e) : RIn a (.lst es) d = (d = .bl (es.any fun e => deq e a)) := by
  refine propext ⟨?_, fun e => ⟨_, .inl ⟨n, m, es, hn, ha, .inl rfl, he, rfl⟩, e⟩⟩
  rintro ⟨k, h | ⟨c, s, _, h, _⟩, rfl⟩
  · obtain ⟨_, _, es', _, _, h, _, rfl⟩ := h
    rcases h with h | h <;> cases h
    rfl
  · cases h
theorem in_pd {a d : Dt} {es : List Dt} (n m : Nat) (ha : Pd n a) (hn : n ≤ 40) (he : ∀ e ∈ es, Pd m e) : RIn a (.tup es) d = (d = .bl (es.any fun e => deq e a)) := by
  refine propext ⟨?_, fun e => ⟨_, .inl ⟨n, m, es, hn, ha, .inr rfl, he, rfl⟩, e⟩⟩
  rintro ⟨k, h | ⟨c, s, _, h, _⟩, rfl⟩
  · obtain ⟨_, _, es', _, _, h, _, rfl⟩ := h
    rcases h with h | h <;> cases h
    rfl
  · cases h
theorem pd_strs (ss : List Str) : Pd 1 (.lst (ss.map .str)) := by
  intro x hx
  obtain ⟨k, _, rfl⟩ := List.mem_map.mp hx
  exact trivial
theorem deq_nil {ds : List Dt} : deq (.lst ds) (.lst []) = decide (ds = []) := by
  cases ds <;> rfl
theorem ne_nilP {n : Nat} {ds : List Dt} {d : Dt} (h : Pd n (.lst ds)) (hn : n ≤ 40) : RNe (.lst ds) (.lst []) d = (d = .bl (!decide (ds = []))) := by
  rw [ne_pd n 1 h pd_nil0 hn, deq_nil]
theorem eq_nilP {n : Nat} {ds : List Dt} {d : Dt} (h : Pd n (.lst ds)) (hn : n ≤ 40) : REq (.lst ds) (.lst []) d = (d = .bl (decide (ds = []))) := by
  rw [eq_pd n 1 h pd_nil0 hn, deq_nil]
theorem at_last {α : Type} {l : List α} {x : α} (h : l.getLast? = some x) : atI l (-1) = some x := by
  have hn : 0 < l.length := by
    cases l with
    | nil => cases h
    | cons a r => simp
  unfold atI ixN
  rw [if_neg (by decide), if_pos (by omega)]
  show l[_]? = some x
  rw [List.getLast?_eq_getElem?] at h
  rw [← h]
  congr 1
  omega
structure Gs (K : PySem.W.Frag) (mg : Str → Option Value) (c_FellError c_NoCleaner c_Cleaner : Addr) : Prop where
  x_Cleaner : mg "Cleaner" = some (.ref c_Cleaner)
  c_FIGURES : ∃ t, mg "FIGURES" = some (.str "0123456789" t)
  c_MOST_ROWS : ∃ t, mg "MOST_ROWS" = some (.int 20 t)
  c_MOST_SIGNS : ∃ t, mg "MOST_SIGNS" = some (.int 20 t)
  b_all : mg "all" = none
  b_any : mg "any" = none
  b_enumerate : mg "enumerate" = none
  b_int : mg "int" = none
  b_isinstance : mg "isinstance" = none
  b_len : mg "len" = none
  b_list : mg "list" = none
  b_range : mg "range" = none
  b_str : mg "str" = none
  b_tuple : mg "tuple" = none
def okC (c : Nat) : Bool := !decide ([c] < [32]) && !decide ([126] < [c])
def plainS : Dt → Bool
  | .str s => s.cps.toList.all okC
  | _ => false
def S_is_plain : Spc := Spf (A := Unit) (fun as => ∃ d, as = [.dt d] ∧ plainD d = true ∧ ∀ s, d = .str s → s.length ≤ 1000) (fun _ _ => True) (fun as _ => match as with
  | [.dt d] => .d (.bl (plainS d))
  | _ => .d .non) fun _ _ => []
def isRow : Dt → Bool
  | .tup [.str a, .str b] => (decide (a = "after") || decide (a = "from")) && (plainS (.str b) && (decide (1 ≤ b.length) && (decide (b.length ≤ 20) && !decide (32 ∈ b.cps.toList))))
  | _ => false
def rowArg (d : Dt) : Prop := (Pd 5 d ∨ d = .dct []) ∧ ∀ a s, d = .tup [a, .str s] → s.length ≤ 1000
def S_is_row : Spc := Spf (A := Unit) (fun as => ∃ d, as = [.dt d] ∧ rowArg d) (fun _ _ => True) (fun as _ => match as with
  | [.dt d] => .d (.bl (isRow d))
  | _ => .d .non) fun _ _ => []
def firstBad : Nat → List Dt → Option Nat
  | _, [] => none
  | i, x :: xs => if i = 20 ∨ isRow x = false then some i else firstBad (i + 1) xs
def badAt : Dt → Option Dt
  | .lst ds => match firstBad 0 ds with
    | some i => some (.int (i : Int))
    | none => none
  | _ => some .non
def rowsArg (d : Dt) : Prop := plainD d = true ∧ ∀ ds, d = .lst ds → ds.length ≤ 1000 ∧ ∀ x ∈ ds, rowArg x
def S_init (C0 CN : Addr) : Spc := Spg (A := Unit) (B := Dt) (fun as => ∃ d, as = [.dt (.ins C0 []), .dt d] ∧ rowsArg d) (fun as _ => match as with
  | [_, .dt d] => badAt d = none
  | _ => False) (fun _ _ => .d .non) (fun as _ => match as with
  | [_, .dt d] => [.dt (.ins C0 [("rows", d)])]
  | _ => []) (fun as b => match as with
  | [_, .dt d] => badAt d = some b
  | _ => False) (fun _ b => (CN, [("at", b)])) fun _ _ => [.dt (.ins C0 [])]

theorem pd_plain {n : Nat} {d : Dt} (h : Pd n d) : plainD d = true := by cases d <;> first | rfl | (cases n <;> exact h.elim)
theorem rowArg_plain {d : Dt} (h : rowArg d) : plainD d = true := by
  rcases h.1 with h | rfl
  · exact pd_plain h
  · rfl
def inAF : Dt → Bool
  | .str x => decide (x = "after") || decide (x = "from")
  | _ => false
theorem af {n : Nat} {a : Dt} (h : Pd n a) : ([Dt.str "after", .str "from"].any fun e => deq e a) = inAF a := by
  cases a with
  | str x =>
    simp only [List.any_cons, List.any_nil, deq_str, inAF, Bool.or_false]
    rw [show (decide (("after" : Str) = x)) = decide (x = "after") from decide_eq_decide.mpr eq_comm, show (decide (("from" : Str) = x)) = decide (x = "from") from decide_eq_decide.mpr eq_comm]
  | non => rfl
  | bl _ => rfl
  | int _ => rfl
  | lst _ => rfl
  | tup _ => rfl
  | _ => cases n <;> exact h.elim
theorem row_len {ds : List Dt} (h : ds.length ≠ 2) : isRow (.tup ds) = false := by
  match ds, h with
  | [], _ => rfl
  | [a], _ => cases a <;> rfl
  | [_, _], h => exact absurd rfl h
  | a :: b :: _ :: _, _ => cases a <;> cases b <;> rfl
theorem bad_at {ds : List Dt} {i : Nat} {x : Dt} (h : ds[i]? = some x) : firstBad i (ds.drop i) = if i = 20 ∨ isRow x = false then some i else firstBad (i + 1) (ds.drop (i + 1)) := by
  have hi : i < ds.length := (List.getElem?_eq_some_iff.mp h).1
  rw [List.drop_eq_getElem_cons hi, firstBad]
  rw [List.getElem?_eq_getElem hi] at h
  cases h
  rfl
theorem row_pair {a b : Dt} : isRow (.tup [a, b]) = (inAF a && (plainS b && match b with
  | .str b => (decide (1 ≤ b.length) && (decide (b.length ≤ 20) && !decide (32 ∈ b.cps.toList)))
  | _ => false)) := by
  cases a <;> cases b <;> simp [isRow, inAF, plainS]

def wOk (w : Dt) : Prop := ∃ a b c : Int, w = .lst [.int a, .int b, .int c] ∧ 0 ≤ b ∧ b < 2147483647 ∧ 0 ≤ c
def cnt : Dt → Int
  | .lst [_, _, .int c] => c
  | _ => 0
theorem primes {i : Int} (h0 : 0 ≤ i) (h7 : i < 5) : ∃ p : Int, atI [Dt.int 2147483629, Dt.int 2147483587, Dt.int 2147483579, Dt.int 2147483563, Dt.int 2147483549] i = some (.int p) ∧ 2147483549 ≤ p ∧ p ≤ 2147483629 := by
  have : i = 0 ∨ i = 1 ∨ i = 2 ∨ i = 3 ∨ i = 4 := by omega
  rcases this with rfl | rfl | rfl | rfl | rfl <;> exact ⟨_, rfl, by decide, by decide⟩
def S_well : Spc := Spf (A := Dt) (fun as => ∃ i, as = [.dt (.int i)]) (fun _ w => wOk w ∧ cnt w = 0) (fun _ w => .nw w) fun _ _ => []
def S_draw : Spc := Spf (A := Int × Dt) (fun as => ∃ w n, as = [.dt w, .dt (.int n)] ∧ wOk w ∧ cnt w < 1000000000 ∧ 0 < n ∧ n < 1000000) (fun as p => match as with
  | [.dt w, .dt (.int n)] => wOk p.2 ∧ cnt p.2 ≤ cnt w + 1 ∧ 0 ≤ p.1 ∧ p.1 < n
  | _ => False) (fun _ p => .d (.int p.1)) fun _ p => [.dt p.2]
def items : Dt → List Dt
  | .lst ds => ds
  | .str s => D.signs s
  | _ => []
def S_one : Spc := Spf (A := Dt × Dt) (fun as => ∃ w d, as = [.dt w, .dt d] ∧ wOk w ∧ cnt w < 1000000000 ∧ items d ≠ [] ∧ (items d).length < 100000) (fun as p => match as with
  | [.dt w, .dt d] => wOk p.2 ∧ cnt p.2 ≤ cnt w + 1 ∧ p.1 ∈ items d
  | _ => False) (fun _ p => .d p.1) fun _ p => [.dt p.2]

def S_sign : Spc := Spf (A := Nat × Dt) (fun as => ∃ w, as = [.dt w] ∧ wOk w ∧ cnt w < 1000000000) (fun as p => match as with
  | [.dt w] => wOk p.2 ∧ cnt p.2 ≤ cnt w + 1 ∧ okC p.1 = true ∧ p.1 ≠ 32
  | _ => False) (fun _ p => .d (.str (s1 p.1))) fun _ p => [.dt p.2]
theorem row_str {r : Dt} (h : isRow r = true) : ∃ a b, r = .tup [.str a, .str b] := by
  unfold isRow at h
  split at h
  · exact ⟨_, _, rfl⟩
  · cases h
theorem pd_nil : Pd 1 (.lst []) := fun x h => (List.not_mem_nil h).elim
theorem first_none : ∀ {ds : List Dt} {i : Nat}, firstBad i ds = none → ∀ x ∈ ds, isRow x = true
  | [], _, _, x, h => (List.not_mem_nil h).elim
  | d :: ds, i, e, x, h => by
    unfold firstBad at e
    split at e
    · cases e
    · rename_i g
      rcases List.mem_cons.mp h with rfl | h
      · cases q : isRow x with
        | true => rfl
        | false => exact absurd (.inr q) g
      · exact first_none e x h
theorem pd_row {x : Dt} (h : isRow x = true) : Pd 1 x := by
  obtain ⟨a, b, rfl⟩ := row_str h
  intro y hy
  simp only [List.mem_cons, List.mem_nil_iff, or_false] at hy
  rcases hy with rfl | rfl <;> exact trivial
theorem pd_rows {ds : List Dt} (h : badAt (.lst ds) = none) : Pd 2 (.lst ds) := by
  intro x hx
  refine pd_row (first_none (i := 0) (ds := ds) ?_ x hx)
  unfold badAt at h
  simp only at h
  split at h
  · cases h
  · assumption
def txtOk (b : Dt) : Bool := plainS b && match b with
  | .str b => (decide (1 ≤ b.length) && (decide (b.length ≤ 20) && !decide (32 ∈ b.cps.toList)))
  | _ => false
theorem key_bad {t : Dt} (h : txtOk t = false) (a : Dt) : isRow (.tup [a, t]) = false := by
  rw [row_pair]
  show (inAF a && txtOk t) = false
  rw [h, Bool.and_false]
theorem first_ge : ∀ {ds : List Dt} {i : Nat}, (∀ x ∈ ds, isRow x = true) → i ≤ 20 → firstBad i ds = if 20 < i + ds.length then some 20 else none
  | [], i, _, hi => by rw [firstBad, if_neg (by simp; omega)]
  | d :: ds, i, h, hi => by
    unfold firstBad
    have hd : isRow d = true := h d (by simp)
    by_cases e : i = 20
    · rw [if_pos (.inl e), if_pos (by simp; omega), e]
    · rw [if_neg (by simp [e, hd]), first_ge (fun x hx => h x (by simp [hx])) (by omega)]
      simp only [List.length_cons]
      congr 1
      simp only [eq_iff_iff]
      omega
def badT (t : Dt) : Prop := (∀ a, isRow (.tup [a, t]) = false) ∧ Pd 3 t ∧ ∀ s, t = .str s → s.length ≤ 1000
theorem row_arg {x : Dt} (h : Pd 5 x) (h2 : ∀ a s, x = .tup [a, .str s] → s.length ≤ 1000) : rowArg x := ⟨.inl h, h2⟩
theorem row_ok {a : Dt} {cs : List Nat} (ha : a ∈ [Dt.str "after", .str "from"]) (h1 : 1 ≤ cs.length) (h2 : cs.length ≤ 20) (h : ∀ c ∈ cs, okC c = true ∧ c ≠ 32) : isRow (.tup [a, .str (Txt.join (Str.ofString "") (cs.map s1))]) = true := by
  have hA : inAF a = true := by
    simp only [List.mem_cons, List.mem_nil_iff, or_false] at ha
    rcases ha with rfl | rfl <;> rfl
  have e := join_s1 cs
  have l := join_s1_len cs
  rw [row_pair, hA]
  simp only [plainS, e, l, Bool.true_and]
  rw [decide_eq_true h1, decide_eq_true h2, decide_eq_false fun m => (h 32 m).2 rfl]
  simp only [Bool.not_false, Bool.and_true]
  exact List.all_eq_true.mpr fun c hc => (h c hc).1
def S_right : Spc := Spf (A := Dt) (fun as => ∃ w, as = [.dt w] ∧ wOk w ∧ cnt w = 0) (fun _ _ => True) (fun _ _ => .d (.bl true)) fun _ w => [.dt w]
def S_law : Spc := Spf (A := Unit) (fun as => ∃ ns : List Int, as = [.dt (.lst (ns.map .int))] ∧ ns.length ≤ 63) (fun _ _ => True) (fun _ _ => .d (.bl true)) fun _ _ => []

theorem rowArg_row {x : Dt} (h : isRow x = true) : rowArg x := by
  refine ⟨.inl ((pd_row h).up (by decide)), fun a s e => ?_⟩
  subst e
  cases a <;> simp [isRow] at h
  omega
def mkS (l : List Nat) : Str := ⟨l.toArray⟩
theorem mkS_cps (l : List Nat) : (mkS l).cps.toList = l := rfl
theorem mkS_len (l : List Nat) : (mkS l).length = l.length := by show l.toArray.size = _; simp
theorem mkS_app (l : List Nat) (c : Nat) : mkS l ++ ⟨#[c]⟩ = mkS (l ++ [c]) := by
  show (⟨l.toArray ++ #[c]⟩ : Str) = ⟨(l ++ [c]).toArray⟩
  simp
theorem mkS_of (s : Str) : mkS s.cps.toList = s := by cases s; simp [mkS]
theorem str_nil {s : Str} (h : s.length = 0) : s = Str.ofString "" := by
  obtain ⟨a⟩ := s
  have : a.size = 0 := h
  have e : a = #[] := Array.eq_empty_of_size_eq_zero this
  subst e
  rfl
def digC (c : Nat) : Bool := decide (c ∈ (Str.ofString "0123456789").cps.toList)
def bareF : Bool → List Nat → List Nat
  | _, [] => []
  | b, c :: r => if digC c = true then (if b = true then bareF true r else 35 :: bareF true r) else c :: bareF false r
theorem bareF_len : ∀ (b : Bool) (l : List Nat), (bareF b l).length ≤ l.length
  | _, [] => Nat.le_refl _
  | b, c :: r => by
    have h1 := bareF_len true r
    have h2 := bareF_len false r
    unfold bareF
    split
    · split
      · simp; omega
      · simp; omega
    · simp; omega
theorem bareF_mem : ∀ (b : Bool) (l : List Nat), ∀ c ∈ bareF b l, c = 35 ∨ c ∈ l
  | _, [], c, h => (List.not_mem_nil h).elim
  | b, x :: r, c, h => by
    have h1 := bareF_mem true r c
    have h2 := bareF_mem false r c
    unfold bareF at h
    split at h
    · split at h
      · exact (h1 h).imp id (List.mem_cons_of_mem _)
      · rcases List.mem_cons.mp h with h | h
        · exact .inl h
        · exact (h1 h).imp id (List.mem_cons_of_mem _)
    · rcases List.mem_cons.mp h with h | h
      · exact .inr (h ▸ List.mem_cons_self ..)
      · exact (h2 h).imp id (List.mem_cons_of_mem _)
def bareS (s : Str) : Str := mkS (bareF false s.cps.toList)

theorem bareS_len (s : Str) : (bareS s).length ≤ s.length := by
  rw [bareS, mkS_len]
  exact Nat.le_trans (bareF_len _ _) (Nat.le_of_eq (len_list s))
def afterB (rs : List Dt) (ah : Dt) : Bool := rs.any fun e => deq e (.tup [.str "after", ah])
def fromB (w : Str) (r : Dt) : Bool := match r with
  | .tup [.str a, .str t] => decide (a = "from") && Txt.startswith w t
  | _ => false
def takenB (rs : List Dt) (ah : Dt) (w : Str) : Bool := afterB rs ah || rs.any (fromB w)
def ahD : Option Str → Dt
  | none => .non
  | some s => .str s
def cleanW (rs : List Dt) (ah : Option Str) (w : Str) : Str := if w.length = 0 then w else if takenB rs (ahD ah) w = true then "*" else bareS w
def nextA (ah : Option Str) (w : Str) : Option Str := if w.length = 0 then ah else some w
def cleanL (rs : List Dt) : Option Str → List Str → List Str
  | _, [] => []
  | ah, w :: r => cleanW rs ah w :: cleanL rs (nextA ah w) r
theorem cleanL_len (rs : List Dt) : ∀ (ah : Option Str) (l : List Str), (cleanL rs ah l).length = l.length
  | _, [] => rfl
  | ah, w :: r => by rw [cleanL, List.length_cons, cleanL_len rs _ r, List.length_cons]
theorem cleanW_len (rs : List Dt) (ah : Option Str) (w : Str) : (cleanW rs ah w).length ≤ w.length := by
  unfold cleanW
  split
  · exact Nat.le_refl _
  · rename_i h
    split
    · show 1 ≤ _
      omega
    · exact bareS_len w
theorem cleanL_sum (rs : List Dt) : ∀ (ah : Option Str) (l : List Str), ((cleanL rs ah l).map (·.length)).sum ≤ (l.map (·.length)).sum
  | _, [] => Nat.le_refl _
  | ah, w :: r => by
    simp only [cleanL, List.map_cons, List.sum_cons]
    exact Nat.add_le_add (cleanW_len rs ah w) (cleanL_sum rs _ r)
theorem cleanL_free (rs : List Dt) : ∀ (ah : Option Str) (l : List Str), (∀ w ∈ l, 32 ∉ w.cps.toList) → ∀ w ∈ cleanL rs ah l, 32 ∉ w.cps.toList
  | _, [], _, w, h => (List.not_mem_nil h).elim
  | ah, x :: r, hf, w, h => by
    rcases List.mem_cons.mp h with rfl | h
    · have hx := hf x (List.mem_cons_self ..)
      unfold cleanW
      split
      · exact hx
      · split
        · decide
        · rw [bareS, mkS_cps]
          intro m
          rcases bareF_mem _ _ _ m with m | m
          · cases m
          · exact hx m
    · exact cleanL_free rs _ r (fun w m => hf w (List.mem_cons_of_mem _ m)) w h
theorem takenB_rev (rs : List Dt) (ah : Dt) (w : Str) : takenB rs.reverse ah w = takenB rs ah w := by
  unfold takenB afterB
  rw [List.any_reverse, List.any_reverse]
theorem cleanL_rev (rs : List Dt) : ∀ (ah : Option Str) (l : List Str), cleanL rs.reverse ah l = cleanL rs ah l
  | _, [] => rfl
  | ah, w :: r => by
    simp only [cleanL, cleanW, takenB_rev]
    rw [cleanL_rev rs _ r]
def pcs (s : Str) : List Str := Txt.split s (Str.ofString " ")
def cleanS (rs : List Dt) (s : Str) : Str := Txt.join (Str.ofString " ") (cleanL rs none (pcs s))
theorem pcs_sum (s : Str) : ((pcs s).map (·.length)).sum + (pcs s).length ≤ s.length + 1 := PyProof.Rows.split_weight s _ (by decide)
theorem pcs_free (s : Str) : ∀ p ∈ pcs s, 32 ∉ p.cps.toList := StrLaws.split_free s 32
def rowsOk (rs : List Dt) : Prop := (∀ r ∈ rs, isRow r = true) ∧ rs.length ≤ 20
def S_wofig : Spc := Spf (A := Unit) (fun as => ∃ s : Str, as = [.dt (.str s)] ∧ s.length ≤ 1000) (fun _ _ => True) (fun as _ => match as with
  | [.dt (.str s)] => .d (.str (bareS s))
  | _ => .d .non) fun _ _ => []
def clD (C : Addr) (rs : List Dt) : Dt := .ins C [("rows", .lst rs)]
def S_taken (C : Addr) : Spc := Spf (A := Unit) (fun as => ∃ rs ah w, as = [.dt (clD C rs), .dt (ahD ah), .dt (.str w)] ∧ rowsOk rs) (fun _ _ => True) (fun as _ => match as with
  | [.dt (.ins _ [(_, .lst rs)]), .dt ah, .dt (.str w)] => .d (.bl (takenB rs ah w))
  | _ => .d .non) fun _ _ => []
def S_clean (C : Addr) : Spc := Spf (A := Unit) (fun as => ∃ rs s, as = [.dt (clD C rs), .dt (.str s)] ∧ rowsOk rs ∧ s.length ≤ 1000) (fun _ _ => True) (fun as _ => match as with
  | [.dt (.ins _ [(_, .lst rs)]), .dt (.str s)] => .d (.str (cleanS rs s))
  | _ => .d .non) fun _ _ => []
def wordS (s : Str) : Prop := 1 ≤ s.length ∧ s.length ≤ 9 ∧ ∀ c ∈ s.cps.toList, okC c = true ∧ c ≠ 32
def pieceS (s : Str) : Prop := ∀ c ∈ s.cps.toList, okC c = true ∧ c ≠ 32
def goodS (s : Str) : Prop := 1 ≤ s.length ∧ s.length ≤ 1000 ∧ pieceS s
def S_word : Spc := Spf (A := Str × Dt) (fun as => ∃ w, as = [.dt w] ∧ wOk w ∧ cnt w < 1000000) (fun as p => match as with
  | [.dt w] => wOk p.2 ∧ cnt p.2 ≤ cnt w + 12 ∧ wordS p.1
  | _ => False) (fun _ p => .d (.str p.1)) fun _ p => [.dt p.2]
def S_row : Spc := Spf (A := Dt × Dt) (fun as => ∃ (w : Dt) (ss : List Str), as = [.dt w, .dt (.lst (ss.map .str))] ∧ wOk w ∧ cnt w < 1000000 ∧ (∀ s ∈ ss, pieceS s ∧ s.length ≤ 1000) ∧ ss.length ≤ 1000) (fun as p => match as with
  | [.dt w, _] => wOk p.2 ∧ cnt p.2 ≤ cnt w + 20 ∧ isRow p.1 = true
  | _ => False) (fun _ p => .d p.1) fun _ p => [.dt p.2]
def unS : Dt → Str
  | .str s => s
  | _ => Str.ofString ""
theorem unS_map (ss : List Str) : (ss.map Dt.str).map unS = ss := by
  rw [List.map_map]
  induction ss with
  | nil => rfl
  | cons s r ih => rw [List.map_cons, ih]; rfl
def dueS (rs ds : List Dt) : Str := Txt.join (Str.ofString " ") (cleanL rs none (ds.map unS))
def S_due : Spc := Spf (A := Unit) (fun as => ∃ (rs : List Dt) (ss : List Str), as = [.dt (.lst rs), .dt (.lst (ss.map .str))] ∧ rowsOk rs ∧ (∀ s ∈ ss, s.length ≤ 1000) ∧ ss.length ≤ 1000 ∧ (ss.map (·.length)).sum ≤ 1000) (fun _ _ => True) (fun as _ => match as with
  | [.dt (.lst rs), .dt (.lst ds)] => .d (.str (dueS rs ds))
  | _ => .d .non) fun _ _ => []

theorem sum_mem_le {ss : List Str} {w : Str} (h : w ∈ ss) : w.length ≤ (ss.map (·.length)).sum := by
  induction ss with
  | nil => cases h
  | cons a r ih =>
    rw [List.map_cons, List.sum_cons]
    rcases List.mem_cons.mp h with rfl | h
    · exact Nat.le_add_right _ _
    · exact Nat.le_trans (ih h) (Nat.le_add_left _ _)
def lastN (l : List Str) : Option Str := (l.filter fun s => !decide (s.length = 0)).getLast?
theorem lastN_snoc (l : List Str) (w : Str) : lastN (l ++ [w]) = nextA (lastN l) w := by
  unfold lastN nextA
  rw [List.filter_append]
  by_cases h : w.length = 0
  · simp [h]
  · simp [h]
theorem filter_any {α : Type} {l : List α} {p : α → Bool} {inst : Decidable (l.filter p = [])} : (!(@decide (l.filter p = []) inst)) = l.any p := by
  cases h : l.any p with
  | false =>
    rw [decide_eq_true]
    · rfl
    · rw [List.filter_eq_nil_iff]
      exact fun x hx z => by
        rw [List.any_eq_false] at h
        exact h x hx z
  | true =>
    rw [decide_eq_false]
    · rfl
    · intro z
      obtain ⟨x, hx, hp⟩ := List.any_eq_true.mp h
      have := List.mem_filter.mpr ⟨hx, hp⟩
      rw [z] at this
      cases this
theorem after_non {rs : List Dt} (h : ∀ r ∈ rs, isRow r = true) : afterB rs (ahD none) = false := by
  unfold afterB
  rw [List.any_eq_false]
  intro e he z
  obtain ⟨a, b, rfl⟩ := row_str (h e he)
  simp [deq, toP, toPs, PyData.eqv, PyData.eqvAll, ahD] at z
theorem mem_joinL {S : List Nat} {c : Nat} : ∀ {ps : List (List Nat)}, c ∈ TL.joinL S ps → c ∈ S ∨ ∃ p ∈ ps, c ∈ p
  | [], h => (List.not_mem_nil h).elim
  | [p], h => .inr ⟨p, List.mem_cons_self .., h⟩
  | p :: q :: r, h => by
    rcases List.mem_append.mp h with h | h
    · exact .inr ⟨p, List.mem_cons_self .., h⟩
    · rcases List.mem_append.mp h with h | h
      · exact .inl h
      · rcases mem_joinL h with h | ⟨z, hz, h⟩
        · exact .inl h
        · exact .inr ⟨z, List.mem_cons_of_mem _ hz, h⟩
theorem joinL_mem {S : List Nat} {c : Nat} : ∀ {ps : List (List Nat)} {p : List Nat}, p ∈ ps → c ∈ p → c ∈ TL.joinL S ps
  | [], _, h, _ => (List.not_mem_nil h).elim
  | [q], p, h, hc => by
    cases List.mem_singleton.mp h
    exact hc
  | q :: q' :: r, p, h, hc => by
    rcases List.mem_cons.mp h with rfl | h
    · exact List.mem_append_left _ hc
    · exact List.mem_append_right _ (List.mem_append_right _ (joinL_mem h hc))
theorem mem_join {c : Nat} {ss : List Str} (h : c ∈ (Txt.join (Str.ofString " ") ss).cps.toList) : c = 32 ∨ ∃ p ∈ ss, c ∈ p.cps.toList := by
  rw [TL.join_eq] at h
  have e := TL.tl_join (Str.ofString " ") ss
  have h : c ∈ TL.joinL (TL.tl (Str.ofString " ")) (ss.map TL.tl) := e ▸ h
  rcases mem_joinL h with h | ⟨p, hp, h⟩
  · exact .inl (List.mem_singleton.mp h)
  · obtain ⟨z, hz, rfl⟩ := List.mem_map.mp hp
    exact .inr ⟨z, hz, h⟩
theorem part_mem {t p : Str} {c : Nat} (hp : p ∈ pcs t) (hc : c ∈ p.cps.toList) : c ∈ t.cps.toList := by
  have e := StrLaws.join_split t (Str.ofString " ")
  have e2 := TL.tl_join (Str.ofString " ") (pcs t)
  have : c ∈ TL.joinL (TL.tl (Str.ofString " ")) ((pcs t).map TL.tl) := joinL_mem (List.mem_map.mpr ⟨p, hp, rfl⟩) hc
  rw [← e2] at this
  rw [← e]
  exact this
theorem join_len {y : Str} {ss : List Str} : (Txt.join y ss).length ≤ (ss.map (·.length)).sum + ss.length * y.length := by
  rw [TL.join_eq]
  cases ss with
  | nil => exact Nat.zero_le _
  | cons a r =>
    rw [PyProof.Rows.len_join_cons, List.length_cons]
    exact Nat.add_le_add_left (Nat.mul_le_mul_right _ (Nat.le_succ _)) _
theorem sum_le9 {ss : List Str} (h : ∀ s ∈ ss, s.length ≤ 9) : (ss.map (·.length)).sum ≤ 9 * ss.length := by
  induction ss with
  | nil => exact Nat.le_refl _
  | cons a r ih =>
    have h1 := h a (List.mem_cons_self ..)
    have h2 := ih fun s hs => h s (List.mem_cons_of_mem _ hs)
    rw [List.map_cons, List.sum_cons, List.length_cons]
    omega
def okT (t : Str) : Prop := (∀ c ∈ t.cps.toList, okC c = true) ∧ t.length ≤ 300
theorem okT_pieces {t : Str} (h : okT t) : ∀ p ∈ pcs t, pieceS p ∧ p.length ≤ 1000 := fun p hp => by
  refine ⟨fun c hc => ⟨h.1 c (part_mem hp hc), fun e => ?_⟩, ?_⟩
  · rw [e] at hc
    exact pcs_free t p hp hc
  · have := pcs_sum t
    have := sum_mem_le hp
    have := h.2
    omega
theorem fold_mem {c : Nat} {a : Array Nat} : ∀ (n : Nat) (b : Array Nat), c ∈ ((List.replicate n a).foldl (· ++ ·) b) → c ∈ b ∨ c ∈ a
  | 0, b, h => .inl h
  | n + 1, b, h => by
    rw [List.replicate_succ, List.foldl_cons] at h
    rcases fold_mem n _ h with h | h
    · exact Array.mem_append.mp h
    · exact .inr h
theorem rep_mem {k : Int} {z : Str} {c : Nat} (h : c ∈ (repS k z).cps.toList) : c ∈ z.cps.toList := by
  rcases fold_mem _ _ (Array.mem_toList_iff.mp h) with h | h
  · exact absurd h (by simp)
  · exact Array.mem_toList_iff.mpr h
theorem pcs_count (t : Str) : ((pcs t).length : Int) = 1 + Txt.count t (Str.ofString " ") := by
  rw [show Str.ofString " " = ⟨#[32]⟩ from rfl, PyProof.Rows.count_cnt]
  exact PyProof.Rows.split_len t 32
theorem pcs_ne (t : Str) : pcs t ≠ [] := by
  intro e
  have h := pcs_count t
  have := (PyProof.Rows.count_bounds t (Str.ofString " ")).1
  rw [e] at h
  simp only [List.length_nil] at h
  omega
theorem count_clean (rs : List Dt) (t : Str) : Txt.count (cleanS rs t) (Str.ofString " ") = Txt.count t (Str.ofString " ") := by
  have h1 := pcs_count t
  have h2 := pcs_count (cleanS rs t)
  have e : pcs (cleanS rs t) = cleanL rs none (pcs t) := by
    refine TL.split_join (s := 32) (S := []) rfl (by decide +kernel) (fun e => ?_) (cleanL_free rs none _ (pcs_free t))
    have := cleanL_len rs none (pcs t)
    rw [e] at this
    exact pcs_ne t (List.eq_nil_of_length_eq_zero this.symm)
  rw [e, cleanL_len] at h2
  omega
theorem emp_eq {w : Str} : decide (w = Str.ofString "") = decide (w.length = 0) := decide_eq_decide.mpr ⟨fun h => by rw [h]; rfl, str_nil⟩

abbrev s_NoCleaner_init : Stmt := inClass (top 2) 0
theorem sc_NoCleaner_init : FnScope ["self", "at"] ["self", "at"] (defScope s_NoCleaner_init) := ⟨rfl, rfl, rfl, by decide +kernel, rfl, by decide +kernel, by decide +kernel⟩
theorem ok_NoCleaner_init {P : Program} {w : World} {K : PySem.W.Frag} {mg : Str → Option Value} {base : Heap} {f c_F c_X : Addr} {fd : FuncData} (T : OexC K c_X) (nf : PySem.W.findIn K (.ref c_X) "at" = some none) (T0 : FinC K c_F) (gF : mg "FellError" = some (.ref c_F)) (F : Fun K "__init__" "NoCleaner.__init__" s_NoCleaner_init f fd) :
    FnOk P w K mg base CX0 1 f fd ["self", "at"] (spFin K c_X "at") := by
  refine F.ok sc_NoCleaner_init (fun vs H Q E h => spFin_len h) (fun cdv A outer s H vs Q E hr h => ?_)
  refine ⟨_, pss_cons (ps_expr (pe_finit T0 rfl gF (pa_cons (pv 0) (pa_cons pe_str pa_nil)))) (pss_one (ps_ost (pv 0) (pv 1))), ?_⟩
  obtain ⟨a, v, rfl, e, q⟩ := id h
  exact fin_body T nf h
/-! #### is_plain -/
abbrev s_is_plain : Stmt := top 4
abbrev N_is_plain : List Str := ["thing", "sign"]
abbrev P_is_plain : List Str := ["thing"]
abbrev ms_is_plain : List Md := [.v]
theorem sc_is_plain : FnScope N_is_plain P_is_plain (defScope s_is_plain) := ⟨rfl, rfl, rfl, by decide +kernel, rfl, by decide +kernel, by decide +kernel⟩
theorem ok_is_plain {P : Program} {w : World} {K : PySem.W.Frag} {mg : Str → Option Value} {base : Heap} {f : Addr} {fd : FuncData} {c_FellError c_NoCleaner c_Cleaner : Addr} (G : Gs K mg c_FellError c_NoCleaner c_Cleaner) (X_NoCleaner : ExO P w K mg base "NoCleaner" c_NoCleaner "at") (K_Cleaner : ClF K mg "Cleaner" c_Cleaner) (nA_Cleaner_rows : NoAttr K c_Cleaner "rows") (F : Fun K "is_plain" "is_plain" s_is_plain f fd) (mf : mg "is_plain" = some (.ref f)) :
    Hs P w K mg base CX0 1 "is_plain" P_is_plain (toSp K ms_is_plain (S_is_plain)) := by
  refine ⟨f, fd, ?_, mf, F.kp, F.binds (ps := P_is_plain) fun _ _ _ _ _ _ us hl => match us, hl with | [_], _ => rfl⟩
  refine F.ok sc_is_plain (fun vs H Q E h => toSp_len h) (fun cdv A outer s H vs Q E hr h => ?_)
  have hu := hr.units
  refine ⟨_, pss_one (ps_ret (pe_and (pe_callB call_isi rfl G.b_isinstance (by decide +kernel) (pa_cons (pv 0) (pa_cons (pe_bltn (v := .ty "str") (u := .type "str") rfl G.b_str (by decide +kernel) rfl) (pa_nil)))) (pe_one (pe_callB (cr_all rfl) rfl G.b_all (by decide +kernel) (pa_cons (pe_lc (own := [("sign", 1)]) (tt := tYes) rfl sc_is_plain.nd (pi_str (pv 0)) (blkOk_by (N := N_is_plain) (sc := defScope s_is_plain) (by decide +kernel)) (fun _ _ _ _ _ => pg_name (i := 1) sc_is_plain.nd rfl (by first | exact Or.inl rfl | exact Or.inr rfl | exact .inr (.inl rfl) | exact .inr (.inr rfl))) (fun _ _ _ _ _ => pts_nil) (fun _ _ _ _ _ => pe_chain (op_le_str) (op_le_str) (pe_str) (pv 1) (pe_str))) (pa_nil)))))), ?_⟩
  refine run_body0 h (by decide) (fun as => ds_ret (de_andV (de_cb (dc_isi) (da_cons (de_var 0) (da_cons (de_ty) (da_nil)))) (de_cb (dc_F1 f1_all) (da_cons (de_lc (vs := [1]) (di_str (de_var 0)) (dg_name 1) (dt_yes) (de_chain p2_leS p2_leS (de_str) (de_var 1) (de_str)) (by decide)) (da_nil))))) (fun as hp hl => ?_)
  obtain ⟨d, rfl, hd, hs⟩ := hp
  simp (maxSteps := 3000000) only [roSplit, roStr1, rSlSt, rSlBy, rRevL, TruD, rOrT, rAndT, rMake_g, roCatT, roRep, rMeth, rFld, rSetF, rXfn, rXf, lk_eq, putD, Dt.ins.injEq, Dt.exn.injEq, RleS, RMulS, roJoin, rRet, rRetN, rSeq, rIfS, rAsg, rVar, ofEn, rC, rOp, rUn, roP, rCB, rCons, rNil, rAndV, rOrV, rNotV, rB, rAnd, rOr, rNot, rIf, rTup, rLst, rDrop, rNext, rNever, look, frz, frzs, looks, held, roIsi, roF1, roL1, roNeg, rDNew, startE, ents, ent, csOf, unal, finds, RI0, RI, int_in, int_bl, len_ls, len_tu, len_st, len_by, at0, at1, at2, at3, ix30, ix31, ix32, eq_ii, ne_ii, eq_by, ne_by, notin_c, in_c, D.rChain, RIxA, roTupOf, RListOf, RListB, List.findSome?, List.getElem?_cons_zero, List.getElem?_cons_succ, List.getElem?_nil, List.set_cons_zero, List.set_cons_succ, List.length_cons, List.length_nil, List.map_cons, List.map_nil, List.replicate, List.nil_append, List.cons_append, List.append_nil, Option.some.injEq, exists_eq_left', exists_eq_left, exists_eq', exists_eq, true_and, and_true, Vl.d.injEq, Vl.nw.injEq, Vl.sl.injEq, Dt.int.injEq, Dt.bl.injEq, Dt.str.injEq, Dt.lst.injEq, Dt.tup.injEq, Dt.byt.injEq, Dt.ty.injEq, Dt.ref.injEq, En.val.injEq, En.mu.injEq, En.bor.injEq, List.cons.injEq, Nat.reduceLT, Nat.reduceAdd, Nat.reduceSub, Nat.zero_add, and_self, ↓reduceIte, Bool.false_eq_true, reduceCtorEq, false_and, and_false, exists_const, exists_false, or_false, false_or, Nat.reduceEqDiff, Option.map_some, Option.getD_some, Option.getD_none, and_assoc, exists_and_left, exists_and_right, rCall_f, rCall_g, f_pre, f_post, g_pre, g_post, g_exc, Prod.forall, Prod.exists, Prod.mk.injEq, exists_const, forall_const, argsD, conP, entD, remP, flagsP, flagAt, putP, aft, Ct.dt.injEq, forall_eq, forall_eq', forall_const, implies_true, false_implies, and_imp, forall_exists_index, forall_apply_eq_imp_iff, List.length_append, retD, rFor_L, asgLc, rLc_L, riList, riTup, riStr, riRange1, riRange2, riEnum, riRev, rgName, rgTup, rgCons, rgNil, wipeE, unw, rYes, rAsgG, rAsgSub, roSetL, rBM, rBM0, roAppend, roOwn0, isa_no, isa_bl, isa_in, isa_st, isa_by, isa_ls, isa_tu, isa_di, beq_self_eq_true, Bool.or_true, Bool.true_or, Bool.or_false, Bool.false_or, Bool.or_self, Bool.not_true, Bool.not_false, Bool.and_true, Bool.true_and, Bool.and_false, Bool.false_and, String.reduceBEq, String.reduceEq, not_true_eq_false, not_false_eq_true, rSlL', roNone, roSome, roCat, D.trk, rRaise0, rRaise1, excD, rTry, rEx, wMixD, goneD, List.isEmpty_nil, if_true, List.length_singleton, Nat.reduceLeDiff, Nat.reducePow, Int.reducePow, Int.reduceLT, Int.reduceLE, Int.reduceNeg, Int.reduceToNat, ms_is_plain, hd, S_is_plain]
  refine ⟨by decide, ?_⟩
  by_cases ht : ∃ s, d = .str s
  · obtain ⟨s, rfl⟩ := ht
    simp (maxSteps := 3000000) only [roSplit, roStr1, rSlSt, rSlBy, rRevL, TruD, rOrT, rAndT, rMake_g, roCatT, roRep, rMeth, rFld, rSetF, rXfn, rXf, lk_eq, putD, Dt.ins.injEq, Dt.exn.injEq, RleS, RMulS, roJoin, rRet, rRetN, rSeq, rIfS, rAsg, rVar, ofEn, rC, rOp, rUn, roP, rCB, rCons, rNil, rAndV, rOrV, rNotV, rB, rAnd, rOr, rNot, rIf, rTup, rLst, rDrop, rNext, rNever, look, frz, frzs, looks, held, roIsi, roF1, roL1, roNeg, rDNew, startE, ents, ent, csOf, unal, finds, RI0, RI, int_in, int_bl, len_ls, len_tu, len_st, len_by, at0, at1, at2, at3, ix30, ix31, ix32, eq_ii, ne_ii, eq_by, ne_by, notin_c, in_c, D.rChain, RIxA, roTupOf, RListOf, RListB, List.findSome?, List.getElem?_cons_zero, List.getElem?_cons_succ, List.getElem?_nil, List.set_cons_zero, List.set_cons_succ, List.length_cons, List.length_nil, List.map_cons, List.map_nil, List.replicate, List.nil_append, List.cons_append, List.append_nil, Option.some.injEq, exists_eq_left', exists_eq_left, exists_eq', exists_eq, true_and, and_true, Vl.d.injEq, Vl.nw.injEq, Vl.sl.injEq, Dt.int.injEq, Dt.bl.injEq, Dt.str.injEq, Dt.lst.injEq, Dt.tup.injEq, Dt.byt.injEq, Dt.ty.injEq, Dt.ref.injEq, En.val.injEq, En.mu.injEq, En.bor.injEq, List.cons.injEq, Nat.reduceLT, Nat.reduceAdd, Nat.reduceSub, Nat.zero_add, and_self, ↓reduceIte, Bool.false_eq_true, reduceCtorEq, false_and, and_false, exists_const, exists_false, or_false, false_or, Nat.reduceEqDiff, Option.map_some, Option.getD_some, Option.getD_none, and_assoc, exists_and_left, exists_and_right, rCall_f, rCall_g, f_pre, f_post, g_pre, g_post, g_exc, Prod.forall, Prod.exists, Prod.mk.injEq, exists_const, forall_const, argsD, conP, entD, remP, flagsP, flagAt, putP, aft, Ct.dt.injEq, forall_eq, forall_eq', forall_const, implies_true, false_implies, and_imp, forall_exists_index, forall_apply_eq_imp_iff, List.length_append, retD, rFor_L, asgLc, rLc_L, riList, riTup, riStr, riRange1, riRange2, riEnum, riRev, rgName, rgTup, rgCons, rgNil, wipeE, unw, rYes, rAsgG, rAsgSub, roSetL, rBM, rBM0, roAppend, roOwn0, isa_no, isa_bl, isa_in, isa_st, isa_by, isa_ls, isa_tu, isa_di, beq_self_eq_true, Bool.or_true, Bool.true_or, Bool.or_false, Bool.false_or, Bool.or_self, Bool.not_true, Bool.not_false, Bool.and_true, Bool.true_and, Bool.and_false, Bool.false_and, String.reduceBEq, String.reduceEq, not_true_eq_false, not_false_eq_true, rSlL', roNone, roSome, roCat, D.trk, rRaise0, rRaise1, excD, rTry, rEx, wMixD, goneD, List.isEmpty_nil, if_true, List.length_singleton, Nat.reduceLeDiff, Nat.reducePow, Int.reducePow, Int.reduceLT, Int.reduceLE, Int.reduceNeg, Int.reduceToNat]
    refine lc_map (fun i acc η' => η' = [some (.val (.str s)), none] ∧ acc = (s.cps.toList.take i).map fun c => .bl (okC c)) (by rw [D.signs_length]; have := hs s rfl; exact Nat.le_trans this (by decide)) ⟨rfl, rfl⟩ ?_ ?_
    · rintro i x acc η' hx hl ⟨rfl, rfl⟩
      obtain ⟨c, hc, rfl⟩ := signs_get hx
      simp (maxSteps := 3000000) only [roSplit, roStr1, rSlSt, rSlBy, rRevL, TruD, rOrT, rAndT, rMake_g, roCatT, roRep, rMeth, rFld, rSetF, rXfn, rXf, lk_eq, putD, Dt.ins.injEq, Dt.exn.injEq, RleS, RMulS, roJoin, rRet, rRetN, rSeq, rIfS, rAsg, rVar, ofEn, rC, rOp, rUn, roP, rCB, rCons, rNil, rAndV, rOrV, rNotV, rB, rAnd, rOr, rNot, rIf, rTup, rLst, rDrop, rNext, rNever, look, frz, frzs, looks, held, roIsi, roF1, roL1, roNeg, rDNew, startE, ents, ent, csOf, unal, finds, RI0, RI, int_in, int_bl, len_ls, len_tu, len_st, len_by, at0, at1, at2, at3, ix30, ix31, ix32, eq_ii, ne_ii, eq_by, ne_by, notin_c, in_c, D.rChain, RIxA, roTupOf, RListOf, RListB, List.findSome?, List.getElem?_cons_zero, List.getElem?_cons_succ, List.getElem?_nil, List.set_cons_zero, List.set_cons_succ, List.length_cons, List.length_nil, List.map_cons, List.map_nil, List.replicate, List.nil_append, List.cons_append, List.append_nil, Option.some.injEq, exists_eq_left', exists_eq_left, exists_eq', exists_eq, true_and, and_true, Vl.d.injEq, Vl.nw.injEq, Vl.sl.injEq, Dt.int.injEq, Dt.bl.injEq, Dt.str.injEq, Dt.lst.injEq, Dt.tup.injEq, Dt.byt.injEq, Dt.ty.injEq, Dt.ref.injEq, En.val.injEq, En.mu.injEq, En.bor.injEq, List.cons.injEq, Nat.reduceLT, Nat.reduceAdd, Nat.reduceSub, Nat.zero_add, and_self, ↓reduceIte, Bool.false_eq_true, reduceCtorEq, false_and, and_false, exists_const, exists_false, or_false, false_or, Nat.reduceEqDiff, Option.map_some, Option.getD_some, Option.getD_none, and_assoc, exists_and_left, exists_and_right, rCall_f, rCall_g, f_pre, f_post, g_pre, g_post, g_exc, Prod.forall, Prod.exists, Prod.mk.injEq, exists_const, forall_const, argsD, conP, entD, remP, flagsP, flagAt, putP, aft, Ct.dt.injEq, forall_eq, forall_eq', forall_const, implies_true, false_implies, and_imp, forall_exists_index, forall_apply_eq_imp_iff, List.length_append, retD, rFor_L, asgLc, rLc_L, riList, riTup, riStr, riRange1, riRange2, riEnum, riRev, rgName, rgTup, rgCons, rgNil, wipeE, unw, rYes, rAsgG, rAsgSub, roSetL, rBM, rBM0, roAppend, roOwn0, isa_no, isa_bl, isa_in, isa_st, isa_by, isa_ls, isa_tu, isa_di, beq_self_eq_true, Bool.or_true, Bool.true_or, Bool.or_false, Bool.false_or, Bool.or_self, Bool.not_true, Bool.not_false, Bool.and_true, Bool.true_and, Bool.and_false, Bool.false_and, String.reduceBEq, String.reduceEq, not_true_eq_false, not_false_eq_true, rSlL', roNone, roSome, roCat, D.trk, rRaise0, rRaise1, excD, rTry, rEx, wMixD, goneD, List.isEmpty_nil, if_true, List.length_singleton, Nat.reduceLeDiff, Nat.reducePow, Int.reducePow, Int.reduceLT, Int.reduceLE, Int.reduceNeg, Int.reduceToNat]
      rw [take_succ_at hc, List.map_append, show (Str.ofString " ").cps.toList = [32] from rfl, show (Str.ofString "~").cps.toList = [126] from rfl]
      simp only [List.map_cons, List.map_nil, okC]
      cases decide ([c] < [32]) <;> rfl
    · rintro acc η' hl ⟨rfl, rfl⟩
      simp (maxSteps := 3000000) only [roSplit, roStr1, rSlSt, rSlBy, rRevL, TruD, rOrT, rAndT, rMake_g, roCatT, roRep, rMeth, rFld, rSetF, rXfn, rXf, lk_eq, putD, Dt.ins.injEq, Dt.exn.injEq, RleS, RMulS, roJoin, rRet, rRetN, rSeq, rIfS, rAsg, rVar, ofEn, rC, rOp, rUn, roP, rCB, rCons, rNil, rAndV, rOrV, rNotV, rB, rAnd, rOr, rNot, rIf, rTup, rLst, rDrop, rNext, rNever, look, frz, frzs, looks, held, roIsi, roF1, roL1, roNeg, rDNew, startE, ents, ent, csOf, unal, finds, RI0, RI, int_in, int_bl, len_ls, len_tu, len_st, len_by, at0, at1, at2, at3, ix30, ix31, ix32, eq_ii, ne_ii, eq_by, ne_by, notin_c, in_c, D.rChain, RIxA, roTupOf, RListOf, RListB, List.findSome?, List.getElem?_cons_zero, List.getElem?_cons_succ, List.getElem?_nil, List.set_cons_zero, List.set_cons_succ, List.length_cons, List.length_nil, List.map_cons, List.map_nil, List.replicate, List.nil_append, List.cons_append, List.append_nil, Option.some.injEq, exists_eq_left', exists_eq_left, exists_eq', exists_eq, true_and, and_true, Vl.d.injEq, Vl.nw.injEq, Vl.sl.injEq, Dt.int.injEq, Dt.bl.injEq, Dt.str.injEq, Dt.lst.injEq, Dt.tup.injEq, Dt.byt.injEq, Dt.ty.injEq, Dt.ref.injEq, En.val.injEq, En.mu.injEq, En.bor.injEq, List.cons.injEq, Nat.reduceLT, Nat.reduceAdd, Nat.reduceSub, Nat.zero_add, and_self, ↓reduceIte, Bool.false_eq_true, reduceCtorEq, false_and, and_false, exists_const, exists_false, or_false, false_or, Nat.reduceEqDiff, Option.map_some, Option.getD_some, Option.getD_none, and_assoc, exists_and_left, exists_and_right, rCall_f, rCall_g, f_pre, f_post, g_pre, g_post, g_exc, Prod.forall, Prod.exists, Prod.mk.injEq, exists_const, forall_const, argsD, conP, entD, remP, flagsP, flagAt, putP, aft, Ct.dt.injEq, forall_eq, forall_eq', forall_const, implies_true, false_implies, and_imp, forall_exists_index, forall_apply_eq_imp_iff, List.length_append, retD, rFor_L, asgLc, rLc_L, riList, riTup, riStr, riRange1, riRange2, riEnum, riRev, rgName, rgTup, rgCons, rgNil, wipeE, unw, rYes, rAsgG, rAsgSub, roSetL, rBM, rBM0, roAppend, roOwn0, isa_no, isa_bl, isa_in, isa_st, isa_by, isa_ls, isa_tu, isa_di, beq_self_eq_true, Bool.or_true, Bool.true_or, Bool.or_false, Bool.false_or, Bool.or_self, Bool.not_true, Bool.not_false, Bool.and_true, Bool.true_and, Bool.and_false, Bool.false_and, String.reduceBEq, String.reduceEq, not_true_eq_false, not_false_eq_true, rSlL', roNone, roSome, roCat, D.trk, rRaise0, rRaise1, excD, rTry, rEx, wMixD, goneD, List.isEmpty_nil, if_true, List.length_singleton, Nat.reduceLeDiff, Nat.reducePow, Int.reducePow, Int.reduceLT, Int.reduceLE, Int.reduceNeg, Int.reduceToNat]
      rw [D.signs_length, show s.cps.size = s.cps.toList.length by simp, List.take_length]
      exact ⟨_, ⟨s.cps.toList.map okC, by simp, rfl⟩, by simp [plainS, List.all_map]; try rfl⟩
  · have : isa "str" d = false := by cases d <;> first | rfl | exact absurd ⟨_, rfl⟩ ht
    rw [this]
    simp only [Bool.false_eq_true, if_false]
    cases d <;> first | rfl | exact absurd ⟨_, rfl⟩ ht
/-! #### is_row -/
abbrev s_is_row : Stmt := top 9
abbrev N_is_row : List Str := ["thing"]
abbrev P_is_row : List Str := ["thing"]
abbrev ms_is_row : List Md := [.v]
theorem sc_is_row : FnScope N_is_row P_is_row (defScope s_is_row) := ⟨rfl, rfl, rfl, by decide +kernel, rfl, by decide +kernel, by decide +kernel⟩
theorem ok_is_row {P : Program} {w : World} {K : PySem.W.Frag} {mg : Str → Option Value} {base : Heap} {f : Addr} {fd : FuncData} {c_FellError c_NoCleaner c_Cleaner : Addr} (G : Gs K mg c_FellError c_NoCleaner c_Cleaner) (h0 : Hs P w K mg base CX0 1 "is_plain" P_is_plain (toSp K ms_is_plain (S_is_plain))) (X_NoCleaner : ExO P w K mg base "NoCleaner" c_NoCleaner "at") (K_Cleaner : ClF K mg "Cleaner" c_Cleaner) (nA_Cleaner_rows : NoAttr K c_Cleaner "rows") (F : Fun K "is_row" "is_row" s_is_row f fd) (mf : mg "is_row" = some (.ref f)) :
    Hs P w K mg base CX0 2 "is_row" P_is_row (toSp K ms_is_row (S_is_row)) := by
  obtain ⟨f0, fd0, F0, m0, k0, b0⟩ := h0
  obtain ⟨t_MOST_SIGNS, g_MOST_SIGNS⟩ := G.c_MOST_SIGNS
  refine ⟨f, fd, ?_, mf, F.kp, F.binds (ps := P_is_row) fun _ _ _ _ _ _ us hl => match us, hl with | [_], _ => rfl⟩
  refine F.ok sc_is_row (fun vs H Q E h => toSp_len h) (fun cdv A outer s H vs Q E hr h => ?_)
  have hu := hr.units
  refine ⟨_, pss_cons (ps_if (PW.pt (pw_or (pt_not (pt_val (pe_callB call_isi rfl G.b_isinstance (by decide +kernel) (pa_cons (pv 0) (pa_cons (pe_bltn (v := .ty "tuple") (u := .type "tuple") rfl G.b_tuple (by decide +kernel) rfl) (pa_nil)))))) (pw_or (pt_cmpR ((op_neA hu)) (pe_callB call_len rfl G.b_len (by decide +kernel) (pa_cons (pv 0) (pa_nil))) (pe_int) (nomark _)) (pw_or1 (pt_cmpR ((op_notInA hu)) (pe_ix ix_seq (pv 0) (pe_int) (fun _ _ => rfl)) (pe_tup (pa_cons (pe_str) (pa_cons (pe_str) (pa_nil)))) (by rfl)))))) (pss_one (ps_ret (pe_bl))) (pss_nil)) (pss_one (ps_ret (pe_and (pe_callS (E := (fun _ => E0)) F0 (hr.mono (by decide)) rfl m0 k0 b0 (fun _ => fun _ _ _ _ _ _ h => h.elim) (pa_cons (pe_ix ix_seq (pv 0) (pe_int) (fun _ _ => rfl)) (pa_nil))) (pe_and (pe_chain (op_le) (op_le) (pe_int) (pe_callB call_len rfl G.b_len (by decide +kernel) (pa_cons (pe_ix ix_seq (pv 0) (pe_int) (fun _ _ => rfl)) (pa_nil))) (pe_glob (v := .int 20) rfl g_MOST_SIGNS ⟨_, rfl⟩)) (pe_one (pe_cmpR ((op_notInA hu)) (pe_str) (pe_ix ix_seq (pv 0) (pe_int) (fun _ _ => rfl)) (by rfl))))))), ?_⟩
  refine run_body0 h (by decide) (fun as => ds_seq (ds_if (dt_or (dt_not (dt_B (de_cb (dc_isi) (da_cons (de_var 0) (da_cons (de_ty) (da_nil)))))) (dt_or (dt_test (de_op (d2_P p2_ne) (de_cb (dc_F1 f1_len) (da_cons (de_var 0) (da_nil))) (de_int))) (dt_test (de_op (d2_P p2_notIn) (de_op (d2_P p2_ix) (de_var 0) (de_int)) (de_tup (da_cons (de_str) (da_cons (de_str) (da_nil)))))))) (ds_ret (de_bl)) (ds_next)) (ds_ret (de_andV (de_callS (X := W0) (ms := ms_is_plain) (S := S_is_plain) (fun _ _ _ _ h => h.elim) (da_cons (de_op (d2_P p2_ix) (de_var 0) (de_int)) (da_nil))) (de_andV (de_chain p2_ib p2_ib (de_int) (de_cb (dc_F1 f1_len) (da_cons (de_op (d2_P p2_ix) (de_var 0) (de_int)) (da_nil))) (de_int)) (de_op (d2_P p2_notIn) (de_str) (de_op (d2_P p2_ix) (de_var 0) (de_int))))))) (fun as hp hl => ?_)
  obtain ⟨d, rfl, hd⟩ := hp
  have hpl := rowArg_plain hd
  by_cases ht : ∃ ds, d = .tup ds
  · obtain ⟨ds, rfl⟩ := ht
    by_cases h2 : ds.length = 2
    · obtain ⟨a, b, rfl⟩ : ∃ a b, ds = [a, b] := by match ds, h2 with | [a, b], _ => exact ⟨a, b, rfl⟩
      have hp2 : Pd 5 (.tup [a, b]) := by
        rcases hd.1 with h | h
        · exact h
        · cases h
      have ha : Pd 4 a := hp2 a (by simp)
      have hb : Pd 4 b := hp2 b (by simp)
      simp (maxSteps := 3000000) only [roSplit, roStr1, rSlSt, rSlBy, rRevL, TruD, rOrT, rAndT, rMake_g, roCatT, roRep, rMeth, rFld, rSetF, rXfn, rXf, lk_eq, putD, Dt.ins.injEq, Dt.exn.injEq, RleS, RMulS, roJoin, rRet, rRetN, rSeq, rIfS, rAsg, rVar, ofEn, rC, rOp, rUn, roP, rCB, rCons, rNil, rAndV, rOrV, rNotV, rB, rAnd, rOr, rNot, rIf, rTup, rLst, rDrop, rNext, rNever, look, frz, frzs, looks, held, roIsi, roF1, roL1, roNeg, rDNew, startE, ents, ent, csOf, unal, finds, RI0, RI, int_in, int_bl, len_ls, len_tu, len_st, len_by, at0, at1, at2, at3, ix30, ix31, ix32, eq_ii, ne_ii, eq_by, ne_by, notin_c, in_c, D.rChain, RIxA, roTupOf, RListOf, RListB, List.findSome?, List.getElem?_cons_zero, List.getElem?_cons_succ, List.getElem?_nil, List.set_cons_zero, List.set_cons_succ, List.length_cons, List.length_nil, List.map_cons, List.map_nil, List.replicate, List.nil_append, List.cons_append, List.append_nil, Option.some.injEq, exists_eq_left', exists_eq_left, exists_eq', exists_eq, true_and, and_true, Vl.d.injEq, Vl.nw.injEq, Vl.sl.injEq, Dt.int.injEq, Dt.bl.injEq, Dt.str.injEq, Dt.lst.injEq, Dt.tup.injEq, Dt.byt.injEq, Dt.ty.injEq, Dt.ref.injEq, En.val.injEq, En.mu.injEq, En.bor.injEq, List.cons.injEq, Nat.reduceLT, Nat.reduceAdd, Nat.reduceSub, Nat.zero_add, and_self, ↓reduceIte, Bool.false_eq_true, reduceCtorEq, false_and, and_false, exists_const, exists_false, or_false, false_or, Nat.reduceEqDiff, Option.map_some, Option.getD_some, Option.getD_none, and_assoc, exists_and_left, exists_and_right, rCall_f, rCall_g, f_pre, f_post, g_pre, g_post, g_exc, Prod.forall, Prod.exists, Prod.mk.injEq, exists_const, forall_const, argsD, conP, entD, remP, flagsP, flagAt, putP, aft, Ct.dt.injEq, forall_eq, forall_eq', forall_const, implies_true, false_implies, and_imp, forall_exists_index, forall_apply_eq_imp_iff, List.length_append, retD, rFor_L, asgLc, rLc_L, riList, riTup, riStr, riRange1, riRange2, riEnum, riRev, rgName, rgTup, rgCons, rgNil, wipeE, unw, rYes, rAsgG, rAsgSub, roSetL, rBM, rBM0, roAppend, roOwn0, isa_no, isa_bl, isa_in, isa_st, isa_by, isa_ls, isa_tu, isa_di, beq_self_eq_true, Bool.or_true, Bool.true_or, Bool.or_false, Bool.false_or, Bool.or_self, Bool.not_true, Bool.not_false, Bool.and_true, Bool.true_and, Bool.and_false, Bool.false_and, String.reduceBEq, String.reduceEq, not_true_eq_false, not_false_eq_true, rSlL', roNone, roSome, roCat, D.trk, rRaise0, rRaise1, excD, rTry, rEx, wMixD, goneD, List.isEmpty_nil, if_true, List.length_singleton, Nat.reduceLeDiff, Nat.reducePow, Int.reducePow, Int.reduceLT, Int.reduceLE, Int.reduceNeg, Int.reduceToNat, ms_is_row, ms_is_plain, S_is_plain, S_is_row, hpl, inKinds, notin_pd 4 0 ha (by decide) (es := [Dt.str "after", .str "from"]) (by simp [Pd]), af ha, row_pair, List.length_cons]
      rw [if_neg (by decide : ¬ ((!decide (((2 : Nat) : Int) = 2)) = true))]
      cases e : inAF a with
      | false => simp
      | true =>
        simp only [Bool.not_true, Bool.false_eq_true, if_false]
        refine ⟨pd_plain hb, fun s hs' => hd.2 a s (by rw [hs']), ?_⟩
        cases e2 : plainS b with
        | false => simp
        | true =>
          obtain ⟨s, rfl⟩ : ∃ s, b = .str s := by cases b <;> first | exact ⟨_, rfl⟩ | cases e2
          have hb1 : s.length ≤ 1000 := hd.2 a s rfl
          rw [show Dt.str (Str.ofString " ") = .str ⟨#[32]⟩ from rfl]
          simp (maxSteps := 3000000) only [roSplit, roStr1, rSlSt, rSlBy, rRevL, TruD, rOrT, rAndT, rMake_g, roCatT, roRep, rMeth, rFld, rSetF, rXfn, rXf, lk_eq, putD, Dt.ins.injEq, Dt.exn.injEq, RleS, RMulS, roJoin, rRet, rRetN, rSeq, rIfS, rAsg, rVar, ofEn, rC, rOp, rUn, roP, rCB, rCons, rNil, rAndV, rOrV, rNotV, rB, rAnd, rOr, rNot, rIf, rTup, rLst, rDrop, rNext, rNever, look, frz, frzs, looks, held, roIsi, roF1, roL1, roNeg, rDNew, startE, ents, ent, csOf, unal, finds, RI0, RI, int_in, int_bl, len_ls, len_tu, len_st, len_by, at0, at1, at2, at3, ix30, ix31, ix32, eq_ii, ne_ii, eq_by, ne_by, notin_c, in_c, D.rChain, RIxA, roTupOf, RListOf, RListB, List.findSome?, List.getElem?_cons_zero, List.getElem?_cons_succ, List.getElem?_nil, List.set_cons_zero, List.set_cons_succ, List.length_cons, List.length_nil, List.map_cons, List.map_nil, List.replicate, List.nil_append, List.cons_append, List.append_nil, Option.some.injEq, exists_eq_left', exists_eq_left, exists_eq', exists_eq, true_and, and_true, Vl.d.injEq, Vl.nw.injEq, Vl.sl.injEq, Dt.int.injEq, Dt.bl.injEq, Dt.str.injEq, Dt.lst.injEq, Dt.tup.injEq, Dt.byt.injEq, Dt.ty.injEq, Dt.ref.injEq, En.val.injEq, En.mu.injEq, En.bor.injEq, List.cons.injEq, Nat.reduceLT, Nat.reduceAdd, Nat.reduceSub, Nat.zero_add, and_self, ↓reduceIte, Bool.false_eq_true, reduceCtorEq, false_and, and_false, exists_const, exists_false, or_false, false_or, Nat.reduceEqDiff, Option.map_some, Option.getD_some, Option.getD_none, and_assoc, exists_and_left, exists_and_right, rCall_f, rCall_g, f_pre, f_post, g_pre, g_post, g_exc, Prod.forall, Prod.exists, Prod.mk.injEq, exists_const, forall_const, argsD, conP, entD, remP, flagsP, flagAt, putP, aft, Ct.dt.injEq, forall_eq, forall_eq', forall_const, implies_true, false_implies, and_imp, forall_exists_index, forall_apply_eq_imp_iff, List.length_append, retD, rFor_L, asgLc, rLc_L, riList, riTup, riStr, riRange1, riRange2, riEnum, riRev, rgName, rgTup, rgCons, rgNil, wipeE, unw, rYes, rAsgG, rAsgSub, roSetL, rBM, rBM0, roAppend, roOwn0, isa_no, isa_bl, isa_in, isa_st, isa_by, isa_ls, isa_tu, isa_di, beq_self_eq_true, Bool.or_true, Bool.true_or, Bool.or_false, Bool.false_or, Bool.or_self, Bool.not_true, Bool.not_false, Bool.and_true, Bool.true_and, Bool.and_false, Bool.false_and, String.reduceBEq, String.reduceEq, not_true_eq_false, not_false_eq_true, rSlL', roNone, roSome, roCat, D.trk, rRaise0, rRaise1, excD, rTry, rEx, wMixD, goneD, List.isEmpty_nil, if_true, List.length_singleton, Nat.reduceLeDiff, Nat.reducePow, Int.reducePow, Int.reduceLT, Int.reduceLE, Int.reduceNeg, Int.reduceToNat]
          refine ⟨by omega, ?_⟩
          rw [show decide ((1 : Int) ≤ (s.length : Int)) = decide (1 ≤ s.length) from decide_eq_decide.mpr (by omega), show decide ((s.length : Int) ≤ 20) = decide (s.length ≤ 20) from decide_eq_decide.mpr (by omega)]
          cases decide (1 ≤ s.length) <;> cases decide (s.length ≤ 20) <;> simp
    · simp (maxSteps := 3000000) only [roSplit, roStr1, rSlSt, rSlBy, rRevL, TruD, rOrT, rAndT, rMake_g, roCatT, roRep, rMeth, rFld, rSetF, rXfn, rXf, lk_eq, putD, Dt.ins.injEq, Dt.exn.injEq, RleS, RMulS, roJoin, rRet, rRetN, rSeq, rIfS, rAsg, rVar, ofEn, rC, rOp, rUn, roP, rCB, rCons, rNil, rAndV, rOrV, rNotV, rB, rAnd, rOr, rNot, rIf, rTup, rLst, rDrop, rNext, rNever, look, frz, frzs, looks, held, roIsi, roF1, roL1, roNeg, rDNew, startE, ents, ent, csOf, unal, finds, RI0, RI, int_in, int_bl, len_ls, len_tu, len_st, len_by, at0, at1, at2, at3, ix30, ix31, ix32, eq_ii, ne_ii, eq_by, ne_by, notin_c, in_c, D.rChain, RIxA, roTupOf, RListOf, RListB, List.findSome?, List.getElem?_cons_zero, List.getElem?_cons_succ, List.getElem?_nil, List.set_cons_zero, List.set_cons_succ, List.length_cons, List.length_nil, List.map_cons, List.map_nil, List.replicate, List.nil_append, List.cons_append, List.append_nil, Option.some.injEq, exists_eq_left', exists_eq_left, exists_eq', exists_eq, true_and, and_true, Vl.d.injEq, Vl.nw.injEq, Vl.sl.injEq, Dt.int.injEq, Dt.bl.injEq, Dt.str.injEq, Dt.lst.injEq, Dt.tup.injEq, Dt.byt.injEq, Dt.ty.injEq, Dt.ref.injEq, En.val.injEq, En.mu.injEq, En.bor.injEq, List.cons.injEq, Nat.reduceLT, Nat.reduceAdd, Nat.reduceSub, Nat.zero_add, and_self, ↓reduceIte, Bool.false_eq_true, reduceCtorEq, false_and, and_false, exists_const, exists_false, or_false, false_or, Nat.reduceEqDiff, Option.map_some, Option.getD_some, Option.getD_none, and_assoc, exists_and_left, exists_and_right, rCall_f, rCall_g, f_pre, f_post, g_pre, g_post, g_exc, Prod.forall, Prod.exists, Prod.mk.injEq, exists_const, forall_const, argsD, conP, entD, remP, flagsP, flagAt, putP, aft, Ct.dt.injEq, forall_eq, forall_eq', forall_const, implies_true, false_implies, and_imp, forall_exists_index, forall_apply_eq_imp_iff, List.length_append, retD, rFor_L, asgLc, rLc_L, riList, riTup, riStr, riRange1, riRange2, riEnum, riRev, rgName, rgTup, rgCons, rgNil, wipeE, unw, rYes, rAsgG, rAsgSub, roSetL, rBM, rBM0, roAppend, roOwn0, isa_no, isa_bl, isa_in, isa_st, isa_by, isa_ls, isa_tu, isa_di, beq_self_eq_true, Bool.or_true, Bool.true_or, Bool.or_false, Bool.false_or, Bool.or_self, Bool.not_true, Bool.not_false, Bool.and_true, Bool.true_and, Bool.and_false, Bool.false_and, String.reduceBEq, String.reduceEq, not_true_eq_false, not_false_eq_true, rSlL', roNone, roSome, roCat, D.trk, rRaise0, rRaise1, excD, rTry, rEx, wMixD, goneD, List.isEmpty_nil, if_true, List.length_singleton, Nat.reduceLeDiff, Nat.reducePow, Int.reducePow, Int.reduceLT, Int.reduceLE, Int.reduceNeg, Int.reduceToNat, ms_is_row, ms_is_plain, S_is_plain, S_is_row, hpl, inKinds]
      rw [row_len h2, decide_eq_false (by omega : ¬ ((ds.length : Int) = 2))]
      rfl
  · have h1 : isa "tuple" d = false := by cases d <;> first | rfl | exact absurd ⟨_, rfl⟩ ht
    simp (maxSteps := 3000000) only [roSplit, roStr1, rSlSt, rSlBy, rRevL, TruD, rOrT, rAndT, rMake_g, roCatT, roRep, rMeth, rFld, rSetF, rXfn, rXf, lk_eq, putD, Dt.ins.injEq, Dt.exn.injEq, RleS, RMulS, roJoin, rRet, rRetN, rSeq, rIfS, rAsg, rVar, ofEn, rC, rOp, rUn, roP, rCB, rCons, rNil, rAndV, rOrV, rNotV, rB, rAnd, rOr, rNot, rIf, rTup, rLst, rDrop, rNext, rNever, look, frz, frzs, looks, held, roIsi, roF1, roL1, roNeg, rDNew, startE, ents, ent, csOf, unal, finds, RI0, RI, int_in, int_bl, len_ls, len_tu, len_st, len_by, at0, at1, at2, at3, ix30, ix31, ix32, eq_ii, ne_ii, eq_by, ne_by, notin_c, in_c, D.rChain, RIxA, roTupOf, RListOf, RListB, List.findSome?, List.getElem?_cons_zero, List.getElem?_cons_succ, List.getElem?_nil, List.set_cons_zero, List.set_cons_succ, List.length_cons, List.length_nil, List.map_cons, List.map_nil, List.replicate, List.nil_append, List.cons_append, List.append_nil, Option.some.injEq, exists_eq_left', exists_eq_left, exists_eq', exists_eq, true_and, and_true, Vl.d.injEq, Vl.nw.injEq, Vl.sl.injEq, Dt.int.injEq, Dt.bl.injEq, Dt.str.injEq, Dt.lst.injEq, Dt.tup.injEq, Dt.byt.injEq, Dt.ty.injEq, Dt.ref.injEq, En.val.injEq, En.mu.injEq, En.bor.injEq, List.cons.injEq, Nat.reduceLT, Nat.reduceAdd, Nat.reduceSub, Nat.zero_add, and_self, ↓reduceIte, Bool.false_eq_true, reduceCtorEq, false_and, and_false, exists_const, exists_false, or_false, false_or, Nat.reduceEqDiff, Option.map_some, Option.getD_some, Option.getD_none, and_assoc, exists_and_left, exists_and_right, rCall_f, rCall_g, f_pre, f_post, g_pre, g_post, g_exc, Prod.forall, Prod.exists, Prod.mk.injEq, exists_const, forall_const, argsD, conP, entD, remP, flagsP, flagAt, putP, aft, Ct.dt.injEq, forall_eq, forall_eq', forall_const, implies_true, false_implies, and_imp, forall_exists_index, forall_apply_eq_imp_iff, List.length_append, retD, rFor_L, asgLc, rLc_L, riList, riTup, riStr, riRange1, riRange2, riEnum, riRev, rgName, rgTup, rgCons, rgNil, wipeE, unw, rYes, rAsgG, rAsgSub, roSetL, rBM, rBM0, roAppend, roOwn0, isa_no, isa_bl, isa_in, isa_st, isa_by, isa_ls, isa_tu, isa_di, beq_self_eq_true, Bool.or_true, Bool.true_or, Bool.or_false, Bool.false_or, Bool.or_self, Bool.not_true, Bool.not_false, Bool.and_true, Bool.true_and, Bool.and_false, Bool.false_and, String.reduceBEq, String.reduceEq, not_true_eq_false, not_false_eq_true, rSlL', roNone, roSome, roCat, D.trk, rRaise0, rRaise1, excD, rTry, rEx, wMixD, goneD, List.isEmpty_nil, if_true, List.length_singleton, Nat.reduceLeDiff, Nat.reducePow, Int.reducePow, Int.reduceLT, Int.reduceLE, Int.reduceNeg, Int.reduceToNat, ms_is_row, ms_is_plain, S_is_plain, S_is_row, hpl, inKinds, h1]
    cases d <;> first | rfl | exact absurd ⟨_, rfl⟩ ht
/-! #### Cleaner.__init__ -/
abbrev s_Cleaner___init__ : Stmt := inClass (top 10) 0
abbrev N_Cleaner___init__ : List Str := ["self", "rows", "at", "row"]
abbrev P_Cleaner___init__ : List Str := ["self", "rows"]
abbrev ms_Cleaner___init__ : List Md := [.p, .b]
theorem sc_Cleaner___init__ : FnScope N_Cleaner___init__ P_Cleaner___init__ (defScope s_Cleaner___init__) := ⟨rfl, rfl, rfl, by decide +kernel, rfl, by decide +kernel, by decide +kernel⟩
theorem ok_Cleaner___init__ {P : Program} {w : World} {K : PySem.W.Frag} {mg : Str → Option Value} {base : Heap} {f : Addr} {fd : FuncData} {c_FellError c_NoCleaner c_Cleaner : Addr} (G : Gs K mg c_FellError c_NoCleaner c_Cleaner) (h0 : Hs P w K mg base CX0 2 "is_row" P_is_row (toSp K ms_is_row (S_is_row))) (X_NoCleaner : ExO P w K mg base "NoCleaner" c_NoCleaner "at") (K_Cleaner : ClF K mg "Cleaner" c_Cleaner) (nA_Cleaner_rows : NoAttr K c_Cleaner "rows") (F : Fun K "__init__" "Cleaner.__init__" s_Cleaner___init__ f fd) (mf : Mk K c_Cleaner f) :
    HsI P w K mg base (L2.CX P w) 3 c_Cleaner P_Cleaner___init__ (toSp K ms_Cleaner___init__ (S_init c_Cleaner c_NoCleaner)) := by
  obtain ⟨f0, fd0, F0, m0, k0, b0⟩ := h0
  obtain ⟨fI_NoCleaner, fdI_NoCleaner, psI_NoCleaner, iX_NoCleaner, tX_NoCleaner, FX_NoCleaner, bX_NoCleaner⟩ := X_NoCleaner.ini
  obtain ⟨t_MOST_ROWS, g_MOST_ROWS⟩ := G.c_MOST_ROWS
  refine ⟨f, fd, ?_, mf, F.binds (ps := P_Cleaner___init__) fun _ _ _ _ _ _ us hl => match us, hl with | [_, _], _ => rfl⟩
  refine F.okX sc_Cleaner___init__ (fun vs H Q E h => toSp_len h) (fun cdv A outer s H vs Q E hr h => ?_)
  have hu := hr.units
  refine ⟨_, pss_cons (ps_if (pt_not (pt_val (pe_callB call_isi rfl G.b_isinstance (by decide +kernel) (pa_cons (pv 1) (pa_cons (pe_bltn (v := .ty "list") (u := .type "list") rfl G.b_list (by decide +kernel) rfl) (pa_nil)))))) (pss_one (ps_raise rfl (takes_of rfl rfl rfl rfl) (pmk_oex X_NoCleaner.oc iX_NoCleaner tX_NoCleaner FX_NoCleaner (hr.mono (by decide)) bX_NoCleaner .nil (fun _ _ _ _ _ _ _ h => h.elim) rfl X_NoCleaner.g (pa_cons (pe_non) (pa_nil))))) (pss_nil)) (pss_cons (ps_for (passes_of rfl) rfl (pi_enum rfl G.b_enumerate (pa_cons (pv 1) (pa_nil))) (pg_tup rfl (pgs_cons (pg_name (i := 2) sc_Cleaner___init__.nd rfl (by first | exact Or.inl rfl | exact Or.inr rfl | exact .inr (.inl rfl) | exact .inr (.inr rfl))) (pgs_cons (pg_name (i := 3) sc_Cleaner___init__.nd rfl (by first | exact Or.inl rfl | exact Or.inr rfl | exact .inr (.inl rfl) | exact .inr (.inr rfl))) (pgs_nil)))) (pss_one (ps_if (PW.pt (pw_or (pt_cmpR ((op_eqA hu)) (pv 2) (pe_glob (v := .int 20) rfl g_MOST_ROWS ⟨_, rfl⟩) (nomark _)) (pw_or1 (pt_not (pt_val (pe_callS (E := (fun _ => E)) F0 (hr.mono (by decide)) rfl m0 k0 b0 (fun _ => fun _ _ _ _ _ _ h => h.elim) (pa_cons (pv 3) (pa_nil)))))))) (pss_one (ps_raise rfl (takes_of rfl rfl rfl rfl) (pmk_oex X_NoCleaner.oc iX_NoCleaner tX_NoCleaner FX_NoCleaner (hr.mono (by decide)) bX_NoCleaner .nil (fun _ _ _ _ _ _ _ h => h.elim) rfl X_NoCleaner.g (pa_cons (pv 2) (pa_nil))))) (pss_nil)))) (pss_one (ps_fld (pv 0) (pe_callTy call_list_of rfl G.b_list (by decide +kernel) (pa_cons (pv 1) (pa_nil))) rfl))), ?_⟩
  refine run_body h (by decide) (fun as => ds_seq (ds_if (dt_not (dt_B (de_cb (dc_isi) (da_cons (de_var 1) (da_cons (de_ty) (da_nil)))))) (ds_raiseO (fun _ _ _ h => h) (da_cons (de_non) (da_nil))) (ds_next)) (ds_seq (ds_for (di_enum (da_cons (de_var 1) (da_nil))) (dg_tup (dgs_cons (dg_name 2) (dgs_cons (dg_name 3) (dgs_nil)))) (ds_if (dt_or (dt_test (de_op (d2_P p2_eq) (de_var 2) (de_int))) (dt_not (dt_B (de_callS (ms := ms_is_row) (S := S_is_row) (fun _ _ _ _ h => h) (da_cons (de_var 3) (da_nil)))))) (ds_raiseO (fun _ _ _ h => h) (da_cons (de_var 2) (da_nil))) (ds_next))) (ds_setF (de_var 0) (de_cb (dc_L1 l1_list) (da_cons (de_var 1) (da_nil)))))) (fun as hp hl => ?_)
  obtain ⟨d, rfl, hd⟩ := hp
  refine sg fun U1 e1 => ?_
  simp (maxSteps := 3000000) only [roSplit, roStr1, rSlSt, rSlBy, rRevL, TruD, rOrT, rAndT, rMake_g, roCatT, roRep, rMeth, rFld, rSetF, rXfn, rXf, lk_eq, putD, Dt.ins.injEq, Dt.exn.injEq, RleS, RMulS, roJoin, rRet, rRetN, rSeq, rIfS, rAsg, rVar, ofEn, rC, rOp, rUn, roP, rCB, rCons, rNil, rAndV, rOrV, rNotV, rB, rAnd, rOr, rNot, rIf, rTup, rLst, rDrop, rNext, rNever, look, frz, frzs, looks, held, roIsi, roF1, roL1, roNeg, rDNew, startE, ents, ent, csOf, unal, finds, RI0, RI, int_in, int_bl, len_ls, len_tu, len_st, len_by, at0, at1, at2, at3, ix30, ix31, ix32, eq_ii, ne_ii, eq_by, ne_by, notin_c, in_c, D.rChain, RIxA, roTupOf, RListOf, RListB, List.findSome?, List.getElem?_cons_zero, List.getElem?_cons_succ, List.getElem?_nil, List.set_cons_zero, List.set_cons_succ, List.length_cons, List.length_nil, List.map_cons, List.map_nil, List.replicate, List.nil_append, List.cons_append, List.append_nil, Option.some.injEq, exists_eq_left', exists_eq_left, exists_eq', exists_eq, true_and, and_true, Vl.d.injEq, Vl.nw.injEq, Vl.sl.injEq, Dt.int.injEq, Dt.bl.injEq, Dt.str.injEq, Dt.lst.injEq, Dt.tup.injEq, Dt.byt.injEq, Dt.ty.injEq, Dt.ref.injEq, En.val.injEq, En.mu.injEq, En.bor.injEq, List.cons.injEq, Nat.reduceLT, Nat.reduceAdd, Nat.reduceSub, Nat.zero_add, and_self, ↓reduceIte, Bool.false_eq_true, reduceCtorEq, false_and, and_false, exists_const, exists_false, or_false, false_or, Nat.reduceEqDiff, Option.map_some, Option.getD_some, Option.getD_none, and_assoc, exists_and_left, exists_and_right, rCall_f, rCall_g, f_pre, f_post, g_pre, g_post, g_exc, Prod.forall, Prod.exists, Prod.mk.injEq, exists_const, forall_const, argsD, conP, entD, remP, flagsP, flagAt, putP, aft, Ct.dt.injEq, forall_eq, forall_eq', forall_const, implies_true, false_implies, and_imp, forall_exists_index, forall_apply_eq_imp_iff, List.length_append, retD, rFor_L, asgLc, rLc_L, riList, riTup, riStr, riRange1, riRange2, riEnum, riRev, rgName, rgTup, rgCons, rgNil, wipeE, unw, rYes, rAsgG, rAsgSub, roSetL, rBM, rBM0, roAppend, roOwn0, isa_no, isa_bl, isa_in, isa_st, isa_by, isa_ls, isa_tu, isa_di, beq_self_eq_true, Bool.or_true, Bool.true_or, Bool.or_false, Bool.false_or, Bool.or_self, Bool.not_true, Bool.not_false, Bool.and_true, Bool.true_and, Bool.and_false, Bool.false_and, String.reduceBEq, String.reduceEq, not_true_eq_false, not_false_eq_true, rSlL', roNone, roSome, roCat, D.trk, rRaise0, rRaise1, excD, rTry, rEx, wMixD, goneD, List.isEmpty_nil, if_true, List.length_singleton, Nat.reduceLeDiff, Nat.reducePow, Int.reducePow, Int.reduceLT, Int.reduceLE, Int.reduceNeg, Int.reduceToNat, ms_Cleaner___init__, ms_is_row, S_is_row, S_init]
  refine ⟨by decide, hd.1, ?_⟩
  by_cases ht : ∃ ds, d = .lst ds
  · obtain ⟨ds, rfl⟩ := ht
    obtain ⟨hl1, hl2⟩ := hd.2 ds rfl
    simp (maxSteps := 3000000) only [roSplit, roStr1, rSlSt, rSlBy, rRevL, TruD, rOrT, rAndT, rMake_g, roCatT, roRep, rMeth, rFld, rSetF, rXfn, rXf, lk_eq, putD, Dt.ins.injEq, Dt.exn.injEq, RleS, RMulS, roJoin, rRet, rRetN, rSeq, rIfS, rAsg, rVar, ofEn, rC, rOp, rUn, roP, rCB, rCons, rNil, rAndV, rOrV, rNotV, rB, rAnd, rOr, rNot, rIf, rTup, rLst, rDrop, rNext, rNever, look, frz, frzs, looks, held, roIsi, roF1, roL1, roNeg, rDNew, startE, ents, ent, csOf, unal, finds, RI0, RI, int_in, int_bl, len_ls, len_tu, len_st, len_by, at0, at1, at2, at3, ix30, ix31, ix32, eq_ii, ne_ii, eq_by, ne_by, notin_c, in_c, D.rChain, RIxA, roTupOf, RListOf, RListB, List.findSome?, List.getElem?_cons_zero, List.getElem?_cons_succ, List.getElem?_nil, List.set_cons_zero, List.set_cons_succ, List.length_cons, List.length_nil, List.map_cons, List.map_nil, List.replicate, List.nil_append, List.cons_append, List.append_nil, Option.some.injEq, exists_eq_left', exists_eq_left, exists_eq', exists_eq, true_and, and_true, Vl.d.injEq, Vl.nw.injEq, Vl.sl.injEq, Dt.int.injEq, Dt.bl.injEq, Dt.str.injEq, Dt.lst.injEq, Dt.tup.injEq, Dt.byt.injEq, Dt.ty.injEq, Dt.ref.injEq, En.val.injEq, En.mu.injEq, En.bor.injEq, List.cons.injEq, Nat.reduceLT, Nat.reduceAdd, Nat.reduceSub, Nat.zero_add, and_self, ↓reduceIte, Bool.false_eq_true, reduceCtorEq, false_and, and_false, exists_const, exists_false, or_false, false_or, Nat.reduceEqDiff, Option.map_some, Option.getD_some, Option.getD_none, and_assoc, exists_and_left, exists_and_right, rCall_f, rCall_g, f_pre, f_post, g_pre, g_post, g_exc, Prod.forall, Prod.exists, Prod.mk.injEq, exists_const, forall_const, argsD, conP, entD, remP, flagsP, flagAt, putP, aft, Ct.dt.injEq, forall_eq, forall_eq', forall_const, implies_true, false_implies, and_imp, forall_exists_index, forall_apply_eq_imp_iff, List.length_append, retD, rFor_L, asgLc, rLc_L, riList, riTup, riStr, riRange1, riRange2, riEnum, riRev, rgName, rgTup, rgCons, rgNil, wipeE, unw, rYes, rAsgG, rAsgSub, roSetL, rBM, rBM0, roAppend, roOwn0, isa_no, isa_bl, isa_in, isa_st, isa_by, isa_ls, isa_tu, isa_di, beq_self_eq_true, Bool.or_true, Bool.true_or, Bool.or_false, Bool.false_or, Bool.or_self, Bool.not_true, Bool.not_false, Bool.and_true, Bool.true_and, Bool.and_false, Bool.false_and, String.reduceBEq, String.reduceEq, not_true_eq_false, not_false_eq_true, rSlL', roNone, roSome, roCat, D.trk, rRaise0, rRaise1, excD, rTry, rEx, wMixD, goneD, List.isEmpty_nil, if_true, List.length_singleton, Nat.reduceLeDiff, Nat.reducePow, Int.reducePow, Int.reduceLT, Int.reduceLE, Int.reduceNeg, Int.reduceToNat]
    subst e1
    refine sg fun U1 e1 => ?_
    simp (maxSteps := 3000000) only [roSplit, roStr1, rSlSt, rSlBy, rRevL, TruD, rOrT, rAndT, rMake_g, roCatT, roRep, rMeth, rFld, rSetF, rXfn, rXf, lk_eq, putD, Dt.ins.injEq, Dt.exn.injEq, RleS, RMulS, roJoin, rRet, rRetN, rSeq, rIfS, rAsg, rVar, ofEn, rC, rOp, rUn, roP, rCB, rCons, rNil, rAndV, rOrV, rNotV, rB, rAnd, rOr, rNot, rIf, rTup, rLst, rDrop, rNext, rNever, look, frz, frzs, looks, held, roIsi, roF1, roL1, roNeg, rDNew, startE, ents, ent, csOf, unal, finds, RI0, RI, int_in, int_bl, len_ls, len_tu, len_st, len_by, at0, at1, at2, at3, ix30, ix31, ix32, eq_ii, ne_ii, eq_by, ne_by, notin_c, in_c, D.rChain, RIxA, roTupOf, RListOf, RListB, List.findSome?, List.getElem?_cons_zero, List.getElem?_cons_succ, List.getElem?_nil, List.set_cons_zero, List.set_cons_succ, List.length_cons, List.length_nil, List.map_cons, List.map_nil, List.replicate, List.nil_append, List.cons_append, List.append_nil, Option.some.injEq, exists_eq_left', exists_eq_left, exists_eq', exists_eq, true_and, and_true, Vl.d.injEq, Vl.nw.injEq, Vl.sl.injEq, Dt.int.injEq, Dt.bl.injEq, Dt.str.injEq, Dt.lst.injEq, Dt.tup.injEq, Dt.byt.injEq, Dt.ty.injEq, Dt.ref.injEq, En.val.injEq, En.mu.injEq, En.bor.injEq, List.cons.injEq, Nat.reduceLT, Nat.reduceAdd, Nat.reduceSub, Nat.zero_add, and_self, ↓reduceIte, Bool.false_eq_true, reduceCtorEq, false_and, and_false, exists_const, exists_false, or_false, false_or, Nat.reduceEqDiff, Option.map_some, Option.getD_some, Option.getD_none, and_assoc, exists_and_left, exists_and_right, rCall_f, rCall_g, f_pre, f_post, g_pre, g_post, g_exc, Prod.forall, Prod.exists, Prod.mk.injEq, exists_const, forall_const, argsD, conP, entD, remP, flagsP, flagAt, putP, aft, Ct.dt.injEq, forall_eq, forall_eq', forall_const, implies_true, false_implies, and_imp, forall_exists_index, forall_apply_eq_imp_iff, List.length_append, retD, rFor_L, asgLc, rLc_L, riList, riTup, riStr, riRange1, riRange2, riEnum, riRev, rgName, rgTup, rgCons, rgNil, wipeE, unw, rYes, rAsgG, rAsgSub, roSetL, rBM, rBM0, roAppend, roOwn0, isa_no, isa_bl, isa_in, isa_st, isa_by, isa_ls, isa_tu, isa_di, beq_self_eq_true, Bool.or_true, Bool.true_or, Bool.or_false, Bool.false_or, Bool.or_self, Bool.not_true, Bool.not_false, Bool.and_true, Bool.true_and, Bool.and_false, Bool.false_and, String.reduceBEq, String.reduceEq, not_true_eq_false, not_false_eq_true, rSlL', roNone, roSome, roCat, D.trk, rRaise0, rRaise1, excD, rTry, rEx, wMixD, goneD, List.isEmpty_nil, if_true, List.length_singleton, Nat.reduceLeDiff, Nat.reducePow, Int.reducePow, Int.reduceLT, Int.reduceLE, Int.reduceNeg, Int.reduceToNat, ms_Cleaner___init__, ms_is_row, S_is_row, S_init]
    refine lp_of (fun i η' => (∃ c2 c3, η' = [some (.mu (some 0) (.dt (.ins c_Cleaner []))), some (.bor (.lst ds)), c2, c3]) ∧ firstBad 0 ds = firstBad i (ds.drop i)) ⟨⟨_, _, rfl⟩, rfl⟩ ?_ ?_
    · rintro i x η' hx ⟨⟨c2, c3, rfl⟩, hf⟩
      obtain ⟨y, hy, rfl⟩ := enumD_get hx
      rw [bad_at hy] at hf
      simp (maxSteps := 3000000) only [roSplit, roStr1, rSlSt, rSlBy, rRevL, TruD, rOrT, rAndT, rMake_g, roCatT, roRep, rMeth, rFld, rSetF, rXfn, rXf, lk_eq, putD, Dt.ins.injEq, Dt.exn.injEq, RleS, RMulS, roJoin, rRet, rRetN, rSeq, rIfS, rAsg, rVar, ofEn, rC, rOp, rUn, roP, rCB, rCons, rNil, rAndV, rOrV, rNotV, rB, rAnd, rOr, rNot, rIf, rTup, rLst, rDrop, rNext, rNever, look, frz, frzs, looks, held, roIsi, roF1, roL1, roNeg, rDNew, startE, ents, ent, csOf, unal, finds, RI0, RI, int_in, int_bl, len_ls, len_tu, len_st, len_by, at0, at1, at2, at3, ix30, ix31, ix32, eq_ii, ne_ii, eq_by, ne_by, notin_c, in_c, D.rChain, RIxA, roTupOf, RListOf, RListB, List.findSome?, List.getElem?_cons_zero, List.getElem?_cons_succ, List.getElem?_nil, List.set_cons_zero, List.set_cons_succ, List.length_cons, List.length_nil, List.map_cons, List.map_nil, List.replicate, List.nil_append, List.cons_append, List.append_nil, Option.some.injEq, exists_eq_left', exists_eq_left, exists_eq', exists_eq, true_and, and_true, Vl.d.injEq, Vl.nw.injEq, Vl.sl.injEq, Dt.int.injEq, Dt.bl.injEq, Dt.str.injEq, Dt.lst.injEq, Dt.tup.injEq, Dt.byt.injEq, Dt.ty.injEq, Dt.ref.injEq, En.val.injEq, En.mu.injEq, En.bor.injEq, List.cons.injEq, Nat.reduceLT, Nat.reduceAdd, Nat.reduceSub, Nat.zero_add, and_self, ↓reduceIte, Bool.false_eq_true, reduceCtorEq, false_and, and_false, exists_const, exists_false, or_false, false_or, Nat.reduceEqDiff, Option.map_some, Option.getD_some, Option.getD_none, and_assoc, exists_and_left, exists_and_right, rCall_f, rCall_g, f_pre, f_post, g_pre, g_post, g_exc, Prod.forall, Prod.exists, Prod.mk.injEq, exists_const, forall_const, argsD, conP, entD, remP, flagsP, flagAt, putP, aft, Ct.dt.injEq, forall_eq, forall_eq', forall_const, implies_true, false_implies, and_imp, forall_exists_index, forall_apply_eq_imp_iff, List.length_append, retD, rFor_L, asgLc, rLc_L, riList, riTup, riStr, riRange1, riRange2, riEnum, riRev, rgName, rgTup, rgCons, rgNil, wipeE, unw, rYes, rAsgG, rAsgSub, roSetL, rBM, rBM0, roAppend, roOwn0, isa_no, isa_bl, isa_in, isa_st, isa_by, isa_ls, isa_tu, isa_di, beq_self_eq_true, Bool.or_true, Bool.true_or, Bool.or_false, Bool.false_or, Bool.or_self, Bool.not_true, Bool.not_false, Bool.and_true, Bool.true_and, Bool.and_false, Bool.false_and, String.reduceBEq, String.reduceEq, not_true_eq_false, not_false_eq_true, rSlL', roNone, roSome, roCat, D.trk, rRaise0, rRaise1, excD, rTry, rEx, wMixD, goneD, List.isEmpty_nil, if_true, List.length_singleton, Nat.reduceLeDiff, Nat.reducePow, Int.reducePow, Int.reduceLT, Int.reduceLE, Int.reduceNeg, Int.reduceToNat, ms_Cleaner___init__, ms_is_row, S_is_row, S_init, badAt]
      refine ⟨rfl, ?_⟩
      rw [hf]
      by_cases h20 : (i : Int) = 20
      · rw [if_pos (decide_eq_true h20), if_pos (.inl (by omega))]
        exact ⟨_, rfl, rfl⟩
      · have h20' : ¬ i = 20 := by omega
        rw [decide_eq_false h20]
        simp only [Bool.false_eq_true, if_false]
        refine ⟨hl2 y (List.mem_of_getElem? hy), ?_⟩
        cases e : isRow y with
        | false => simp
        | true => simp [h20']
    · rintro η' ⟨⟨c2, c3, rfl⟩, hf⟩
      rw [enumD_length, List.drop_length] at hf
      subst e1
      simp (maxSteps := 3000000) only [roSplit, roStr1, rSlSt, rSlBy, rRevL, TruD, rOrT, rAndT, rMake_g, roCatT, roRep, rMeth, rFld, rSetF, rXfn, rXf, lk_eq, putD, Dt.ins.injEq, Dt.exn.injEq, RleS, RMulS, roJoin, rRet, rRetN, rSeq, rIfS, rAsg, rVar, ofEn, rC, rOp, rUn, roP, rCB, rCons, rNil, rAndV, rOrV, rNotV, rB, rAnd, rOr, rNot, rIf, rTup, rLst, rDrop, rNext, rNever, look, frz, frzs, looks, held, roIsi, roF1, roL1, roNeg, rDNew, startE, ents, ent, csOf, unal, finds, RI0, RI, int_in, int_bl, len_ls, len_tu, len_st, len_by, at0, at1, at2, at3, ix30, ix31, ix32, eq_ii, ne_ii, eq_by, ne_by, notin_c, in_c, D.rChain, RIxA, roTupOf, RListOf, RListB, List.findSome?, List.getElem?_cons_zero, List.getElem?_cons_succ, List.getElem?_nil, List.set_cons_zero, List.set_cons_succ, List.length_cons, List.length_nil, List.map_cons, List.map_nil, List.replicate, List.nil_append, List.cons_append, List.append_nil, Option.some.injEq, exists_eq_left', exists_eq_left, exists_eq', exists_eq, true_and, and_true, Vl.d.injEq, Vl.nw.injEq, Vl.sl.injEq, Dt.int.injEq, Dt.bl.injEq, Dt.str.injEq, Dt.lst.injEq, Dt.tup.injEq, Dt.byt.injEq, Dt.ty.injEq, Dt.ref.injEq, En.val.injEq, En.mu.injEq, En.bor.injEq, List.cons.injEq, Nat.reduceLT, Nat.reduceAdd, Nat.reduceSub, Nat.zero_add, and_self, ↓reduceIte, Bool.false_eq_true, reduceCtorEq, false_and, and_false, exists_const, exists_false, or_false, false_or, Nat.reduceEqDiff, Option.map_some, Option.getD_some, Option.getD_none, and_assoc, exists_and_left, exists_and_right, rCall_f, rCall_g, f_pre, f_post, g_pre, g_post, g_exc, Prod.forall, Prod.exists, Prod.mk.injEq, exists_const, forall_const, argsD, conP, entD, remP, flagsP, flagAt, putP, aft, Ct.dt.injEq, forall_eq, forall_eq', forall_const, implies_true, false_implies, and_imp, forall_exists_index, forall_apply_eq_imp_iff, List.length_append, retD, rFor_L, asgLc, rLc_L, riList, riTup, riStr, riRange1, riRange2, riEnum, riRev, rgName, rgTup, rgCons, rgNil, wipeE, unw, rYes, rAsgG, rAsgSub, roSetL, rBM, rBM0, roAppend, roOwn0, isa_no, isa_bl, isa_in, isa_st, isa_by, isa_ls, isa_tu, isa_di, beq_self_eq_true, Bool.or_true, Bool.true_or, Bool.or_false, Bool.false_or, Bool.or_self, Bool.not_true, Bool.not_false, Bool.and_true, Bool.true_and, Bool.and_false, Bool.false_and, String.reduceBEq, String.reduceEq, not_true_eq_false, not_false_eq_true, rSlL', roNone, roSome, roCat, D.trk, rRaise0, rRaise1, excD, rTry, rEx, wMixD, goneD, List.isEmpty_nil, if_true, List.length_singleton, Nat.reduceLeDiff, Nat.reducePow, Int.reducePow, Int.reduceLT, Int.reduceLE, Int.reduceNeg, Int.reduceToNat, ms_Cleaner___init__, ms_is_row, S_is_row, S_init, badAt, K_Cleaner.cl, nA_Cleaner_rows]
      rw [hf]
      rfl
  · have h1 : isa "list" d = false := by cases d <;> first | rfl | exact absurd ⟨_, rfl⟩ ht
    rw [h1]
    refine ⟨_, ?_, rfl⟩
    cases d <;> first | rfl | exact absurd ⟨_, rfl⟩ ht
/-! #### without_figures -/
abbrev s_without_figures : Stmt := top 11
abbrev N_without_figures : List Str := ["word", "found", "was_figure", "sign", "is_figure"]
abbrev P_without_figures : List Str := ["word"]
abbrev ms_without_figures : List Md := [.v]
theorem sc_without_figures : FnScope N_without_figures P_without_figures (defScope s_without_figures) := ⟨rfl, rfl, rfl, by decide +kernel, rfl, by decide +kernel, by decide +kernel⟩
theorem ok_without_figures {P : Program} {w : World} {K : PySem.W.Frag} {mg : Str → Option Value} {base : Heap} {f : Addr} {fd : FuncData} {c_FellError c_NoCleaner c_Cleaner : Addr} (G : Gs K mg c_FellError c_NoCleaner c_Cleaner) (X_NoCleaner : ExO P w K mg base "NoCleaner" c_NoCleaner "at") (K_Cleaner : ClF K mg "Cleaner" c_Cleaner) (nA_Cleaner_rows : NoAttr K c_Cleaner "rows") (F : Fun K "without_figures" "without_figures" s_without_figures f fd) (mf : mg "without_figures" = some (.ref f)) :
    Hs P w K mg base CX0 1 "without_figures" P_without_figures (toSp K ms_without_figures (S_wofig)) := by
  obtain ⟨t_FIGURES, g_FIGURES⟩ := G.c_FIGURES
  refine ⟨f, fd, ?_, mf, F.kp, F.binds (ps := P_without_figures) fun _ _ _ _ _ _ us hl => match us, hl with | [_], _ => rfl⟩
  refine F.ok sc_without_figures (fun vs H Q E h => toSp_len h) (fun cdv A outer s H vs Q E hr h => ?_)
  have hu := hr.units
  refine ⟨_, pss_cons (ps_set (i := 1) sc_without_figures.nd rfl (by first | exact Or.inl rfl | exact Or.inr rfl) (pe_str)) (pss_cons (ps_set (i := 2) sc_without_figures.nd rfl (by first | exact Or.inl rfl | exact Or.inr rfl) (pe_bl)) (pss_cons (ps_for PassesOwn.never rfl (pi_str (pv 0)) (pg_name (i := 3) sc_without_figures.nd rfl (by first | exact Or.inl rfl | exact Or.inr rfl | exact .inr (.inl rfl) | exact .inr (.inr rfl))) (pss_cons (ps_set (i := 4) sc_without_figures.nd rfl (by first | exact Or.inl rfl | exact Or.inr rfl) (pe_cmpR ((op_inA hu)) (pv 3) (pe_glob (v := .str "0123456789") rfl g_FIGURES ⟨_, rfl⟩) (by rfl))) (pss_cons (ps_if (pt_not (pt_val (pv 4))) (pss_one (ps_aug (i := 1) sc_without_figures.nd rfl (by first | exact Or.inl rfl | exact Or.inr rfl) (pv 3) iop_add_str)) (pss_one (ps_if (pt_not (pt_val (pv 2))) (pss_one (ps_aug (i := 1) sc_without_figures.nd rfl (by first | exact Or.inl rfl | exact Or.inr rfl) (pe_str) iop_add_str)) (pss_nil)))) (pss_one (ps_set (i := 2) sc_without_figures.nd rfl (by first | exact Or.inl rfl | exact Or.inr rfl) (pv 4)))))) (pss_one (ps_ret (pv 1))))), ?_⟩
  refine run_body0 h (by decide) (fun as => ds_seq (ds_asg (de_str) 1) (ds_seq (ds_asg (de_bl) 2) (ds_seq (ds_for (di_str (de_var 0)) (dg_name 3) (ds_seq (ds_asg (de_op (d2_P p2_in) (de_var 3) (de_str)) 4) (ds_seq (ds_if (dt_not (dt_B (de_var 4))) (ds_aug (i := 1) (d2_P p2_addS) (de_var 3)) (ds_if (dt_not (dt_B (de_var 2))) (ds_aug (i := 1) (d2_P p2_addS) (de_str)) (ds_next))) (ds_asg (de_var 4) 2)))) (ds_ret (de_var 1))))) (fun as hp hl => ?_)
  obtain ⟨s, rfl, hs⟩ := hp
  refine sg fun U1 e1 => ?_
  simp (maxSteps := 3000000) only [roSplit, roStr1, rSlSt, rSlBy, rRevL, TruD, rOrT, rAndT, rMake_g, roCatT, roRep, rMeth, rFld, rSetF, rXfn, rXf, lk_eq, putD, Dt.ins.injEq, Dt.exn.injEq, RleS, RMulS, roJoin, rRet, rRetN, rSeq, rIfS, rAsg, rVar, ofEn, rC, rOp, rUn, roP, rCB, rCons, rNil, rAndV, rOrV, rNotV, rB, rAnd, rOr, rNot, rIf, rTup, rLst, rDrop, rNext, rNever, look, frz, frzs, looks, held, roIsi, roF1, roL1, roNeg, rDNew, startE, ents, ent, csOf, unal, finds, RI0, RI, int_in, int_bl, len_ls, len_tu, len_st, len_by, at0, at1, at2, at3, ix30, ix31, ix32, eq_ii, ne_ii, eq_by, ne_by, notin_c, in_c, D.rChain, RIxA, roTupOf, RListOf, RListB, List.findSome?, List.getElem?_cons_zero, List.getElem?_cons_succ, List.getElem?_nil, List.set_cons_zero, List.set_cons_succ, List.length_cons, List.length_nil, List.map_cons, List.map_nil, List.replicate, List.nil_append, List.cons_append, List.append_nil, Option.some.injEq, exists_eq_left', exists_eq_left, exists_eq', exists_eq, true_and, and_true, Vl.d.injEq, Vl.nw.injEq, Vl.sl.injEq, Dt.int.injEq, Dt.bl.injEq, Dt.str.injEq, Dt.lst.injEq, Dt.tup.injEq, Dt.byt.injEq, Dt.ty.injEq, Dt.ref.injEq, En.val.injEq, En.mu.injEq, En.bor.injEq, List.cons.injEq, Nat.reduceLT, Nat.reduceAdd, Nat.reduceSub, Nat.zero_add, and_self, ↓reduceIte, Bool.false_eq_true, reduceCtorEq, false_and, and_false, exists_const, exists_false, or_false, false_or, Nat.reduceEqDiff, Option.map_some, Option.getD_some, Option.getD_none, and_assoc, exists_and_left, exists_and_right, rCall_f, rCall_g, f_pre, f_post, g_pre, g_post, g_exc, Prod.forall, Prod.exists, Prod.mk.injEq, exists_const, forall_const, argsD, conP, entD, remP, flagsP, flagAt, putP, aft, Ct.dt.injEq, forall_eq, forall_eq', forall_const, implies_true, false_implies, and_imp, forall_exists_index, forall_apply_eq_imp_iff, List.length_append, retD, rFor_L, asgLc, rLc_L, riList, riTup, riStr, riRange1, riRange2, riEnum, riRev, rgName, rgTup, rgCons, rgNil, wipeE, unw, rYes, rAsgG, rAsgSub, roSetL, rBM, rBM0, roAppend, roOwn0, isa_no, isa_bl, isa_in, isa_st, isa_by, isa_ls, isa_tu, isa_di, beq_self_eq_true, Bool.or_true, Bool.true_or, Bool.or_false, Bool.false_or, Bool.or_self, Bool.not_true, Bool.not_false, Bool.and_true, Bool.true_and, Bool.and_false, Bool.false_and, String.reduceBEq, String.reduceEq, not_true_eq_false, not_false_eq_true, rSlL', roNone, roSome, roCat, D.trk, rRaise0, rRaise1, excD, rTry, rEx, wMixD, goneD, List.isEmpty_nil, if_true, List.length_singleton, Nat.reduceLeDiff, Nat.reducePow, Int.reducePow, Int.reduceLT, Int.reduceLE, Int.reduceNeg, Int.reduceToNat, ms_without_figures, S_wofig]
  subst e1
  refine sg fun U1 e1 => ?_
  simp (maxSteps := 3000000) only [roSplit, roStr1, rSlSt, rSlBy, rRevL, TruD, rOrT, rAndT, rMake_g, roCatT, roRep, rMeth, rFld, rSetF, rXfn, rXf, lk_eq, putD, Dt.ins.injEq, Dt.exn.injEq, RleS, RMulS, roJoin, rRet, rRetN, rSeq, rIfS, rAsg, rVar, ofEn, rC, rOp, rUn, roP, rCB, rCons, rNil, rAndV, rOrV, rNotV, rB, rAnd, rOr, rNot, rIf, rTup, rLst, rDrop, rNext, rNever, look, frz, frzs, looks, held, roIsi, roF1, roL1, roNeg, rDNew, startE, ents, ent, csOf, unal, finds, RI0, RI, int_in, int_bl, len_ls, len_tu, len_st, len_by, at0, at1, at2, at3, ix30, ix31, ix32, eq_ii, ne_ii, eq_by, ne_by, notin_c, in_c, D.rChain, RIxA, roTupOf, RListOf, RListB, List.findSome?, List.getElem?_cons_zero, List.getElem?_cons_succ, List.getElem?_nil, List.set_cons_zero, List.set_cons_succ, List.length_cons, List.length_nil, List.map_cons, List.map_nil, List.replicate, List.nil_append, List.cons_append, List.append_nil, Option.some.injEq, exists_eq_left', exists_eq_left, exists_eq', exists_eq, true_and, and_true, Vl.d.injEq, Vl.nw.injEq, Vl.sl.injEq, Dt.int.injEq, Dt.bl.injEq, Dt.str.injEq, Dt.lst.injEq, Dt.tup.injEq, Dt.byt.injEq, Dt.ty.injEq, Dt.ref.injEq, En.val.injEq, En.mu.injEq, En.bor.injEq, List.cons.injEq, Nat.reduceLT, Nat.reduceAdd, Nat.reduceSub, Nat.zero_add, and_self, ↓reduceIte, Bool.false_eq_true, reduceCtorEq, false_and, and_false, exists_const, exists_false, or_false, false_or, Nat.reduceEqDiff, Option.map_some, Option.getD_some, Option.getD_none, and_assoc, exists_and_left, exists_and_right, rCall_f, rCall_g, f_pre, f_post, g_pre, g_post, g_exc, Prod.forall, Prod.exists, Prod.mk.injEq, exists_const, forall_const, argsD, conP, entD, remP, flagsP, flagAt, putP, aft, Ct.dt.injEq, forall_eq, forall_eq', forall_const, implies_true, false_implies, and_imp, forall_exists_index, forall_apply_eq_imp_iff, List.length_append, retD, rFor_L, asgLc, rLc_L, riList, riTup, riStr, riRange1, riRange2, riEnum, riRev, rgName, rgTup, rgCons, rgNil, wipeE, unw, rYes, rAsgG, rAsgSub, roSetL, rBM, rBM0, roAppend, roOwn0, isa_no, isa_bl, isa_in, isa_st, isa_by, isa_ls, isa_tu, isa_di, beq_self_eq_true, Bool.or_true, Bool.true_or, Bool.or_false, Bool.false_or, Bool.or_self, Bool.not_true, Bool.not_false, Bool.and_true, Bool.true_and, Bool.and_false, Bool.false_and, String.reduceBEq, String.reduceEq, not_true_eq_false, not_false_eq_true, rSlL', roNone, roSome, roCat, D.trk, rRaise0, rRaise1, excD, rTry, rEx, wMixD, goneD, List.isEmpty_nil, if_true, List.length_singleton, Nat.reduceLeDiff, Nat.reducePow, Int.reducePow, Int.reduceLT, Int.reduceLE, Int.reduceNeg, Int.reduceToNat, ms_without_figures, S_wofig]
  subst e1
  refine sg fun U1 e1 => ?_
  simp (maxSteps := 3000000) only [roSplit, roStr1, rSlSt, rSlBy, rRevL, TruD, rOrT, rAndT, rMake_g, roCatT, roRep, rMeth, rFld, rSetF, rXfn, rXf, lk_eq, putD, Dt.ins.injEq, Dt.exn.injEq, RleS, RMulS, roJoin, rRet, rRetN, rSeq, rIfS, rAsg, rVar, ofEn, rC, rOp, rUn, roP, rCB, rCons, rNil, rAndV, rOrV, rNotV, rB, rAnd, rOr, rNot, rIf, rTup, rLst, rDrop, rNext, rNever, look, frz, frzs, looks, held, roIsi, roF1, roL1, roNeg, rDNew, startE, ents, ent, csOf, unal, finds, RI0, RI, int_in, int_bl, len_ls, len_tu, len_st, len_by, at0, at1, at2, at3, ix30, ix31, ix32, eq_ii, ne_ii, eq_by, ne_by, notin_c, in_c, D.rChain, RIxA, roTupOf, RListOf, RListB, List.findSome?, List.getElem?_cons_zero, List.getElem?_cons_succ, List.getElem?_nil, List.set_cons_zero, List.set_cons_succ, List.length_cons, List.length_nil, List.map_cons, List.map_nil, List.replicate, List.nil_append, List.cons_append, List.append_nil, Option.some.injEq, exists_eq_left', exists_eq_left, exists_eq', exists_eq, true_and, and_true, Vl.d.injEq, Vl.nw.injEq, Vl.sl.injEq, Dt.int.injEq, Dt.bl.injEq, Dt.str.injEq, Dt.lst.injEq, Dt.tup.injEq, Dt.byt.injEq, Dt.ty.injEq, Dt.ref.injEq, En.val.injEq, En.mu.injEq, En.bor.injEq, List.cons.injEq, Nat.reduceLT, Nat.reduceAdd, Nat.reduceSub, Nat.zero_add, and_self, ↓reduceIte, Bool.false_eq_true, reduceCtorEq, false_and, and_false, exists_const, exists_false, or_false, false_or, Nat.reduceEqDiff, Option.map_some, Option.getD_some, Option.getD_none, and_assoc, exists_and_left, exists_and_right, rCall_f, rCall_g, f_pre, f_post, g_pre, g_post, g_exc, Prod.forall, Prod.exists, Prod.mk.injEq, exists_const, forall_const, argsD, conP, entD, remP, flagsP, flagAt, putP, aft, Ct.dt.injEq, forall_eq, forall_eq', forall_const, implies_true, false_implies, and_imp, forall_exists_index, forall_apply_eq_imp_iff, List.length_append, retD, rFor_L, asgLc, rLc_L, riList, riTup, riStr, riRange1, riRange2, riEnum, riRev, rgName, rgTup, rgCons, rgNil, wipeE, unw, rYes, rAsgG, rAsgSub, roSetL, rBM, rBM0, roAppend, roOwn0, isa_no, isa_bl, isa_in, isa_st, isa_by, isa_ls, isa_tu, isa_di, beq_self_eq_true, Bool.or_true, Bool.true_or, Bool.or_false, Bool.false_or, Bool.or_self, Bool.not_true, Bool.not_false, Bool.and_true, Bool.true_and, Bool.and_false, Bool.false_and, String.reduceBEq, String.reduceEq, not_true_eq_false, not_false_eq_true, rSlL', roNone, roSome, roCat, D.trk, rRaise0, rRaise1, excD, rTry, rEx, wMixD, goneD, List.isEmpty_nil, if_true, List.length_singleton, Nat.reduceLeDiff, Nat.reducePow, Int.reducePow, Int.reduceLT, Int.reduceLE, Int.reduceNeg, Int.reduceToNat, ms_without_figures, S_wofig]
  refine lp_of (fun i η' => ∃ acc b c3 c4, bareF false s.cps.toList = acc ++ bareF b (s.cps.toList.drop i) ∧ acc.length ≤ i ∧ η' = [some (.val (.str s)), some (.val (.str (mkS acc))), some (.val (.bl b)), c3, c4]) ⟨[], false, _, _, rfl, Nat.le_refl _, rfl⟩ ?_ ?_
  · rintro i x η' hx ⟨acc, b, c3, c4, he, hl, rfl⟩
    obtain ⟨c, hc, rfl⟩ := signs_get hx
    have hi : i < s.cps.toList.length := (List.getElem?_eq_some_iff.mp hc).1
    have hd : s.cps.toList.drop i = c :: s.cps.toList.drop (i + 1) := by
      rw [List.drop_eq_getElem_cons hi]
      rw [List.getElem?_eq_getElem hi] at hc
      cases hc
      rfl
    have hsl : s.cps.toList.length = s.length := len_list s
    rw [hd, bareF] at he
    simp (maxSteps := 3000000) only [roSplit, roStr1, rSlSt, rSlBy, rRevL, TruD, rOrT, rAndT, rMake_g, roCatT, roRep, rMeth, rFld, rSetF, rXfn, rXf, lk_eq, putD, Dt.ins.injEq, Dt.exn.injEq, RleS, RMulS, roJoin, rRet, rRetN, rSeq, rIfS, rAsg, rVar, ofEn, rC, rOp, rUn, roP, rCB, rCons, rNil, rAndV, rOrV, rNotV, rB, rAnd, rOr, rNot, rIf, rTup, rLst, rDrop, rNext, rNever, look, frz, frzs, looks, held, roIsi, roF1, roL1, roNeg, rDNew, startE, ents, ent, csOf, unal, finds, RI0, RI, int_in, int_bl, len_ls, len_tu, len_st, len_by, at0, at1, at2, at3, ix30, ix31, ix32, eq_ii, ne_ii, eq_by, ne_by, notin_c, in_c, D.rChain, RIxA, roTupOf, RListOf, RListB, List.findSome?, List.getElem?_cons_zero, List.getElem?_cons_succ, List.getElem?_nil, List.set_cons_zero, List.set_cons_succ, List.length_cons, List.length_nil, List.map_cons, List.map_nil, List.replicate, List.nil_append, List.cons_append, List.append_nil, Option.some.injEq, exists_eq_left', exists_eq_left, exists_eq', exists_eq, true_and, and_true, Vl.d.injEq, Vl.nw.injEq, Vl.sl.injEq, Dt.int.injEq, Dt.bl.injEq, Dt.str.injEq, Dt.lst.injEq, Dt.tup.injEq, Dt.byt.injEq, Dt.ty.injEq, Dt.ref.injEq, En.val.injEq, En.mu.injEq, En.bor.injEq, List.cons.injEq, Nat.reduceLT, Nat.reduceAdd, Nat.reduceSub, Nat.zero_add, and_self, ↓reduceIte, Bool.false_eq_true, reduceCtorEq, false_and, and_false, exists_const, exists_false, or_false, false_or, Nat.reduceEqDiff, Option.map_some, Option.getD_some, Option.getD_none, and_assoc, exists_and_left, exists_and_right, rCall_f, rCall_g, f_pre, f_post, g_pre, g_post, g_exc, Prod.forall, Prod.exists, Prod.mk.injEq, exists_const, forall_const, argsD, conP, entD, remP, flagsP, flagAt, putP, aft, Ct.dt.injEq, forall_eq, forall_eq', forall_const, implies_true, false_implies, and_imp, forall_exists_index, forall_apply_eq_imp_iff, List.length_append, retD, rFor_L, asgLc, rLc_L, riList, riTup, riStr, riRange1, riRange2, riEnum, riRev, rgName, rgTup, rgCons, rgNil, wipeE, unw, rYes, rAsgG, rAsgSub, roSetL, rBM, rBM0, roAppend, roOwn0, isa_no, isa_bl, isa_in, isa_st, isa_by, isa_ls, isa_tu, isa_di, beq_self_eq_true, Bool.or_true, Bool.true_or, Bool.or_false, Bool.false_or, Bool.or_self, Bool.not_true, Bool.not_false, Bool.and_true, Bool.true_and, Bool.and_false, Bool.false_and, String.reduceBEq, String.reduceEq, not_true_eq_false, not_false_eq_true, rSlL', roNone, roSome, roCat, D.trk, rRaise0, rRaise1, excD, rTry, rEx, wMixD, goneD, List.isEmpty_nil, if_true, List.length_singleton, Nat.reduceLeDiff, Nat.reducePow, Int.reducePow, Int.reduceLT, Int.reduceLE, Int.reduceNeg, Int.reduceToNat, RAddS]
    rw [show decide (c ∈ (Str.ofString "0123456789").cps.toList) = digC c from rfl]
    cases hg : digC c with
    | true =>
      rw [hg, if_pos rfl] at he
      simp only [Bool.not_true, Bool.false_eq_true, if_false]
      cases b with
      | true =>
        rw [if_pos rfl] at he
        simp only [Bool.not_true, Bool.false_eq_true, if_false]
        refine ⟨acc, true, he, by omega, ?_⟩
        simp
      | false =>
        rw [if_neg (by decide)] at he
        simp only [Bool.not_false, if_true]
        refine ⟨by rw [mkS_len]; show _ + 1 ≤ _; omega, acc ++ [35], true, by rw [he]; simp, by simp; omega, ?_⟩
        have e := mkS_app acc 35
        first | exact e | exact ⟨e, rfl⟩
    | false =>
      rw [hg, if_neg (by decide)] at he
      simp only [Bool.not_false, if_true]
      refine ⟨by rw [mkS_len]; show _ + 1 ≤ _; omega, acc ++ [c], false, by rw [he]; simp, by simp; omega, ?_⟩
      have e := mkS_app acc c
      first | exact e | exact ⟨e, rfl⟩
  · rintro η' ⟨acc, b, c3, c4, he, hl, rfl⟩
    rw [D.signs_length, show s.cps.size = s.cps.toList.length by simp, List.drop_length, bareF, List.append_nil] at he
    show U1 _
    subst e1
    simp (maxSteps := 3000000) only [roSplit, roStr1, rSlSt, rSlBy, rRevL, TruD, rOrT, rAndT, rMake_g, roCatT, roRep, rMeth, rFld, rSetF, rXfn, rXf, lk_eq, putD, Dt.ins.injEq, Dt.exn.injEq, RleS, RMulS, roJoin, rRet, rRetN, rSeq, rIfS, rAsg, rVar, ofEn, rC, rOp, rUn, roP, rCB, rCons, rNil, rAndV, rOrV, rNotV, rB, rAnd, rOr, rNot, rIf, rTup, rLst, rDrop, rNext, rNever, look, frz, frzs, looks, held, roIsi, roF1, roL1, roNeg, rDNew, startE, ents, ent, csOf, unal, finds, RI0, RI, int_in, int_bl, len_ls, len_tu, len_st, len_by, at0, at1, at2, at3, ix30, ix31, ix32, eq_ii, ne_ii, eq_by, ne_by, notin_c, in_c, D.rChain, RIxA, roTupOf, RListOf, RListB, List.findSome?, List.getElem?_cons_zero, List.getElem?_cons_succ, List.getElem?_nil, List.set_cons_zero, List.set_cons_succ, List.length_cons, List.length_nil, List.map_cons, List.map_nil, List.replicate, List.nil_append, List.cons_append, List.append_nil, Option.some.injEq, exists_eq_left', exists_eq_left, exists_eq', exists_eq, true_and, and_true, Vl.d.injEq, Vl.nw.injEq, Vl.sl.injEq, Dt.int.injEq, Dt.bl.injEq, Dt.str.injEq, Dt.lst.injEq, Dt.tup.injEq, Dt.byt.injEq, Dt.ty.injEq, Dt.ref.injEq, En.val.injEq, En.mu.injEq, En.bor.injEq, List.cons.injEq, Nat.reduceLT, Nat.reduceAdd, Nat.reduceSub, Nat.zero_add, and_self, ↓reduceIte, Bool.false_eq_true, reduceCtorEq, false_and, and_false, exists_const, exists_false, or_false, false_or, Nat.reduceEqDiff, Option.map_some, Option.getD_some, Option.getD_none, and_assoc, exists_and_left, exists_and_right, rCall_f, rCall_g, f_pre, f_post, g_pre, g_post, g_exc, Prod.forall, Prod.exists, Prod.mk.injEq, exists_const, forall_const, argsD, conP, entD, remP, flagsP, flagAt, putP, aft, Ct.dt.injEq, forall_eq, forall_eq', forall_const, implies_true, false_implies, and_imp, forall_exists_index, forall_apply_eq_imp_iff, List.length_append, retD, rFor_L, asgLc, rLc_L, riList, riTup, riStr, riRange1, riRange2, riEnum, riRev, rgName, rgTup, rgCons, rgNil, wipeE, unw, rYes, rAsgG, rAsgSub, roSetL, rBM, rBM0, roAppend, roOwn0, isa_no, isa_bl, isa_in, isa_st, isa_by, isa_ls, isa_tu, isa_di, beq_self_eq_true, Bool.or_true, Bool.true_or, Bool.or_false, Bool.false_or, Bool.or_self, Bool.not_true, Bool.not_false, Bool.and_true, Bool.true_and, Bool.and_false, Bool.false_and, String.reduceBEq, String.reduceEq, not_true_eq_false, not_false_eq_true, rSlL', roNone, roSome, roCat, D.trk, rRaise0, rRaise1, excD, rTry, rEx, wMixD, goneD, List.isEmpty_nil, if_true, List.length_singleton, Nat.reduceLeDiff, Nat.reducePow, Int.reducePow, Int.reduceLT, Int.reduceLE, Int.reduceNeg, Int.reduceToNat, ms_without_figures, S_wofig]
    rw [bareS, he]
/-! #### is_taken -/
abbrev s_is_taken : Stmt := top 13
abbrev N_is_taken : List Str := ["cleaner", "ahead", "word", "row"]
abbrev P_is_taken : List Str := ["cleaner", "ahead", "word"]
abbrev ms_is_taken : List Md := [.b, .v, .v]
theorem sc_is_taken : FnScope N_is_taken P_is_taken (defScope s_is_taken) := ⟨rfl, rfl, rfl, by decide +kernel, rfl, by decide +kernel, by decide +kernel⟩
theorem ok_is_taken {P : Program} {w : World} {K : PySem.W.Frag} {mg : Str → Option Value} {base : Heap} {f : Addr} {fd : FuncData} {c_FellError c_NoCleaner c_Cleaner : Addr} (G : Gs K mg c_FellError c_NoCleaner c_Cleaner) (X_NoCleaner : ExO P w K mg base "NoCleaner" c_NoCleaner "at") (K_Cleaner : ClF K mg "Cleaner" c_Cleaner) (nA_Cleaner_rows : NoAttr K c_Cleaner "rows") (F : Fun K "is_taken" "is_taken" s_is_taken f fd) (mf : mg "is_taken" = some (.ref f)) :
    Hs P w K mg base CX0 1 "is_taken" P_is_taken (toSp K ms_is_taken (S_taken c_Cleaner)) := by
  refine ⟨f, fd, ?_, mf, F.kp, F.binds (ps := P_is_taken) fun _ _ _ _ _ _ us hl => match us, hl with | [_, _, _], _ => rfl⟩
  refine F.ok sc_is_taken (fun vs H Q E h => toSp_len h) (fun cdv A outer s H vs Q E hr h => ?_)
  have hu := hr.units
  refine ⟨_, pss_cons (ps_if (pt_cmpR ((op_inA hu)) (pe_tup (pa_cons (pe_str) (pa_cons (pv 1) (pa_nil)))) (pe_fld (pv 0) rfl) (by rfl)) (pss_one (ps_ret (pe_bl))) (pss_nil)) (pss_one (ps_ret (pe_callB (cr_any rfl) rfl G.b_any (by decide +kernel) (pa_cons (pe_lc (own := [("row", 3)]) (tt := tYes) rfl sc_is_taken.nd (pi_list (pe_fld (pv 0) rfl)) (blkOk_by (N := N_is_taken) (sc := defScope s_is_taken) (by decide +kernel)) (fun _ _ _ _ _ => pg_name (i := 3) sc_is_taken.nd rfl (by first | exact Or.inl rfl | exact Or.inr rfl | exact .inr (.inl rfl) | exact .inr (.inr rfl))) (fun _ _ _ _ _ => pts_nil) (fun _ _ _ _ _ => pe_and (pe_cmpR ((show OpR _ _ (rEqA K) from op_eqA hu)) (pe_ix (show IxR _ (rIx K) from ix_seq) (pv 3) (pe_int) (fun _ _ => rfl)) (pe_str) (nomark _)) (pe_one (show PE _ _ (tBM K _ _ _ _) from pe_bm PySem.F.plainAttrs_str PySem.F.slot_str_startswith PySem.F.type_str_startswith mt_startswith (pv 2) (pa_cons (pe_ix (show IxR _ (rIx K) from ix_seq) (pv 3) (pe_int) (fun _ _ => rfl)) (pa_nil)))))) (pa_nil))))), ?_⟩
  refine run_body0 h (by decide) (fun as => ds_seq (ds_if (dt_test (de_op (d2_P p2_in) (de_tup (da_cons (de_str) (da_cons (de_var 1) (da_nil)))) (de_fld (de_var 0)))) (ds_ret (de_bl)) (ds_next)) (ds_ret (de_cb (dc_F1 f1_any) (da_cons (de_lc (vs := [3]) (di_list (de_fld (de_var 0))) (dg_name 3) (dt_yes) (de_andV (de_op (d2_P p2_eq) (de_op (d2_P p2_ix) (de_var 3) (de_int)) (de_str)) (de_bm dm_startswith (de_var 2) (da_cons (de_op (d2_P p2_ix) (de_var 3) (de_int)) (da_nil)))) (by decide)) (da_nil))))) (fun as hp hl => ?_)
  obtain ⟨rs, ah, w, rfl, hrs⟩ := hp
  refine sg fun U1 e1 => ?_
  simp (maxSteps := 3000000) only [roSplit, roStr1, rSlSt, rSlBy, rRevL, TruD, rOrT, rAndT, rMake_g, roCatT, roRep, rMeth, rFld, rSetF, rXfn, rXf, lk_eq, putD, Dt.ins.injEq, Dt.exn.injEq, RleS, RMulS, roJoin, rRet, rRetN, rSeq, rIfS, rAsg, rVar, ofEn, rC, rOp, rUn, roP, rCB, rCons, rNil, rAndV, rOrV, rNotV, rB, rAnd, rOr, rNot, rIf, rTup, rLst, rDrop, rNext, rNever, look, frz, frzs, looks, held, roIsi, roF1, roL1, roNeg, rDNew, startE, ents, ent, csOf, unal, finds, RI0, RI, int_in, int_bl, len_ls, len_tu, len_st, len_by, at0, at1, at2, at3, ix30, ix31, ix32, eq_ii, ne_ii, eq_by, ne_by, notin_c, in_c, D.rChain, RIxA, roTupOf, RListOf, RListB, List.findSome?, List.getElem?_cons_zero, List.getElem?_cons_succ, List.getElem?_nil, List.set_cons_zero, List.set_cons_succ, List.length_cons, List.length_nil, List.map_cons, List.map_nil, List.replicate, List.nil_append, List.cons_append, List.append_nil, Option.some.injEq, exists_eq_left', exists_eq_left, exists_eq', exists_eq, true_and, and_true, Vl.d.injEq, Vl.nw.injEq, Vl.sl.injEq, Dt.int.injEq, Dt.bl.injEq, Dt.str.injEq, Dt.lst.injEq, Dt.tup.injEq, Dt.byt.injEq, Dt.ty.injEq, Dt.ref.injEq, En.val.injEq, En.mu.injEq, En.bor.injEq, List.cons.injEq, Nat.reduceLT, Nat.reduceAdd, Nat.reduceSub, Nat.zero_add, and_self, ↓reduceIte, Bool.false_eq_true, reduceCtorEq, false_and, and_false, exists_const, exists_false, or_false, false_or, Nat.reduceEqDiff, Option.map_some, Option.getD_some, Option.getD_none, and_assoc, exists_and_left, exists_and_right, rCall_f, rCall_g, f_pre, f_post, g_pre, g_post, g_exc, Prod.forall, Prod.exists, Prod.mk.injEq, exists_const, forall_const, argsD, conP, entD, remP, flagsP, flagAt, putP, aft, Ct.dt.injEq, forall_eq, forall_eq', forall_const, implies_true, false_implies, and_imp, forall_exists_index, forall_apply_eq_imp_iff, List.length_append, retD, rFor_L, asgLc, rLc_L, riList, riTup, riStr, riRange1, riRange2, riEnum, riRev, rgName, rgTup, rgCons, rgNil, wipeE, unw, rYes, rAsgG, rAsgSub, roSetL, rBM, rBM0, roAppend, roOwn0, isa_no, isa_bl, isa_in, isa_st, isa_by, isa_ls, isa_tu, isa_di, beq_self_eq_true, Bool.or_true, Bool.true_or, Bool.or_false, Bool.false_or, Bool.or_self, Bool.not_true, Bool.not_false, Bool.and_true, Bool.true_and, Bool.and_false, Bool.false_and, String.reduceBEq, String.reduceEq, not_true_eq_false, not_false_eq_true, rSlL', roNone, roSome, roCat, D.trk, rRaise0, rRaise1, excD, rTry, rEx, wMixD, goneD, List.isEmpty_nil, if_true, List.length_singleton, Nat.reduceLeDiff, Nat.reducePow, Int.reducePow, Int.reduceLT, Int.reduceLE, Int.reduceNeg, Int.reduceToNat, ms_is_taken, S_taken, clD]
  have hP : ∀ e ∈ rs, Pd 1 e := fun e he => pd_row (hrs.1 e he)
  have hA : Pd 1 (.tup [.str (Str.ofString "after"), ahD ah]) := fun x hx => by
    simp only [List.mem_cons, List.mem_nil_iff, or_false] at hx
    rcases hx with rfl | rfl
    · exact trivial
    · cases ah <;> exact trivial
  refine ⟨K_Cleaner.cl, nA_Cleaner_rows, .bl (afterB rs (ahD ah)), by rw [in_lst 1 1 hA (by decide) hP]; rfl, _, rfl, ?_⟩
  cases ha : afterB rs (ahD ah) with
  | true =>
    simp only [if_true, takenB, ha, Bool.true_or]
  | false =>
    simp only [Bool.false_eq_true, if_false]
    subst e1
    simp (maxSteps := 3000000) only [roSplit, roStr1, rSlSt, rSlBy, rRevL, TruD, rOrT, rAndT, rMake_g, roCatT, roRep, rMeth, rFld, rSetF, rXfn, rXf, lk_eq, putD, Dt.ins.injEq, Dt.exn.injEq, RleS, RMulS, roJoin, rRet, rRetN, rSeq, rIfS, rAsg, rVar, ofEn, rC, rOp, rUn, roP, rCB, rCons, rNil, rAndV, rOrV, rNotV, rB, rAnd, rOr, rNot, rIf, rTup, rLst, rDrop, rNext, rNever, look, frz, frzs, looks, held, roIsi, roF1, roL1, roNeg, rDNew, startE, ents, ent, csOf, unal, finds, RI0, RI, int_in, int_bl, len_ls, len_tu, len_st, len_by, at0, at1, at2, at3, ix30, ix31, ix32, eq_ii, ne_ii, eq_by, ne_by, notin_c, in_c, D.rChain, RIxA, roTupOf, RListOf, RListB, List.findSome?, List.getElem?_cons_zero, List.getElem?_cons_succ, List.getElem?_nil, List.set_cons_zero, List.set_cons_succ, List.length_cons, List.length_nil, List.map_cons, List.map_nil, List.replicate, List.nil_append, List.cons_append, List.append_nil, Option.some.injEq, exists_eq_left', exists_eq_left, exists_eq', exists_eq, true_and, and_true, Vl.d.injEq, Vl.nw.injEq, Vl.sl.injEq, Dt.int.injEq, Dt.bl.injEq, Dt.str.injEq, Dt.lst.injEq, Dt.tup.injEq, Dt.byt.injEq, Dt.ty.injEq, Dt.ref.injEq, En.val.injEq, En.mu.injEq, En.bor.injEq, List.cons.injEq, Nat.reduceLT, Nat.reduceAdd, Nat.reduceSub, Nat.zero_add, and_self, ↓reduceIte, Bool.false_eq_true, reduceCtorEq, false_and, and_false, exists_const, exists_false, or_false, false_or, Nat.reduceEqDiff, Option.map_some, Option.getD_some, Option.getD_none, and_assoc, exists_and_left, exists_and_right, rCall_f, rCall_g, f_pre, f_post, g_pre, g_post, g_exc, Prod.forall, Prod.exists, Prod.mk.injEq, exists_const, forall_const, argsD, conP, entD, remP, flagsP, flagAt, putP, aft, Ct.dt.injEq, forall_eq, forall_eq', forall_const, implies_true, false_implies, and_imp, forall_exists_index, forall_apply_eq_imp_iff, List.length_append, retD, rFor_L, asgLc, rLc_L, riList, riTup, riStr, riRange1, riRange2, riEnum, riRev, rgName, rgTup, rgCons, rgNil, wipeE, unw, rYes, rAsgG, rAsgSub, roSetL, rBM, rBM0, roAppend, roOwn0, isa_no, isa_bl, isa_in, isa_st, isa_by, isa_ls, isa_tu, isa_di, beq_self_eq_true, Bool.or_true, Bool.true_or, Bool.or_false, Bool.false_or, Bool.or_self, Bool.not_true, Bool.not_false, Bool.and_true, Bool.true_and, Bool.and_false, Bool.false_and, String.reduceBEq, String.reduceEq, not_true_eq_false, not_false_eq_true, rSlL', roNone, roSome, roCat, D.trk, rRaise0, rRaise1, excD, rTry, rEx, wMixD, goneD, List.isEmpty_nil, if_true, List.length_singleton, Nat.reduceLeDiff, Nat.reducePow, Int.reducePow, Int.reduceLT, Int.reduceLE, Int.reduceNeg, Int.reduceToNat, ms_is_taken, S_taken, clD, K_Cleaner.cl, nA_Cleaner_rows]
    refine lc_map (fun i acc η' => η' = [some (.bor (.ins c_Cleaner [(Str.ofString "rows", .lst rs)])), some (.val (ahD ah)), some (.val (.str w)), none] ∧ acc = (rs.take i).map fun r => .bl (fromB w r)) (Nat.le_trans hrs.2 (by decide)) ⟨rfl, rfl⟩ ?_ ?_
    · rintro i x acc η' hx hl ⟨rfl, rfl⟩
      obtain ⟨a, b, rfl⟩ := row_str (hrs.1 x (List.mem_of_getElem? hx))
      simp (maxSteps := 3000000) only [roSplit, roStr1, rSlSt, rSlBy, rRevL, TruD, rOrT, rAndT, rMake_g, roCatT, roRep, rMeth, rFld, rSetF, rXfn, rXf, lk_eq, putD, Dt.ins.injEq, Dt.exn.injEq, RleS, RMulS, roJoin, rRet, rRetN, rSeq, rIfS, rAsg, rVar, ofEn, rC, rOp, rUn, roP, rCB, rCons, rNil, rAndV, rOrV, rNotV, rB, rAnd, rOr, rNot, rIf, rTup, rLst, rDrop, rNext, rNever, look, frz, frzs, looks, held, roIsi, roF1, roL1, roNeg, rDNew, startE, ents, ent, csOf, unal, finds, RI0, RI, int_in, int_bl, len_ls, len_tu, len_st, len_by, at0, at1, at2, at3, ix30, ix31, ix32, eq_ii, ne_ii, eq_by, ne_by, notin_c, in_c, D.rChain, RIxA, roTupOf, RListOf, RListB, List.findSome?, List.getElem?_cons_zero, List.getElem?_cons_succ, List.getElem?_nil, List.set_cons_zero, List.set_cons_succ, List.length_cons, List.length_nil, List.map_cons, List.map_nil, List.replicate, List.nil_append, List.cons_append, List.append_nil, Option.some.injEq, exists_eq_left', exists_eq_left, exists_eq', exists_eq, true_and, and_true, Vl.d.injEq, Vl.nw.injEq, Vl.sl.injEq, Dt.int.injEq, Dt.bl.injEq, Dt.str.injEq, Dt.lst.injEq, Dt.tup.injEq, Dt.byt.injEq, Dt.ty.injEq, Dt.ref.injEq, En.val.injEq, En.mu.injEq, En.bor.injEq, List.cons.injEq, Nat.reduceLT, Nat.reduceAdd, Nat.reduceSub, Nat.zero_add, and_self, ↓reduceIte, Bool.false_eq_true, reduceCtorEq, false_and, and_false, exists_const, exists_false, or_false, false_or, Nat.reduceEqDiff, Option.map_some, Option.getD_some, Option.getD_none, and_assoc, exists_and_left, exists_and_right, rCall_f, rCall_g, f_pre, f_post, g_pre, g_post, g_exc, Prod.forall, Prod.exists, Prod.mk.injEq, exists_const, forall_const, argsD, conP, entD, remP, flagsP, flagAt, putP, aft, Ct.dt.injEq, forall_eq, forall_eq', forall_const, implies_true, false_implies, and_imp, forall_exists_index, forall_apply_eq_imp_iff, List.length_append, retD, rFor_L, asgLc, rLc_L, riList, riTup, riStr, riRange1, riRange2, riEnum, riRev, rgName, rgTup, rgCons, rgNil, wipeE, unw, rYes, rAsgG, rAsgSub, roSetL, rBM, rBM0, roAppend, roOwn0, isa_no, isa_bl, isa_in, isa_st, isa_by, isa_ls, isa_tu, isa_di, beq_self_eq_true, Bool.or_true, Bool.true_or, Bool.or_false, Bool.false_or, Bool.or_self, Bool.not_true, Bool.not_false, Bool.and_true, Bool.true_and, Bool.and_false, Bool.false_and, String.reduceBEq, String.reduceEq, not_true_eq_false, not_false_eq_true, rSlL', roNone, roSome, roCat, D.trk, rRaise0, rRaise1, excD, rTry, rEx, wMixD, goneD, List.isEmpty_nil, if_true, List.length_singleton, Nat.reduceLeDiff, Nat.reducePow, Int.reducePow, Int.reduceLT, Int.reduceLE, Int.reduceNeg, Int.reduceToNat, eq_str]
      rw [take_succ_at hx, List.map_append]
      simp only [List.map_cons, List.map_nil, fromB]
      by_cases hf : a = Str.ofString "from"
      · subst hf
        rw [if_pos (by decide)]
        simp
      · rw [if_neg (by rw [decide_eq_false hf]; decide), decide_eq_false (show ¬ a = "from" from hf)]
        rfl
    · rintro acc η' hl ⟨rfl, rfl⟩
      simp (maxSteps := 3000000) only [roSplit, roStr1, rSlSt, rSlBy, rRevL, TruD, rOrT, rAndT, rMake_g, roCatT, roRep, rMeth, rFld, rSetF, rXfn, rXf, lk_eq, putD, Dt.ins.injEq, Dt.exn.injEq, RleS, RMulS, roJoin, rRet, rRetN, rSeq, rIfS, rAsg, rVar, ofEn, rC, rOp, rUn, roP, rCB, rCons, rNil, rAndV, rOrV, rNotV, rB, rAnd, rOr, rNot, rIf, rTup, rLst, rDrop, rNext, rNever, look, frz, frzs, looks, held, roIsi, roF1, roL1, roNeg, rDNew, startE, ents, ent, csOf, unal, finds, RI0, RI, int_in, int_bl, len_ls, len_tu, len_st, len_by, at0, at1, at2, at3, ix30, ix31, ix32, eq_ii, ne_ii, eq_by, ne_by, notin_c, in_c, D.rChain, RIxA, roTupOf, RListOf, RListB, List.findSome?, List.getElem?_cons_zero, List.getElem?_cons_succ, List.getElem?_nil, List.set_cons_zero, List.set_cons_succ, List.length_cons, List.length_nil, List.map_cons, List.map_nil, List.replicate, List.nil_append, List.cons_append, List.append_nil, Option.some.injEq, exists_eq_left', exists_eq_left, exists_eq', exists_eq, true_and, and_true, Vl.d.injEq, Vl.nw.injEq, Vl.sl.injEq, Dt.int.injEq, Dt.bl.injEq, Dt.str.injEq, Dt.lst.injEq, Dt.tup.injEq, Dt.byt.injEq, Dt.ty.injEq, Dt.ref.injEq, En.val.injEq, En.mu.injEq, En.bor.injEq, List.cons.injEq, Nat.reduceLT, Nat.reduceAdd, Nat.reduceSub, Nat.zero_add, and_self, ↓reduceIte, Bool.false_eq_true, reduceCtorEq, false_and, and_false, exists_const, exists_false, or_false, false_or, Nat.reduceEqDiff, Option.map_some, Option.getD_some, Option.getD_none, and_assoc, exists_and_left, exists_and_right, rCall_f, rCall_g, f_pre, f_post, g_pre, g_post, g_exc, Prod.forall, Prod.exists, Prod.mk.injEq, exists_const, forall_const, argsD, conP, entD, remP, flagsP, flagAt, putP, aft, Ct.dt.injEq, forall_eq, forall_eq', forall_const, implies_true, false_implies, and_imp, forall_exists_index, forall_apply_eq_imp_iff, List.length_append, retD, rFor_L, asgLc, rLc_L, riList, riTup, riStr, riRange1, riRange2, riEnum, riRev, rgName, rgTup, rgCons, rgNil, wipeE, unw, rYes, rAsgG, rAsgSub, roSetL, rBM, rBM0, roAppend, roOwn0, isa_no, isa_bl, isa_in, isa_st, isa_by, isa_ls, isa_tu, isa_di, beq_self_eq_true, Bool.or_true, Bool.true_or, Bool.or_false, Bool.false_or, Bool.or_self, Bool.not_true, Bool.not_false, Bool.and_true, Bool.true_and, Bool.and_false, Bool.false_and, String.reduceBEq, String.reduceEq, not_true_eq_false, not_false_eq_true, rSlL', roNone, roSome, roCat, D.trk, rRaise0, rRaise1, excD, rTry, rEx, wMixD, goneD, List.isEmpty_nil, if_true, List.length_singleton, Nat.reduceLeDiff, Nat.reducePow, Int.reducePow, Int.reduceLT, Int.reduceLE, Int.reduceNeg, Int.reduceToNat, ms_is_taken, S_taken, clD]
      rw [List.take_length]
      refine ⟨_, ⟨rs.map (fromB w), by simp, rfl⟩, ?_⟩
      simp [takenB, ha, List.any_map]
      try rfl
/-! #### clean -/
abbrev s_clean : Stmt := top 12
abbrev N_clean : List Str := ["cleaner", "text", "found", "ahead", "word"]
abbrev P_clean : List Str := ["cleaner", "text"]
abbrev ms_clean : List Md := [.b, .v]
theorem sc_clean : FnScope N_clean P_clean (defScope s_clean) := ⟨rfl, rfl, rfl, by decide +kernel, rfl, by decide +kernel, by decide +kernel⟩
theorem ok_clean {P : Program} {w : World} {K : PySem.W.Frag} {mg : Str → Option Value} {base : Heap} {f : Addr} {fd : FuncData} {c_FellError c_NoCleaner c_Cleaner : Addr} (G : Gs K mg c_FellError c_NoCleaner c_Cleaner) (h0 : Hs P w K mg base CX0 1 "is_taken" P_is_taken (toSp K ms_is_taken (S_taken c_Cleaner))) (h1 : Hs P w K mg base CX0 1 "without_figures" P_without_figures (toSp K ms_without_figures (S_wofig))) (X_NoCleaner : ExO P w K mg base "NoCleaner" c_NoCleaner "at") (K_Cleaner : ClF K mg "Cleaner" c_Cleaner) (nA_Cleaner_rows : NoAttr K c_Cleaner "rows") (F : Fun K "clean" "clean" s_clean f fd) (mf : mg "clean" = some (.ref f)) :
    Hs P w K mg base CX0 2 "clean" P_clean (toSp K ms_clean (S_clean c_Cleaner)) := by
  obtain ⟨f0, fd0, F0, m0, k0, b0⟩ := h0
  obtain ⟨f1, fd1, F1, m1, k1, b1⟩ := h1
  refine ⟨f, fd, ?_, mf, F.kp, F.binds (ps := P_clean) fun _ _ _ _ _ _ us hl => match us, hl with | [_, _], _ => rfl⟩
  refine F.ok sc_clean (fun vs H Q E h => toSp_len h) (fun cdv A outer s H vs Q E hr h => ?_)
  have hu := hr.units
  refine ⟨_, pss_cons (ps_set (i := 2) sc_clean.nd rfl (by first | exact Or.inl rfl | exact Or.inr rfl) (pe_lst (pa_nil))) (pss_cons (ps_set (i := 3) sc_clean.nd rfl (by first | exact Or.inl rfl | exact Or.inr rfl) (pe_non)) (pss_cons (ps_for PassesOwn.never rfl (pi_list (pe_bm PySem.F.plainAttrs_str PySem.F.slot_str_split PySem.F.type_str_split mt_split (pv 1) (pa_cons (pe_str) (pa_nil)))) (pg_name (i := 4) sc_clean.nd rfl (by first | exact Or.inl rfl | exact Or.inr rfl | exact .inr (.inl rfl) | exact .inr (.inr rfl))) (pss_cons (ps_if (pt_cmpR ((op_eqA hu)) (pv 4) (pe_str) (nomark _)) (pss_one (ps_expr (pe_bm PySem.F.plainAttrs_list PySem.F.slot_list_append PySem.F.type_list_append mt_append (pv 2) (pa_cons (pv 4) (pa_nil))))) (pss_one (ps_if (pt_val (pe_callS (E := (fun _ => E0)) F0 (hr.mono (by decide)) rfl m0 k0 b0 (fun _ => fun _ _ _ _ _ _ h => h.elim) (pa_cons (pv 0) (pa_cons (pv 3) (pa_cons (pv 4) (pa_nil)))))) (pss_one (ps_expr (pe_bm PySem.F.plainAttrs_list PySem.F.slot_list_append PySem.F.type_list_append mt_append (pv 2) (pa_cons (pe_str) (pa_nil))))) (pss_one (ps_expr (pe_bm PySem.F.plainAttrs_list PySem.F.slot_list_append PySem.F.type_list_append mt_append (pv 2) (pa_cons (pe_callS (E := (fun _ => E0)) F1 (hr.mono (by decide)) rfl m1 k1 b1 (fun _ => fun _ _ _ _ _ _ h => h.elim) (pa_cons (pv 4) (pa_nil))) (pa_nil)))))))) (pss_one (ps_set (i := 3) sc_clean.nd rfl (by first | exact Or.inl rfl | exact Or.inr rfl) ((pe_orT (pv 4) (pe_one (pv 3)))))))) (pss_one (ps_ret (pe_bm PySem.F.plainAttrs_str PySem.F.slot_str_join PySem.F.type_str_join mt_join (pe_str) (pa_cons (pv 2) (pa_nil))))))), ?_⟩
  refine run_body0 h (by decide) (fun as => ds_seq (ds_asg (de_lst (da_nil)) 2) (ds_seq (ds_asg (de_non) 3) (ds_seq (ds_for (di_list (de_bm dm_split (de_var 1) (da_cons (de_str) (da_nil)))) (dg_name 4) (ds_seq (ds_if (dt_test (de_op (d2_P p2_eq) (de_var 4) (de_str))) (ds_drop (de_bm dm_append (de_var 2) (da_cons (de_var 4) (da_nil)))) (ds_if (dt_B (de_callS (X := W0) (ms := ms_is_taken) (S := S_taken c_Cleaner) (fun _ _ _ _ h => h.elim) (da_cons (de_var 0) (da_cons (de_var 3) (da_cons (de_var 4) (da_nil)))))) (ds_drop (de_bm dm_append (de_var 2) (da_cons (de_str) (da_nil)))) (ds_drop (de_bm dm_append (de_var 2) (da_cons (de_callS (X := W0) (ms := ms_without_figures) (S := S_wofig) (fun _ _ _ _ h => h.elim) (da_cons (de_var 4) (da_nil))) (da_nil)))))) (ds_asg (de_orT (de_var 4) (de_var 3)) 3))) (ds_ret (de_bm dm_join (de_str) (da_cons (de_var 2) (da_nil))))))) (fun as hp hl => ?_)
  obtain ⟨rs, s, rfl, hrs, hs⟩ := hp
  refine sg fun U1 e1 => ?_
  simp (maxSteps := 3000000) only [roSplit, roStr1, rSlSt, rSlBy, rRevL, TruD, rOrT, rAndT, rMake_g, roCatT, roRep, rMeth, rFld, rSetF, rXfn, rXf, lk_eq, putD, Dt.ins.injEq, Dt.exn.injEq, RleS, RMulS, roJoin, rRet, rRetN, rSeq, rIfS, rAsg, rVar, ofEn, rC, rOp, rUn, roP, rCB, rCons, rNil, rAndV, rOrV, rNotV, rB, rAnd, rOr, rNot, rIf, rTup, rLst, rDrop, rNext, rNever, look, frz, frzs, looks, held, roIsi, roF1, roL1, roNeg, rDNew, startE, ents, ent, csOf, unal, finds, RI0, RI, int_in, int_bl, len_ls, len_tu, len_st, len_by, at0, at1, at2, at3, ix30, ix31, ix32, eq_ii, ne_ii, eq_by, ne_by, notin_c, in_c, D.rChain, RIxA, roTupOf, RListOf, RListB, List.findSome?, List.getElem?_cons_zero, List.getElem?_cons_succ, List.getElem?_nil, List.set_cons_zero, List.set_cons_succ, List.length_cons, List.length_nil, List.map_cons, List.map_nil, List.replicate, List.nil_append, List.cons_append, List.append_nil, Option.some.injEq, exists_eq_left', exists_eq_left, exists_eq', exists_eq, true_and, and_true, Vl.d.injEq, Vl.nw.injEq, Vl.sl.injEq, Dt.int.injEq, Dt.bl.injEq, Dt.str.injEq, Dt.lst.injEq, Dt.tup.injEq, Dt.byt.injEq, Dt.ty.injEq, Dt.ref.injEq, En.val.injEq, En.mu.injEq, En.bor.injEq, List.cons.injEq, Nat.reduceLT, Nat.reduceAdd, Nat.reduceSub, Nat.zero_add, and_self, ↓reduceIte, Bool.false_eq_true, reduceCtorEq, false_and, and_false, exists_const, exists_false, or_false, false_or, Nat.reduceEqDiff, Option.map_some, Option.getD_some, Option.getD_none, and_assoc, exists_and_left, exists_and_right, rCall_f, rCall_g, f_pre, f_post, g_pre, g_post, g_exc, Prod.forall, Prod.exists, Prod.mk.injEq, exists_const, forall_const, argsD, conP, entD, remP, flagsP, flagAt, putP, aft, Ct.dt.injEq, forall_eq, forall_eq', forall_const, implies_true, false_implies, and_imp, forall_exists_index, forall_apply_eq_imp_iff, List.length_append, retD, rFor_L, asgLc, rLc_L, riList, riTup, riStr, riRange1, riRange2, riEnum, riRev, rgName, rgTup, rgCons, rgNil, wipeE, unw, rYes, rAsgG, rAsgSub, roSetL, rBM, rBM0, roAppend, roOwn0, isa_no, isa_bl, isa_in, isa_st, isa_by, isa_ls, isa_tu, isa_di, beq_self_eq_true, Bool.or_true, Bool.true_or, Bool.or_false, Bool.false_or, Bool.or_self, Bool.not_true, Bool.not_false, Bool.and_true, Bool.true_and, Bool.and_false, Bool.false_and, String.reduceBEq, String.reduceEq, not_true_eq_false, not_false_eq_true, rSlL', roNone, roSome, roCat, D.trk, rRaise0, rRaise1, excD, rTry, rEx, wMixD, goneD, List.isEmpty_nil, if_true, List.length_singleton, Nat.reduceLeDiff, Nat.reducePow, Int.reducePow, Int.reduceLT, Int.reduceLE, Int.reduceNeg, Int.reduceToNat, ms_clean, S_clean, clD]
  subst e1
  refine sg fun U1 e1 => ?_
  simp (maxSteps := 3000000) only [roSplit, roStr1, rSlSt, rSlBy, rRevL, TruD, rOrT, rAndT, rMake_g, roCatT, roRep, rMeth, rFld, rSetF, rXfn, rXf, lk_eq, putD, Dt.ins.injEq, Dt.exn.injEq, RleS, RMulS, roJoin, rRet, rRetN, rSeq, rIfS, rAsg, rVar, ofEn, rC, rOp, rUn, roP, rCB, rCons, rNil, rAndV, rOrV, rNotV, rB, rAnd, rOr, rNot, rIf, rTup, rLst, rDrop, rNext, rNever, look, frz, frzs, looks, held, roIsi, roF1, roL1, roNeg, rDNew, startE, ents, ent, csOf, unal, finds, RI0, RI, int_in, int_bl, len_ls, len_tu, len_st, len_by, at0, at1, at2, at3, ix30, ix31, ix32, eq_ii, ne_ii, eq_by, ne_by, notin_c, in_c, D.rChain, RIxA, roTupOf, RListOf, RListB, List.findSome?, List.getElem?_cons_zero, List.getElem?_cons_succ, List.getElem?_nil, List.set_cons_zero, List.set_cons_succ, List.length_cons, List.length_nil, List.map_cons, List.map_nil, List.replicate, List.nil_append, List.cons_append, List.append_nil, Option.some.injEq, exists_eq_left', exists_eq_left, exists_eq', exists_eq, true_and, and_true, Vl.d.injEq, Vl.nw.injEq, Vl.sl.injEq, Dt.int.injEq, Dt.bl.injEq, Dt.str.injEq, Dt.lst.injEq, Dt.tup.injEq, Dt.byt.injEq, Dt.ty.injEq, Dt.ref.injEq, En.val.injEq, En.mu.injEq, En.bor.injEq, List.cons.injEq, Nat.reduceLT, Nat.reduceAdd, Nat.reduceSub, Nat.zero_add, and_self, ↓reduceIte, Bool.false_eq_true, reduceCtorEq, false_and, and_false, exists_const, exists_false, or_false, false_or, Nat.reduceEqDiff, Option.map_some, Option.getD_some, Option.getD_none, and_assoc, exists_and_left, exists_and_right, rCall_f, rCall_g, f_pre, f_post, g_pre, g_post, g_exc, Prod.forall, Prod.exists, Prod.mk.injEq, exists_const, forall_const, argsD, conP, entD, remP, flagsP, flagAt, putP, aft, Ct.dt.injEq, forall_eq, forall_eq', forall_const, implies_true, false_implies, and_imp, forall_exists_index, forall_apply_eq_imp_iff, List.length_append, retD, rFor_L, asgLc, rLc_L, riList, riTup, riStr, riRange1, riRange2, riEnum, riRev, rgName, rgTup, rgCons, rgNil, wipeE, unw, rYes, rAsgG, rAsgSub, roSetL, rBM, rBM0, roAppend, roOwn0, isa_no, isa_bl, isa_in, isa_st, isa_by, isa_ls, isa_tu, isa_di, beq_self_eq_true, Bool.or_true, Bool.true_or, Bool.or_false, Bool.false_or, Bool.or_self, Bool.not_true, Bool.not_false, Bool.and_true, Bool.true_and, Bool.and_false, Bool.false_and, String.reduceBEq, String.reduceEq, not_true_eq_false, not_false_eq_true, rSlL', roNone, roSome, roCat, D.trk, rRaise0, rRaise1, excD, rTry, rEx, wMixD, goneD, List.isEmpty_nil, if_true, List.length_singleton, Nat.reduceLeDiff, Nat.reducePow, Int.reducePow, Int.reduceLT, Int.reduceLE, Int.reduceNeg, Int.reduceToNat, ms_clean, S_clean, clD]
  subst e1
  refine sg fun U1 e1 => ?_
  simp (maxSteps := 3000000) only [roSplit, roStr1, rSlSt, rSlBy, rRevL, TruD, rOrT, rAndT, rMake_g, roCatT, roRep, rMeth, rFld, rSetF, rXfn, rXf, lk_eq, putD, Dt.ins.injEq, Dt.exn.injEq, RleS, RMulS, roJoin, rRet, rRetN, rSeq, rIfS, rAsg, rVar, ofEn, rC, rOp, rUn, roP, rCB, rCons, rNil, rAndV, rOrV, rNotV, rB, rAnd, rOr, rNot, rIf, rTup, rLst, rDrop, rNext, rNever, look, frz, frzs, looks, held, roIsi, roF1, roL1, roNeg, rDNew, startE, ents, ent, csOf, unal, finds, RI0, RI, int_in, int_bl, len_ls, len_tu, len_st, len_by, at0, at1, at2, at3, ix30, ix31, ix32, eq_ii, ne_ii, eq_by, ne_by, notin_c, in_c, D.rChain, RIxA, roTupOf, RListOf, RListB, List.findSome?, List.getElem?_cons_zero, List.getElem?_cons_succ, List.getElem?_nil, List.set_cons_zero, List.set_cons_succ, List.length_cons, List.length_nil, List.map_cons, List.map_nil, List.replicate, List.nil_append, List.cons_append, List.append_nil, Option.some.injEq, exists_eq_left', exists_eq_left, exists_eq', exists_eq, true_and, and_true, Vl.d.injEq, Vl.nw.injEq, Vl.sl.injEq, Dt.int.injEq, Dt.bl.injEq, Dt.str.injEq, Dt.lst.injEq, Dt.tup.injEq, Dt.byt.injEq, Dt.ty.injEq, Dt.ref.injEq, En.val.injEq, En.mu.injEq, En.bor.injEq, List.cons.injEq, Nat.reduceLT, Nat.reduceAdd, Nat.reduceSub, Nat.zero_add, and_self, ↓reduceIte, Bool.false_eq_true, reduceCtorEq, false_and, and_false, exists_const, exists_false, or_false, false_or, Nat.reduceEqDiff, Option.map_some, Option.getD_some, Option.getD_none, and_assoc, exists_and_left, exists_and_right, rCall_f, rCall_g, f_pre, f_post, g_pre, g_post, g_exc, Prod.forall, Prod.exists, Prod.mk.injEq, exists_const, forall_const, argsD, conP, entD, remP, flagsP, flagAt, putP, aft, Ct.dt.injEq, forall_eq, forall_eq', forall_const, implies_true, false_implies, and_imp, forall_exists_index, forall_apply_eq_imp_iff, List.length_append, retD, rFor_L, asgLc, rLc_L, riList, riTup, riStr, riRange1, riRange2, riEnum, riRev, rgName, rgTup, rgCons, rgNil, wipeE, unw, rYes, rAsgG, rAsgSub, roSetL, rBM, rBM0, roAppend, roOwn0, isa_no, isa_bl, isa_in, isa_st, isa_by, isa_ls, isa_tu, isa_di, beq_self_eq_true, Bool.or_true, Bool.true_or, Bool.or_false, Bool.false_or, Bool.or_self, Bool.not_true, Bool.not_false, Bool.and_true, Bool.true_and, Bool.and_false, Bool.false_and, String.reduceBEq, String.reduceEq, not_true_eq_false, not_false_eq_true, rSlL', roNone, roSome, roCat, D.trk, rRaise0, rRaise1, excD, rTry, rEx, wMixD, goneD, List.isEmpty_nil, if_true, List.length_singleton, Nat.reduceLeDiff, Nat.reducePow, Int.reducePow, Int.reduceLT, Int.reduceLE, Int.reduceNeg, Int.reduceToNat, ms_clean, S_clean, clD]
  refine ⟨by decide, by omega, ?_⟩
  have hps := pcs_sum s
  have hcs := cleanL_sum rs none (pcs s)
  refine lp_of (fun i η' => ∃ acc ah c4, cleanL rs none (pcs s) = acc ++ cleanL rs ah ((pcs s).drop i) ∧ acc.length = i ∧ η' = [some (.bor (.ins c_Cleaner [(Str.ofString "rows", .lst rs)])), some (.val (.str s)), some (.mu none (.dt (.lst (acc.map .str)))), some (.val (ahD ah)), c4]) ⟨[], none, _, rfl, rfl, rfl⟩ ?_ ?_
  · rintro i x η' hx ⟨acc, ah, c4, he, hl, rfl⟩
    obtain ⟨w, hw, rfl⟩ := map_get hx
    have hw : (pcs s)[i]? = some w := hw
    have hi : i < (pcs s).length := (List.getElem?_eq_some_iff.mp hw).1
    have hd : (pcs s).drop i = w :: (pcs s).drop (i + 1) := drop_at hw
    have hwl : w.length ≤ 1000 := by
      have := sum_mem_le (List.mem_of_getElem? hw)
      omega
    rw [hd, cleanL] at he
    simp (maxSteps := 3000000) only [roSplit, roStr1, rSlSt, rSlBy, rRevL, TruD, rOrT, rAndT, rMake_g, roCatT, roRep, rMeth, rFld, rSetF, rXfn, rXf, lk_eq, putD, Dt.ins.injEq, Dt.exn.injEq, RleS, RMulS, roJoin, rRet, rRetN, rIfS, rAsg, rVar, ofEn, rC, rOp, rUn, roP, rCB, rCons, rNil, rAndV, rOrV, rNotV, rB, rAnd, rOr, rNot, rIf, rTup, rLst, rDrop, rNext, rNever, look, frz, frzs, looks, held, roIsi, roF1, roL1, roNeg, rDNew, startE, ents, ent, csOf, unal, finds, RI0, RI, int_in, int_bl, len_ls, len_tu, len_st, len_by, at0, at1, at2, at3, ix30, ix31, ix32, eq_ii, ne_ii, eq_by, ne_by, notin_c, in_c, D.rChain, RIxA, roTupOf, RListOf, RListB, List.findSome?, List.getElem?_cons_zero, List.getElem?_cons_succ, List.getElem?_nil, List.set_cons_zero, List.set_cons_succ, List.length_cons, List.length_nil, List.map_cons, List.map_nil, List.replicate, List.nil_append, List.cons_append, List.append_nil, Option.some.injEq, exists_eq_left', exists_eq_left, exists_eq', exists_eq, true_and, and_true, Vl.d.injEq, Vl.nw.injEq, Vl.sl.injEq, Dt.int.injEq, Dt.bl.injEq, Dt.str.injEq, Dt.lst.injEq, Dt.tup.injEq, Dt.byt.injEq, Dt.ty.injEq, Dt.ref.injEq, En.val.injEq, En.mu.injEq, En.bor.injEq, List.cons.injEq, Nat.reduceLT, Nat.reduceAdd, Nat.reduceSub, Nat.zero_add, and_self, ↓reduceIte, Bool.false_eq_true, reduceCtorEq, false_and, and_false, exists_const, exists_false, or_false, false_or, Nat.reduceEqDiff, Option.map_some, Option.getD_some, Option.getD_none, and_assoc, exists_and_left, exists_and_right, rCall_f, rCall_g, f_pre, f_post, g_pre, g_post, g_exc, Prod.forall, Prod.exists, Prod.mk.injEq, exists_const, forall_const, argsD, conP, entD, remP, flagsP, flagAt, putP, aft, Ct.dt.injEq, forall_eq, forall_eq', forall_const, implies_true, false_implies, and_imp, forall_exists_index, forall_apply_eq_imp_iff, List.length_append, retD, rFor_L, asgLc, rLc_L, riList, riTup, riStr, riRange1, riRange2, riEnum, riRev, rgName, rgTup, rgCons, rgNil, wipeE, unw, rYes, rAsgG, rAsgSub, roSetL, rBM, rBM0, roAppend, roOwn0, isa_no, isa_bl, isa_in, isa_st, isa_by, isa_ls, isa_tu, isa_di, beq_self_eq_true, Bool.or_true, Bool.true_or, Bool.or_false, Bool.false_or, Bool.or_self, Bool.not_true, Bool.not_false, Bool.and_true, Bool.true_and, Bool.and_false, Bool.false_and, String.reduceBEq, String.reduceEq, not_true_eq_false, not_false_eq_true, rSlL', roNone, roSome, roCat, D.trk, rRaise0, rRaise1, excD, rTry, rEx, wMixD, goneD, List.isEmpty_nil, if_true, List.length_singleton, Nat.reduceLeDiff, Nat.reducePow, Int.reducePow, Int.reduceLT, Int.reduceLE, Int.reduceNeg, Int.reduceToNat]
    refine sg fun U2 e2 => ?_
    have hgo : U2 [some (.bor (.ins c_Cleaner [(Str.ofString "rows", .lst rs)])), some (.val (.str s)), some (.mu none (.dt (.lst (acc.map .str ++ [.str (cleanW rs ah w)])))), some (.val (ahD ah)), some (.val (.str w))] := by
      subst e2
      simp (maxSteps := 3000000) only [roSplit, roStr1, rSlSt, rSlBy, rRevL, TruD, rOrT, rAndT, rMake_g, roCatT, roRep, rMeth, rFld, rSetF, rXfn, rXf, lk_eq, putD, Dt.ins.injEq, Dt.exn.injEq, RleS, RMulS, roJoin, rRet, rRetN, rSeq, rIfS, rAsg, rVar, ofEn, rC, rOp, rUn, roP, rCB, rCons, rNil, rAndV, rOrV, rNotV, rB, rAnd, rOr, rNot, rIf, rTup, rLst, rDrop, rNext, rNever, look, frz, frzs, looks, held, roIsi, roF1, roL1, roNeg, rDNew, startE, ents, ent, csOf, unal, finds, RI0, RI, int_in, int_bl, len_ls, len_tu, len_st, len_by, at0, at1, at2, at3, ix30, ix31, ix32, eq_ii, ne_ii, eq_by, ne_by, notin_c, in_c, D.rChain, RIxA, roTupOf, RListOf, RListB, List.findSome?, List.getElem?_cons_zero, List.getElem?_cons_succ, List.getElem?_nil, List.set_cons_zero, List.set_cons_succ, List.length_cons, List.length_nil, List.map_cons, List.map_nil, List.replicate, List.nil_append, List.cons_append, List.append_nil, Option.some.injEq, exists_eq_left', exists_eq_left, exists_eq', exists_eq, true_and, and_true, Vl.d.injEq, Vl.nw.injEq, Vl.sl.injEq, Dt.int.injEq, Dt.bl.injEq, Dt.str.injEq, Dt.lst.injEq, Dt.tup.injEq, Dt.byt.injEq, Dt.ty.injEq, Dt.ref.injEq, En.val.injEq, En.mu.injEq, En.bor.injEq, List.cons.injEq, Nat.reduceLT, Nat.reduceAdd, Nat.reduceSub, Nat.zero_add, and_self, ↓reduceIte, Bool.false_eq_true, reduceCtorEq, false_and, and_false, exists_const, exists_false, or_false, false_or, Nat.reduceEqDiff, Option.map_some, Option.getD_some, Option.getD_none, and_assoc, exists_and_left, exists_and_right, rCall_f, rCall_g, f_pre, f_post, g_pre, g_post, g_exc, Prod.forall, Prod.exists, Prod.mk.injEq, exists_const, forall_const, argsD, conP, entD, remP, flagsP, flagAt, putP, aft, Ct.dt.injEq, forall_eq, forall_eq', forall_const, implies_true, false_implies, and_imp, forall_exists_index, forall_apply_eq_imp_iff, List.length_append, retD, rFor_L, asgLc, rLc_L, riList, riTup, riStr, riRange1, riRange2, riEnum, riRev, rgName, rgTup, rgCons, rgNil, wipeE, unw, rYes, rAsgG, rAsgSub, roSetL, rBM, rBM0, roAppend, roOwn0, isa_no, isa_bl, isa_in, isa_st, isa_by, isa_ls, isa_tu, isa_di, beq_self_eq_true, Bool.or_true, Bool.true_or, Bool.or_false, Bool.false_or, Bool.or_self, Bool.not_true, Bool.not_false, Bool.and_true, Bool.true_and, Bool.and_false, Bool.false_and, String.reduceBEq, String.reduceEq, not_true_eq_false, not_false_eq_true, rSlL', roNone, roSome, roCat, D.trk, rRaise0, rRaise1, excD, rTry, rEx, wMixD, goneD, List.isEmpty_nil, if_true, List.length_singleton, Nat.reduceLeDiff, Nat.reducePow, Int.reducePow, Int.reduceLT, Int.reduceLE, Int.reduceNeg, Int.reduceToNat]
      refine ⟨by omega, ?_⟩
      by_cases h0 : w.length = 0
      · rw [if_neg (by rw [decide_eq_false (fun z => z h0)]; decide)]
        exact ⟨acc ++ [cleanW rs ah w], ah, by rw [he, nextA, if_pos h0]; simp, by simp [hl], by simp, rfl⟩
      · rw [if_pos (decide_eq_true h0)]
        exact ⟨acc ++ [cleanW rs ah w], some w, by rw [he, nextA, if_neg h0]; simp, by simp [hl], by simp, rfl⟩
    simp (maxSteps := 3000000) only [roSplit, roStr1, rSlSt, rSlBy, rRevL, TruD, rOrT, rAndT, rMake_g, roCatT, roRep, rMeth, rFld, rSetF, rXfn, rXf, lk_eq, putD, Dt.ins.injEq, Dt.exn.injEq, RleS, RMulS, roJoin, rRet, rRetN, rSeq, rIfS, rAsg, rVar, ofEn, rC, rOp, rUn, roP, rCB, rCons, rNil, rAndV, rOrV, rNotV, rB, rAnd, rOr, rNot, rIf, rTup, rLst, rDrop, rNext, rNever, look, frz, frzs, looks, held, roIsi, roF1, roL1, roNeg, rDNew, startE, ents, ent, csOf, unal, finds, RI0, RI, int_in, int_bl, len_ls, len_tu, len_st, len_by, at0, at1, at2, at3, ix30, ix31, ix32, eq_ii, ne_ii, eq_by, ne_by, notin_c, in_c, D.rChain, RIxA, roTupOf, RListOf, RListB, List.findSome?, List.getElem?_cons_zero, List.getElem?_cons_succ, List.getElem?_nil, List.set_cons_zero, List.set_cons_succ, List.length_cons, List.length_nil, List.map_cons, List.map_nil, List.replicate, List.nil_append, List.cons_append, List.append_nil, Option.some.injEq, exists_eq_left', exists_eq_left, exists_eq', exists_eq, true_and, and_true, Vl.d.injEq, Vl.nw.injEq, Vl.sl.injEq, Dt.int.injEq, Dt.bl.injEq, Dt.str.injEq, Dt.lst.injEq, Dt.tup.injEq, Dt.byt.injEq, Dt.ty.injEq, Dt.ref.injEq, En.val.injEq, En.mu.injEq, En.bor.injEq, List.cons.injEq, Nat.reduceLT, Nat.reduceAdd, Nat.reduceSub, Nat.zero_add, and_self, ↓reduceIte, Bool.false_eq_true, reduceCtorEq, false_and, and_false, exists_const, exists_false, or_false, false_or, Nat.reduceEqDiff, Option.map_some, Option.getD_some, Option.getD_none, and_assoc, exists_and_left, exists_and_right, rCall_f, rCall_g, f_pre, f_post, g_pre, g_post, g_exc, Prod.forall, Prod.exists, Prod.mk.injEq, exists_const, forall_const, argsD, conP, entD, remP, flagsP, flagAt, putP, aft, Ct.dt.injEq, forall_eq, forall_eq', forall_const, implies_true, false_implies, and_imp, forall_exists_index, forall_apply_eq_imp_iff, List.length_append, retD, rFor_L, asgLc, rLc_L, riList, riTup, riStr, riRange1, riRange2, riEnum, riRev, rgName, rgTup, rgCons, rgNil, wipeE, unw, rYes, rAsgG, rAsgSub, roSetL, rBM, rBM0, roAppend, roOwn0, isa_no, isa_bl, isa_in, isa_st, isa_by, isa_ls, isa_tu, isa_di, beq_self_eq_true, Bool.or_true, Bool.true_or, Bool.or_false, Bool.false_or, Bool.or_self, Bool.not_true, Bool.not_false, Bool.and_true, Bool.true_and, Bool.and_false, Bool.false_and, String.reduceBEq, String.reduceEq, not_true_eq_false, not_false_eq_true, rSlL', roNone, roSome, roCat, D.trk, rRaise0, rRaise1, excD, rTry, rEx, wMixD, goneD, List.isEmpty_nil, if_true, List.length_singleton, Nat.reduceLeDiff, Nat.reducePow, Int.reducePow, Int.reduceLT, Int.reduceLE, Int.reduceNeg, Int.reduceToNat, eq_str, ms_is_taken, S_taken, clD, ms_without_figures, S_wofig]
    have hlen : (acc.map Dt.str).length < 100000 := by rw [List.length_map]; omega
    rw [emp_eq]
    unfold cleanW at hgo
    by_cases h0 : w.length = 0
    · rw [if_pos h0] at hgo
      rw [if_pos (decide_eq_true h0)]
      exact ⟨hlen, hgo⟩
    · rw [if_neg h0] at hgo
      rw [if_neg (by rw [decide_eq_false h0]; decide)]
      refine ⟨⟨ah, rfl⟩, hrs, ?_⟩
      cases ht : takenB rs (ahD ah) w with
      | true =>
        rw [ht, if_pos rfl] at hgo
        exact ⟨hlen, hgo⟩
      | false =>
        rw [ht, if_neg (by decide)] at hgo
        exact ⟨hwl, hlen, hgo⟩
  · rintro η' ⟨acc, ah, c4, he, hl, rfl⟩
    rw [List.length_map, show (Txt.split s (Str.ofString " ")) = pcs s from rfl, List.drop_length, cleanL, List.append_nil] at he
    rw [he] at hcs
    show U1 _
    subst e1
    simp (maxSteps := 3000000) only [roSplit, roStr1, rSlSt, rSlBy, rRevL, TruD, rOrT, rAndT, rMake_g, roCatT, roRep, rMeth, rFld, rSetF, rXfn, rXf, lk_eq, putD, Dt.ins.injEq, Dt.exn.injEq, RleS, RMulS, roJoin, rRet, rRetN, rSeq, rIfS, rAsg, rVar, ofEn, rC, rOp, rUn, roP, rCB, rCons, rNil, rAndV, rOrV, rNotV, rB, rAnd, rOr, rNot, rIf, rTup, rLst, rDrop, rNext, rNever, look, frz, frzs, looks, held, roIsi, roF1, roL1, roNeg, rDNew, startE, ents, ent, csOf, unal, finds, RI0, RI, int_in, int_bl, len_ls, len_tu, len_st, len_by, at0, at1, at2, at3, ix30, ix31, ix32, eq_ii, ne_ii, eq_by, ne_by, notin_c, in_c, D.rChain, RIxA, roTupOf, RListOf, RListB, List.findSome?, List.getElem?_cons_zero, List.getElem?_cons_succ, List.getElem?_nil, List.set_cons_zero, List.set_cons_succ, List.length_cons, List.length_nil, List.map_cons, List.map_nil, List.replicate, List.nil_append, List.cons_append, List.append_nil, Option.some.injEq, exists_eq_left', exists_eq_left, exists_eq', exists_eq, true_and, and_true, Vl.d.injEq, Vl.nw.injEq, Vl.sl.injEq, Dt.int.injEq, Dt.bl.injEq, Dt.str.injEq, Dt.lst.injEq, Dt.tup.injEq, Dt.byt.injEq, Dt.ty.injEq, Dt.ref.injEq, En.val.injEq, En.mu.injEq, En.bor.injEq, List.cons.injEq, Nat.reduceLT, Nat.reduceAdd, Nat.reduceSub, Nat.zero_add, and_self, ↓reduceIte, Bool.false_eq_true, reduceCtorEq, false_and, and_false, exists_const, exists_false, or_false, false_or, Nat.reduceEqDiff, Option.map_some, Option.getD_some, Option.getD_none, and_assoc, exists_and_left, exists_and_right, rCall_f, rCall_g, f_pre, f_post, g_pre, g_post, g_exc, Prod.forall, Prod.exists, Prod.mk.injEq, exists_const, forall_const, argsD, conP, entD, remP, flagsP, flagAt, putP, aft, Ct.dt.injEq, forall_eq, forall_eq', forall_const, implies_true, false_implies, and_imp, forall_exists_index, forall_apply_eq_imp_iff, List.length_append, retD, rFor_L, asgLc, rLc_L, riList, riTup, riStr, riRange1, riRange2, riEnum, riRev, rgName, rgTup, rgCons, rgNil, wipeE, unw, rYes, rAsgG, rAsgSub, roSetL, rBM, rBM0, roAppend, roOwn0, isa_no, isa_bl, isa_in, isa_st, isa_by, isa_ls, isa_tu, isa_di, beq_self_eq_true, Bool.or_true, Bool.true_or, Bool.or_false, Bool.false_or, Bool.or_self, Bool.not_true, Bool.not_false, Bool.and_true, Bool.true_and, Bool.and_false, Bool.false_and, String.reduceBEq, String.reduceEq, not_true_eq_false, not_false_eq_true, rSlL', roNone, roSome, roCat, D.trk, rRaise0, rRaise1, excD, rTry, rEx, wMixD, goneD, List.isEmpty_nil, if_true, List.length_singleton, Nat.reduceLeDiff, Nat.reducePow, Int.reducePow, Int.reduceLT, Int.reduceLE, Int.reduceNeg, Int.reduceToNat, ms_clean, S_clean, clD]
    refine ⟨acc, rfl, ?_, ?_⟩
    · rw [List.length_map] at hl
      have : (Str.ofString " ").length = 1 := rfl
      have hl : acc.length = (pcs s).length := hl
      rw [this]
      omega
    · rw [cleanS, he]
/-! #### _law_source -/
abbrev s_law_source : Stmt := top 15
abbrev N_law_source : List Str := ["_law_cell"]
abbrev P_law_source : List Str := ["_law_cell"]
abbrev ms_law_source : List Md := [.v]
theorem sc_law_source : FnScope N_law_source P_law_source (defScope s_law_source) := ⟨rfl, rfl, rfl, by decide +kernel, rfl, by decide +kernel, by decide +kernel⟩
theorem ok_law_source {P : Program} {w : World} {K : PySem.W.Frag} {mg : Str → Option Value} {base : Heap} {f : Addr} {fd : FuncData} {c_FellError c_NoCleaner c_Cleaner : Addr} (G : Gs K mg c_FellError c_NoCleaner c_Cleaner) (X_NoCleaner : ExO P w K mg base "NoCleaner" c_NoCleaner "at") (K_Cleaner : ClF K mg "Cleaner" c_Cleaner) (nA_Cleaner_rows : NoAttr K c_Cleaner "rows") (F : Fun K "_law_source" "_law_source" s_law_source f fd) (mf : mg "_law_source" = some (.ref f)) :
    Hs P w K mg base CX0 1 "_law_source" P_law_source (toSp K ms_law_source (S_well)) := by
  refine ⟨f, fd, ?_, mf, F.kp, F.binds (ps := P_law_source) fun _ _ _ _ _ _ us hl => match us, hl with | [_], _ => rfl⟩
  refine F.ok sc_law_source (fun vs H Q E h => toSp_len h) (fun cdv A outer s H vs Q E hr h => ?_)
  have hu := hr.units
  refine ⟨_, pss_one (ps_ret (pe_lst (pa_cons (pe_op op_mul (pv 0) (pe_callTy call_int1 rfl G.b_int (by decide +kernel) (pa_cons (pe_cmpR (op_ge) (pv 0) (pe_op op_pow (pe_int) (pe_int)) (nomark _)) (pa_nil)))) (pa_cons (pe_op op_mod (pe_callTy call_int1 rfl G.b_int (by decide +kernel) (pa_cons (pv 0) (pa_nil))) (pe_int)) (pa_cons (pe_int) (pa_nil)))))), ?_⟩
  refine run_body0 h (by decide) (fun as => ds_ret (de_lst (da_cons (de_op (d2_P p2_ci) (de_var 0) (de_cb (dc_F1 f1_int) (da_cons (de_op (d2_P p2_ib) (de_var 0) (de_op (d2_P p2_ci) (de_int) (de_int))) (da_nil)))) (da_cons (de_op (d2_P p2_ci) (de_cb (dc_F1 f1_int) (da_cons (de_var 0) (da_nil))) (de_int)) (da_cons (de_int) (da_nil)))))) (fun as hp hl => ?_)
  obtain ⟨i, rfl⟩ := hp
  simp (maxSteps := 3000000) only [roSplit, roStr1, rSlSt, rSlBy, rRevL, TruD, rOrT, rAndT, rMake_g, roCatT, roRep, rMeth, rFld, rSetF, rXfn, rXf, lk_eq, putD, Dt.ins.injEq, Dt.exn.injEq, RleS, RMulS, roJoin, rRet, rRetN, rSeq, rIfS, rAsg, rVar, ofEn, rC, rOp, rUn, roP, rCB, rCons, rNil, rAndV, rOrV, rNotV, rB, rAnd, rOr, rNot, rIf, rTup, rLst, rDrop, rNext, rNever, look, frz, frzs, looks, held, roIsi, roF1, roL1, roNeg, rDNew, startE, ents, ent, csOf, unal, finds, RI0, RI, int_in, int_bl, len_ls, len_tu, len_st, len_by, at0, at1, at2, at3, ix30, ix31, ix32, eq_ii, ne_ii, eq_by, ne_by, notin_c, in_c, D.rChain, RIxA, roTupOf, RListOf, RListB, List.findSome?, List.getElem?_cons_zero, List.getElem?_cons_succ, List.getElem?_nil, List.set_cons_zero, List.set_cons_succ, List.length_cons, List.length_nil, List.map_cons, List.map_nil, List.replicate, List.nil_append, List.cons_append, List.append_nil, Option.some.injEq, exists_eq_left', exists_eq_left, exists_eq', exists_eq, true_and, and_true, Vl.d.injEq, Vl.nw.injEq, Vl.sl.injEq, Dt.int.injEq, Dt.bl.injEq, Dt.str.injEq, Dt.lst.injEq, Dt.tup.injEq, Dt.byt.injEq, Dt.ty.injEq, Dt.ref.injEq, En.val.injEq, En.mu.injEq, En.bor.injEq, List.cons.injEq, Nat.reduceLT, Nat.reduceAdd, Nat.reduceSub, Nat.zero_add, and_self, ↓reduceIte, Bool.false_eq_true, reduceCtorEq, false_and, and_false, exists_const, exists_false, or_false, false_or, Nat.reduceEqDiff, Option.map_some, Option.getD_some, Option.getD_none, and_assoc, exists_and_left, exists_and_right, rCall_f, rCall_g, f_pre, f_post, g_pre, g_post, g_exc, Prod.forall, Prod.exists, Prod.mk.injEq, exists_const, forall_const, argsD, conP, entD, remP, flagsP, flagAt, putP, aft, Ct.dt.injEq, forall_eq, forall_eq', forall_const, implies_true, false_implies, and_imp, forall_exists_index, forall_apply_eq_imp_iff, List.length_append, retD, rFor_L, asgLc, rLc_L, riList, riTup, riStr, riRange1, riRange2, riEnum, riRev, rgName, rgTup, rgCons, rgNil, wipeE, unw, rYes, rAsgG, rAsgSub, roSetL, rBM, rBM0, roAppend, roOwn0, isa_no, isa_bl, isa_in, isa_st, isa_by, isa_ls, isa_tu, isa_di, beq_self_eq_true, Bool.or_true, Bool.true_or, Bool.or_false, Bool.false_or, Bool.or_self, Bool.not_true, Bool.not_false, Bool.and_true, Bool.true_and, Bool.and_false, Bool.false_and, String.reduceBEq, String.reduceEq, not_true_eq_false, not_false_eq_true, rSlL', roNone, roSome, roCat, D.trk, rRaise0, rRaise1, excD, rTry, rEx, wMixD, goneD, List.isEmpty_nil, if_true, List.length_singleton, Nat.reduceLeDiff, Nat.reducePow, Int.reducePow, Int.reduceLT, Int.reduceLE, Int.reduceNeg, Int.reduceToNat, ms_law_source, S_well]
  refine ⟨⟨by decide, by decide, by decide⟩, ?_, _, ⟨_, _, _, rfl, ?_, ?_, ?_⟩, rfl, rfl⟩
  · right
    split <;> decide
  all_goals omega
/-! #### _law_next -/
abbrev s_law_next : Stmt := top 16
abbrev N_law_next : List Str := ["_law_source_here", "_law_size", "_law_found", "_law_prime", "_law_mixed"]
abbrev P_law_next : List Str := ["_law_source_here", "_law_size"]
abbrev ms_law_next : List Md := [.p, .v]
theorem sc_law_next : FnScope N_law_next P_law_next (defScope s_law_next) := ⟨rfl, rfl, rfl, by decide +kernel, rfl, by decide +kernel, by decide +kernel⟩
theorem ok_law_next {P : Program} {w : World} {K : PySem.W.Frag} {mg : Str → Option Value} {base : Heap} {f : Addr} {fd : FuncData} {c_FellError c_NoCleaner c_Cleaner : Addr} (G : Gs K mg c_FellError c_NoCleaner c_Cleaner) (X_NoCleaner : ExO P w K mg base "NoCleaner" c_NoCleaner "at") (K_Cleaner : ClF K mg "Cleaner" c_Cleaner) (nA_Cleaner_rows : NoAttr K c_Cleaner "rows") (F : Fun K "_law_next" "_law_next" s_law_next f fd) (mf : mg "_law_next" = some (.ref f)) :
    Hs P w K mg base CX0 1 "_law_next" P_law_next (toSp K ms_law_next (S_draw)) := by
  refine ⟨f, fd, ?_, mf, F.kp, F.binds (ps := P_law_next) fun _ _ _ _ _ _ us hl => match us, hl with | [_, _], _ => rfl⟩
  refine F.ok sc_law_next (fun vs H Q E h => toSp_len h) (fun cdv A outer s H vs Q E hr h => ?_)
  have hu := hr.units
  refine ⟨_, pss_cons (ps_if (pt_cmpR (op_gt) (pe_ix ix_seq (pv 0) (pe_int) (fun _ _ => rfl)) (pe_int) (nomark _)) (pss_cons (ps_set (i := 2) sc_law_next.nd rfl (by first | exact Or.inl rfl | exact Or.inr rfl) (pe_op op_mod (pe_callTy call_int1 rfl G.b_int (by decide +kernel) (pa_cons (pe_ix ix_seq (pv 0) (pe_int) (fun _ _ => rfl)) (pa_nil))) (pv 1))) (pss_cons (ps_asg (pe_op op_fdiv (pe_ix ix_seq (pv 0) (pe_int) (fun _ _ => rfl)) (pv 1)) (pg_sub (pv 0) (pe_int) set_list)) (pss_one (ps_ret (pv 2))))) (pss_nil)) (pss_cons (ps_asg (pe_op op_add (pe_ix ix_seq (pv 0) (pe_int) (fun _ _ => rfl)) (pe_int)) (pg_sub (pv 0) (pe_int) set_list)) (pss_cons (ps_set (i := 3) sc_law_next.nd rfl (by first | exact Or.inl rfl | exact Or.inr rfl) (pe_ix ix_seq (pe_lst (pa_cons (pe_int) (pa_cons (pe_int) (pa_cons (pe_int) (pa_cons (pe_int) (pa_cons (pe_int) (pa_nil))))))) (pe_op op_mod (pe_callTy call_int1 rfl G.b_int (by decide +kernel) (pa_cons (pe_ix ix_seq (pv 0) (pe_int) (fun _ _ => rfl)) (pa_nil))) (pe_int)) (fun _ _ => rfl))) (pss_cons (ps_set (i := 4) sc_law_next.nd rfl (by first | exact Or.inl rfl | exact Or.inr rfl) (pe_op op_mod (pe_callTy call_int1 rfl G.b_int (by decide +kernel) (pa_cons (pe_op op_pow (pe_op op_add (pe_op op_add (pe_ix ix_seq (pv 0) (pe_int) (fun _ _ => rfl)) (pe_op op_mul (pe_int) (pe_ix ix_seq (pv 0) (pe_int) (fun _ _ => rfl)))) (pe_int)) (pe_int)) (pa_nil))) (pv 3))) (pss_cons (ps_set (i := 4) sc_law_next.nd rfl (by first | exact Or.inl rfl | exact Or.inr rfl) (pe_op op_mod (pe_callTy call_int1 rfl G.b_int (by decide +kernel) (pa_cons (pe_op op_mul (pe_op op_add (pv 4) (pe_ix ix_seq (pv 0) (pe_int) (fun _ _ => rfl))) (pe_op op_add (pe_op op_fdiv (pv 4) (pe_int)) (pe_int))) (pa_nil))) (pv 3))) (pss_one (ps_ret (pe_op op_mod (pe_callTy call_int1 rfl G.b_int (by decide +kernel) (pa_cons (pe_op op_fdiv (pv 4) (pe_int)) (pa_nil))) (pv 1)))))))), ?_⟩
  refine run_body0 h (by decide) (fun as => ds_seq (ds_if (dt_test (de_op (d2_P p2_ib) (de_op (d2_P p2_ix) (de_var 0) (de_int)) (de_int))) (ds_seq (ds_asg (de_op (d2_P p2_ci) (de_cb (dc_F1 f1_int) (da_cons (de_op (d2_P p2_ix) (de_var 0) (de_int)) (da_nil))) (de_var 1)) 2) (ds_seq (ds_asgSub (de_op (d2_P p2_ci) (de_op (d2_P p2_ix) (de_var 0) (de_int)) (de_var 1)) (de_var 0) (de_int) dset_list) (ds_ret (de_var 2)))) (ds_next)) (ds_seq (ds_asgSub (de_op (d2_P p2_ii) (de_op (d2_P p2_ix) (de_var 0) (de_int)) (de_int)) (de_var 0) (de_int) dset_list) (ds_seq (ds_asg (de_op (d2_P p2_ix) (de_lst (da_cons (de_int) (da_cons (de_int) (da_cons (de_int) (da_cons (de_int) (da_cons (de_int) (da_nil))))))) (de_op (d2_P p2_ci) (de_cb (dc_F1 f1_int) (da_cons (de_op (d2_P p2_ix) (de_var 0) (de_int)) (da_nil))) (de_int))) 3) (ds_seq (ds_asg (de_op (d2_P p2_ci) (de_cb (dc_F1 f1_int) (da_cons (de_op (d2_P p2_ci) (de_op (d2_P p2_ii) (de_op (d2_P p2_ii) (de_op (d2_P p2_ix) (de_var 0) (de_int)) (de_op (d2_P p2_ci) (de_int) (de_op (d2_P p2_ix) (de_var 0) (de_int)))) (de_int)) (de_int)) (da_nil))) (de_var 3)) 4) (ds_seq (ds_asg (de_op (d2_P p2_ci) (de_cb (dc_F1 f1_int) (da_cons (de_op (d2_P p2_ci) (de_op (d2_P p2_ii) (de_var 4) (de_op (d2_P p2_ix) (de_var 0) (de_int))) (de_op (d2_P p2_ii) (de_op (d2_P p2_ci) (de_var 4) (de_int)) (de_int))) (da_nil))) (de_var 3)) 4) (ds_ret (de_op (d2_P p2_ci) (de_cb (dc_F1 f1_int) (da_cons (de_op (d2_P p2_ci) (de_var 4) (de_int)) (da_nil))) (de_var 1)))))))) (fun as hp hl => ?_)
  obtain ⟨w, n, rfl, ⟨a, b, c, rfl, hb, hb', hc⟩, hm, hn, hn'⟩ := hp
  simp (maxSteps := 3000000) only [roSplit, roStr1, rSlSt, rSlBy, rRevL, TruD, rOrT, rAndT, rMake_g, roCatT, roRep, rMeth, rFld, rSetF, rXfn, rXf, lk_eq, putD, Dt.ins.injEq, Dt.exn.injEq, RleS, RMulS, roJoin, rRet, rRetN, rIfS, rAsg, rVar, ofEn, rC, rOp, rUn, roP, rCB, rCons, rNil, rAndV, rOrV, rNotV, rB, rAnd, rOr, rNot, rIf, rTup, rLst, rDrop, rNext, rNever, look, frz, frzs, looks, held, roIsi, roF1, roL1, roNeg, rDNew, startE, ents, ent, csOf, unal, finds, RI0, RI, int_in, int_bl, len_ls, len_tu, len_st, len_by, at0, at1, at2, at3, ix30, ix31, ix32, eq_ii, ne_ii, eq_by, ne_by, notin_c, in_c, D.rChain, RIxA, roTupOf, RListOf, RListB, List.findSome?, List.getElem?_cons_zero, List.getElem?_cons_succ, List.getElem?_nil, List.set_cons_zero, List.set_cons_succ, List.length_cons, List.length_nil, List.map_cons, List.map_nil, List.replicate, List.nil_append, List.cons_append, List.append_nil, Option.some.injEq, exists_eq_left', exists_eq_left, exists_eq', exists_eq, true_and, and_true, Vl.d.injEq, Vl.nw.injEq, Vl.sl.injEq, Dt.int.injEq, Dt.bl.injEq, Dt.str.injEq, Dt.lst.injEq, Dt.tup.injEq, Dt.byt.injEq, Dt.ty.injEq, Dt.ref.injEq, En.val.injEq, En.mu.injEq, En.bor.injEq, List.cons.injEq, Nat.reduceLT, Nat.reduceAdd, Nat.reduceSub, Nat.zero_add, and_self, ↓reduceIte, Bool.false_eq_true, reduceCtorEq, false_and, and_false, exists_const, exists_false, or_false, false_or, Nat.reduceEqDiff, Option.map_some, Option.getD_some, Option.getD_none, and_assoc, exists_and_left, exists_and_right, rCall_f, rCall_g, f_pre, f_post, g_pre, g_post, g_exc, Prod.forall, Prod.exists, Prod.mk.injEq, exists_const, forall_const, argsD, conP, entD, remP, flagsP, flagAt, putP, aft, Ct.dt.injEq, forall_eq, forall_eq', forall_const, implies_true, false_implies, and_imp, forall_exists_index, forall_apply_eq_imp_iff, List.length_append, retD, rFor_L, asgLc, rLc_L, riList, riTup, riStr, riRange1, riRange2, riEnum, riRev, rgName, rgTup, rgCons, rgNil, wipeE, unw, rYes, rAsgG, rAsgSub, roSetL, rBM, rBM0, roAppend, roOwn0, isa_no, isa_bl, isa_in, isa_st, isa_by, isa_ls, isa_tu, isa_di, beq_self_eq_true, Bool.or_true, Bool.true_or, Bool.or_false, Bool.false_or, Bool.or_self, Bool.not_true, Bool.not_false, Bool.and_true, Bool.true_and, Bool.and_false, Bool.false_and, String.reduceBEq, String.reduceEq, not_true_eq_false, not_false_eq_true, rSlL', roNone, roSome, roCat, D.trk, rRaise0, rRaise1, excD, rTry, rEx, wMixD, goneD, List.isEmpty_nil, if_true, List.length_singleton, Nat.reduceLeDiff, Nat.reducePow, Int.reducePow, Int.reduceLT, Int.reduceLE, Int.reduceNeg, Int.reduceToNat, ms_law_next]
  refine sg fun U1 e1 => ?_
  simp (maxSteps := 3000000) only [roSplit, roStr1, rSlSt, rSlBy, rRevL, TruD, rOrT, rAndT, rMake_g, roCatT, roRep, rMeth, rFld, rSetF, rXfn, rXf, lk_eq, putD, Dt.ins.injEq, Dt.exn.injEq, RleS, RMulS, roJoin, rRet, rRetN, rSeq, rIfS, rAsg, rVar, ofEn, rC, rOp, rUn, roP, rCB, rCons, rNil, rAndV, rOrV, rNotV, rB, rAnd, rOr, rNot, rIf, rTup, rLst, rDrop, rNext, rNever, look, frz, frzs, looks, held, roIsi, roF1, roL1, roNeg, rDNew, startE, ents, ent, csOf, unal, finds, RI0, RI, int_in, int_bl, len_ls, len_tu, len_st, len_by, at0, at1, at2, at3, ix30, ix31, ix32, eq_ii, ne_ii, eq_by, ne_by, notin_c, in_c, D.rChain, RIxA, roTupOf, RListOf, RListB, List.findSome?, List.getElem?_cons_zero, List.getElem?_cons_succ, List.getElem?_nil, List.set_cons_zero, List.set_cons_succ, List.length_cons, List.length_nil, List.map_cons, List.map_nil, List.replicate, List.nil_append, List.cons_append, List.append_nil, Option.some.injEq, exists_eq_left', exists_eq_left, exists_eq', exists_eq, true_and, and_true, Vl.d.injEq, Vl.nw.injEq, Vl.sl.injEq, Dt.int.injEq, Dt.bl.injEq, Dt.str.injEq, Dt.lst.injEq, Dt.tup.injEq, Dt.byt.injEq, Dt.ty.injEq, Dt.ref.injEq, En.val.injEq, En.mu.injEq, En.bor.injEq, List.cons.injEq, Nat.reduceLT, Nat.reduceAdd, Nat.reduceSub, Nat.zero_add, and_self, ↓reduceIte, Bool.false_eq_true, reduceCtorEq, false_and, and_false, exists_const, exists_false, or_false, false_or, Nat.reduceEqDiff, Option.map_some, Option.getD_some, Option.getD_none, and_assoc, exists_and_left, exists_and_right, rCall_f, rCall_g, f_pre, f_post, g_pre, g_post, g_exc, Prod.forall, Prod.exists, Prod.mk.injEq, exists_const, forall_const, argsD, conP, entD, remP, flagsP, flagAt, putP, aft, Ct.dt.injEq, forall_eq, forall_eq', forall_const, implies_true, false_implies, and_imp, forall_exists_index, forall_apply_eq_imp_iff, List.length_append, retD, rFor_L, asgLc, rLc_L, riList, riTup, riStr, riRange1, riRange2, riEnum, riRev, rgName, rgTup, rgCons, rgNil, wipeE, unw, rYes, rAsgG, rAsgSub, roSetL, rBM, rBM0, roAppend, roOwn0, isa_no, isa_bl, isa_in, isa_st, isa_by, isa_ls, isa_tu, isa_di, beq_self_eq_true, Bool.or_true, Bool.true_or, Bool.or_false, Bool.false_or, Bool.or_self, Bool.not_true, Bool.not_false, Bool.and_true, Bool.true_and, Bool.and_false, Bool.false_and, String.reduceBEq, String.reduceEq, not_true_eq_false, not_false_eq_true, rSlL', roNone, roSome, roCat, D.trk, rRaise0, rRaise1, excD, rTry, rEx, wMixD, goneD, List.isEmpty_nil, if_true, List.length_singleton, Nat.reduceLeDiff, Nat.reducePow, Int.reducePow, Int.reduceLT, Int.reduceLE, Int.reduceNeg, Int.reduceToNat, ms_law_next, S_draw]
  by_cases h0 : 0 < a
  · simp only [h0, decide_true, if_true]
    refine ⟨hn, ⟨hn, by omega⟩, _, _, ⟨_, _, _, rfl, hb, hb', hc⟩, ?_, Int.emod_nonneg _ (by omega), Int.emod_lt_of_pos _ hn, rfl, rfl⟩
    show c ≤ c + 1
    omega
  · simp only [h0, decide_false, if_false, Bool.false_eq_true]
    subst e1
    refine sg fun U2 e2 => ?_
    simp (maxSteps := 3000000) only [roSplit, roStr1, rSlSt, rSlBy, rRevL, TruD, rOrT, rAndT, rMake_g, roCatT, roRep, rMeth, rFld, rSetF, rXfn, rXf, lk_eq, putD, Dt.ins.injEq, Dt.exn.injEq, RleS, RMulS, roJoin, rRet, rRetN, rSeq, rIfS, rAsg, rVar, ofEn, rC, rOp, rUn, roP, rCB, rCons, rNil, rAndV, rOrV, rNotV, rB, rAnd, rOr, rNot, rIf, rTup, rLst, rDrop, rNext, rNever, look, frz, frzs, looks, held, roIsi, roF1, roL1, roNeg, rDNew, startE, ents, ent, csOf, unal, finds, RI0, RI, int_in, int_bl, len_ls, len_tu, len_st, len_by, at0, at1, at2, at3, ix30, ix31, ix32, eq_ii, ne_ii, eq_by, ne_by, notin_c, in_c, D.rChain, RIxA, roTupOf, RListOf, RListB, List.findSome?, List.getElem?_cons_zero, List.getElem?_cons_succ, List.getElem?_nil, List.set_cons_zero, List.set_cons_succ, List.length_cons, List.length_nil, List.map_cons, List.map_nil, List.replicate, List.nil_append, List.cons_append, List.append_nil, Option.some.injEq, exists_eq_left', exists_eq_left, exists_eq', exists_eq, true_and, and_true, Vl.d.injEq, Vl.nw.injEq, Vl.sl.injEq, Dt.int.injEq, Dt.bl.injEq, Dt.str.injEq, Dt.lst.injEq, Dt.tup.injEq, Dt.byt.injEq, Dt.ty.injEq, Dt.ref.injEq, En.val.injEq, En.mu.injEq, En.bor.injEq, List.cons.injEq, Nat.reduceLT, Nat.reduceAdd, Nat.reduceSub, Nat.zero_add, and_self, ↓reduceIte, Bool.false_eq_true, reduceCtorEq, false_and, and_false, exists_const, exists_false, or_false, false_or, Nat.reduceEqDiff, Option.map_some, Option.getD_some, Option.getD_none, and_assoc, exists_and_left, exists_and_right, rCall_f, rCall_g, f_pre, f_post, g_pre, g_post, g_exc, Prod.forall, Prod.exists, Prod.mk.injEq, exists_const, forall_const, argsD, conP, entD, remP, flagsP, flagAt, putP, aft, Ct.dt.injEq, forall_eq, forall_eq', forall_const, implies_true, false_implies, and_imp, forall_exists_index, forall_apply_eq_imp_iff, List.length_append, retD, rFor_L, asgLc, rLc_L, riList, riTup, riStr, riRange1, riRange2, riEnum, riRev, rgName, rgTup, rgCons, rgNil, wipeE, unw, rYes, rAsgG, rAsgSub, roSetL, rBM, rBM0, roAppend, roOwn0, isa_no, isa_bl, isa_in, isa_st, isa_by, isa_ls, isa_tu, isa_di, beq_self_eq_true, Bool.or_true, Bool.true_or, Bool.or_false, Bool.false_or, Bool.or_self, Bool.not_true, Bool.not_false, Bool.and_true, Bool.true_and, Bool.and_false, Bool.false_and, String.reduceBEq, String.reduceEq, not_true_eq_false, not_false_eq_true, rSlL', roNone, roSome, roCat, D.trk, rRaise0, rRaise1, excD, rTry, rEx, wMixD, goneD, List.isEmpty_nil, if_true, List.length_singleton, Nat.reduceLeDiff, Nat.reducePow, Int.reducePow, Int.reduceLT, Int.reduceLE, Int.reduceNeg, Int.reduceToNat, S_draw, ms_law_next]
    subst e2
    refine sg fun U3 e3 => ?_
    simp (maxSteps := 3000000) only [roSplit, roStr1, rSlSt, rSlBy, rRevL, TruD, rOrT, rAndT, rMake_g, roCatT, roRep, rMeth, rFld, rSetF, rXfn, rXf, lk_eq, putD, Dt.ins.injEq, Dt.exn.injEq, RleS, RMulS, roJoin, rRet, rRetN, rSeq, rIfS, rAsg, rVar, ofEn, rC, rOp, rUn, roP, rCB, rCons, rNil, rAndV, rOrV, rNotV, rB, rAnd, rOr, rNot, rIf, rTup, rLst, rDrop, rNext, rNever, look, frz, frzs, looks, held, roIsi, roF1, roL1, roNeg, rDNew, startE, ents, ent, csOf, unal, finds, RI0, RI, int_in, int_bl, len_ls, len_tu, len_st, len_by, at0, at1, at2, at3, ix30, ix31, ix32, eq_ii, ne_ii, eq_by, ne_by, notin_c, in_c, D.rChain, RIxA, roTupOf, RListOf, RListB, List.findSome?, List.getElem?_cons_zero, List.getElem?_cons_succ, List.getElem?_nil, List.set_cons_zero, List.set_cons_succ, List.length_cons, List.length_nil, List.map_cons, List.map_nil, List.replicate, List.nil_append, List.cons_append, List.append_nil, Option.some.injEq, exists_eq_left', exists_eq_left, exists_eq', exists_eq, true_and, and_true, Vl.d.injEq, Vl.nw.injEq, Vl.sl.injEq, Dt.int.injEq, Dt.bl.injEq, Dt.str.injEq, Dt.lst.injEq, Dt.tup.injEq, Dt.byt.injEq, Dt.ty.injEq, Dt.ref.injEq, En.val.injEq, En.mu.injEq, En.bor.injEq, List.cons.injEq, Nat.reduceLT, Nat.reduceAdd, Nat.reduceSub, Nat.zero_add, and_self, ↓reduceIte, Bool.false_eq_true, reduceCtorEq, false_and, and_false, exists_const, exists_false, or_false, false_or, Nat.reduceEqDiff, Option.map_some, Option.getD_some, Option.getD_none, and_assoc, exists_and_left, exists_and_right, rCall_f, rCall_g, f_pre, f_post, g_pre, g_post, g_exc, Prod.forall, Prod.exists, Prod.mk.injEq, exists_const, forall_const, argsD, conP, entD, remP, flagsP, flagAt, putP, aft, Ct.dt.injEq, forall_eq, forall_eq', forall_const, implies_true, false_implies, and_imp, forall_exists_index, forall_apply_eq_imp_iff, List.length_append, retD, rFor_L, asgLc, rLc_L, riList, riTup, riStr, riRange1, riRange2, riEnum, riRev, rgName, rgTup, rgCons, rgNil, wipeE, unw, rYes, rAsgG, rAsgSub, roSetL, rBM, rBM0, roAppend, roOwn0, isa_no, isa_bl, isa_in, isa_st, isa_by, isa_ls, isa_tu, isa_di, beq_self_eq_true, Bool.or_true, Bool.true_or, Bool.or_false, Bool.false_or, Bool.or_self, Bool.not_true, Bool.not_false, Bool.and_true, Bool.true_and, Bool.and_false, Bool.false_and, String.reduceBEq, String.reduceEq, not_true_eq_false, not_false_eq_true, rSlL', roNone, roSome, roCat, D.trk, rRaise0, rRaise1, excD, rTry, rEx, wMixD, goneD, List.isEmpty_nil, if_true, List.length_singleton, Nat.reduceLeDiff, Nat.reducePow, Int.reducePow, Int.reduceLT, Int.reduceLE, Int.reduceNeg, Int.reduceToNat, S_draw, ms_law_next]
    obtain ⟨p, hp1, hp2, hp3⟩ := primes (Int.emod_nonneg (c + 1) (by decide)) (Int.emod_lt_of_pos _ (by decide))
    refine ⟨_, hp1, ?_⟩
    subst e3
    have hcc : c + 1 ≤ 1000000000 := by
      have : c < 1000000000 := hm
      omega
    refine sg fun U4 e4 => ?_
    simp (maxSteps := 3000000) only [roSplit, roStr1, rSlSt, rSlBy, rRevL, TruD, rOrT, rAndT, rMake_g, roCatT, roRep, rMeth, rFld, rSetF, rXfn, rXf, lk_eq, putD, Dt.ins.injEq, Dt.exn.injEq, RleS, RMulS, roJoin, rRet, rRetN, rSeq, rIfS, rAsg, rVar, ofEn, rC, rOp, rUn, roP, rCB, rCons, rNil, rAndV, rOrV, rNotV, rB, rAnd, rOr, rNot, rIf, rTup, rLst, rDrop, rNext, rNever, look, frz, frzs, looks, held, roIsi, roF1, roL1, roNeg, rDNew, startE, ents, ent, csOf, unal, finds, RI0, RI, int_in, int_bl, len_ls, len_tu, len_st, len_by, at0, at1, at2, at3, ix30, ix31, ix32, eq_ii, ne_ii, eq_by, ne_by, notin_c, in_c, D.rChain, RIxA, roTupOf, RListOf, RListB, List.findSome?, List.getElem?_cons_zero, List.getElem?_cons_succ, List.getElem?_nil, List.set_cons_zero, List.set_cons_succ, List.length_cons, List.length_nil, List.map_cons, List.map_nil, List.replicate, List.nil_append, List.cons_append, List.append_nil, Option.some.injEq, exists_eq_left', exists_eq_left, exists_eq', exists_eq, true_and, and_true, Vl.d.injEq, Vl.nw.injEq, Vl.sl.injEq, Dt.int.injEq, Dt.bl.injEq, Dt.str.injEq, Dt.lst.injEq, Dt.tup.injEq, Dt.byt.injEq, Dt.ty.injEq, Dt.ref.injEq, En.val.injEq, En.mu.injEq, En.bor.injEq, List.cons.injEq, Nat.reduceLT, Nat.reduceAdd, Nat.reduceSub, Nat.zero_add, and_self, ↓reduceIte, Bool.false_eq_true, reduceCtorEq, false_and, and_false, exists_const, exists_false, or_false, false_or, Nat.reduceEqDiff, Option.map_some, Option.getD_some, Option.getD_none, and_assoc, exists_and_left, exists_and_right, rCall_f, rCall_g, f_pre, f_post, g_pre, g_post, g_exc, Prod.forall, Prod.exists, Prod.mk.injEq, exists_const, forall_const, argsD, conP, entD, remP, flagsP, flagAt, putP, aft, Ct.dt.injEq, forall_eq, forall_eq', forall_const, implies_true, false_implies, and_imp, forall_exists_index, forall_apply_eq_imp_iff, List.length_append, retD, rFor_L, asgLc, rLc_L, riList, riTup, riStr, riRange1, riRange2, riEnum, riRev, rgName, rgTup, rgCons, rgNil, wipeE, unw, rYes, rAsgG, rAsgSub, roSetL, rBM, rBM0, roAppend, roOwn0, isa_no, isa_bl, isa_in, isa_st, isa_by, isa_ls, isa_tu, isa_di, beq_self_eq_true, Bool.or_true, Bool.true_or, Bool.or_false, Bool.false_or, Bool.or_self, Bool.not_true, Bool.not_false, Bool.and_true, Bool.true_and, Bool.and_false, Bool.false_and, String.reduceBEq, String.reduceEq, not_true_eq_false, not_false_eq_true, rSlL', roNone, roSome, roCat, D.trk, rRaise0, rRaise1, excD, rTry, rEx, wMixD, goneD, List.isEmpty_nil, if_true, List.length_singleton, Nat.reduceLeDiff, Nat.reducePow, Int.reducePow, Int.reduceLT, Int.reduceLE, Int.reduceNeg, Int.reduceToNat, S_draw, ms_law_next]
    refine ⟨.inl ⟨by decide, by decide⟩, ⟨by decide, by decide, by omega⟩, by omega, ?_⟩
    have hq0 : 0 ≤ (b + 7433 * (c + 1) + 11) ^ 5 % p := Int.emod_nonneg _ (by omega)
    have hq1 : (b + 7433 * (c + 1) + 11) ^ 5 % p < p := Int.emod_lt_of_pos _ (by omega)
    generalize (b + 7433 * (c + 1) + 11) ^ 5 % p = q at hq0 hq1
    subst e4
    refine sg fun U5 e5 => ?_
    simp (maxSteps := 3000000) only [roSplit, roStr1, rSlSt, rSlBy, rRevL, TruD, rOrT, rAndT, rMake_g, roCatT, roRep, rMeth, rFld, rSetF, rXfn, rXf, lk_eq, putD, Dt.ins.injEq, Dt.exn.injEq, RleS, RMulS, roJoin, rRet, rRetN, rSeq, rIfS, rAsg, rVar, ofEn, rC, rOp, rUn, roP, rCB, rCons, rNil, rAndV, rOrV, rNotV, rB, rAnd, rOr, rNot, rIf, rTup, rLst, rDrop, rNext, rNever, look, frz, frzs, looks, held, roIsi, roF1, roL1, roNeg, rDNew, startE, ents, ent, csOf, unal, finds, RI0, RI, int_in, int_bl, len_ls, len_tu, len_st, len_by, at0, at1, at2, at3, ix30, ix31, ix32, eq_ii, ne_ii, eq_by, ne_by, notin_c, in_c, D.rChain, RIxA, roTupOf, RListOf, RListB, List.findSome?, List.getElem?_cons_zero, List.getElem?_cons_succ, List.getElem?_nil, List.set_cons_zero, List.set_cons_succ, List.length_cons, List.length_nil, List.map_cons, List.map_nil, List.replicate, List.nil_append, List.cons_append, List.append_nil, Option.some.injEq, exists_eq_left', exists_eq_left, exists_eq', exists_eq, true_and, and_true, Vl.d.injEq, Vl.nw.injEq, Vl.sl.injEq, Dt.int.injEq, Dt.bl.injEq, Dt.str.injEq, Dt.lst.injEq, Dt.tup.injEq, Dt.byt.injEq, Dt.ty.injEq, Dt.ref.injEq, En.val.injEq, En.mu.injEq, En.bor.injEq, List.cons.injEq, Nat.reduceLT, Nat.reduceAdd, Nat.reduceSub, Nat.zero_add, and_self, ↓reduceIte, Bool.false_eq_true, reduceCtorEq, false_and, and_false, exists_const, exists_false, or_false, false_or, Nat.reduceEqDiff, Option.map_some, Option.getD_some, Option.getD_none, and_assoc, exists_and_left, exists_and_right, rCall_f, rCall_g, f_pre, f_post, g_pre, g_post, g_exc, Prod.forall, Prod.exists, Prod.mk.injEq, exists_const, forall_const, argsD, conP, entD, remP, flagsP, flagAt, putP, aft, Ct.dt.injEq, forall_eq, forall_eq', forall_const, implies_true, false_implies, and_imp, forall_exists_index, forall_apply_eq_imp_iff, List.length_append, retD, rFor_L, asgLc, rLc_L, riList, riTup, riStr, riRange1, riRange2, riEnum, riRev, rgName, rgTup, rgCons, rgNil, wipeE, unw, rYes, rAsgG, rAsgSub, roSetL, rBM, rBM0, roAppend, roOwn0, isa_no, isa_bl, isa_in, isa_st, isa_by, isa_ls, isa_tu, isa_di, beq_self_eq_true, Bool.or_true, Bool.true_or, Bool.or_false, Bool.false_or, Bool.or_self, Bool.not_true, Bool.not_false, Bool.and_true, Bool.true_and, Bool.and_false, Bool.false_and, String.reduceBEq, String.reduceEq, not_true_eq_false, not_false_eq_true, rSlL', roNone, roSome, roCat, D.trk, rRaise0, rRaise1, excD, rTry, rEx, wMixD, goneD, List.isEmpty_nil, if_true, List.length_singleton, Nat.reduceLeDiff, Nat.reducePow, Int.reducePow, Int.reduceLT, Int.reduceLE, Int.reduceNeg, Int.reduceToNat, S_draw, ms_law_next]
    refine ⟨⟨by decide, by decide⟩, .inl ⟨by omega, by omega⟩, by omega, ?_⟩
    have hr0 : 0 ≤ (q + (c + 1)) * (q / 1021 + 69623) % p := Int.emod_nonneg _ (by omega)
    generalize (q + (c + 1)) * (q / 1021 + 69623) % p = r at hr0
    subst e5
    simp (maxSteps := 3000000) only [roSplit, roStr1, rSlSt, rSlBy, rRevL, TruD, rOrT, rAndT, rMake_g, roCatT, roRep, rMeth, rFld, rSetF, rXfn, rXf, lk_eq, putD, Dt.ins.injEq, Dt.exn.injEq, RleS, RMulS, roJoin, rRet, rRetN, rSeq, rIfS, rAsg, rVar, ofEn, rC, rOp, rUn, roP, rCB, rCons, rNil, rAndV, rOrV, rNotV, rB, rAnd, rOr, rNot, rIf, rTup, rLst, rDrop, rNext, rNever, look, frz, frzs, looks, held, roIsi, roF1, roL1, roNeg, rDNew, startE, ents, ent, csOf, unal, finds, RI0, RI, int_in, int_bl, len_ls, len_tu, len_st, len_by, at0, at1, at2, at3, ix30, ix31, ix32, eq_ii, ne_ii, eq_by, ne_by, notin_c, in_c, D.rChain, RIxA, roTupOf, RListOf, RListB, List.findSome?, List.getElem?_cons_zero, List.getElem?_cons_succ, List.getElem?_nil, List.set_cons_zero, List.set_cons_succ, List.length_cons, List.length_nil, List.map_cons, List.map_nil, List.replicate, List.nil_append, List.cons_append, List.append_nil, Option.some.injEq, exists_eq_left', exists_eq_left, exists_eq', exists_eq, true_and, and_true, Vl.d.injEq, Vl.nw.injEq, Vl.sl.injEq, Dt.int.injEq, Dt.bl.injEq, Dt.str.injEq, Dt.lst.injEq, Dt.tup.injEq, Dt.byt.injEq, Dt.ty.injEq, Dt.ref.injEq, En.val.injEq, En.mu.injEq, En.bor.injEq, List.cons.injEq, Nat.reduceLT, Nat.reduceAdd, Nat.reduceSub, Nat.zero_add, and_self, ↓reduceIte, Bool.false_eq_true, reduceCtorEq, false_and, and_false, exists_const, exists_false, or_false, false_or, Nat.reduceEqDiff, Option.map_some, Option.getD_some, Option.getD_none, and_assoc, exists_and_left, exists_and_right, rCall_f, rCall_g, f_pre, f_post, g_pre, g_post, g_exc, Prod.forall, Prod.exists, Prod.mk.injEq, exists_const, forall_const, argsD, conP, entD, remP, flagsP, flagAt, putP, aft, Ct.dt.injEq, forall_eq, forall_eq', forall_const, implies_true, false_implies, and_imp, forall_exists_index, forall_apply_eq_imp_iff, List.length_append, retD, rFor_L, asgLc, rLc_L, riList, riTup, riStr, riRange1, riRange2, riEnum, riRev, rgName, rgTup, rgCons, rgNil, wipeE, unw, rYes, rAsgG, rAsgSub, roSetL, rBM, rBM0, roAppend, roOwn0, isa_no, isa_bl, isa_in, isa_st, isa_by, isa_ls, isa_tu, isa_di, beq_self_eq_true, Bool.or_true, Bool.true_or, Bool.or_false, Bool.false_or, Bool.or_self, Bool.not_true, Bool.not_false, Bool.and_true, Bool.true_and, Bool.and_false, Bool.false_and, String.reduceBEq, String.reduceEq, not_true_eq_false, not_false_eq_true, rSlL', roNone, roSome, roCat, D.trk, rRaise0, rRaise1, excD, rTry, rEx, wMixD, goneD, List.isEmpty_nil, if_true, List.length_singleton, Nat.reduceLeDiff, Nat.reducePow, Int.reducePow, Int.reduceLT, Int.reduceLE, Int.reduceNeg, Int.reduceToNat, S_draw, ms_law_next]
    refine ⟨⟨by decide, by decide⟩, hn, _, _, ⟨_, _, _, rfl, hb, hb', by omega⟩, ?_, Int.emod_nonneg _ (by omega), Int.emod_lt_of_pos _ hn, rfl, rfl⟩
    exact Int.le_refl _
/-! #### _law_pick -/
abbrev s_law_pick : Stmt := top 17
abbrev N_law_pick : List Str := ["_law_source_here", "_law_some"]
abbrev P_law_pick : List Str := ["_law_source_here", "_law_some"]
abbrev ms_law_pick : List Md := [.p, .b]
theorem sc_law_pick : FnScope N_law_pick P_law_pick (defScope s_law_pick) := ⟨rfl, rfl, rfl, by decide +kernel, rfl, by decide +kernel, by decide +kernel⟩
theorem ok_law_pick {P : Program} {w : World} {K : PySem.W.Frag} {mg : Str → Option Value} {base : Heap} {f : Addr} {fd : FuncData} {c_FellError c_NoCleaner c_Cleaner : Addr} (G : Gs K mg c_FellError c_NoCleaner c_Cleaner) (h0 : Hs P w K mg base CX0 1 "_law_next" P_law_next (toSp K ms_law_next (S_draw))) (X_NoCleaner : ExO P w K mg base "NoCleaner" c_NoCleaner "at") (K_Cleaner : ClF K mg "Cleaner" c_Cleaner) (nA_Cleaner_rows : NoAttr K c_Cleaner "rows") (F : Fun K "_law_pick" "_law_pick" s_law_pick f fd) (mf : mg "_law_pick" = some (.ref f)) :
    Hs P w K mg base CX0 2 "_law_pick" P_law_pick (toSp K ms_law_pick (S_one)) := by
  obtain ⟨f0, fd0, F0, m0, k0, b0⟩ := h0
  refine ⟨f, fd, ?_, mf, F.kp, F.binds (ps := P_law_pick) fun _ _ _ _ _ _ us hl => match us, hl with | [_, _], _ => rfl⟩
  refine F.ok sc_law_pick (fun vs H Q E h => toSp_len h) (fun cdv A outer s H vs Q E hr h => ?_)
  have hu := hr.units
  refine ⟨_, pss_one (ps_ret (pe_ix ix_seq (pv 1) (pe_callS (E := (fun _ => E0)) F0 (hr.mono (by decide)) rfl m0 k0 b0 (fun _ => fun _ _ _ _ _ _ h => h.elim) (pa_cons (pv 0) (pa_cons (pe_callB call_len rfl G.b_len (by decide +kernel) (pa_cons (pv 1) (pa_nil))) (pa_nil)))) (fun _ _ => rfl))), ?_⟩
  refine run_body0 h (by decide) (fun as => ds_ret (de_op (d2_P p2_ix) (de_var 1) (de_callS (X := W0) (ms := ms_law_next) (S := S_draw) (fun _ _ _ _ h => h.elim) (da_cons (de_var 0) (da_cons (de_cb (dc_F1 f1_len) (da_cons (de_var 1) (da_nil))) (da_nil)))))) (fun as hp hl => ?_)
  obtain ⟨w, d, rfl, hw, hm, hn, hn'⟩ := hp
  have hcase : (∃ ds, d = .lst ds) ∨ ∃ s, d = .str s := by
    cases d <;> first | exact .inl ⟨_, rfl⟩ | exact .inr ⟨_, rfl⟩ | exact absurd rfl hn
  rcases hcase with ⟨ds, rfl⟩ | ⟨s, rfl⟩
  · simp (maxSteps := 3000000) only [roSplit, roStr1, rSlSt, rSlBy, rRevL, TruD, rOrT, rAndT, rMake_g, roCatT, roRep, rMeth, rFld, rSetF, rXfn, rXf, lk_eq, putD, Dt.ins.injEq, Dt.exn.injEq, RleS, RMulS, roJoin, rRet, rRetN, rSeq, rIfS, rAsg, rVar, ofEn, rC, rOp, rUn, roP, rCB, rCons, rNil, rAndV, rOrV, rNotV, rB, rAnd, rOr, rNot, rIf, rTup, rLst, rDrop, rNext, rNever, look, frz, frzs, looks, held, roIsi, roF1, roL1, roNeg, rDNew, startE, ents, ent, csOf, unal, finds, RI0, RI, int_in, int_bl, len_ls, len_tu, len_st, len_by, at0, at1, at2, at3, ix30, ix31, ix32, eq_ii, ne_ii, eq_by, ne_by, notin_c, in_c, D.rChain, RIxA, roTupOf, RListOf, RListB, List.findSome?, List.getElem?_cons_zero, List.getElem?_cons_succ, List.getElem?_nil, List.set_cons_zero, List.set_cons_succ, List.length_cons, List.length_nil, List.map_cons, List.map_nil, List.replicate, List.nil_append, List.cons_append, List.append_nil, Option.some.injEq, exists_eq_left', exists_eq_left, exists_eq', exists_eq, true_and, and_true, Vl.d.injEq, Vl.nw.injEq, Vl.sl.injEq, Dt.int.injEq, Dt.bl.injEq, Dt.str.injEq, Dt.lst.injEq, Dt.tup.injEq, Dt.byt.injEq, Dt.ty.injEq, Dt.ref.injEq, En.val.injEq, En.mu.injEq, En.bor.injEq, List.cons.injEq, Nat.reduceLT, Nat.reduceAdd, Nat.reduceSub, Nat.zero_add, and_self, ↓reduceIte, Bool.false_eq_true, reduceCtorEq, false_and, and_false, exists_const, exists_false, or_false, false_or, Nat.reduceEqDiff, Option.map_some, Option.getD_some, Option.getD_none, and_assoc, exists_and_left, exists_and_right, rCall_f, rCall_g, f_pre, f_post, g_pre, g_post, g_exc, Prod.forall, Prod.exists, Prod.mk.injEq, exists_const, forall_const, argsD, conP, entD, remP, flagsP, flagAt, putP, aft, Ct.dt.injEq, forall_eq, forall_eq', forall_const, implies_true, false_implies, and_imp, forall_exists_index, forall_apply_eq_imp_iff, List.length_append, retD, rFor_L, asgLc, rLc_L, riList, riTup, riStr, riRange1, riRange2, riEnum, riRev, rgName, rgTup, rgCons, rgNil, wipeE, unw, rYes, rAsgG, rAsgSub, roSetL, rBM, rBM0, roAppend, roOwn0, isa_no, isa_bl, isa_in, isa_st, isa_by, isa_ls, isa_tu, isa_di, beq_self_eq_true, Bool.or_true, Bool.true_or, Bool.or_false, Bool.false_or, Bool.or_self, Bool.not_true, Bool.not_false, Bool.and_true, Bool.true_and, Bool.and_false, Bool.false_and, String.reduceBEq, String.reduceEq, not_true_eq_false, not_false_eq_true, rSlL', roNone, roSome, roCat, D.trk, rRaise0, rRaise1, excD, rTry, rEx, wMixD, goneD, List.isEmpty_nil, if_true, List.length_singleton, Nat.reduceLeDiff, Nat.reducePow, Int.reducePow, Int.reduceLT, Int.reduceLE, Int.reduceNeg, Int.reduceToNat, ms_law_pick, ms_law_next, S_draw, S_one, items]
    have h0 : 0 < ds.length := List.length_pos_iff.mpr hn
    have hn' : ds.length < 100000 := hn'
    refine ⟨hw, hm, by omega, by omega, fun a b hw' hc' h1 h2 => ?_⟩
    obtain ⟨x, e, hx⟩ := at_mem h1 h2
    exact ⟨x, e, x, b, hw', hc', hx, rfl, rfl⟩
  · simp (maxSteps := 3000000) only [roSplit, roStr1, rSlSt, rSlBy, rRevL, TruD, rOrT, rAndT, rMake_g, roCatT, roRep, rMeth, rFld, rSetF, rXfn, rXf, lk_eq, putD, Dt.ins.injEq, Dt.exn.injEq, RleS, RMulS, roJoin, rRet, rRetN, rSeq, rIfS, rAsg, rVar, ofEn, rC, rOp, rUn, roP, rCB, rCons, rNil, rAndV, rOrV, rNotV, rB, rAnd, rOr, rNot, rIf, rTup, rLst, rDrop, rNext, rNever, look, frz, frzs, looks, held, roIsi, roF1, roL1, roNeg, rDNew, startE, ents, ent, csOf, unal, finds, RI0, RI, int_in, int_bl, len_ls, len_tu, len_st, len_by, at0, at1, at2, at3, ix30, ix31, ix32, eq_ii, ne_ii, eq_by, ne_by, notin_c, in_c, D.rChain, RIxA, roTupOf, RListOf, RListB, List.findSome?, List.getElem?_cons_zero, List.getElem?_cons_succ, List.getElem?_nil, List.set_cons_zero, List.set_cons_succ, List.length_cons, List.length_nil, List.map_cons, List.map_nil, List.replicate, List.nil_append, List.cons_append, List.append_nil, Option.some.injEq, exists_eq_left', exists_eq_left, exists_eq', exists_eq, true_and, and_true, Vl.d.injEq, Vl.nw.injEq, Vl.sl.injEq, Dt.int.injEq, Dt.bl.injEq, Dt.str.injEq, Dt.lst.injEq, Dt.tup.injEq, Dt.byt.injEq, Dt.ty.injEq, Dt.ref.injEq, En.val.injEq, En.mu.injEq, En.bor.injEq, List.cons.injEq, Nat.reduceLT, Nat.reduceAdd, Nat.reduceSub, Nat.zero_add, and_self, ↓reduceIte, Bool.false_eq_true, reduceCtorEq, false_and, and_false, exists_const, exists_false, or_false, false_or, Nat.reduceEqDiff, Option.map_some, Option.getD_some, Option.getD_none, and_assoc, exists_and_left, exists_and_right, rCall_f, rCall_g, f_pre, f_post, g_pre, g_post, g_exc, Prod.forall, Prod.exists, Prod.mk.injEq, exists_const, forall_const, argsD, conP, entD, remP, flagsP, flagAt, putP, aft, Ct.dt.injEq, forall_eq, forall_eq', forall_const, implies_true, false_implies, and_imp, forall_exists_index, forall_apply_eq_imp_iff, List.length_append, retD, rFor_L, asgLc, rLc_L, riList, riTup, riStr, riRange1, riRange2, riEnum, riRev, rgName, rgTup, rgCons, rgNil, wipeE, unw, rYes, rAsgG, rAsgSub, roSetL, rBM, rBM0, roAppend, roOwn0, isa_no, isa_bl, isa_in, isa_st, isa_by, isa_ls, isa_tu, isa_di, beq_self_eq_true, Bool.or_true, Bool.true_or, Bool.or_false, Bool.false_or, Bool.or_self, Bool.not_true, Bool.not_false, Bool.and_true, Bool.true_and, Bool.and_false, Bool.false_and, String.reduceBEq, String.reduceEq, not_true_eq_false, not_false_eq_true, rSlL', roNone, roSome, roCat, D.trk, rRaise0, rRaise1, excD, rTry, rEx, wMixD, goneD, List.isEmpty_nil, if_true, List.length_singleton, Nat.reduceLeDiff, Nat.reducePow, Int.reducePow, Int.reduceLT, Int.reduceLE, Int.reduceNeg, Int.reduceToNat, ms_law_pick, ms_law_next, S_draw, S_one, items]
    have h0 : 0 < (D.signs s).length := List.length_pos_iff.mpr hn
    have hn' : (D.signs s).length < 100000 := hn'
    rw [D.signs_length] at h0 hn'
    have hl : s.length = s.cps.size := rfl
    refine ⟨by omega, hw, hm, by omega, by omega, fun a b hw' hc' h1 h2 => ?_⟩
    obtain ⟨x, e, hx⟩ := at_mem (l := s.cps.toList) h1 (by rw [Array.length_toList]; omega)
    exact ⟨by omega, _, ⟨x, e, rfl⟩, _, b, hw', hc', List.mem_map.mpr ⟨x, hx, rfl⟩, rfl, rfl⟩
/-! #### _law_word -/
abbrev s_law_word : Stmt := top 18
abbrev N_law_word : List Str := ["_law_source_here", "_law_signs", "_law_some", "_law_k"]
abbrev P_law_word : List Str := ["_law_source_here"]
abbrev ms_law_word : List Md := [.p]
theorem sc_law_word : FnScope N_law_word P_law_word (defScope s_law_word) := ⟨rfl, rfl, rfl, by decide +kernel, rfl, by decide +kernel, by decide +kernel⟩
theorem ok_law_word {P : Program} {w : World} {K : PySem.W.Frag} {mg : Str → Option Value} {base : Heap} {f : Addr} {fd : FuncData} {c_FellError c_NoCleaner c_Cleaner : Addr} (G : Gs K mg c_FellError c_NoCleaner c_Cleaner) (h0 : Hs P w K mg base CX0 2 "_law_pick" P_law_pick (toSp K ms_law_pick (S_one))) (h1 : Hs P w K mg base CX0 1 "_law_next" P_law_next (toSp K ms_law_next (S_draw))) (X_NoCleaner : ExO P w K mg base "NoCleaner" c_NoCleaner "at") (K_Cleaner : ClF K mg "Cleaner" c_Cleaner) (nA_Cleaner_rows : NoAttr K c_Cleaner "rows") (F : Fun K "_law_word" "_law_word" s_law_word f fd) (mf : mg "_law_word" = some (.ref f)) :
    Hs P w K mg base CX0 3 "_law_word" P_law_word (toSp K ms_law_word (S_word)) := by
  obtain ⟨f0, fd0, F0, m0, k0, b0⟩ := h0
  obtain ⟨f1, fd1, F1, m1, k1, b1⟩ := h1
  refine ⟨f, fd, ?_, mf, F.kp, F.binds (ps := P_law_word) fun _ _ _ _ _ _ us hl => match us, hl with | [_], _ => rfl⟩
  refine F.ok sc_law_word (fun vs H Q E h => toSp_len h) (fun cdv A outer s H vs Q E hr h => ?_)
  have hu := hr.units
  refine ⟨_, pss_cons (ps_if (pt_cmpR ((op_eqA hu)) (pe_callS (E := (fun _ => E0)) F1 (hr.mono (by decide)) rfl m1 k1 b1 (fun _ => fun _ _ _ _ _ _ h => h.elim) (pa_cons (pv 0) (pa_cons (pe_int) (pa_nil)))) (pe_int) (nomark _)) (pss_cons (ps_set (i := 1) sc_law_word.nd rfl (by first | exact Or.inl rfl | exact Or.inr rfl) (pe_str)) (pss_one (ps_ret (pe_bm PySem.F.plainAttrs_str PySem.F.slot_str_join PySem.F.type_str_join mt_join (pe_str) (pa_cons (pe_lc (own := [("_law_k", 3)]) (tt := tYes) rfl sc_law_word.nd (pi_range1 rfl G.b_range (pa_cons (pe_op op_add (pe_int) (pe_callS (E := (fun _ => E0)) F1 (hr.mono (by decide)) rfl m1 k1 b1 (fun _ => fun _ _ _ _ _ _ h => h.elim) (pa_cons (pv 0) (pa_cons (pe_int) (pa_nil))))) (pa_nil))) (blkOk_by (N := N_law_word) (sc := defScope s_law_word) (by decide +kernel)) (fun _ _ _ _ _ => pg_name (i := 3) sc_law_word.nd rfl (by first | exact Or.inl rfl | exact Or.inr rfl | exact .inr (.inl rfl) | exact .inr (.inr rfl))) (fun _ _ _ _ _ => pts_nil) (fun _ _ _ _ _ => pe_callS (E := (fun _ => E0)) F0 (hr.mono (by decide)) rfl m0 k0 b0 (fun _ => fun _ _ _ _ _ _ h => h.elim) (pa_cons (pv 0) (pa_cons (pv 1) (pa_nil))))) (pa_nil)))))) (pss_nil)) (pss_cons (ps_set (i := 2) sc_law_word.nd rfl (by first | exact Or.inl rfl | exact Or.inr rfl) (pe_lst (pa_cons (pe_str) (pa_cons (pe_str) (pa_cons (pe_str) (pa_cons (pe_str) (pa_cons (pe_str) (pa_cons (pe_str) (pa_cons (pe_str) (pa_cons (pe_str) (pa_cons (pe_str) (pa_cons (pe_str) (pa_cons (pe_str) (pa_cons (pe_str) (pa_cons (pe_str) (pa_cons (pe_str) (pa_nil))))))))))))))))) (pss_one (ps_ret (pe_callS (E := (fun _ => E0)) F0 (hr.mono (by decide)) rfl m0 k0 b0 (fun _ => fun _ _ _ _ _ _ h => h.elim) (pa_cons (pv 0) (pa_cons (pe_op op_cat (pv 2) (pe_lst (pa_cons (pe_str) (pa_cons (pe_str) (pa_cons (pe_str) (pa_cons (pe_str) (pa_cons (pe_str) (pa_cons (pe_str) (pa_cons (pe_str) (pa_cons (pe_str) (pa_cons (pe_str) (pa_cons (pe_str) (pa_cons (pe_str) (pa_nil)))))))))))))) (pa_nil))))))), ?_⟩
  refine run_body0 h (by decide) (fun as => ds_seq (ds_if (dt_test (de_op (d2_P p2_eq) (de_callS (X := W0) (ms := ms_law_next) (S := S_draw) (fun _ _ _ _ h => h.elim) (da_cons (de_var 0) (da_cons (de_int) (da_nil)))) (de_int))) (ds_seq (ds_asg (de_str) 1) (ds_ret (de_bm dm_join (de_str) (da_cons (de_lc (vs := [3]) (di_range1 (da_cons (de_op (d2_P p2_ii) (de_int) (de_callS (X := W0) (ms := ms_law_next) (S := S_draw) (fun _ _ _ _ h => h.elim) (da_cons (de_var 0) (da_cons (de_int) (da_nil))))) (da_nil))) (dg_name 3) (dt_yes) (de_callS (X := W0) (ms := ms_law_pick) (S := S_one) (fun _ _ _ _ h => h.elim) (da_cons (de_var 0) (da_cons (de_var 1) (da_nil)))) (by decide)) (da_nil))))) (ds_next)) (ds_seq (ds_asg (de_lst (da_cons (de_str) (da_cons (de_str) (da_cons (de_str) (da_cons (de_str) (da_cons (de_str) (da_cons (de_str) (da_cons (de_str) (da_cons (de_str) (da_cons (de_str) (da_cons (de_str) (da_cons (de_str) (da_cons (de_str) (da_cons (de_str) (da_cons (de_str) (da_nil)))))))))))))))) 2) (ds_ret (de_callS (X := W0) (ms := ms_law_pick) (S := S_one) (fun _ _ _ _ h => h.elim) (da_cons (de_var 0) (da_cons (de_op (d2_cat) (de_var 2) (de_lst (da_cons (de_str) (da_cons (de_str) (da_cons (de_str) (da_cons (de_str) (da_cons (de_str) (da_cons (de_str) (da_cons (de_str) (da_cons (de_str) (da_cons (de_str) (da_cons (de_str) (da_cons (de_str) (da_nil)))))))))))))) (da_nil))))))) (fun as hp hl => ?_)
  obtain ⟨w, rfl, hw, hm⟩ := hp
  refine sg fun U1 e1 => ?_
  simp (maxSteps := 3000000) only [roSplit, roStr1, rSlSt, rSlBy, rRevL, TruD, rOrT, rAndT, rMake_g, roCatT, roRep, rMeth, rFld, rSetF, rXfn, rXf, lk_eq, putD, Dt.ins.injEq, Dt.exn.injEq, RleS, RMulS, roJoin, rRet, rRetN, rSeq, rIfS, rAsg, rVar, ofEn, rC, rOp, rUn, roP, rCB, rCons, rNil, rAndV, rOrV, rNotV, rB, rAnd, rOr, rNot, rIf, rTup, rLst, rDrop, rNext, rNever, look, frz, frzs, looks, held, roIsi, roF1, roL1, roNeg, rDNew, startE, ents, ent, csOf, unal, finds, RI0, RI, int_in, int_bl, len_ls, len_tu, len_st, len_by, at0, at1, at2, at3, ix30, ix31, ix32, eq_ii, ne_ii, eq_by, ne_by, notin_c, in_c, D.rChain, RIxA, roTupOf, RListOf, RListB, List.findSome?, List.getElem?_cons_zero, List.getElem?_cons_succ, List.getElem?_nil, List.set_cons_zero, List.set_cons_succ, List.length_cons, List.length_nil, List.map_cons, List.map_nil, List.replicate, List.nil_append, List.cons_append, List.append_nil, Option.some.injEq, exists_eq_left', exists_eq_left, exists_eq', exists_eq, true_and, and_true, Vl.d.injEq, Vl.nw.injEq, Vl.sl.injEq, Dt.int.injEq, Dt.bl.injEq, Dt.str.injEq, Dt.lst.injEq, Dt.tup.injEq, Dt.byt.injEq, Dt.ty.injEq, Dt.ref.injEq, En.val.injEq, En.mu.injEq, En.bor.injEq, List.cons.injEq, Nat.reduceLT, Nat.reduceAdd, Nat.reduceSub, Nat.zero_add, and_self, ↓reduceIte, Bool.false_eq_true, reduceCtorEq, false_and, and_false, exists_const, exists_false, or_false, false_or, Nat.reduceEqDiff, Option.map_some, Option.getD_some, Option.getD_none, and_assoc, exists_and_left, exists_and_right, rCall_f, rCall_g, f_pre, f_post, g_pre, g_post, g_exc, Prod.forall, Prod.exists, Prod.mk.injEq, exists_const, forall_const, argsD, conP, entD, remP, flagsP, flagAt, putP, aft, Ct.dt.injEq, forall_eq, forall_eq', forall_const, implies_true, false_implies, and_imp, forall_exists_index, forall_apply_eq_imp_iff, List.length_append, retD, rFor_L, asgLc, rLc_L, riList, riTup, riStr, riRange1, riRange2, riEnum, riRev, rgName, rgTup, rgCons, rgNil, wipeE, unw, rYes, rAsgG, rAsgSub, roSetL, rBM, rBM0, roAppend, roOwn0, isa_no, isa_bl, isa_in, isa_st, isa_by, isa_ls, isa_tu, isa_di, beq_self_eq_true, Bool.or_true, Bool.true_or, Bool.or_false, Bool.false_or, Bool.or_self, Bool.not_true, Bool.not_false, Bool.and_true, Bool.true_and, Bool.and_false, Bool.false_and, String.reduceBEq, String.reduceEq, not_true_eq_false, not_false_eq_true, rSlL', roNone, roSome, roCat, D.trk, rRaise0, rRaise1, excD, rTry, rEx, wMixD, goneD, List.isEmpty_nil, if_true, List.length_singleton, Nat.reduceLeDiff, Nat.reducePow, Int.reducePow, Int.reduceLT, Int.reduceLE, Int.reduceNeg, Int.reduceToNat, ms_law_word, S_word, ms_law_next, S_draw, ms_law_pick, S_one, items]
  refine ⟨hw, by omega, fun a w1 hw1 hc1 h1 h2 => ?_⟩
  by_cases h0 : a = 0
  · rw [if_pos (decide_eq_true h0)]
    refine ⟨hw1, by omega, fun a2 w2 hw2 hc2 h3 h4 => ⟨by omega, by omega, ?_⟩⟩
    refine lc_map (fun i acc η' => ∃ w5, wOk w5 ∧ cnt w5 ≤ cnt w2 + i ∧ η' = [some (.mu (some 0) (.dt w5)), some (.val (.str (Str.ofString "!\"#$&'()*+,-./0123456789:;<=>?@ABCXYZ[\\]^_`abcdefghijklmnopqrstuvwxyz{|}~"))), none, none] ∧ ∃ cs : List Nat, acc = (cs.map s1).map .str ∧ (∀ c ∈ cs, okC c = true ∧ c ≠ 32) ∧ cs.length = i) (by rw [nums_length]; omega) ⟨w2, hw2, by simp, rfl, [], rfl, by simp, rfl⟩ ?_ ?_
    · rintro i x acc η' hx hl ⟨w5, hw5, hc5, rfl, cs, rfl, hcs, hi⟩
      have hin : i < (1 + a2).toNat := by
        have := (List.getElem?_eq_some_iff.mp hx).1
        rwa [nums_length] at this
      simp (maxSteps := 3000000) only [roSplit, roStr1, rSlSt, rSlBy, rRevL, TruD, rOrT, rAndT, rMake_g, roCatT, roRep, rMeth, rFld, rSetF, rXfn, rXf, lk_eq, putD, Dt.ins.injEq, Dt.exn.injEq, RleS, RMulS, roJoin, rRet, rRetN, rSeq, rIfS, rAsg, rVar, ofEn, rC, rOp, rUn, roP, rCB, rCons, rNil, rAndV, rOrV, rNotV, rB, rAnd, rOr, rNot, rIf, rTup, rLst, rDrop, rNext, rNever, look, frz, frzs, looks, held, roIsi, roF1, roL1, roNeg, rDNew, startE, ents, ent, csOf, unal, finds, RI0, RI, int_in, int_bl, len_ls, len_tu, len_st, len_by, at0, at1, at2, at3, ix30, ix31, ix32, eq_ii, ne_ii, eq_by, ne_by, notin_c, in_c, D.rChain, RIxA, roTupOf, RListOf, RListB, List.findSome?, List.getElem?_cons_zero, List.getElem?_cons_succ, List.getElem?_nil, List.set_cons_zero, List.set_cons_succ, List.length_cons, List.length_nil, List.map_cons, List.map_nil, List.replicate, List.nil_append, List.cons_append, List.append_nil, Option.some.injEq, exists_eq_left', exists_eq_left, exists_eq', exists_eq, true_and, and_true, Vl.d.injEq, Vl.nw.injEq, Vl.sl.injEq, Dt.int.injEq, Dt.bl.injEq, Dt.str.injEq, Dt.lst.injEq, Dt.tup.injEq, Dt.byt.injEq, Dt.ty.injEq, Dt.ref.injEq, En.val.injEq, En.mu.injEq, En.bor.injEq, List.cons.injEq, Nat.reduceLT, Nat.reduceAdd, Nat.reduceSub, Nat.zero_add, and_self, ↓reduceIte, Bool.false_eq_true, reduceCtorEq, false_and, and_false, exists_const, exists_false, or_false, false_or, Nat.reduceEqDiff, Option.map_some, Option.getD_some, Option.getD_none, and_assoc, exists_and_left, exists_and_right, rCall_f, rCall_g, f_pre, f_post, g_pre, g_post, g_exc, Prod.forall, Prod.exists, Prod.mk.injEq, exists_const, forall_const, argsD, conP, entD, remP, flagsP, flagAt, putP, aft, Ct.dt.injEq, forall_eq, forall_eq', forall_const, implies_true, false_implies, and_imp, forall_exists_index, forall_apply_eq_imp_iff, List.length_append, retD, rFor_L, asgLc, rLc_L, riList, riTup, riStr, riRange1, riRange2, riEnum, riRev, rgName, rgTup, rgCons, rgNil, wipeE, unw, rYes, rAsgG, rAsgSub, roSetL, rBM, rBM0, roAppend, roOwn0, isa_no, isa_bl, isa_in, isa_st, isa_by, isa_ls, isa_tu, isa_di, beq_self_eq_true, Bool.or_true, Bool.true_or, Bool.or_false, Bool.false_or, Bool.or_self, Bool.not_true, Bool.not_false, Bool.and_true, Bool.true_and, Bool.and_false, Bool.false_and, String.reduceBEq, String.reduceEq, not_true_eq_false, not_false_eq_true, rSlL', roNone, roSome, roCat, D.trk, rRaise0, rRaise1, excD, rTry, rEx, wMixD, goneD, List.isEmpty_nil, if_true, List.length_singleton, Nat.reduceLeDiff, Nat.reducePow, Int.reducePow, Int.reduceLT, Int.reduceLE, Int.reduceNeg, Int.reduceToNat, ms_law_next, S_draw, ms_law_pick, S_one, items]
      refine ⟨hw5, by omega, signs_ne (by decide), signs_lt (by decide), fun c w6 hw6 hc6 hmem => ?_⟩
      obtain ⟨c, hc, rfl⟩ := List.mem_map.mp hmem
      refine ⟨w6, hw6, by push_cast; omega, rfl, cs ++ [c], by simp [s1], ?_, by simp [hi]⟩
      intro c' hc'
      rw [List.mem_append, List.mem_singleton] at hc'
      rcases hc' with h | rfl
      · exact hcs _ h
      · have h : ∀ c ∈ (Str.ofString "!\"#$&'()*+,-./0123456789:;<=>?@ABCXYZ[\\]^_`abcdefghijklmnopqrstuvwxyz{|}~").cps.toList, okC c = true ∧ c ≠ 32 := by decide +kernel
        exact h _ hc
    · rintro acc η' hl ⟨w5, hw5, hc5, rfl, cs, rfl, hcs, hi⟩
      rw [nums_length] at hc5 hi
      simp (maxSteps := 3000000) only [roSplit, roStr1, rSlSt, rSlBy, rRevL, TruD, rOrT, rAndT, rMake_g, roCatT, roRep, rMeth, rFld, rSetF, rXfn, rXf, lk_eq, putD, Dt.ins.injEq, Dt.exn.injEq, RleS, RMulS, roJoin, rRet, rRetN, rSeq, rIfS, rAsg, rVar, ofEn, rC, rOp, rUn, roP, rCB, rCons, rNil, rAndV, rOrV, rNotV, rB, rAnd, rOr, rNot, rIf, rTup, rLst, rDrop, rNext, rNever, look, frz, frzs, looks, held, roIsi, roF1, roL1, roNeg, rDNew, startE, ents, ent, csOf, unal, finds, RI0, RI, int_in, int_bl, len_ls, len_tu, len_st, len_by, at0, at1, at2, at3, ix30, ix31, ix32, eq_ii, ne_ii, eq_by, ne_by, notin_c, in_c, D.rChain, RIxA, roTupOf, RListOf, RListB, List.findSome?, List.getElem?_cons_zero, List.getElem?_cons_succ, List.getElem?_nil, List.set_cons_zero, List.set_cons_succ, List.length_cons, List.length_nil, List.map_cons, List.map_nil, List.replicate, List.nil_append, List.cons_append, List.append_nil, Option.some.injEq, exists_eq_left', exists_eq_left, exists_eq', exists_eq, true_and, and_true, Vl.d.injEq, Vl.nw.injEq, Vl.sl.injEq, Dt.int.injEq, Dt.bl.injEq, Dt.str.injEq, Dt.lst.injEq, Dt.tup.injEq, Dt.byt.injEq, Dt.ty.injEq, Dt.ref.injEq, En.val.injEq, En.mu.injEq, En.bor.injEq, List.cons.injEq, Nat.reduceLT, Nat.reduceAdd, Nat.reduceSub, Nat.zero_add, and_self, ↓reduceIte, Bool.false_eq_true, reduceCtorEq, false_and, and_false, exists_const, exists_false, or_false, false_or, Nat.reduceEqDiff, Option.map_some, Option.getD_some, Option.getD_none, and_assoc, exists_and_left, exists_and_right, rCall_f, rCall_g, f_pre, f_post, g_pre, g_post, g_exc, Prod.forall, Prod.exists, Prod.mk.injEq, exists_const, forall_const, argsD, conP, entD, remP, flagsP, flagAt, putP, aft, Ct.dt.injEq, forall_eq, forall_eq', forall_const, implies_true, false_implies, and_imp, forall_exists_index, forall_apply_eq_imp_iff, List.length_append, retD, rFor_L, asgLc, rLc_L, riList, riTup, riStr, riRange1, riRange2, riEnum, riRev, rgName, rgTup, rgCons, rgNil, wipeE, unw, rYes, rAsgG, rAsgSub, roSetL, rBM, rBM0, roAppend, roOwn0, isa_no, isa_bl, isa_in, isa_st, isa_by, isa_ls, isa_tu, isa_di, beq_self_eq_true, Bool.or_true, Bool.true_or, Bool.or_false, Bool.false_or, Bool.or_self, Bool.not_true, Bool.not_false, Bool.and_true, Bool.true_and, Bool.and_false, Bool.false_and, String.reduceBEq, String.reduceEq, not_true_eq_false, not_false_eq_true, rSlL', roNone, roSome, roCat, D.trk, rRaise0, rRaise1, excD, rTry, rEx, wMixD, goneD, List.isEmpty_nil, if_true, List.length_singleton, Nat.reduceLeDiff, Nat.reducePow, Int.reducePow, Int.reduceLT, Int.reduceLE, Int.reduceNeg, Int.reduceToNat, S_word]
      exact ⟨cs.map s1, rfl, by rw [sum_s1]; omega, _, w5, hw5, by omega, ⟨by rw [join_s1_len]; omega, by rw [join_s1_len]; omega, by rw [join_s1]; exact hcs⟩, rfl, rfl⟩
  · rw [if_neg (by rw [decide_eq_false h0]; decide)]
    subst e1
    refine sg fun U1 e1 => ?_
    simp (maxSteps := 3000000) only [roSplit, roStr1, rSlSt, rSlBy, rRevL, TruD, rOrT, rAndT, rMake_g, roCatT, roRep, rMeth, rFld, rSetF, rXfn, rXf, lk_eq, putD, Dt.ins.injEq, Dt.exn.injEq, RleS, RMulS, roJoin, rRet, rRetN, rSeq, rIfS, rAsg, rVar, ofEn, rC, rOp, rUn, roP, rCB, rCons, rNil, rAndV, rOrV, rNotV, rB, rAnd, rOr, rNot, rIf, rTup, rLst, rDrop, rNext, rNever, look, frz, frzs, looks, held, roIsi, roF1, roL1, roNeg, rDNew, startE, ents, ent, csOf, unal, finds, RI0, RI, int_in, int_bl, len_ls, len_tu, len_st, len_by, at0, at1, at2, at3, ix30, ix31, ix32, eq_ii, ne_ii, eq_by, ne_by, notin_c, in_c, D.rChain, RIxA, roTupOf, RListOf, RListB, List.findSome?, List.getElem?_cons_zero, List.getElem?_cons_succ, List.getElem?_nil, List.set_cons_zero, List.set_cons_succ, List.length_cons, List.length_nil, List.map_cons, List.map_nil, List.replicate, List.nil_append, List.cons_append, List.append_nil, Option.some.injEq, exists_eq_left', exists_eq_left, exists_eq', exists_eq, true_and, and_true, Vl.d.injEq, Vl.nw.injEq, Vl.sl.injEq, Dt.int.injEq, Dt.bl.injEq, Dt.str.injEq, Dt.lst.injEq, Dt.tup.injEq, Dt.byt.injEq, Dt.ty.injEq, Dt.ref.injEq, En.val.injEq, En.mu.injEq, En.bor.injEq, List.cons.injEq, Nat.reduceLT, Nat.reduceAdd, Nat.reduceSub, Nat.zero_add, and_self, ↓reduceIte, Bool.false_eq_true, reduceCtorEq, false_and, and_false, exists_const, exists_false, or_false, false_or, Nat.reduceEqDiff, Option.map_some, Option.getD_some, Option.getD_none, and_assoc, exists_and_left, exists_and_right, rCall_f, rCall_g, f_pre, f_post, g_pre, g_post, g_exc, Prod.forall, Prod.exists, Prod.mk.injEq, exists_const, forall_const, argsD, conP, entD, remP, flagsP, flagAt, putP, aft, Ct.dt.injEq, forall_eq, forall_eq', forall_const, implies_true, false_implies, and_imp, forall_exists_index, forall_apply_eq_imp_iff, List.length_append, retD, rFor_L, asgLc, rLc_L, riList, riTup, riStr, riRange1, riRange2, riEnum, riRev, rgName, rgTup, rgCons, rgNil, wipeE, unw, rYes, rAsgG, rAsgSub, roSetL, rBM, rBM0, roAppend, roOwn0, isa_no, isa_bl, isa_in, isa_st, isa_by, isa_ls, isa_tu, isa_di, beq_self_eq_true, Bool.or_true, Bool.true_or, Bool.or_false, Bool.false_or, Bool.or_self, Bool.not_true, Bool.not_false, Bool.and_true, Bool.true_and, Bool.and_false, Bool.false_and, String.reduceBEq, String.reduceEq, not_true_eq_false, not_false_eq_true, rSlL', roNone, roSome, roCat, D.trk, rRaise0, rRaise1, excD, rTry, rEx, wMixD, goneD, List.isEmpty_nil, if_true, List.length_singleton, Nat.reduceLeDiff, Nat.reducePow, Int.reducePow, Int.reduceLT, Int.reduceLE, Int.reduceNeg, Int.reduceToNat, ms_law_word, S_word, ms_law_next, S_draw, ms_law_pick, S_one, items]
    subst e1
    simp (maxSteps := 3000000) only [roSplit, roStr1, rSlSt, rSlBy, rRevL, TruD, rOrT, rAndT, rMake_g, roCatT, roRep, rMeth, rFld, rSetF, rXfn, rXf, lk_eq, putD, Dt.ins.injEq, Dt.exn.injEq, RleS, RMulS, roJoin, rRet, rRetN, rSeq, rIfS, rAsg, rVar, ofEn, rC, rOp, rUn, roP, rCB, rCons, rNil, rAndV, rOrV, rNotV, rB, rAnd, rOr, rNot, rIf, rTup, rLst, rDrop, rNext, rNever, look, frz, frzs, looks, held, roIsi, roF1, roL1, roNeg, rDNew, startE, ents, ent, csOf, unal, finds, RI0, RI, int_in, int_bl, len_ls, len_tu, len_st, len_by, at0, at1, at2, at3, ix30, ix31, ix32, eq_ii, ne_ii, eq_by, ne_by, notin_c, in_c, D.rChain, RIxA, roTupOf, RListOf, RListB, List.findSome?, List.getElem?_cons_zero, List.getElem?_cons_succ, List.getElem?_nil, List.set_cons_zero, List.set_cons_succ, List.length_cons, List.length_nil, List.map_cons, List.map_nil, List.replicate, List.nil_append, List.cons_append, List.append_nil, Option.some.injEq, exists_eq_left', exists_eq_left, exists_eq', exists_eq, true_and, and_true, Vl.d.injEq, Vl.nw.injEq, Vl.sl.injEq, Dt.int.injEq, Dt.bl.injEq, Dt.str.injEq, Dt.lst.injEq, Dt.tup.injEq, Dt.byt.injEq, Dt.ty.injEq, Dt.ref.injEq, En.val.injEq, En.mu.injEq, En.bor.injEq, List.cons.injEq, Nat.reduceLT, Nat.reduceAdd, Nat.reduceSub, Nat.zero_add, and_self, ↓reduceIte, Bool.false_eq_true, reduceCtorEq, false_and, and_false, exists_const, exists_false, or_false, false_or, Nat.reduceEqDiff, Option.map_some, Option.getD_some, Option.getD_none, and_assoc, exists_and_left, exists_and_right, rCall_f, rCall_g, f_pre, f_post, g_pre, g_post, g_exc, Prod.forall, Prod.exists, Prod.mk.injEq, exists_const, forall_const, argsD, conP, entD, remP, flagsP, flagAt, putP, aft, Ct.dt.injEq, forall_eq, forall_eq', forall_const, implies_true, false_implies, and_imp, forall_exists_index, forall_apply_eq_imp_iff, List.length_append, retD, rFor_L, asgLc, rLc_L, riList, riTup, riStr, riRange1, riRange2, riEnum, riRev, rgName, rgTup, rgCons, rgNil, wipeE, unw, rYes, rAsgG, rAsgSub, roSetL, rBM, rBM0, roAppend, roOwn0, isa_no, isa_bl, isa_in, isa_st, isa_by, isa_ls, isa_tu, isa_di, beq_self_eq_true, Bool.or_true, Bool.true_or, Bool.or_false, Bool.false_or, Bool.or_self, Bool.not_true, Bool.not_false, Bool.and_true, Bool.true_and, Bool.and_false, Bool.false_and, String.reduceBEq, String.reduceEq, not_true_eq_false, not_false_eq_true, rSlL', roNone, roSome, roCat, D.trk, rRaise0, rRaise1, excD, rTry, rEx, wMixD, goneD, List.isEmpty_nil, if_true, List.length_singleton, Nat.reduceLeDiff, Nat.reducePow, Int.reducePow, Int.reduceLT, Int.reduceLE, Int.reduceNeg, Int.reduceToNat, ms_law_word, S_word, ms_law_next, S_draw, ms_law_pick, S_one, items]
    refine ⟨hw1, by omega, by simp, fun x w2 hw2 hc2 hx => ?_⟩
    have : ∃ s, x = .str s ∧ wordS s := by
      clear hw hm hw1 hc1 h1 h2 hw2 hc2
      simp only [List.mem_cons, List.mem_nil_iff, or_false] at hx
      rcases hx with rfl | rfl | rfl | rfl | rfl | rfl | rfl | rfl | rfl | rfl | rfl | rfl | rfl | rfl | rfl | rfl | rfl | rfl | rfl | rfl | rfl | rfl | rfl | rfl | rfl <;> exact ⟨_, rfl, by unfold wordS; decide +kernel⟩
    obtain ⟨s', rfl, hs'⟩ := this
    exact ⟨_, w2, hw2, by omega, hs', rfl, rfl⟩
/-! #### _law_row -/
abbrev s_law_row : Stmt := top 19
abbrev N_law_row : List Str := ["_law_source_here", "_law_some", "_law_pieces", "_law_word_here", "_law_one"]
abbrev P_law_row : List Str := ["_law_source_here", "_law_some"]
abbrev ms_law_row : List Md := [.p, .b]
theorem sc_law_row : FnScope N_law_row P_law_row (defScope s_law_row) := ⟨rfl, rfl, rfl, by decide +kernel, rfl, by decide +kernel, by decide +kernel⟩
theorem ok_law_row {P : Program} {w : World} {K : PySem.W.Frag} {mg : Str → Option Value} {base : Heap} {f : Addr} {fd : FuncData} {c_FellError c_NoCleaner c_Cleaner : Addr} (G : Gs K mg c_FellError c_NoCleaner c_Cleaner) (h0 : Hs P w K mg base CX0 2 "_law_pick" P_law_pick (toSp K ms_law_pick (S_one))) (h1 : Hs P w K mg base CX0 1 "_law_next" P_law_next (toSp K ms_law_next (S_draw))) (h2 : Hs P w K mg base CX0 3 "_law_word" P_law_word (toSp K ms_law_word (S_word))) (X_NoCleaner : ExO P w K mg base "NoCleaner" c_NoCleaner "at") (K_Cleaner : ClF K mg "Cleaner" c_Cleaner) (nA_Cleaner_rows : NoAttr K c_Cleaner "rows") (F : Fun K "_law_row" "_law_row" s_law_row f fd) (mf : mg "_law_row" = some (.ref f)) :
    Hs P w K mg base CX0 4 "_law_row" P_law_row (toSp K ms_law_row (S_row)) := by
  obtain ⟨f0, fd0, F0, m0, k0, b0⟩ := h0
  obtain ⟨f1, fd1, F1, m1, k1, b1⟩ := h1
  obtain ⟨f2, fd2, F2, m2, k2, b2⟩ := h2
  refine ⟨f, fd, ?_, mf, F.kp, F.binds (ps := P_law_row) fun _ _ _ _ _ _ us hl => match us, hl with | [_, _], _ => rfl⟩
  refine F.ok sc_law_row (fun vs H Q E h => toSp_len h) (fun cdv A outer s H vs Q E hr h => ?_)
  have hu := hr.units
  refine ⟨_, pss_cons (ps_setLc (i := 2) (own := [("_law_one", 4)]) (tt := _) rfl sc_law_row.nd rfl rfl (sw_true rfl rfl rfl (by decide +kernel)) (pi_list (pv 1)) (blkOk_by (N := N_law_row) (sc := defScope s_law_row) (by decide +kernel)) (fun _ _ _ _ _ => pg_name (i := 4) sc_law_row.nd rfl (by first | exact Or.inl rfl | exact Or.inr rfl | exact .inr (.inl rfl) | exact .inr (.inr rfl))) (fun _ _ _ _ _ => pts_one (pt_cmpR ((show OpR _ _ (rNeA K) from op_neA hu)) (pv 4) (pe_str) (nomark _))) (fun _ _ _ _ _ => pv 4)) (pss_cons (ps_set (i := 3) sc_law_row.nd rfl (by first | exact Or.inl rfl | exact Or.inr rfl) (pe_callS (E := (fun _ => E0)) F2 (hr.mono (by decide)) rfl m2 k2 b2 (fun _ => fun _ _ _ _ _ _ h => h.elim) (pa_cons (pv 0) (pa_nil)))) (pss_cons (ps_if (PW.pt (pw_and (pt_cmpR ((op_neA hu)) (pv 2) (pe_lst (pa_nil)) (nomark _)) (pw_and1 (pt_cmpR (op_gt) (pe_callS (E := (fun _ => E0)) F1 (hr.mono (by decide)) rfl m1 k1 b1 (fun _ => fun _ _ _ _ _ _ h => h.elim) (pa_cons (pv 0) (pa_cons (pe_int) (pa_nil)))) (pe_int) (nomark _))))) (pss_one (ps_set (i := 3) sc_law_row.nd rfl (by first | exact Or.inl rfl | exact Or.inr rfl) (pe_callS (E := (fun _ => E0)) F0 (hr.mono (by decide)) rfl m0 k0 b0 (fun _ => fun _ _ _ _ _ _ h => h.elim) (pa_cons (pv 0) (pa_cons (pv 2) (pa_nil)))))) (pss_nil)) (pss_cons (ps_if (pt_cmpR ((op_eqA hu)) (pe_callS (E := (fun _ => E0)) F1 (hr.mono (by decide)) rfl m1 k1 b1 (fun _ => fun _ _ _ _ _ _ h => h.elim) (pa_cons (pv 0) (pa_cons (pe_int) (pa_nil)))) (pe_int) (nomark _)) (pss_one (ps_set (i := 3) sc_law_row.nd rfl (by first | exact Or.inl rfl | exact Or.inr rfl) (pe_slice sl_str (pv 3) (po_none) (po_some (pe_op op_add (pe_int) (pe_callS (E := (fun _ => E0)) F1 (hr.mono (by decide)) rfl m1 k1 b1 (fun _ => fun _ _ _ _ _ _ h => h.elim) (pa_cons (pv 0) (pa_cons (pe_callB call_len rfl G.b_len (by decide +kernel) (pa_cons (pv 3) (pa_nil))) (pa_nil))))))))) (pss_nil)) (pss_one (ps_ret (pe_tup (pa_cons (pe_callS (E := (fun _ => E0)) F0 (hr.mono (by decide)) rfl m0 k0 b0 (fun _ => fun _ _ _ _ _ _ h => h.elim) (pa_cons (pv 0) (pa_cons (pe_lst (pa_cons (pe_str) (pa_cons (pe_str) (pa_nil)))) (pa_nil)))) (pa_cons (pe_slice sl_str (pv 3) (po_none) (po_some (pe_int))) (pa_nil))))))))), ?_⟩
  refine run_body0 h (by decide) (fun as => ds_seq (ds_asg (de_lc (vs := [4]) (di_list (de_var 1)) (dg_name 4) (dt_test (de_op (d2_P p2_ne) (de_var 4) (de_str))) (de_var 4) (by decide)) 2) (ds_seq (ds_asg (de_callS (X := W0) (ms := ms_law_word) (S := S_word) (fun _ _ _ _ h => h.elim) (da_cons (de_var 0) (da_nil))) 3) (ds_seq (ds_if (dt_and (dt_test (de_op (d2_P p2_ne) (de_var 2) (de_lst (da_nil)))) (dt_test (de_op (d2_P p2_ib) (de_callS (X := W0) (ms := ms_law_next) (S := S_draw) (fun _ _ _ _ h => h.elim) (da_cons (de_var 0) (da_cons (de_int) (da_nil)))) (de_int)))) (ds_asg (de_callS (X := W0) (ms := ms_law_pick) (S := S_one) (fun _ _ _ _ h => h.elim) (da_cons (de_var 0) (da_cons (de_var 2) (da_nil)))) 3) (ds_next)) (ds_seq (ds_if (dt_test (de_op (d2_P p2_eq) (de_callS (X := W0) (ms := ms_law_next) (S := S_draw) (fun _ _ _ _ h => h.elim) (da_cons (de_var 0) (da_cons (de_int) (da_nil)))) (de_int))) (ds_asg (de_slS (de_var 3) (do_none) (do_some (de_op (d2_P p2_ii) (de_int) (de_callS (X := W0) (ms := ms_law_next) (S := S_draw) (fun _ _ _ _ h => h.elim) (da_cons (de_var 0) (da_cons (de_cb (dc_F1 f1_len) (da_cons (de_var 3) (da_nil))) (da_nil))))))) 3) (ds_next)) (ds_ret (de_tup (da_cons (de_callS (X := W0) (ms := ms_law_pick) (S := S_one) (fun _ _ _ _ h => h.elim) (da_cons (de_var 0) (da_cons (de_lst (da_cons (de_str) (da_cons (de_str) (da_nil)))) (da_nil)))) (da_cons (de_slS (de_var 3) (do_none) (do_some (de_int))) (da_nil))))))))) (fun as hp hl => ?_)
  obtain ⟨w, ss, rfl, hw, hm, hss, hl⟩ := hp
  refine sg fun U1 e1 => ?_
  simp (maxSteps := 3000000) only [roSplit, roStr1, rSlSt, rSlBy, rRevL, TruD, rOrT, rAndT, rMake_g, roCatT, roRep, rMeth, rFld, rSetF, rXfn, rXf, lk_eq, putD, Dt.ins.injEq, Dt.exn.injEq, RleS, RMulS, roJoin, rRet, rRetN, rSeq, rIfS, rAsg, rVar, ofEn, rC, rOp, rUn, roP, rCB, rCons, rNil, rAndV, rOrV, rNotV, rB, rAnd, rOr, rNot, rIf, rTup, rLst, rDrop, rNext, rNever, look, frz, frzs, looks, held, roIsi, roF1, roL1, roNeg, rDNew, startE, ents, ent, csOf, unal, finds, RI0, RI, int_in, int_bl, len_ls, len_tu, len_st, len_by, at0, at1, at2, at3, ix30, ix31, ix32, eq_ii, ne_ii, eq_by, ne_by, notin_c, in_c, D.rChain, RIxA, roTupOf, RListOf, RListB, List.findSome?, List.getElem?_cons_zero, List.getElem?_cons_succ, List.getElem?_nil, List.set_cons_zero, List.set_cons_succ, List.length_cons, List.length_nil, List.map_cons, List.map_nil, List.replicate, List.nil_append, List.cons_append, List.append_nil, Option.some.injEq, exists_eq_left', exists_eq_left, exists_eq', exists_eq, true_and, and_true, Vl.d.injEq, Vl.nw.injEq, Vl.sl.injEq, Dt.int.injEq, Dt.bl.injEq, Dt.str.injEq, Dt.lst.injEq, Dt.tup.injEq, Dt.byt.injEq, Dt.ty.injEq, Dt.ref.injEq, En.val.injEq, En.mu.injEq, En.bor.injEq, List.cons.injEq, Nat.reduceLT, Nat.reduceAdd, Nat.reduceSub, Nat.zero_add, and_self, ↓reduceIte, Bool.false_eq_true, reduceCtorEq, false_and, and_false, exists_const, exists_false, or_false, false_or, Nat.reduceEqDiff, Option.map_some, Option.getD_some, Option.getD_none, and_assoc, exists_and_left, exists_and_right, rCall_f, rCall_g, f_pre, f_post, g_pre, g_post, g_exc, Prod.forall, Prod.exists, Prod.mk.injEq, exists_const, forall_const, argsD, conP, entD, remP, flagsP, flagAt, putP, aft, Ct.dt.injEq, forall_eq, forall_eq', forall_const, implies_true, false_implies, and_imp, forall_exists_index, forall_apply_eq_imp_iff, List.length_append, retD, rFor_L, asgLc, rLc_L, riList, riTup, riStr, riRange1, riRange2, riEnum, riRev, rgName, rgTup, rgCons, rgNil, wipeE, unw, rYes, rAsgG, rAsgSub, roSetL, rBM, rBM0, roAppend, roOwn0, isa_no, isa_bl, isa_in, isa_st, isa_by, isa_ls, isa_tu, isa_di, beq_self_eq_true, Bool.or_true, Bool.true_or, Bool.or_false, Bool.false_or, Bool.or_self, Bool.not_true, Bool.not_false, Bool.and_true, Bool.true_and, Bool.and_false, Bool.false_and, String.reduceBEq, String.reduceEq, not_true_eq_false, not_false_eq_true, rSlL', roNone, roSome, roCat, D.trk, rRaise0, rRaise1, excD, rTry, rEx, wMixD, goneD, List.isEmpty_nil, if_true, List.length_singleton, Nat.reduceLeDiff, Nat.reducePow, Int.reducePow, Int.reduceLT, Int.reduceLE, Int.reduceNeg, Int.reduceToNat, ms_law_row, S_row, ms_law_next, S_draw, ms_law_pick, S_one, items]
  obtain ⟨ps, hps⟩ : ∃ ps, ps = ss.filter fun s => !decide (s.length = 0) := ⟨_, rfl⟩
  refine lc_of (fun i acc η' => η' = [some (.mu (some 0) (.dt w)), some (.bor (.lst (ss.map .str))), none, none, none] ∧ acc = ((ss.take i).filter fun s => !decide (s.length = 0)).map .str) (by rw [List.length_map]; omega) ⟨rfl, rfl⟩ ?_ ?_
  · rintro i x acc η' hx hl' ⟨rfl, rfl⟩
    obtain ⟨s, hs, rfl⟩ := map_get hx
    simp (maxSteps := 3000000) only [roSplit, roStr1, rSlSt, rSlBy, rRevL, TruD, rOrT, rAndT, rMake_g, roCatT, roRep, rMeth, rFld, rSetF, rXfn, rXf, lk_eq, putD, Dt.ins.injEq, Dt.exn.injEq, RleS, RMulS, roJoin, rRet, rRetN, rSeq, rIfS, rAsg, rVar, ofEn, rC, rOp, rUn, roP, rCB, rCons, rNil, rAndV, rOrV, rNotV, rB, rAnd, rOr, rNot, rIf, rTup, rLst, rDrop, rNext, rNever, look, frz, frzs, looks, held, roIsi, roF1, roL1, roNeg, rDNew, startE, ents, ent, csOf, unal, finds, RI0, RI, int_in, int_bl, len_ls, len_tu, len_st, len_by, at0, at1, at2, at3, ix30, ix31, ix32, eq_ii, ne_ii, eq_by, ne_by, notin_c, in_c, D.rChain, RIxA, roTupOf, RListOf, RListB, List.findSome?, List.getElem?_cons_zero, List.getElem?_cons_succ, List.getElem?_nil, List.set_cons_zero, List.set_cons_succ, List.length_cons, List.length_nil, List.map_cons, List.map_nil, List.replicate, List.nil_append, List.cons_append, List.append_nil, Option.some.injEq, exists_eq_left', exists_eq_left, exists_eq', exists_eq, true_and, and_true, Vl.d.injEq, Vl.nw.injEq, Vl.sl.injEq, Dt.int.injEq, Dt.bl.injEq, Dt.str.injEq, Dt.lst.injEq, Dt.tup.injEq, Dt.byt.injEq, Dt.ty.injEq, Dt.ref.injEq, En.val.injEq, En.mu.injEq, En.bor.injEq, List.cons.injEq, Nat.reduceLT, Nat.reduceAdd, Nat.reduceSub, Nat.zero_add, and_self, ↓reduceIte, Bool.false_eq_true, reduceCtorEq, false_and, and_false, exists_const, exists_false, or_false, false_or, Nat.reduceEqDiff, Option.map_some, Option.getD_some, Option.getD_none, and_assoc, exists_and_left, exists_and_right, rCall_f, rCall_g, f_pre, f_post, g_pre, g_post, g_exc, Prod.forall, Prod.exists, Prod.mk.injEq, exists_const, forall_const, argsD, conP, entD, remP, flagsP, flagAt, putP, aft, Ct.dt.injEq, forall_eq, forall_eq', forall_const, implies_true, false_implies, and_imp, forall_exists_index, forall_apply_eq_imp_iff, List.length_append, retD, rFor_L, asgLc, rLc_L, riList, riTup, riStr, riRange1, riRange2, riEnum, riRev, rgName, rgTup, rgCons, rgNil, wipeE, unw, rYes, rAsgG, rAsgSub, roSetL, rBM, rBM0, roAppend, roOwn0, isa_no, isa_bl, isa_in, isa_st, isa_by, isa_ls, isa_tu, isa_di, beq_self_eq_true, Bool.or_true, Bool.true_or, Bool.or_false, Bool.false_or, Bool.or_self, Bool.not_true, Bool.not_false, Bool.and_true, Bool.true_and, Bool.and_false, Bool.false_and, String.reduceBEq, String.reduceEq, not_true_eq_false, not_false_eq_true, rSlL', roNone, roSome, roCat, D.trk, rRaise0, rRaise1, excD, rTry, rEx, wMixD, goneD, List.isEmpty_nil, if_true, List.length_singleton, Nat.reduceLeDiff, Nat.reducePow, Int.reducePow, Int.reduceLT, Int.reduceLE, Int.reduceNeg, Int.reduceToNat, ne_str, emp_eq]
    rw [take_succ_at hs, List.filter_append, List.map_append]
    by_cases h0 : s.length = 0
    · rw [if_neg (by rw [decide_eq_true h0]; decide)]
      simp [h0]
    · rw [if_pos (by rw [decide_eq_false h0]; decide)]
      simp [h0]
  rintro acc η' hl' ⟨rfl, rfl⟩
  rw [List.length_map, List.take_length, ← hps]
  simp (maxSteps := 3000000) only [roSplit, roStr1, rSlSt, rSlBy, rRevL, TruD, rOrT, rAndT, rMake_g, roCatT, roRep, rMeth, rFld, rSetF, rXfn, rXf, lk_eq, putD, Dt.ins.injEq, Dt.exn.injEq, RleS, RMulS, roJoin, rRet, rRetN, rSeq, rIfS, rAsg, rVar, ofEn, rC, rOp, rUn, roP, rCB, rCons, rNil, rAndV, rOrV, rNotV, rB, rAnd, rOr, rNot, rIf, rTup, rLst, rDrop, rNext, rNever, look, frz, frzs, looks, held, roIsi, roF1, roL1, roNeg, rDNew, startE, ents, ent, csOf, unal, finds, RI0, RI, int_in, int_bl, len_ls, len_tu, len_st, len_by, at0, at1, at2, at3, ix30, ix31, ix32, eq_ii, ne_ii, eq_by, ne_by, notin_c, in_c, D.rChain, RIxA, roTupOf, RListOf, RListB, List.findSome?, List.getElem?_cons_zero, List.getElem?_cons_succ, List.getElem?_nil, List.set_cons_zero, List.set_cons_succ, List.length_cons, List.length_nil, List.map_cons, List.map_nil, List.replicate, List.nil_append, List.cons_append, List.append_nil, Option.some.injEq, exists_eq_left', exists_eq_left, exists_eq', exists_eq, true_and, and_true, Vl.d.injEq, Vl.nw.injEq, Vl.sl.injEq, Dt.int.injEq, Dt.bl.injEq, Dt.str.injEq, Dt.lst.injEq, Dt.tup.injEq, Dt.byt.injEq, Dt.ty.injEq, Dt.ref.injEq, En.val.injEq, En.mu.injEq, En.bor.injEq, List.cons.injEq, Nat.reduceLT, Nat.reduceAdd, Nat.reduceSub, Nat.zero_add, and_self, ↓reduceIte, Bool.false_eq_true, reduceCtorEq, false_and, and_false, exists_const, exists_false, or_false, false_or, Nat.reduceEqDiff, Option.map_some, Option.getD_some, Option.getD_none, and_assoc, exists_and_left, exists_and_right, rCall_f, rCall_g, f_pre, f_post, g_pre, g_post, g_exc, Prod.forall, Prod.exists, Prod.mk.injEq, exists_const, forall_const, argsD, conP, entD, remP, flagsP, flagAt, putP, aft, Ct.dt.injEq, forall_eq, forall_eq', forall_const, implies_true, false_implies, and_imp, forall_exists_index, forall_apply_eq_imp_iff, List.length_append, retD, rFor_L, asgLc, rLc_L, riList, riTup, riStr, riRange1, riRange2, riEnum, riRev, rgName, rgTup, rgCons, rgNil, wipeE, unw, rYes, rAsgG, rAsgSub, roSetL, rBM, rBM0, roAppend, roOwn0, isa_no, isa_bl, isa_in, isa_st, isa_by, isa_ls, isa_tu, isa_di, beq_self_eq_true, Bool.or_true, Bool.true_or, Bool.or_false, Bool.false_or, Bool.or_self, Bool.not_true, Bool.not_false, Bool.and_true, Bool.true_and, Bool.and_false, Bool.false_and, String.reduceBEq, String.reduceEq, not_true_eq_false, not_false_eq_true, rSlL', roNone, roSome, roCat, D.trk, rRaise0, rRaise1, excD, rTry, rEx, wMixD, goneD, List.isEmpty_nil, if_true, List.length_singleton, Nat.reduceLeDiff, Nat.reducePow, Int.reducePow, Int.reduceLT, Int.reduceLE, Int.reduceNeg, Int.reduceToNat, ms_law_row, S_row, ms_law_next, S_draw, ms_law_pick, S_one, items]
  subst e1
  refine sg fun U1 e1 => ?_
  simp (maxSteps := 3000000) only [roSplit, roStr1, rSlSt, rSlBy, rRevL, TruD, rOrT, rAndT, rMake_g, roCatT, roRep, rMeth, rFld, rSetF, rXfn, rXf, lk_eq, putD, Dt.ins.injEq, Dt.exn.injEq, RleS, RMulS, roJoin, rRet, rRetN, rSeq, rIfS, rAsg, rVar, ofEn, rC, rOp, rUn, roP, rCB, rCons, rNil, rAndV, rOrV, rNotV, rB, rAnd, rOr, rNot, rIf, rTup, rLst, rDrop, rNext, rNever, look, frz, frzs, looks, held, roIsi, roF1, roL1, roNeg, rDNew, startE, ents, ent, csOf, unal, finds, RI0, RI, int_in, int_bl, len_ls, len_tu, len_st, len_by, at0, at1, at2, at3, ix30, ix31, ix32, eq_ii, ne_ii, eq_by, ne_by, notin_c, in_c, D.rChain, RIxA, roTupOf, RListOf, RListB, List.findSome?, List.getElem?_cons_zero, List.getElem?_cons_succ, List.getElem?_nil, List.set_cons_zero, List.set_cons_succ, List.length_cons, List.length_nil, List.map_cons, List.map_nil, List.replicate, List.nil_append, List.cons_append, List.append_nil, Option.some.injEq, exists_eq_left', exists_eq_left, exists_eq', exists_eq, true_and, and_true, Vl.d.injEq, Vl.nw.injEq, Vl.sl.injEq, Dt.int.injEq, Dt.bl.injEq, Dt.str.injEq, Dt.lst.injEq, Dt.tup.injEq, Dt.byt.injEq, Dt.ty.injEq, Dt.ref.injEq, En.val.injEq, En.mu.injEq, En.bor.injEq, List.cons.injEq, Nat.reduceLT, Nat.reduceAdd, Nat.reduceSub, Nat.zero_add, and_self, ↓reduceIte, Bool.false_eq_true, reduceCtorEq, false_and, and_false, exists_const, exists_false, or_false, false_or, Nat.reduceEqDiff, Option.map_some, Option.getD_some, Option.getD_none, and_assoc, exists_and_left, exists_and_right, rCall_f, rCall_g, f_pre, f_post, g_pre, g_post, g_exc, Prod.forall, Prod.exists, Prod.mk.injEq, exists_const, forall_const, argsD, conP, entD, remP, flagsP, flagAt, putP, aft, Ct.dt.injEq, forall_eq, forall_eq', forall_const, implies_true, false_implies, and_imp, forall_exists_index, forall_apply_eq_imp_iff, List.length_append, retD, rFor_L, asgLc, rLc_L, riList, riTup, riStr, riRange1, riRange2, riEnum, riRev, rgName, rgTup, rgCons, rgNil, wipeE, unw, rYes, rAsgG, rAsgSub, roSetL, rBM, rBM0, roAppend, roOwn0, isa_no, isa_bl, isa_in, isa_st, isa_by, isa_ls, isa_tu, isa_di, beq_self_eq_true, Bool.or_true, Bool.true_or, Bool.or_false, Bool.false_or, Bool.or_self, Bool.not_true, Bool.not_false, Bool.and_true, Bool.true_and, Bool.and_false, Bool.false_and, String.reduceBEq, String.reduceEq, not_true_eq_false, not_false_eq_true, rSlL', roNone, roSome, roCat, D.trk, rRaise0, rRaise1, excD, rTry, rEx, wMixD, goneD, List.isEmpty_nil, if_true, List.length_singleton, Nat.reduceLeDiff, Nat.reducePow, Int.reducePow, Int.reduceLT, Int.reduceLE, Int.reduceNeg, Int.reduceToNat, ms_law_row, S_row, ms_law_word, S_word, ms_law_next, S_draw, ms_law_pick, S_one, items]
  refine ⟨hw, by omega, fun s0 w1 hw1 hc1 hs0 => ?_⟩
  subst e1
  refine sg fun U1 e1 => ?_
  simp (maxSteps := 3000000) only [roSplit, roStr1, rSlSt, rSlBy, rRevL, TruD, rOrT, rAndT, rMake_g, roCatT, roRep, rMeth, rFld, rSetF, rXfn, rXf, lk_eq, putD, Dt.ins.injEq, Dt.exn.injEq, RleS, RMulS, roJoin, rRet, rRetN, rSeq, rIfS, rAsg, rVar, ofEn, rC, rOp, rUn, roP, rCB, rCons, rNil, rAndV, rOrV, rNotV, rB, rAnd, rOr, rNot, rIf, rTup, rLst, rDrop, rNext, rNever, look, frz, frzs, looks, held, roIsi, roF1, roL1, roNeg, rDNew, startE, ents, ent, csOf, unal, finds, RI0, RI, int_in, int_bl, len_ls, len_tu, len_st, len_by, at0, at1, at2, at3, ix30, ix31, ix32, eq_ii, ne_ii, eq_by, ne_by, notin_c, in_c, D.rChain, RIxA, roTupOf, RListOf, RListB, List.findSome?, List.getElem?_cons_zero, List.getElem?_cons_succ, List.getElem?_nil, List.set_cons_zero, List.set_cons_succ, List.length_cons, List.length_nil, List.map_cons, List.map_nil, List.replicate, List.nil_append, List.cons_append, List.append_nil, Option.some.injEq, exists_eq_left', exists_eq_left, exists_eq', exists_eq, true_and, and_true, Vl.d.injEq, Vl.nw.injEq, Vl.sl.injEq, Dt.int.injEq, Dt.bl.injEq, Dt.str.injEq, Dt.lst.injEq, Dt.tup.injEq, Dt.byt.injEq, Dt.ty.injEq, Dt.ref.injEq, En.val.injEq, En.mu.injEq, En.bor.injEq, List.cons.injEq, Nat.reduceLT, Nat.reduceAdd, Nat.reduceSub, Nat.zero_add, and_self, ↓reduceIte, Bool.false_eq_true, reduceCtorEq, false_and, and_false, exists_const, exists_false, or_false, false_or, Nat.reduceEqDiff, Option.map_some, Option.getD_some, Option.getD_none, and_assoc, exists_and_left, exists_and_right, rCall_f, rCall_g, f_pre, f_post, g_pre, g_post, g_exc, Prod.forall, Prod.exists, Prod.mk.injEq, exists_const, forall_const, argsD, conP, entD, remP, flagsP, flagAt, putP, aft, Ct.dt.injEq, forall_eq, forall_eq', forall_const, implies_true, false_implies, and_imp, forall_exists_index, forall_apply_eq_imp_iff, List.length_append, retD, rFor_L, asgLc, rLc_L, riList, riTup, riStr, riRange1, riRange2, riEnum, riRev, rgName, rgTup, rgCons, rgNil, wipeE, unw, rYes, rAsgG, rAsgSub, roSetL, rBM, rBM0, roAppend, roOwn0, isa_no, isa_bl, isa_in, isa_st, isa_by, isa_ls, isa_tu, isa_di, beq_self_eq_true, Bool.or_true, Bool.true_or, Bool.or_false, Bool.false_or, Bool.or_self, Bool.not_true, Bool.not_false, Bool.and_true, Bool.true_and, Bool.and_false, Bool.false_and, String.reduceBEq, String.reduceEq, not_true_eq_false, not_false_eq_true, rSlL', roNone, roSome, roCat, D.trk, rRaise0, rRaise1, excD, rTry, rEx, wMixD, goneD, List.isEmpty_nil, if_true, List.length_singleton, Nat.reduceLeDiff, Nat.reducePow, Int.reducePow, Int.reduceLT, Int.reduceLE, Int.reduceNeg, Int.reduceToNat, ms_law_row, S_row, ms_law_word, S_word, ne_nilP (pd_strs ps) (by decide), ms_law_next, S_draw, ms_law_pick, S_one, items]
  have hgo : ∀ (s' : Str) w', goodS s' → wOk w' → cnt w' ≤ cnt w + 14 → U1 [some (.mu (some 0) (.dt w')), some (.bor (.lst (ss.map .str))), some (.mu none (.dt (.lst (ps.map .str)))), some (.val (.str s')), none] := by
    intro s' w' hg hw' hc'
    obtain ⟨hg1, hg2, hg3⟩ := hg
    subst e1
    refine sg fun U1 e1 => ?_
    simp (maxSteps := 3000000) only [roSplit, roStr1, rSlSt, rSlBy, rRevL, TruD, rOrT, rAndT, rMake_g, roCatT, roRep, rMeth, rFld, rSetF, rXfn, rXf, lk_eq, putD, Dt.ins.injEq, Dt.exn.injEq, RleS, RMulS, roJoin, rRet, rRetN, rSeq, rIfS, rAsg, rVar, ofEn, rC, rOp, rUn, roP, rCB, rCons, rNil, rAndV, rOrV, rNotV, rB, rAnd, rOr, rNot, rIf, rTup, rLst, rDrop, rNext, rNever, look, frz, frzs, looks, held, roIsi, roF1, roL1, roNeg, rDNew, startE, ents, ent, csOf, unal, finds, RI0, RI, int_in, int_bl, len_ls, len_tu, len_st, len_by, at0, at1, at2, at3, ix30, ix31, ix32, eq_ii, ne_ii, eq_by, ne_by, notin_c, in_c, D.rChain, RIxA, roTupOf, RListOf, RListB, List.findSome?, List.getElem?_cons_zero, List.getElem?_cons_succ, List.getElem?_nil, List.set_cons_zero, List.set_cons_succ, List.length_cons, List.length_nil, List.map_cons, List.map_nil, List.replicate, List.nil_append, List.cons_append, List.append_nil, Option.some.injEq, exists_eq_left', exists_eq_left, exists_eq', exists_eq, true_and, and_true, Vl.d.injEq, Vl.nw.injEq, Vl.sl.injEq, Dt.int.injEq, Dt.bl.injEq, Dt.str.injEq, Dt.lst.injEq, Dt.tup.injEq, Dt.byt.injEq, Dt.ty.injEq, Dt.ref.injEq, En.val.injEq, En.mu.injEq, En.bor.injEq, List.cons.injEq, Nat.reduceLT, Nat.reduceAdd, Nat.reduceSub, Nat.zero_add, and_self, ↓reduceIte, Bool.false_eq_true, reduceCtorEq, false_and, and_false, exists_const, exists_false, or_false, false_or, Nat.reduceEqDiff, Option.map_some, Option.getD_some, Option.getD_none, and_assoc, exists_and_left, exists_and_right, rCall_f, rCall_g, f_pre, f_post, g_pre, g_post, g_exc, Prod.forall, Prod.exists, Prod.mk.injEq, exists_const, forall_const, argsD, conP, entD, remP, flagsP, flagAt, putP, aft, Ct.dt.injEq, forall_eq, forall_eq', forall_const, implies_true, false_implies, and_imp, forall_exists_index, forall_apply_eq_imp_iff, List.length_append, retD, rFor_L, asgLc, rLc_L, riList, riTup, riStr, riRange1, riRange2, riEnum, riRev, rgName, rgTup, rgCons, rgNil, wipeE, unw, rYes, rAsgG, rAsgSub, roSetL, rBM, rBM0, roAppend, roOwn0, isa_no, isa_bl, isa_in, isa_st, isa_by, isa_ls, isa_tu, isa_di, beq_self_eq_true, Bool.or_true, Bool.true_or, Bool.or_false, Bool.false_or, Bool.or_self, Bool.not_true, Bool.not_false, Bool.and_true, Bool.true_and, Bool.and_false, Bool.false_and, String.reduceBEq, String.reduceEq, not_true_eq_false, not_false_eq_true, rSlL', roNone, roSome, roCat, D.trk, rRaise0, rRaise1, excD, rTry, rEx, wMixD, goneD, List.isEmpty_nil, if_true, List.length_singleton, Nat.reduceLeDiff, Nat.reducePow, Int.reducePow, Int.reduceLT, Int.reduceLE, Int.reduceNeg, Int.reduceToNat, ms_law_next, S_draw, ms_law_pick, S_one, items]
    have hgo2 : ∀ (s'' : Str) w'', goodS s'' → wOk w'' → cnt w'' ≤ cnt w + 16 → U1 [some (.mu (some 0) (.dt w'')), some (.bor (.lst (ss.map .str))), some (.mu none (.dt (.lst (ps.map .str)))), some (.val (.str s'')), none] := by
      rintro s'' w'' ⟨hg1, hg2, hg3⟩ hw'' hc''
      subst e1
      simp (maxSteps := 3000000) only [roSplit, roStr1, rSlSt, rSlBy, rRevL, TruD, rOrT, rAndT, rMake_g, roCatT, roRep, rMeth, rFld, rSetF, rXfn, rXf, lk_eq, putD, Dt.ins.injEq, Dt.exn.injEq, RleS, RMulS, roJoin, rRet, rRetN, rSeq, rIfS, rAsg, rVar, ofEn, rC, rOp, rUn, roP, rCB, rCons, rNil, rAndV, rOrV, rNotV, rB, rAnd, rOr, rNot, rIf, rTup, rLst, rDrop, rNext, rNever, look, frz, frzs, looks, held, roIsi, roF1, roL1, roNeg, rDNew, startE, ents, ent, csOf, unal, finds, RI0, RI, int_in, int_bl, len_ls, len_tu, len_st, len_by, at0, at1, at2, at3, ix30, ix31, ix32, eq_ii, ne_ii, eq_by, ne_by, notin_c, in_c, D.rChain, RIxA, roTupOf, RListOf, RListB, List.findSome?, List.getElem?_cons_zero, List.getElem?_cons_succ, List.getElem?_nil, List.set_cons_zero, List.set_cons_succ, List.length_cons, List.length_nil, List.map_cons, List.map_nil, List.replicate, List.nil_append, List.cons_append, List.append_nil, Option.some.injEq, exists_eq_left', exists_eq_left, exists_eq', exists_eq, true_and, and_true, Vl.d.injEq, Vl.nw.injEq, Vl.sl.injEq, Dt.int.injEq, Dt.bl.injEq, Dt.str.injEq, Dt.lst.injEq, Dt.tup.injEq, Dt.byt.injEq, Dt.ty.injEq, Dt.ref.injEq, En.val.injEq, En.mu.injEq, En.bor.injEq, List.cons.injEq, Nat.reduceLT, Nat.reduceAdd, Nat.reduceSub, Nat.zero_add, and_self, ↓reduceIte, Bool.false_eq_true, reduceCtorEq, false_and, and_false, exists_const, exists_false, or_false, false_or, Nat.reduceEqDiff, Option.map_some, Option.getD_some, Option.getD_none, and_assoc, exists_and_left, exists_and_right, rCall_f, rCall_g, f_pre, f_post, g_pre, g_post, g_exc, Prod.forall, Prod.exists, Prod.mk.injEq, exists_const, forall_const, argsD, conP, entD, remP, flagsP, flagAt, putP, aft, Ct.dt.injEq, forall_eq, forall_eq', forall_const, implies_true, false_implies, and_imp, forall_exists_index, forall_apply_eq_imp_iff, List.length_append, retD, rFor_L, asgLc, rLc_L, riList, riTup, riStr, riRange1, riRange2, riEnum, riRev, rgName, rgTup, rgCons, rgNil, wipeE, unw, rYes, rAsgG, rAsgSub, roSetL, rBM, rBM0, roAppend, roOwn0, isa_no, isa_bl, isa_in, isa_st, isa_by, isa_ls, isa_tu, isa_di, beq_self_eq_true, Bool.or_true, Bool.true_or, Bool.or_false, Bool.false_or, Bool.or_self, Bool.not_true, Bool.not_false, Bool.and_true, Bool.true_and, Bool.and_false, Bool.false_and, String.reduceBEq, String.reduceEq, not_true_eq_false, not_false_eq_true, rSlL', roNone, roSome, roCat, D.trk, rRaise0, rRaise1, excD, rTry, rEx, wMixD, goneD, List.isEmpty_nil, if_true, List.length_singleton, Nat.reduceLeDiff, Nat.reducePow, Int.reducePow, Int.reduceLT, Int.reduceLE, Int.reduceNeg, Int.reduceToNat, ms_law_row, S_row, ms_law_next, S_draw, ms_law_pick, S_one, items]
      refine ⟨hw'', by omega, by simp, fun x w3 hw3 hc3 hx => ⟨by omega, _, w3, hw3, by omega, ?_, rfl, rfl⟩⟩
      have hA : inAF x = true := by
        simp only [List.mem_cons, List.mem_nil_iff, or_false] at hx
        rcases hx with rfl | rfl <;> rfl
      have ec := cutS_lo s'' (i := 20) (by decide)
      have el := cutS_len (z := s'') (i := 20) (by decide)
      have hm2 : ∀ c ∈ (cutS s'' none (some 20)).cps.toList, okC c = true ∧ c ≠ 32 := by
        rw [ec]
        exact fun c hc => hg3 c (List.mem_of_mem_take hc)
      rw [row_pair, hA]
      simp only [plainS, Bool.true_and]
      rw [List.all_eq_true.mpr fun c hc => (hm2 c hc).1, decide_eq_true (by rw [el]; omega), decide_eq_true (by rw [el]; omega), decide_eq_false fun m => (hm2 32 m).2 rfl]
      rfl
    refine ⟨hw', by omega, fun a w2 hw2 hc2 h1 h2 => ?_⟩
    by_cases h0 : a = 0
    · rw [if_pos (decide_eq_true h0)]
      refine ⟨by omega, hw2, by omega, by omega, by omega, fun a2 w3 hw3 hc3 h3 h4 => ⟨by omega, hgo2 _ w3 ⟨?_, ?_, ?_⟩ hw3 (by omega)⟩⟩
      · rw [cutS_len (by omega)]
        omega
      · rw [cutS_len (by omega)]
        omega
      · intro c hc
        rw [cutS_lo _ (by omega)] at hc
        exact hg3 c (List.mem_of_mem_take hc)
    · rw [if_neg (by rw [decide_eq_false h0]; decide)]
      exact hgo2 s' w2 ⟨hg1, hg2, hg3⟩ hw2 (by omega)
  by_cases hp : List.map Dt.str ps = []
  · rw [if_neg (by rw [decide_eq_true hp]; decide)]
    exact hgo s0 w1 ⟨hs0.1, Nat.le_trans hs0.2.1 (by decide), hs0.2.2⟩ hw1 (by omega)
  · rw [if_pos (by rw [decide_eq_false hp]; decide)]
    refine ⟨hw1, by omega, fun a w2 hw2 hc2 h1 h2 => ?_⟩
    by_cases h0 : 0 < a
    · rw [if_pos (decide_eq_true h0)]
      refine ⟨hw2, by omega, hp, by rw [List.length_map, hps]; exact Nat.lt_of_le_of_lt (List.length_filter_le _ _) (by omega), fun x w3 hw3 hc3 hx => ?_⟩
      obtain ⟨s', hs', rfl⟩ := List.mem_map.mp hx
      rw [hps, List.mem_filter] at hs'
      obtain ⟨q1, q2⟩ := hss s' hs'.1
      refine hgo s' w3 ⟨?_, q2, q1⟩ hw3 (by omega)
      have := hs'.2
      simp at this
      omega
    · rw [if_neg (by rw [decide_eq_false h0]; decide)]
      exact hgo s0 w2 ⟨hs0.1, Nat.le_trans hs0.2.1 (by decide), hs0.2.2⟩ hw2 (by omega)
/-! #### _law_bare -/
abbrev s_law_bare : Stmt := top 20
abbrev N_law_bare : List Str := ["_law_word_here", "_law_found", "_law_k"]
abbrev P_law_bare : List Str := ["_law_word_here"]
abbrev ms_law_bare : List Md := [.v]
theorem sc_law_bare : FnScope N_law_bare P_law_bare (defScope s_law_bare) := ⟨rfl, rfl, rfl, by decide +kernel, rfl, by decide +kernel, by decide +kernel⟩
theorem ok_law_bare {P : Program} {w : World} {K : PySem.W.Frag} {mg : Str → Option Value} {base : Heap} {f : Addr} {fd : FuncData} {c_FellError c_NoCleaner c_Cleaner : Addr} (G : Gs K mg c_FellError c_NoCleaner c_Cleaner) (X_NoCleaner : ExO P w K mg base "NoCleaner" c_NoCleaner "at") (K_Cleaner : ClF K mg "Cleaner" c_Cleaner) (nA_Cleaner_rows : NoAttr K c_Cleaner "rows") (F : Fun K "_law_bare" "_law_bare" s_law_bare f fd) (mf : mg "_law_bare" = some (.ref f)) :
    Hs P w K mg base CX0 1 "_law_bare" P_law_bare (toSp K ms_law_bare (S_wofig)) := by
  refine ⟨f, fd, ?_, mf, F.kp, F.binds (ps := P_law_bare) fun _ _ _ _ _ _ us hl => match us, hl with | [_], _ => rfl⟩
  refine F.ok sc_law_bare (fun vs H Q E h => toSp_len h) (fun cdv A outer s H vs Q E hr h => ?_)
  have hu := hr.units
  refine ⟨_, pss_cons (ps_set (i := 1) sc_law_bare.nd rfl (by first | exact Or.inl rfl | exact Or.inr rfl) (pe_str)) (pss_cons (ps_set (i := 2) sc_law_bare.nd rfl (by first | exact Or.inl rfl | exact Or.inr rfl) (pe_int)) (pss_cons (ps_while PassesOwn.never (pt_cmpR (op_lt) (pv 2) (pe_callB call_len rfl G.b_len (by decide +kernel) (pa_cons (pv 0) (pa_nil))) (nomark _)) (pss_one (ps_if (pt_cmpR ((op_notInA hu)) (pe_ix ix_seq (pv 0) (pv 2) (fun _ _ => rfl)) (pe_str) (by rfl)) (pss_cons (ps_set (i := 1) sc_law_bare.nd rfl (by first | exact Or.inl rfl | exact Or.inr rfl) (pe_op op_add_str (pv 1) (pe_ix ix_seq (pv 0) (pv 2) (fun _ _ => rfl)))) (pss_one (ps_set (i := 2) sc_law_bare.nd rfl (by first | exact Or.inl rfl | exact Or.inr rfl) (pe_op op_add (pv 2) (pe_int))))) (pss_cons (ps_set (i := 1) sc_law_bare.nd rfl (by first | exact Or.inl rfl | exact Or.inr rfl) (pe_op op_add_str (pv 1) (pe_str))) (pss_one (ps_while PassesOwn.never (PW.pt (pw_and (pt_cmpR (op_lt) (pv 2) (pe_callB call_len rfl G.b_len (by decide +kernel) (pa_cons (pv 0) (pa_nil))) (nomark _)) (pw_and1 (pt_cmpR ((op_inA hu)) (pe_ix ix_seq (pv 0) (pv 2) (fun _ _ => rfl)) (pe_str) (by rfl))))) (pss_one (ps_set (i := 2) sc_law_bare.nd rfl (by first | exact Or.inl rfl | exact Or.inr rfl) (pe_op op_add (pv 2) (pe_int)))))))))) (pss_one (ps_ret (pv 1))))), ?_⟩
  refine run_body0 h (by decide) (fun as => ds_seq (ds_asg (de_str) 1) (ds_seq (ds_asg (de_int) 2) (ds_seq (ds_wh (dt_test (de_op (d2_P p2_ib) (de_var 2) (de_cb (dc_F1 f1_len) (da_cons (de_var 0) (da_nil))))) (ds_if (dt_test (de_op (d2_P p2_notIn) (de_op (d2_P p2_ix) (de_var 0) (de_var 2)) (de_str))) (ds_seq (ds_asg (de_op (d2_P p2_addS) (de_var 1) (de_op (d2_P p2_ix) (de_var 0) (de_var 2))) 1) (ds_asg (de_op (d2_P p2_ii) (de_var 2) (de_int)) 2)) (ds_seq (ds_asg (de_op (d2_P p2_addS) (de_var 1) (de_str)) 1) (ds_wh (dt_and (dt_test (de_op (d2_P p2_ib) (de_var 2) (de_cb (dc_F1 f1_len) (da_cons (de_var 0) (da_nil))))) (dt_test (de_op (d2_P p2_in) (de_op (d2_P p2_ix) (de_var 0) (de_var 2)) (de_str)))) (ds_asg (de_op (d2_P p2_ii) (de_var 2) (de_int)) 2))))) (ds_ret (de_var 1))))) (fun as hp hl => ?_)
  obtain ⟨s, rfl, hs⟩ := hp
  refine sg fun U1 e1 => ?_
  simp (maxSteps := 3000000) only [roSplit, roStr1, rSlSt, rSlBy, rRevL, TruD, rOrT, rAndT, rMake_g, roCatT, roRep, rMeth, rFld, rSetF, rXfn, rXf, lk_eq, putD, Dt.ins.injEq, Dt.exn.injEq, RleS, RMulS, roJoin, rRet, rRetN, rSeq, rIfS, rAsg, rVar, ofEn, rC, rOp, rUn, roP, rCB, rCons, rNil, rAndV, rOrV, rNotV, rB, rAnd, rOr, rNot, rIf, rTup, rLst, rDrop, rNext, rNever, look, frz, frzs, looks, held, roIsi, roF1, roL1, roNeg, rDNew, startE, ents, ent, csOf, unal, finds, RI0, RI, int_in, int_bl, len_ls, len_tu, len_st, len_by, at0, at1, at2, at3, ix30, ix31, ix32, eq_ii, ne_ii, eq_by, ne_by, notin_c, in_c, D.rChain, RIxA, roTupOf, RListOf, RListB, List.findSome?, List.getElem?_cons_zero, List.getElem?_cons_succ, List.getElem?_nil, List.set_cons_zero, List.set_cons_succ, List.length_cons, List.length_nil, List.map_cons, List.map_nil, List.replicate, List.nil_append, List.cons_append, List.append_nil, Option.some.injEq, exists_eq_left', exists_eq_left, exists_eq', exists_eq, true_and, and_true, Vl.d.injEq, Vl.nw.injEq, Vl.sl.injEq, Dt.int.injEq, Dt.bl.injEq, Dt.str.injEq, Dt.lst.injEq, Dt.tup.injEq, Dt.byt.injEq, Dt.ty.injEq, Dt.ref.injEq, En.val.injEq, En.mu.injEq, En.bor.injEq, List.cons.injEq, Nat.reduceLT, Nat.reduceAdd, Nat.reduceSub, Nat.zero_add, and_self, ↓reduceIte, Bool.false_eq_true, reduceCtorEq, false_and, and_false, exists_const, exists_false, or_false, false_or, Nat.reduceEqDiff, Option.map_some, Option.getD_some, Option.getD_none, and_assoc, exists_and_left, exists_and_right, rCall_f, rCall_g, f_pre, f_post, g_pre, g_post, g_exc, Prod.forall, Prod.exists, Prod.mk.injEq, exists_const, forall_const, argsD, conP, entD, remP, flagsP, flagAt, putP, aft, Ct.dt.injEq, forall_eq, forall_eq', forall_const, implies_true, false_implies, and_imp, forall_exists_index, forall_apply_eq_imp_iff, List.length_append, retD, rFor_L, asgLc, rLc_L, riList, riTup, riStr, riRange1, riRange2, riEnum, riRev, rgName, rgTup, rgCons, rgNil, wipeE, unw, rYes, rAsgG, rAsgSub, roSetL, rBM, rBM0, roAppend, roOwn0, isa_no, isa_bl, isa_in, isa_st, isa_by, isa_ls, isa_tu, isa_di, beq_self_eq_true, Bool.or_true, Bool.true_or, Bool.or_false, Bool.false_or, Bool.or_self, Bool.not_true, Bool.not_false, Bool.and_true, Bool.true_and, Bool.and_false, Bool.false_and, String.reduceBEq, String.reduceEq, not_true_eq_false, not_false_eq_true, rSlL', roNone, roSome, roCat, D.trk, rRaise0, rRaise1, excD, rTry, rEx, wMixD, goneD, List.isEmpty_nil, if_true, List.length_singleton, Nat.reduceLeDiff, Nat.reducePow, Int.reducePow, Int.reduceLT, Int.reduceLE, Int.reduceNeg, Int.reduceToNat, ms_law_bare, S_wofig]
  subst e1
  refine sg fun U1 e1 => ?_
  simp (maxSteps := 3000000) only [roSplit, roStr1, rSlSt, rSlBy, rRevL, TruD, rOrT, rAndT, rMake_g, roCatT, roRep, rMeth, rFld, rSetF, rXfn, rXf, lk_eq, putD, Dt.ins.injEq, Dt.exn.injEq, RleS, RMulS, roJoin, rRet, rRetN, rSeq, rIfS, rAsg, rVar, ofEn, rC, rOp, rUn, roP, rCB, rCons, rNil, rAndV, rOrV, rNotV, rB, rAnd, rOr, rNot, rIf, rTup, rLst, rDrop, rNext, rNever, look, frz, frzs, looks, held, roIsi, roF1, roL1, roNeg, rDNew, startE, ents, ent, csOf, unal, finds, RI0, RI, int_in, int_bl, len_ls, len_tu, len_st, len_by, at0, at1, at2, at3, ix30, ix31, ix32, eq_ii, ne_ii, eq_by, ne_by, notin_c, in_c, D.rChain, RIxA, roTupOf, RListOf, RListB, List.findSome?, List.getElem?_cons_zero, List.getElem?_cons_succ, List.getElem?_nil, List.set_cons_zero, List.set_cons_succ, List.length_cons, List.length_nil, List.map_cons, List.map_nil, List.replicate, List.nil_append, List.cons_append, List.append_nil, Option.some.injEq, exists_eq_left', exists_eq_left, exists_eq', exists_eq, true_and, and_true, Vl.d.injEq, Vl.nw.injEq, Vl.sl.injEq, Dt.int.injEq, Dt.bl.injEq, Dt.str.injEq, Dt.lst.injEq, Dt.tup.injEq, Dt.byt.injEq, Dt.ty.injEq, Dt.ref.injEq, En.val.injEq, En.mu.injEq, En.bor.injEq, List.cons.injEq, Nat.reduceLT, Nat.reduceAdd, Nat.reduceSub, Nat.zero_add, and_self, ↓reduceIte, Bool.false_eq_true, reduceCtorEq, false_and, and_false, exists_const, exists_false, or_false, false_or, Nat.reduceEqDiff, Option.map_some, Option.getD_some, Option.getD_none, and_assoc, exists_and_left, exists_and_right, rCall_f, rCall_g, f_pre, f_post, g_pre, g_post, g_exc, Prod.forall, Prod.exists, Prod.mk.injEq, exists_const, forall_const, argsD, conP, entD, remP, flagsP, flagAt, putP, aft, Ct.dt.injEq, forall_eq, forall_eq', forall_const, implies_true, false_implies, and_imp, forall_exists_index, forall_apply_eq_imp_iff, List.length_append, retD, rFor_L, asgLc, rLc_L, riList, riTup, riStr, riRange1, riRange2, riEnum, riRev, rgName, rgTup, rgCons, rgNil, wipeE, unw, rYes, rAsgG, rAsgSub, roSetL, rBM, rBM0, roAppend, roOwn0, isa_no, isa_bl, isa_in, isa_st, isa_by, isa_ls, isa_tu, isa_di, beq_self_eq_true, Bool.or_true, Bool.true_or, Bool.or_false, Bool.false_or, Bool.or_self, Bool.not_true, Bool.not_false, Bool.and_true, Bool.true_and, Bool.and_false, Bool.false_and, String.reduceBEq, String.reduceEq, not_true_eq_false, not_false_eq_true, rSlL', roNone, roSome, roCat, D.trk, rRaise0, rRaise1, excD, rTry, rEx, wMixD, goneD, List.isEmpty_nil, if_true, List.length_singleton, Nat.reduceLeDiff, Nat.reducePow, Int.reducePow, Int.reduceLT, Int.reduceLE, Int.reduceNeg, Int.reduceToNat, ms_law_bare, S_wofig]
  subst e1
  refine sg fun U1 e1 => ?_
  have hsl := len_list s
  refine lw_of (fun m η' => ∃ acc k, k ≤ s.length ∧ m = s.length - k ∧ bareF false s.cps.toList = acc ++ bareF false (s.cps.toList.drop k) ∧ acc.length ≤ k ∧ η' = [some (.val (.str s)), some (.val (.str (mkS acc))), some (.val (.int (k : Int)))]) s.length ⟨[], 0, Nat.zero_le _, rfl, rfl, Nat.le_refl _, rfl⟩ ?_
  rintro m η' ⟨acc, k, hk, rfl, he, hl, rfl⟩
  simp (maxSteps := 3000000) only [roSplit, roStr1, rSlSt, rSlBy, rRevL, TruD, rOrT, rAndT, rMake_g, roCatT, roRep, rMeth, rFld, rSetF, rXfn, rXf, lk_eq, putD, Dt.ins.injEq, Dt.exn.injEq, RleS, RMulS, roJoin, rRet, rRetN, rSeq, rIfS, rAsg, rVar, ofEn, rC, rOp, rUn, roP, rCB, rCons, rNil, rAndV, rOrV, rNotV, rB, rAnd, rOr, rNot, rIf, rTup, rLst, rDrop, rNext, rNever, look, frz, frzs, looks, held, roIsi, roF1, roL1, roNeg, rDNew, startE, ents, ent, csOf, unal, finds, RI0, RI, int_in, int_bl, len_ls, len_tu, len_st, len_by, at0, at1, at2, at3, ix30, ix31, ix32, eq_ii, ne_ii, eq_by, ne_by, notin_c, in_c, D.rChain, RIxA, roTupOf, RListOf, RListB, List.findSome?, List.getElem?_cons_zero, List.getElem?_cons_succ, List.getElem?_nil, List.set_cons_zero, List.set_cons_succ, List.length_cons, List.length_nil, List.map_cons, List.map_nil, List.replicate, List.nil_append, List.cons_append, List.append_nil, Option.some.injEq, exists_eq_left', exists_eq_left, exists_eq', exists_eq, true_and, and_true, Vl.d.injEq, Vl.nw.injEq, Vl.sl.injEq, Dt.int.injEq, Dt.bl.injEq, Dt.str.injEq, Dt.lst.injEq, Dt.tup.injEq, Dt.byt.injEq, Dt.ty.injEq, Dt.ref.injEq, En.val.injEq, En.mu.injEq, En.bor.injEq, List.cons.injEq, Nat.reduceLT, Nat.reduceAdd, Nat.reduceSub, Nat.zero_add, and_self, ↓reduceIte, Bool.false_eq_true, reduceCtorEq, false_and, and_false, exists_const, exists_false, or_false, false_or, Nat.reduceEqDiff, Option.map_some, Option.getD_some, Option.getD_none, and_assoc, exists_and_left, exists_and_right, rCall_f, rCall_g, f_pre, f_post, g_pre, g_post, g_exc, Prod.forall, Prod.exists, Prod.mk.injEq, exists_const, forall_const, argsD, conP, entD, remP, flagsP, flagAt, putP, aft, Ct.dt.injEq, forall_eq, forall_eq', forall_const, implies_true, false_implies, and_imp, forall_exists_index, forall_apply_eq_imp_iff, List.length_append, retD, rFor_L, asgLc, rLc_L, riList, riTup, riStr, riRange1, riRange2, riEnum, riRev, rgName, rgTup, rgCons, rgNil, wipeE, unw, rYes, rAsgG, rAsgSub, roSetL, rBM, rBM0, roAppend, roOwn0, isa_no, isa_bl, isa_in, isa_st, isa_by, isa_ls, isa_tu, isa_di, beq_self_eq_true, Bool.or_true, Bool.true_or, Bool.or_false, Bool.false_or, Bool.or_self, Bool.not_true, Bool.not_false, Bool.and_true, Bool.true_and, Bool.and_false, Bool.false_and, String.reduceBEq, String.reduceEq, not_true_eq_false, not_false_eq_true, rSlL', roNone, roSome, roCat, D.trk, rRaise0, rRaise1, excD, rTry, rEx, wMixD, goneD, List.isEmpty_nil, if_true, List.length_singleton, Nat.reduceLeDiff, Nat.reducePow, Int.reducePow, Int.reduceLT, Int.reduceLE, Int.reduceNeg, Int.reduceToNat]
  refine ⟨by omega, ?_⟩
  by_cases hkl : k < s.length
  · rw [if_pos (decide_eq_true (by omega : (k : Int) < s.length))]
    obtain ⟨c, hc1, hc2⟩ := at_ix (l := s.cps.toList) (i := (k : Int)) (by omega) (by omega)
    rw [show ((k : Int)).toNat = k by omega] at hc2
    refine ⟨by omega, _, ⟨c, hc1, rfl⟩, .bl (!digC c), by rw [notin_c]; rfl, _, rfl, ?_⟩
    rw [drop_at hc2, bareF] at he
    cases hg : digC c with
    | false =>
      rw [hg, if_neg (by decide)] at he
      rw [if_pos (by decide)]
      refine ⟨by omega, _, ⟨c, hc1, rfl⟩, .str (mkS acc ++ ⟨#[c]⟩), ⟨_, _, rfl, rfl, by rw [mkS_len]; show _ + 1 ≤ _; omega, rfl⟩, ?_⟩
      refine ⟨s.length - (k + 1), by omega, acc ++ [c], k + 1, by omega, rfl, by rw [he]; simp, by simp; omega, ?_⟩
      rw [mkS_app]
      push_cast
      rfl
    | true =>
      rw [hg, if_pos rfl, if_neg (by decide)] at he
      rw [if_neg (by decide)]
      refine ⟨.str (mkS (acc ++ [35])), ⟨mkS acc, Str.ofString "#", rfl, rfl, by rw [mkS_len]; show _ + 1 ≤ _; omega, by rw [← mkS_app]; rfl⟩, ?_⟩
      have he' : bareF false s.cps.toList = acc ++ [35] ++ bareF true (s.cps.toList.drop k) := by
        rw [he, drop_at hc2, bareF, hg]
        simp
      refine lw_of (fun m η' => ∃ k', k ≤ k' ∧ k' ≤ s.length ∧ m = s.length - k' ∧ bareF false s.cps.toList = acc ++ [35] ++ bareF true (s.cps.toList.drop k') ∧ η' = [some (.val (.str s)), some (.val (.str (mkS (acc ++ [35])))), some (.val (.int (k' : Int)))]) (s.length - k) ⟨k, by omega, by omega, rfl, he', rfl⟩ ?_
      rintro m η' ⟨k', h1, h2, rfl, he2, rfl⟩
      simp (maxSteps := 3000000) only [roSplit, roStr1, rSlSt, rSlBy, rRevL, TruD, rOrT, rAndT, rMake_g, roCatT, roRep, rMeth, rFld, rSetF, rXfn, rXf, lk_eq, putD, Dt.ins.injEq, Dt.exn.injEq, RleS, RMulS, roJoin, rRet, rRetN, rSeq, rIfS, rAsg, rVar, ofEn, rC, rOp, rUn, roP, rCB, rCons, rNil, rAndV, rOrV, rNotV, rB, rAnd, rOr, rNot, rIf, rTup, rLst, rDrop, rNext, rNever, look, frz, frzs, looks, held, roIsi, roF1, roL1, roNeg, rDNew, startE, ents, ent, csOf, unal, finds, RI0, RI, int_in, int_bl, len_ls, len_tu, len_st, len_by, at0, at1, at2, at3, ix30, ix31, ix32, eq_ii, ne_ii, eq_by, ne_by, notin_c, in_c, D.rChain, RIxA, roTupOf, RListOf, RListB, List.findSome?, List.getElem?_cons_zero, List.getElem?_cons_succ, List.getElem?_nil, List.set_cons_zero, List.set_cons_succ, List.length_cons, List.length_nil, List.map_cons, List.map_nil, List.replicate, List.nil_append, List.cons_append, List.append_nil, Option.some.injEq, exists_eq_left', exists_eq_left, exists_eq', exists_eq, true_and, and_true, Vl.d.injEq, Vl.nw.injEq, Vl.sl.injEq, Dt.int.injEq, Dt.bl.injEq, Dt.str.injEq, Dt.lst.injEq, Dt.tup.injEq, Dt.byt.injEq, Dt.ty.injEq, Dt.ref.injEq, En.val.injEq, En.mu.injEq, En.bor.injEq, List.cons.injEq, Nat.reduceLT, Nat.reduceAdd, Nat.reduceSub, Nat.zero_add, and_self, ↓reduceIte, Bool.false_eq_true, reduceCtorEq, false_and, and_false, exists_const, exists_false, or_false, false_or, Nat.reduceEqDiff, Option.map_some, Option.getD_some, Option.getD_none, and_assoc, exists_and_left, exists_and_right, rCall_f, rCall_g, f_pre, f_post, g_pre, g_post, g_exc, Prod.forall, Prod.exists, Prod.mk.injEq, exists_const, forall_const, argsD, conP, entD, remP, flagsP, flagAt, putP, aft, Ct.dt.injEq, forall_eq, forall_eq', forall_const, implies_true, false_implies, and_imp, forall_exists_index, forall_apply_eq_imp_iff, List.length_append, retD, rFor_L, asgLc, rLc_L, riList, riTup, riStr, riRange1, riRange2, riEnum, riRev, rgName, rgTup, rgCons, rgNil, wipeE, unw, rYes, rAsgG, rAsgSub, roSetL, rBM, rBM0, roAppend, roOwn0, isa_no, isa_bl, isa_in, isa_st, isa_by, isa_ls, isa_tu, isa_di, beq_self_eq_true, Bool.or_true, Bool.true_or, Bool.or_false, Bool.false_or, Bool.or_self, Bool.not_true, Bool.not_false, Bool.and_true, Bool.true_and, Bool.and_false, Bool.false_and, String.reduceBEq, String.reduceEq, not_true_eq_false, not_false_eq_true, rSlL', roNone, roSome, roCat, D.trk, rRaise0, rRaise1, excD, rTry, rEx, wMixD, goneD, List.isEmpty_nil, if_true, List.length_singleton, Nat.reduceLeDiff, Nat.reducePow, Int.reducePow, Int.reduceLT, Int.reduceLE, Int.reduceNeg, Int.reduceToNat]
      refine ⟨by omega, ?_⟩
      by_cases hkl' : k' < s.length
      · rw [if_pos (decide_eq_true (by omega : (k' : Int) < s.length))]
        obtain ⟨c', hc1', hc2'⟩ := at_ix (l := s.cps.toList) (i := (k' : Int)) (by omega) (by omega)
        rw [show ((k' : Int)).toNat = k' by omega] at hc2'
        refine ⟨by omega, _, ⟨c', hc1', rfl⟩, .bl (digC c'), by rw [in_c]; rfl, _, rfl, ?_⟩
        have he3 := he2
        rw [drop_at hc2', bareF] at he3
        cases hg' : digC c' with
        | true =>
          rw [hg', if_pos rfl, if_pos rfl] at he3
          rw [if_pos rfl]
          exact ⟨s.length - (k' + 1), by omega, k' + 1, by omega, by omega, rfl, he3, by push_cast; rfl⟩
        | false =>
          rw [hg', if_neg (by decide)] at he3
          rw [if_neg (by decide)]
          have hne : k ≠ k' := by
            rintro rfl
            rw [hc2] at hc2'
            cases hc2'
            rw [hg] at hg'
            cases hg'
          refine ⟨s.length - k', by omega, acc ++ [35], k', by omega, rfl, ?_, by simp; omega, rfl⟩
          rw [he3, drop_at hc2', bareF, hg', if_neg (by decide)]
      · rw [if_neg (by rw [decide_eq_false (by omega : ¬ (k' : Int) < s.length)]; decide)]
        refine ⟨s.length - k', by omega, acc ++ [35], k', h2, rfl, ?_, by simp; omega, rfl⟩
        rw [he2, List.drop_eq_nil_of_le (by omega)]
        rfl
  · rw [if_neg (by rw [decide_eq_false (by omega : ¬ (k : Int) < s.length)]; decide)]
    rw [List.drop_eq_nil_of_le (by omega), bareF, List.append_nil] at he
    subst e1
    simp (maxSteps := 3000000) only [roSplit, roStr1, rSlSt, rSlBy, rRevL, TruD, rOrT, rAndT, rMake_g, roCatT, roRep, rMeth, rFld, rSetF, rXfn, rXf, lk_eq, putD, Dt.ins.injEq, Dt.exn.injEq, RleS, RMulS, roJoin, rRet, rRetN, rSeq, rIfS, rAsg, rVar, ofEn, rC, rOp, rUn, roP, rCB, rCons, rNil, rAndV, rOrV, rNotV, rB, rAnd, rOr, rNot, rIf, rTup, rLst, rDrop, rNext, rNever, look, frz, frzs, looks, held, roIsi, roF1, roL1, roNeg, rDNew, startE, ents, ent, csOf, unal, finds, RI0, RI, int_in, int_bl, len_ls, len_tu, len_st, len_by, at0, at1, at2, at3, ix30, ix31, ix32, eq_ii, ne_ii, eq_by, ne_by, notin_c, in_c, D.rChain, RIxA, roTupOf, RListOf, RListB, List.findSome?, List.getElem?_cons_zero, List.getElem?_cons_succ, List.getElem?_nil, List.set_cons_zero, List.set_cons_succ, List.length_cons, List.length_nil, List.map_cons, List.map_nil, List.replicate, List.nil_append, List.cons_append, List.append_nil, Option.some.injEq, exists_eq_left', exists_eq_left, exists_eq', exists_eq, true_and, and_true, Vl.d.injEq, Vl.nw.injEq, Vl.sl.injEq, Dt.int.injEq, Dt.bl.injEq, Dt.str.injEq, Dt.lst.injEq, Dt.tup.injEq, Dt.byt.injEq, Dt.ty.injEq, Dt.ref.injEq, En.val.injEq, En.mu.injEq, En.bor.injEq, List.cons.injEq, Nat.reduceLT, Nat.reduceAdd, Nat.reduceSub, Nat.zero_add, and_self, ↓reduceIte, Bool.false_eq_true, reduceCtorEq, false_and, and_false, exists_const, exists_false, or_false, false_or, Nat.reduceEqDiff, Option.map_some, Option.getD_some, Option.getD_none, and_assoc, exists_and_left, exists_and_right, rCall_f, rCall_g, f_pre, f_post, g_pre, g_post, g_exc, Prod.forall, Prod.exists, Prod.mk.injEq, exists_const, forall_const, argsD, conP, entD, remP, flagsP, flagAt, putP, aft, Ct.dt.injEq, forall_eq, forall_eq', forall_const, implies_true, false_implies, and_imp, forall_exists_index, forall_apply_eq_imp_iff, List.length_append, retD, rFor_L, asgLc, rLc_L, riList, riTup, riStr, riRange1, riRange2, riEnum, riRev, rgName, rgTup, rgCons, rgNil, wipeE, unw, rYes, rAsgG, rAsgSub, roSetL, rBM, rBM0, roAppend, roOwn0, isa_no, isa_bl, isa_in, isa_st, isa_by, isa_ls, isa_tu, isa_di, beq_self_eq_true, Bool.or_true, Bool.true_or, Bool.or_false, Bool.false_or, Bool.or_self, Bool.not_true, Bool.not_false, Bool.and_true, Bool.true_and, Bool.and_false, Bool.false_and, String.reduceBEq, String.reduceEq, not_true_eq_false, not_false_eq_true, rSlL', roNone, roSome, roCat, D.trk, rRaise0, rRaise1, excD, rTry, rEx, wMixD, goneD, List.isEmpty_nil, if_true, List.length_singleton, Nat.reduceLeDiff, Nat.reducePow, Int.reducePow, Int.reduceLT, Int.reduceLE, Int.reduceNeg, Int.reduceToNat, ms_law_bare, S_wofig]
    rw [bareS, he]
/-! #### _law_due -/
abbrev s_law_due : Stmt := top 21
abbrev N_law_due : List Str := ["_law_rows", "_law_some", "_law_found", "_law_k", "_law_word_here", "_law_ahead", "_law_is_begun", "_law_is_after", "_law_one", "_law_row_here"]
abbrev P_law_due : List Str := ["_law_rows", "_law_some"]
abbrev ms_law_due : List Md := [.b, .b]
theorem sc_law_due : FnScope N_law_due P_law_due (defScope s_law_due) := ⟨rfl, rfl, rfl, by decide +kernel, rfl, by decide +kernel, by decide +kernel⟩
theorem ok_law_due {P : Program} {w : World} {K : PySem.W.Frag} {mg : Str → Option Value} {base : Heap} {f : Addr} {fd : FuncData} {c_FellError c_NoCleaner c_Cleaner : Addr} (G : Gs K mg c_FellError c_NoCleaner c_Cleaner) (h0 : Hs P w K mg base CX0 1 "_law_bare" P_law_bare (toSp K ms_law_bare (S_wofig))) (X_NoCleaner : ExO P w K mg base "NoCleaner" c_NoCleaner "at") (K_Cleaner : ClF K mg "Cleaner" c_Cleaner) (nA_Cleaner_rows : NoAttr K c_Cleaner "rows") (F : Fun K "_law_due" "_law_due" s_law_due f fd) (mf : mg "_law_due" = some (.ref f)) :
    Hs P w K mg base CX0 2 "_law_due" P_law_due (toSp K ms_law_due (S_due)) := by
  obtain ⟨f0, fd0, F0, m0, k0, b0⟩ := h0
  refine ⟨f, fd, ?_, mf, F.kp, F.binds (ps := P_law_due) fun _ _ _ _ _ _ us hl => match us, hl with | [_, _], _ => rfl⟩
  refine F.ok sc_law_due (fun vs H Q E h => toSp_len h) (fun cdv A outer s H vs Q E hr h => ?_)
  have hu := hr.units
  refine ⟨_, pss_cons (ps_set (i := 2) sc_law_due.nd rfl (by first | exact Or.inl rfl | exact Or.inr rfl) (pe_lst (pa_nil))) (pss_cons (ps_for PassesOwn.never rfl (pi_enum rfl G.b_enumerate (pa_cons (pv 1) (pa_nil))) (pg_tup rfl (pgs_cons (pg_name (i := 3) sc_law_due.nd rfl (by first | exact Or.inl rfl | exact Or.inr rfl | exact .inr (.inl rfl) | exact .inr (.inr rfl))) (pgs_cons (pg_name (i := 4) sc_law_due.nd rfl (by first | exact Or.inl rfl | exact Or.inr rfl | exact .inr (.inl rfl) | exact .inr (.inr rfl))) (pgs_nil)))) (pss_cons (ps_setLc (i := 5) (own := [("_law_one", 8)]) (tt := _) rfl sc_law_due.nd rfl rfl (sw_true rfl rfl rfl (by decide +kernel)) (pi_list (pe_slice sl_list (pv 1) (po_none) (po_some (pv 3)))) (blkOk_by (N := N_law_due) (sc := defScope s_law_due) (by decide +kernel)) (fun _ _ _ _ _ => pg_name (i := 8) sc_law_due.nd rfl (by first | exact Or.inl rfl | exact Or.inr rfl | exact .inr (.inl rfl) | exact .inr (.inr rfl))) (fun _ _ _ _ _ => pts_one (pt_cmpR ((show OpR _ _ (rNeA K) from op_neA hu)) (pv 8) (pe_str) (nomark _))) (fun _ _ _ _ _ => pv 8)) (pss_cons (ps_set (i := 6) sc_law_due.nd rfl (by first | exact Or.inl rfl | exact Or.inr rfl) (pe_cmpR ((op_neA hu)) (pe_lc (own := [("_law_row_here", 9)]) (tt := _) rfl sc_law_due.nd (pi_list (pv 0)) (blkOk_by (N := N_law_due) (sc := defScope s_law_due) (by decide +kernel)) (fun _ _ _ _ _ => pg_name (i := 9) sc_law_due.nd rfl (by first | exact Or.inl rfl | exact Or.inr rfl | exact .inr (.inl rfl) | exact .inr (.inr rfl))) (fun _ _ _ _ _ => pts_one (PW.pt (pw_and (pt_cmpR ((show OpR _ _ (rEqA K) from op_eqA hu)) (pe_ix (show IxR _ (rIx K) from ix_seq) (pv 9) (pe_int) (fun _ _ => rfl)) (pe_str) (nomark _)) (pw_and1 (pt_cmpR ((show OpR _ _ (rEqA K) from op_eqA hu)) (pe_slice sl_str (pv 4) (po_none) (po_some (pe_callB (show CallR _ _ (rLenK K) from call_len) rfl G.b_len (by decide +kernel) (pa_cons (pe_ix (show IxR _ (rIx K) from ix_seq) (pv 9) (pe_int) (fun _ _ => rfl)) (pa_nil))))) (pe_ix (show IxR _ (rIx K) from ix_seq) (pv 9) (pe_int) (fun _ _ => rfl)) (nomark _)))))) (fun _ _ _ _ _ => pv 9)) (pe_lst (pa_nil)) (nomark _))) (pss_cons (ps_set (i := 7) sc_law_due.nd rfl (by first | exact Or.inl rfl | exact Or.inr rfl) (pe_and (pe_cmpR ((op_neA hu)) (pv 5) (pe_lst (pa_nil)) (nomark _)) (pe_one (pe_cmpR ((op_inA hu)) (pe_tup (pa_cons (pe_str) (pa_cons (pe_ix ix_seq (pv 5) (pe_un un_neg (pe_int)) (fun _ _ => rfl)) (pa_nil)))) (pv 0) (by rfl))))) (pss_one (ps_if (pt_cmpR ((op_eqA hu)) (pv 4) (pe_str) (nomark _)) (pss_one (ps_expr (pe_bm PySem.F.plainAttrs_list PySem.F.slot_list_append PySem.F.type_list_append mt_append (pv 2) (pa_cons (pe_str) (pa_nil))))) (pss_one (ps_if (PW.pt (pw_or (pt_val (pv 6)) (pw_or1 (pt_val (pv 7))))) (pss_one (ps_expr (pe_bm PySem.F.plainAttrs_list PySem.F.slot_list_append PySem.F.type_list_append mt_append (pv 2) (pa_cons (pe_str) (pa_nil))))) (pss_one (ps_expr (pe_bm PySem.F.plainAttrs_list PySem.F.slot_list_append PySem.F.type_list_append mt_append (pv 2) (pa_cons (pe_callS (E := (fun _ => E0)) F0 (hr.mono (by decide)) rfl m0 k0 b0 (fun _ => fun _ _ _ _ _ _ h => h.elim) (pa_cons (pv 4) (pa_nil))) (pa_nil))))))))))))) (pss_one (ps_ret (pe_bm PySem.F.plainAttrs_str PySem.F.slot_str_join PySem.F.type_str_join mt_join (pe_str) (pa_cons (pv 2) (pa_nil)))))), ?_⟩
  refine run_body0 h (by decide) (fun as => ds_seq (ds_asg (de_lst (da_nil)) 2) (ds_seq (ds_for (di_enum (da_cons (de_var 1) (da_nil))) (dg_tup (dgs_cons (dg_name 3) (dgs_cons (dg_name 4) (dgs_nil)))) (ds_seq (ds_asg (de_lc (vs := [8]) (di_list (de_slL (de_var 1) (do_none) (do_some (de_var 3)))) (dg_name 8) (dt_test (de_op (d2_P p2_ne) (de_var 8) (de_str))) (de_var 8) (by decide)) 5) (ds_seq (ds_asg (de_op (d2_P p2_ne) (de_lc (vs := [9]) (di_list (de_var 0)) (dg_name 9) (dt_and (dt_test (de_op (d2_P p2_eq) (de_op (d2_P p2_ix) (de_var 9) (de_int)) (de_str))) (dt_test (de_op (d2_P p2_eq) (de_slS (de_var 4) (do_none) (do_some (de_cb (dc_F1 f1_len) (da_cons (de_op (d2_P p2_ix) (de_var 9) (de_int)) (da_nil))))) (de_op (d2_P p2_ix) (de_var 9) (de_int))))) (de_var 9) (by decide)) (de_lst (da_nil))) 6) (ds_seq (ds_asg (de_andV (de_op (d2_P p2_ne) (de_var 5) (de_lst (da_nil))) (de_op (d2_P p2_in) (de_tup (da_cons (de_str) (da_cons (de_op (d2_P p2_ix) (de_var 5) (de_un d1_neg (de_int))) (da_nil)))) (de_var 0))) 7) (ds_if (dt_test (de_op (d2_P p2_eq) (de_var 4) (de_str))) (ds_drop (de_bm dm_append (de_var 2) (da_cons (de_str) (da_nil)))) (ds_if (dt_or (dt_B (de_var 6)) (dt_B (de_var 7))) (ds_drop (de_bm dm_append (de_var 2) (da_cons (de_str) (da_nil)))) (ds_drop (de_bm dm_append (de_var 2) (da_cons (de_callS (X := W0) (ms := ms_law_bare) (S := S_wofig) (fun _ _ _ _ h => h.elim) (da_cons (de_var 4) (da_nil))) (da_nil)))))))))) (ds_ret (de_bm dm_join (de_str) (da_cons (de_var 2) (da_nil)))))) (fun as hp hl => ?_)
  obtain ⟨rs, ss, rfl, hrs, hss, hl, hsum⟩ := hp
  refine sg fun U1 e1 => ?_
  simp (maxSteps := 3000000) only [roSplit, roStr1, rSlSt, rSlBy, rRevL, TruD, rOrT, rAndT, rMake_g, roCatT, roRep, rMeth, rFld, rSetF, rXfn, rXf, lk_eq, putD, Dt.ins.injEq, Dt.exn.injEq, RleS, RMulS, roJoin, rRet, rRetN, rSeq, rIfS, rAsg, rVar, ofEn, rC, rOp, rUn, roP, rCB, rCons, rNil, rAndV, rOrV, rNotV, rB, rAnd, rOr, rNot, rIf, rTup, rLst, rDrop, rNext, rNever, look, frz, frzs, looks, held, roIsi, roF1, roL1, roNeg, rDNew, startE, ents, ent, csOf, unal, finds, RI0, RI, int_in, int_bl, len_ls, len_tu, len_st, len_by, at0, at1, at2, at3, ix30, ix31, ix32, eq_ii, ne_ii, eq_by, ne_by, notin_c, in_c, D.rChain, RIxA, roTupOf, RListOf, RListB, List.findSome?, List.getElem?_cons_zero, List.getElem?_cons_succ, List.getElem?_nil, List.set_cons_zero, List.set_cons_succ, List.length_cons, List.length_nil, List.map_cons, List.map_nil, List.replicate, List.nil_append, List.cons_append, List.append_nil, Option.some.injEq, exists_eq_left', exists_eq_left, exists_eq', exists_eq, true_and, and_true, Vl.d.injEq, Vl.nw.injEq, Vl.sl.injEq, Dt.int.injEq, Dt.bl.injEq, Dt.str.injEq, Dt.lst.injEq, Dt.tup.injEq, Dt.byt.injEq, Dt.ty.injEq, Dt.ref.injEq, En.val.injEq, En.mu.injEq, En.bor.injEq, List.cons.injEq, Nat.reduceLT, Nat.reduceAdd, Nat.reduceSub, Nat.zero_add, and_self, ↓reduceIte, Bool.false_eq_true, reduceCtorEq, false_and, and_false, exists_const, exists_false, or_false, false_or, Nat.reduceEqDiff, Option.map_some, Option.getD_some, Option.getD_none, and_assoc, exists_and_left, exists_and_right, rCall_f, rCall_g, f_pre, f_post, g_pre, g_post, g_exc, Prod.forall, Prod.exists, Prod.mk.injEq, exists_const, forall_const, argsD, conP, entD, remP, flagsP, flagAt, putP, aft, Ct.dt.injEq, forall_eq, forall_eq', forall_const, implies_true, false_implies, and_imp, forall_exists_index, forall_apply_eq_imp_iff, List.length_append, retD, rFor_L, asgLc, rLc_L, riList, riTup, riStr, riRange1, riRange2, riEnum, riRev, rgName, rgTup, rgCons, rgNil, wipeE, unw, rYes, rAsgG, rAsgSub, roSetL, rBM, rBM0, roAppend, roOwn0, isa_no, isa_bl, isa_in, isa_st, isa_by, isa_ls, isa_tu, isa_di, beq_self_eq_true, Bool.or_true, Bool.true_or, Bool.or_false, Bool.false_or, Bool.or_self, Bool.not_true, Bool.not_false, Bool.and_true, Bool.true_and, Bool.and_false, Bool.false_and, String.reduceBEq, String.reduceEq, not_true_eq_false, not_false_eq_true, rSlL', roNone, roSome, roCat, D.trk, rRaise0, rRaise1, excD, rTry, rEx, wMixD, goneD, List.isEmpty_nil, if_true, List.length_singleton, Nat.reduceLeDiff, Nat.reducePow, Int.reducePow, Int.reduceLT, Int.reduceLE, Int.reduceNeg, Int.reduceToNat, ms_law_due, S_due]
  subst e1
  refine sg fun U1 e1 => ?_
  simp (maxSteps := 3000000) only [roSplit, roStr1, rSlSt, rSlBy, rRevL, TruD, rOrT, rAndT, rMake_g, roCatT, roRep, rMeth, rFld, rSetF, rXfn, rXf, lk_eq, putD, Dt.ins.injEq, Dt.exn.injEq, RleS, RMulS, roJoin, rRet, rRetN, rSeq, rIfS, rAsg, rVar, ofEn, rC, rOp, rUn, roP, rCB, rCons, rNil, rAndV, rOrV, rNotV, rB, rAnd, rOr, rNot, rIf, rTup, rLst, rDrop, rNext, rNever, look, frz, frzs, looks, held, roIsi, roF1, roL1, roNeg, rDNew, startE, ents, ent, csOf, unal, finds, RI0, RI, int_in, int_bl, len_ls, len_tu, len_st, len_by, at0, at1, at2, at3, ix30, ix31, ix32, eq_ii, ne_ii, eq_by, ne_by, notin_c, in_c, D.rChain, RIxA, roTupOf, RListOf, RListB, List.findSome?, List.getElem?_cons_zero, List.getElem?_cons_succ, List.getElem?_nil, List.set_cons_zero, List.set_cons_succ, List.length_cons, List.length_nil, List.map_cons, List.map_nil, List.replicate, List.nil_append, List.cons_append, List.append_nil, Option.some.injEq, exists_eq_left', exists_eq_left, exists_eq', exists_eq, true_and, and_true, Vl.d.injEq, Vl.nw.injEq, Vl.sl.injEq, Dt.int.injEq, Dt.bl.injEq, Dt.str.injEq, Dt.lst.injEq, Dt.tup.injEq, Dt.byt.injEq, Dt.ty.injEq, Dt.ref.injEq, En.val.injEq, En.mu.injEq, En.bor.injEq, List.cons.injEq, Nat.reduceLT, Nat.reduceAdd, Nat.reduceSub, Nat.zero_add, and_self, ↓reduceIte, Bool.false_eq_true, reduceCtorEq, false_and, and_false, exists_const, exists_false, or_false, false_or, Nat.reduceEqDiff, Option.map_some, Option.getD_some, Option.getD_none, and_assoc, exists_and_left, exists_and_right, rCall_f, rCall_g, f_pre, f_post, g_pre, g_post, g_exc, Prod.forall, Prod.exists, Prod.mk.injEq, exists_const, forall_const, argsD, conP, entD, remP, flagsP, flagAt, putP, aft, Ct.dt.injEq, forall_eq, forall_eq', forall_const, implies_true, false_implies, and_imp, forall_exists_index, forall_apply_eq_imp_iff, List.length_append, retD, rFor_L, asgLc, rLc_L, riList, riTup, riStr, riRange1, riRange2, riEnum, riRev, rgName, rgTup, rgCons, rgNil, wipeE, unw, rYes, rAsgG, rAsgSub, roSetL, rBM, rBM0, roAppend, roOwn0, isa_no, isa_bl, isa_in, isa_st, isa_by, isa_ls, isa_tu, isa_di, beq_self_eq_true, Bool.or_true, Bool.true_or, Bool.or_false, Bool.false_or, Bool.or_self, Bool.not_true, Bool.not_false, Bool.and_true, Bool.true_and, Bool.and_false, Bool.false_and, String.reduceBEq, String.reduceEq, not_true_eq_false, not_false_eq_true, rSlL', roNone, roSome, roCat, D.trk, rRaise0, rRaise1, excD, rTry, rEx, wMixD, goneD, List.isEmpty_nil, if_true, List.length_singleton, Nat.reduceLeDiff, Nat.reducePow, Int.reducePow, Int.reduceLT, Int.reduceLE, Int.reduceNeg, Int.reduceToNat, ms_law_due, S_due]
  have hcs := cleanL_sum rs none ss
  refine lp_of (fun i η' => ∃ acc c3 c4 c5 c6 c7, cleanL rs none ss = acc ++ cleanL rs (lastN (ss.take i)) (ss.drop i) ∧ acc.length = i ∧ η' = [some (.bor (.lst rs)), some (.bor (.lst (ss.map .str))), some (.mu none (.dt (.lst (acc.map .str)))), c3, c4, c5, c6, c7, none, none]) ⟨[], _, _, _, _, _, rfl, rfl, rfl⟩ ?_ ?_
  · rintro i x η' hx ⟨acc, c3, c4, c5, c6, c7, he, hl', rfl⟩
    obtain ⟨y, hy, rfl⟩ := enumD_get hx
    obtain ⟨w, hw, rfl⟩ := map_get hy
    have hwl : w.length ≤ 1000 := hss w (List.mem_of_getElem? hw)
    have hi : i < ss.length := (List.getElem?_eq_some_iff.mp hw).1
    rw [drop_at hw, cleanL] at he
    simp (maxSteps := 3000000) only [roSplit, roStr1, rSlSt, rSlBy, rRevL, TruD, rOrT, rAndT, rMake_g, roCatT, roRep, rMeth, rFld, rSetF, rXfn, rXf, lk_eq, putD, Dt.ins.injEq, Dt.exn.injEq, RleS, RMulS, roJoin, rRet, rRetN, rIfS, rAsg, rVar, ofEn, rC, rOp, rUn, roP, rCB, rCons, rNil, rAndV, rOrV, rNotV, rB, rAnd, rOr, rNot, rIf, rTup, rLst, rDrop, rNext, rNever, look, frz, frzs, looks, held, roIsi, roF1, roL1, roNeg, rDNew, startE, ents, ent, csOf, unal, finds, RI0, RI, int_in, int_bl, len_ls, len_tu, len_st, len_by, at0, at1, at2, at3, ix30, ix31, ix32, eq_ii, ne_ii, eq_by, ne_by, notin_c, in_c, D.rChain, RIxA, roTupOf, RListOf, RListB, List.findSome?, List.getElem?_cons_zero, List.getElem?_cons_succ, List.getElem?_nil, List.set_cons_zero, List.set_cons_succ, List.length_cons, List.length_nil, List.map_cons, List.map_nil, List.replicate, List.nil_append, List.cons_append, List.append_nil, Option.some.injEq, exists_eq_left', exists_eq_left, exists_eq', exists_eq, true_and, and_true, Vl.d.injEq, Vl.nw.injEq, Vl.sl.injEq, Dt.int.injEq, Dt.bl.injEq, Dt.str.injEq, Dt.lst.injEq, Dt.tup.injEq, Dt.byt.injEq, Dt.ty.injEq, Dt.ref.injEq, En.val.injEq, En.mu.injEq, En.bor.injEq, List.cons.injEq, Nat.reduceLT, Nat.reduceAdd, Nat.reduceSub, Nat.zero_add, and_self, ↓reduceIte, Bool.false_eq_true, reduceCtorEq, false_and, and_false, exists_const, exists_false, or_false, false_or, Nat.reduceEqDiff, Option.map_some, Option.getD_some, Option.getD_none, and_assoc, exists_and_left, exists_and_right, rCall_f, rCall_g, f_pre, f_post, g_pre, g_post, g_exc, Prod.forall, Prod.exists, Prod.mk.injEq, exists_const, forall_const, argsD, conP, entD, remP, flagsP, flagAt, putP, aft, Ct.dt.injEq, forall_eq, forall_eq', forall_const, implies_true, false_implies, and_imp, forall_exists_index, forall_apply_eq_imp_iff, List.length_append, retD, rFor_L, asgLc, rLc_L, riList, riTup, riStr, riRange1, riRange2, riEnum, riRev, rgName, rgTup, rgCons, rgNil, wipeE, unw, rYes, rAsgG, rAsgSub, roSetL, rBM, rBM0, roAppend, roOwn0, isa_no, isa_bl, isa_in, isa_st, isa_by, isa_ls, isa_tu, isa_di, beq_self_eq_true, Bool.or_true, Bool.true_or, Bool.or_false, Bool.false_or, Bool.or_self, Bool.not_true, Bool.not_false, Bool.and_true, Bool.true_and, Bool.and_false, Bool.false_and, String.reduceBEq, String.reduceEq, not_true_eq_false, not_false_eq_true, rSlL', roNone, roSome, roCat, D.trk, rRaise0, rRaise1, excD, rTry, rEx, wMixD, goneD, List.isEmpty_nil, if_true, List.length_singleton, Nat.reduceLeDiff, Nat.reducePow, Int.reducePow, Int.reduceLT, Int.reduceLE, Int.reduceNeg, Int.reduceToNat]
    refine ⟨rfl, ?_⟩
    refine sg fun U2 e2 => ?_
    simp (maxSteps := 3000000) only [roSplit, roStr1, rSlSt, rSlBy, rRevL, TruD, rOrT, rAndT, rMake_g, roCatT, roRep, rMeth, rFld, rSetF, rXfn, rXf, lk_eq, putD, Dt.ins.injEq, Dt.exn.injEq, RleS, RMulS, roJoin, rRet, rRetN, rSeq, rIfS, rAsg, rVar, ofEn, rC, rOp, rUn, roP, rCB, rCons, rNil, rAndV, rOrV, rNotV, rB, rAnd, rOr, rNot, rIf, rTup, rLst, rDrop, rNext, rNever, look, frz, frzs, looks, held, roIsi, roF1, roL1, roNeg, rDNew, startE, ents, ent, csOf, unal, finds, RI0, RI, int_in, int_bl, len_ls, len_tu, len_st, len_by, at0, at1, at2, at3, ix30, ix31, ix32, eq_ii, ne_ii, eq_by, ne_by, notin_c, in_c, D.rChain, RIxA, roTupOf, RListOf, RListB, List.findSome?, List.getElem?_cons_zero, List.getElem?_cons_succ, List.getElem?_nil, List.set_cons_zero, List.set_cons_succ, List.length_cons, List.length_nil, List.map_cons, List.map_nil, List.replicate, List.nil_append, List.cons_append, List.append_nil, Option.some.injEq, exists_eq_left', exists_eq_left, exists_eq', exists_eq, true_and, and_true, Vl.d.injEq, Vl.nw.injEq, Vl.sl.injEq, Dt.int.injEq, Dt.bl.injEq, Dt.str.injEq, Dt.lst.injEq, Dt.tup.injEq, Dt.byt.injEq, Dt.ty.injEq, Dt.ref.injEq, En.val.injEq, En.mu.injEq, En.bor.injEq, List.cons.injEq, Nat.reduceLT, Nat.reduceAdd, Nat.reduceSub, Nat.zero_add, and_self, ↓reduceIte, Bool.false_eq_true, reduceCtorEq, false_and, and_false, exists_const, exists_false, or_false, false_or, Nat.reduceEqDiff, Option.map_some, Option.getD_some, Option.getD_none, and_assoc, exists_and_left, exists_and_right, rCall_f, rCall_g, f_pre, f_post, g_pre, g_post, g_exc, Prod.forall, Prod.exists, Prod.mk.injEq, exists_const, forall_const, argsD, conP, entD, remP, flagsP, flagAt, putP, aft, Ct.dt.injEq, forall_eq, forall_eq', forall_const, implies_true, false_implies, and_imp, forall_exists_index, forall_apply_eq_imp_iff, List.length_append, retD, rFor_L, asgLc, rLc_L, riList, riTup, riStr, riRange1, riRange2, riEnum, riRev, rgName, rgTup, rgCons, rgNil, wipeE, unw, rYes, rAsgG, rAsgSub, roSetL, rBM, rBM0, roAppend, roOwn0, isa_no, isa_bl, isa_in, isa_st, isa_by, isa_ls, isa_tu, isa_di, beq_self_eq_true, Bool.or_true, Bool.true_or, Bool.or_false, Bool.false_or, Bool.or_self, Bool.not_true, Bool.not_false, Bool.and_true, Bool.true_and, Bool.and_false, Bool.false_and, String.reduceBEq, String.reduceEq, not_true_eq_false, not_false_eq_true, rSlL', roNone, roSome, roCat, D.trk, rRaise0, rRaise1, excD, rTry, rEx, wMixD, goneD, List.isEmpty_nil, if_true, List.length_singleton, Nat.reduceLeDiff, Nat.reducePow, Int.reducePow, Int.reduceLT, Int.reduceLE, Int.reduceNeg, Int.reduceToNat]
    rw [cut_lo _ (by omega) (by rw [List.length_map]; omega), show ((i : Int)).toNat = i by omega, ← List.map_take]
    obtain ⟨as, has⟩ : ∃ as, as = (ss.take i).filter fun s => !decide (s.length = 0) := ⟨_, rfl⟩
    have hln : lastN (ss.take i) = as.getLast? := by rw [lastN, has]
    refine lc_of (fun j acc' η' => η' = [some (.bor (.lst rs)), some (.bor (.lst (ss.map .str))), some (.mu none (.dt (.lst (acc.map .str)))), some (.val (.int i)), some (.val (.str w)), c5, c6, c7, none, none] ∧ acc' = (((ss.take i).take j).filter fun s => !decide (s.length = 0)).map .str) (by rw [List.length_map, List.length_take]; omega) ⟨rfl, rfl⟩ ?_ ?_
    · rintro j x acc' η' hx hl2 ⟨rfl, rfl⟩
      obtain ⟨s', hs, rfl⟩ := map_get hx
      simp (maxSteps := 3000000) only [roSplit, roStr1, rSlSt, rSlBy, rRevL, TruD, rOrT, rAndT, rMake_g, roCatT, roRep, rMeth, rFld, rSetF, rXfn, rXf, lk_eq, putD, Dt.ins.injEq, Dt.exn.injEq, RleS, RMulS, roJoin, rRet, rRetN, rSeq, rIfS, rAsg, rVar, ofEn, rC, rOp, rUn, roP, rCB, rCons, rNil, rAndV, rOrV, rNotV, rB, rAnd, rOr, rNot, rIf, rTup, rLst, rDrop, rNext, rNever, look, frz, frzs, looks, held, roIsi, roF1, roL1, roNeg, rDNew, startE, ents, ent, csOf, unal, finds, RI0, RI, int_in, int_bl, len_ls, len_tu, len_st, len_by, at0, at1, at2, at3, ix30, ix31, ix32, eq_ii, ne_ii, eq_by, ne_by, notin_c, in_c, D.rChain, RIxA, roTupOf, RListOf, RListB, List.findSome?, List.getElem?_cons_zero, List.getElem?_cons_succ, List.getElem?_nil, List.set_cons_zero, List.set_cons_succ, List.length_cons, List.length_nil, List.map_cons, List.map_nil, List.replicate, List.nil_append, List.cons_append, List.append_nil, Option.some.injEq, exists_eq_left', exists_eq_left, exists_eq', exists_eq, true_and, and_true, Vl.d.injEq, Vl.nw.injEq, Vl.sl.injEq, Dt.int.injEq, Dt.bl.injEq, Dt.str.injEq, Dt.lst.injEq, Dt.tup.injEq, Dt.byt.injEq, Dt.ty.injEq, Dt.ref.injEq, En.val.injEq, En.mu.injEq, En.bor.injEq, List.cons.injEq, Nat.reduceLT, Nat.reduceAdd, Nat.reduceSub, Nat.zero_add, and_self, ↓reduceIte, Bool.false_eq_true, reduceCtorEq, false_and, and_false, exists_const, exists_false, or_false, false_or, Nat.reduceEqDiff, Option.map_some, Option.getD_some, Option.getD_none, and_assoc, exists_and_left, exists_and_right, rCall_f, rCall_g, f_pre, f_post, g_pre, g_post, g_exc, Prod.forall, Prod.exists, Prod.mk.injEq, exists_const, forall_const, argsD, conP, entD, remP, flagsP, flagAt, putP, aft, Ct.dt.injEq, forall_eq, forall_eq', forall_const, implies_true, false_implies, and_imp, forall_exists_index, forall_apply_eq_imp_iff, List.length_append, retD, rFor_L, asgLc, rLc_L, riList, riTup, riStr, riRange1, riRange2, riEnum, riRev, rgName, rgTup, rgCons, rgNil, wipeE, unw, rYes, rAsgG, rAsgSub, roSetL, rBM, rBM0, roAppend, roOwn0, isa_no, isa_bl, isa_in, isa_st, isa_by, isa_ls, isa_tu, isa_di, beq_self_eq_true, Bool.or_true, Bool.true_or, Bool.or_false, Bool.false_or, Bool.or_self, Bool.not_true, Bool.not_false, Bool.and_true, Bool.true_and, Bool.and_false, Bool.false_and, String.reduceBEq, String.reduceEq, not_true_eq_false, not_false_eq_true, rSlL', roNone, roSome, roCat, D.trk, rRaise0, rRaise1, excD, rTry, rEx, wMixD, goneD, List.isEmpty_nil, if_true, List.length_singleton, Nat.reduceLeDiff, Nat.reducePow, Int.reducePow, Int.reduceLT, Int.reduceLE, Int.reduceNeg, Int.reduceToNat, ne_str, emp_eq]
      rw [take_succ_at hs, List.filter_append, List.map_append]
      by_cases h0 : s'.length = 0
      · rw [if_neg (by rw [decide_eq_true h0]; decide)]
        simp [h0]
      · rw [if_pos (by rw [decide_eq_false h0]; decide)]
        simp [h0]
    rintro acc' η' hl2 ⟨rfl, rfl⟩
    rw [List.length_map, List.take_length, ← has]
    simp (maxSteps := 3000000) only [roSplit, roStr1, rSlSt, rSlBy, rRevL, TruD, rOrT, rAndT, rMake_g, roCatT, roRep, rMeth, rFld, rSetF, rXfn, rXf, lk_eq, putD, Dt.ins.injEq, Dt.exn.injEq, RleS, RMulS, roJoin, rRet, rRetN, rSeq, rIfS, rAsg, rVar, ofEn, rC, rOp, rUn, roP, rCB, rCons, rNil, rAndV, rOrV, rNotV, rB, rAnd, rOr, rNot, rIf, rTup, rLst, rDrop, rNext, rNever, look, frz, frzs, looks, held, roIsi, roF1, roL1, roNeg, rDNew, startE, ents, ent, csOf, unal, finds, RI0, RI, int_in, int_bl, len_ls, len_tu, len_st, len_by, at0, at1, at2, at3, ix30, ix31, ix32, eq_ii, ne_ii, eq_by, ne_by, notin_c, in_c, D.rChain, RIxA, roTupOf, RListOf, RListB, List.findSome?, List.getElem?_cons_zero, List.getElem?_cons_succ, List.getElem?_nil, List.set_cons_zero, List.set_cons_succ, List.length_cons, List.length_nil, List.map_cons, List.map_nil, List.replicate, List.nil_append, List.cons_append, List.append_nil, Option.some.injEq, exists_eq_left', exists_eq_left, exists_eq', exists_eq, true_and, and_true, Vl.d.injEq, Vl.nw.injEq, Vl.sl.injEq, Dt.int.injEq, Dt.bl.injEq, Dt.str.injEq, Dt.lst.injEq, Dt.tup.injEq, Dt.byt.injEq, Dt.ty.injEq, Dt.ref.injEq, En.val.injEq, En.mu.injEq, En.bor.injEq, List.cons.injEq, Nat.reduceLT, Nat.reduceAdd, Nat.reduceSub, Nat.zero_add, and_self, ↓reduceIte, Bool.false_eq_true, reduceCtorEq, false_and, and_false, exists_const, exists_false, or_false, false_or, Nat.reduceEqDiff, Option.map_some, Option.getD_some, Option.getD_none, and_assoc, exists_and_left, exists_and_right, rCall_f, rCall_g, f_pre, f_post, g_pre, g_post, g_exc, Prod.forall, Prod.exists, Prod.mk.injEq, exists_const, forall_const, argsD, conP, entD, remP, flagsP, flagAt, putP, aft, Ct.dt.injEq, forall_eq, forall_eq', forall_const, implies_true, false_implies, and_imp, forall_exists_index, forall_apply_eq_imp_iff, List.length_append, retD, rFor_L, asgLc, rLc_L, riList, riTup, riStr, riRange1, riRange2, riEnum, riRev, rgName, rgTup, rgCons, rgNil, wipeE, unw, rYes, rAsgG, rAsgSub, roSetL, rBM, rBM0, roAppend, roOwn0, isa_no, isa_bl, isa_in, isa_st, isa_by, isa_ls, isa_tu, isa_di, beq_self_eq_true, Bool.or_true, Bool.true_or, Bool.or_false, Bool.false_or, Bool.or_self, Bool.not_true, Bool.not_false, Bool.and_true, Bool.true_and, Bool.and_false, Bool.false_and, String.reduceBEq, String.reduceEq, not_true_eq_false, not_false_eq_true, rSlL', roNone, roSome, roCat, D.trk, rRaise0, rRaise1, excD, rTry, rEx, wMixD, goneD, List.isEmpty_nil, if_true, List.length_singleton, Nat.reduceLeDiff, Nat.reducePow, Int.reducePow, Int.reduceLT, Int.reduceLE, Int.reduceNeg, Int.reduceToNat]
    subst e2
    refine sg fun U2 e2 => ?_
    simp (maxSteps := 3000000) only [roSplit, roStr1, rSlSt, rSlBy, rRevL, TruD, rOrT, rAndT, rMake_g, roCatT, roRep, rMeth, rFld, rSetF, rXfn, rXf, lk_eq, putD, Dt.ins.injEq, Dt.exn.injEq, RleS, RMulS, roJoin, rRet, rRetN, rSeq, rIfS, rAsg, rVar, ofEn, rC, rOp, rUn, roP, rCB, rCons, rNil, rAndV, rOrV, rNotV, rB, rAnd, rOr, rNot, rIf, rTup, rLst, rDrop, rNext, rNever, look, frz, frzs, looks, held, roIsi, roF1, roL1, roNeg, rDNew, startE, ents, ent, csOf, unal, finds, RI0, RI, int_in, int_bl, len_ls, len_tu, len_st, len_by, at0, at1, at2, at3, ix30, ix31, ix32, eq_ii, ne_ii, eq_by, ne_by, notin_c, in_c, D.rChain, RIxA, roTupOf, RListOf, RListB, List.findSome?, List.getElem?_cons_zero, List.getElem?_cons_succ, List.getElem?_nil, List.set_cons_zero, List.set_cons_succ, List.length_cons, List.length_nil, List.map_cons, List.map_nil, List.replicate, List.nil_append, List.cons_append, List.append_nil, Option.some.injEq, exists_eq_left', exists_eq_left, exists_eq', exists_eq, true_and, and_true, Vl.d.injEq, Vl.nw.injEq, Vl.sl.injEq, Dt.int.injEq, Dt.bl.injEq, Dt.str.injEq, Dt.lst.injEq, Dt.tup.injEq, Dt.byt.injEq, Dt.ty.injEq, Dt.ref.injEq, En.val.injEq, En.mu.injEq, En.bor.injEq, List.cons.injEq, Nat.reduceLT, Nat.reduceAdd, Nat.reduceSub, Nat.zero_add, and_self, ↓reduceIte, Bool.false_eq_true, reduceCtorEq, false_and, and_false, exists_const, exists_false, or_false, false_or, Nat.reduceEqDiff, Option.map_some, Option.getD_some, Option.getD_none, and_assoc, exists_and_left, exists_and_right, rCall_f, rCall_g, f_pre, f_post, g_pre, g_post, g_exc, Prod.forall, Prod.exists, Prod.mk.injEq, exists_const, forall_const, argsD, conP, entD, remP, flagsP, flagAt, putP, aft, Ct.dt.injEq, forall_eq, forall_eq', forall_const, implies_true, false_implies, and_imp, forall_exists_index, forall_apply_eq_imp_iff, List.length_append, retD, rFor_L, asgLc, rLc_L, riList, riTup, riStr, riRange1, riRange2, riEnum, riRev, rgName, rgTup, rgCons, rgNil, wipeE, unw, rYes, rAsgG, rAsgSub, roSetL, rBM, rBM0, roAppend, roOwn0, isa_no, isa_bl, isa_in, isa_st, isa_by, isa_ls, isa_tu, isa_di, beq_self_eq_true, Bool.or_true, Bool.true_or, Bool.or_false, Bool.false_or, Bool.or_self, Bool.not_true, Bool.not_false, Bool.and_true, Bool.true_and, Bool.and_false, Bool.false_and, String.reduceBEq, String.reduceEq, not_true_eq_false, not_false_eq_true, rSlL', roNone, roSome, roCat, D.trk, rRaise0, rRaise1, excD, rTry, rEx, wMixD, goneD, List.isEmpty_nil, if_true, List.length_singleton, Nat.reduceLeDiff, Nat.reducePow, Int.reducePow, Int.reduceLT, Int.reduceLE, Int.reduceNeg, Int.reduceToNat]
    refine lc_of (fun j acc' η' => η' = [some (.bor (.lst rs)), some (.bor (.lst (ss.map .str))), some (.mu none (.dt (.lst (acc.map .str)))), some (.val (.int i)), some (.val (.str w)), some (.mu none (.dt (.lst (as.map .str)))), c6, c7, none, none] ∧ acc' = (rs.take j).filter (fromB w)) (Nat.le_trans hrs.2 (by decide)) ⟨rfl, rfl⟩ ?_ ?_
    · rintro j x acc' η' hx hl2 ⟨rfl, rfl⟩
      obtain ⟨a, b, rfl⟩ := row_str (hrs.1 x (List.mem_of_getElem? hx))
      have hbl : b.length ≤ 1000 := (rowArg_row (hrs.1 _ (List.mem_of_getElem? hx))).2 _ _ rfl
      simp (maxSteps := 3000000) only [roSplit, roStr1, rSlSt, rSlBy, rRevL, TruD, rOrT, rAndT, rMake_g, roCatT, roRep, rMeth, rFld, rSetF, rXfn, rXf, lk_eq, putD, Dt.ins.injEq, Dt.exn.injEq, RleS, RMulS, roJoin, rRet, rRetN, rSeq, rIfS, rAsg, rVar, ofEn, rC, rOp, rUn, roP, rCB, rCons, rNil, rAndV, rOrV, rNotV, rB, rAnd, rOr, rNot, rIf, rTup, rLst, rDrop, rNext, rNever, look, frz, frzs, looks, held, roIsi, roF1, roL1, roNeg, rDNew, startE, ents, ent, csOf, unal, finds, RI0, RI, int_in, int_bl, len_ls, len_tu, len_st, len_by, at0, at1, at2, at3, ix30, ix31, ix32, eq_ii, ne_ii, eq_by, ne_by, notin_c, in_c, D.rChain, RIxA, roTupOf, RListOf, RListB, List.findSome?, List.getElem?_cons_zero, List.getElem?_cons_succ, List.getElem?_nil, List.set_cons_zero, List.set_cons_succ, List.length_cons, List.length_nil, List.map_cons, List.map_nil, List.replicate, List.nil_append, List.cons_append, List.append_nil, Option.some.injEq, exists_eq_left', exists_eq_left, exists_eq', exists_eq, true_and, and_true, Vl.d.injEq, Vl.nw.injEq, Vl.sl.injEq, Dt.int.injEq, Dt.bl.injEq, Dt.str.injEq, Dt.lst.injEq, Dt.tup.injEq, Dt.byt.injEq, Dt.ty.injEq, Dt.ref.injEq, En.val.injEq, En.mu.injEq, En.bor.injEq, List.cons.injEq, Nat.reduceLT, Nat.reduceAdd, Nat.reduceSub, Nat.zero_add, and_self, ↓reduceIte, Bool.false_eq_true, reduceCtorEq, false_and, and_false, exists_const, exists_false, or_false, false_or, Nat.reduceEqDiff, Option.map_some, Option.getD_some, Option.getD_none, and_assoc, exists_and_left, exists_and_right, rCall_f, rCall_g, f_pre, f_post, g_pre, g_post, g_exc, Prod.forall, Prod.exists, Prod.mk.injEq, exists_const, forall_const, argsD, conP, entD, remP, flagsP, flagAt, putP, aft, Ct.dt.injEq, forall_eq, forall_eq', forall_const, implies_true, false_implies, and_imp, forall_exists_index, forall_apply_eq_imp_iff, List.length_append, retD, rFor_L, asgLc, rLc_L, riList, riTup, riStr, riRange1, riRange2, riEnum, riRev, rgName, rgTup, rgCons, rgNil, wipeE, unw, rYes, rAsgG, rAsgSub, roSetL, rBM, rBM0, roAppend, roOwn0, isa_no, isa_bl, isa_in, isa_st, isa_by, isa_ls, isa_tu, isa_di, beq_self_eq_true, Bool.or_true, Bool.true_or, Bool.or_false, Bool.false_or, Bool.or_self, Bool.not_true, Bool.not_false, Bool.and_true, Bool.true_and, Bool.and_false, Bool.false_and, String.reduceBEq, String.reduceEq, not_true_eq_false, not_false_eq_true, rSlL', roNone, roSome, roCat, D.trk, rRaise0, rRaise1, excD, rTry, rEx, wMixD, goneD, List.isEmpty_nil, if_true, List.length_singleton, Nat.reduceLeDiff, Nat.reducePow, Int.reducePow, Int.reduceLT, Int.reduceLE, Int.reduceNeg, Int.reduceToNat, eq_str, starts_cut]
      rw [take_succ_at hx, List.filter_append]
      by_cases hf : a = Str.ofString "from"
      · subst hf
        rw [if_pos (by decide)]
        refine ⟨by omega, by omega, ?_⟩
        cases hst : Txt.startswith w b <;> simp [List.filter, fromB, hst]
      · rw [if_neg (by rw [decide_eq_false hf]; decide)]
        have : fromB w (.tup [.str a, .str b]) = false := by
          simp only [fromB]
          rw [decide_eq_false (show ¬ a = "from" from hf)]
          rfl
        simp [List.filter, this]
    rintro acc' η' hl2 ⟨rfl, rfl⟩
    rw [List.take_length]
    have hpr : Pd 2 (.lst (rs.filter (fromB w))) := fun e he => pd_row (hrs.1 e (List.mem_filter.mp he).1)
    simp (maxSteps := 3000000) only [roSplit, roStr1, rSlSt, rSlBy, rRevL, TruD, rOrT, rAndT, rMake_g, roCatT, roRep, rMeth, rFld, rSetF, rXfn, rXf, lk_eq, putD, Dt.ins.injEq, Dt.exn.injEq, RleS, RMulS, roJoin, rRet, rRetN, rSeq, rIfS, rAsg, rVar, ofEn, rC, rOp, rUn, roP, rCB, rCons, rNil, rAndV, rOrV, rNotV, rB, rAnd, rOr, rNot, rIf, rTup, rLst, rDrop, rNext, rNever, look, frz, frzs, looks, held, roIsi, roF1, roL1, roNeg, rDNew, startE, ents, ent, csOf, unal, finds, RI0, RI, int_in, int_bl, len_ls, len_tu, len_st, len_by, at0, at1, at2, at3, ix30, ix31, ix32, eq_ii, ne_ii, eq_by, ne_by, notin_c, in_c, D.rChain, RIxA, roTupOf, RListOf, RListB, List.findSome?, List.getElem?_cons_zero, List.getElem?_cons_succ, List.getElem?_nil, List.set_cons_zero, List.set_cons_succ, List.length_cons, List.length_nil, List.map_cons, List.map_nil, List.replicate, List.nil_append, List.cons_append, List.append_nil, Option.some.injEq, exists_eq_left', exists_eq_left, exists_eq', exists_eq, true_and, and_true, Vl.d.injEq, Vl.nw.injEq, Vl.sl.injEq, Dt.int.injEq, Dt.bl.injEq, Dt.str.injEq, Dt.lst.injEq, Dt.tup.injEq, Dt.byt.injEq, Dt.ty.injEq, Dt.ref.injEq, En.val.injEq, En.mu.injEq, En.bor.injEq, List.cons.injEq, Nat.reduceLT, Nat.reduceAdd, Nat.reduceSub, Nat.zero_add, and_self, ↓reduceIte, Bool.false_eq_true, reduceCtorEq, false_and, and_false, exists_const, exists_false, or_false, false_or, Nat.reduceEqDiff, Option.map_some, Option.getD_some, Option.getD_none, and_assoc, exists_and_left, exists_and_right, rCall_f, rCall_g, f_pre, f_post, g_pre, g_post, g_exc, Prod.forall, Prod.exists, Prod.mk.injEq, exists_const, forall_const, argsD, conP, entD, remP, flagsP, flagAt, putP, aft, Ct.dt.injEq, forall_eq, forall_eq', forall_const, implies_true, false_implies, and_imp, forall_exists_index, forall_apply_eq_imp_iff, List.length_append, retD, rFor_L, asgLc, rLc_L, riList, riTup, riStr, riRange1, riRange2, riEnum, riRev, rgName, rgTup, rgCons, rgNil, wipeE, unw, rYes, rAsgG, rAsgSub, roSetL, rBM, rBM0, roAppend, roOwn0, isa_no, isa_bl, isa_in, isa_st, isa_by, isa_ls, isa_tu, isa_di, beq_self_eq_true, Bool.or_true, Bool.true_or, Bool.or_false, Bool.false_or, Bool.or_self, Bool.not_true, Bool.not_false, Bool.and_true, Bool.true_and, Bool.and_false, Bool.false_and, String.reduceBEq, String.reduceEq, not_true_eq_false, not_false_eq_true, rSlL', roNone, roSome, roCat, D.trk, rRaise0, rRaise1, excD, rTry, rEx, wMixD, goneD, List.isEmpty_nil, if_true, List.length_singleton, Nat.reduceLeDiff, Nat.reducePow, Int.reducePow, Int.reduceLT, Int.reduceLE, Int.reduceNeg, Int.reduceToNat, ne_nilP hpr (by decide)]
    subst e2
    refine sg fun U2 e2 => ?_
    simp (maxSteps := 3000000) only [roSplit, roStr1, rSlSt, rSlBy, rRevL, TruD, rOrT, rAndT, rMake_g, roCatT, roRep, rMeth, rFld, rSetF, rXfn, rXf, lk_eq, putD, Dt.ins.injEq, Dt.exn.injEq, RleS, RMulS, roJoin, rRet, rRetN, rSeq, rIfS, rAsg, rVar, ofEn, rC, rOp, rUn, roP, rCB, rCons, rNil, rAndV, rOrV, rNotV, rB, rAnd, rOr, rNot, rIf, rTup, rLst, rDrop, rNext, rNever, look, frz, frzs, looks, held, roIsi, roF1, roL1, roNeg, rDNew, startE, ents, ent, csOf, unal, finds, RI0, RI, int_in, int_bl, len_ls, len_tu, len_st, len_by, at0, at1, at2, at3, ix30, ix31, ix32, eq_ii, ne_ii, eq_by, ne_by, notin_c, in_c, D.rChain, RIxA, roTupOf, RListOf, RListB, List.findSome?, List.getElem?_cons_zero, List.getElem?_cons_succ, List.getElem?_nil, List.set_cons_zero, List.set_cons_succ, List.length_cons, List.length_nil, List.map_cons, List.map_nil, List.replicate, List.nil_append, List.cons_append, List.append_nil, Option.some.injEq, exists_eq_left', exists_eq_left, exists_eq', exists_eq, true_and, and_true, Vl.d.injEq, Vl.nw.injEq, Vl.sl.injEq, Dt.int.injEq, Dt.bl.injEq, Dt.str.injEq, Dt.lst.injEq, Dt.tup.injEq, Dt.byt.injEq, Dt.ty.injEq, Dt.ref.injEq, En.val.injEq, En.mu.injEq, En.bor.injEq, List.cons.injEq, Nat.reduceLT, Nat.reduceAdd, Nat.reduceSub, Nat.zero_add, and_self, ↓reduceIte, Bool.false_eq_true, reduceCtorEq, false_and, and_false, exists_const, exists_false, or_false, false_or, Nat.reduceEqDiff, Option.map_some, Option.getD_some, Option.getD_none, and_assoc, exists_and_left, exists_and_right, rCall_f, rCall_g, f_pre, f_post, g_pre, g_post, g_exc, Prod.forall, Prod.exists, Prod.mk.injEq, exists_const, forall_const, argsD, conP, entD, remP, flagsP, flagAt, putP, aft, Ct.dt.injEq, forall_eq, forall_eq', forall_const, implies_true, false_implies, and_imp, forall_exists_index, forall_apply_eq_imp_iff, List.length_append, retD, rFor_L, asgLc, rLc_L, riList, riTup, riStr, riRange1, riRange2, riEnum, riRev, rgName, rgTup, rgCons, rgNil, wipeE, unw, rYes, rAsgG, rAsgSub, roSetL, rBM, rBM0, roAppend, roOwn0, isa_no, isa_bl, isa_in, isa_st, isa_by, isa_ls, isa_tu, isa_di, beq_self_eq_true, Bool.or_true, Bool.true_or, Bool.or_false, Bool.false_or, Bool.or_self, Bool.not_true, Bool.not_false, Bool.and_true, Bool.true_and, Bool.and_false, Bool.false_and, String.reduceBEq, String.reduceEq, not_true_eq_false, not_false_eq_true, rSlL', roNone, roSome, roCat, D.trk, rRaise0, rRaise1, excD, rTry, rEx, wMixD, goneD, List.isEmpty_nil, if_true, List.length_singleton, Nat.reduceLeDiff, Nat.reducePow, Int.reducePow, Int.reduceLT, Int.reduceLE, Int.reduceNeg, Int.reduceToNat, ne_nilP (pd_strs as) (by decide)]
    have hany : (!decide (rs.filter (fromB w) = [])) = rs.any (fromB w) := filter_any
    rw [hany]
    have hgo : U2 [some (.bor (.lst rs)), some (.bor (.lst (ss.map .str))), some (.mu none (.dt (.lst (acc.map .str)))), some (.val (.int i)), some (.val (.str w)), some (.mu none (.dt (.lst (as.map .str)))), some (.val (.bl (rs.any (fromB w)))), some (.val (.bl (afterB rs (ahD (lastN (ss.take i)))))), none, none] := by
      subst e2
      have hend : ∀ z, cleanW rs (lastN (ss.take i)) w = z → ∃ acc' : List Str, cleanL rs none ss = acc' ++ cleanL rs (lastN (ss.take (i + 1))) (ss.drop (i + 1)) ∧ acc'.length = i + 1 ∧ acc.map Dt.str ++ [Dt.str z] = acc'.map Dt.str := by
        rintro z rfl
        refine ⟨acc ++ [cleanW rs (lastN (ss.take i)) w], ?_, by simp [hl'], by simp⟩
        rw [take_succ_at hw, lastN_snoc, he]
        simp
      simp (maxSteps := 3000000) only [roSplit, roStr1, rSlSt, rSlBy, rRevL, TruD, rOrT, rAndT, rMake_g, roCatT, roRep, rMeth, rFld, rSetF, rXfn, rXf, lk_eq, putD, Dt.ins.injEq, Dt.exn.injEq, RleS, RMulS, roJoin, rRet, rRetN, rSeq, rIfS, rAsg, rVar, ofEn, rC, rOp, rUn, roP, rCB, rCons, rNil, rAndV, rOrV, rNotV, rB, rAnd, rOr, rNot, rIf, rTup, rLst, rDrop, rNext, rNever, look, frz, frzs, looks, held, roIsi, roF1, roL1, roNeg, rDNew, startE, ents, ent, csOf, unal, finds, RI0, RI, int_in, int_bl, len_ls, len_tu, len_st, len_by, at0, at1, at2, at3, ix30, ix31, ix32, eq_ii, ne_ii, eq_by, ne_by, notin_c, in_c, D.rChain, RIxA, roTupOf, RListOf, RListB, List.findSome?, List.getElem?_cons_zero, List.getElem?_cons_succ, List.getElem?_nil, List.set_cons_zero, List.set_cons_succ, List.length_cons, List.length_nil, List.map_cons, List.map_nil, List.replicate, List.nil_append, List.cons_append, List.append_nil, Option.some.injEq, exists_eq_left', exists_eq_left, exists_eq', exists_eq, true_and, and_true, Vl.d.injEq, Vl.nw.injEq, Vl.sl.injEq, Dt.int.injEq, Dt.bl.injEq, Dt.str.injEq, Dt.lst.injEq, Dt.tup.injEq, Dt.byt.injEq, Dt.ty.injEq, Dt.ref.injEq, En.val.injEq, En.mu.injEq, En.bor.injEq, List.cons.injEq, Nat.reduceLT, Nat.reduceAdd, Nat.reduceSub, Nat.zero_add, and_self, ↓reduceIte, Bool.false_eq_true, reduceCtorEq, false_and, and_false, exists_const, exists_false, or_false, false_or, Nat.reduceEqDiff, Option.map_some, Option.getD_some, Option.getD_none, and_assoc, exists_and_left, exists_and_right, rCall_f, rCall_g, f_pre, f_post, g_pre, g_post, g_exc, Prod.forall, Prod.exists, Prod.mk.injEq, exists_const, forall_const, argsD, conP, entD, remP, flagsP, flagAt, putP, aft, Ct.dt.injEq, forall_eq, forall_eq', forall_const, implies_true, false_implies, and_imp, forall_exists_index, forall_apply_eq_imp_iff, List.length_append, retD, rFor_L, asgLc, rLc_L, riList, riTup, riStr, riRange1, riRange2, riEnum, riRev, rgName, rgTup, rgCons, rgNil, wipeE, unw, rYes, rAsgG, rAsgSub, roSetL, rBM, rBM0, roAppend, roOwn0, isa_no, isa_bl, isa_in, isa_st, isa_by, isa_ls, isa_tu, isa_di, beq_self_eq_true, Bool.or_true, Bool.true_or, Bool.or_false, Bool.false_or, Bool.or_self, Bool.not_true, Bool.not_false, Bool.and_true, Bool.true_and, Bool.and_false, Bool.false_and, String.reduceBEq, String.reduceEq, not_true_eq_false, not_false_eq_true, rSlL', roNone, roSome, roCat, D.trk, rRaise0, rRaise1, excD, rTry, rEx, wMixD, goneD, List.isEmpty_nil, if_true, List.length_singleton, Nat.reduceLeDiff, Nat.reducePow, Int.reducePow, Int.reduceLT, Int.reduceLE, Int.reduceNeg, Int.reduceToNat, eq_str, emp_eq, ms_law_bare, S_wofig]
      have hlen : (acc.map Dt.str).length < 100000 := by rw [List.length_map]; omega
      by_cases h0 : w.length = 0
      · rw [if_pos (decide_eq_true h0)]
        refine ⟨hlen, hend _ ?_⟩
        rw [cleanW, if_pos h0]
        exact str_nil h0
      · rw [if_neg (by rw [decide_eq_false h0]; decide)]
        have hcw : cleanW rs (lastN (ss.take i)) w = if (afterB rs (ahD (lastN (ss.take i))) || rs.any (fromB w)) = true then (Str.ofString "*") else bareS w := by
          rw [cleanW, if_neg h0]
          rfl
        cases h1 : rs.any (fromB w) with
        | true =>
          rw [if_pos rfl]
          refine ⟨hlen, hend _ ?_⟩
          rw [hcw, h1, Bool.or_true, if_pos rfl]
        | false =>
          rw [if_neg (by decide)]
          cases h2 : afterB rs (ahD (lastN (ss.take i))) with
          | true =>
            rw [if_pos rfl]
            refine ⟨hlen, hend _ ?_⟩
            rw [hcw, h2, Bool.true_or, if_pos rfl]
          | false =>
            rw [if_neg (by decide)]
            refine ⟨hwl, hlen, hend _ ?_⟩
            rw [hcw, h1, h2, Bool.or_self, if_neg (by decide)]
    by_cases ha : List.map Dt.str as = []
    · rw [if_neg (by rw [decide_eq_true ha]; decide)]
      have : as = [] := List.map_eq_nil_iff.mp ha
      rw [hln, show as.getLast? = none by rw [this]; rfl, show afterB rs (ahD none) = false from after_non hrs.1] at hgo
      exact hgo
    · rw [if_pos (by rw [decide_eq_false ha]; decide)]
      obtain ⟨z, hz⟩ : ∃ z, as.getLast? = some z := by
        cases as with
        | nil => exact absurd rfl ha
        | cons x r => exact ⟨_, List.getLast?_eq_some_getLast (by simp)⟩
      refine ⟨.str z, at_last (by rw [List.getLast?_map, hz]; rfl), .bl (afterB rs (.str z)), ?_, ?_⟩
      · have hA : Pd 1 (.tup [.str (Str.ofString "after"), .str z]) := fun x hx => by
          simp only [List.mem_cons, List.mem_nil_iff, or_false] at hx
          rcases hx with rfl | rfl <;> exact trivial
        rw [in_lst 1 1 hA (by decide) fun e he => pd_row (hrs.1 e he)]
        rfl
      · rw [hln, hz] at hgo
        exact hgo
  · rintro η' ⟨acc, c3, c4, c5, c6, c7, he, hl', rfl⟩
    rw [enumD_length, List.length_map] at he hl'
    rw [List.drop_length, cleanL, List.append_nil] at he
    show U1 _
    subst e1
    simp (maxSteps := 3000000) only [roSplit, roStr1, rSlSt, rSlBy, rRevL, TruD, rOrT, rAndT, rMake_g, roCatT, roRep, rMeth, rFld, rSetF, rXfn, rXf, lk_eq, putD, Dt.ins.injEq, Dt.exn.injEq, RleS, RMulS, roJoin, rRet, rRetN, rSeq, rIfS, rAsg, rVar, ofEn, rC, rOp, rUn, roP, rCB, rCons, rNil, rAndV, rOrV, rNotV, rB, rAnd, rOr, rNot, rIf, rTup, rLst, rDrop, rNext, rNever, look, frz, frzs, looks, held, roIsi, roF1, roL1, roNeg, rDNew, startE, ents, ent, csOf, unal, finds, RI0, RI, int_in, int_bl, len_ls, len_tu, len_st, len_by, at0, at1, at2, at3, ix30, ix31, ix32, eq_ii, ne_ii, eq_by, ne_by, notin_c, in_c, D.rChain, RIxA, roTupOf, RListOf, RListB, List.findSome?, List.getElem?_cons_zero, List.getElem?_cons_succ, List.getElem?_nil, List.set_cons_zero, List.set_cons_succ, List.length_cons, List.length_nil, List.map_cons, List.map_nil, List.replicate, List.nil_append, List.cons_append, List.append_nil, Option.some.injEq, exists_eq_left', exists_eq_left, exists_eq', exists_eq, true_and, and_true, Vl.d.injEq, Vl.nw.injEq, Vl.sl.injEq, Dt.int.injEq, Dt.bl.injEq, Dt.str.injEq, Dt.lst.injEq, Dt.tup.injEq, Dt.byt.injEq, Dt.ty.injEq, Dt.ref.injEq, En.val.injEq, En.mu.injEq, En.bor.injEq, List.cons.injEq, Nat.reduceLT, Nat.reduceAdd, Nat.reduceSub, Nat.zero_add, and_self, ↓reduceIte, Bool.false_eq_true, reduceCtorEq, false_and, and_false, exists_const, exists_false, or_false, false_or, Nat.reduceEqDiff, Option.map_some, Option.getD_some, Option.getD_none, and_assoc, exists_and_left, exists_and_right, rCall_f, rCall_g, f_pre, f_post, g_pre, g_post, g_exc, Prod.forall, Prod.exists, Prod.mk.injEq, exists_const, forall_const, argsD, conP, entD, remP, flagsP, flagAt, putP, aft, Ct.dt.injEq, forall_eq, forall_eq', forall_const, implies_true, false_implies, and_imp, forall_exists_index, forall_apply_eq_imp_iff, List.length_append, retD, rFor_L, asgLc, rLc_L, riList, riTup, riStr, riRange1, riRange2, riEnum, riRev, rgName, rgTup, rgCons, rgNil, wipeE, unw, rYes, rAsgG, rAsgSub, roSetL, rBM, rBM0, roAppend, roOwn0, isa_no, isa_bl, isa_in, isa_st, isa_by, isa_ls, isa_tu, isa_di, beq_self_eq_true, Bool.or_true, Bool.true_or, Bool.or_false, Bool.false_or, Bool.or_self, Bool.not_true, Bool.not_false, Bool.and_true, Bool.true_and, Bool.and_false, Bool.false_and, String.reduceBEq, String.reduceEq, not_true_eq_false, not_false_eq_true, rSlL', roNone, roSome, roCat, D.trk, rRaise0, rRaise1, excD, rTry, rEx, wMixD, goneD, List.isEmpty_nil, if_true, List.length_singleton, Nat.reduceLeDiff, Nat.reducePow, Int.reducePow, Int.reduceLT, Int.reduceLE, Int.reduceNeg, Int.reduceToNat, ms_law_due, S_due]
    refine ⟨acc, rfl, ?_, ?_⟩
    · rw [he] at hcs
      have : (Str.ofString " ").length = 1 := rfl
      rw [this]
      omega
    · rw [dueS, unS_map, he]
/-! #### _law_right -/
abbrev s_law_right : Stmt := top 22
abbrev N_law_right : List Str := ["_law_source_here", "_law_some", "_law_k", "_law_text", "_law_pieces", "_law_rows", "_law_made", "_law_due_here", "_law_found"]
abbrev P_law_right : List Str := ["_law_source_here"]
abbrev ms_law_right : List Md := [.p]
theorem sc_law_right : FnScope N_law_right P_law_right (defScope s_law_right) := ⟨rfl, rfl, rfl, by decide +kernel, rfl, by decide +kernel, by decide +kernel⟩
theorem ok_law_right {P : Program} {w : World} {K : PySem.W.Frag} {mg : Str → Option Value} {base : Heap} {f : Addr} {fd : FuncData} {c_FellError c_NoCleaner c_Cleaner : Addr} (G : Gs K mg c_FellError c_NoCleaner c_Cleaner) (h0 : HsI P w K mg base (L2.CX P w) 3 c_Cleaner P_Cleaner___init__ (toSp K ms_Cleaner___init__ (S_init c_Cleaner c_NoCleaner))) (h1 : Hs P w K mg base CX0 2 "clean" P_clean (toSp K ms_clean (S_clean c_Cleaner))) (h2 : Hs P w K mg base CX0 2 "_law_due" P_law_due (toSp K ms_law_due (S_due))) (h3 : Hs P w K mg base CX0 1 "_law_next" P_law_next (toSp K ms_law_next (S_draw))) (h4 : Hs P w K mg base CX0 4 "_law_row" P_law_row (toSp K ms_law_row (S_row))) (h5 : Hs P w K mg base CX0 2 "_law_pick" P_law_pick (toSp K ms_law_pick (S_one))) (h6 : Hs P w K mg base CX0 3 "_law_word" P_law_word (toSp K ms_law_word (S_word))) (X_NoCleaner : ExO P w K mg base "NoCleaner" c_NoCleaner "at") (K_Cleaner : ClF K mg "Cleaner" c_Cleaner) (nA_Cleaner_rows : NoAttr K c_Cleaner "rows") (F : Fun K "_law_right" "_law_right" s_law_right f fd) (mf : mg "_law_right" = some (.ref f)) :
    Hs P w K mg base CX0 5 "_law_right" P_law_right (toSp K ms_law_right (S_right)) := by
  obtain ⟨f0, fd0, F0, M0, b0⟩ := h0
  obtain ⟨f1, fd1, F1, m1, k1, b1⟩ := h1
  obtain ⟨f2, fd2, F2, m2, k2, b2⟩ := h2
  obtain ⟨f3, fd3, F3, m3, k3, b3⟩ := h3
  obtain ⟨f4, fd4, F4, m4, k4, b4⟩ := h4
  obtain ⟨f5, fd5, F5, m5, k5, b5⟩ := h5
  obtain ⟨f6, fd6, F6, m6, k6, b6⟩ := h6
  refine ⟨f, fd, ?_, mf, F.kp, F.binds (ps := P_law_right) fun _ _ _ _ _ _ us hl => match us, hl with | [_], _ => rfl⟩
  refine F.ok sc_law_right (fun vs H Q E h => toSp_len h) (fun cdv A outer s H vs Q E hr h => ?_)
  have hu := hr.units
  refine ⟨_, pss_cons (ps_set (i := 1) sc_law_right.nd rfl (by first | exact Or.inl rfl | exact Or.inr rfl) (pe_lst (pa_nil))) (pss_cons (ps_for PassesOwn.never rfl (pi_range1 rfl G.b_range (pa_cons (pe_callS (E := (fun _ => E0)) F3 (hr.mono (by decide)) rfl m3 k3 b3 (fun _ => fun _ _ _ _ _ _ h => h.elim) (pa_cons (pv 0) (pa_cons (pe_int) (pa_nil)))) (pa_nil))) (pg_name (i := 2) sc_law_right.nd rfl (by first | exact Or.inl rfl | exact Or.inr rfl | exact .inr (.inl rfl) | exact .inr (.inr rfl))) (pss_one (ps_expr (pe_bm PySem.F.plainAttrs_list PySem.F.slot_list_append PySem.F.type_list_append mt_append (pv 1) (pa_cons (pe_ix ix_seq (pe_lst (pa_cons (pe_callS (E := (fun _ => E0)) F6 (hr.mono (by decide)) rfl m6 k6 b6 (fun _ => fun _ _ _ _ _ _ h => h.elim) (pa_cons (pv 0) (pa_nil))) (pa_cons (pe_callS (E := (fun _ => E0)) F6 (hr.mono (by decide)) rfl m6 k6 b6 (fun _ => fun _ _ _ _ _ _ h => h.elim) (pa_cons (pv 0) (pa_nil))) (pa_cons (pe_callS (E := (fun _ => E0)) F6 (hr.mono (by decide)) rfl m6 k6 b6 (fun _ => fun _ _ _ _ _ _ h => h.elim) (pa_cons (pv 0) (pa_nil))) (pa_cons (pe_str) (pa_nil)))))) (pe_callS (E := (fun _ => E0)) F3 (hr.mono (by decide)) rfl m3 k3 b3 (fun _ => fun _ _ _ _ _ _ h => h.elim) (pa_cons (pv 0) (pa_cons (pe_int) (pa_nil)))) (fun _ _ => rfl)) (pa_nil)))))) (pss_cons (ps_set (i := 3) sc_law_right.nd rfl (by first | exact Or.inl rfl | exact Or.inr rfl) (pe_bm PySem.F.plainAttrs_str PySem.F.slot_str_join PySem.F.type_str_join mt_join (pe_str) (pa_cons (pv 1) (pa_nil)))) (pss_cons (ps_if (pt_cmpR ((op_eqA hu)) (pe_callS (E := (fun _ => E0)) F3 (hr.mono (by decide)) rfl m3 k3 b3 (fun _ => fun _ _ _ _ _ _ h => h.elim) (pa_cons (pv 0) (pa_cons (pe_int) (pa_nil)))) (pe_int) (nomark _)) (pss_one (ps_set (i := 3) sc_law_right.nd rfl (by first | exact Or.inl rfl | exact Or.inr rfl) (pe_slice sl_str (pe_op op_add_str (pv 3) (pe_op op_mulS (pe_callS (E := (fun _ => E0)) F5 (hr.mono (by decide)) rfl m5 k5 b5 (fun _ => fun _ _ _ _ _ _ h => h.elim) (pa_cons (pv 0) (pa_cons (pe_lst (pa_cons (pe_str) (pa_cons (pe_str) (pa_cons (pe_str) (pa_cons (pe_str) (pa_nil)))))) (pa_nil)))) (pe_int))) (po_none) (po_some (pe_int))))) (pss_nil)) (pss_cons (ps_set (i := 4) sc_law_right.nd rfl (by first | exact Or.inl rfl | exact Or.inr rfl) (pe_bm PySem.F.plainAttrs_str PySem.F.slot_str_split PySem.F.type_str_split mt_split (pv 3) (pa_cons (pe_str) (pa_nil)))) (pss_cons (ps_setLc (i := 5) (own := [("_law_k", 2)]) (tt := tYes) rfl sc_law_right.nd rfl rfl (sw_true rfl rfl rfl (by decide +kernel)) (pi_range1 rfl G.b_range (pa_cons (pe_callS (E := (fun _ => E0)) F3 (hr.mono (by decide)) rfl m3 k3 b3 (fun _ => fun _ _ _ _ _ _ h => h.elim) (pa_cons (pv 0) (pa_cons (pe_int) (pa_nil)))) (pa_nil))) (blkOk_by (N := N_law_right) (sc := defScope s_law_right) (by decide +kernel)) (fun _ _ _ _ _ => pg_name (i := 2) sc_law_right.nd rfl (by first | exact Or.inl rfl | exact Or.inr rfl | exact .inr (.inl rfl) | exact .inr (.inr rfl))) (fun _ _ _ _ _ => pts_nil) (fun _ _ _ _ _ => pe_callS (E := (fun _ => E0)) F4 (hr.mono (by decide)) rfl m4 k4 b4 (fun _ => fun _ _ _ _ _ _ h => h.elim) (pa_cons (pv 0) (pa_cons (pv 4) (pa_nil))))) (pss_cons (ps_set (i := 6) sc_law_right.nd rfl (by first | exact Or.inl rfl | exact Or.inr rfl) (pe_makeS (E := (WE fun _ _ _ _ => False)) M0 F0 (hr.mono (by decide)) rfl G.x_Cleaner b0 (fun σ => passAt takes0 σ) (pa_cons (pe_callTy call_list_of rfl G.b_list (by decide +kernel) (pa_cons (pv 5) (pa_nil))) (pa_nil)))) (pss_cons (ps_set (i := 7) sc_law_right.nd rfl (by first | exact Or.inl rfl | exact Or.inr rfl) (pe_callS (E := (fun _ => E0)) F2 (hr.mono (by decide)) rfl m2 k2 b2 (fun _ => fun _ _ _ _ _ _ h => h.elim) (pa_cons (pv 5) (pa_cons (pv 4) (pa_nil))))) (pss_cons (ps_set (i := 8) sc_law_right.nd rfl (by first | exact Or.inl rfl | exact Or.inr rfl) (pe_callS (E := (fun _ => E0)) F1 (hr.mono (by decide)) rfl m1 k1 b1 (fun _ => fun _ _ _ _ _ _ h => h.elim) (pa_cons (pv 6) (pa_cons (pv 3) (pa_nil))))) (pss_cons (ps_if (PW.pt (pw_or (pt_not (pt_val (pe_callB call_isi rfl G.b_isinstance (by decide +kernel) (pa_cons (pv 8) (pa_cons (pe_bltn (v := .ty "str") (u := .type "str") rfl G.b_str (by decide +kernel) rfl) (pa_nil)))))) (pw_or (pt_cmpR ((op_neA hu)) (pv 8) (pv 7) (nomark _)) (pw_or1 (pt_cmpR ((op_neA hu)) (pe_callS (E := (fun _ => E0)) F1 (hr.mono (by decide)) rfl m1 k1 b1 (fun _ => fun _ _ _ _ _ _ h => h.elim) (pa_cons (pv 6) (pa_cons (pv 3) (pa_nil)))) (pv 7) (nomark _)))))) (pss_one (ps_ret (pe_bl))) (pss_nil)) (pss_cons (ps_if (PW.pt (pw_or (pt_cmpR ((op_neA hu)) (pe_callS (E := (fun _ => E0)) F1 (hr.mono (by decide)) rfl m1 k1 b1 (fun _ => fun _ _ _ _ _ _ h => h.elim) (pa_cons (pe_makeS (E := (WE fun _ _ _ _ => False)) M0 F0 (hr.mono (by decide)) rfl G.x_Cleaner b0 (fun σ => passAt takes0 σ) (pa_cons (pe_revL (pv 5)) (pa_nil))) (pa_cons (pv 3) (pa_nil)))) (pv 7) (nomark _)) (pw_or1 (pt_cmpR ((op_neA hu)) (pe_callS (E := (fun _ => E0)) F1 (hr.mono (by decide)) rfl m1 k1 b1 (fun _ => fun _ _ _ _ _ _ h => h.elim) (pa_cons (pe_makeS (E := (WE fun _ _ _ _ => False)) M0 F0 (hr.mono (by decide)) rfl G.x_Cleaner b0 (fun σ => passAt takes0 σ) (pa_cons (pe_lst (pa_nil)) (pa_nil))) (pa_cons (pv 3) (pa_nil)))) (pe_callS (E := (fun _ => E0)) F2 (hr.mono (by decide)) rfl m2 k2 b2 (fun _ => fun _ _ _ _ _ _ h => h.elim) (pa_cons (pe_lst (pa_nil)) (pa_cons (pv 4) (pa_nil)))) (nomark _))))) (pss_one (ps_ret (pe_bl))) (pss_nil)) (pss_one (ps_ret (pe_and (pe_cmpR ((op_eqA hu)) (pe_fld (pv 6) rfl) (pv 5) (nomark _)) (pe_one (pe_cmpR ((op_eqA hu)) (pe_bm PySem.F.plainAttrs_str PySem.F.slot_str_count PySem.F.type_str_count mt_count (pv 8) (pa_cons (pe_str) (pa_nil))) (pe_bm PySem.F.plainAttrs_str PySem.F.slot_str_count PySem.F.type_str_count mt_count (pv 3) (pa_cons (pe_str) (pa_nil))) (nomark _)))))))))))))))), ?_⟩
  refine run_body0 h (by decide) (fun as => ds_seq (ds_asg (de_lst (da_nil)) 1) (ds_seq (ds_for (di_range1 (da_cons (de_callS (X := W0) (ms := ms_law_next) (S := S_draw) (fun _ _ _ _ h => h.elim) (da_cons (de_var 0) (da_cons (de_int) (da_nil)))) (da_nil))) (dg_name 2) (ds_drop (de_bm dm_append (de_var 1) (da_cons (de_op (d2_P p2_ix) (de_lst (da_cons (de_callS (X := W0) (ms := ms_law_word) (S := S_word) (fun _ _ _ _ h => h.elim) (da_cons (de_var 0) (da_nil))) (da_cons (de_callS (X := W0) (ms := ms_law_word) (S := S_word) (fun _ _ _ _ h => h.elim) (da_cons (de_var 0) (da_nil))) (da_cons (de_callS (X := W0) (ms := ms_law_word) (S := S_word) (fun _ _ _ _ h => h.elim) (da_cons (de_var 0) (da_nil))) (da_cons (de_str) (da_nil)))))) (de_callS (X := W0) (ms := ms_law_next) (S := S_draw) (fun _ _ _ _ h => h.elim) (da_cons (de_var 0) (da_cons (de_int) (da_nil))))) (da_nil))))) (ds_seq (ds_asg (de_bm dm_join (de_str) (da_cons (de_var 1) (da_nil))) 3) (ds_seq (ds_if (dt_test (de_op (d2_P p2_eq) (de_callS (X := W0) (ms := ms_law_next) (S := S_draw) (fun _ _ _ _ h => h.elim) (da_cons (de_var 0) (da_cons (de_int) (da_nil)))) (de_int))) (ds_asg (de_slS (de_op (d2_P p2_addS) (de_var 3) (de_op (d2_P p2_mulS) (de_callS (X := W0) (ms := ms_law_pick) (S := S_one) (fun _ _ _ _ h => h.elim) (da_cons (de_var 0) (da_cons (de_lst (da_cons (de_str) (da_cons (de_str) (da_cons (de_str) (da_cons (de_str) (da_nil)))))) (da_nil)))) (de_int))) (do_none) (do_some (de_int))) 3) (ds_next)) (ds_seq (ds_asg (de_bm dm_split (de_var 3) (da_cons (de_str) (da_nil))) 4) (ds_seq (ds_asgG (de_lc (vs := [2]) (di_range1 (da_cons (de_callS (X := W0) (ms := ms_law_next) (S := S_draw) (fun _ _ _ _ h => h.elim) (da_cons (de_var 0) (da_cons (de_int) (da_nil)))) (da_nil))) (dg_name 2) (dt_yes) (de_callS (X := W0) (ms := ms_law_row) (S := S_row) (fun _ _ _ _ h => h.elim) (da_cons (de_var 0) (da_cons (de_var 4) (da_nil)))) (by decide)) (dg_name 5)) (ds_seq (ds_asg (de_makeS (X := W0) (E := (WE fun _ _ _ _ => False)) (S := S_init c_Cleaner c_NoCleaner) (fun _ _ _ _ h => h.elim) (da_cons (de_cb (dc_L1 l1_list) (da_cons (de_var 5) (da_nil))) (da_nil))) 6) (ds_seq (ds_asg (de_callS (X := W0) (ms := ms_law_due) (S := S_due) (fun _ _ _ _ h => h.elim) (da_cons (de_var 5) (da_cons (de_var 4) (da_nil)))) 7) (ds_seq (ds_asg (de_callS (X := W0) (ms := ms_clean) (S := S_clean c_Cleaner) (fun _ _ _ _ h => h.elim) (da_cons (de_var 6) (da_cons (de_var 3) (da_nil)))) 8) (ds_seq (ds_if (dt_or (dt_not (dt_B (de_cb (dc_isi) (da_cons (de_var 8) (da_cons (de_ty) (da_nil)))))) (dt_or (dt_test (de_op (d2_P p2_ne) (de_var 8) (de_var 7))) (dt_test (de_op (d2_P p2_ne) (de_callS (X := W0) (ms := ms_clean) (S := S_clean c_Cleaner) (fun _ _ _ _ h => h.elim) (da_cons (de_var 6) (da_cons (de_var 3) (da_nil)))) (de_var 7))))) (ds_ret (de_bl)) (ds_next)) (ds_seq (ds_if (dt_or (dt_test (de_op (d2_P p2_ne) (de_callS (X := W0) (ms := ms_clean) (S := S_clean c_Cleaner) (fun _ _ _ _ h => h.elim) (da_cons (de_makeS (X := W0) (E := (WE fun _ _ _ _ => False)) (S := S_init c_Cleaner c_NoCleaner) (fun _ _ _ _ h => h.elim) (da_cons (de_revL (de_var 5)) (da_nil))) (da_cons (de_var 3) (da_nil)))) (de_var 7))) (dt_test (de_op (d2_P p2_ne) (de_callS (X := W0) (ms := ms_clean) (S := S_clean c_Cleaner) (fun _ _ _ _ h => h.elim) (da_cons (de_makeS (X := W0) (E := (WE fun _ _ _ _ => False)) (S := S_init c_Cleaner c_NoCleaner) (fun _ _ _ _ h => h.elim) (da_cons (de_lst (da_nil)) (da_nil))) (da_cons (de_var 3) (da_nil)))) (de_callS (X := W0) (ms := ms_law_due) (S := S_due) (fun _ _ _ _ h => h.elim) (da_cons (de_lst (da_nil)) (da_cons (de_var 4) (da_nil))))))) (ds_ret (de_bl)) (ds_next)) (ds_ret (de_andV (de_op (d2_P p2_eq) (de_fld (de_var 6)) (de_var 5)) (de_op (d2_P p2_eq) (de_bm dm_count (de_var 8) (da_cons (de_str) (da_nil))) (de_bm dm_count (de_var 3) (da_cons (de_str) (da_nil))))))))))))))))) (fun as hp hl => ?_)
  obtain ⟨w, rfl, hw, hc⟩ := hp
  refine sg fun U1 e1 => ?_
  simp (maxSteps := 3000000) only [roSplit, roStr1, rSlSt, rSlBy, rRevL, TruD, rOrT, rAndT, rMake_g, roCatT, roRep, rMeth, rFld, rSetF, rXfn, rXf, lk_eq, putD, Dt.ins.injEq, Dt.exn.injEq, RleS, RMulS, roJoin, rRet, rRetN, rSeq, rIfS, rAsg, rVar, ofEn, rC, rOp, rUn, roP, rCB, rCons, rNil, rAndV, rOrV, rNotV, rB, rAnd, rOr, rNot, rIf, rTup, rLst, rDrop, rNext, rNever, look, frz, frzs, looks, held, roIsi, roF1, roL1, roNeg, rDNew, startE, ents, ent, csOf, unal, finds, RI0, RI, int_in, int_bl, len_ls, len_tu, len_st, len_by, at0, at1, at2, at3, ix30, ix31, ix32, eq_ii, ne_ii, eq_by, ne_by, notin_c, in_c, D.rChain, RIxA, roTupOf, RListOf, RListB, List.findSome?, List.getElem?_cons_zero, List.getElem?_cons_succ, List.getElem?_nil, List.set_cons_zero, List.set_cons_succ, List.length_cons, List.length_nil, List.map_cons, List.map_nil, List.replicate, List.nil_append, List.cons_append, List.append_nil, Option.some.injEq, exists_eq_left', exists_eq_left, exists_eq', exists_eq, true_and, and_true, Vl.d.injEq, Vl.nw.injEq, Vl.sl.injEq, Dt.int.injEq, Dt.bl.injEq, Dt.str.injEq, Dt.lst.injEq, Dt.tup.injEq, Dt.byt.injEq, Dt.ty.injEq, Dt.ref.injEq, En.val.injEq, En.mu.injEq, En.bor.injEq, List.cons.injEq, Nat.reduceLT, Nat.reduceAdd, Nat.reduceSub, Nat.zero_add, and_self, ↓reduceIte, Bool.false_eq_true, reduceCtorEq, false_and, and_false, exists_const, exists_false, or_false, false_or, Nat.reduceEqDiff, Option.map_some, Option.getD_some, Option.getD_none, and_assoc, exists_and_left, exists_and_right, rCall_f, rCall_g, f_pre, f_post, g_pre, g_post, g_exc, Prod.forall, Prod.exists, Prod.mk.injEq, exists_const, forall_const, argsD, conP, entD, remP, flagsP, flagAt, putP, aft, Ct.dt.injEq, forall_eq, forall_eq', forall_const, implies_true, false_implies, and_imp, forall_exists_index, forall_apply_eq_imp_iff, List.length_append, retD, rFor_L, asgLc, rLc_L, riList, riTup, riStr, riRange1, riRange2, riEnum, riRev, rgName, rgTup, rgCons, rgNil, wipeE, unw, rYes, rAsgG, rAsgSub, roSetL, rBM, rBM0, roAppend, roOwn0, isa_no, isa_bl, isa_in, isa_st, isa_by, isa_ls, isa_tu, isa_di, beq_self_eq_true, Bool.or_true, Bool.true_or, Bool.or_false, Bool.false_or, Bool.or_self, Bool.not_true, Bool.not_false, Bool.and_true, Bool.true_and, Bool.and_false, Bool.false_and, String.reduceBEq, String.reduceEq, not_true_eq_false, not_false_eq_true, rSlL', roNone, roSome, roCat, D.trk, rRaise0, rRaise1, excD, rTry, rEx, wMixD, goneD, List.isEmpty_nil, if_true, List.length_singleton, Nat.reduceLeDiff, Nat.reducePow, Int.reducePow, Int.reduceLT, Int.reduceLE, Int.reduceNeg, Int.reduceToNat, ms_law_right, S_right, ms_law_word, S_word, ms_law_row, S_row, ms_law_due, S_due, ms_clean, S_clean, clD, ms_law_next, S_draw, ms_law_pick, S_one, items]
  subst e1
  refine sg fun U1 e1 => ?_
  simp (maxSteps := 3000000) only [roSplit, roStr1, rSlSt, rSlBy, rRevL, TruD, rOrT, rAndT, rMake_g, roCatT, roRep, rMeth, rFld, rSetF, rXfn, rXf, lk_eq, putD, Dt.ins.injEq, Dt.exn.injEq, RleS, RMulS, roJoin, rRet, rRetN, rSeq, rIfS, rAsg, rVar, ofEn, rC, rOp, rUn, roP, rCB, rCons, rNil, rAndV, rOrV, rNotV, rB, rAnd, rOr, rNot, rIf, rTup, rLst, rDrop, rNext, rNever, look, frz, frzs, looks, held, roIsi, roF1, roL1, roNeg, rDNew, startE, ents, ent, csOf, unal, finds, RI0, RI, int_in, int_bl, len_ls, len_tu, len_st, len_by, at0, at1, at2, at3, ix30, ix31, ix32, eq_ii, ne_ii, eq_by, ne_by, notin_c, in_c, D.rChain, RIxA, roTupOf, RListOf, RListB, List.findSome?, List.getElem?_cons_zero, List.getElem?_cons_succ, List.getElem?_nil, List.set_cons_zero, List.set_cons_succ, List.length_cons, List.length_nil, List.map_cons, List.map_nil, List.replicate, List.nil_append, List.cons_append, List.append_nil, Option.some.injEq, exists_eq_left', exists_eq_left, exists_eq', exists_eq, true_and, and_true, Vl.d.injEq, Vl.nw.injEq, Vl.sl.injEq, Dt.int.injEq, Dt.bl.injEq, Dt.str.injEq, Dt.lst.injEq, Dt.tup.injEq, Dt.byt.injEq, Dt.ty.injEq, Dt.ref.injEq, En.val.injEq, En.mu.injEq, En.bor.injEq, List.cons.injEq, Nat.reduceLT, Nat.reduceAdd, Nat.reduceSub, Nat.zero_add, and_self, ↓reduceIte, Bool.false_eq_true, reduceCtorEq, false_and, and_false, exists_const, exists_false, or_false, false_or, Nat.reduceEqDiff, Option.map_some, Option.getD_some, Option.getD_none, and_assoc, exists_and_left, exists_and_right, rCall_f, rCall_g, f_pre, f_post, g_pre, g_post, g_exc, Prod.forall, Prod.exists, Prod.mk.injEq, exists_const, forall_const, argsD, conP, entD, remP, flagsP, flagAt, putP, aft, Ct.dt.injEq, forall_eq, forall_eq', forall_const, implies_true, false_implies, and_imp, forall_exists_index, forall_apply_eq_imp_iff, List.length_append, retD, rFor_L, asgLc, rLc_L, riList, riTup, riStr, riRange1, riRange2, riEnum, riRev, rgName, rgTup, rgCons, rgNil, wipeE, unw, rYes, rAsgG, rAsgSub, roSetL, rBM, rBM0, roAppend, roOwn0, isa_no, isa_bl, isa_in, isa_st, isa_by, isa_ls, isa_tu, isa_di, beq_self_eq_true, Bool.or_true, Bool.true_or, Bool.or_false, Bool.false_or, Bool.or_self, Bool.not_true, Bool.not_false, Bool.and_true, Bool.true_and, Bool.and_false, Bool.false_and, String.reduceBEq, String.reduceEq, not_true_eq_false, not_false_eq_true, rSlL', roNone, roSome, roCat, D.trk, rRaise0, rRaise1, excD, rTry, rEx, wMixD, goneD, List.isEmpty_nil, if_true, List.length_singleton, Nat.reduceLeDiff, Nat.reducePow, Int.reducePow, Int.reduceLT, Int.reduceLE, Int.reduceNeg, Int.reduceToNat, ms_law_right, S_right, ms_law_word, S_word, ms_law_row, S_row, ms_law_due, S_due, ms_clean, S_clean, clD, ms_law_next, S_draw, ms_law_pick, S_one, items]
  refine ⟨hw, by omega, fun n w1 hw1 hc1 hn0 hn1 => ⟨by omega, by omega, ?_⟩⟩
  refine lp_of (fun i η' => ∃ w' ss c2, wOk w' ∧ cnt w' ≤ 1 + 40 * (i : Int) ∧ (∀ s ∈ ss, pieceS s ∧ s.length ≤ 9) ∧ ss.length = i ∧ η' = [some (.mu (some 0) (.dt w')), some (.mu none (.dt (.lst (ss.map .str)))), c2, none, none, none, none, none, none]) ⟨w1, [], _, hw1, by omega, by simp, rfl, rfl⟩ ?_ ?_
  · rintro i x η' hx ⟨w2, ss, c2, hw2, hc2, hss, hl, rfl⟩
    have hi : i < n.toNat := by
      have := (List.getElem?_eq_some_iff.mp hx).1
      rwa [nums_length] at this
    simp (maxSteps := 3000000) only [roSplit, roStr1, rSlSt, rSlBy, rRevL, TruD, rOrT, rAndT, rMake_g, roCatT, roRep, rMeth, rFld, rSetF, rXfn, rXf, lk_eq, putD, Dt.ins.injEq, Dt.exn.injEq, RleS, RMulS, roJoin, rRet, rRetN, rSeq, rIfS, rAsg, rVar, ofEn, rC, rOp, rUn, roP, rCB, rCons, rNil, rAndV, rOrV, rNotV, rB, rAnd, rOr, rNot, rIf, rTup, rLst, rDrop, rNext, rNever, look, frz, frzs, looks, held, roIsi, roF1, roL1, roNeg, rDNew, startE, ents, ent, csOf, unal, finds, RI0, RI, int_in, int_bl, len_ls, len_tu, len_st, len_by, at0, at1, at2, at3, ix30, ix31, ix32, eq_ii, ne_ii, eq_by, ne_by, notin_c, in_c, D.rChain, RIxA, roTupOf, RListOf, RListB, List.findSome?, List.getElem?_cons_zero, List.getElem?_cons_succ, List.getElem?_nil, List.set_cons_zero, List.set_cons_succ, List.length_cons, List.length_nil, List.map_cons, List.map_nil, List.replicate, List.nil_append, List.cons_append, List.append_nil, Option.some.injEq, exists_eq_left', exists_eq_left, exists_eq', exists_eq, true_and, and_true, Vl.d.injEq, Vl.nw.injEq, Vl.sl.injEq, Dt.int.injEq, Dt.bl.injEq, Dt.str.injEq, Dt.lst.injEq, Dt.tup.injEq, Dt.byt.injEq, Dt.ty.injEq, Dt.ref.injEq, En.val.injEq, En.mu.injEq, En.bor.injEq, List.cons.injEq, Nat.reduceLT, Nat.reduceAdd, Nat.reduceSub, Nat.zero_add, and_self, ↓reduceIte, Bool.false_eq_true, reduceCtorEq, false_and, and_false, exists_const, exists_false, or_false, false_or, Nat.reduceEqDiff, Option.map_some, Option.getD_some, Option.getD_none, and_assoc, exists_and_left, exists_and_right, rCall_f, rCall_g, f_pre, f_post, g_pre, g_post, g_exc, Prod.forall, Prod.exists, Prod.mk.injEq, exists_const, forall_const, argsD, conP, entD, remP, flagsP, flagAt, putP, aft, Ct.dt.injEq, forall_eq, forall_eq', forall_const, implies_true, false_implies, and_imp, forall_exists_index, forall_apply_eq_imp_iff, List.length_append, retD, rFor_L, asgLc, rLc_L, riList, riTup, riStr, riRange1, riRange2, riEnum, riRev, rgName, rgTup, rgCons, rgNil, wipeE, unw, rYes, rAsgG, rAsgSub, roSetL, rBM, rBM0, roAppend, roOwn0, isa_no, isa_bl, isa_in, isa_st, isa_by, isa_ls, isa_tu, isa_di, beq_self_eq_true, Bool.or_true, Bool.true_or, Bool.or_false, Bool.false_or, Bool.or_self, Bool.not_true, Bool.not_false, Bool.and_true, Bool.true_and, Bool.and_false, Bool.false_and, String.reduceBEq, String.reduceEq, not_true_eq_false, not_false_eq_true, rSlL', roNone, roSome, roCat, D.trk, rRaise0, rRaise1, excD, rTry, rEx, wMixD, goneD, List.isEmpty_nil, if_true, List.length_singleton, Nat.reduceLeDiff, Nat.reducePow, Int.reducePow, Int.reduceLT, Int.reduceLE, Int.reduceNeg, Int.reduceToNat, ms_law_right, S_right, ms_law_word, S_word, ms_law_row, S_row, ms_law_due, S_due, ms_clean, S_clean, clD, ms_law_next, S_draw, ms_law_pick, S_one, items]
    refine ⟨hw2, by omega, fun s1' w3 hw3 hc3 hs1 => ⟨hw3, by omega, fun s2' w4 hw4 hc4 hs2 => ⟨hw4, by omega, fun s3' w5 hw5 hc5 hs3 => ⟨hw5, by omega, fun a w6 hw6 hc6 h1 h2 => ?_⟩⟩⟩⟩
    obtain ⟨x, hx4, hm⟩ := at_mem (l := [Dt.str s1', .str s2', .str s3', .str (Str.ofString "")]) h1 h2
    obtain ⟨z, rfl, hz1, hz2⟩ : ∃ z, x = .str z ∧ pieceS z ∧ z.length ≤ 9 := by
      simp only [List.mem_cons, List.mem_nil_iff, or_false] at hm
      rcases hm with rfl | rfl | rfl | rfl
      · exact ⟨_, rfl, hs1.2.2, hs1.2.1⟩
      · exact ⟨_, rfl, hs2.2.2, hs2.2.1⟩
      · exact ⟨_, rfl, hs3.2.2, hs3.2.1⟩
      · exact ⟨_, rfl, fun c hc => (List.not_mem_nil hc).elim, by decide⟩
    refine ⟨_, hx4, by rw [List.length_map]; omega, w6, hw6, by push_cast; omega, ss ++ [z], ?_, by simp [hl], rfl, by simp⟩
    intro s' hs'
    rw [List.mem_append, List.mem_singleton] at hs'
    rcases hs' with h | rfl
    · exact hss _ h
    · exact ⟨hz1, hz2⟩
  rintro η' ⟨w2, ss, c2, hw2, hc2, hss, hl, rfl⟩
  rw [nums_length] at hl hc2
  show U1 _
  subst e1
  refine sg fun U1 e1 => ?_
  simp (maxSteps := 3000000) only [roSplit, roStr1, rSlSt, rSlBy, rRevL, TruD, rOrT, rAndT, rMake_g, roCatT, roRep, rMeth, rFld, rSetF, rXfn, rXf, lk_eq, putD, Dt.ins.injEq, Dt.exn.injEq, RleS, RMulS, roJoin, rRet, rRetN, rSeq, rIfS, rAsg, rVar, ofEn, rC, rOp, rUn, roP, rCB, rCons, rNil, rAndV, rOrV, rNotV, rB, rAnd, rOr, rNot, rIf, rTup, rLst, rDrop, rNext, rNever, look, frz, frzs, looks, held, roIsi, roF1, roL1, roNeg, rDNew, startE, ents, ent, csOf, unal, finds, RI0, RI, int_in, int_bl, len_ls, len_tu, len_st, len_by, at0, at1, at2, at3, ix30, ix31, ix32, eq_ii, ne_ii, eq_by, ne_by, notin_c, in_c, D.rChain, RIxA, roTupOf, RListOf, RListB, List.findSome?, List.getElem?_cons_zero, List.getElem?_cons_succ, List.getElem?_nil, List.set_cons_zero, List.set_cons_succ, List.length_cons, List.length_nil, List.map_cons, List.map_nil, List.replicate, List.nil_append, List.cons_append, List.append_nil, Option.some.injEq, exists_eq_left', exists_eq_left, exists_eq', exists_eq, true_and, and_true, Vl.d.injEq, Vl.nw.injEq, Vl.sl.injEq, Dt.int.injEq, Dt.bl.injEq, Dt.str.injEq, Dt.lst.injEq, Dt.tup.injEq, Dt.byt.injEq, Dt.ty.injEq, Dt.ref.injEq, En.val.injEq, En.mu.injEq, En.bor.injEq, List.cons.injEq, Nat.reduceLT, Nat.reduceAdd, Nat.reduceSub, Nat.zero_add, and_self, ↓reduceIte, Bool.false_eq_true, reduceCtorEq, false_and, and_false, exists_const, exists_false, or_false, false_or, Nat.reduceEqDiff, Option.map_some, Option.getD_some, Option.getD_none, and_assoc, exists_and_left, exists_and_right, rCall_f, rCall_g, f_pre, f_post, g_pre, g_post, g_exc, Prod.forall, Prod.exists, Prod.mk.injEq, exists_const, forall_const, argsD, conP, entD, remP, flagsP, flagAt, putP, aft, Ct.dt.injEq, forall_eq, forall_eq', forall_const, implies_true, false_implies, and_imp, forall_exists_index, forall_apply_eq_imp_iff, List.length_append, retD, rFor_L, asgLc, rLc_L, riList, riTup, riStr, riRange1, riRange2, riEnum, riRev, rgName, rgTup, rgCons, rgNil, wipeE, unw, rYes, rAsgG, rAsgSub, roSetL, rBM, rBM0, roAppend, roOwn0, isa_no, isa_bl, isa_in, isa_st, isa_by, isa_ls, isa_tu, isa_di, beq_self_eq_true, Bool.or_true, Bool.true_or, Bool.or_false, Bool.false_or, Bool.or_self, Bool.not_true, Bool.not_false, Bool.and_true, Bool.true_and, Bool.and_false, Bool.false_and, String.reduceBEq, String.reduceEq, not_true_eq_false, not_false_eq_true, rSlL', roNone, roSome, roCat, D.trk, rRaise0, rRaise1, excD, rTry, rEx, wMixD, goneD, List.isEmpty_nil, if_true, List.length_singleton, Nat.reduceLeDiff, Nat.reducePow, Int.reducePow, Int.reduceLT, Int.reduceLE, Int.reduceNeg, Int.reduceToNat, ms_law_right, S_right, ms_law_word, S_word, ms_law_row, S_row, ms_law_due, S_due, ms_clean, S_clean, clD, ms_law_next, S_draw, ms_law_pick, S_one, items]
  refine ⟨ss, rfl, ?_, ?_⟩
  · have := sum_le9 fun s hs => (hss s hs).2
    rw [show (Str.ofString " ").length = 1 from rfl]
    omega
  have ht0 : okT (Txt.join (Str.ofString " ") ss) := ⟨fun c hc => by
    rcases mem_join hc with rfl | ⟨p, hp, hc⟩
    · rfl
    · exact ((hss p hp).1 c hc).1, by
    have := sum_le9 fun s hs => (hss s hs).2
    have := join_len (y := Str.ofString " ") (ss := ss)
    rw [show (Str.ofString " ").length = 1 from rfl] at this
    omega⟩
  generalize Txt.join (Str.ofString " ") ss = t0 at ht0 ⊢
  subst e1
  refine sg fun U1 e1 => ?_
  simp (maxSteps := 3000000) only [roSplit, roStr1, rSlSt, rSlBy, rRevL, TruD, rOrT, rAndT, rMake_g, roCatT, roRep, rMeth, rFld, rSetF, rXfn, rXf, lk_eq, putD, Dt.ins.injEq, Dt.exn.injEq, RleS, RMulS, roJoin, rRet, rRetN, rSeq, rIfS, rAsg, rVar, ofEn, rC, rOp, rUn, roP, rCB, rCons, rNil, rAndV, rOrV, rNotV, rB, rAnd, rOr, rNot, rIf, rTup, rLst, rDrop, rNext, rNever, look, frz, frzs, looks, held, roIsi, roF1, roL1, roNeg, rDNew, startE, ents, ent, csOf, unal, finds, RI0, RI, int_in, int_bl, len_ls, len_tu, len_st, len_by, at0, at1, at2, at3, ix30, ix31, ix32, eq_ii, ne_ii, eq_by, ne_by, notin_c, in_c, D.rChain, RIxA, roTupOf, RListOf, RListB, List.findSome?, List.getElem?_cons_zero, List.getElem?_cons_succ, List.getElem?_nil, List.set_cons_zero, List.set_cons_succ, List.length_cons, List.length_nil, List.map_cons, List.map_nil, List.replicate, List.nil_append, List.cons_append, List.append_nil, Option.some.injEq, exists_eq_left', exists_eq_left, exists_eq', exists_eq, true_and, and_true, Vl.d.injEq, Vl.nw.injEq, Vl.sl.injEq, Dt.int.injEq, Dt.bl.injEq, Dt.str.injEq, Dt.lst.injEq, Dt.tup.injEq, Dt.byt.injEq, Dt.ty.injEq, Dt.ref.injEq, En.val.injEq, En.mu.injEq, En.bor.injEq, List.cons.injEq, Nat.reduceLT, Nat.reduceAdd, Nat.reduceSub, Nat.zero_add, and_self, ↓reduceIte, Bool.false_eq_true, reduceCtorEq, false_and, and_false, exists_const, exists_false, or_false, false_or, Nat.reduceEqDiff, Option.map_some, Option.getD_some, Option.getD_none, and_assoc, exists_and_left, exists_and_right, rCall_f, rCall_g, f_pre, f_post, g_pre, g_post, g_exc, Prod.forall, Prod.exists, Prod.mk.injEq, exists_const, forall_const, argsD, conP, entD, remP, flagsP, flagAt, putP, aft, Ct.dt.injEq, forall_eq, forall_eq', forall_const, implies_true, false_implies, and_imp, forall_exists_index, forall_apply_eq_imp_iff, List.length_append, retD, rFor_L, asgLc, rLc_L, riList, riTup, riStr, riRange1, riRange2, riEnum, riRev, rgName, rgTup, rgCons, rgNil, wipeE, unw, rYes, rAsgG, rAsgSub, roSetL, rBM, rBM0, roAppend, roOwn0, isa_no, isa_bl, isa_in, isa_st, isa_by, isa_ls, isa_tu, isa_di, beq_self_eq_true, Bool.or_true, Bool.true_or, Bool.or_false, Bool.false_or, Bool.or_self, Bool.not_true, Bool.not_false, Bool.and_true, Bool.true_and, Bool.and_false, Bool.false_and, String.reduceBEq, String.reduceEq, not_true_eq_false, not_false_eq_true, rSlL', roNone, roSome, roCat, D.trk, rRaise0, rRaise1, excD, rTry, rEx, wMixD, goneD, List.isEmpty_nil, if_true, List.length_singleton, Nat.reduceLeDiff, Nat.reducePow, Int.reducePow, Int.reduceLT, Int.reduceLE, Int.reduceNeg, Int.reduceToNat, ms_law_right, S_right, ms_law_word, S_word, ms_law_row, S_row, ms_law_due, S_due, ms_clean, S_clean, clD, ms_law_next, S_draw, ms_law_pick, S_one, items]
  refine ⟨hw2, by omega, fun a w3 hw3 hc3 h1 h2 => ?_⟩
  have hgo : ∀ t w', okT t → wOk w' → cnt w' ≤ 2000 → U1 [some (.mu (some 0) (.dt w')), some (.mu none (.dt (.lst (ss.map .str)))), c2, some (.val (.str t)), none, none, none, none, none] := by
    intro t w' ht hw' hc'
    have ht2 := ht.2
    subst e1
    refine sg fun U1 e1 => ?_
    simp (maxSteps := 3000000) only [roSplit, roStr1, rSlSt, rSlBy, rRevL, TruD, rOrT, rAndT, rMake_g, roCatT, roRep, rMeth, rFld, rSetF, rXfn, rXf, lk_eq, putD, Dt.ins.injEq, Dt.exn.injEq, RleS, RMulS, roJoin, rRet, rRetN, rSeq, rIfS, rAsg, rVar, ofEn, rC, rOp, rUn, roP, rCB, rCons, rNil, rAndV, rOrV, rNotV, rB, rAnd, rOr, rNot, rIf, rTup, rLst, rDrop, rNext, rNever, look, frz, frzs, looks, held, roIsi, roF1, roL1, roNeg, rDNew, startE, ents, ent, csOf, unal, finds, RI0, RI, int_in, int_bl, len_ls, len_tu, len_st, len_by, at0, at1, at2, at3, ix30, ix31, ix32, eq_ii, ne_ii, eq_by, ne_by, notin_c, in_c, D.rChain, RIxA, roTupOf, RListOf, RListB, List.findSome?, List.getElem?_cons_zero, List.getElem?_cons_succ, List.getElem?_nil, List.set_cons_zero, List.set_cons_succ, List.length_cons, List.length_nil, List.map_cons, List.map_nil, List.replicate, List.nil_append, List.cons_append, List.append_nil, Option.some.injEq, exists_eq_left', exists_eq_left, exists_eq', exists_eq, true_and, and_true, Vl.d.injEq, Vl.nw.injEq, Vl.sl.injEq, Dt.int.injEq, Dt.bl.injEq, Dt.str.injEq, Dt.lst.injEq, Dt.tup.injEq, Dt.byt.injEq, Dt.ty.injEq, Dt.ref.injEq, En.val.injEq, En.mu.injEq, En.bor.injEq, List.cons.injEq, Nat.reduceLT, Nat.reduceAdd, Nat.reduceSub, Nat.zero_add, and_self, ↓reduceIte, Bool.false_eq_true, reduceCtorEq, false_and, and_false, exists_const, exists_false, or_false, false_or, Nat.reduceEqDiff, Option.map_some, Option.getD_some, Option.getD_none, and_assoc, exists_and_left, exists_and_right, rCall_f, rCall_g, f_pre, f_post, g_pre, g_post, g_exc, Prod.forall, Prod.exists, Prod.mk.injEq, exists_const, forall_const, argsD, conP, entD, remP, flagsP, flagAt, putP, aft, Ct.dt.injEq, forall_eq, forall_eq', forall_const, implies_true, false_implies, and_imp, forall_exists_index, forall_apply_eq_imp_iff, List.length_append, retD, rFor_L, asgLc, rLc_L, riList, riTup, riStr, riRange1, riRange2, riEnum, riRev, rgName, rgTup, rgCons, rgNil, wipeE, unw, rYes, rAsgG, rAsgSub, roSetL, rBM, rBM0, roAppend, roOwn0, isa_no, isa_bl, isa_in, isa_st, isa_by, isa_ls, isa_tu, isa_di, beq_self_eq_true, Bool.or_true, Bool.true_or, Bool.or_false, Bool.false_or, Bool.or_self, Bool.not_true, Bool.not_false, Bool.and_true, Bool.true_and, Bool.and_false, Bool.false_and, String.reduceBEq, String.reduceEq, not_true_eq_false, not_false_eq_true, rSlL', roNone, roSome, roCat, D.trk, rRaise0, rRaise1, excD, rTry, rEx, wMixD, goneD, List.isEmpty_nil, if_true, List.length_singleton, Nat.reduceLeDiff, Nat.reducePow, Int.reducePow, Int.reduceLT, Int.reduceLE, Int.reduceNeg, Int.reduceToNat, ms_law_right, S_right, ms_law_word, S_word, ms_law_row, S_row, ms_law_due, S_due, ms_clean, S_clean, clD, ms_law_next, S_draw, ms_law_pick, S_one, items]
    refine ⟨by decide, by omega, ?_⟩
    subst e1
    refine sg fun U1 e1 => ?_
    simp (maxSteps := 3000000) only [roSplit, roStr1, rSlSt, rSlBy, rRevL, TruD, rOrT, rAndT, rMake_g, roCatT, roRep, rMeth, rFld, rSetF, rXfn, rXf, lk_eq, putD, Dt.ins.injEq, Dt.exn.injEq, RleS, RMulS, roJoin, rRet, rRetN, rSeq, rIfS, rAsg, rVar, ofEn, rC, rOp, rUn, roP, rCB, rCons, rNil, rAndV, rOrV, rNotV, rB, rAnd, rOr, rNot, rIf, rTup, rLst, rDrop, rNext, rNever, look, frz, frzs, looks, held, roIsi, roF1, roL1, roNeg, rDNew, startE, ents, ent, csOf, unal, finds, RI0, RI, int_in, int_bl, len_ls, len_tu, len_st, len_by, at0, at1, at2, at3, ix30, ix31, ix32, eq_ii, ne_ii, eq_by, ne_by, notin_c, in_c, D.rChain, RIxA, roTupOf, RListOf, RListB, List.findSome?, List.getElem?_cons_zero, List.getElem?_cons_succ, List.getElem?_nil, List.set_cons_zero, List.set_cons_succ, List.length_cons, List.length_nil, List.map_cons, List.map_nil, List.replicate, List.nil_append, List.cons_append, List.append_nil, Option.some.injEq, exists_eq_left', exists_eq_left, exists_eq', exists_eq, true_and, and_true, Vl.d.injEq, Vl.nw.injEq, Vl.sl.injEq, Dt.int.injEq, Dt.bl.injEq, Dt.str.injEq, Dt.lst.injEq, Dt.tup.injEq, Dt.byt.injEq, Dt.ty.injEq, Dt.ref.injEq, En.val.injEq, En.mu.injEq, En.bor.injEq, List.cons.injEq, Nat.reduceLT, Nat.reduceAdd, Nat.reduceSub, Nat.zero_add, and_self, ↓reduceIte, Bool.false_eq_true, reduceCtorEq, false_and, and_false, exists_const, exists_false, or_false, false_or, Nat.reduceEqDiff, Option.map_some, Option.getD_some, Option.getD_none, and_assoc, exists_and_left, exists_and_right, rCall_f, rCall_g, f_pre, f_post, g_pre, g_post, g_exc, Prod.forall, Prod.exists, Prod.mk.injEq, exists_const, forall_const, argsD, conP, entD, remP, flagsP, flagAt, putP, aft, Ct.dt.injEq, forall_eq, forall_eq', forall_const, implies_true, false_implies, and_imp, forall_exists_index, forall_apply_eq_imp_iff, List.length_append, retD, rFor_L, asgLc, rLc_L, riList, riTup, riStr, riRange1, riRange2, riEnum, riRev, rgName, rgTup, rgCons, rgNil, wipeE, unw, rYes, rAsgG, rAsgSub, roSetL, rBM, rBM0, roAppend, roOwn0, isa_no, isa_bl, isa_in, isa_st, isa_by, isa_ls, isa_tu, isa_di, beq_self_eq_true, Bool.or_true, Bool.true_or, Bool.or_false, Bool.false_or, Bool.or_self, Bool.not_true, Bool.not_false, Bool.and_true, Bool.true_and, Bool.and_false, Bool.false_and, String.reduceBEq, String.reduceEq, not_true_eq_false, not_false_eq_true, rSlL', roNone, roSome, roCat, D.trk, rRaise0, rRaise1, excD, rTry, rEx, wMixD, goneD, List.isEmpty_nil, if_true, List.length_singleton, Nat.reduceLeDiff, Nat.reducePow, Int.reducePow, Int.reduceLT, Int.reduceLE, Int.reduceNeg, Int.reduceToNat, ms_law_right, S_right, ms_law_word, S_word, ms_law_row, S_row, ms_law_due, S_due, ms_clean, S_clean, clD, ms_law_next, S_draw, ms_law_pick, S_one, items]
    refine ⟨hw', by omega, fun n2 w4 hw4 hc4 hn3 hn4 => ⟨by omega, by omega, ?_⟩⟩
    have hpl : (Txt.split t (Str.ofString " ")).length ≤ 1000 := by
      have := pcs_sum t
      have e : (Txt.split t (Str.ofString " ")).length = (pcs t).length := rfl
      omega
    refine lc_map (fun i acc η' => ∃ w', wOk w' ∧ cnt w' ≤ 3000 + 20 * (i : Int) ∧ η' = [some (.mu (some 0) (.dt w')), some (.mu none (.dt (.lst (ss.map .str)))), none, some (.val (.str t)), some (.mu none (.dt (.lst ((Txt.split t (Str.ofString " ")).map .str)))), none, none, none, none] ∧ acc.length = i ∧ ∀ r ∈ acc, isRow r = true) (by rw [nums_length]; omega) ⟨w4, hw4, by omega, rfl, rfl, by simp⟩ ?_ ?_
    · rintro i x acc η' hx hl' ⟨w5, hw5, hc5, rfl, hla, hacc⟩
      have hi : i < n2.toNat := by
        have := (List.getElem?_eq_some_iff.mp hx).1
        rwa [nums_length] at this
      simp (maxSteps := 3000000) only [roSplit, roStr1, rSlSt, rSlBy, rRevL, TruD, rOrT, rAndT, rMake_g, roCatT, roRep, rMeth, rFld, rSetF, rXfn, rXf, lk_eq, putD, Dt.ins.injEq, Dt.exn.injEq, RleS, RMulS, roJoin, rRet, rRetN, rSeq, rIfS, rAsg, rVar, ofEn, rC, rOp, rUn, roP, rCB, rCons, rNil, rAndV, rOrV, rNotV, rB, rAnd, rOr, rNot, rIf, rTup, rLst, rDrop, rNext, rNever, look, frz, frzs, looks, held, roIsi, roF1, roL1, roNeg, rDNew, startE, ents, ent, csOf, unal, finds, RI0, RI, int_in, int_bl, len_ls, len_tu, len_st, len_by, at0, at1, at2, at3, ix30, ix31, ix32, eq_ii, ne_ii, eq_by, ne_by, notin_c, in_c, D.rChain, RIxA, roTupOf, RListOf, RListB, List.findSome?, List.getElem?_cons_zero, List.getElem?_cons_succ, List.getElem?_nil, List.set_cons_zero, List.set_cons_succ, List.length_cons, List.length_nil, List.map_cons, List.map_nil, List.replicate, List.nil_append, List.cons_append, List.append_nil, Option.some.injEq, exists_eq_left', exists_eq_left, exists_eq', exists_eq, true_and, and_true, Vl.d.injEq, Vl.nw.injEq, Vl.sl.injEq, Dt.int.injEq, Dt.bl.injEq, Dt.str.injEq, Dt.lst.injEq, Dt.tup.injEq, Dt.byt.injEq, Dt.ty.injEq, Dt.ref.injEq, En.val.injEq, En.mu.injEq, En.bor.injEq, List.cons.injEq, Nat.reduceLT, Nat.reduceAdd, Nat.reduceSub, Nat.zero_add, and_self, ↓reduceIte, Bool.false_eq_true, reduceCtorEq, false_and, and_false, exists_const, exists_false, or_false, false_or, Nat.reduceEqDiff, Option.map_some, Option.getD_some, Option.getD_none, and_assoc, exists_and_left, exists_and_right, rCall_f, rCall_g, f_pre, f_post, g_pre, g_post, g_exc, Prod.forall, Prod.exists, Prod.mk.injEq, exists_const, forall_const, argsD, conP, entD, remP, flagsP, flagAt, putP, aft, Ct.dt.injEq, forall_eq, forall_eq', forall_const, implies_true, false_implies, and_imp, forall_exists_index, forall_apply_eq_imp_iff, List.length_append, retD, rFor_L, asgLc, rLc_L, riList, riTup, riStr, riRange1, riRange2, riEnum, riRev, rgName, rgTup, rgCons, rgNil, wipeE, unw, rYes, rAsgG, rAsgSub, roSetL, rBM, rBM0, roAppend, roOwn0, isa_no, isa_bl, isa_in, isa_st, isa_by, isa_ls, isa_tu, isa_di, beq_self_eq_true, Bool.or_true, Bool.true_or, Bool.or_false, Bool.false_or, Bool.or_self, Bool.not_true, Bool.not_false, Bool.and_true, Bool.true_and, Bool.and_false, Bool.false_and, String.reduceBEq, String.reduceEq, not_true_eq_false, not_false_eq_true, rSlL', roNone, roSome, roCat, D.trk, rRaise0, rRaise1, excD, rTry, rEx, wMixD, goneD, List.isEmpty_nil, if_true, List.length_singleton, Nat.reduceLeDiff, Nat.reducePow, Int.reducePow, Int.reduceLT, Int.reduceLE, Int.reduceNeg, Int.reduceToNat, ms_law_right, S_right, ms_law_word, S_word, ms_law_row, S_row, ms_law_due, S_due, ms_clean, S_clean, clD, ms_law_next, S_draw, ms_law_pick, S_one, items]
      refine ⟨⟨pcs t, rfl, hw5, by omega, okT_pieces ht, hpl⟩, fun r w6 hw6 hc6 hr => ⟨w6, hw6, by push_cast; omega, rfl, hla, ?_⟩⟩
      intro y hy
      rw [List.mem_append, List.mem_singleton] at hy
      rcases hy with h | rfl
      · exact hacc _ h
      · exact hr
    rintro rs η' hl' ⟨w5, hw5, hc5, rfl, hla, hrs⟩
    rw [nums_length] at hc5 hla
    have hR : rowsOk rs := ⟨hrs, by omega⟩
    have hrl : rs.length ≤ 20 := hR.2
    simp (maxSteps := 3000000) only [roSplit, roStr1, rSlSt, rSlBy, rRevL, TruD, rOrT, rAndT, rMake_g, roCatT, roRep, rMeth, rFld, rSetF, rXfn, rXf, lk_eq, putD, Dt.ins.injEq, Dt.exn.injEq, RleS, RMulS, roJoin, rRet, rRetN, rSeq, rIfS, rAsg, rVar, ofEn, rC, rOp, rUn, roP, rCB, rCons, rNil, rAndV, rOrV, rNotV, rB, rAnd, rOr, rNot, rIf, rTup, rLst, rDrop, rNext, rNever, look, frz, frzs, looks, held, roIsi, roF1, roL1, roNeg, rDNew, startE, ents, ent, csOf, unal, finds, RI0, RI, int_in, int_bl, len_ls, len_tu, len_st, len_by, at0, at1, at2, at3, ix30, ix31, ix32, eq_ii, ne_ii, eq_by, ne_by, notin_c, in_c, D.rChain, RIxA, roTupOf, RListOf, RListB, List.findSome?, List.getElem?_cons_zero, List.getElem?_cons_succ, List.getElem?_nil, List.set_cons_zero, List.set_cons_succ, List.length_cons, List.length_nil, List.map_cons, List.map_nil, List.replicate, List.nil_append, List.cons_append, List.append_nil, Option.some.injEq, exists_eq_left', exists_eq_left, exists_eq', exists_eq, true_and, and_true, Vl.d.injEq, Vl.nw.injEq, Vl.sl.injEq, Dt.int.injEq, Dt.bl.injEq, Dt.str.injEq, Dt.lst.injEq, Dt.tup.injEq, Dt.byt.injEq, Dt.ty.injEq, Dt.ref.injEq, En.val.injEq, En.mu.injEq, En.bor.injEq, List.cons.injEq, Nat.reduceLT, Nat.reduceAdd, Nat.reduceSub, Nat.zero_add, and_self, ↓reduceIte, Bool.false_eq_true, reduceCtorEq, false_and, and_false, exists_const, exists_false, or_false, false_or, Nat.reduceEqDiff, Option.map_some, Option.getD_some, Option.getD_none, and_assoc, exists_and_left, exists_and_right, rCall_f, rCall_g, f_pre, f_post, g_pre, g_post, g_exc, Prod.forall, Prod.exists, Prod.mk.injEq, exists_const, forall_const, argsD, conP, entD, remP, flagsP, flagAt, putP, aft, Ct.dt.injEq, forall_eq, forall_eq', forall_const, implies_true, false_implies, and_imp, forall_exists_index, forall_apply_eq_imp_iff, List.length_append, retD, rFor_L, asgLc, rLc_L, riList, riTup, riStr, riRange1, riRange2, riEnum, riRev, rgName, rgTup, rgCons, rgNil, wipeE, unw, rYes, rAsgG, rAsgSub, roSetL, rBM, rBM0, roAppend, roOwn0, isa_no, isa_bl, isa_in, isa_st, isa_by, isa_ls, isa_tu, isa_di, beq_self_eq_true, Bool.or_true, Bool.true_or, Bool.or_false, Bool.false_or, Bool.or_self, Bool.not_true, Bool.not_false, Bool.and_true, Bool.true_and, Bool.and_false, Bool.false_and, String.reduceBEq, String.reduceEq, not_true_eq_false, not_false_eq_true, rSlL', roNone, roSome, roCat, D.trk, rRaise0, rRaise1, excD, rTry, rEx, wMixD, goneD, List.isEmpty_nil, if_true, List.length_singleton, Nat.reduceLeDiff, Nat.reducePow, Int.reducePow, Int.reduceLT, Int.reduceLE, Int.reduceNeg, Int.reduceToNat, ms_law_right, S_right, ms_law_word, S_word, ms_law_row, S_row, ms_law_due, S_due, ms_clean, S_clean, clD, ms_law_next, S_draw, ms_law_pick, S_one, items]
    have hd : rowsArg (.lst rs) := ⟨rfl, fun ds e => by cases e; exact ⟨by omega, fun x hx => rowArg_row (hrs x hx)⟩⟩
    have hb : badAt (.lst rs) = none := by
      simp only [badAt, first_ge hrs (by decide : 0 ≤ 20)]
      rw [if_neg (by omega)]
    have hd2 : rowsArg (.lst rs.reverse) := ⟨rfl, fun ds e => by cases e; exact ⟨by rw [List.length_reverse]; omega, fun x hx => rowArg_row (hrs x (List.mem_reverse.mp hx))⟩⟩
    have hb2 : badAt (.lst rs.reverse) = none := by
      simp only [badAt, first_ge (fun x hx => hrs x (List.mem_reverse.mp hx)) (by decide : 0 ≤ 20)]
      rw [List.length_reverse, if_neg (by omega)]
    have hR2 : rowsOk rs.reverse := ⟨fun x hx => hrs x (List.mem_reverse.mp hx), by rw [List.length_reverse]; omega⟩
    have hR0 : rowsOk [] := ⟨fun x hx => (List.not_mem_nil hx).elim, by decide⟩
    have hd0 : rowsArg (.lst []) := ⟨rfl, fun ds e => by cases e; exact ⟨by decide, fun x hx => (List.not_mem_nil hx).elim⟩⟩
    have hb0 : badAt (.lst []) = none := rfl
    have hps := okT_pieces ht
    have hsum := pcs_sum t
    subst e1
    refine sg fun U1 e1 => ?_
    simp (maxSteps := 3000000) only [roSplit, roStr1, rSlSt, rSlBy, rRevL, TruD, rOrT, rAndT, rMake_g, roCatT, roRep, rMeth, rFld, rSetF, rXfn, rXf, lk_eq, putD, Dt.ins.injEq, Dt.exn.injEq, RleS, RMulS, roJoin, rRet, rRetN, rSeq, rIfS, rAsg, rVar, ofEn, rC, rOp, rUn, roP, rCB, rCons, rNil, rAndV, rOrV, rNotV, rB, rAnd, rOr, rNot, rIf, rTup, rLst, rDrop, rNext, rNever, look, frz, frzs, looks, held, roIsi, roF1, roL1, roNeg, rDNew, startE, ents, ent, csOf, unal, finds, RI0, RI, int_in, int_bl, len_ls, len_tu, len_st, len_by, at0, at1, at2, at3, ix30, ix31, ix32, eq_ii, ne_ii, eq_by, ne_by, notin_c, in_c, D.rChain, RIxA, roTupOf, RListOf, RListB, List.findSome?, List.getElem?_cons_zero, List.getElem?_cons_succ, List.getElem?_nil, List.set_cons_zero, List.set_cons_succ, List.length_cons, List.length_nil, List.map_cons, List.map_nil, List.replicate, List.nil_append, List.cons_append, List.append_nil, Option.some.injEq, exists_eq_left', exists_eq_left, exists_eq', exists_eq, true_and, and_true, Vl.d.injEq, Vl.nw.injEq, Vl.sl.injEq, Dt.int.injEq, Dt.bl.injEq, Dt.str.injEq, Dt.lst.injEq, Dt.tup.injEq, Dt.byt.injEq, Dt.ty.injEq, Dt.ref.injEq, En.val.injEq, En.mu.injEq, En.bor.injEq, List.cons.injEq, Nat.reduceLT, Nat.reduceAdd, Nat.reduceSub, Nat.zero_add, and_self, ↓reduceIte, Bool.false_eq_true, reduceCtorEq, false_and, and_false, exists_const, exists_false, or_false, false_or, Nat.reduceEqDiff, Option.map_some, Option.getD_some, Option.getD_none, and_assoc, exists_and_left, exists_and_right, rCall_f, rCall_g, f_pre, f_post, g_pre, g_post, g_exc, Prod.forall, Prod.exists, Prod.mk.injEq, exists_const, forall_const, argsD, conP, entD, remP, flagsP, flagAt, putP, aft, Ct.dt.injEq, forall_eq, forall_eq', forall_const, implies_true, false_implies, and_imp, forall_exists_index, forall_apply_eq_imp_iff, List.length_append, retD, rFor_L, asgLc, rLc_L, riList, riTup, riStr, riRange1, riRange2, riEnum, riRev, rgName, rgTup, rgCons, rgNil, wipeE, unw, rYes, rAsgG, rAsgSub, roSetL, rBM, rBM0, roAppend, roOwn0, isa_no, isa_bl, isa_in, isa_st, isa_by, isa_ls, isa_tu, isa_di, beq_self_eq_true, Bool.or_true, Bool.true_or, Bool.or_false, Bool.false_or, Bool.or_self, Bool.not_true, Bool.not_false, Bool.and_true, Bool.true_and, Bool.and_false, Bool.false_and, String.reduceBEq, String.reduceEq, not_true_eq_false, not_false_eq_true, rSlL', roNone, roSome, roCat, D.trk, rRaise0, rRaise1, excD, rTry, rEx, wMixD, goneD, List.isEmpty_nil, if_true, List.length_singleton, Nat.reduceLeDiff, Nat.reducePow, Int.reducePow, Int.reduceLT, Int.reduceLE, Int.reduceNeg, Int.reduceToNat, ms_law_right, S_right, ms_law_word, S_word, ms_law_row, S_row, ms_law_due, S_due, ms_clean, S_clean, clD, ms_law_next, S_draw, ms_law_pick, S_one, items, ms_Cleaner___init__, S_init, hb]
    refine ⟨hd, ?_⟩
    subst e1
    refine sg fun U1 e1 => ?_
    simp (maxSteps := 3000000) only [roSplit, roStr1, rSlSt, rSlBy, rRevL, TruD, rOrT, rAndT, rMake_g, roCatT, roRep, rMeth, rFld, rSetF, rXfn, rXf, lk_eq, putD, Dt.ins.injEq, Dt.exn.injEq, RleS, RMulS, roJoin, rRet, rRetN, rSeq, rIfS, rAsg, rVar, ofEn, rC, rOp, rUn, roP, rCB, rCons, rNil, rAndV, rOrV, rNotV, rB, rAnd, rOr, rNot, rIf, rTup, rLst, rDrop, rNext, rNever, look, frz, frzs, looks, held, roIsi, roF1, roL1, roNeg, rDNew, startE, ents, ent, csOf, unal, finds, RI0, RI, int_in, int_bl, len_ls, len_tu, len_st, len_by, at0, at1, at2, at3, ix30, ix31, ix32, eq_ii, ne_ii, eq_by, ne_by, notin_c, in_c, D.rChain, RIxA, roTupOf, RListOf, RListB, List.findSome?, List.getElem?_cons_zero, List.getElem?_cons_succ, List.getElem?_nil, List.set_cons_zero, List.set_cons_succ, List.length_cons, List.length_nil, List.map_cons, List.map_nil, List.replicate, List.nil_append, List.cons_append, List.append_nil, Option.some.injEq, exists_eq_left', exists_eq_left, exists_eq', exists_eq, true_and, and_true, Vl.d.injEq, Vl.nw.injEq, Vl.sl.injEq, Dt.int.injEq, Dt.bl.injEq, Dt.str.injEq, Dt.lst.injEq, Dt.tup.injEq, Dt.byt.injEq, Dt.ty.injEq, Dt.ref.injEq, En.val.injEq, En.mu.injEq, En.bor.injEq, List.cons.injEq, Nat.reduceLT, Nat.reduceAdd, Nat.reduceSub, Nat.zero_add, and_self, ↓reduceIte, Bool.false_eq_true, reduceCtorEq, false_and, and_false, exists_const, exists_false, or_false, false_or, Nat.reduceEqDiff, Option.map_some, Option.getD_some, Option.getD_none, and_assoc, exists_and_left, exists_and_right, rCall_f, rCall_g, f_pre, f_post, g_pre, g_post, g_exc, Prod.forall, Prod.exists, Prod.mk.injEq, exists_const, forall_const, argsD, conP, entD, remP, flagsP, flagAt, putP, aft, Ct.dt.injEq, forall_eq, forall_eq', forall_const, implies_true, false_implies, and_imp, forall_exists_index, forall_apply_eq_imp_iff, List.length_append, retD, rFor_L, asgLc, rLc_L, riList, riTup, riStr, riRange1, riRange2, riEnum, riRev, rgName, rgTup, rgCons, rgNil, wipeE, unw, rYes, rAsgG, rAsgSub, roSetL, rBM, rBM0, roAppend, roOwn0, isa_no, isa_bl, isa_in, isa_st, isa_by, isa_ls, isa_tu, isa_di, beq_self_eq_true, Bool.or_true, Bool.true_or, Bool.or_false, Bool.false_or, Bool.or_self, Bool.not_true, Bool.not_false, Bool.and_true, Bool.true_and, Bool.and_false, Bool.false_and, String.reduceBEq, String.reduceEq, not_true_eq_false, not_false_eq_true, rSlL', roNone, roSome, roCat, D.trk, rRaise0, rRaise1, excD, rTry, rEx, wMixD, goneD, List.isEmpty_nil, if_true, List.length_singleton, Nat.reduceLeDiff, Nat.reducePow, Int.reducePow, Int.reduceLT, Int.reduceLE, Int.reduceNeg, Int.reduceToNat, ms_law_right, S_right, ms_law_word, S_word, ms_law_row, S_row, ms_law_due, S_due, ms_clean, S_clean, clD, ms_law_next, S_draw, ms_law_pick, S_one, items]
    refine ⟨⟨pcs t, rfl, hR, fun s hs => (hps s hs).2, hpl, by omega⟩, ?_⟩
    have hdue : ∀ rs, dueS rs ((Txt.split t (Str.ofString " ")).map .str) = cleanS rs t := fun rs => by
      rw [dueS, unS_map]
      rfl
    rw [hdue]
    subst e1
    refine sg fun U1 e1 => ?_
    simp (maxSteps := 3000000) only [roSplit, roStr1, rSlSt, rSlBy, rRevL, TruD, rOrT, rAndT, rMake_g, roCatT, roRep, rMeth, rFld, rSetF, rXfn, rXf, lk_eq, putD, Dt.ins.injEq, Dt.exn.injEq, RleS, RMulS, roJoin, rRet, rRetN, rSeq, rIfS, rAsg, rVar, ofEn, rC, rOp, rUn, roP, rCB, rCons, rNil, rAndV, rOrV, rNotV, rB, rAnd, rOr, rNot, rIf, rTup, rLst, rDrop, rNext, rNever, look, frz, frzs, looks, held, roIsi, roF1, roL1, roNeg, rDNew, startE, ents, ent, csOf, unal, finds, RI0, RI, int_in, int_bl, len_ls, len_tu, len_st, len_by, at0, at1, at2, at3, ix30, ix31, ix32, eq_ii, ne_ii, eq_by, ne_by, notin_c, in_c, D.rChain, RIxA, roTupOf, RListOf, RListB, List.findSome?, List.getElem?_cons_zero, List.getElem?_cons_succ, List.getElem?_nil, List.set_cons_zero, List.set_cons_succ, List.length_cons, List.length_nil, List.map_cons, List.map_nil, List.replicate, List.nil_append, List.cons_append, List.append_nil, Option.some.injEq, exists_eq_left', exists_eq_left, exists_eq', exists_eq, true_and, and_true, Vl.d.injEq, Vl.nw.injEq, Vl.sl.injEq, Dt.int.injEq, Dt.bl.injEq, Dt.str.injEq, Dt.lst.injEq, Dt.tup.injEq, Dt.byt.injEq, Dt.ty.injEq, Dt.ref.injEq, En.val.injEq, En.mu.injEq, En.bor.injEq, List.cons.injEq, Nat.reduceLT, Nat.reduceAdd, Nat.reduceSub, Nat.zero_add, and_self, ↓reduceIte, Bool.false_eq_true, reduceCtorEq, false_and, and_false, exists_const, exists_false, or_false, false_or, Nat.reduceEqDiff, Option.map_some, Option.getD_some, Option.getD_none, and_assoc, exists_and_left, exists_and_right, rCall_f, rCall_g, f_pre, f_post, g_pre, g_post, g_exc, Prod.forall, Prod.exists, Prod.mk.injEq, exists_const, forall_const, argsD, conP, entD, remP, flagsP, flagAt, putP, aft, Ct.dt.injEq, forall_eq, forall_eq', forall_const, implies_true, false_implies, and_imp, forall_exists_index, forall_apply_eq_imp_iff, List.length_append, retD, rFor_L, asgLc, rLc_L, riList, riTup, riStr, riRange1, riRange2, riEnum, riRev, rgName, rgTup, rgCons, rgNil, wipeE, unw, rYes, rAsgG, rAsgSub, roSetL, rBM, rBM0, roAppend, roOwn0, isa_no, isa_bl, isa_in, isa_st, isa_by, isa_ls, isa_tu, isa_di, beq_self_eq_true, Bool.or_true, Bool.true_or, Bool.or_false, Bool.false_or, Bool.or_self, Bool.not_true, Bool.not_false, Bool.and_true, Bool.true_and, Bool.and_false, Bool.false_and, String.reduceBEq, String.reduceEq, not_true_eq_false, not_false_eq_true, rSlL', roNone, roSome, roCat, D.trk, rRaise0, rRaise1, excD, rTry, rEx, wMixD, goneD, List.isEmpty_nil, if_true, List.length_singleton, Nat.reduceLeDiff, Nat.reducePow, Int.reducePow, Int.reduceLT, Int.reduceLE, Int.reduceNeg, Int.reduceToNat, ms_law_right, S_right, ms_law_word, S_word, ms_law_row, S_row, ms_law_due, S_due, ms_clean, S_clean, clD, ms_law_next, S_draw, ms_law_pick, S_one, items]
    refine ⟨hR, by omega, ?_⟩
    subst e1
    refine sg fun U1 e1 => ?_
    simp (maxSteps := 3000000) only [roSplit, roStr1, rSlSt, rSlBy, rRevL, TruD, rOrT, rAndT, rMake_g, roCatT, roRep, rMeth, rFld, rSetF, rXfn, rXf, lk_eq, putD, Dt.ins.injEq, Dt.exn.injEq, RleS, RMulS, roJoin, rRet, rRetN, rSeq, rIfS, rAsg, rVar, ofEn, rC, rOp, rUn, roP, rCB, rCons, rNil, rAndV, rOrV, rNotV, rB, rAnd, rOr, rNot, rIf, rTup, rLst, rDrop, rNext, rNever, look, frz, frzs, looks, held, roIsi, roF1, roL1, roNeg, rDNew, startE, ents, ent, csOf, unal, finds, RI0, RI, int_in, int_bl, len_ls, len_tu, len_st, len_by, at0, at1, at2, at3, ix30, ix31, ix32, eq_ii, ne_ii, eq_by, ne_by, notin_c, in_c, D.rChain, RIxA, roTupOf, RListOf, RListB, List.findSome?, List.getElem?_cons_zero, List.getElem?_cons_succ, List.getElem?_nil, List.set_cons_zero, List.set_cons_succ, List.length_cons, List.length_nil, List.map_cons, List.map_nil, List.replicate, List.nil_append, List.cons_append, List.append_nil, Option.some.injEq, exists_eq_left', exists_eq_left, exists_eq', exists_eq, true_and, and_true, Vl.d.injEq, Vl.nw.injEq, Vl.sl.injEq, Dt.int.injEq, Dt.bl.injEq, Dt.str.injEq, Dt.lst.injEq, Dt.tup.injEq, Dt.byt.injEq, Dt.ty.injEq, Dt.ref.injEq, En.val.injEq, En.mu.injEq, En.bor.injEq, List.cons.injEq, Nat.reduceLT, Nat.reduceAdd, Nat.reduceSub, Nat.zero_add, and_self, ↓reduceIte, Bool.false_eq_true, reduceCtorEq, false_and, and_false, exists_const, exists_false, or_false, false_or, Nat.reduceEqDiff, Option.map_some, Option.getD_some, Option.getD_none, and_assoc, exists_and_left, exists_and_right, rCall_f, rCall_g, f_pre, f_post, g_pre, g_post, g_exc, Prod.forall, Prod.exists, Prod.mk.injEq, exists_const, forall_const, argsD, conP, entD, remP, flagsP, flagAt, putP, aft, Ct.dt.injEq, forall_eq, forall_eq', forall_const, implies_true, false_implies, and_imp, forall_exists_index, forall_apply_eq_imp_iff, List.length_append, retD, rFor_L, asgLc, rLc_L, riList, riTup, riStr, riRange1, riRange2, riEnum, riRev, rgName, rgTup, rgCons, rgNil, wipeE, unw, rYes, rAsgG, rAsgSub, roSetL, rBM, rBM0, roAppend, roOwn0, isa_no, isa_bl, isa_in, isa_st, isa_by, isa_ls, isa_tu, isa_di, beq_self_eq_true, Bool.or_true, Bool.true_or, Bool.or_false, Bool.false_or, Bool.or_self, Bool.not_true, Bool.not_false, Bool.and_true, Bool.true_and, Bool.and_false, Bool.false_and, String.reduceBEq, String.reduceEq, not_true_eq_false, not_false_eq_true, rSlL', roNone, roSome, roCat, D.trk, rRaise0, rRaise1, excD, rTry, rEx, wMixD, goneD, List.isEmpty_nil, if_true, List.length_singleton, Nat.reduceLeDiff, Nat.reducePow, Int.reducePow, Int.reduceLT, Int.reduceLE, Int.reduceNeg, Int.reduceToNat, ms_law_right, S_right, ms_law_word, S_word, ms_law_row, S_row, ms_law_due, S_due, ms_clean, S_clean, clD, ms_law_next, S_draw, ms_law_pick, S_one, items, ne_str, eq_self, decide_true, inKinds]
    refine ⟨rfl, hR, by omega, ?_⟩
    subst e1
    refine sg fun U1 e1 => ?_
    simp (maxSteps := 3000000) only [roSplit, roStr1, rSlSt, rSlBy, rRevL, TruD, rOrT, rAndT, rMake_g, roCatT, roRep, rMeth, rFld, rSetF, rXfn, rXf, lk_eq, putD, Dt.ins.injEq, Dt.exn.injEq, RleS, RMulS, roJoin, rRet, rRetN, rSeq, rIfS, rAsg, rVar, ofEn, rC, rOp, rUn, roP, rCB, rCons, rNil, rAndV, rOrV, rNotV, rB, rAnd, rOr, rNot, rIf, rTup, rLst, rDrop, rNext, rNever, look, frz, frzs, looks, held, roIsi, roF1, roL1, roNeg, rDNew, startE, ents, ent, csOf, unal, finds, RI0, RI, int_in, int_bl, len_ls, len_tu, len_st, len_by, at0, at1, at2, at3, ix30, ix31, ix32, eq_ii, ne_ii, eq_by, ne_by, notin_c, in_c, D.rChain, RIxA, roTupOf, RListOf, RListB, List.findSome?, List.getElem?_cons_zero, List.getElem?_cons_succ, List.getElem?_nil, List.set_cons_zero, List.set_cons_succ, List.length_cons, List.length_nil, List.map_cons, List.map_nil, List.replicate, List.nil_append, List.cons_append, List.append_nil, Option.some.injEq, exists_eq_left', exists_eq_left, exists_eq', exists_eq, true_and, and_true, Vl.d.injEq, Vl.nw.injEq, Vl.sl.injEq, Dt.int.injEq, Dt.bl.injEq, Dt.str.injEq, Dt.lst.injEq, Dt.tup.injEq, Dt.byt.injEq, Dt.ty.injEq, Dt.ref.injEq, En.val.injEq, En.mu.injEq, En.bor.injEq, List.cons.injEq, Nat.reduceLT, Nat.reduceAdd, Nat.reduceSub, Nat.zero_add, and_self, ↓reduceIte, Bool.false_eq_true, reduceCtorEq, false_and, and_false, exists_const, exists_false, or_false, false_or, Nat.reduceEqDiff, Option.map_some, Option.getD_some, Option.getD_none, and_assoc, exists_and_left, exists_and_right, rCall_f, rCall_g, f_pre, f_post, g_pre, g_post, g_exc, Prod.forall, Prod.exists, Prod.mk.injEq, exists_const, forall_const, argsD, conP, entD, remP, flagsP, flagAt, putP, aft, Ct.dt.injEq, forall_eq, forall_eq', forall_const, implies_true, false_implies, and_imp, forall_exists_index, forall_apply_eq_imp_iff, List.length_append, retD, rFor_L, asgLc, rLc_L, riList, riTup, riStr, riRange1, riRange2, riEnum, riRev, rgName, rgTup, rgCons, rgNil, wipeE, unw, rYes, rAsgG, rAsgSub, roSetL, rBM, rBM0, roAppend, roOwn0, isa_no, isa_bl, isa_in, isa_st, isa_by, isa_ls, isa_tu, isa_di, beq_self_eq_true, Bool.or_true, Bool.true_or, Bool.or_false, Bool.false_or, Bool.or_self, Bool.not_true, Bool.not_false, Bool.and_true, Bool.true_and, Bool.and_false, Bool.false_and, String.reduceBEq, String.reduceEq, not_true_eq_false, not_false_eq_true, rSlL', roNone, roSome, roCat, D.trk, rRaise0, rRaise1, excD, rTry, rEx, wMixD, goneD, List.isEmpty_nil, if_true, List.length_singleton, Nat.reduceLeDiff, Nat.reducePow, Int.reducePow, Int.reduceLT, Int.reduceLE, Int.reduceNeg, Int.reduceToNat, ms_law_right, S_right, ms_law_word, S_word, ms_law_row, S_row, ms_law_due, S_due, ms_clean, S_clean, clD, ms_law_next, S_draw, ms_law_pick, S_one, items, ms_Cleaner___init__, S_init, hb2, hb0, ne_str, eq_self, decide_true, hdue, cleanL_rev]
    refine ⟨hd2, hR2, by omega, ?_⟩
    have hrev : cleanS rs.reverse t = cleanS rs t := by
      rw [cleanS, cleanL_rev]
      rfl
    rw [hrev, if_neg (by simp)]
    refine ⟨hd0, hR0, by omega, ⟨pcs t, rfl, hR0, fun s hs => (hps s hs).2, hpl, by omega⟩, ?_⟩
    have hpR : Pd 2 (.lst rs) := fun r hr => pd_row (hrs r hr)
    subst e1
    simp (maxSteps := 3000000) only [roSplit, roStr1, rSlSt, rSlBy, rRevL, TruD, rOrT, rAndT, rMake_g, roCatT, roRep, rMeth, rFld, rSetF, rXfn, rXf, lk_eq, putD, Dt.ins.injEq, Dt.exn.injEq, RleS, RMulS, roJoin, rRet, rRetN, rSeq, rIfS, rAsg, rVar, ofEn, rC, rOp, rUn, roP, rCB, rCons, rNil, rAndV, rOrV, rNotV, rB, rAnd, rOr, rNot, rIf, rTup, rLst, rDrop, rNext, rNever, look, frz, frzs, looks, held, roIsi, roF1, roL1, roNeg, rDNew, startE, ents, ent, csOf, unal, finds, RI0, RI, int_in, int_bl, len_ls, len_tu, len_st, len_by, at0, at1, at2, at3, ix30, ix31, ix32, eq_ii, ne_ii, eq_by, ne_by, notin_c, in_c, D.rChain, RIxA, roTupOf, RListOf, RListB, List.findSome?, List.getElem?_cons_zero, List.getElem?_cons_succ, List.getElem?_nil, List.set_cons_zero, List.set_cons_succ, List.length_cons, List.length_nil, List.map_cons, List.map_nil, List.replicate, List.nil_append, List.cons_append, List.append_nil, Option.some.injEq, exists_eq_left', exists_eq_left, exists_eq', exists_eq, true_and, and_true, Vl.d.injEq, Vl.nw.injEq, Vl.sl.injEq, Dt.int.injEq, Dt.bl.injEq, Dt.str.injEq, Dt.lst.injEq, Dt.tup.injEq, Dt.byt.injEq, Dt.ty.injEq, Dt.ref.injEq, En.val.injEq, En.mu.injEq, En.bor.injEq, List.cons.injEq, Nat.reduceLT, Nat.reduceAdd, Nat.reduceSub, Nat.zero_add, and_self, ↓reduceIte, Bool.false_eq_true, reduceCtorEq, false_and, and_false, exists_const, exists_false, or_false, false_or, Nat.reduceEqDiff, Option.map_some, Option.getD_some, Option.getD_none, and_assoc, exists_and_left, exists_and_right, rCall_f, rCall_g, f_pre, f_post, g_pre, g_post, g_exc, Prod.forall, Prod.exists, Prod.mk.injEq, exists_const, forall_const, argsD, conP, entD, remP, flagsP, flagAt, putP, aft, Ct.dt.injEq, forall_eq, forall_eq', forall_const, implies_true, false_implies, and_imp, forall_exists_index, forall_apply_eq_imp_iff, List.length_append, retD, rFor_L, asgLc, rLc_L, riList, riTup, riStr, riRange1, riRange2, riEnum, riRev, rgName, rgTup, rgCons, rgNil, wipeE, unw, rYes, rAsgG, rAsgSub, roSetL, rBM, rBM0, roAppend, roOwn0, isa_no, isa_bl, isa_in, isa_st, isa_by, isa_ls, isa_tu, isa_di, beq_self_eq_true, Bool.or_true, Bool.true_or, Bool.or_false, Bool.false_or, Bool.or_self, Bool.not_true, Bool.not_false, Bool.and_true, Bool.true_and, Bool.and_false, Bool.false_and, String.reduceBEq, String.reduceEq, not_true_eq_false, not_false_eq_true, rSlL', roNone, roSome, roCat, D.trk, rRaise0, rRaise1, excD, rTry, rEx, wMixD, goneD, List.isEmpty_nil, if_true, List.length_singleton, Nat.reduceLeDiff, Nat.reducePow, Int.reducePow, Int.reduceLT, Int.reduceLE, Int.reduceNeg, Int.reduceToNat, ms_law_right, S_right, ms_law_word, S_word, ms_law_row, S_row, ms_law_due, S_due, ms_clean, S_clean, clD, ms_law_next, S_draw, ms_law_pick, S_one, items, K_Cleaner.cl, nA_Cleaner_rows, eq_self' hpR (by decide), count_clean, eq_self, decide_true]
  by_cases h0 : a = 0
  · rw [if_pos (decide_eq_true h0)]
    refine ⟨hw3, by omega, by simp, fun z w4 hw4 hc4 hz => ?_⟩
    obtain ⟨z, rfl, hz1, hz2, hz3⟩ : ∃ z' : Str, z = .str z' ∧ 0 < z'.length ∧ z'.length ≤ 4 ∧ ∀ c ∈ z'.cps.toList, okC c = true := by
      clear hgo hw3 hc3 hw4 hc4 ht0 hss
      simp only [List.mem_cons, List.mem_nil_iff, or_false] at hz
      rcases hz with rfl | rfl | rfl | rfl <;> exact ⟨_, rfl, by decide, by decide, by decide +kernel⟩
    have hr := rep_len 200 z
    rw [show ((200 : Int)).toNat = 200 from rfl] at hr
    have ht2 := ht0.2
    refine ⟨_, ⟨z, rfl, hz1, by omega, rfl⟩, _, ⟨t0, repS 200 z, rfl, rfl, by omega, rfl⟩, _, rfl, by rw [app_len]; omega, ?_⟩
    refine hgo _ w4 ⟨fun c hc => ?_, ?_⟩ hw4 (by omega)
    · rw [cutS_lo _ (by decide)] at hc
      have hc := List.mem_of_mem_take hc
      rw [app_cps, List.mem_append] at hc
      rcases hc with hc | hc
      · exact ht0.1 c hc
      · exact hz3 c (rep_mem hc)
    · rw [cutS_len (by decide)]
      omega
  · rw [if_neg (by rw [decide_eq_false h0]; decide)]
    exact hgo t0 w3 ht0 hw3 (by omega)
/-! #### law -/
abbrev s_law : Stmt := top 23
abbrev N_law : List Str := ["_law_script", "_law_cell"]
abbrev P_law : List Str := ["_law_script"]
abbrev ms_law : List Md := [.b]
theorem sc_law : FnScope N_law P_law (defScope s_law) := ⟨rfl, rfl, rfl, by decide +kernel, rfl, by decide +kernel, by decide +kernel⟩
theorem ok_law {P : Program} {w : World} {K : PySem.W.Frag} {mg : Str → Option Value} {base : Heap} {f : Addr} {fd : FuncData} {c_FellError c_NoCleaner c_Cleaner : Addr} (G : Gs K mg c_FellError c_NoCleaner c_Cleaner) (h0 : Hs P w K mg base CX0 1 "_law_source" P_law_source (toSp K ms_law_source (S_well))) (h1 : Hs P w K mg base CX0 5 "_law_right" P_law_right (toSp K ms_law_right (S_right))) (X_NoCleaner : ExO P w K mg base "NoCleaner" c_NoCleaner "at") (K_Cleaner : ClF K mg "Cleaner" c_Cleaner) (nA_Cleaner_rows : NoAttr K c_Cleaner "rows") (F : Fun K "law" "law" s_law f fd) (mf : mg "law" = some (.ref f)) :
    FnOk P w K mg base CX0 6 f fd P_law (toSp K ms_law (S_law)) := by
  obtain ⟨f0, fd0, F0, m0, k0, b0⟩ := h0
  obtain ⟨f1, fd1, F1, m1, k1, b1⟩ := h1
  refine F.ok sc_law (fun vs H Q E h => toSp_len h) (fun cdv A outer s H vs Q E hr h => ?_)
  have hu := hr.units
  refine ⟨_, pss_cons (ps_for PassesOwn.never rfl (pi_list (pe_op op_cat (pe_slice sl_list (pv 0) (po_none) (po_some (pe_int))) (pe_lst (pa_cons (pe_int) (pa_nil))))) (pg_name (i := 1) sc_law.nd rfl (by first | exact Or.inl rfl | exact Or.inr rfl | exact .inr (.inl rfl) | exact .inr (.inr rfl))) (pss_one (ps_if (pt_not (pt_val (pe_callS (E := (fun _ => E0)) F1 (hr.mono (by decide)) rfl m1 k1 b1 (fun _ => fun _ _ _ _ _ _ h => h.elim) (pa_cons (pe_callS (E := (fun _ => E0)) F0 (hr.mono (by decide)) rfl m0 k0 b0 (fun _ => fun _ _ _ _ _ _ h => h.elim) (pa_cons (pv 1) (pa_nil))) (pa_nil))))) (pss_one (ps_ret (pe_bl))) (pss_nil)))) (pss_one (ps_ret (pe_bl))), ?_⟩
  refine run_body0 h (by decide) (fun as => ds_seq (ds_for (di_list (de_op (d2_cat) (de_slL (de_var 0) (do_none) (do_some (de_int))) (de_lst (da_cons (de_int) (da_nil))))) (dg_name 1) (ds_if (dt_not (dt_B (de_callS (X := W0) (ms := ms_law_right) (S := S_right) (fun _ _ _ _ h => h.elim) (da_cons (de_callS (X := W0) (ms := ms_law_source) (S := S_well) (fun _ _ _ _ h => h.elim) (da_cons (de_var 1) (da_nil))) (da_nil))))) (ds_ret (de_bl)) (ds_next))) (ds_ret (de_bl))) (fun as hp hl => ?_)
  obtain ⟨ns, rfl, hn⟩ := hp
  refine sg fun U0 e0 => ?_
  simp (maxSteps := 3000000) only [roSplit, roStr1, rSlSt, rSlBy, rRevL, TruD, rOrT, rAndT, rMake_g, roCatT, roRep, rMeth, rFld, rSetF, rXfn, rXf, lk_eq, putD, Dt.ins.injEq, Dt.exn.injEq, RleS, RMulS, roJoin, rRet, rRetN, rSeq, rIfS, rAsg, rVar, ofEn, rC, rOp, rUn, roP, rCB, rCons, rNil, rAndV, rOrV, rNotV, rB, rAnd, rOr, rNot, rIf, rTup, rLst, rDrop, rNext, rNever, look, frz, frzs, looks, held, roIsi, roF1, roL1, roNeg, rDNew, startE, ents, ent, csOf, unal, finds, RI0, RI, int_in, int_bl, len_ls, len_tu, len_st, len_by, at0, at1, at2, at3, ix30, ix31, ix32, eq_ii, ne_ii, eq_by, ne_by, notin_c, in_c, D.rChain, RIxA, roTupOf, RListOf, RListB, List.findSome?, List.getElem?_cons_zero, List.getElem?_cons_succ, List.getElem?_nil, List.set_cons_zero, List.set_cons_succ, List.length_cons, List.length_nil, List.map_cons, List.map_nil, List.replicate, List.nil_append, List.cons_append, List.append_nil, Option.some.injEq, exists_eq_left', exists_eq_left, exists_eq', exists_eq, true_and, and_true, Vl.d.injEq, Vl.nw.injEq, Vl.sl.injEq, Dt.int.injEq, Dt.bl.injEq, Dt.str.injEq, Dt.lst.injEq, Dt.tup.injEq, Dt.byt.injEq, Dt.ty.injEq, Dt.ref.injEq, En.val.injEq, En.mu.injEq, En.bor.injEq, List.cons.injEq, Nat.reduceLT, Nat.reduceAdd, Nat.reduceSub, Nat.zero_add, and_self, ↓reduceIte, Bool.false_eq_true, reduceCtorEq, false_and, and_false, exists_const, exists_false, or_false, false_or, Nat.reduceEqDiff, Option.map_some, Option.getD_some, Option.getD_none, and_assoc, exists_and_left, exists_and_right, rCall_f, rCall_g, f_pre, f_post, g_pre, g_post, g_exc, Prod.forall, Prod.exists, Prod.mk.injEq, exists_const, forall_const, argsD, conP, entD, remP, flagsP, flagAt, putP, aft, Ct.dt.injEq, forall_eq, forall_eq', forall_const, implies_true, false_implies, and_imp, forall_exists_index, forall_apply_eq_imp_iff, List.length_append, retD, rFor_L, asgLc, rLc_L, riList, riTup, riStr, riRange1, riRange2, riEnum, riRev, rgName, rgTup, rgCons, rgNil, wipeE, unw, rYes, rAsgG, rAsgSub, roSetL, rBM, rBM0, roAppend, roOwn0, isa_no, isa_bl, isa_in, isa_st, isa_by, isa_ls, isa_tu, isa_di, beq_self_eq_true, Bool.or_true, Bool.true_or, Bool.or_false, Bool.false_or, Bool.or_self, Bool.not_true, Bool.not_false, Bool.and_true, Bool.true_and, Bool.and_false, Bool.false_and, String.reduceBEq, String.reduceEq, not_true_eq_false, not_false_eq_true, rSlL', roNone, roSome, roCat, D.trk, rRaise0, rRaise1, excD, rTry, rEx, wMixD, goneD, List.isEmpty_nil, if_true, List.length_singleton, Nat.reduceLeDiff, Nat.reducePow, Int.reducePow, Int.reduceLT, Int.reduceLE, Int.reduceNeg, Int.reduceToNat, ms_law, S_law]
  refine ⟨by have := cut_len (List.map Dt.int ns) none (some 10); rw [List.length_map] at this; omega, ?_⟩
  refine lp_of (fun _ η' => ∃ a1, η' = [some (.bor (.lst (ns.map .int))), a1]) ⟨_, rfl⟩ ?_ ?_
  rotate_left
  · rintro η' ⟨a1, rfl⟩
    subst e0
    simp (maxSteps := 3000000) only [roSplit, roStr1, rSlSt, rSlBy, rRevL, TruD, rOrT, rAndT, rMake_g, roCatT, roRep, rMeth, rFld, rSetF, rXfn, rXf, lk_eq, putD, Dt.ins.injEq, Dt.exn.injEq, RleS, RMulS, roJoin, rRet, rRetN, rSeq, rIfS, rAsg, rVar, ofEn, rC, rOp, rUn, roP, rCB, rCons, rNil, rAndV, rOrV, rNotV, rB, rAnd, rOr, rNot, rIf, rTup, rLst, rDrop, rNext, rNever, look, frz, frzs, looks, held, roIsi, roF1, roL1, roNeg, rDNew, startE, ents, ent, csOf, unal, finds, RI0, RI, int_in, int_bl, len_ls, len_tu, len_st, len_by, at0, at1, at2, at3, ix30, ix31, ix32, eq_ii, ne_ii, eq_by, ne_by, notin_c, in_c, D.rChain, RIxA, roTupOf, RListOf, RListB, List.findSome?, List.getElem?_cons_zero, List.getElem?_cons_succ, List.getElem?_nil, List.set_cons_zero, List.set_cons_succ, List.length_cons, List.length_nil, List.map_cons, List.map_nil, List.replicate, List.nil_append, List.cons_append, List.append_nil, Option.some.injEq, exists_eq_left', exists_eq_left, exists_eq', exists_eq, true_and, and_true, Vl.d.injEq, Vl.nw.injEq, Vl.sl.injEq, Dt.int.injEq, Dt.bl.injEq, Dt.str.injEq, Dt.lst.injEq, Dt.tup.injEq, Dt.byt.injEq, Dt.ty.injEq, Dt.ref.injEq, En.val.injEq, En.mu.injEq, En.bor.injEq, List.cons.injEq, Nat.reduceLT, Nat.reduceAdd, Nat.reduceSub, Nat.zero_add, and_self, ↓reduceIte, Bool.false_eq_true, reduceCtorEq, false_and, and_false, exists_const, exists_false, or_false, false_or, Nat.reduceEqDiff, Option.map_some, Option.getD_some, Option.getD_none, and_assoc, exists_and_left, exists_and_right, rCall_f, rCall_g, f_pre, f_post, g_pre, g_post, g_exc, Prod.forall, Prod.exists, Prod.mk.injEq, exists_const, forall_const, argsD, conP, entD, remP, flagsP, flagAt, putP, aft, Ct.dt.injEq, forall_eq, forall_eq', forall_const, implies_true, false_implies, and_imp, forall_exists_index, forall_apply_eq_imp_iff, List.length_append, retD, rFor_L, asgLc, rLc_L, riList, riTup, riStr, riRange1, riRange2, riEnum, riRev, rgName, rgTup, rgCons, rgNil, wipeE, unw, rYes, rAsgG, rAsgSub, roSetL, rBM, rBM0, roAppend, roOwn0, isa_no, isa_bl, isa_in, isa_st, isa_by, isa_ls, isa_tu, isa_di, beq_self_eq_true, Bool.or_true, Bool.true_or, Bool.or_false, Bool.false_or, Bool.or_self, Bool.not_true, Bool.not_false, Bool.and_true, Bool.true_and, Bool.and_false, Bool.false_and, String.reduceBEq, String.reduceEq, not_true_eq_false, not_false_eq_true, rSlL', roNone, roSome, roCat, D.trk, rRaise0, rRaise1, excD, rTry, rEx, wMixD, goneD, List.isEmpty_nil, if_true, List.length_singleton, Nat.reduceLeDiff, Nat.reducePow, Int.reducePow, Int.reduceLT, Int.reduceLE, Int.reduceNeg, Int.reduceToNat, ms_law, S_law]
  rintro i x η' hx ⟨a1, rfl⟩
  obtain ⟨z, rfl⟩ : ∃ z, x = .int z := by
    have := List.mem_of_getElem? hx
    rw [List.mem_append] at this
    rcases this with h | h
    · obtain ⟨z, _, rfl⟩ := List.mem_map.mp (cut_mem h)
      exact ⟨z, rfl⟩
    · simp only [List.mem_cons, List.mem_nil_iff, or_false] at h
      exact ⟨_, h⟩
  clear hx
  simp (maxSteps := 3000000) only [roSplit, roStr1, rSlSt, rSlBy, rRevL, TruD, rOrT, rAndT, rMake_g, roCatT, roRep, rMeth, rFld, rSetF, rXfn, rXf, lk_eq, putD, Dt.ins.injEq, Dt.exn.injEq, RleS, RMulS, roJoin, rRet, rRetN, rSeq, rIfS, rAsg, rVar, ofEn, rC, rOp, rUn, roP, rCB, rCons, rNil, rAndV, rOrV, rNotV, rB, rAnd, rOr, rNot, rIf, rTup, rLst, rDrop, rNext, rNever, look, frz, frzs, looks, held, roIsi, roF1, roL1, roNeg, rDNew, startE, ents, ent, csOf, unal, finds, RI0, RI, int_in, int_bl, len_ls, len_tu, len_st, len_by, at0, at1, at2, at3, ix30, ix31, ix32, eq_ii, ne_ii, eq_by, ne_by, notin_c, in_c, D.rChain, RIxA, roTupOf, RListOf, RListB, List.findSome?, List.getElem?_cons_zero, List.getElem?_cons_succ, List.getElem?_nil, List.set_cons_zero, List.set_cons_succ, List.length_cons, List.length_nil, List.map_cons, List.map_nil, List.replicate, List.nil_append, List.cons_append, List.append_nil, Option.some.injEq, exists_eq_left', exists_eq_left, exists_eq', exists_eq, true_and, and_true, Vl.d.injEq, Vl.nw.injEq, Vl.sl.injEq, Dt.int.injEq, Dt.bl.injEq, Dt.str.injEq, Dt.lst.injEq, Dt.tup.injEq, Dt.byt.injEq, Dt.ty.injEq, Dt.ref.injEq, En.val.injEq, En.mu.injEq, En.bor.injEq, List.cons.injEq, Nat.reduceLT, Nat.reduceAdd, Nat.reduceSub, Nat.zero_add, and_self, ↓reduceIte, Bool.false_eq_true, reduceCtorEq, false_and, and_false, exists_const, exists_false, or_false, false_or, Nat.reduceEqDiff, Option.map_some, Option.getD_some, Option.getD_none, and_assoc, exists_and_left, exists_and_right, rCall_f, rCall_g, f_pre, f_post, g_pre, g_post, g_exc, Prod.forall, Prod.exists, Prod.mk.injEq, exists_const, forall_const, argsD, conP, entD, remP, flagsP, flagAt, putP, aft, Ct.dt.injEq, forall_eq, forall_eq', forall_const, implies_true, false_implies, and_imp, forall_exists_index, forall_apply_eq_imp_iff, List.length_append, retD, rFor_L, asgLc, rLc_L, riList, riTup, riStr, riRange1, riRange2, riEnum, riRev, rgName, rgTup, rgCons, rgNil, wipeE, unw, rYes, rAsgG, rAsgSub, roSetL, rBM, rBM0, roAppend, roOwn0, isa_no, isa_bl, isa_in, isa_st, isa_by, isa_ls, isa_tu, isa_di, beq_self_eq_true, Bool.or_true, Bool.true_or, Bool.or_false, Bool.false_or, Bool.or_self, Bool.not_true, Bool.not_false, Bool.and_true, Bool.true_and, Bool.and_false, Bool.false_and, String.reduceBEq, String.reduceEq, not_true_eq_false, not_false_eq_true, rSlL', roNone, roSome, roCat, D.trk, rRaise0, rRaise1, excD, rTry, rEx, wMixD, goneD, List.isEmpty_nil, if_true, List.length_singleton, Nat.reduceLeDiff, Nat.reducePow, Int.reducePow, Int.reduceLT, Int.reduceLE, Int.reduceNeg, Int.reduceToNat, ms_law, S_law, ms_law_right, ms_law_source, S_right, S_well]
  exact fun a h1 h2 => ⟨h1, h2⟩
theorem all_mk {l : PySem.W.OpenLaw} {w : World} {K : PySem.W.Frag} {h : Heap} {mg : Str → Option Value} {fa c_FellError c_NoCleaner c_Cleaner f_is_plain f_is_row f_Cleaner___init__ f_without_figures f_is_taken f_clean f_law_source f_law_next f_law_pick f_law_word f_law_row f_law_bare f_law_due f_law_right f_law : Addr} {od_is_plain an_is_plain od_is_row an_is_row od_Cleaner___init__ an_Cleaner___init__ od_without_figures an_without_figures od_is_taken an_is_taken od_clean an_clean od_law_source an_law_source od_law_next an_law_next od_law_pick an_law_pick od_law_word an_law_word od_law_row an_law_row od_law_bare an_law_bare od_law_due an_law_due od_law_right an_law_right od_law an_law : Option Addr} {sl_is_plain sl_is_row sl_Cleaner___init__ sl_without_figures sl_is_taken sl_clean sl_law_source sl_law_next sl_law_pick sl_law_word sl_law_row sl_law_bare sl_law_due sl_law_right sl_law : Array (Option Value)} {oc_is_plain kV_is_plain dc_is_plain pm_is_plain cd_is_plain ct_is_plain oc_is_row kV_is_row dc_is_row pm_is_row cd_is_row ct_is_row oc_Cleaner___init__ kV_Cleaner___init__ dc_Cleaner___init__ pm_Cleaner___init__ cd_Cleaner___init__ ct_Cleaner___init__ oc_without_figures kV_without_figures dc_without_figures pm_without_figures cd_without_figures ct_without_figures oc_is_taken kV_is_taken dc_is_taken pm_is_taken cd_is_taken ct_is_taken oc_clean kV_clean dc_clean pm_clean cd_clean ct_clean oc_law_source kV_law_source dc_law_source pm_law_source cd_law_source ct_law_source oc_law_next kV_law_next dc_law_next pm_law_next cd_law_next ct_law_next oc_law_pick kV_law_pick dc_law_pick pm_law_pick cd_law_pick ct_law_pick oc_law_word kV_law_word dc_law_word pm_law_word cd_law_word ct_law_word oc_law_row kV_law_row dc_law_row pm_law_row cd_law_row ct_law_row oc_law_bare kV_law_bare dc_law_bare pm_law_bare cd_law_bare ct_law_bare oc_law_due kV_law_due dc_law_due pm_law_due cd_law_due ct_law_due oc_law_right kV_law_right dc_law_right pm_law_right cd_law_right ct_law_right oc_law kV_law dc_law pm_law cd_law ct_law : Value} {t_FIGURES t_MOST_ROWS t_MOST_SIGNS : Tok} {nm_NoCleaner q_NoCleaner : Str} {N_NoCleaner f_NoCleaner_init : Addr} {bs_NoCleaner : List Value} {sn_NoCleaner : List Str} {sub_NoCleaner : List Value} {ab_NoCleaner : Bool} {col_NoCleaner : Option Bool} {dd_NoCleaner : Option Addr} {m0_NoCleaner m1_NoCleaner m2_NoCleaner m3_NoCleaner m5_NoCleaner : Option Value} {od_NoCleaner an_NoCleaner : Option Addr} {sl_NoCleaner : Array (Option Value)} {oc_NoCleaner kV_NoCleaner dc_NoCleaner pm_NoCleaner cd_NoCleaner ct_NoCleaner : Value} (X : K.In h) (G : h.Ns mainGlobals mg) (hfa : mg "law" = some (.ref fa))
    (aC_FellError : PySem.W.nsIn K mainGlobals "FellError" = some (some (.ref c_FellError)))
    (aC_NoCleaner : PySem.W.nsIn K mainGlobals "NoCleaner" = some (some (.ref c_NoCleaner)))
    (aC_Cleaner : PySem.W.nsIn K mainGlobals "Cleaner" = some (some (.ref c_Cleaner)))
    (z_FIGURES : PySem.W.nsIn K mainGlobals "FIGURES" = some (some (.str "0123456789" t_FIGURES)))
    (z_MOST_ROWS : PySem.W.nsIn K mainGlobals "MOST_ROWS" = some (some (.int 20 t_MOST_ROWS)))
    (z_MOST_SIGNS : PySem.W.nsIn K mainGlobals "MOST_SIGNS" = some (some (.int 20 t_MOST_SIGNS)))
    (z_all : PySem.W.nsIn K mainGlobals "all" = some none)
    (z_any : PySem.W.nsIn K mainGlobals "any" = some none)
    (z_enumerate : PySem.W.nsIn K mainGlobals "enumerate" = some none)
    (z_int : PySem.W.nsIn K mainGlobals "int" = some none)
    (z_isinstance : PySem.W.nsIn K mainGlobals "isinstance" = some none)
    (z_len : PySem.W.nsIn K mainGlobals "len" = some none)
    (z_list : PySem.W.nsIn K mainGlobals "list" = some none)
    (z_range : PySem.W.nsIn K mainGlobals "range" = some none)
    (z_str : PySem.W.nsIn K mainGlobals "str" = some none)
    (z_tuple : PySem.W.nsIn K mainGlobals "tuple" = some none)
    (fr : PySem.W.readsIn K c_FellError (.type "type") = true)
    (fg : PySem.W.specialIn K (.ref c_FellError) "__getattribute__" = some (some (.builtin "type.__getattribute__")))
    (fv : PySem.W.findCls K (.ref c_FellError) (.type "type") "__init__" = some (.val (.builtin "ValueError.__init__")))
    (xL_NoCleaner : K.lookup c_NoCleaner = some (excClassObj nm_NoCleaner q_NoCleaner c_NoCleaner N_NoCleaner bs_NoCleaner [.ref c_FellError, .type "ValueError", .type "Exception", .type "BaseException", .type "object"] true sn_NoCleaner sub_NoCleaner ab_NoCleaner col_NoCleaner dd_NoCleaner m0_NoCleaner m1_NoCleaner m2_NoCleaner m3_NoCleaner m5_NoCleaner "ValueError.__new__"))
    (sa_NoCleaner : PySem.W.findIn K (.ref c_NoCleaner) "__setattr__" = some (some (.builtin "object.__setattr__")))
    (nf_NoCleaner : PySem.W.findIn K (.ref c_NoCleaner) "at" = some none)
    (in_NoCleaner : PySem.W.findIn K (.ref c_NoCleaner) "__init__" = some (some (.ref f_NoCleaner_init)))
    (ti_NoCleaner : PySem.W.typeIn K (.ref f_NoCleaner_init) = some (.type "function"))
    (l_NoCleaner : K.lookup f_NoCleaner_init = some ⟨oc_NoCleaner, od_NoCleaner, .func (PySem.W.fnOf "__init__" "NoCleaner.__init__" (defArgs s_NoCleaner_init) (defBody s_NoCleaner_init) (defScope s_NoCleaner_init) .none kV_NoCleaner dc_NoCleaner pm_NoCleaner an_NoCleaner cd_NoCleaner ct_NoCleaner), sl_NoCleaner⟩)
    (ki_NoCleaner : PySem.W.codeIn K cd_NoCleaner "NoCleaner.__init__" = true)
    (kj_NoCleaner : PySem.W.keepIn K (.ref f_NoCleaner_init) = true)
    (pg_Cleaner : PySem.W.plainGet K c_Cleaner Str.empty = true)
    (hd_Cleaner : PySem.W.hasDictIn K c_Cleaner = true)
    (po_Cleaner : PySem.W.plainOver K c_Cleaner = true)
    (sa_Cleaner : PySem.W.findIn K (.ref c_Cleaner) "__setattr__" = some (some (.builtin "object.__setattr__")))
    (mk_Cleaner : PySem.W.makesIn K c_Cleaner = true)
    (kc_Cleaner : PySem.W.keepIn K (.ref c_Cleaner) = true)
    (nA_Cleaner_rows : PySem.W.findIn K (.ref c_Cleaner) "rows" = some none)
    (kF_NoCleaner : PySem.W.keepIn K (.ref c_NoCleaner) = true)
    (bF_NoCleaner : PySem.W.subIn K (.ref c_NoCleaner) (.type "BaseException") = some true)
    (tF_NoCleaner : PySem.W.typeIn K (.ref c_NoCleaner) = some (.type "type"))
    (e1_NoCleaner : PySem.W.findIn K (.ref c_NoCleaner) "__getattribute__" = some (some (.builtin "BaseException.__getattribute__")))
    (e2_NoCleaner : PySem.W.findIn K (.ref c_NoCleaner) "__getattr__" = some none)
    (e4_NoCleaner : PySem.W.hasDictIn K c_NoCleaner = true)
    (e5_NoCleaner : PySem.W.findIn K (.ref c_NoCleaner) "__class__" = some (some (.builtin "object.__class__")))
    (e6_NoCleaner : PySem.W.specialIn K (.builtin "object.__class__") "__get__" = some (some (.builtin "getset_descriptor.__get__")))
    (e7_NoCleaner : PySem.W.takesIn K (.builtin "object.__class__") = some true)
    (e8_NoCleaner : PySem.W.mroIn K c_NoCleaner (.type "object") = some true)
    (a_is_plain : PySem.W.nsIn K mainGlobals "is_plain" = some (some (.ref f_is_plain)))
    (l_is_plain : K.lookup f_is_plain = some ⟨oc_is_plain, od_is_plain, .func (PySem.W.fnOf "is_plain" "is_plain" (defArgs s_is_plain) (defBody s_is_plain) (defScope s_is_plain) .none kV_is_plain dc_is_plain pm_is_plain an_is_plain cd_is_plain ct_is_plain), sl_is_plain⟩)
    (k1_is_plain : PySem.W.codeIn K cd_is_plain "is_plain" = true)
    (k2_is_plain : PySem.W.keepIn K (.ref f_is_plain) = true)
    (a_is_row : PySem.W.nsIn K mainGlobals "is_row" = some (some (.ref f_is_row)))
    (l_is_row : K.lookup f_is_row = some ⟨oc_is_row, od_is_row, .func (PySem.W.fnOf "is_row" "is_row" (defArgs s_is_row) (defBody s_is_row) (defScope s_is_row) .none kV_is_row dc_is_row pm_is_row an_is_row cd_is_row ct_is_row), sl_is_row⟩)
    (k1_is_row : PySem.W.codeIn K cd_is_row "is_row" = true)
    (k2_is_row : PySem.W.keepIn K (.ref f_is_row) = true)
    (a_Cleaner___init__ : PySem.W.findIn K (.ref c_Cleaner) "__init__" = some (some (.ref f_Cleaner___init__)))
    (i_Cleaner___init__ : PySem.W.isFn K (.ref f_Cleaner___init__) = true)
    (l_Cleaner___init__ : K.lookup f_Cleaner___init__ = some ⟨oc_Cleaner___init__, od_Cleaner___init__, .func (PySem.W.fnOf "__init__" "Cleaner.__init__" (defArgs s_Cleaner___init__) (defBody s_Cleaner___init__) (defScope s_Cleaner___init__) .none kV_Cleaner___init__ dc_Cleaner___init__ pm_Cleaner___init__ an_Cleaner___init__ cd_Cleaner___init__ ct_Cleaner___init__), sl_Cleaner___init__⟩)
    (k1_Cleaner___init__ : PySem.W.codeIn K cd_Cleaner___init__ "Cleaner.__init__" = true)
    (k2_Cleaner___init__ : PySem.W.keepIn K (.ref f_Cleaner___init__) = true)
    (a_without_figures : PySem.W.nsIn K mainGlobals "without_figures" = some (some (.ref f_without_figures)))
    (l_without_figures : K.lookup f_without_figures = some ⟨oc_without_figures, od_without_figures, .func (PySem.W.fnOf "without_figures" "without_figures" (defArgs s_without_figures) (defBody s_without_figures) (defScope s_without_figures) .none kV_without_figures dc_without_figures pm_without_figures an_without_figures cd_without_figures ct_without_figures), sl_without_figures⟩)
    (k1_without_figures : PySem.W.codeIn K cd_without_figures "without_figures" = true)
    (k2_without_figures : PySem.W.keepIn K (.ref f_without_figures) = true)
    (a_is_taken : PySem.W.nsIn K mainGlobals "is_taken" = some (some (.ref f_is_taken)))
    (l_is_taken : K.lookup f_is_taken = some ⟨oc_is_taken, od_is_taken, .func (PySem.W.fnOf "is_taken" "is_taken" (defArgs s_is_taken) (defBody s_is_taken) (defScope s_is_taken) .none kV_is_taken dc_is_taken pm_is_taken an_is_taken cd_is_taken ct_is_taken), sl_is_taken⟩)
    (k1_is_taken : PySem.W.codeIn K cd_is_taken "is_taken" = true)
    (k2_is_taken : PySem.W.keepIn K (.ref f_is_taken) = true)
    (a_clean : PySem.W.nsIn K mainGlobals "clean" = some (some (.ref f_clean)))
    (l_clean : K.lookup f_clean = some ⟨oc_clean, od_clean, .func (PySem.W.fnOf "clean" "clean" (defArgs s_clean) (defBody s_clean) (defScope s_clean) .none kV_clean dc_clean pm_clean an_clean cd_clean ct_clean), sl_clean⟩)
    (k1_clean : PySem.W.codeIn K cd_clean "clean" = true)
    (k2_clean : PySem.W.keepIn K (.ref f_clean) = true)
    (a_law_source : PySem.W.nsIn K mainGlobals "_law_source" = some (some (.ref f_law_source)))
    (l_law_source : K.lookup f_law_source = some ⟨oc_law_source, od_law_source, .func (PySem.W.fnOf "_law_source" "_law_source" (defArgs s_law_source) (defBody s_law_source) (defScope s_law_source) .none kV_law_source dc_law_source pm_law_source an_law_source cd_law_source ct_law_source), sl_law_source⟩)
    (k1_law_source : PySem.W.codeIn K cd_law_source "_law_source" = true)
    (k2_law_source : PySem.W.keepIn K (.ref f_law_source) = true)
    (a_law_next : PySem.W.nsIn K mainGlobals "_law_next" = some (some (.ref f_law_next)))
    (l_law_next : K.lookup f_law_next = some ⟨oc_law_next, od_law_next, .func (PySem.W.fnOf "_law_next" "_law_next" (defArgs s_law_next) (defBody s_law_next) (defScope s_law_next) .none kV_law_next dc_law_next pm_law_next an_law_next cd_law_next ct_law_next), sl_law_next⟩)
    (k1_law_next : PySem.W.codeIn K cd_law_next "_law_next" = true)
    (k2_law_next : PySem.W.keepIn K (.ref f_law_next) = true)
    (a_law_pick : PySem.W.nsIn K mainGlobals "_law_pick" = some (some (.ref f_law_pick)))
    (l_law_pick : K.lookup f_law_pick = some ⟨oc_law_pick, od_law_pick, .func (PySem.W.fnOf "_law_pick" "_law_pick" (defArgs s_law_pick) (defBody s_law_pick) (defScope s_law_pick) .none kV_law_pick dc_law_pick pm_law_pick an_law_pick cd_law_pick ct_law_pick), sl_law_pick⟩)
    (k1_law_pick : PySem.W.codeIn K cd_law_pick "_law_pick" = true)
    (k2_law_pick : PySem.W.keepIn K (.ref f_law_pick) = true)
    (a_law_word : PySem.W.nsIn K mainGlobals "_law_word" = some (some (.ref f_law_word)))
    (l_law_word : K.lookup f_law_word = some ⟨oc_law_word, od_law_word, .func (PySem.W.fnOf "_law_word" "_law_word" (defArgs s_law_word) (defBody s_law_word) (defScope s_law_word) .none kV_law_word dc_law_word pm_law_word an_law_word cd_law_word ct_law_word), sl_law_word⟩)
    (k1_law_word : PySem.W.codeIn K cd_law_word "_law_word" = true)
    (k2_law_word : PySem.W.keepIn K (.ref f_law_word) = true)
    (a_law_row : PySem.W.nsIn K mainGlobals "_law_row" = some (some (.ref f_law_row)))
    (l_law_row : K.lookup f_law_row = some ⟨oc_law_row, od_law_row, .func (PySem.W.fnOf "_law_row" "_law_row" (defArgs s_law_row) (defBody s_law_row) (defScope s_law_row) .none kV_law_row dc_law_row pm_law_row an_law_row cd_law_row ct_law_row), sl_law_row⟩)
    (k1_law_row : PySem.W.codeIn K cd_law_row "_law_row" = true)
    (k2_law_row : PySem.W.keepIn K (.ref f_law_row) = true)
    (a_law_bare : PySem.W.nsIn K mainGlobals "_law_bare" = some (some (.ref f_law_bare)))
    (l_law_bare : K.lookup f_law_bare = some ⟨oc_law_bare, od_law_bare, .func (PySem.W.fnOf "_law_bare" "_law_bare" (defArgs s_law_bare) (defBody s_law_bare) (defScope s_law_bare) .none kV_law_bare dc_law_bare pm_law_bare an_law_bare cd_law_bare ct_law_bare), sl_law_bare⟩)
    (k1_law_bare : PySem.W.codeIn K cd_law_bare "_law_bare" = true)
    (k2_law_bare : PySem.W.keepIn K (.ref f_law_bare) = true)
    (a_law_due : PySem.W.nsIn K mainGlobals "_law_due" = some (some (.ref f_law_due)))
    (l_law_due : K.lookup f_law_due = some ⟨oc_law_due, od_law_due, .func (PySem.W.fnOf "_law_due" "_law_due" (defArgs s_law_due) (defBody s_law_due) (defScope s_law_due) .none kV_law_due dc_law_due pm_law_due an_law_due cd_law_due ct_law_due), sl_law_due⟩)
    (k1_law_due : PySem.W.codeIn K cd_law_due "_law_due" = true)
    (k2_law_due : PySem.W.keepIn K (.ref f_law_due) = true)
    (a_law_right : PySem.W.nsIn K mainGlobals "_law_right" = some (some (.ref f_law_right)))
    (l_law_right : K.lookup f_law_right = some ⟨oc_law_right, od_law_right, .func (PySem.W.fnOf "_law_right" "_law_right" (defArgs s_law_right) (defBody s_law_right) (defScope s_law_right) .none kV_law_right dc_law_right pm_law_right an_law_right cd_law_right ct_law_right), sl_law_right⟩)
    (k1_law_right : PySem.W.codeIn K cd_law_right "_law_right" = true)
    (k2_law_right : PySem.W.keepIn K (.ref f_law_right) = true)
    (a_law : PySem.W.nsIn K mainGlobals "law" = some (some (.ref f_law)))
    (l_law : K.lookup f_law = some ⟨oc_law, od_law, .func (PySem.W.fnOf "law" "law" (defArgs s_law) (defBody s_law) (defScope s_law) .none kV_law dc_law pm_law an_law cd_law ct_law), sl_law⟩)
    (k1_law : PySem.W.codeIn K cd_law "law" = true)
    (k2_law : PySem.W.keepIn K (.ref f_law) = true)
    : ∃ fd : FuncData, (∀ (s : Shared) (v : Value), BindsTo s fd ⟨[v], []⟩ [("_law_script", v)]) ∧ ∀ base : Heap, K.In base → base.Ns mainGlobals mg → FnOk l.prog w K mg base CX0 6 fa fd ["_law_script"] (toSp K ms_law (S_law)) := by
  have e := hfa.symm.trans (PySem.W.mg_of X G a_law)
  cases e
  have GG : Gs K mg c_FellError c_NoCleaner c_Cleaner := ⟨PySem.W.mg_of X G aC_Cleaner, ⟨_, PySem.W.mg_of X G z_FIGURES⟩, ⟨_, PySem.W.mg_of X G z_MOST_ROWS⟩, ⟨_, PySem.W.mg_of X G z_MOST_SIGNS⟩, PySem.W.mg_none_of X G z_all, PySem.W.mg_none_of X G z_any, PySem.W.mg_none_of X G z_enumerate, PySem.W.mg_none_of X G z_int, PySem.W.mg_none_of X G z_isinstance, PySem.W.mg_none_of X G z_len, PySem.W.mg_none_of X G z_list, PySem.W.mg_none_of X G z_range, PySem.W.mg_none_of X G z_str, PySem.W.mg_none_of X G z_tuple⟩
  have K_Cleaner : ClF K mg "Cleaner" c_Cleaner := ⟨PySem.W.mg_of X G aC_Cleaner, ⟨pg_Cleaner, hd_Cleaner, po_Cleaner, sa_Cleaner⟩⟩
  have F_is_plain := fun_mk (st := s_is_plain) l_is_plain k1_is_plain k2_is_plain
  have F_is_row := fun_mk (st := s_is_row) l_is_row k1_is_row k2_is_row
  have F_Cleaner___init__ := fun_mk (st := s_Cleaner___init__) l_Cleaner___init__ k1_Cleaner___init__ k2_Cleaner___init__
  have F_without_figures := fun_mk (st := s_without_figures) l_without_figures k1_without_figures k2_without_figures
  have F_is_taken := fun_mk (st := s_is_taken) l_is_taken k1_is_taken k2_is_taken
  have F_clean := fun_mk (st := s_clean) l_clean k1_clean k2_clean
  have F_law_source := fun_mk (st := s_law_source) l_law_source k1_law_source k2_law_source
  have F_law_next := fun_mk (st := s_law_next) l_law_next k1_law_next k2_law_next
  have F_law_pick := fun_mk (st := s_law_pick) l_law_pick k1_law_pick k2_law_pick
  have F_law_word := fun_mk (st := s_law_word) l_law_word k1_law_word k2_law_word
  have F_law_row := fun_mk (st := s_law_row) l_law_row k1_law_row k2_law_row
  have F_law_bare := fun_mk (st := s_law_bare) l_law_bare k1_law_bare k2_law_bare
  have F_law_due := fun_mk (st := s_law_due) l_law_due k1_law_due k2_law_due
  have F_law_right := fun_mk (st := s_law_right) l_law_right k1_law_right k2_law_right
  have F_law := fun_mk (st := s_law) l_law k1_law k2_law
  refine ⟨PySem.W.fnOf "law" "law" (defArgs s_law) (defBody s_law) (defScope s_law) .none kV_law dc_law pm_law an_law cd_law ct_law, fun s v => .of_eq rfl, fun base _ _ => ?_⟩
  have O_NoCleaner : OexC K c_NoCleaner := ⟨⟨_, _, _, _, _, _, _, _, _, _, _, _, _, _, _, xL_NoCleaner, rfl⟩, sa_NoCleaner, bF_NoCleaner, tF_NoCleaner, kF_NoCleaner⟩
  have FF_NoCleaner := fun_mk (st := s_NoCleaner_init) l_NoCleaner ki_NoCleaner kj_NoCleaner
  have X_NoCleaner : ExO l.prog w K mg base "NoCleaner" c_NoCleaner "at" := ⟨PySem.W.mg_of X G aC_NoCleaner, O_NoCleaner, nf_NoCleaner, ⟨e1_NoCleaner, e2_NoCleaner, bF_NoCleaner, e4_NoCleaner, e5_NoCleaner, e6_NoCleaner, e7_NoCleaner, e8_NoCleaner⟩, ⟨_, _, _, in_NoCleaner, ti_NoCleaner, ok_NoCleaner_init O_NoCleaner nf_NoCleaner ⟨fr, fg, fv⟩ (PySem.W.mg_of X G aC_FellError) FF_NoCleaner, FF_NoCleaner.binds (ps := ["self", "at"]) fun _ _ _ _ _ _ us hl => match us, hl with | [_, _], _ => rfl⟩⟩
  have h_is_plain := ok_is_plain (P := l.prog) (w := w) (base := base) GG   X_NoCleaner K_Cleaner nA_Cleaner_rows F_is_plain (PySem.W.mg_of X G a_is_plain)
  have h_is_row := ok_is_row (P := l.prog) (w := w) (base := base) GG  h_is_plain X_NoCleaner K_Cleaner nA_Cleaner_rows F_is_row (PySem.W.mg_of X G a_is_row)
  have h_Cleaner___init__ := ok_Cleaner___init__ (P := l.prog) (w := w) (base := base) GG  h_is_row X_NoCleaner K_Cleaner nA_Cleaner_rows F_Cleaner___init__ (⟨mk_Cleaner, a_Cleaner___init__, i_Cleaner___init__, kc_Cleaner⟩)
  have h_without_figures := ok_without_figures (P := l.prog) (w := w) (base := base) GG   X_NoCleaner K_Cleaner nA_Cleaner_rows F_without_figures (PySem.W.mg_of X G a_without_figures)
  have h_is_taken := ok_is_taken (P := l.prog) (w := w) (base := base) GG   X_NoCleaner K_Cleaner nA_Cleaner_rows F_is_taken (PySem.W.mg_of X G a_is_taken)
  have h_clean := ok_clean (P := l.prog) (w := w) (base := base) GG  h_is_taken h_without_figures X_NoCleaner K_Cleaner nA_Cleaner_rows F_clean (PySem.W.mg_of X G a_clean)
  have h_law_source := ok_law_source (P := l.prog) (w := w) (base := base) GG   X_NoCleaner K_Cleaner nA_Cleaner_rows F_law_source (PySem.W.mg_of X G a_law_source)
  have h_law_next := ok_law_next (P := l.prog) (w := w) (base := base) GG   X_NoCleaner K_Cleaner nA_Cleaner_rows F_law_next (PySem.W.mg_of X G a_law_next)
  have h_law_pick := ok_law_pick (P := l.prog) (w := w) (base := base) GG  h_law_next X_NoCleaner K_Cleaner nA_Cleaner_rows F_law_pick (PySem.W.mg_of X G a_law_pick)
  have h_law_word := ok_law_word (P := l.prog) (w := w) (base := base) GG  h_law_pick h_law_next X_NoCleaner K_Cleaner nA_Cleaner_rows F_law_word (PySem.W.mg_of X G a_law_word)
  have h_law_row := ok_law_row (P := l.prog) (w := w) (base := base) GG  h_law_pick h_law_next h_law_word X_NoCleaner K_Cleaner nA_Cleaner_rows F_law_row (PySem.W.mg_of X G a_law_row)
  have h_law_bare := ok_law_bare (P := l.prog) (w := w) (base := base) GG   X_NoCleaner K_Cleaner nA_Cleaner_rows F_law_bare (PySem.W.mg_of X G a_law_bare)
  have h_law_due := ok_law_due (P := l.prog) (w := w) (base := base) GG  h_law_bare X_NoCleaner K_Cleaner nA_Cleaner_rows F_law_due (PySem.W.mg_of X G a_law_due)
  have h_law_right := ok_law_right (P := l.prog) (w := w) (base := base) GG  h_Cleaner___init__ h_clean h_law_due h_law_next h_law_row h_law_pick h_law_word X_NoCleaner K_Cleaner nA_Cleaner_rows F_law_right (PySem.W.mg_of X G a_law_right)
  exact ok_law (P := l.prog) (w := w) (base := base) GG  h_law_source h_law_right X_NoCleaner K_Cleaner nA_Cleaner_rows F_law (PySem.W.mg_of X G a_law)
theorem law_walk {l : PySem.W.OpenLaw} {q : Program} {loose : List Str} {XP : (Str → Option Value) → Heap → Prop} {YP : World → Heap → Prop} {d : DefRec} {K : Params → PySem.W.Frag} (hn : l.most = some 63) (hdf : d.params.defaults = [])
    (hY : ∀ (w : World) (h : Heap), YP w h → (K w.params).In h)
    (F : ∀ (w : World) (mg : Str → Option Value) (fa : Addr) (h : Heap), (K w.params).In h → h.Ns mainGlobals mg → mg d.name = some (.ref fa) →
      ∃ fd : FuncData, (∀ (s : Shared) (u : Value), BindsTo s fd ⟨[u], []⟩ [("_law_script", u)]) ∧ ∀ base : Heap, (K w.params).In base → base.Ns mainGlobals mg → FnOk l.prog w (K w.params) mg base CX0 6 fa fd ["_law_script"] (toSp (K w.params) ms_law (S_law))) :
    PySem.W.WalkO q loose XP YP l.row.toRowW d [] (fun f vs => PySem.call f vs) :=
  L2.walk_of (n := 63) (k := 6) (x := "_law_script") (CX := fun _ => CX0) (sp := fun w => toSp (K w.params) ms_law (S_law)) hn (by decide) hdf ⟨rfl, by decide, by decide⟩ hY F (fun w H a ns hl _ hS => sp_law ⟨ns, rfl, hl⟩ (fun _ _ _ ⟨_, _, e, _⟩ => e) (fun _ _ _ _ z => z) hS) fun _ _ _ _ _ z => z
end Q
open PySem PySem.W PyProof.Rows
set_option maxRecDepth 100000 in
set_option maxHeartbeats 0 in
theorem PySem.Challenge.cw_fellwhere_k42_texts_cleaned_holds : PySem.Challenge.rw_fellwhere_k42_texts_cleaned.Holds := by
  w_on; o_law; k_head; (case hw => w_witness2)
  k_fill
  refine Q.law_walk (l := PySem.Challenge.rw_fellwhere_k42_texts_cleaned) rfl rfl (fun w h Y => PySem.W.kIn_of Y) ?F
  case F =>
    intro w mg fa h KX G hmg
    refine' Q.all_mk KX G hmg ?aC_FellError ?aC_NoCleaner ?aC_Cleaner ?z_FIGURES ?z_MOST_ROWS ?z_MOST_SIGNS ?z_all ?z_any ?z_enumerate ?z_int ?z_isinstance ?z_len ?z_list ?z_range ?z_str ?z_tuple ?fr ?fg ?fv ?xL_NoCleaner ?sa_NoCleaner ?nf_NoCleaner ?in_NoCleaner ?ti_NoCleaner ?l_NoCleaner ?ki_NoCleaner ?kj_NoCleaner ?pg_Cleaner ?hd_Cleaner ?po_Cleaner ?sa_Cleaner ?mk_Cleaner ?kc_Cleaner ?nA_Cleaner_rows ?kF_NoCleaner ?bF_NoCleaner ?tF_NoCleaner ?e1_NoCleaner ?e2_NoCleaner ?e4_NoCleaner ?e5_NoCleaner ?e6_NoCleaner ?e7_NoCleaner ?e8_NoCleaner ?a_is_plain ?l_is_plain ?k1_is_plain ?k2_is_plain ?a_is_row ?l_is_row ?k1_is_row ?k2_is_row ?i_Cleaner___init__ ?a_Cleaner___init__ ?l_Cleaner___init__ ?k1_Cleaner___init__ ?k2_Cleaner___init__ ?a_without_figures ?l_without_figures ?k1_without_figures ?k2_without_figures ?a_is_taken ?l_is_taken ?k1_is_taken ?k2_is_taken ?a_clean ?l_clean ?k1_clean ?k2_clean ?a_law_source ?l_law_source ?k1_law_source ?k2_law_source ?a_law_next ?l_law_next ?k1_law_next ?k2_law_next ?a_law_pick ?l_law_pick ?k1_law_pick ?k2_law_pick ?a_law_word ?l_law_word ?k1_law_word ?k2_law_word ?a_law_row ?l_law_row ?k1_law_row ?k2_law_row ?a_law_bare ?l_law_bare ?k1_law_bare ?k2_law_bare ?a_law_due ?l_law_due ?k1_law_due ?k2_law_due ?a_law_right ?l_law_right ?k1_law_right ?k2_law_right ?a_law ?l_law ?k1_law ?k2_law
    (case aC_FellError => k_is)
    (case aC_NoCleaner => k_is)
    (case aC_Cleaner => k_is)
    (case z_FIGURES => k_is)
    (case z_MOST_ROWS => k_is)
    (case z_MOST_SIGNS => k_is)
    (case z_all => k_is)
    (case z_any => k_is)
    (case z_enumerate => k_is)
    (case z_int => k_is)
    (case z_isinstance => k_is)
    (case z_len => k_is)
    (case z_list => k_is)
    (case z_range => k_is)
    (case z_str => k_is)
    (case z_tuple => k_is)
    (case fr => k_is)
    (case fg => k_is)
    (case fv => k_is)
    (case xL_NoCleaner => k_is)
    (case sa_NoCleaner => k_is)
    (case nf_NoCleaner => k_is)
    (case in_NoCleaner => k_is)
    (case ti_NoCleaner => k_is)
    (case l_NoCleaner => k_is)
    (case ki_NoCleaner => k_is)
    (case kj_NoCleaner => k_is)
    (case pg_Cleaner => k_is)
    (case hd_Cleaner => k_is)
    (case po_Cleaner => k_is)
    (case sa_Cleaner => k_is)
    (case mk_Cleaner => k_is)
    (case kc_Cleaner => k_is)
    (case nA_Cleaner_rows => k_is)
    (case kF_NoCleaner => k_is)
    (case bF_NoCleaner => k_is)
    (case tF_NoCleaner => k_is)
    (case e1_NoCleaner => k_is)
    (case e2_NoCleaner => k_is)
    (case e4_NoCleaner => k_is)
    (case e5_NoCleaner => k_is)
    (case e6_NoCleaner => k_is)
    (case e7_NoCleaner => k_is)
    (case e8_NoCleaner => k_is)
    (case a_is_plain => k_is)
    (case l_is_plain => k_is)
    (case k1_is_plain => k_is)
    (case k2_is_plain => k_is)
    (case a_is_row => k_is)
    (case l_is_row => k_is)
    (case k1_is_row => k_is)
    (case k2_is_row => k_is)
    (case i_Cleaner___init__ => k_is)
    (case a_Cleaner___init__ => k_is)
    (case l_Cleaner___init__ => k_is)
    (case k1_Cleaner___init__ => k_is)
    (case k2_Cleaner___init__ => k_is)
    (case a_without_figures => k_is)
    (case l_without_figures => k_is)
    (case k1_without_figures => k_is)
    (case k2_without_figures => k_is)
    (case a_is_taken => k_is)
    (case l_is_taken => k_is)
    (case k1_is_taken => k_is)
    (case k2_is_taken => k_is)
    (case a_clean => k_is)
    (case l_clean => k_is)
    (case k1_clean => k_is)
    (case k2_clean => k_is)
    (case a_law_source => k_is)
    (case l_law_source => k_is)
    (case k1_law_source => k_is)
    (case k2_law_source => k_is)
    (case a_law_next => k_is)
    (case l_law_next => k_is)
    (case k1_law_next => k_is)
    (case k2_law_next => k_is)
    (case a_law_pick => k_is)
    (case l_law_pick => k_is)
    (case k1_law_pick => k_is)
    (case k2_law_pick => k_is)
    (case a_law_word => k_is)
    (case l_law_word => k_is)
    (case k1_law_word => k_is)
    (case k2_law_word => k_is)
    (case a_law_row => k_is)
    (case l_law_row => k_is)
    (case k1_law_row => k_is)
    (case k2_law_row => k_is)
    (case a_law_bare => k_is)
    (case l_law_bare => k_is)
    (case k1_law_bare => k_is)
    (case k2_law_bare => k_is)
    (case a_law_due => k_is)
    (case l_law_due => k_is)
    (case k1_law_due => k_is)
    (case k2_law_due => k_is)
    (case a_law_right => k_is)
    (case l_law_right => k_is)
    (case k1_law_right => k_is)
    (case k2_law_right => k_is)
    (case a_law => k_is)
    (case l_law => k_is)
    (case k1_law => k_is)
    (case k2_law => k_is)
#print axioms PySem.Challenge.cw_fellwhere_k42_texts_cleaned_holds

