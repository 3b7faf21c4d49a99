import PyProof.Rows.All
import Wide.All
import OpenK.AllK
import Wide.FinOn
import HandS.ForMost
import HandS.IsInst
import HandS.ForExc
import HandS.TryMany
import HandS.ExcIs
import HandS.ExcField
import HandS.Small
import KE.KExcIs
import HandS.More
import KE.DataEq
import HandS.ExcInit
import PyProof.StrOps2
import HandS.DeepEq
import HandS.Style
import HandS.Flow
import HandS.Iter
import HandS.Dict
import HandS.WordsDict
import HandS.Conv
import HandS.TryOnly
import KE.KUnpackStar
import HandS.SortKw
import KE.DatumOrd
import HandS.TupAny
import HandS.MakeKwOnly
import HandS.SetFor
import HandS.Strs
import HandS.TupMul
import HandS.SortRule
import HandS.Wide
import HandS.OwnEq
import PyProof.InstEq
import HandS.Set
import PySem.Challenge.RW_fellwhere_k31_what_a_change_has
set_option Elab.async false
set_option linter.all false
set_option maxRecDepth 100000
set_option maxHeartbeats 4000000
/-! data by value over the hand layer -/
namespace D
open PySem PySem.Spec PyProof.Rows L2

inductive Dt where
  | non | bl (b : Bool) | int (i : Int) | str (x : Str) | byt (b : Array UInt8) | ty (n : String)
  | lst (xs : List Dt) | tup (xs : List Dt) | dct (kvs : List (Key × Dt)) | ins (C : Addr) (fs : List (Str × Dt)) | ref (a : Addr) | exn (a : Addr) (d : Option Addr) (C : Addr) (fs : List (Str × Dt))

def KL (K : PySem.W.Frag) (a : Addr) (xs : List V) : Prop :=
  ∃ (o : Obj) (its : Array Value) (n : Nat), K.lookup a = some o ∧ o.cls = .type "list" ∧ o.dict = none ∧ o.data = .seq its n ∧ its.size ≤ sizeLine ∧ Vals xs its.toList
def KT (K : PySem.W.Frag) (a : Addr) (xs : List V) : Prop :=
  ∃ (o : Obj) (its : Array Value) (n : Nat), K.lookup a = some o ∧ o.cls = .type "tuple" ∧ o.data = .seq its n ∧ its.size ≤ sizeLine ∧ Vals xs its.toList

abbrev Zs := Addr → Prop
mutual
inductive Rp (K : PySem.W.Frag) (Z : Zs) (H : Hp) : V → Dt → Prop
  | non : Rp K Z H .non .non
  | bl (b : Bool) : Rp K Z H (.bl b) (.bl b)
  | int (i : Int) : Rp K Z H (.int i) (.int i)
  | str (x : Str) : Rp K Z H (.str x) (.str x)
  | byt (b : Array UInt8) : Rp K Z H (.byt b) (.byt b)
  | ty (n : String) : Rp K Z H (.ty n) (.ty n)
  | ref (a : Addr) : Rp K Z H (.ref a) (.ref a)
  | lst {a : Addr} {vs : List V} {ds : List Dt} : Z a → H a = some (.lst vs) → RpAll K Z H vs ds → Rp K Z H (.ref a) (.lst ds)
  | tup {a : Addr} {vs : List V} {ds : List Dt} : (Z a ∧ Rd H a (.tup vs)) ∨ KT K a vs → RpAll K Z H vs ds → Rp K Z H (.ref a) (.tup ds)
  | dct {a : Addr} {ks : List Key} {vs : List V} {ds : List Dt} : Z a → Rd H a (.dK (ks.zip vs)) → ks.length = vs.length → RpAll K Z H vs ds → Rp K Z H (.ref a) (.dct (ks.zip ds))
  | exn0 (a C : Addr) : Rp K Z H (.ref a) (.exn a none C [])
  | exn1 {dd : Addr} {ns : List Str} {vs : List V} {ds : List Dt} (a C : Addr) : Z dd → H dd = some (.xd (ns.zip vs)) → ns.length = vs.length → RpAll K Z H vs ds → Rp K Z H (.ref a) (.exn a (some dd) C (ns.zip ds))
  | ins {a C dx : Addr} {ns : List Str} {vs : List V} {ds : List Dt} : Z a → H a = some (.ins C dx (ns.zip vs)) → ns.length = vs.length → RpAll K Z H vs ds → Rp K Z H (.ref a) (.ins C (ns.zip ds))
inductive RpAll (K : PySem.W.Frag) (Z : Zs) (H : Hp) : List V → List Dt → Prop
  | nil : RpAll K Z H [] []
  | cons {v : V} {vs : List V} {d : Dt} {ds : List Dt} : Rp K Z H v d → RpAll K Z H vs ds → RpAll K Z H (v :: vs) (d :: ds)
end

section
variable {K : PySem.W.Frag} {Z Z' : Zs} {H H' : Hp}
theorem rd_mono (hz : ∀ b o, Z b → H b = some o → H' b = some o) {a : Addr} {u : HO} (za : Z a) (h : Rd H a u) : Rd H' a u := by
  rcases h with h | ⟨o, h⟩
  · exact .inl (hz _ _ za h)
  · exact .inr ⟨o, hz _ _ za h⟩
theorem Rp.mono (h1 : ∀ b, Z b → Z' b) (hz : ∀ b o, Z b → H b = some o → H' b = some o) {v : V} {d : Dt} (h : Rp K Z H v d) : Rp K Z' H' v d := by
  refine Rp.rec (motive_1 := fun v d _ => Rp K Z' H' v d) (motive_2 := fun vs ds _ => RpAll K Z' H' vs ds) .non .bl .int .str .byt .ty .ref ?_ ?_ ?_ .exn0 ?_ ?_ .nil ?_ h
  · intro a vs ds z h _ ih
    exact .lst (h1 _ z) (hz _ _ z h) ih
  · intro a vs ds h _ ih
    exact .tup (h.imp (fun ⟨z, r⟩ => ⟨h1 _ z, rd_mono hz z r⟩) id) ih
  · intro a ks vs ds z r l _ ih
    exact .dct (h1 _ z) (rd_mono hz z r) l ih
  · intro dd ns vs ds a C z r l _ ih
    exact .exn1 a C (h1 _ z) (hz _ _ z r) l ih
  · intro a C dx ns vs ds z r l _ ih
    exact .ins (h1 _ z) (hz _ _ z r) l ih
  · intro v vs d ds _ _ i1 i2
    exact .cons i1 i2
theorem RpAll.mono (h1 : ∀ b, Z b → Z' b) (hz : ∀ b o, Z b → H b = some o → H' b = some o) {vs : List V} {ds : List Dt} (h : RpAll K Z H vs ds) : RpAll K Z' H' vs ds := by
  induction vs generalizing ds with
  | nil => cases h; exact .nil
  | cons v vs ih =>
    cases h with
    | cons a b => exact .cons (a.mono h1 hz) (ih b)
theorem RpAll.length {vs : List V} {ds : List Dt} (h : RpAll K Z H vs ds) : vs.length = ds.length := by
  induction vs generalizing ds with
  | nil => cases h; rfl
  | cons v vs ih =>
    cases h with
    | cons a b => simp [ih b]
theorem RpAll.get {vs : List V} {ds : List Dt} (h : RpAll K Z H vs ds) {i : Nat} {d : Dt} (e : ds[i]? = some d) : ∃ v, vs[i]? = some v ∧ Rp K Z H v d := by
  induction vs generalizing ds i with
  | nil => cases h; simp at e
  | cons v vs ih =>
    cases h with
    | cons a b =>
      cases i with
      | zero => simp at e; subst e; exact ⟨v, rfl, a⟩
      | succ i => simp at e; obtain ⟨w, h1, h2⟩ := ih b e; exact ⟨w, by simpa using h1, h2⟩
theorem RpAll.get' {vs : List V} {ds : List Dt} (h : RpAll K Z H vs ds) {i : Nat} {v : V} (e : vs[i]? = some v) : ∃ d, ds[i]? = some d ∧ Rp K Z H v d := by
  induction vs generalizing ds i with
  | nil => simp at e
  | cons w vs ih =>
    cases h with
    | cons a b =>
      cases i with
      | zero => simp at e; subst e; exact ⟨_, rfl, a⟩
      | succ i => simp at e; obtain ⟨d, h1, h2⟩ := ih b e; exact ⟨d, by simpa using h1, h2⟩
theorem RpAll.append {vs ws : List V} {ds es : List Dt} (h : RpAll K Z H vs ds) (h' : RpAll K Z H ws es) : RpAll K Z H (vs ++ ws) (ds ++ es) := by
  induction vs generalizing ds with
  | nil => cases h; exact h'
  | cons v vs ih =>
    cases h with
    | cons a b => exact .cons a (ih b)
theorem RpAll.take {vs : List V} {ds : List Dt} (h : RpAll K Z H vs ds) (n : Nat) : RpAll K Z H (vs.take n) (ds.take n) := by
  induction vs generalizing ds n with
  | nil => cases h; simp; exact .nil
  | cons v vs ih =>
    cases h with
    | cons a b =>
      cases n with
      | zero => simp; exact .nil
      | succ n => simp; exact .cons a (ih b n)
theorem RpAll.drop {vs : List V} {ds : List Dt} (h : RpAll K Z H vs ds) (n : Nat) : RpAll K Z H (vs.drop n) (ds.drop n) := by
  induction vs generalizing ds n with
  | nil => cases h; simp; exact .nil
  | cons v vs ih =>
    cases h with
    | cons a b =>
      cases n with
      | zero => simp; exact .cons a b
      | succ n => simp; exact ih b n
theorem RpAll.set {vs : List V} {ds : List Dt} (h : RpAll K Z H vs ds) {v : V} {d : Dt} (r : Rp K Z H v d) (n : Nat) : RpAll K Z H (vs.set n v) (ds.set n d) := by
  induction vs generalizing ds n with
  | nil => cases h; simp; exact .nil
  | cons w vs ih =>
    cases h with
    | cons a b =>
      cases n with
      | zero => simp; exact .cons r b
      | succ n => simp; exact .cons a (ih b n)
theorem RpAll.reverse {vs : List V} {ds : List Dt} (h : RpAll K Z H vs ds) : RpAll K Z H vs.reverse ds.reverse := by
  induction vs generalizing ds with
  | nil => cases h; simp; exact .nil
  | cons w vs ih =>
    cases h with
    | cons a b => simp; exact (ih b).append (.cons a .nil)
theorem RpAll.erase {vs : List V} {ds : List Dt} (h : RpAll K Z H vs ds) (n : Nat) : RpAll K Z H (vs.eraseIdx n) (ds.eraseIdx n) := by
  induction vs generalizing ds n with
  | nil => cases h; simp; exact .nil
  | cons w vs ih =>
    cases h with
    | cons a b =>
      cases n with
      | zero => simp; exact b
      | succ n => simp; exact .cons a (ih b n)
end

/-! ### entries -/
/-- the content of a thing that is written here: a datum, or what is told by a predicate of the value, its own addresses, the frozen, the heap -/
inductive Ct where
  | dt (d : Dt)
  | hp (d : Dt) (g : List (Addr × Dt))
inductive En where
  | val (d : Dt)
  | mu (p : Option Nat) (c : Ct)
  | bor (d : Dt)
  | lb (a : Addr) (d : Dt)

/-- the base: the heap at the entry, what may be written of it, what was frozen -/
structure Base where
  H0 : Hp
  F0 : List Addr
  Z0 : Zs
  V0 : List V

/-- the object at a, known alone here -/
def OwnAt (K : PySem.W.Frag) (Z : Zs) (H : Hp) (a : Addr) : Dt → Prop
  | .lst ds => ∃ vs, H a = some (.lst vs) ∧ RpAll K Z H vs ds
  | .dct kvs => ∃ (ks : List Key) (vs : List V) (ds : List Dt), kvs = ks.zip ds ∧ ks.length = vs.length ∧ H a = some (.dK (ks.zip vs)) ∧ RpAll K Z H vs ds
  | .ins C fs => ∃ (dx : Addr) (ns : List Str) (vs : List V) (ds : List Dt), fs = ns.zip ds ∧ ns.length = vs.length ∧ H a = some (.ins C dx (ns.zip vs)) ∧ RpAll K Z H vs ds
  | _ => False
theorem OwnAt.mono {K : PySem.W.Frag} {Z Z' : Zs} {H H' : Hp} {a : Addr} {d : Dt} (h : OwnAt K Z H a d) (h1 : ∀ b, Z b → Z' b) (hz : ∀ b o, Z b ∨ b = a → H b = some o → H' b = some o) : OwnAt K Z' H' a d := by
  have hz' : ∀ b o, Z b → H b = some o → H' b = some o := fun b o z => hz b o (.inl z)
  cases d with
  | lst ds => obtain ⟨vs, e1, e2⟩ := h; exact ⟨vs, hz _ _ (.inr rfl) e1, e2.mono h1 hz'⟩
  | dct kvs => obtain ⟨ks, vs, ds, e0, e1, e2, e3⟩ := h; exact ⟨ks, vs, ds, e0, e1, hz _ _ (.inr rfl) e2, e3.mono h1 hz'⟩
  | ins C fs => obtain ⟨dx, ns, vs, ds, e0, e1, e2, e3⟩ := h; exact ⟨dx, ns, vs, ds, e0, e1, hz _ _ (.inr rfl) e2, e3.mono h1 hz'⟩
  | non => exact h.elim
  | bl b => exact h.elim
  | int b => exact h.elim
  | str b => exact h.elim
  | byt b => exact h.elim
  | ty b => exact h.elim
  | tup b => exact h.elim
  | ref b => exact h.elim
  | exn a d C fs => exact h.elim
/-- frozen -/
theorem OwnAt.rp {K : PySem.W.Frag} {Z : Zs} {H : Hp} {a : Addr} {d : Dt} (h : OwnAt K Z H a d) (z : Z a) : Rp K Z H (.ref a) d := by
  cases d with
  | lst ds => obtain ⟨vs, e1, e2⟩ := h; exact .lst z e1 e2
  | dct kvs => obtain ⟨ks, vs, ds, e0, e1, e2, e3⟩ := h; subst e0; exact .dct z (.inl e2) e1 e3
  | ins C fs => obtain ⟨dx, ns, vs, ds, e0, e1, e2, e3⟩ := h; subst e0; exact .ins z e2 e1 e3
  | non => exact h.elim
  | bl b => exact h.elim
  | int b => exact h.elim
  | str b => exact h.elim
  | byt b => exact h.elim
  | ty b => exact h.elim
  | tup b => exact h.elim
  | ref b => exact h.elim
  | exn a d C fs => exact h.elim
theorem OwnAt.there {K : PySem.W.Frag} {Z : Zs} {H : Hp} {a : Addr} {d : Dt} (h : OwnAt K Z H a d) : ∃ o, H a = some o := by
  cases d with
  | lst ds => obtain ⟨vs, e1, e2⟩ := h; exact ⟨_, e1⟩
  | dct kvs => obtain ⟨ks, vs, ds, e0, e1, e2, e3⟩ := h; exact ⟨_, e2⟩
  | ins C fs => obtain ⟨dx, ns, vs, ds, e0, e1, e2, e3⟩ := h; exact ⟨_, e2⟩
  | non => exact h.elim
  | bl b => exact h.elim
  | int b => exact h.elim
  | str b => exact h.elim
  | byt b => exact h.elim
  | ty b => exact h.elim
  | tup b => exact h.elim
  | ref b => exact h.elim
  | exn a d C fs => exact h.elim

/-- by value, or a list that the program itself keeps -/
def BRp (K : PySem.W.Frag) (Z : Zs) (H : Hp) (v : V) (d : Dt) : Prop := Rp K Z H v d ∨ ∃ (a : Addr) (vs : List V) (ds : List Dt), v = .ref a ∧ d = .lst ds ∧ KL K a vs ∧ RpAll K Z H vs ds
theorem BRp.mono {K : PySem.W.Frag} {Z Z' : Zs} {H H' : Hp} (h1 : ∀ b, Z b → Z' b) (hz : ∀ b o, Z b → H b = some o → H' b = some o) {v : V} {d : Dt} (h : BRp K Z H v d) : BRp K Z' H' v d :=
  h.imp (fun r => r.mono h1 hz) fun ⟨a, vs, ds, e1, e2, e3, r⟩ => ⟨a, vs, ds, e1, e2, e3, r.mono h1 hz⟩

/-- a thing that may be read: somebody's own, or locked -/
def BorAt (K : PySem.W.Frag) (Z : Zs) (H : Hp) (a : Addr) (d : Dt) : Prop := OwnAt K Z H a d ∨ (∃ (o : Obj) (vs : List V) (ds : List Dt), d = .lst ds ∧ H a = some (.frz o (.lst vs)) ∧ RpAll K Z H vs ds) ∨
  ∃ (o : Obj) (ks : List Key) (vs : List V) (ds : List Dt), d = .dct (ks.zip ds) ∧ ks.length = vs.length ∧ H a = some (.frz o (.dK (ks.zip vs))) ∧ RpAll K Z H vs ds
theorem BorAt.mono {K : PySem.W.Frag} {Z Z' : Zs} {H H' : Hp} {a : Addr} {d : Dt} (h : BorAt K Z H a d) (h1 : ∀ b, Z b → Z' b) (hz : ∀ b o, Z b ∨ b = a → H b = some o → H' b = some o) : BorAt K Z' H' a d :=
  h.imp (fun h => h.mono h1 hz) fun h => h.imp (fun ⟨o, vs, ds, e, h, r⟩ => ⟨o, vs, ds, e, hz _ _ (.inr rfl) h, r.mono h1 fun b o z => hz b o (.inl z)⟩)
    fun ⟨o, ks, vs, ds, e, l, h, r⟩ => ⟨o, ks, vs, ds, e, l, hz _ _ (.inr rfl) h, r.mono h1 fun b o z => hz b o (.inl z)⟩
def COk (K : PySem.W.Frag) (Z : Zs) (H : Hp) (v : V) (F : List Addr) : Ct → Prop
  | .dt d => ∃ a, v = .ref a ∧ F = [a] ∧ OwnAt K Z H a d
  | .hp d g => ∃ a, v = .ref a ∧ F = a :: g.map (·.1) ∧ F.Nodup ∧ OwnAt K Z H a d ∧ ∀ q ∈ g, OwnAt K Z H q.1 q.2
theorem COk.mono {K : PySem.W.Frag} {Z Z' : Zs} {H H' : Hp} {v : V} {F : List Addr} {c : Ct} (h : COk K Z H v F c) (h1 : ∀ b, Z b → Z' b) (hz : ∀ b o, Z b ∨ b ∈ F → H b = some o → H' b = some o) : COk K Z' H' v F c := by
  cases c with
  | dt d =>
    obtain ⟨a, e1, e2, e4⟩ := h
    exact ⟨a, e1, e2, e4.mono h1 fun b o q => hz b o (q.imp id fun q => by rw [e2, q]; simp)⟩
  | hp d g =>
    obtain ⟨a, e1, e2, e3, e4, e5⟩ := h
    exact ⟨a, e1, e2, e3, e4.mono h1 fun b o q => hz b o (q.imp id fun q => by rw [e2, q]; exact List.mem_cons_self ..), fun q hq => (e5 q hq).mono h1 fun b o z => hz b o (z.imp id fun z => by rw [e2, z]; exact List.mem_cons_of_mem _ (List.mem_map.mpr ⟨q, hq, rfl⟩))⟩
/-- made here, or the j-th thing that was handed in -/
def Mine (B : Base) (v : V) : Option Nat → Prop
  | none => ∀ a, v = .ref a → B.H0 a = none
  | some j => B.V0[j]? = some v
def EnOk (B : Base) (K : PySem.W.Frag) (Z : Zs) (H : Hp) (v : V) (F : List Addr) : En → Prop
  | .val d => F = [] ∧ Rp K Z H v d
  | .mu p c => COk K Z H v F c ∧ Mine B v p
  | .bor d => F = [] ∧ (BRp K Z H v d ∨ ∃ a, v = .ref a ∧ (∃ o, B.H0 a = some o) ∧ a ∉ B.F0 ∧ BorAt K Z H a d)
  | .lb _ _ => False

/-- what was there at the entry and isn't written stands -/
abbrev Bs (B : Base) (H : Hp) : Prop := ∀ b o, B.H0 b = some o → b ∉ B.F0 → H b = some o
/-- what a step keeps: the frozen, its own, and what was there at the entry -/
theorem EnOk.mono {B : Base} {K : PySem.W.Frag} {Z Z' : Zs} {H H' : Hp} {v : V} {F : List Addr} {e : En} (h : EnOk B K Z H v F e) (h0 : Bs B H) (h0' : Bs B H') (h1 : ∀ b, Z b → Z' b) (hz : ∀ b o, Z b ∨ b ∈ F → H b = some o → H' b = some o) : EnOk B K Z' H' v F e := by
  have hz' : ∀ b o, Z b → H b = some o → H' b = some o := fun b o z => hz b o (.inl z)
  cases e with
  | val d => exact ⟨h.1, h.2.mono h1 hz'⟩
  | mu p c => exact ⟨h.1.mono h1 hz, h.2⟩
  | lb a d => exact h.elim
  | bor d =>
    refine ⟨h.1, h.2.imp (fun r => r.mono h1 hz') ?_⟩
    rintro ⟨a, e1, ⟨o, e2⟩, e3, e5⟩
    refine ⟨a, e1, ⟨o, e2⟩, e3, ?_⟩
    refine e5.mono h1 fun b ob q => ?_
    rcases q with q | q
    · exact hz' b ob q
    · subst q
      intro hb
      have := h0 b o e2 e3
      rw [hb] at this
      cases this
      exact h0' b _ e2 e3
/-- entries apart from one another -/
def Sep (B : Base) (K : PySem.W.Frag) (Z : Zs) (H : Hp) : List (V × En) → List Addr → Prop
  | [], F => F = []
  | p :: r, F => ∃ F1 F2, EnOk B K Z H p.1 F1 p.2 ∧ Sep B K Z H r F2 ∧ (∀ b, b ∈ F1 → b ∉ F2) ∧ F = F1 ++ F2

/-- an entry's own addresses are told by its value -/
theorem EnOk.uniq {B B' : Base} {K : PySem.W.Frag} {Z Z' : Zs} {H H' : Hp} {v : V} {F F' : List Addr} {e : En} (h : EnOk B K Z H v F e) (h' : EnOk B' K Z' H' v F' e) : F = F' := by
  cases e with
  | val d => rw [h.1, h'.1]
  | bor d => rw [h.1, h'.1]
  | lb a d => exact h.elim
  | mu p c =>
    cases c with
    | dt d =>
      obtain ⟨⟨a, e1, e2, _⟩, _⟩ := h
      obtain ⟨⟨a', e1', e2', _⟩, _⟩ := h'
      rw [e1] at e1'
      cases e1'
      rw [e2, e2']
    | hp d g =>
      obtain ⟨⟨a, e1, e2, _⟩, _⟩ := h
      obtain ⟨⟨a', e1', e2', _⟩, _⟩ := h'
      rw [e1] at e1'
      cases e1'
      rw [e2, e2']
theorem Sep.uniq {B B' : Base} {K : PySem.W.Frag} {Z Z' : Zs} {H H' : Hp} : ∀ {l : List (V × En)} {F F' : List Addr}, Sep B K Z H l F → Sep B' K Z' H' l F' → F = F'
  | [], _, _, h, h' => by rw [h, h']
  | p :: r, _, _, ⟨F1, F2, e1, e2, _, e4⟩, ⟨F1', F2', e1', e2', _, e4'⟩ => by rw [e4, e4', e1.uniq e1', Sep.uniq e2 e2']
section
variable {B : Base} {K : PySem.W.Frag} {Z Z' : Zs} {H H' : Hp}
theorem Sep.mono {l : List (V × En)} {F : List Addr} (h : Sep B K Z H l F) (h0 : Bs B H) (h0' : Bs B H') (h1 : ∀ b, Z b → Z' b) (hz : ∀ b o, Z b ∨ b ∈ F → H b = some o → H' b = some o) : Sep B K Z' H' l F := by
  induction l generalizing F with
  | nil => exact h
  | cons p r ih =>
    obtain ⟨F1, F2, e1, e2, e3, rfl⟩ := h
    refine ⟨F1, F2, e1.mono h0 h0' h1 fun b o z => hz b o (z.imp id fun m => List.mem_append_left _ m), ih e2 fun b o z => hz b o (z.imp id fun m => List.mem_append_right _ m), e3, rfl⟩
theorem Sep.perm {l l' : List (V × En)} (p : l.Perm l') : ∀ {F : List Addr}, Sep B K Z H l F → ∃ F', Sep B K Z H l' F' ∧ ∀ b, b ∈ F' ↔ b ∈ F := by
  induction p with
  | nil => intro F h; exact ⟨F, h, fun b => Iff.rfl⟩
  | cons x _ ih =>
    rintro F ⟨F1, F2, e1, e2, e3, rfl⟩
    obtain ⟨F', h', hm⟩ := ih e2
    exact ⟨F1 ++ F', ⟨F1, F', e1, h', fun b hb hb' => e3 b hb ((hm b).mp hb'), rfl⟩, fun b => by simp [hm]⟩
  | swap x y l =>
    rintro F ⟨F1, F2, e1, ⟨F3, F4, g1, g2, g3, rfl⟩, e3, rfl⟩
    refine ⟨F3 ++ (F1 ++ F4), ⟨F3, F1 ++ F4, g1, ⟨F1, F4, e1, g2, fun b hb hb' => e3 b hb (List.mem_append_right _ hb'), rfl⟩, fun b hb hb' => ?_, rfl⟩, fun b => ?_⟩
    · rcases List.mem_append.mp hb' with q | q
      · exact e3 b q (List.mem_append_left _ hb)
      · exact g3 b hb q
    · simp only [List.mem_append]
      constructor
      · rintro (h | h | h)
        · exact .inr (.inl h)
        · exact .inl h
        · exact .inr (.inr h)
      · rintro (h | h | h)
        · exact .inr (.inl h)
        · exact .inl h
        · exact .inr (.inr h)
  | trans _ _ ih1 ih2 =>
    intro F h
    obtain ⟨F', h', hm⟩ := ih1 h
    obtain ⟨F'', h'', hm'⟩ := ih2 h'
    exact ⟨F'', h'', fun b => (hm' b).trans (hm b)⟩
theorem Sep.mem {l : List (V × En)} {F : List Addr} (h : Sep B K Z H l F) {p : V × En} (hp : p ∈ l) : ∃ F1, EnOk B K Z H p.1 F1 p.2 ∧ ∀ b ∈ F1, b ∈ F := by
  induction l generalizing F with
  | nil => simp at hp
  | cons x r ih =>
    obtain ⟨F1, F2, e1, e2, e3, rfl⟩ := h
    rcases List.mem_cons.mp hp with rfl | hp
    · exact ⟨F1, e1, fun b hb => List.mem_append_left _ hb⟩
    · obtain ⟨F3, g1, g2⟩ := ih e2 hp
      exact ⟨F3, g1, fun b hb => List.mem_append_right _ (g2 b hb)⟩
theorem Sep.append {l l' : List (V × En)} : ∀ {F : List Addr}, Sep B K Z H (l ++ l') F ↔ ∃ F1 F2, Sep B K Z H l F1 ∧ Sep B K Z H l' F2 ∧ (∀ b, b ∈ F1 → b ∉ F2) ∧ F = F1 ++ F2 := by
  induction l with
  | nil =>
    intro F
    constructor
    · intro h; exact ⟨[], F, rfl, h, by simp, rfl⟩
    · rintro ⟨F1, F2, rfl, h, _, rfl⟩; exact h
  | cons x r ih =>
    intro F
    constructor
    · rintro ⟨F1, F2, e1, e2, e3, rfl⟩
      obtain ⟨F3, F4, g1, g2, g3, rfl⟩ := ih.mp e2
      refine ⟨F1 ++ F3, F4, ⟨F1, F3, e1, g1, fun b hb hb' => e3 b hb (List.mem_append_left _ hb'), rfl⟩, g2, fun b hb hb' => ?_, by rw [List.append_assoc]⟩
      rcases List.mem_append.mp hb with q | q
      · exact e3 b q (List.mem_append_right _ hb')
      · exact g3 b q hb'
    · rintro ⟨F1, F4, ⟨F2, F3, e1, e2, e3, rfl⟩, g2, g3, rfl⟩
      refine ⟨F2, F3 ++ F4, e1, ih.mpr ⟨F3, F4, e2, g2, fun b hb => g3 b (List.mem_append_right _ hb), rfl⟩, fun b hb hb' => ?_, by rw [List.append_assoc]⟩
      rcases List.mem_append.mp hb' with q | q
      · exact e3 b hb q
      · exact g3 b (List.mem_append_left _ hb) q
theorem Sep.tail {p : V × En} {l : List (V × En)} {F : List Addr} (h : Sep B K Z H (p :: l) F) : ∃ F', Sep B K Z H l F' ∧ ∀ b ∈ F', b ∈ F := by
  obtain ⟨F1, F2, e1, e2, e3, rfl⟩ := h
  exact ⟨F2, e2, fun b hb => List.mem_append_right _ hb⟩
end

/-! ### the state -/
abbrev Env := List (Option En)
/-- slots that hold something -/
def pack : L2.St → Env → List (V × En)
  | some v :: σ, some e :: η => (v, e) :: pack σ η
  | _ :: σ, _ :: η => pack σ η
  | _, _ => []
/-- each slot that is told holds a value -/
def Slots : L2.St → Env → Prop
  | [], [] => True
  | o :: σ, q :: η => (q.isSome = true → o.isSome = true) ∧ Slots σ η
  | _, _ => False
theorem Slots.length : ∀ {σ : L2.St} {η : Env}, Slots σ η → σ.length = η.length
  | [], [], _ => rfl
  | _ :: _, _ :: _, h => by simp [Slots.length h.2]
  | [], _ :: _, h => h.elim
  | _ :: _, [], h => h.elim
theorem pack_take : ∀ {σ : L2.St} {η : Env} {i : Nat} {e : En}, Slots σ η → η[i]? = some (some e) → ∃ v, σ[i]? = some (some v) ∧ (pack σ η).Perm ((v, e) :: pack σ (η.set i none))
  | [], [], i, e, _, h => by simp at h
  | o :: σ, q :: η, 0, e, hs, h => by
    simp at h
    subst h
    have := hs.1 rfl
    cases o with
    | none => simp at this
    | some v => exact ⟨v, rfl, List.Perm.refl _⟩
  | o :: σ, q :: η, i + 1, e, hs, h => by
    obtain ⟨v, h1, h2⟩ := pack_take (i := i) hs.2 (by simpa using h)
    refine ⟨v, by simpa using h1, ?_⟩
    cases o with
    | none => cases q <;> exact h2
    | some w =>
      cases q with
      | none => exact h2
      | some u => exact (h2.cons _).trans (List.Perm.swap _ _ _)
  | [], _ :: _, _, _, h, _ => h.elim
  | _ :: _, [], _, _, h, _ => h.elim
theorem pack_set : ∀ {σ : L2.St} {η : Env} {i : Nat} (v : V) (e : En), Slots σ η → i < η.length → (pack (σ.set i (some v)) (η.set i (some e))).Perm ((v, e) :: pack σ (η.set i none))
  | [], [], i, v, e, _, h => by simp at h
  | o :: σ, q :: η, 0, v, e, hs, h => by cases o <;> exact List.Perm.refl _
  | o :: σ, q :: η, i + 1, v, e, hs, h => by
    have h2 := pack_set (i := i) v e hs.2 (by simpa using h)
    cases o with
    | none => cases q <;> exact h2
    | some w =>
      cases q with
      | none => exact h2
      | some u => exact (h2.cons _).trans (List.Perm.swap _ _ _)
  | [], _ :: _, _, _, _, h, _ => h.elim
  | _ :: _, [], _, _, _, h, _ => h.elim
/-- a slot is forgotten -/
theorem pack_forget : ∀ {σ : L2.St} {η : Env} {i : Nat}, Slots σ η → i < η.length → η[i]? = some none ∨ ∃ v e, σ[i]? = some (some v) ∧ η[i]? = some (some e) ∧ (pack σ η).Perm ((v, e) :: pack σ (η.set i none)) := fun {σ η i} hs h => by
  cases q : η[i]? with
  | none => exact absurd (List.getElem?_eq_none_iff.mp q) (by omega)
  | some o =>
    cases o with
    | none => exact .inl rfl
    | some e =>
      obtain ⟨v, h1, h2⟩ := pack_take hs q
      exact .inr ⟨v, e, h1, rfl, h2⟩
theorem slots_none : ∀ {σ : L2.St} {η : Env} (i : Nat), Slots σ η → Slots σ (η.set i none)
  | [], [], i, _ => trivial
  | o :: σ, q :: η, 0, h => ⟨by simp, h.2⟩
  | o :: σ, q :: η, i + 1, h => ⟨h.1, slots_none i h.2⟩
  | [], _ :: _, _, h => h.elim
  | _ :: _, [], _, h => h.elim
theorem slots_set : ∀ {σ : L2.St} {η : Env} (i : Nat) (v : V) (o : Option En), Slots σ η → Slots (σ.set i (some v)) (η.set i o)
  | [], [], i, _, _, _ => trivial
  | o :: σ, q :: η, 0, v, e, h => ⟨by simp, h.2⟩
  | o :: σ, q :: η, i + 1, v, e, h => ⟨h.1, slots_set i v e h.2⟩
  | [], _ :: _, _, _, _, h => h.elim
  | _ :: _, [], _, _, _, h => h.elim
theorem slots_put : ∀ {σ : L2.St} {η : Env} {i : Nat} {v : V} (e : En), Slots σ η → σ[i]? = some (some v) → Slots σ (η.set i (some e))
  | [], [], i, _, _, _, _ => trivial
  | o :: σ, q :: η, 0, v, e, h, hv => ⟨by intro _; simp at hv; simp [hv], h.2⟩
  | o :: σ, q :: η, i + 1, v, e, h, hv => ⟨h.1, slots_put e h.2 (by simpa using hv)⟩
  | [], _ :: _, _, _, _, h, _ => h.elim
  | _ :: _, [], _, _, _, h, _ => h.elim
theorem set_self : ∀ {σ : L2.St} {i : Nat} {v : V}, σ[i]? = some (some v) → σ.set i (some v) = σ
  | [], i, v, h => by simp at h
  | o :: σ, 0, v, h => by simp at h; simp [h]
  | o :: σ, i + 1, v, h => by simp; exact set_self (by simpa using h)

structure OkF (B : Base) (K : PySem.W.Frag) (Z : Zs) (H : Hp) (σ : L2.St) (η : Env) (τ : List (V × En)) (F : List Addr) : Prop where
  slots : Slots σ η
  sep : Sep B K Z H (pack σ η ++ τ) F
  live : ∀ b ∈ F, ¬ Z b ∧ H b ≠ none ∧ (B.H0 b = none ∨ b ∈ B.F0)
  base : Bs B H
  there : ∀ b, B.H0 b ≠ none → H b ≠ none
  grow : ∀ b, Z b → B.Z0 b ∨ B.H0 b = none
  old : ∀ b, B.Z0 b → Z b
  zl : ∀ b, Z b → H b ≠ none
def Ok (B : Base) (K : PySem.W.Frag) (Z : Zs) (H : Hp) (σ : L2.St) (η : Env) (τ : List (V × En)) : Prop := ∃ F, OkF B K Z H σ η τ F

section
variable {B : Base} {K : PySem.W.Frag} {Z Z' : Zs} {H H' : Hp} {σ : L2.St} {η : Env} {τ τ' : List (V × En)}
theorem Ok.perm (h : Ok B K Z H σ η τ) (p : τ.Perm τ') : Ok B K Z H σ η τ' := by
  obtain ⟨F, h⟩ := h
  obtain ⟨F', s, m⟩ := h.sep.perm (List.Perm.append_left _ p)
  exact ⟨F', h.slots, s, fun b hb => h.live b ((m b).mp hb), h.base, h.there, h.grow, h.old, h.zl⟩
theorem Ok.drop {x : V × En} (h : Ok B K Z H σ η (x :: τ)) : Ok B K Z H σ η τ := by
  obtain ⟨F, h⟩ := h
  obtain ⟨F', s, m⟩ := h.sep.perm (l' := x :: (pack σ η ++ τ)) (List.perm_middle)
  obtain ⟨F2, s2, m2⟩ := s.tail
  exact ⟨F2, h.slots, s2, fun b hb => h.live b ((m b).mp (m2 b hb)), h.base, h.there, h.grow, h.old, h.zl⟩
theorem Ok.drops (h : Ok B K Z H σ η (τ' ++ τ)) : Ok B K Z H σ η τ := by
  induction τ' with
  | nil => exact h
  | cons x r ih => exact ih h.drop
/-- the heap grows, some of the new is frozen -/
theorem Ok.ext (h : Ok B K Z H σ η τ) (k : ∀ b o, H b = some o → H' b = some o) (h1 : ∀ b, Z b → Z' b) (h2 : ∀ b, Z' b → Z b ∨ (H b = none ∧ H' b ≠ none)) : Ok B K Z' H' σ η τ := by
  obtain ⟨F, h⟩ := h
  have hb : Bs B H' := fun b o e n => k b o (h.base b o e n)
  have kn : ∀ b, H b ≠ none → H' b ≠ none := fun b n q => by
    cases e : H b with
    | none => exact n e
    | some o => rw [k b o e] at q; cases q
  refine ⟨F, h.slots, h.sep.mono h.base hb h1 fun b o _ e => k b o e, fun b hb => ?_, hb, fun b n => kn b (h.there b n), fun b z => ?_, fun b z => h1 b (h.old b z), fun b z => ?_⟩
  · obtain ⟨l1, l2, l3⟩ := h.live b hb
    exact ⟨fun z => (h2 b z).elim l1 fun q => l2 q.1, kn b l2, l3⟩
  · rcases h2 b z with z | ⟨z, _⟩
    · exact h.grow b z
    · refine .inr ?_
      cases e : B.H0 b with
      | none => rfl
      | some o => exact absurd z (h.there b (by rw [e]; simp))
  · rcases h2 b z with z | ⟨_, z⟩
    · exact kn b (h.zl b z)
    · exact z
/-- a frozen value beside -/
theorem Ok.val (h : Ok B K Z H σ η τ) {v : V} {d : Dt} (r : Rp K Z H v d) : Ok B K Z H σ η ((v, .val d) :: τ) := by
  obtain ⟨F, h⟩ := h
  obtain ⟨F', s, m⟩ := Sep.perm (l := (v, .val d) :: (pack σ η ++ τ)) (l' := pack σ η ++ (v, .val d) :: τ) List.perm_middle.symm (F := F) ⟨[], F, ⟨rfl, r⟩, h.sep, by simp, rfl⟩
  exact ⟨F', h.slots, s, fun b hb => h.live b ((m b).mp hb), h.base, h.there, h.grow, h.old, h.zl⟩
/-- the first of the values beside -/
theorem Ok.head {v : V} {e : En} (h : Ok B K Z H σ η ((v, e) :: τ)) : ∃ F, EnOk B K Z H v F e := by
  obtain ⟨F, h⟩ := h
  obtain ⟨F1, e1, _⟩ := h.sep.mem (p := (v, e)) (by simp)
  exact ⟨F1, e1⟩
theorem Ok.rp {v : V} {d : Dt} (h : Ok B K Z H σ η ((v, .val d) :: τ)) : Rp K Z H v d := by
  obtain ⟨F, e⟩ := h.head
  exact e.2
/-- a slot is taken out -/
theorem Ok.take (h : Ok B K Z H σ η τ) {i : Nat} {e : En} (hi : η[i]? = some (some e)) : ∃ v, σ[i]? = some (some v) ∧ Ok B K Z H σ (η.set i none) ((v, e) :: τ) := by
  obtain ⟨F, h⟩ := h
  obtain ⟨v, h1, h2⟩ := pack_take h.slots hi
  obtain ⟨F', s, m⟩ := h.sep.perm ((h2.append_right τ).trans List.perm_middle.symm)
  exact ⟨v, h1, F', slots_none i h.slots, s, fun b hb => h.live b ((m b).mp hb), h.base, h.there, h.grow, h.old, h.zl⟩
/-- .. and put back, with another entry -/
theorem Ok.put {i : Nat} {v : V} {e : En} (h : Ok B K Z H σ (η.set i none) ((v, e) :: τ)) (hi : i < η.length) (hv : σ[i]? = some (some v)) : Ok B K Z H σ (η.set i (some e)) τ := by
  obtain ⟨F, h⟩ := h
  have hs : Slots σ (η.set i (some e)) := by
    have := slots_put e h.slots hv
    simpa using this
  have p := pack_set (i := i) v e h.slots (by simpa using hi)
  rw [set_self hv] at p
  simp only [List.set_set] at p
  obtain ⟨F', s, m⟩ := h.sep.perm (l' := pack σ (η.set i (some e)) ++ τ) (List.perm_middle.trans (p.symm.append_right τ))
  exact ⟨F', hs, s, fun b hb => h.live b ((m b).mp hb), h.base, h.there, h.grow, h.old, h.zl⟩
/-- a slot is forgotten -/
theorem Ok.forget (h : Ok B K Z H σ η τ) (i : Nat) : Ok B K Z H σ (η.set i none) τ := by
  by_cases hi : i < η.length
  · obtain ⟨F, h'⟩ := id h
    rcases pack_forget (i := i) h'.slots hi with q | ⟨v, e, _, q, _⟩
    · have : η.set i none = η := by
        apply List.ext_getElem?
        intro j
        by_cases hj : j = i
        · subst hj; simp [hi] at *; exact q.symm
        · rw [List.getElem?_set_ne (Ne.symm hj)]
      rw [this]; exact h
    · obtain ⟨v, _, h2⟩ := h.take q
      exact h2.drop
  · rw [List.set_eq_of_length_le (by omega)]; exact h
/-- a value is stored in a slot -/
theorem Ok.store {i : Nat} {v : V} {e : En} (h : Ok B K Z H σ η ((v, e) :: τ)) (hi : i < η.length) : Ok B K Z H (σ.set i (some v)) (η.set i (some e)) τ := by
  obtain ⟨F, h'⟩ := h.forget i
  have hs := h'.slots
  have hs0 : Slots (σ.set i (some v)) ((η.set i none).set i none) := slots_set i v none hs
  have p := pack_set (σ := σ) (i := i) v e hs (by simpa using hi)
  simp only [List.set_set] at p
  obtain ⟨F', s, m⟩ := h'.sep.perm (l' := pack (σ.set i (some v)) (η.set i (some e)) ++ τ) (List.perm_middle.trans (p.symm.append_right τ))
  refine ⟨F', ?_, s, fun b hb => h'.live b ((m b).mp hb), h'.base, h'.there, h'.grow, h'.old, h'.zl⟩
  have := slots_set i v (some e) hs
  simpa using this
theorem Ok.none0 (h : Ok B K Z H σ η τ) {p : Addr} (hp : H p = none) : B.H0 p = none := by
  obtain ⟨F0, h0⟩ := h
  cases e : B.H0 p with
  | none => rfl
  | some o => exact absurd hp (h0.there p (by rw [e]; simp))
theorem upd_keep {p : Addr} (hp : H p = none) {o : HO} : ∀ b u, H b = some u → upd H p o b = some u := fun b u e => by rw [upd_ne (ne_of_none e hp)]; exact e
theorem mine1 {p : Addr} (h : B.H0 p = none) : Mine B (.ref p) none := fun b hb => by
  cases hb; exact h
/-- a new object of one's own -/
theorem Ok.new (h : Ok B K Z H σ η τ) {p : Addr} (hp : H p = none) {o : HO} {d : Dt} (hd : OwnAt K Z (upd H p o) p d) : Ok B K Z (upd H p o) σ η ((.ref p, .mu none (.dt d)) :: τ) := by
  have nh0 := h.none0 hp
  obtain ⟨F0, h0⟩ := id h
  have nz : ¬ Z p := fun z => h0.zl p z hp
  have nf : p ∉ F0 := fun m => (h0.live p m).2.1 hp
  have h1 : OkF B K Z (upd H p o) σ η τ F0 := by
    have hb : Bs B (upd H p o) := fun b u e n => upd_keep hp b u (h0.base b u e n)
    have kn : ∀ b, H b ≠ none → upd H p o b ≠ none := fun b n q => by
      cases e : H b with
      | none => exact n e
      | some u => rw [upd_keep hp b u e] at q; cases q
    exact ⟨h0.slots, h0.sep.mono h0.base hb (fun _ z => z) fun b u _ e => upd_keep hp b u e, fun b hb => ⟨(h0.live b hb).1, kn b (h0.live b hb).2.1, (h0.live b hb).2.2⟩, hb, fun b n => kn b (h0.there b n), h0.grow, h0.old, fun b z => kn b (h0.zl b z)⟩
  obtain ⟨F', s, m⟩ := Sep.perm (B := B) (K := K) (Z := Z) (H := upd H p o) (l := (.ref p, .mu none (.dt d)) :: (pack σ η ++ τ)) (l' := pack σ η ++ (.ref p, .mu none (.dt d)) :: τ) List.perm_middle.symm (F := [p] ++ F0) ⟨[p], F0, ⟨⟨p, rfl, rfl, hd⟩, mine1 nh0⟩, h1.sep, by simpa using nf, rfl⟩
  refine ⟨F', h1.slots, s, fun b hb => ?_, h1.base, h1.there, h1.grow, h1.old, h1.zl⟩
  rcases List.mem_append.mp ((m b).mp hb) with q | q
  · have : b = p := by simpa using q
    subst this
    exact ⟨nz, by rw [upd_same]; simp, .inl nh0⟩
  · exact h1.live b q
/-- a new frozen object -/
theorem Ok.newZ (h : Ok B K Z H σ η τ) {p : Addr} (hp : H p = none) (o : HO) : Ok B K (fun b => Z b ∨ b = p) (upd H p o) σ η τ :=
  h.ext (upd_keep hp) (fun _ z => .inl z) fun b z => z.imp id fun q => by subst q; exact ⟨hp, by rw [upd_same]; simp⟩
/-- one's own is frozen -/
theorem Ok.freeze {v : V} {d : Dt} (h : Ok B K Z H σ η ((v, .mu none (.dt d)) :: τ)) : ∃ Z' : Zs, (∀ b, Z b → Z' b) ∧ Ok B K Z' H σ η ((v, .val d) :: τ) := by
  obtain ⟨F, h0⟩ := id h
  obtain ⟨F', s, m⟩ := h0.sep.perm (l' := (v, .mu none (.dt d)) :: (pack σ η ++ τ)) List.perm_middle
  obtain ⟨F1, F2, ⟨⟨a, e1, e2, e4⟩, e3⟩, s2, dis, eF⟩ := s
  subst e2
  have e3' : B.H0 a = none := e3 a e1
  have z1 : ∀ b, Z b → (Z b ∨ b = a) := fun _ z => .inl z
  have keep : ∀ b u, (Z b ∨ b ∈ F2) → H b = some u → H b = some u := fun _ _ _ e => e
  have hF2 : ∀ b ∈ F2, b ∈ F := fun b hb => (m b).mp (by rw [eF]; exact List.mem_append_right _ hb)
  have h1 : OkF B K (fun b => Z b ∨ b = a) H σ η τ F2 := by
    refine ⟨h0.slots, s2.mono h0.base h0.base z1 keep, fun b hb => ?_, h0.base, h0.there, fun b z => ?_, fun b z => .inl (h0.old b z), fun b z => ?_⟩
    · obtain ⟨l1, l2, l3⟩ := h0.live b (hF2 b hb)
      exact ⟨fun z => z.elim l1 fun q => dis a (by simp) (q ▸ hb), l2, l3⟩
    · rcases z with z | z
      · exact h0.grow b z
      · subst z; exact .inr e3'
    · rcases z with z | z
      · exact h0.zl b z
      · subst z
        obtain ⟨o, q⟩ := e4.there
        rw [q]; simp
  refine ⟨_, z1, (show Ok _ _ _ _ _ _ _ from ⟨F2, h1⟩).val ?_⟩
  have e1 : v = .ref a := e1
  rw [e1]
  exact (e4.mono z1 fun _ _ _ e => e).rp (.inr rfl)
/-- what one may write is written -/
theorem Ok.write {a : Addr} {p : Option Nat} {d d' : Dt} {o : HO} (h : Ok B K Z H σ η ((.ref a, .mu p (.dt d)) :: τ)) (hd : OwnAt K Z (upd H a o) a d') : Ok B K Z (upd H a o) σ η ((.ref a, .mu p (.dt d')) :: τ) := by
  obtain ⟨F, h0⟩ := id h
  obtain ⟨F', s, m⟩ := h0.sep.perm (l' := (.ref a, .mu p (.dt d)) :: (pack σ η ++ τ)) List.perm_middle
  obtain ⟨F1, F2, ⟨⟨a', e1, e2, e4⟩, e3⟩, s2, dis, eF⟩ := s
  cases e1
  subst e2
  have hF : ∀ b, b ∈ a :: F2 → b ∈ F := fun b hb => (m b).mp (by rw [eF]; simpa using hb)
  obtain ⟨la1, la2, la3⟩ := h0.live a (hF a (by simp))
  have oth : ∀ b, b ≠ a → upd H a o b = H b := fun b hb => upd_ne hb
  have hb : Bs B (upd H a o) := fun b u e n => by
    rw [oth b ?_]
    · exact h0.base b u e n
    · intro q
      subst q
      rcases la3 with q | q
      · rw [e] at q; cases q
      · exact n q
  have kn : ∀ b, H b ≠ none → upd H a o b ≠ none := fun b n => by
    by_cases q : b = a
    · subst q; rw [upd_same]; simp
    · rw [oth b q]; exact n
  have s3 : Sep B K Z (upd H a o) (pack σ η ++ τ) F2 := s2.mono h0.base hb (fun _ z => z) fun b u hz e => by
    rw [oth b ?_]
    · exact e
    · intro q
      subst q
      rcases hz with z | z
      · exact la1 z
      · exact dis b (by simp) z
  obtain ⟨F3, s4, m4⟩ := Sep.perm (B := B) (K := K) (Z := Z) (H := upd H a o) (l := (.ref a, .mu p (.dt d')) :: (pack σ η ++ τ)) (l' := pack σ η ++ (.ref a, .mu p (.dt d')) :: τ) List.perm_middle.symm (F := [a] ++ F2) ⟨[a], F2, ⟨⟨a, rfl, rfl, hd⟩, e3⟩, s3, dis, rfl⟩
  refine ⟨F3, h0.slots, s4, fun b hb => ?_, hb, fun b n => kn b (h0.there b n), h0.grow, h0.old, fun b z => kn b (h0.zl b z)⟩
  obtain ⟨l1, l2, l3⟩ := h0.live b (hF b (by simpa using (m4 b).mp hb))
  exact ⟨l1, kn b l2, l3⟩
/-- the frozen stand where one's own is written -/
theorem Ok.notZ {v : V} {p : Option Nat} {d : Dt} (h : Ok B K Z H σ η ((v, .mu p (.dt d)) :: τ)) : ∃ a, v = .ref a ∧ ¬ Z a ∧ OwnAt K Z H a d := by
  obtain ⟨F, h0⟩ := id h
  obtain ⟨F1, e1, e2⟩ := h0.sep.mem (p := (v, .mu p (.dt d))) (by simp)
  obtain ⟨⟨a', g1, g2, g4⟩, g3⟩ := e1
  exact ⟨a', g1, (h0.live a' (e2 a' (by rw [g2]; simp))).1, g4⟩
theorem RpAll.write {a : Addr} (nz : ¬ Z a) {o : HO} {vs : List V} {ds : List Dt} (h : RpAll K Z H vs ds) : RpAll K Z (upd H a o) vs ds :=
  h.mono (fun _ z => z) fun b u z e => by
    have hb : b ≠ a := fun q => by subst q; exact nz z
    rw [upd_ne hb]; exact e
theorem Rp.write {a : Addr} (nz : ¬ Z a) {o : HO} {v : V} {d : Dt} (h : Rp K Z H v d) : Rp K Z (upd H a o) v d :=
  h.mono (fun _ z => z) fun b u z e => by
    have hb : b ≠ a := fun q => by subst q; exact nz z
    rw [upd_ne hb]; exact e
theorem RpAll.new {p : Addr} (hp : H p = none) {o : HO} {vs : List V} {ds : List Dt} (h : RpAll K Z H vs ds) : RpAll K (fun b => Z b ∨ b = p) (upd H p o) vs ds :=
  h.mono (fun _ z => .inl z) fun b u _ e => upd_keep hp b u e
theorem RpAll.new' {p : Addr} (hp : H p = none) {o : HO} {vs : List V} {ds : List Dt} (h : RpAll K Z H vs ds) : RpAll K Z (upd H p o) vs ds :=
  h.mono (fun _ z => z) fun b u _ e => upd_keep hp b u e
end

/-! ### values of expressions -/
inductive Vl where
  | d (x : Dt)
  | nw (x : Dt)
  | sl (i : Nat)
  | gh (i : Nat) (p : Addr)
  | nc (c : Ct)
def tmp : List Vl → List V → List (V × En)
  | .d x :: r, v :: vs => (v, .val x) :: tmp r vs
  | .nw x :: r, v :: vs => (v, .mu none (.dt x)) :: tmp r vs
  | .sl _ :: r, _ :: vs => tmp r vs
  | .gh _ _ :: r, _ :: vs => tmp r vs
  | .nc c :: r, v :: vs => (v, .mu none c) :: tmp r vs
  | _, _ => []
def Ali (σ : L2.St) : List Vl → List V → Prop
  | [], [] => True
  | .sl i :: r, v :: vs => σ[i]? = some (some v) ∧ Ali σ r vs
  | .d _ :: r, _ :: vs => Ali σ r vs
  | .nw _ :: r, _ :: vs => Ali σ r vs
  | .gh _ p :: r, v :: vs => v = .ref p ∧ Ali σ r vs
  | .nc _ :: r, _ :: vs => Ali σ r vs
  | _, _ => False
def OkV (B : Base) (K : PySem.W.Frag) (Z : Zs) (H : Hp) (σ : L2.St) (η : Env) (τ : List (V × En)) (xs : List Vl) (vs : List V) : Prop := Ali σ xs vs ∧ Ok B K Z H σ η (tmp xs vs ++ τ)
theorem tmp_append : ∀ {xs ys : List Vl} {vs ws : List V} {σ : L2.St}, Ali σ xs vs → tmp (xs ++ ys) (vs ++ ws) = tmp xs vs ++ tmp ys ws
  | [], ys, [], ws, _, _ => rfl
  | .sl i :: r, ys, v :: vs, ws, σ, h => tmp_append (xs := r) (vs := vs) h.2
  | .d x :: r, ys, v :: vs, ws, σ, h => congrArg (List.cons _) (tmp_append (xs := r) (vs := vs) h)
  | .nw x :: r, ys, v :: vs, ws, σ, h => congrArg (List.cons _) (tmp_append (xs := r) (vs := vs) h)
  | .gh i p :: r, ys, v :: vs, ws, σ, h => tmp_append (xs := r) (vs := vs) h.2
  | .nc x :: r, ys, v :: vs, ws, σ, h => congrArg (List.cons _) (tmp_append (xs := r) (vs := vs) h)
  | [], _, _ :: _, _, _, h => h.elim
  | .sl _ :: _, _, [], _, _, h => h.elim
  | .d _ :: _, _, [], _, _, h => h.elim
  | .nw _ :: _, _, [], _, _, h => h.elim
  | .gh _ _ :: _, _, [], _, _, h => h.elim
  | .nc _ :: _, _, [], _, _, h => h.elim
theorem Ali.append : ∀ {xs ys : List Vl} {vs ws : List V} {σ : L2.St}, Ali σ xs vs → Ali σ ys ws → Ali σ (xs ++ ys) (vs ++ ws)
  | [], ys, [], ws, _, _, h => h
  | .sl i :: r, ys, v :: vs, ws, σ, h, h' => ⟨h.1, Ali.append h.2 h'⟩
  | .d x :: r, ys, v :: vs, ws, σ, h, h' => Ali.append (xs := r) (vs := vs) h h'
  | .nw x :: r, ys, v :: vs, ws, σ, h, h' => Ali.append (xs := r) (vs := vs) h h'
  | .gh i p :: r, ys, v :: vs, ws, σ, h, h' => ⟨h.1, Ali.append (xs := r) (vs := vs) h.2 h'⟩
  | .nc x :: r, ys, v :: vs, ws, σ, h, h' => Ali.append (xs := r) (vs := vs) h h'
  | [], _, _ :: _, _, _, h, _ => h.elim
  | .sl _ :: _, _, [], _, _, h, _ => h.elim
  | .d _ :: _, _, [], _, _, h, _ => h.elim
  | .nw _ :: _, _, [], _, _, h, _ => h.elim
  | .gh _ _ :: _, _, [], _, _, h, _ => h.elim
  | .nc _ :: _, _, [], _, _, h, _ => h.elim
theorem Ali.length : ∀ {xs : List Vl} {vs : List V} {σ : L2.St}, Ali σ xs vs → xs.length = vs.length
  | [], [], _, _ => rfl
  | .sl i :: r, v :: vs, σ, h => congrArg (· + 1) (Ali.length h.2)
  | .d x :: r, v :: vs, σ, h => congrArg (· + 1) (Ali.length (xs := r) (vs := vs) h)
  | .nw x :: r, v :: vs, σ, h => congrArg (· + 1) (Ali.length (xs := r) (vs := vs) h)
  | .gh i p :: r, v :: vs, σ, h => congrArg (· + 1) (Ali.length (xs := r) (vs := vs) h.2)
  | .nc x :: r, v :: vs, σ, h => congrArg (· + 1) (Ali.length (xs := r) (vs := vs) h)
  | [], _ :: _, _, h => h.elim
  | .sl _ :: _, [], _, h => h.elim
  | .d _ :: _, [], _, h => h.elim
  | .nw _ :: _, [], _, h => h.elim
  | .gh _ _ :: _, [], _, h => h.elim
  | .nc _ :: _, [], _, h => h.elim

abbrev RE := Env → (Vl → Env → Prop) → Prop
abbrev RA := Env → (List Vl → Env → Prop) → Prop
abbrev RT := Env → (Bool → Env → Prop) → Prop
/-- an exception's own dict -/
def XdOk (K : PySem.W.Frag) (Z : Zs) (H : Hp) (d : Option Addr) (fs : List (Str × Dt)) : Prop :=
  (d = none ∧ fs = []) ∨ ∃ (a : Addr) (ns : List Str) (vs : List V) (ds : List Dt), d = some a ∧ fs = ns.zip ds ∧ ns.length = vs.length ∧ Z a ∧ H a = some (.xd (ns.zip vs)) ∧ RpAll K Z H vs ds
/-- what is wished of an exception: over the heap, by value -/
structure Wsh where
  W : Value → Option Addr → L2.St → Hp → Prop
  w : Addr → List (Str × Dt) → Env → Prop
abbrev W0 : Wsh := ⟨fun _ _ _ _ => False, fun _ _ _ => False⟩
def Lk (B : Base) (K : PySem.W.Frag) (X : Wsh) (τ : List (V × En)) : Prop := ∀ C fs η Z H σ d, X.w C fs η → Ok B K Z H σ η τ → XdOk K Z H d fs → X.W (.ref C) d σ H
theorem Lk.cons {B : Base} {K : PySem.W.Frag} {X : Wsh} {τ : List (V × En)} (h : Lk B K X τ) {p : V × En} : Lk B K X (p :: τ) := fun C fs η Z H σ d w o x => h C fs η Z H σ d w o.drop x
theorem Lk.app {B : Base} {K : PySem.W.Frag} {X : Wsh} {τ : List (V × En)} (h : Lk B K X τ) {δ : List (V × En)} : Lk B K X (δ ++ τ) := fun C fs η Z H σ d w o x => h C fs η Z H σ d w o.drops x
theorem Lk.none {B : Base} {K : PySem.W.Frag} {τ : List (V × En)} : Lk B K W0 τ := fun C fs η Z H σ d w o x => w
/-- a hand reading keeps a reading by value -/
structure DE (K : PySem.W.Frag) (X : Wsh) (t : TE) (r : RE) : Prop where
  mono : ∀ η (Q Q' : Vl → Env → Prop), (∀ x η', Q x η' → Q' x η') → r η Q → r η Q'
  run : ∀ (B : Base) (Z : Zs) (H : Hp) (σ : L2.St) (η : Env) (τ : List (V × En)) (P : VK), Lk B K X τ → Ok B K Z H σ η τ → r η (fun x η' => ∀ Z' H' v, OkV B K Z' H' σ η' τ [x] [v] → P v H') → t σ H P
structure DA (K : PySem.W.Frag) (X : Wsh) (t : TA) (r : RA) : Prop where
  mono : ∀ η (Q Q' : List Vl → Env → Prop), (∀ x η', Q x η' → Q' x η') → r η Q → r η Q'
  run : ∀ (B : Base) (Z : Zs) (H : Hp) (σ : L2.St) (η : Env) (τ : List (V × En)) (P : List V → Hp → Prop), Lk B K X τ → Ok B K Z H σ η τ → r η (fun xs η' => ∀ Z' H' vs, OkV B K Z' H' σ η' τ xs vs → P vs H') → t σ H P
structure DT (K : PySem.W.Frag) (X : Wsh) (t : TT) (r : RT) : Prop where
  mono : ∀ η (Q Q' : Bool → Env → Prop), (∀ x η', Q x η' → Q' x η') → r η Q → r η Q'
  run : ∀ (B : Base) (Z : Zs) (H : Hp) (σ : L2.St) (η : Env) (τ : List (V × En)) (P : Bool → Hp → Prop), Lk B K X τ → Ok B K Z H σ η τ → r η (fun b η' => ∀ Z' H', Ok B K Z' H' σ η' τ → P b H') → t σ H P
structure EndsD where
  nx : Env → Prop
  rt : Vl → Env → Prop
  bk : Env → Prop := fun _ => False
  ct : Env → Prop := fun _ => False
structure EndsD.Le (D D' : EndsD) : Prop where
  nx : ∀ η, D.nx η → D'.nx η
  rt : ∀ x η, D.rt x η → D'.rt x η
  bk : ∀ η, D.bk η → D'.bk η
  ct : ∀ η, D.ct η → D'.ct η
theorem EndsD.Le.rfl' (D : EndsD) : D.Le D := ⟨fun _ h => h, fun _ _ h => h, fun _ h => h, fun _ h => h⟩
abbrev RS := EndsD → Env → Prop
def lft (B : Base) (K : PySem.W.Frag) (τ : List (V × En)) (E : Ends) : EndsD where
  nx := fun η => ∀ Z H σ, Ok B K Z H σ η τ → E.nx σ H
  rt := fun x η => ∀ Z H σ v, OkV B K Z H σ η τ [x] [v] → E.rt v H
  bk := fun η => ∀ Z H σ, Ok B K Z H σ η τ → E.bk σ H
  ct := fun η => ∀ Z H σ, Ok B K Z H σ η τ → E.ct σ H
structure DS (K : PySem.W.Frag) (X : Wsh) (t : TS) (r : RS) : Prop where
  mono : ∀ η (D D' : EndsD), D.Le D' → r D η → r D' η
  run : ∀ (B : Base) (Z : Zs) (H : Hp) (σ : L2.St) (η : Env) (τ : List (V × En)) (E : Ends), Lk B K X τ → Ok B K Z H σ η τ → r (lft B K τ E) η → t E σ H
end D

set_option Elab.async false
set_option linter.all false
set_option maxRecDepth 100000
set_option maxHeartbeats 4000000
namespace D
open PySem PySem.Spec PyProof.Rows L2

section
variable {B : Base} {K : PySem.W.Frag} {Z Z' : Zs} {H H' : Hp} {σ : L2.St} {η η' : Env} {τ τ' : List (V × En)}
/-! ### values -/
theorem OkV.of (h : Ok B K Z H σ η τ) : OkV B K Z H σ η τ [] [] := ⟨trivial, h⟩
theorem OkV.ok {xs : List Vl} {vs : List V} (h : OkV B K Z H σ η τ xs vs) : Ok B K Z H σ η τ := h.2.drops
theorem OkV.d (h : Ok B K Z H σ η τ) {v : V} {x : Dt} (r : Rp K Z H v x) : OkV B K Z H σ η τ [.d x] [v] := ⟨trivial, h.val r⟩
theorem OkV.nw {v : V} {x : Dt} (h : Ok B K Z H σ η ((v, .mu none (.dt x)) :: τ)) : OkV B K Z H σ η τ [.nw x] [v] := ⟨trivial, h⟩
theorem OkV.app {xs ys : List Vl} {vs ws : List V} (h : Ali σ xs vs) (h' : OkV B K Z H σ η (tmp xs vs ++ τ) ys ws) : OkV B K Z H σ η τ (xs ++ ys) (vs ++ ws) := by
  refine ⟨h.append h'.1, ?_⟩
  rw [tmp_append h]
  refine h'.2.perm ?_
  rw [← List.append_assoc]
  exact List.Perm.append_right _ List.perm_append_comm
theorem OkV.cons {x : Vl} {ys : List Vl} {v : V} {ws : List V} (h : Ali σ [x] [v]) (h' : OkV B K Z H σ η (tmp [x] [v] ++ τ) ys ws) : OkV B K Z H σ η τ (x :: ys) (v :: ws) := OkV.app h h'
theorem OkV.inv {xs : List Vl} {vs : List V} (h : OkV B K Z H σ η τ xs vs) : xs.length = vs.length := h.1.length
theorem OkV.head {x : Vl} {xs : List Vl} {v : V} {vs : List V} (h : OkV B K Z H σ η τ (x :: xs) (v :: vs)) : OkV B K Z H σ η (tmp xs vs ++ τ) [x] [v] := by
  obtain ⟨a, o⟩ := h
  cases x with
  | d x => exact ⟨trivial, o⟩
  | nw x => exact ⟨trivial, o⟩
  | sl i => exact ⟨⟨a.1, trivial⟩, o⟩
  | gh i p => exact ⟨⟨a.1, trivial⟩, o⟩
  | nc x => exact ⟨trivial, o⟩
theorem OkV.tail {x : Vl} {xs : List Vl} {v : V} {vs : List V} (h : OkV B K Z H σ η τ (x :: xs) (v :: vs)) : OkV B K Z H σ η (tmp [x] [v] ++ τ) xs vs := by
  obtain ⟨a, o⟩ := h
  cases x with
  | d x => exact ⟨a, o.perm (List.perm_middle (l₁ := tmp xs vs) (l₂ := τ)).symm⟩
  | nw x => exact ⟨a, o.perm (List.perm_middle (l₁ := tmp xs vs) (l₂ := τ)).symm⟩
  | sl i => exact ⟨a.2, o⟩
  | gh i p => exact ⟨a.2, o⟩
  | nc x => exact ⟨a, o.perm (List.perm_middle (l₁ := tmp xs vs) (l₂ := τ)).symm⟩

/-- a thing within a thing's own -/
def gfind (p : Addr) : List (Addr × Dt) → Option Dt
  | [] => none
  | (q, d) :: r => if q = p then some d else gfind p r
theorem gfind_mem {p : Addr} {d : Dt} : ∀ {g : List (Addr × Dt)}, gfind p g = some d → (p, d) ∈ g
  | [], h => nomatch h
  | (q, x) :: r, h => by
    unfold gfind at h
    split at h
    · rename_i e; cases h; rw [e]; exact List.mem_cons_self ..
    · exact List.mem_cons_of_mem _ (gfind_mem h)
/-- what a value is now -/
def look (η : Env) : Vl → Option Dt
  | .d x => some x
  | .nw x => some x
  | .sl i => match η[i]? with
    | some (some (.mu _ (.dt x))) => some x
    | some (some (.mu _ (.hp x _))) => some x
    | some (some (.bor x)) => some x
    | some (some (.lb _ x)) => some x
    | _ => none
  | .gh i p => match η[i]? with
    | some (some (.mu _ (.hp _ g))) => gfind p g
    | _ => none
  | .nc c => match c with
    | .dt d => some d
    | _ => none
def See (K : PySem.W.Frag) (Z : Zs) (H : Hp) (v : V) : Dt → Prop
  | .non => v = .non
  | .bl b => v = .bl b
  | .int i => v = .int i
  | .str x => v = .str x
  | .byt x => v = .byt x
  | .ty x => v = .ty x
  | .ref a => v = .ref a
  | .exn a d C fs => v = .ref a ∧ ((d = none ∧ fs = []) ∨ ∃ (dd : Addr) (ns : List Str) (vs : List V) (ds : List Dt), d = some dd ∧ fs = ns.zip ds ∧ ns.length = vs.length ∧ Z dd ∧ H dd = some (.xd (ns.zip vs)) ∧ RpAll K Z H vs ds)
  | .lst ds => ∃ a vs, v = .ref a ∧ SqL K H a vs ∧ RpAll K Z H vs ds
  | .tup ds => ∃ a vs, v = .ref a ∧ SqT K H a vs ∧ RpAll K Z H vs ds
  | .dct kvs => ∃ (a : Addr) (ks : List Key) (vs : List V) (ds : List Dt), v = .ref a ∧ kvs = ks.zip ds ∧ ks.length = vs.length ∧ Rd H a (.dK (ks.zip vs)) ∧ RpAll K Z H vs ds
  | .ins C fs => ∃ (a dx : Addr) (ns : List Str) (vs : List V) (ds : List Dt), v = .ref a ∧ fs = ns.zip ds ∧ ns.length = vs.length ∧ H a = some (.ins C dx (ns.zip vs)) ∧ RpAll K Z H vs ds
theorem Rp.see {v : V} {d : Dt} (h : Rp K Z H v d) : See K Z H v d := by
  cases h with
  | non => rfl
  | bl b => rfl
  | int b => rfl
  | str b => rfl
  | byt b => rfl
  | ty b => rfl
  | ref b => rfl
  | lst z h r => exact ⟨_, _, rfl, .inl (.inl h), r⟩
  | tup h r => exact ⟨_, _, rfl, h.imp (fun q => q.2) id, r⟩
  | dct z h l r => exact ⟨_, _, _, _, rfl, rfl, l, h, r⟩
  | ins z h l r => exact ⟨_, _, _, _, _, rfl, rfl, l, h, r⟩
  | exn0 a C => exact ⟨rfl, .inl ⟨rfl, rfl⟩⟩
  | exn1 a C z h l r => exact ⟨rfl, .inr ⟨_, _, _, _, rfl, rfl, l, z, h, r⟩⟩
theorem OwnAt.see {a : Addr} {d : Dt} (h : OwnAt K Z H a d) : See K Z H (.ref a) d := by
  cases d with
  | lst ds => obtain ⟨vs, e1, e2⟩ := h; exact ⟨a, vs, rfl, .inl (.inl e1), e2⟩
  | dct kvs => obtain ⟨ks, vs, ds, e0, e1, e2, e3⟩ := h; exact ⟨a, ks, vs, ds, rfl, e0, e1, .inl e2, e3⟩
  | ins C fs => obtain ⟨dx, ns, vs, ds, e0, e1, e2, e3⟩ := h; exact ⟨a, dx, ns, vs, ds, rfl, e0, e1, e2, e3⟩
  | non => exact h.elim
  | bl b => exact h.elim
  | int b => exact h.elim
  | str b => exact h.elim
  | byt b => exact h.elim
  | ty b => exact h.elim
  | tup b => exact h.elim
  | ref b => exact h.elim
  | exn a d C fs => exact h.elim
theorem BorAt.see {a : Addr} {d : Dt} (h : BorAt K Z H a d) : See K Z H (.ref a) d := by
  rcases h with h | ⟨o, vs, ds, rfl, h, r⟩ | ⟨o, ks, vs, ds, rfl, l, h, r⟩
  · exact h.see
  · exact ⟨a, vs, rfl, .inl (.inr ⟨o, h⟩), r⟩
  · exact ⟨a, ks, vs, ds, rfl, rfl, l, .inr ⟨o, h⟩, r⟩
theorem BRp.see {v : V} {d : Dt} (h : BRp K Z H v d) : See K Z H v d := by
  rcases h with h | ⟨a, vs, ds, rfl, rfl, k, r⟩
  · exact h.see
  · exact ⟨a, vs, rfl, .inr k, r⟩
theorem EnOk.see {v : V} {F : List Addr} {e : En} {d : Dt} (h : EnOk B K Z H v F e) (hd : e = .val d ∨ (∃ p, e = .mu p (.dt d)) ∨ (∃ p g, e = .mu p (.hp d g)) ∨ e = .bor d) : See K Z H v d := by
  rcases hd with rfl | ⟨p, rfl⟩ | ⟨p, g, rfl⟩ | rfl
  · exact h.2.see
  · obtain ⟨⟨a, e1, _, e4⟩, _⟩ := h
    rw [e1]
    exact e4.see
  · obtain ⟨⟨a, e1, _, _, e4, _⟩, _⟩ := h
    rw [e1]
    exact e4.see
  · rcases h.2 with r | ⟨a, e1, _, _, r⟩
    · exact r.see
    · rw [e1]; exact r.see
theorem EnOk.seeB {v : V} {F : List Addr} {a : Addr} {d : Dt} (h : EnOk B K Z H v F (.lb a d)) (hb : Bs B H) : v = .ref a ∧ BorAt K Z H a d ∧ (∃ o, B.H0 a = some o) ∧ a ∉ B.F0 := h.elim
theorem EnOk.seeG {v : V} {F : List Addr} {o : Option Nat} {d e : Dt} {g : List (Addr × Dt)} {p : Addr} (h : EnOk B K Z H v F (.mu o (.hp d g))) (hp : gfind p g = some e) : p ∈ F ∧ OwnAt K Z H p e := by
  obtain ⟨⟨a, e1, e2, _, e4, e5⟩, _⟩ := h
  have m := gfind_mem hp
  exact ⟨by rw [e2]; exact List.mem_cons_of_mem _ (List.mem_map.mpr ⟨_, m, rfl⟩), e5 _ m⟩
theorem look_sl {η : Env} {i : Nat} {d : Dt} (h : look η (.sl i) = some d) : (∃ p, η[i]? = some (some (.mu p (.dt d)))) ∨ (∃ p g, η[i]? = some (some (.mu p (.hp d g)))) ∨ η[i]? = some (some (.bor d)) ∨ ∃ a, η[i]? = some (some (.lb a d)) := by
  unfold look at h
  simp only at h
  split at h
  · rename_i p x e; cases h; exact .inl ⟨p, e⟩
  · rename_i p x g e; cases h; exact .inr (.inl ⟨p, g, e⟩)
  · rename_i x e; cases h; exact .inr (.inr (.inl e))
  · rename_i a x e; cases h; exact .inr (.inr (.inr ⟨a, e⟩))
  · cases h
theorem look_gh {η : Env} {i : Nat} {p : Addr} {d : Dt} (h : look η (.gh i p) = some d) : ∃ o x g, η[i]? = some (some (.mu o (.hp x g))) ∧ gfind p g = some d := by
  unfold look at h
  simp only at h
  split at h
  · rename_i o x g e; exact ⟨o, x, g, e, h⟩
  · cases h
theorem OkV.see {x : Vl} {v : V} {d : Dt} (h : OkV B K Z H σ η τ [x] [v]) (e : look η x = some d) : See K Z H v d := by
  cases x with
  | d y =>
    obtain ⟨F, q⟩ := h.2.head
    cases e
    exact q.see (.inl rfl)
  | nw y =>
    obtain ⟨F, q⟩ := h.2.head
    cases e
    exact q.see (.inr (.inl ⟨_, rfl⟩))
  | sl i =>
    obtain ⟨a, o⟩ := h
    rcases look_sl e with ⟨p, q⟩ | ⟨p, g, q⟩ | q | ⟨a', q⟩
    · obtain ⟨w, hw, o'⟩ := o.take q
      rw [a.1] at hw; cases hw
      obtain ⟨F, q'⟩ := o'.head
      exact q'.see (.inr (.inl ⟨_, rfl⟩))
    · obtain ⟨w, hw, o'⟩ := o.take q
      rw [a.1] at hw; cases hw
      obtain ⟨F, q'⟩ := o'.head
      exact q'.see (.inr (.inr (.inl ⟨_, _, rfl⟩)))
    · obtain ⟨w, hw, o'⟩ := o.take q
      rw [a.1] at hw; cases hw
      obtain ⟨F, q'⟩ := o'.head
      exact q'.see (.inr (.inr (.inr rfl)))
    · obtain ⟨w, hw, o'⟩ := o.take q
      rw [a.1] at hw; cases hw
      obtain ⟨F, q'⟩ := o'.head
      obtain ⟨F0, o0⟩ := o'
      obtain ⟨e1, e2, _⟩ := q'.seeB o0.base
      rw [e1]
      exact e2.see
  | gh i p =>
    obtain ⟨a, o⟩ := h
    obtain ⟨oo, x, g, q, hp⟩ := look_gh e
    obtain ⟨w, hw, o'⟩ := o.take q
    obtain ⟨F, q'⟩ := o'.head
    rw [a.1]
    exact (q'.seeG hp).2.see
  | nc c =>
    obtain ⟨F, q⟩ := h.2.head
    cases c with
    | dt y => cases e; exact q.see (.inr (.inl ⟨_, rfl⟩))
    | hp y g => cases e
inductive SeeAll (K : PySem.W.Frag) (Z : Zs) (H : Hp) : List V → List Dt → Prop
  | nil : SeeAll K Z H [] []
  | cons {v : V} {vs : List V} {d : Dt} {ds : List Dt} : See K Z H v d → SeeAll K Z H vs ds → SeeAll K Z H (v :: vs) (d :: ds)
def looks (η : Env) : List Vl → Option (List Dt)
  | [] => some []
  | x :: r => match look η x, looks η r with
    | some d, some ds => some (d :: ds)
    | _, _ => none
theorem OkV.sees : ∀ {xs : List Vl} {vs : List V} {ds : List Dt}, OkV B K Z H σ η τ xs vs → looks η xs = some ds → SeeAll K Z H vs ds := by
  intro xs
  induction xs generalizing τ with
  | nil =>
    intro vs ds h e
    cases e
    cases vs with
    | nil => exact .nil
    | cons _ _ => exact h.1.elim
  | cons x r ih =>
    intro vs ds h e
    cases vs with
    | nil => have := h.inv; simp at this
    | cons v vs =>
      unfold looks at e
      cases e1 : look η x with
      | none => rw [e1] at e; cases e
      | some d =>
        cases e2 : looks η r with
        | none => rw [e1, e2] at e; cases e
        | some ds' =>
          rw [e1, e2] at e
          cases e
          exact .cons (h.head.see e1) (ih h.tail e2)
/-- the value may be put into a thing that stays -/
def frz (η : Env) : Vl → Option Dt
  | .d x => some x
  | .nw x => some x
  | .sl i => match η[i]? with
    | some (some (.bor .non)) => some .non
    | some (some (.bor (.bl b))) => some (.bl b)
    | some (some (.bor (.int b))) => some (.int b)
    | some (some (.bor (.str b))) => some (.str b)
    | some (some (.bor (.byt b))) => some (.byt b)
    | some (some (.bor (.tup b))) => some (.tup b)
    | some (some (.bor (.ref b))) => some (.ref b)
    | _ => none
  | .gh _ _ => none
  | .nc c => match c with
    | .dt d => some d
    | _ => none
def frzs (η : Env) : List Vl → Option (List Dt)
  | [] => some []
  | x :: r => match frz η x, frzs η r with
    | some d, some ds => some (d :: ds)
    | _, _ => none
theorem frz_sl {η : Env} {i : Nat} {d : Dt} (h : frz η (.sl i) = some d) : η[i]? = some (some (.bor d)) ∧ ∀ a K Z H, ¬ BorAt K Z H a d := by
  unfold frz at h
  simp only at h
  split at h <;> first | (rename_i e; cases h; exact ⟨e, fun a K Z H q => q.elim (fun q => q) fun q => q.elim (fun ⟨_, _, _, q, _⟩ => nomatch q) fun ⟨_, _, _, _, q, _⟩ => nomatch q⟩) | (rename_i b e; cases h; exact ⟨e, fun a K Z H q => q.elim (fun q => q) fun q => q.elim (fun ⟨_, _, _, q, _⟩ => nomatch q) fun ⟨_, _, _, _, q, _⟩ => nomatch q⟩) | cases h
theorem frz_nl {η : Env} {i : Nat} {d : Dt} (h : frz η (.sl i) = some d) : ∀ ds, d ≠ .lst ds := by
  unfold frz at h
  simp only at h
  split at h <;> first | (cases h; exact fun _ z => nomatch z) | cases h
theorem OkV.frz {x : Vl} {v : V} {d : Dt} (h : OkV B K Z H σ η τ [x] [v]) (e : D.frz η x = some d) : ∃ Z' : Zs, (∀ b, Z b → Z' b) ∧ Ok B K Z' H σ η ((v, .val d) :: τ) := by
  cases x with
  | d y => cases e; exact ⟨Z, fun _ z => z, h.2⟩
  | nw y => cases e; exact Ok.freeze h.2
  | gh i p => cases e
  | nc c =>
    cases c with
    | dt y => cases e; exact Ok.freeze h.2
    | hp y g => cases e
  | sl i =>
    obtain ⟨a, o⟩ := h
    obtain ⟨q, nq⟩ := frz_sl e
    obtain ⟨w, hw, o'⟩ := o.take q
    rw [a.1] at hw; cases hw
    obtain ⟨F, _, q'⟩ := o'.head
    rcases q' with (r | ⟨_, _, _, _, r, _⟩) | ⟨a, _, _, _, r⟩
    · exact ⟨Z, fun _ z => z, Ok.val o r⟩
    · exact (frz_nl e _ r).elim
    · exact (nq _ _ _ _ r).elim
def vals (vs : List V) (ds : List Dt) : List (V × En) := (vs.zip ds).map fun p => (p.1, .val p.2)
theorem OkV.frzs : ∀ {xs : List Vl} {vs : List V} {ds : List Dt} {τ : List (V × En)} {Z : Zs}, OkV B K Z H σ η τ xs vs → D.frzs η xs = some ds → ∃ Z' : Zs, (∀ b, Z b → Z' b) ∧ Ok B K Z' H σ η τ ∧ RpAll K Z' H vs ds := by
  intro xs
  induction xs with
  | nil =>
    intro vs ds τ Z h e
    cases e
    cases vs with
    | nil => exact ⟨Z, fun _ z => z, h.2, .nil⟩
    | cons _ _ => exact h.1.elim
  | cons x r ih =>
    intro vs ds τ Z h e
    cases vs with
    | nil => have := h.inv; simp at this
    | cons v vs =>
      unfold D.frzs at e
      cases e1 : D.frz η x with
      | none => rw [e1] at e; cases e
      | some d =>
        cases e2 : D.frzs η r with
        | none => rw [e1, e2] at e; cases e
        | some ds' =>
          rw [e1, e2] at e
          cases e
          obtain ⟨Z1, z1, o1⟩ := h.head.frz e1
          have o2 : OkV B K Z1 H σ η ((v, .val d) :: τ) r vs := by
            refine ⟨?_, o1.perm (List.perm_middle (l₁ := tmp r vs) (l₂ := τ)).symm⟩
            cases x with
            | d _ => exact h.1
            | nw _ => exact h.1
            | sl _ => exact h.1.2
            | gh _ _ => exact h.1.2
            | nc _ => exact h.1
          obtain ⟨Z2, z2, o3, r3⟩ := ih o2 e2
          exact ⟨Z2, fun b z => z2 b (z1 b z), o3.drop, .cons o3.rp r3⟩
end

/-! ### names, constants -/
section
variable {K : PySem.W.Frag} {X : Wsh}
def ofEn (i : Nat) : En → Vl
  | .val d => .d d
  | _ => .sl i
def rVar (i : Nat) : RE := fun η Q => ∃ e, η[i]? = some (some e) ∧ Q (ofEn i e) η
theorem de_var (i : Nat) : DE K X (tVar i) (rVar i) := by
  refine ⟨fun η Q Q' hq ⟨e, he, q⟩ => ⟨e, he, hq _ _ q⟩, ?_⟩
  intro B Z H σ η τ P lk o ⟨e, he, q⟩
  obtain ⟨v, hv, o'⟩ := o.take he
  refine ⟨v, hv, q Z H v ?_⟩
  cases e with
  | val d => exact .d o o'.rp
  | mu p c => exact ⟨⟨hv, trivial⟩, o⟩
  | bor d => exact ⟨⟨hv, trivial⟩, o⟩
  | lb a d => exact ⟨⟨hv, trivial⟩, o⟩
def rC (d : Dt) : RE := fun η Q => Q (.d d) η
theorem de_c {v : V} {d : Dt} (h : ∀ Z H, Rp K Z H v d) : DE K X (tC v) (rC d) := by
  refine ⟨fun η Q Q' hq q => hq _ _ q, ?_⟩
  intro B Z H σ η τ P lk o q
  exact q Z H v (.d o (h Z H))
theorem de_int {i : Int} : DE K X (tC (.int i)) (rC (.int i)) := de_c fun _ _ => .int i
theorem de_str {i : Str} : DE K X (tC (.str i)) (rC (.str i)) := de_c fun _ _ => .str i
theorem de_bl {i : Bool} : DE K X (tC (.bl i)) (rC (.bl i)) := de_c fun _ _ => .bl i
theorem de_non : DE K X (tC .non) (rC .non) := de_c fun _ _ => .non
theorem de_byt {b : Array UInt8} : DE K X (fun _ H Q => Q (.byt b) H) (rC (.byt b)) := by
  refine ⟨fun η Q Q' hq q => hq _ _ q, ?_⟩
  intro B Z H σ η τ P lk o q
  exact q Z H _ (.d o (.byt b))

/-! ### two values, one value -/
abbrev RO2 := Vl → Vl → RE
abbrev RO1 := Vl → RE
abbrev ROs := List Vl → RE
structure D2 (K : PySem.W.Frag) (r : R2) (ro : RO2) : Prop where
  mono : ∀ x y η (Q Q' : Vl → Env → Prop), (∀ x η', Q x η' → Q' x η') → ro x y η Q → ro x y η Q'
  run : ∀ (B : Base) (Z : Zs) (H : Hp) (σ : L2.St) (η : Env) (τ : List (V × En)) (x y : Vl) (v w : V) (P : VK), OkV B K Z H σ η τ [x, y] [v, w] → ro x y η (fun z η' => ∀ Z' H' u, OkV B K Z' H' σ η' τ [z] [u] → P u H') → r v w H P
structure D1 (K : PySem.W.Frag) (r : V → Hp → VK → Prop) (ro : RO1) : Prop where
  mono : ∀ x η (Q Q' : Vl → Env → Prop), (∀ x η', Q x η' → Q' x η') → ro x η Q → ro x η Q'
  run : ∀ (B : Base) (Z : Zs) (H : Hp) (σ : L2.St) (η : Env) (τ : List (V × En)) (x : Vl) (v : V) (P : VK), OkV B K Z H σ η τ [x] [v] → ro x η (fun z η' => ∀ Z' H' u, OkV B K Z' H' σ η' τ [z] [u] → P u H') → r v H P
structure DC (K : PySem.W.Frag) (r : List V → Hp → VK → Prop) (ro : ROs) : Prop where
  mono : ∀ x η (Q Q' : Vl → Env → Prop), (∀ x η', Q x η' → Q' x η') → ro x η Q → ro x η Q'
  run : ∀ (B : Base) (Z : Zs) (H : Hp) (σ : L2.St) (η : Env) (τ : List (V × En)) (xs : List Vl) (vs : List V) (P : VK), OkV B K Z H σ η τ xs vs → ro xs η (fun z η' => ∀ Z' H' u, OkV B K Z' H' σ η' τ [z] [u] → P u H') → r vs H P
structure DM (K : PySem.W.Frag) (r : V → List V → Hp → VK → Prop) (ro : Vl → ROs) : Prop where
  mono : ∀ x xs η (Q Q' : Vl → Env → Prop), (∀ x η', Q x η' → Q' x η') → ro x xs η Q → ro x xs η Q'
  run : ∀ (B : Base) (Z : Zs) (H : Hp) (σ : L2.St) (η : Env) (τ : List (V × En)) (x : Vl) (v : V) (xs : List Vl) (vs : List V) (P : VK), OkV B K Z H σ η τ (x :: xs) (v :: vs) → ro x xs η (fun z η' => ∀ Z' H' u, OkV B K Z' H' σ η' τ [z] [u] → P u H') → r v vs H P
def rOp (ro : RO2) (ra rb : RE) : RE := fun η Q => ra η fun x η1 => rb η1 fun y η2 => ro x y η2 Q
theorem de_op {r : R2} {ro : RO2} {ta tb : TE} {ra rb : RE} (h : D2 K r ro) (ha : DE K X ta ra) (hb : DE K X tb rb) : DE K X (tOp r ta tb) (rOp ro ra rb) := by
  refine ⟨fun η Q Q' hq q => ha.mono _ _ _ (fun x η1 q => hb.mono _ _ _ (fun y η2 q => h.mono _ _ _ _ _ hq q) q) q, ?_⟩
  intro B Z H σ η τ P lk o q
  refine ha.run B Z H σ η τ _ lk o (ha.mono _ _ _ (fun x η1 q Z1 H1 v o1 => ?_) q)
  refine hb.run B Z1 H1 σ η1 _ _ lk.app o1.2 (hb.mono _ _ _ (fun y η2 q Z2 H2 w o2 => ?_) q)
  exact h.run B Z2 H2 σ η2 τ x y v w P (OkV.cons o1.1 o2) q
def rUn (ro : RO1) (ra : RE) : RE := fun η Q => ra η fun x η1 => ro x η1 Q
theorem de_un {r : V → Hp → VK → Prop} {ro : RO1} {ta : TE} {ra : RE} (h : D1 K r ro) (ha : DE K X ta ra) : DE K X (tUn r ta) (rUn ro ra) := by
  refine ⟨fun η Q Q' hq q => ha.mono _ _ _ (fun x η1 q => h.mono _ _ _ _ hq q) q, ?_⟩
  intro B Z H σ η τ P lk o q
  exact ha.run B Z H σ η τ _ lk o (ha.mono _ _ _ (fun x η1 q Z1 H1 v o1 => h.run B Z1 H1 σ η1 τ x v P o1 q) q)
/-! ### arguments -/
def rNil : RA := fun η Q => Q [] η
def rCons (ra : RE) (rr : RA) : RA := fun η Q => ra η fun x η1 => rr η1 fun xs η2 => Q (x :: xs) η2
theorem da_nil : DA K X tNil rNil := ⟨fun η Q Q' hq q => hq _ _ q, fun B Z H σ η τ P lk o q => q Z H [] (.of o)⟩
theorem da_cons {ta : TE} {tr : TA} {ra : RE} {rr : RA} (ha : DE K X ta ra) (hr : DA K X tr rr) : DA K X (tCons ta tr) (rCons ra rr) := by
  refine ⟨fun η Q Q' hq q => ha.mono _ _ _ (fun x η1 q => hr.mono _ _ _ (fun y η2 q => hq _ _ q) q) q, ?_⟩
  intro B Z H σ η τ P lk o q
  refine ha.run B Z H σ η τ _ lk o (ha.mono _ _ _ (fun x η1 q Z1 H1 v o1 => ?_) q)
  refine hr.run B Z1 H1 σ η1 _ _ lk.app o1.2 (hr.mono _ _ _ (fun y η2 q Z2 H2 w o2 => ?_) q)
  exact q Z2 H2 (v :: w) (OkV.cons o1.1 o2)
def rCB (ro : ROs) (ra : RA) : RE := fun η Q => ra η fun xs η1 => ro xs η1 Q
theorem de_cb {r : List V → Hp → VK → Prop} {ro : ROs} {ta : TA} {ra : RA} (h : DC K r ro) (ha : DA K X ta ra) : DE K X (tCB r ta) (rCB ro ra) := by
  refine ⟨fun η Q Q' hq q => ha.mono _ _ _ (fun x η1 q => h.mono _ _ _ _ hq q) q, ?_⟩
  intro B Z H σ η τ P lk o q
  exact ha.run B Z H σ η τ _ lk o (ha.mono _ _ _ (fun x η1 q Z1 H1 v o1 => h.run B Z1 H1 σ η1 τ x v P o1 q) q)
/-- a new tuple, a new list -/
def rTup (ra : RA) : RE := fun η Q => ra η fun xs η1 => ∃ ds, frzs η1 xs = some ds ∧ ds.length ≤ 100000 ∧ Q (.d (.tup ds)) η1
theorem sz {n : Nat} (h : n ≤ 100000) : n ≤ sizeLine := Nat.le_trans h (by decide)
theorem szl {n : Nat} (h : n < 100000) : n < sizeLine := Nat.lt_of_lt_of_le h (by decide)
theorem Ok.newTup {B : Base} {Z : Zs} {H : Hp} {σ : L2.St} {η : Env} {τ : List (V × En)} (o : Ok B K Z H σ η τ) {vs : List V} {ds : List Dt} (r : RpAll K Z H vs ds) {p : Addr} (hp : H p = none) :
    OkV B K (fun b => Z b ∨ b = p) (upd H p (.tup vs)) σ η τ [.d (.tup ds)] [.ref p] :=
  .d (o.newZ hp _) (.tup (.inl ⟨.inr rfl, .inl upd_same⟩) (r.new hp))
theorem Ok.newLst {B : Base} {Z : Zs} {H : Hp} {σ : L2.St} {η : Env} {τ : List (V × En)} (o : Ok B K Z H σ η τ) {vs : List V} {ds : List Dt} (r : RpAll K Z H vs ds) {p : Addr} (hp : H p = none) :
    OkV B K Z (upd H p (.lst vs)) σ η τ [.nw (.lst ds)] [.ref p] :=
  .nw (o.new hp ⟨vs, upd_same, r.new' hp⟩)
theorem de_tup {ta : TA} {ra : RA} (ha : DA K X ta ra) : DE K X (tTup ta) (rTup ra) := by
  refine ⟨fun η Q Q' hq q => ha.mono _ _ _ (fun x η1 ⟨ds, e, l, q⟩ => ⟨ds, e, l, hq _ _ q⟩) q, ?_⟩
  intro B Z H σ η τ P lk o q
  refine ha.run B Z H σ η τ _ lk o (ha.mono _ _ _ (fun xs η1 q Z1 H1 vs o1 => ?_) q)
  obtain ⟨ds, e, l, q⟩ := q
  obtain ⟨Z2, z2, o2, r⟩ := o1.frzs e
  refine ⟨by rw [r.length]; exact sz l, fun p hp => ?_⟩
  exact q _ _ _ (o2.newTup r hp)
def rLst (ra : RA) : RE := fun η Q => ra η fun xs η1 => ∃ ds, frzs η1 xs = some ds ∧ ds.length ≤ 100000 ∧ Q (.nw (.lst ds)) η1
theorem de_lst {ta : TA} {ra : RA} (ha : DA K X ta ra) : DE K X (tLst ta) (rLst ra) := by
  refine ⟨fun η Q Q' hq q => ha.mono _ _ _ (fun x η1 ⟨ds, e, l, q⟩ => ⟨ds, e, l, hq _ _ q⟩) q, ?_⟩
  intro B Z H σ η τ P lk o q
  refine ha.run B Z H σ η τ _ lk o (ha.mono _ _ _ (fun xs η1 q Z1 H1 vs o1 => ?_) q)
  obtain ⟨ds, e, l, q⟩ := q
  obtain ⟨Z2, z2, o2, r⟩ := o1.frzs e
  refine ⟨by rw [r.length]; exact sz l, fun p hp => ?_⟩
  exact q _ _ _ (o2.newLst r hp)
/-! ### tests -/
def rB (ra : RE) : RT := fun η Q => ra η fun x η1 => ∃ b, look η1 x = some (.bl b) ∧ Q b η1
theorem dt_B {ta : TE} {ra : RE} (ha : DE K X ta ra) : DT K X (tB ta) (rB ra) := by
  refine ⟨fun η Q Q' hq q => ha.mono _ _ _ (fun x η1 ⟨b, e, q⟩ => ⟨b, e, hq _ _ q⟩) q, ?_⟩
  intro B Z H σ η τ P lk o q
  refine ha.run B Z H σ η τ _ lk o (ha.mono _ _ _ (fun x η1 q Z1 H1 v o1 => ?_) q)
  obtain ⟨b, e, q⟩ := q
  exact ⟨b, o1.see e, q Z1 H1 o1.ok⟩
theorem dt_test {ta : TE} {ra : RE} (ha : DE K X ta ra) : DT K X (tTest ta) (rB ra) := dt_B ha
def rAnd (r u : RT) : RT := fun η Q => r η fun c η1 => if c = true then u η1 Q else Q false η1
def rOr (r u : RT) : RT := fun η Q => r η fun c η1 => if c = true then Q true η1 else u η1 Q
def rNot (r : RT) : RT := fun η Q => r η fun c η1 => Q (!c) η1
theorem dt_and {t u : TT} {r s : RT} (h1 : DT K X t r) (h2 : DT K X u s) : DT K X (tAnd t u) (rAnd r s) := by
  refine ⟨fun η Q Q' hq q => h1.mono _ _ _ (fun c η1 q => ?_) q, ?_⟩
  · cases c with
    | true => exact h2.mono _ _ _ hq q
    | false => exact hq _ _ q
  intro B Z H σ η τ P lk o q
  refine h1.run B Z H σ η τ _ lk o (h1.mono _ _ _ (fun c η1 q Z1 H1 o1 => ?_) q)
  cases c with
  | true => exact h2.run B Z1 H1 σ η1 τ P lk o1 q
  | false => exact q Z1 H1 o1
theorem dt_or {t u : TT} {r s : RT} (h1 : DT K X t r) (h2 : DT K X u s) : DT K X (tOr t u) (rOr r s) := by
  refine ⟨fun η Q Q' hq q => h1.mono _ _ _ (fun c η1 q => ?_) q, ?_⟩
  · cases c with
    | false => exact h2.mono _ _ _ hq q
    | true => exact hq _ _ q
  intro B Z H σ η τ P lk o q
  refine h1.run B Z H σ η τ _ lk o (h1.mono _ _ _ (fun c η1 q Z1 H1 o1 => ?_) q)
  cases c with
  | false => exact h2.run B Z1 H1 σ η1 τ P lk o1 q
  | true => exact q Z1 H1 o1
theorem dt_not {t : TT} {r : RT} (h1 : DT K X t r) : DT K X (tNot t) (rNot r) :=
  ⟨fun η Q Q' hq q => h1.mono _ _ _ (fun c η1 q => hq _ _ q) q, fun B Z H σ η τ P lk o q => h1.run B Z H σ η τ _ lk o q⟩
def rAndV (ra rb : RE) : RE := fun η Q => ra η fun x η1 => ∃ c, look η1 x = some (.bl c) ∧ if c = true then rb η1 Q else Q (.d (.bl false)) η1
def rOrV (ra rb : RE) : RE := fun η Q => ra η fun x η1 => ∃ c, look η1 x = some (.bl c) ∧ if c = true then Q (.d (.bl true)) η1 else rb η1 Q
def rNotV (ra : RE) : RE := fun η Q => ra η fun x η1 => ∃ c, look η1 x = some (.bl c) ∧ Q (.d (.bl (!c))) η1
theorem de_andV {ta tb : TE} {ra rb : RE} (ha : DE K X ta ra) (hb : DE K X tb rb) : DE K X (tAndV ta tb) (rAndV ra rb) := by
  constructor
  · intro η Q Q' hq q
    refine ha.mono _ _ _ ?_ q
    rintro x η1 ⟨c, e, q⟩
    refine ⟨c, e, ?_⟩
    cases c with
    | true => exact hb.mono _ _ _ hq q
    | false => exact hq _ _ q
  intro B Z H σ η τ P lk o q
  refine ha.run B Z H σ η τ _ lk o (ha.mono _ _ _ (fun x η1 q Z1 H1 v o1 => ?_) q)
  obtain ⟨c, e, q⟩ := q
  refine ⟨c, o1.see e, ?_⟩
  cases c with
  | true => exact hb.run B Z1 H1 σ η1 τ P lk o1.ok q
  | false => exact q Z1 H1 _ (.d o1.ok (.bl _))
theorem de_orV {ta tb : TE} {ra rb : RE} (ha : DE K X ta ra) (hb : DE K X tb rb) : DE K X (tOrV ta tb) (rOrV ra rb) := by
  constructor
  · intro η Q Q' hq q
    refine ha.mono _ _ _ ?_ q
    rintro x η1 ⟨c, e, q⟩
    refine ⟨c, e, ?_⟩
    cases c with
    | false => exact hb.mono _ _ _ hq q
    | true => exact hq _ _ q
  intro B Z H σ η τ P lk o q
  refine ha.run B Z H σ η τ _ lk o (ha.mono _ _ _ (fun x η1 q Z1 H1 v o1 => ?_) q)
  obtain ⟨c, e, q⟩ := q
  refine ⟨c, o1.see e, ?_⟩
  cases c with
  | false => exact hb.run B Z1 H1 σ η1 τ P lk o1.ok q
  | true => exact q Z1 H1 _ (.d o1.ok (.bl _))
theorem de_notV {ta : TE} {ra : RE} (ha : DE K X ta ra) : DE K X (tNotV ta) (rNotV ra) := by
  refine ⟨fun η Q Q' hq q => ha.mono _ _ _ (fun x η1 ⟨c, e, q⟩ => ⟨c, e, hq _ _ q⟩) q, ?_⟩
  intro B Z H σ η τ P lk o q
  refine ha.run B Z H σ η τ _ lk o (ha.mono _ _ _ (fun x η1 q Z1 H1 v o1 => ?_) q)
  obtain ⟨c, e, q⟩ := q
  exact ⟨c, o1.see e, q Z1 H1 _ (.d o1.ok (.bl _))⟩
def rIf (r : RT) (ra rb : RE) : RE := fun η Q => r η fun c η1 => if c = true then ra η1 Q else rb η1 Q
theorem de_if {t : TT} {r : RT} {ta tb : TE} {ra rb : RE} (h : DT K X t r) (ha : DE K X ta ra) (hb : DE K X tb rb) : DE K X (tIf t ta tb) (rIf r ra rb) := by
  refine ⟨fun η Q Q' hq q => h.mono _ _ _ (fun c η1 q => ?_) q, ?_⟩
  · cases c with
    | true => exact ha.mono _ _ _ hq q
    | false => exact hb.mono _ _ _ hq q
  intro B Z H σ η τ P lk o q
  refine h.run B Z H σ η τ _ lk o (h.mono _ _ _ (fun c η1 q Z1 H1 o1 => ?_) q)
  cases c with
  | true => exact ha.run B Z1 H1 σ η1 τ P lk o1 q
  | false => exact hb.run B Z1 H1 σ η1 τ P lk o1 q

/-! ### pure operations: R of the two data and the answer -/
def roP (R : Dt → Dt → Dt → Prop) : RO2 := fun x y η Q => ∃ dx dy d, look η x = some dx ∧ look η y = some dy ∧ R dx dy d ∧ Q (.d d) η
structure P2 (K : PySem.W.Frag) (r : R2) (R : Dt → Dt → Dt → Prop) : Prop where
  run : ∀ (Z : Zs) (H : Hp) (v w : V) (dx dy d : Dt) (P : VK), See K Z H v dx → See K Z H w dy → R dx dy d → (∀ u, Rp K Z H u d → P u H) → r v w H P
theorem OkV.see2 {B : Base} {Z : Zs} {H : Hp} {σ : L2.St} {η : Env} {τ : List (V × En)} {x y : Vl} {v w : V} {dx dy : Dt} (h : OkV B K Z H σ η τ [x, y] [v, w]) (e1 : look η x = some dx) (e2 : look η y = some dy) : See K Z H v dx ∧ See K Z H w dy :=
  ⟨h.head.see e1, h.tail.see e2⟩
theorem d2_P {r : R2} {R : Dt → Dt → Dt → Prop} (h : P2 K r R) : D2 K r (roP R) := by
  refine ⟨fun x y η Q Q' hq ⟨dx, dy, d, e1, e2, e3, q⟩ => ⟨dx, dy, d, e1, e2, e3, hq _ _ q⟩, ?_⟩
  intro B Z H σ η τ x y v w P o ⟨dx, dy, d, e1, e2, e3, q⟩
  obtain ⟨s1, s2⟩ := o.see2 e1 e2
  exact h.run Z H v w dx dy d P s1 s2 e3 fun u ru => q Z H u (.d o.ok ru)
theorem D2.or {r r' : R2} {ro ro' : RO2} (h : D2 K r ro) (h' : D2 K r' ro') : D2 K (fun x y H Q => r x y H Q ∨ r' x y H Q) (fun x y η Q => ro x y η Q ∨ ro' x y η Q) :=
  ⟨fun x y η Q Q' hq q => q.imp (h.mono _ _ _ _ _ hq) (h'.mono _ _ _ _ _ hq), fun B Z H σ η τ x y v w P o q => q.imp (h.run B Z H σ η τ x y v w P o) (h'.run B Z H σ η τ x y v w P o)⟩
theorem P2.or {r r' : R2} {R R' : Dt → Dt → Dt → Prop} (h : P2 K r R) (h' : P2 K r' R') : P2 K (fun x y H Q => r x y H Q ∨ r' x y H Q) (fun x y d => R x y d ∨ R' x y d) :=
  ⟨fun Z H v w dx dy d P s1 s2 q k => q.imp (fun q => h.run Z H v w dx dy d P s1 s2 q k) (fun q => h'.run Z H v w dx dy d P s1 s2 q k)⟩
/-- ints -/
def RI0 (g : Int → Int → Dt) : Dt → Dt → Dt → Prop := fun x y d => ∃ i j, x = .int i ∧ y = .int j ∧ d = g i j
def RI (C : Int → Int → Prop) (g : Int → Int → Dt) : Dt → Dt → Dt → Prop := fun x y d => ∃ i j, x = .int i ∧ y = .int j ∧ C i j ∧ d = g i j
theorem p2_I0 {g : Int → Int → V} {g' : Int → Int → Dt} (h : ∀ Z H i j, Rp K Z H (g i j) (g' i j)) : P2 K (rI0 g) (RI0 g') := by
  refine ⟨fun Z H v w dx dy d P s1 s2 e k => ?_⟩
  obtain ⟨i, j, rfl, rfl, rfl⟩ := e
  exact ⟨i, j, s1, s2, k _ (h Z H i j)⟩
theorem p2_I {C : Int → Int → Prop} {g : Int → Int → V} {g' : Int → Int → Dt} (h : ∀ Z H i j, Rp K Z H (g i j) (g' i j)) : P2 K (rI C g) (RI C g') := by
  refine ⟨fun Z H v w dx dy d P s1 s2 e k => ?_⟩
  obtain ⟨i, j, rfl, rfl, c, rfl⟩ := e
  exact ⟨i, j, s1, s2, c, k _ (h Z H i j)⟩
def iI (f : Int → Int → Int) : Int → Int → Dt := fun i j => .int (f i j)
def iB (f : Int → Int → Bool) : Int → Int → Dt := fun i j => .bl (f i j)
theorem p2_ii {f : Int → Int → Int} : P2 K (rI0 fun i j => .int (f i j)) (RI0 fun i j => .int (f i j)) := p2_I0 fun _ _ _ _ => .int _
theorem p2_ib {f : Int → Int → Bool} : P2 K (rI0 fun i j => .bl (f i j)) (RI0 fun i j => .bl (f i j)) := p2_I0 fun _ _ _ _ => .bl _
theorem p2_ci {C : Int → Int → Prop} {f : Int → Int → Int} : P2 K (rI C fun i j => .int (f i j)) (RI C fun i j => .int (f i j)) := p2_I fun _ _ _ _ => .int _
/-- a chain of two pure comparisons -/
def rChain (R R' : Dt → Dt → Dt → Prop) (ra rb rc : RE) : RE := fun η Q => ra η fun x η1 => rb η1 fun y η2 => ∃ dx dy k, look η2 x = some dx ∧ look η2 y = some dy ∧ R dx dy (.bl k) ∧
  if k = true then rc η2 fun z η3 => ∃ dy' dz d, look η3 y = some dy' ∧ look η3 z = some dz ∧ R' dy' dz d ∧ Q (.d d) η3 else Q (.d (.bl false)) η2
theorem de_chain {r r' : R2} {R R' : Dt → Dt → Dt → Prop} {ta tb tc : TE} {ra rb rc : RE} (h : P2 K r R) (h' : P2 K r' R') (ha : DE K X ta ra) (hb : DE K X tb rb) (hc : DE K X tc rc)
    : DE K X (tChain r r' ta tb tc) (rChain R R' ra rb rc) := by
  constructor
  · intro η Q Q' hq q
    refine ha.mono _ _ _ (fun x η1 q => hb.mono _ _ _ ?_ q) q
    rintro y η2 ⟨dx, dy, k, e1, e2, e3, q⟩
    refine ⟨dx, dy, k, e1, e2, e3, ?_⟩
    cases k with
    | true =>
      refine hc.mono _ _ _ ?_ q
      rintro z η3 ⟨dy', dz, d, e4, e5, e6, q⟩
      exact ⟨dy', dz, d, e4, e5, e6, hq _ _ q⟩
    | false => exact hq _ _ q
  intro B Z H σ η τ P lk o q
  refine ha.run B Z H σ η τ _ lk o (ha.mono _ _ _ (fun x η1 q Z1 H1 v o1 => ?_) q)
  refine hb.run B Z1 H1 σ η1 _ _ lk.app o1.2 (hb.mono _ _ _ ?_ q)
  rintro y η2 ⟨dx, dy, k, e1, e2, e3, q⟩ Z2 H2 w o2
  obtain ⟨s1, s2⟩ := (OkV.cons o1.1 o2).see2 e1 e2
  refine h.run Z2 H2 v w dx dy (.bl k) _ s1 s2 e3 fun u ru => ?_
  refine ⟨k, ru.see, ?_⟩
  cases k with
  | true =>
    refine hc.run B Z2 H2 σ η2 _ _ lk.app.app o2.2 (hc.mono _ _ _ ?_ q)
    rintro z η3 ⟨dy', dz, d, e4, e5, e6, q⟩ Z3 H3 u3 o3
    have o4 := OkV.cons o2.1 o3
    obtain ⟨s3, s4⟩ := o4.see2 e4 e5
    exact h'.run Z3 H3 w u3 dy' dz d P s3 s4 e6 fun u4 r4 => q Z3 H3 u4 (.d o4.ok.drops r4)
  | false => exact q Z2 H2 _ (.d o2.ok.drops (.bl _))

/-! ### statements -/
def rNext : RS := fun D η => D.nx η
theorem ds_next : DS K X tNext rNext := ⟨fun η D D' hd q => hd.nx _ q, fun B Z H σ η τ E lk o q => q Z H σ o⟩
def rBreak : RS := fun D η => D.bk η
def rCont : RS := fun D η => D.ct η
theorem ds_break : DS K X tBreak rBreak := ⟨fun η D D' hd q => hd.bk _ q, fun B Z H σ η τ E lk o q => q Z H σ o⟩
theorem ds_cont : DS K X tCont rCont := ⟨fun η D D' hd q => hd.ct _ q, fun B Z H σ η τ E lk o q => q Z H σ o⟩
def rSeq (r u : RS) : RS := fun D η => r { D with nx := u D } η
theorem ds_seq {t u : TS} {r s : RS} (h1 : DS K X t r) (h2 : DS K X u s) : DS K X (tSeq t u) (rSeq r s) := by
  refine ⟨fun η D D' hd q => h1.mono _ { D with nx := s D } { D' with nx := s D' } ⟨fun η q => h2.mono _ _ _ hd q, hd.rt, hd.bk, hd.ct⟩ q, ?_⟩
  intro B Z H σ η τ E lk o q
  exact h1.run B Z H σ η τ { E with nx := u E } lk o (h1.mono _ { lft B K τ E with nx := s (lft B K τ E) } _ ⟨fun η q Z1 H1 σ1 o1 => h2.run B Z1 H1 σ1 η τ E lk o1 q, fun _ _ h => h, fun _ h => h, fun _ h => h⟩ q)
def rAsg (ra : RE) (i : Nat) : RS := fun D η => ra η fun x η1 => i < η1.length ∧ match x with
  | .d d => D.nx (η1.set i (some (.val d)))
  | .nw d => D.nx (η1.set i (some (.mu none (.dt d))))
  | .nc c => D.nx (η1.set i (some (.mu none c)))
  | .gh _ _ => False
  | .sl j => match frz η1 (.sl j) with
    | some d => D.nx (η1.set i (some (.val d)))
    | none => False
theorem ds_asg {ta : TE} {ra : RE} (ha : DE K X ta ra) (i : Nat) : DS K X (tAsg ta (gName i)) (rAsg ra i) := by
  constructor
  · intro η D D' hd q
    refine ha.mono _ _ _ ?_ q
    rintro x η1 ⟨hi, q⟩
    refine ⟨hi, ?_⟩
    cases x with
    | d x => exact hd.nx _ q
    | nw x => exact hd.nx _ q
    | nc x => exact hd.nx _ q
    | gh _ _ => exact q.elim
    | sl j =>
      simp only at q ⊢
      split at q
      · exact hd.nx _ q
      · exact q.elim
  intro B Z H σ η τ E lk o q
  refine ha.run B Z H σ η τ _ lk o (ha.mono _ _ _ ?_ q)
  rintro x η1 ⟨hi, q⟩ Z1 H1 v o1
  show E.nx (σ.set i (some v)) H1
  cases x with
  | d x => exact q Z1 H1 _ (Ok.store o1.2 hi)
  | nw x => exact q Z1 H1 _ (Ok.store o1.2 hi)
  | nc x => exact q Z1 H1 _ (Ok.store o1.2 hi)
  | gh _ _ => exact q.elim
  | sl j =>
    simp only at q
    split at q
    · rename_i d e
      obtain ⟨Z2, _, o2⟩ := o1.frz e
      exact q Z2 H1 _ (o2.store hi)
    · exact q.elim
def rDrop (ra : RE) : RS := fun D η => ra η fun _ η1 => D.nx η1
theorem ds_drop {ta : TE} {ra : RE} (ha : DE K X ta ra) : DS K X (tDrop ta) (rDrop ra) := by
  refine ⟨fun η D D' hd q => ha.mono _ _ _ (fun x η1 q => hd.nx _ q) q, ?_⟩
  intro B Z H σ η τ E lk o q
  exact ha.run B Z H σ η τ _ lk o (ha.mono _ _ _ (fun x η1 q Z1 H1 v o1 => q Z1 H1 σ o1.ok) q)
def rRet (ra : RE) : RS := fun D η => ra η fun x η1 => D.rt x η1
theorem ds_ret {ta : TE} {ra : RE} (ha : DE K X ta ra) : DS K X (tRet ta) (rRet ra) := by
  refine ⟨fun η D D' hd q => ha.mono _ _ _ (fun x η1 q => hd.rt _ _ q) q, ?_⟩
  intro B Z H σ η τ E lk o q
  exact ha.run B Z H σ η τ _ lk o (ha.mono _ _ _ (fun x η1 q Z1 H1 v o1 => q Z1 H1 σ v o1) q)
def rRetN : RS := fun D η => D.rt (.d .non) η
theorem ds_retN : DS K X tRetN rRetN := ⟨fun η D D' hd q => hd.rt _ _ q, fun B Z H σ η τ E lk o q => q Z H σ _ (.d o .non)⟩
def rIfS (c : RT) (r u : RS) : RS := fun D η => c η fun b η1 => if b = true then r D η1 else u D η1
theorem ds_if {t : TT} {c : RT} {t1 t2 : TS} {r u : RS} (h : DT K X t c) (h1 : DS K X t1 r) (h2 : DS K X t2 u) : DS K X (tIfS t t1 t2) (rIfS c r u) := by
  refine ⟨fun η D D' hd q => h.mono _ _ _ (fun b η1 q => ?_) q, ?_⟩
  · cases b with
    | true => exact h1.mono _ _ _ hd q
    | false => exact h2.mono _ _ _ hd q
  intro B Z H σ η τ E lk o q
  refine h.run B Z H σ η τ _ lk o (h.mono _ _ _ (fun b η1 q Z1 H1 o1 => ?_) q)
  cases b with
  | true => exact h1.run B Z1 H1 σ η1 τ E lk o1 q
  | false => exact h2.run B Z1 H1 σ η1 τ E lk o1 q
def rNever : RS := fun _ _ => False
theorem ds_never : DS K X tNever rNever := ⟨fun _ _ _ _ h => h, fun _ _ _ _ _ _ _ _ _ h => h⟩
end
end D

set_option Elab.async false
set_option linter.all false
set_option maxRecDepth 100000
set_option maxHeartbeats 4000000
namespace D
open PySem PySem.Spec PyProof.Rows L2
theorem pm3 {α : Type} {a b c : List α} : (a ++ (b ++ c)).Perm (b ++ (a ++ c)) := by
  rw [← List.append_assoc, ← List.append_assoc]
  exact List.Perm.append_right _ List.perm_append_comm
section
variable {K : PySem.W.Frag} {X : Wsh} {B : Base} {Z : Zs} {H : Hp} {σ : L2.St} {η : Env} {τ : List (V × En)}
/-! ### what is held for a while -/
def held (η : Env) : Vl → Option Dt
  | .d x => some x
  | .nw x => some x
  | .sl i => match η[i]? with
    | some (some (.bor x)) => some x
    | some (some (.lb _ x)) => some x
    | _ => none
  | .gh _ _ => none
  | .nc _ => none
/-- an entry that bears a datum -/
def Bears (e : En) (d : Dt) : Prop := e = .val d ∨ (∃ p, e = .mu p (.dt d)) ∨ e = .bor d ∨ ∃ a, e = .lb a d
theorem Ok.seeT {v : V} {e : En} {d : Dt} (o : Ok B K Z H σ η ((v, e) :: τ)) (b : Bears e d) : See K Z H v d := by
  obtain ⟨F, q⟩ := o.head
  rcases b with b | b | b | ⟨a, rfl⟩
  · exact q.see (.inl b)
  · exact q.see (.inr (.inl b))
  · exact q.see (.inr (.inr (.inr b)))
  · obtain ⟨F0, o0⟩ := o
    obtain ⟨e1, e2, _⟩ := q.seeB o0.base
    rw [e1]
    exact e2.see
theorem Ok.dupB {v : V} {d : Dt} {a : Addr} {i : Nat} (o : Ok B K Z H σ η τ) (hv : σ[i]? = some (some v)) (he : η[i]? = some (some (.lb a d))) : Ok B K Z H σ η ((v, .lb a d) :: τ) := by
  obtain ⟨w, hw, o'⟩ := o.take he
  obtain ⟨F, q⟩ := o'.head
  exact q.elim
theorem Ok.dup {v : V} {d : Dt} {i : Nat} (o : Ok B K Z H σ η τ) (hv : σ[i]? = some (some v)) (he : η[i]? = some (some (.bor d))) : Ok B K Z H σ η ((v, .bor d) :: τ) := by
  obtain ⟨w, hw, o'⟩ := o.take he
  rw [hv] at hw; cases hw
  obtain ⟨F, h⟩ := o
  obtain ⟨F1, e1, m1⟩ := h.sep.mem (p := (v, .bor d)) (List.mem_append_left _ (by
    obtain ⟨w, hw, p⟩ := pack_take h.slots he
    rw [hv] at hw; cases hw
    exact p.mem_iff.mpr (by simp)))
  have e0 := e1.1
  subst e0
  obtain ⟨F', s, m⟩ := Sep.perm (B := B) (K := K) (Z := Z) (H := H) (l := (v, .bor d) :: (pack σ η ++ τ)) (l' := pack σ η ++ (v, .bor d) :: τ) List.perm_middle.symm (F := F) ⟨[], F, e1, h.sep, by simp, rfl⟩
  exact ⟨F', h.slots, s, fun b hb => h.live b ((m b).mp hb), h.base, h.there, h.grow, h.old, h.zl⟩
theorem OkV.hold {x : Vl} {v : V} {d : Dt} (o : OkV B K Z H σ η τ [x] [v]) (e : held η x = some d) : ∃ en, Bears en d ∧ Ok B K Z H σ η ((v, en) :: τ) := by
  cases x with
  | d y => cases e; exact ⟨_, .inl rfl, o.2⟩
  | nw y => cases e; exact ⟨_, .inr (.inl ⟨_, rfl⟩), o.2⟩
  | gh i p => cases e
  | nc c => cases e
  | sl i =>
    obtain ⟨a, o⟩ := o
    unfold held at e
    simp only at e
    split at e
    · rename_i y q
      cases e
      exact ⟨_, .inr (.inr (.inl rfl)), o.dup a.1 q⟩
    · rename_i a' y q
      cases e
      exact ⟨_, .inr (.inr (.inr ⟨a', rfl⟩)), o.dupB a.1 q⟩
    · cases e
theorem OkV.dropsτ {p : List (V × En)} {xs : List Vl} {vs : List V} (o : OkV B K Z H σ η (p ++ τ) xs vs) : OkV B K Z H σ η τ xs vs :=
  ⟨o.1, Ok.drops (τ' := p) (o.2.perm (by rw [← List.append_assoc, ← List.append_assoc]; exact List.Perm.append_right _ List.perm_append_comm))⟩
theorem OkV.dropτ {p : V × En} {xs : List Vl} {vs : List V} (o : OkV B K Z H σ η (p :: τ) xs vs) : OkV B K Z H σ η τ xs vs :=
  ⟨o.1, (o.2.perm (List.perm_middle (l₁ := tmp xs vs) (l₂ := τ))).drop⟩

/-! ### what a loop walks: its items are told at the start -/
structure IterOk (B : Base) (K : PySem.W.Frag) (J : It) (p : List (V × En)) (ds : List Dt) : Prop where
  go : ∀ (Z : Zs) (H : Hp) (σ : L2.St) (η : Env) (τ : List (V × En)) (i : Nat), Ok B K Z H σ η (p ++ τ) → i < ds.length → J.go i H
  yld : ∀ (Z : Zs) (H : Hp) (σ : L2.St) (η : Env) (τ : List (V × En)) (i : Nat) (x : V) (H' : Hp), Ok B K Z H σ η (p ++ τ) → J.yld i H x H' → i < ds.length → ∃ Z' d, ds[i]? = some d ∧ Ok B K Z' H' σ η ((x, .val d) :: (p ++ τ))
  stop : ∀ (Z : Zs) (H : Hp) (σ : L2.St) (η : Env) (τ : List (V × En)) (i : Nat), Ok B K Z H σ η (p ++ τ) → ds.length ≤ i → J.stop i H
abbrev RI' := Env → (List Dt → Env → Prop) → Prop
structure DI (K : PySem.W.Frag) (X : Wsh) (wi : TI) (r : RI') : Prop where
  mono : ∀ η (Q Q' : List Dt → Env → Prop), (∀ x η', Q x η' → Q' x η') → r η Q → r η Q'
  run : ∀ (B : Base) (Z : Zs) (H : Hp) (σ : L2.St) (η : Env) (τ : List (V × En)) (R : It → Hp → Prop), Lk B K X τ → Ok B K Z H σ η τ →
    r η (fun ds η' => ∀ Z' H' p J, Ok B K Z' H' σ η' (p ++ τ) → IterOk B K J p ds → R J H') → wi σ H R
theorem getlt {α : Type} {l : List α} {i : Nat} (h : i < l.length) : ∃ d, l[i]? = some d := ⟨l[i], by simp [h]⟩
/-- a list -/
def riList (ra : RE) : RI' := fun η Q => ra η fun x η1 => ∃ ds, held η1 x = some (.lst ds) ∧ Q ds η1
theorem iter_list {v : V} {en : En} {a : Addr} {ds : List Dt} (b : Bears en (.lst ds)) (hv : v = .ref a) : IterOk B K (Itl K a) [(v, en)] ds := by
  subst hv
  refine ⟨fun Z H σ η τ i o hi => ?_, fun Z H σ η τ i x H' o y hi => ?_, fun Z H σ η τ i o hi => ?_⟩
  · obtain ⟨a', vs, e, s, r⟩ := o.seeT b
    cases e
    obtain ⟨x, hx⟩ := getlt (l := vs) (i := i) (by rw [r.length]; exact hi)
    exact ⟨vs, x, s, hx⟩
  · obtain ⟨a', vs, e, s, r⟩ := o.seeT b
    cases e
    obtain ⟨e', y⟩ := y
    subst e'
    obtain ⟨d, hd, rd⟩ := r.get' (y vs s)
    exact ⟨Z, d, hd, o.val rd⟩
  · obtain ⟨a', vs, e, s, r⟩ := o.seeT b
    cases e
    exact ⟨vs, s, by rw [r.length]; exact hi⟩
theorem di_list {tl : TE} {ra : RE} (ha : DE K X tl ra) : DI K X (iList K tl) (riList ra) := by
  constructor
  · intro η Q Q' hq q
    refine ha.mono _ _ _ ?_ q
    rintro x η1 ⟨ds, e, q⟩
    exact ⟨ds, e, hq _ _ q⟩
  intro B Z H σ η τ R lk o q
  refine ha.run B Z H σ η τ _ lk o (ha.mono _ _ _ ?_ q)
  rintro x η1 ⟨ds, e, q⟩ Z1 H1 v o1
  obtain ⟨en, b, o2⟩ := o1.hold e
  obtain ⟨a, vs, e1, s, r⟩ := o2.seeT b
  exact ⟨a, e1, ⟨vs, s⟩, q Z1 H1 [(v, en)] _ o2 (iter_list b e1)⟩
def riTup (ra : RE) : RI' := fun η Q => ra η fun x η1 => ∃ ds, held η1 x = some (.tup ds) ∧ Q ds η1
theorem iter_tup {v : V} {en : En} {a : Addr} {ds : List Dt} (b : Bears en (.tup ds)) (hv : v = .ref a) : IterOk B K (Itt K a) [(v, en)] ds := by
  subst hv
  refine ⟨fun Z H σ η τ i o hi => ?_, fun Z H σ η τ i x H' o y hi => ?_, fun Z H σ η τ i o hi => ?_⟩
  · obtain ⟨a', vs, e, s, r⟩ := o.seeT b
    cases e
    obtain ⟨x, hx⟩ := getlt (l := vs) (i := i) (by rw [r.length]; exact hi)
    exact ⟨vs, x, s, hx⟩
  · obtain ⟨a', vs, e, s, r⟩ := o.seeT b
    cases e
    obtain ⟨e', y⟩ := y
    subst e'
    obtain ⟨d, hd, rd⟩ := r.get' (y vs s)
    exact ⟨Z, d, hd, o.val rd⟩
  · obtain ⟨a', vs, e, s, r⟩ := o.seeT b
    cases e
    exact ⟨vs, s, by rw [r.length]; exact hi⟩
theorem di_tup {tl : TE} {ra : RE} (ha : DE K X tl ra) : DI K X (iTup K tl) (riTup ra) := by
  constructor
  · intro η Q Q' hq q
    refine ha.mono _ _ _ ?_ q
    rintro x η1 ⟨ds, e, q⟩
    exact ⟨ds, e, hq _ _ q⟩
  intro B Z H σ η τ R lk o q
  refine ha.run B Z H σ η τ _ lk o (ha.mono _ _ _ ?_ q)
  rintro x η1 ⟨ds, e, q⟩ Z1 H1 v o1
  obtain ⟨en, b, o2⟩ := o1.hold e
  obtain ⟨a, vs, e1, s, r⟩ := o2.seeT b
  exact ⟨a, e1, ⟨vs, s⟩, q Z1 H1 [(v, en)] _ o2 (iter_tup b e1)⟩
/-- a text, sign by sign -/
def signs (x : Str) : List Dt := x.cps.toList.map fun c => .str ⟨#[c]⟩
theorem signs_length (x : Str) : (signs x).length = x.cps.size := by simp [signs]
def riStr (ra : RE) : RI' := fun η Q => ra η fun x η1 => ∃ s, look η1 x = some (.str s) ∧ Q (signs s) η1
theorem iter_str {s : Str} {p : List (V × En)} : IterOk B K (Its s) p (signs s) := by
  refine ⟨fun Z H σ η τ i o hi => ?_, fun Z H σ η τ i x H' o y hi => ?_, fun Z H σ η τ i o hi => ?_⟩
  · show i < s.cps.size
    rw [signs_length] at hi; exact hi
  · obtain ⟨e, c, hc, e2⟩ := y
    subst e; subst e2
    refine ⟨Z, .str ⟨#[c]⟩, ?_, o.val (.str _)⟩
    unfold signs
    rw [List.getElem?_map, Array.getElem?_toList, hc]
    rfl
  · show s.cps.size ≤ i
    rw [signs_length] at hi; exact hi
theorem di_str {tl : TE} {ra : RE} (ha : DE K X tl ra) : DI K X (iStr tl) (riStr ra) := by
  constructor
  · intro η Q Q' hq q
    refine ha.mono _ _ _ ?_ q
    rintro x η1 ⟨ds, e, q⟩
    exact ⟨ds, e, hq _ _ q⟩
  intro B Z H σ η τ R lk o q
  refine ha.run B Z H σ η τ _ lk o (ha.mono _ _ _ ?_ q)
  rintro x η1 ⟨s, e, q⟩ Z1 H1 v o1
  exact ⟨s, o1.see e, q Z1 H1 [(V.non, En.val .non)] _ (o1.ok.val .non) iter_str⟩
/-- a range -/
def nums (lo : Int) (n : Nat) : List Dt := (List.range n).map fun (i : Nat) => .int (lo + (i : Int))
theorem nums_length (lo : Int) (n : Nat) : (nums lo n).length = n := by simp [nums]
theorem nums_at {lo : Int} {n i : Nat} (h : i < n) : (nums lo n)[i]? = some (.int (lo + (i : Int))) := by
  unfold nums
  rw [List.getElem?_map, List.getElem?_range h]
  rfl
theorem nums_get {lo : Int} {n i : Nat} {d : Dt} (h : (nums lo n)[i]? = some d) : i < n ∧ d = .int (lo + (i : Int)) := by
  by_cases hi : i < n
  · rw [nums_at hi] at h; exact ⟨hi, (Option.some.inj h).symm⟩
  · rw [List.getElem?_eq_none (by rw [nums_length]; omega)] at h; cases h
theorem iter_range {lo : Int} {n : Nat} {p : List (V × En)} : IterOk B K (Itr lo n) p (nums lo n) := by
  refine ⟨fun Z H σ η τ i o hi => ?_, fun Z H σ η τ i x H' o y hi => ?_, fun Z H σ η τ i o hi => ?_⟩
  · show i < n
    rw [nums_length] at hi; exact hi
  · obtain ⟨e, e2⟩ := y
    subst e; subst e2
    rw [nums_length] at hi
    exact ⟨Z, _, nums_at hi, o.val (.int _)⟩
  · show n ≤ i
    rw [nums_length] at hi; exact hi
def riRange1 (ra : RA) : RI' := fun η Q => ra η fun xs η1 => ∃ j : Int, looks η1 xs = some [.int j] ∧ -(2 ^ 62) ≤ j ∧ j < 2 ^ 62 ∧ Q (nums 0 j.toNat) η1
theorem sees1 {vs : List V} {d : Dt} (h : SeeAll K Z H vs [d]) : ∃ v, vs = [v] ∧ See K Z H v d := by
  cases h with
  | cons a b => cases b; exact ⟨_, rfl, a⟩
theorem sees2 {vs : List V} {d e : Dt} (h : SeeAll K Z H vs [d, e]) : ∃ v w, vs = [v, w] ∧ See K Z H v d ∧ See K Z H w e := by
  cases h with
  | cons a b =>
    obtain ⟨w, rfl, r⟩ := sees1 b
    exact ⟨_, w, rfl, a, r⟩
theorem di_range1 {t : TA} {ra : RA} (ha : DA K X t ra) : DI K X (iRng1 t) (riRange1 ra) := by
  constructor
  · intro η Q Q' hq q
    refine ha.mono _ _ _ ?_ q
    rintro x η1 ⟨ds, e, h1, h2, q⟩
    exact ⟨ds, e, h1, h2, hq _ _ q⟩
  intro B Z H σ η τ R lk o q
  refine ha.run B Z H σ η τ _ lk o (ha.mono _ _ _ ?_ q)
  rintro x η1 ⟨j, e, h1, h2, q⟩ Z1 H1 vs o1
  obtain ⟨v, e1, s⟩ := sees1 (o1.sees e)
  have s' : v = .int j := s
  subst e1; subst s'
  exact ⟨j, rfl, h1, h2, q Z1 H1 [(V.non, En.val .non)] _ (o1.ok.val .non) iter_range⟩
def riRange2 (ra : RA) : RI' := fun η Q => ra η fun xs η1 => ∃ i j : Int, looks η1 xs = some [.int i, .int j] ∧ (-(2 ^ 62) ≤ i ∧ i < 2 ^ 62 ∧ -(2 ^ 62) ≤ j ∧ j < 2 ^ 62) ∧ Q (nums i (j - i).toNat) η1
theorem di_range2 {t : TA} {ra : RA} (ha : DA K X t ra) : DI K X (iRng2 t) (riRange2 ra) := by
  constructor
  · intro η Q Q' hq q
    refine ha.mono _ _ _ ?_ q
    rintro x η1 ⟨i, j, e, h1, q⟩
    exact ⟨i, j, e, h1, hq _ _ q⟩
  intro B Z H σ η τ R lk o q
  refine ha.run B Z H σ η τ _ lk o (ha.mono _ _ _ ?_ q)
  rintro x η1 ⟨i, j, e, h1, q⟩ Z1 H1 vs o1
  obtain ⟨v, w, e1, s, t⟩ := sees2 (o1.sees e)
  have s' : v = .int i := s
  have t' : w = .int j := t
  subst e1; subst s'; subst t'
  exact ⟨i, j, rfl, h1, q Z1 H1 [(V.non, En.val .non)] _ (o1.ok.val .non) iter_range⟩
/-- range(a, b, -1) and other steps -/
def numsC (lo c : Int) (n : Nat) : List Dt := (List.range n).map fun (i : Nat) => .int (lo + (i : Int) * c)
theorem numsC_length (lo c : Int) (n : Nat) : (numsC lo c n).length = n := by simp [numsC]
theorem numsC_at {lo c : Int} {n i : Nat} (h : i < n) : (numsC lo c n)[i]? = some (.int (lo + (i : Int) * c)) := by
  unfold numsC
  rw [List.getElem?_map, List.getElem?_range h]
  rfl
theorem numsC_get {lo c : Int} {n i : Nat} {d : Dt} (h : (numsC lo c n)[i]? = some d) : i < n ∧ d = .int (lo + (i : Int) * c) := by
  by_cases hi : i < n
  · rw [numsC_at hi] at h; exact ⟨hi, (Option.some.inj h).symm⟩
  · rw [List.getElem?_eq_none (by rw [numsC_length]; omega)] at h; cases h
theorem iter_rangeC {lo c : Int} {n : Nat} {p : List (V × En)} : IterOk B K (Itc lo c n) p (numsC lo c n) := by
  refine ⟨fun Z H σ η τ i o hi => ?_, fun Z H σ η τ i x H' o y hi => ?_, fun Z H σ η τ i o hi => ?_⟩
  · show i < n
    rw [numsC_length] at hi; exact hi
  · obtain ⟨e, e2⟩ := y
    subst e; subst e2
    rw [numsC_length] at hi
    exact ⟨Z, _, numsC_at hi, o.val (.int _)⟩
  · show n ≤ i
    rw [numsC_length] at hi; exact hi
def riRange3 (ra : RA) : RI' := fun η Q => ra η fun xs η1 => ∃ (i j c : Int) (n : Nat), looks η1 xs = some [.int i, .int j, .int c] ∧ RgC i j c n ∧ Q (numsC i c n) η1
theorem sees3 {vs : List V} {d e f : Dt} (h : SeeAll K Z H vs [d, e, f]) : ∃ v w u, vs = [v, w, u] ∧ See K Z H v d ∧ See K Z H w e ∧ See K Z H u f := by
  cases h with
  | cons a b =>
    obtain ⟨w, u, rfl, r, r'⟩ := sees2 b
    exact ⟨_, w, u, rfl, a, r, r'⟩
theorem di_range3 {t : TA} {ra : RA} (ha : DA K X t ra) : DI K X (iRng3 t) (riRange3 ra) := by
  constructor
  · intro η Q Q' hq q
    refine ha.mono _ _ _ ?_ q
    rintro x η1 ⟨i, j, c, n, e, h1, q⟩
    exact ⟨i, j, c, n, e, h1, hq _ _ q⟩
  intro B Z H σ η τ R lk o q
  refine ha.run B Z H σ η τ _ lk o (ha.mono _ _ _ ?_ q)
  rintro x η1 ⟨i, j, c, n, e, h1, q⟩ Z1 H1 vs o1
  obtain ⟨v, w, u, e1, s, t, t2⟩ := sees3 (o1.sees e)
  have s' : v = .int i := s
  have t' : w = .int j := t
  have u' : u = .int c := t2
  subst e1; subst s'; subst t'; subst u'
  exact ⟨i, j, c, n, rfl, h1, q Z1 H1 [(V.non, En.val .non)] _ (o1.ok.val .non) iter_rangeC⟩
/-- enumerate(list) -/
def enumD (ds : List Dt) : List Dt := ds.zipIdx.map fun p => .tup [.int (p.2 : Int), p.1]
theorem enumD_length (ds : List Dt) : (enumD ds).length = ds.length := by simp [enumD]
theorem enumD_at {ds : List Dt} {i : Nat} {d : Dt} (h : ds[i]? = some d) : (enumD ds)[i]? = some (.tup [.int (i : Int), d]) := by
  unfold enumD
  rw [List.getElem?_map, List.getElem?_zipIdx, h]
  simp
theorem enumD_get {ds : List Dt} {i : Nat} {d : Dt} (h : (enumD ds)[i]? = some d) : ∃ e, ds[i]? = some e ∧ d = .tup [.int (i : Int), e] := by
  cases q : ds[i]? with
  | none => rw [List.getElem?_eq_none (by rw [enumD_length]; exact List.getElem?_eq_none_iff.mp q)] at h; cases h
  | some e => rw [enumD_at q] at h; exact ⟨e, rfl, (Option.some.inj h).symm⟩
theorem iter_enum {v : V} {en : En} {a : Addr} {ds : List Dt} (b : Bears en (.lst ds)) (hv : v = .ref a) : IterOk B K (Ite K a) [(v, en)] (enumD ds) := by
  subst hv
  refine ⟨fun Z H σ η τ i o hi => ?_, fun Z H σ η τ i x H' o y hi => ?_, fun Z H σ η τ i o hi => ?_⟩
  · obtain ⟨a', vs, e, s, r⟩ := o.seeT b
    cases e
    rw [enumD_length] at hi
    obtain ⟨x, hx⟩ := getlt (l := vs) (i := i) (by rw [r.length]; exact hi)
    exact ⟨vs, x, s, hx⟩
  · obtain ⟨a', vs, e, s, r⟩ := o.seeT b
    cases e
    obtain ⟨T, y, e', hT, eH, hy⟩ := y
    subst e'; subst eH
    obtain ⟨d, hd, rd⟩ := r.get' (hy vs s)
    exact ⟨_, _, enumD_at hd, (o.newTup (.cons (.int _) (.cons rd .nil)) hT).2⟩
  · obtain ⟨a', vs, e, s, r⟩ := o.seeT b
    cases e
    rw [enumD_length] at hi
    exact ⟨vs, s, by rw [r.length]; exact hi⟩
def heldAll (η : Env) : List Vl → Option (List Dt)
  | [] => some []
  | x :: r => match held η x, heldAll η r with
    | some d, some ds => some (d :: ds)
    | _, _ => none
def riEnum (ra : RA) : RI' := fun η Q => ra η fun xs η1 => ∃ x ds, xs = [x] ∧ held η1 x = some (.lst ds) ∧ Q (enumD ds) η1
theorem ali1 {x : Vl} {vs : List V} (h : Ali σ [x] vs) : ∃ v, vs = [v] := by
  match vs, h with
  | [v], _ => exact ⟨v, rfl⟩
  | [], h => cases x <;> exact h.elim
  | a :: b :: r, h =>
    have := h.length
    simp at this
theorem di_enum {t : TA} {ra : RA} (ha : DA K X t ra) : DI K X (iEnum K t) (riEnum ra) := by
  constructor
  · intro η Q Q' hq q
    refine ha.mono _ _ _ ?_ q
    rintro x η1 ⟨y, ds, e, e2, q⟩
    exact ⟨y, ds, e, e2, hq _ _ q⟩
  intro B Z H σ η τ R lk o q
  refine ha.run B Z H σ η τ _ lk o (ha.mono _ _ _ ?_ q)
  rintro xs η1 ⟨x, ds, e, e2, q⟩ Z1 H1 vs o1
  subst e
  obtain ⟨v, e1⟩ := ali1 o1.1
  subst e1
  obtain ⟨en, b, o2⟩ := o1.hold e2
  obtain ⟨a, vs, e1, s, r⟩ := o2.seeT b
  exact ⟨a, vs, by rw [e1], s, q Z1 H1 [(v, en)] _ o2 (iter_enum b e1)⟩
/-- reversed(list) -/
theorem iter_rev {v : V} {en : En} {a : Addr} {ds : List Dt} (b : Bears en (.lst ds)) (hv : v = .ref a) : IterOk B K (Itv K a ds.length) [(v, en)] ds.reverse := by
  subst hv
  refine ⟨fun Z H σ η τ i o hi => ?_, fun Z H σ η τ i x H' o y hi => ?_, fun Z H σ η τ i o hi => ?_⟩
  · obtain ⟨a', vs, e, s, r⟩ := o.seeT b
    cases e
    rw [List.length_reverse] at hi
    obtain ⟨x, hx⟩ := getlt (l := vs) (i := ds.length - 1 - i) (by rw [r.length]; omega)
    exact ⟨hi, vs, x, s, hx⟩
  · obtain ⟨a', vs, e, s, r⟩ := o.seeT b
    cases e
    obtain ⟨e', y⟩ := y
    subst e'
    obtain ⟨d, hd, rd⟩ := r.get' (y vs s)
    rw [List.length_reverse] at hi
    exact ⟨Z, d, by rw [List.getElem?_reverse hi]; exact hd, o.val rd⟩
  · rw [List.length_reverse] at hi
    exact hi
def riRev (ra : RA) : RI' := fun η Q => ra η fun xs η1 => ∃ x ds, xs = [x] ∧ held η1 x = some (.lst ds) ∧ Q ds.reverse η1
theorem di_rev {t : TA} {ra : RA} (ha : DA K X t ra) : DI K X (iRev K t) (riRev ra) := by
  constructor
  · intro η Q Q' hq q
    refine ha.mono _ _ _ ?_ q
    rintro x η1 ⟨y, ds, e, e2, q⟩
    exact ⟨y, ds, e, e2, hq _ _ q⟩
  intro B Z H σ η τ R lk o q
  refine ha.run B Z H σ η τ _ lk o (ha.mono _ _ _ ?_ q)
  rintro xs η1 ⟨x, ds, e, e2, q⟩ Z1 H1 vs o1
  subst e
  obtain ⟨v, e1⟩ := ali1 o1.1
  subst e1
  obtain ⟨en, b, o2⟩ := o1.hold e2
  obtain ⟨a, vs, e1, s, r⟩ := o2.seeT b
  refine ⟨a, vs, by rw [e1], s, ?_⟩
  rw [r.length]
  exact q Z1 H1 [(v, en)] _ o2 (iter_rev b e1)

/-! ### targets -/
abbrev RG := Dt → Env → (Env → Prop) → Prop
theorem wipe_set {σ : L2.St} {i : Nat} {o : Option V} : ∀ {vs : List Nat}, i ∈ vs → wipe (σ.set i o) vs = wipe σ vs
  | [], h => by simp at h
  | v :: vs, h => by
    show (wipe (σ.set i o) vs).set v none = (wipe σ vs).set v none
    by_cases hv : i ∈ vs
    · rw [wipe_set hv]
    · have e : i = v := by
        rcases List.mem_cons.mp h with q | q
        · exact q
        · exact absurd q hv
      subst e
      have gen : ∀ (vs : List Nat), i ∉ vs → wipe (σ.set i o) vs = (wipe σ vs).set i o := by
        intro vs
        induction vs with
        | nil => intro _; rfl
        | cons w vs ih =>
          intro hn
          have h1 : i ≠ w := fun q => hn (by simp [q])
          have h2 : i ∉ vs := fun q => hn (by simp [q])
          show (wipe (σ.set i o) vs).set w none = ((wipe σ vs).set w none).set i o
          rw [ih h2, List.set_comm _ _ h1]
      rw [gen vs hv, List.set_set]
/-- σ' is σ but at the slots sl -/
abbrev But (sl : List Nat) (σ σ' : L2.St) : Prop := ∀ vs : List Nat, (∀ i ∈ sl, i ∈ vs) → wipe σ' vs = wipe σ vs
structure DG (K : PySem.W.Frag) (sl : List Nat) (g : TG) (r : RG) : Prop where
  mono : ∀ d η (Q Q' : Env → Prop), (∀ η', Q η' → Q' η') → r d η Q → r d η Q'
  run : ∀ (B : Base) (Z : Zs) (H : Hp) (σ : L2.St) (η : Env) (τ : List (V × En)) (v : V) (d : Dt) (P : L2.St → Hp → Prop), Ok B K Z H σ η ((v, .val d) :: τ) → r d η (fun η' => ∀ Z' H' σ', But sl σ σ' → Ok B K Z' H' σ' η' τ → P σ' H') → g v σ H P
abbrev RGs := List Dt → Env → (Env → Prop) → Prop
structure DGs (K : PySem.W.Frag) (sl : List Nat) (g : TGs) (r : RGs) : Prop where
  mono : ∀ d η (Q Q' : Env → Prop), (∀ η', Q η' → Q' η') → r d η Q → r d η Q'
  run : ∀ (B : Base) (Z : Zs) (H : Hp) (σ : L2.St) (η : Env) (τ : List (V × En)) (vs : List V) (ds : List Dt) (P : L2.St → Hp → Prop), Ok B K Z H σ η τ → RpAll K Z H vs ds → r ds η (fun η' => ∀ Z' H' σ', But sl σ σ' → Ok B K Z' H' σ' η' τ → P σ' H') → g vs σ H P
def rgName (i : Nat) : RG := fun d η Q => i < η.length ∧ Q (η.set i (some (.val d)))
theorem dg_name (i : Nat) : DG K [i] (gName i) (rgName i) := by
  refine ⟨fun d η Q Q' hq ⟨h, q⟩ => ⟨h, hq _ q⟩, ?_⟩
  intro B Z H σ η τ v d P o ⟨h, q⟩
  exact q Z H _ (fun vs hi => wipe_set (hi i (by simp))) (o.store h)
def rgNil : RGs := fun ds η Q => ds = [] ∧ Q η
def rgCons (r : RG) (u : RGs) : RGs := fun ds η Q => ∃ d e, ds = d :: e ∧ r d η fun η' => u e η' Q
theorem dgs_nil : DGs K [] gNil rgNil := by
  refine ⟨fun d η Q Q' hq ⟨h, q⟩ => ⟨h, hq _ q⟩, ?_⟩
  intro B Z H σ η τ vs ds P o r ⟨h, q⟩
  subst h
  cases r
  exact ⟨rfl, q Z H σ (fun _ _ => rfl) o⟩
theorem dgs_cons {g : TG} {gs : TGs} {r : RG} {u : RGs} {sl sl' : List Nat} (h1 : DG K sl g r) (h2 : DGs K sl' gs u) : DGs K (sl ++ sl') (gCons g gs) (rgCons r u) := by
  constructor
  · rintro ds η Q Q' hq ⟨d, e, h, q⟩
    exact ⟨d, e, h, h1.mono _ _ _ _ (fun η' q => h2.mono _ _ _ _ hq q) q⟩
  intro B Z H σ η τ vs ds P o r ⟨d, e, h, q⟩
  subst h
  cases r with
  | @cons v ws _ _ r1 r2 =>
    refine ⟨v, ws, rfl, ?_⟩
    -- the rest is held as a tuple that is not there: each by itself
    have hold : ∀ (ws : List V) (e : List Dt) (τ : List (V × En)), RpAll K Z H ws e → Ok B K Z H σ η τ → Ok B K Z H σ η ((ws.zip e).map (fun p => (p.1, En.val p.2)) ++ τ) := by
      intro ws
      induction ws with
      | nil => intro e τ r o; cases r; exact o
      | cons w ws ih =>
        intro e τ r o
        cases r with
        | cons a b => exact (ih _ _ b o).val a
    have o1 := hold ws e τ r2 o
    refine h1.run B Z H σ η _ v d _ (o1.val r1) (h1.mono _ _ _ _ ?_ q)
    intro η' q Z' H' σ' bt o2
    have back : ∀ (ws : List V) (e : List Dt), ws.length = e.length → ∀ (τ : List (V × En)), Ok B K Z' H' σ' η' ((ws.zip e).map (fun p => (p.1, En.val p.2)) ++ τ) → RpAll K Z' H' ws e := by
      intro ws
      induction ws with
      | nil =>
        intro e hl τ o
        cases e with
        | nil => exact .nil
        | cons _ _ => simp at hl
      | cons w ws ih =>
        intro e hl τ o
        cases e with
        | nil => simp at hl
        | cons d e =>
          have o' : Ok B K Z' H' σ' η' ((w, En.val d) :: ((ws.zip e).map (fun p => (p.1, En.val p.2)) ++ τ)) := o
          exact .cons o'.rp (ih e (by simpa using hl) τ o'.drop)
    refine h2.run B Z' H' σ' η' τ ws e P o2.drops (back ws e r2.length τ o2) (h2.mono _ _ _ _ ?_ q)
    intro η2 q Z2 H2 σ2 bt2 o3
    exact q Z2 H2 σ2 (fun vs hi => (bt2 vs fun i h => hi i (List.mem_append_right _ h)).trans (bt vs fun i h => hi i (List.mem_append_left _ h))) o3
def rgTup (n : Nat) (u : RGs) : RG := fun d η Q => ∃ ds, d = .tup ds ∧ ds.length = n ∧ u ds η Q
theorem dg_tup {gs : TGs} {u : RGs} {n : Nat} {sl : List Nat} (h : DGs K sl gs u) : DG K sl (gTup K n gs) (rgTup n u) := by
  refine ⟨fun d η Q Q' hq ⟨ds, e, l, q⟩ => ⟨ds, e, l, h.mono _ _ _ _ hq q⟩, ?_⟩
  rintro B Z H σ η τ v d P o ⟨ds, rfl, l, q⟩
  obtain ⟨a, vs, e1, s, r⟩ := o.rp.see
  exact ⟨a, vs, e1, s, by rw [r.length]; exact l, h.run B Z H σ η τ vs ds P o.drop r q⟩
/-- any target, a value that stays -/
def rAsgG (ra : RE) (r : RG) : RS := fun D η => ra η fun x η1 => ∃ d, frz η1 x = some d ∧ r d η1 D.nx
theorem ds_asgG {ta : TE} {ra : RE} {g : TG} {r : RG} {sl : List Nat} (ha : DE K X ta ra) (hg : DG K sl g r) : DS K X (tAsg ta g) (rAsgG ra r) := by
  constructor
  · intro η D D' hd q
    refine ha.mono _ _ _ ?_ q
    rintro x η1 ⟨d, e, q⟩
    exact ⟨d, e, hg.mono _ _ _ _ hd.nx q⟩
  intro B Z H σ η τ E lk o q
  refine ha.run B Z H σ η τ _ lk o (ha.mono _ _ _ ?_ q)
  rintro x η1 ⟨d, e, q⟩ Z1 H1 v o1
  obtain ⟨Z2, _, o2⟩ := o1.frz e
  exact hg.run B Z2 H1 σ η1 τ v d _ o2 (hg.mono _ _ _ _ (fun η' q Z' H' σ' _ o' => q Z' H' σ' o') q)

/-! ### for -/
def rFor (ri : RI') (rg : RG) (rb : RS) : RS := fun D η => ri η fun ds η1 => ∃ W : Nat → Env → Prop, W 0 η1 ∧
  (∀ i d η', ds[i]? = some d → W i η' → rg d η' fun η2 => rb { D with nx := W (i + 1), ct := W (i + 1), bk := D.nx } η2) ∧ ∀ η', W ds.length η' → D.nx η'
theorem ds_for {wi : TI} {g : TG} {tb : TS} {ri : RI'} {rg : RG} {rb : RS} {sl : List Nat} (hi : DI K X wi ri) (hg : DG K sl g rg) (hb : DS K X tb rb) : DS K X (tFor wi g tb) (rFor ri rg rb) := by
  constructor
  · intro η D D' hd q
    refine hi.mono _ _ _ ?_ q
    rintro ds η1 ⟨W, h0, h1, h2⟩
    exact ⟨W, h0, fun i d η' e w => hg.mono _ _ _ _ (fun η2 q => hb.mono _ { D with nx := W (i + 1), ct := W (i + 1), bk := D.nx } { D' with nx := W (i + 1), ct := W (i + 1), bk := D'.nx } ⟨fun _ h => h, hd.rt, hd.nx, fun _ h => h⟩ q) (h1 i d η' e w), fun η' w => hd.nx _ (h2 η' w)⟩
  intro B Z H σ η τ E lk o q
  refine hi.run B Z H σ η τ _ lk o (hi.mono _ _ _ ?_ q)
  rintro ds η1 ⟨W, h0, h1, h2⟩ Z1 H1 p J o1 it
  refine ⟨fun i m σ' H' => m = ds.length - i ∧ i ≤ ds.length ∧ ∃ Z' η', Ok B K Z' H' σ' η' (p ++ τ) ∧ W i η', ⟨ds.length, by simp, Nat.zero_le _, Z1, η1, o1, h0⟩, ?_⟩
  rintro i m σ' H' ⟨rfl, hle, Z', η', o', w⟩
  by_cases hlt : i < ds.length
  · refine .inr ⟨it.go Z' H' σ' η' τ i o' hlt, fun σ'' H'' => ∃ Z'' η'', Ok B K Z'' H'' σ'' η'' (p ++ τ) ∧ W (i + 1) η'', ?_, ?_⟩
    · rintro σ'' H'' n
      exact ⟨ds.length - (i + 1), by omega, rfl, hlt, n⟩
    · intro x H'' y
      obtain ⟨Z2, d, hd, o2⟩ := it.yld Z' H' σ' η' τ i x H'' o' y hlt
      refine hg.run B Z2 H'' σ' η' (p ++ τ) x d _ o2 (hg.mono _ _ _ _ ?_ (h1 i d η' hd w))
      intro η2 q Z3 H3 σ3 _ o3
      refine hb.run B Z3 H3 σ3 η2 (p ++ τ) _ lk.app o3 (hb.mono _ _ _ ⟨?_, ?_, ?_, ?_⟩ q)
      · intro η4 w4 Z4 H4 σ4 o4
        exact ⟨Z4, η4, o4, w4⟩
      · intro x4 η4 w4 Z4 H4 σ4 v4 o4
        exact w4 Z4 H4 σ4 v4 o4.dropsτ
      · intro η4 w4 Z4 H4 σ4 o4
        exact w4 Z4 H4 σ4 o4.drops
      · intro η4 w4 Z4 H4 σ4 o4
        exact ⟨Z4, η4, o4, w4⟩
  · have e : i = ds.length := by omega
    subst e
    exact .inl ⟨it.stop Z' H' σ' η' τ _ o' (Nat.le_refl _), h2 η' w Z' H' σ' o'.drops⟩

/-! ### while -/
def rWhile (rc : RT) (rb : RS) : RS := fun D η => ∃ W : Nat → Env → Prop, (∃ m, W m η) ∧ ∀ m η, W m η → rc η fun b η1 =>
  if b = true then ∃ N : Env → Prop, (∀ η', N η' → ∃ m', m' < m ∧ W m' η') ∧ rb { D with nx := N, ct := N, bk := D.nx } η1 else D.nx η1
theorem ds_while {c : TT} {tb : TS} {rc : RT} {rb : RS} (hc : DT K X c rc) (hb : DS K X tb rb) : DS K X (tWhile c tb) (rWhile rc rb) := by
  constructor
  · rintro η D D' hd ⟨W, h0, h1⟩
    refine ⟨W, h0, fun m η w => hc.mono _ _ _ ?_ (h1 m η w)⟩
    rintro b η1 q
    cases b with
    | true =>
      obtain ⟨N, hn, q⟩ := q
      exact ⟨N, hn, hb.mono _ { D with nx := N, ct := N, bk := D.nx } { D' with nx := N, ct := N, bk := D'.nx } ⟨fun _ h => h, hd.rt, hd.nx, fun _ h => h⟩ q⟩
    | false => exact hd.nx _ q
  rintro B Z H σ η τ E lk o ⟨W, ⟨m0, h0⟩, h1⟩
  refine ⟨fun m σ' H' => ∃ Z' η', Ok B K Z' H' σ' η' τ ∧ W m η', ⟨m0, Z, η, o, h0⟩, ?_⟩
  rintro m σ' H' ⟨Z', η', o', w⟩
  refine hc.run B Z' H' σ' η' τ _ lk o' (hc.mono _ _ _ ?_ (h1 m η' w))
  rintro b η1 q Z1 H1 o1
  cases b with
  | true =>
    obtain ⟨N, hn, q⟩ := q
    refine ⟨fun σ'' H'' => ∃ Z'' η'', Ok B K Z'' H'' σ'' η'' τ ∧ N η'', ?_, ?_⟩
    · rintro σ'' H'' ⟨Z'', η'', o'', n⟩
      obtain ⟨m', hm, w'⟩ := hn _ n
      exact ⟨m', hm, Z'', η'', o'', w'⟩
    · refine hb.run B Z1 H1 σ' η1 τ _ lk o1 (hb.mono _ _ _ ⟨?_, ?_, ?_, ?_⟩ q)
      · intro η4 w4 Z4 H4 σ4 o4
        exact ⟨Z4, η4, o4, w4⟩
      · intro x4 η4 w4 Z4 H4 σ4 v4 o4
        exact w4 Z4 H4 σ4 v4 o4
      · intro η4 w4 Z4 H4 σ4 o4
        exact w4 Z4 H4 σ4 o4
      · intro η4 w4 Z4 H4 σ4 o4
        exact ⟨Z4, η4, o4, w4⟩
  | false => exact q Z1 H1 σ' o1
end
end D

set_option Elab.async false
set_option linter.all false
set_option maxRecDepth 100000
set_option maxHeartbeats 4000000
namespace D
open PySem PySem.Spec PyProof.Rows L2
section
variable {K : PySem.W.Frag} {X : Wsh} {B : Base} {Z : Zs} {H : Hp} {σ : L2.St} {η : Env} {τ : List (V × En)}
/-! ### comprehensions: the block's own slots are empty ahead of each turn -/
def wipeE (η : Env) : List Nat → Env
  | [] => η
  | v :: vs => (wipeE η vs).set v none
/-- the block's slots as they were -/
def unw (η η' : Env) : List Nat → Env
  | [] => η'
  | v :: vs => unw η (η'.set v (((wipeE η vs)[v]?).getD none)) vs
theorem pack_reslot : ∀ {σ : L2.St} {η : Env} {i : Nat} (o : Option V), η[i]? = some none → pack (σ.set i o) η = pack σ η
  | [], _, _, _, _ => rfl
  | x :: σ, [], 0, o, h => by simp at h
  | x :: σ, [], i + 1, o, h => by simp at h
  | x :: σ, q :: η, 0, o, h => by
    simp at h; subst h
    cases o <;> cases x <;> rfl
  | x :: σ, q :: η, i + 1, o, h => by
    have := pack_reslot (σ := σ) (η := η) (i := i) o (by simpa using h)
    cases x <;> cases q <;> simp [pack, this]
theorem slots_reslot : ∀ {σ : L2.St} {η : Env} {i : Nat} (o : Option V), η[i]? = some none → Slots σ η → Slots (σ.set i o) η
  | [], [], _, _, _, h => h
  | [], _ :: _, _, _, _, h => h.elim
  | _ :: _, [], _, _, _, h => h.elim
  | x :: σ, q :: η, 0, o, h, s => by
    simp at h; subst h
    exact ⟨by simp, s.2⟩
  | x :: σ, q :: η, i + 1, o, h, s => ⟨s.1, slots_reslot o (by simpa using h) s.2⟩
theorem Ok.reslot {i : Nat} (o : Option V) (h : Ok B K Z H σ η τ) (hi : η[i]? = some none) : Ok B K Z H (σ.set i o) η τ := by
  obtain ⟨F, h⟩ := h
  exact ⟨F, slots_reslot o hi h.slots, by rw [pack_reslot o hi]; exact h.sep, h.live, h.base, h.there, h.grow, h.old, h.zl⟩
theorem Ok.len (h : Ok B K Z H σ η τ) : σ.length = η.length := by
  obtain ⟨F, h⟩ := h
  exact h.slots.length
/-- one slot is emptied; and filled again -/
theorem Ok.wipe1 (h : Ok B K Z H σ η τ) (v : Nat) : ∃ δ : List (V × En), Ok B K Z H (σ.set v none) (η.set v none) (δ ++ τ) ∧
    ∀ (Z' : Zs) (H' : Hp) (η' : Env) (τ' : List (V × En)), Ok B K Z' H' (σ.set v none) η' (δ ++ τ') → Ok B K Z' H' σ (η'.set v ((η[v]?).getD none)) τ' := by
  by_cases hv : v < η.length
  · cases e : η[v]? with
    | none => exact absurd (List.getElem?_eq_none_iff.mp e) (by omega)
    | some o =>
      cases o with
      | none =>
        refine ⟨[], (h.forget v).reslot none (by rw [List.getElem?_set_self hv]), fun Z' H' η' τ' h' => ?_⟩
        have hl : v < η'.length := by have := h'.len; rw [List.length_set, h.len] at this; omega
        have h2 := (h'.forget v).reslot (((σ[v]?).getD none)) (by rw [List.getElem?_set_self hl])
        have e2 : (σ.set v none).set v ((σ[v]?).getD none) = σ := by
          rw [List.set_set]
          apply List.ext_getElem?
          intro j
          by_cases hj : j = v
          · subst hj
            have : j < σ.length := by rw [h.len]; exact hv
            rw [List.getElem?_set_self this, List.getElem?_eq_getElem this]
            rfl
          · rw [List.getElem?_set_ne (Ne.symm hj)]
        rw [e2] at h2
        exact h2
      | some en =>
        obtain ⟨w, hw, o'⟩ := h.take e
        refine ⟨[(w, en)], o'.reslot none (by simp [hv]), fun Z' H' η' τ' h' => ?_⟩
        have hl : v < η'.length := by have := h'.len; rw [List.length_set, h.len] at this; omega
        have h2 := Ok.store h' hl
        rw [List.set_set, set_self hw] at h2
        exact h2
  · have hl := h.len
    have e1 : σ.set v none = σ := List.set_eq_of_length_le (by omega)
    have e2 : η.set v none = η := List.set_eq_of_length_le (by omega)
    rw [e1, e2]
    refine ⟨[], h, fun Z' H' η' τ' h' => ?_⟩
    have hl' := h'.len
    rw [List.set_eq_of_length_le (by omega)]
    exact h'
theorem Ok.wipe (h : Ok B K Z H σ η τ) : ∀ vs : List Nat, ∃ δ : List (V × En), Ok B K Z H (L2.wipe σ vs) (wipeE η vs) (δ ++ τ) ∧
    ∀ (Z' : Zs) (H' : Hp) (η' : Env) (τ' : List (V × En)), Ok B K Z' H' (L2.wipe σ vs) η' (δ ++ τ') → Ok B K Z' H' σ (unw η η' vs) τ' := by
  intro vs
  induction vs with
  | nil => exact ⟨[], h, fun Z' H' η' τ' h' => h'⟩
  | cons v vs ih =>
    obtain ⟨δ, o1, back⟩ := ih
    obtain ⟨δ1, o2, back1⟩ := o1.wipe1 v
    refine ⟨δ1 ++ δ, by rw [List.append_assoc]; exact o2, fun Z' H' η' τ' h' => ?_⟩
    rw [List.append_assoc] at h'
    exact back Z' H' _ τ' (back1 Z' H' η' (δ ++ τ') h')
/-- forgetting the block's slots -/
theorem Ok.wipeF (h : Ok B K Z H σ η τ) : ∀ vs : List Nat, Ok B K Z H (L2.wipe σ vs) (wipeE η vs) τ := by
  intro vs
  obtain ⟨δ, o, _⟩ := h.wipe vs
  exact o.drops
def rYes : RT := fun η Q => Q true η
theorem dt_yes : DT K X tYes rYes := ⟨fun η Q Q' hq q => hq _ _ q, fun B Z H σ η τ P lk o q => q Z H o⟩
def rLc (ri : RI') (rg : RG) (rt : RT) (re : RE) (vs : List Nat) : RE := fun η Q => ri η fun ds η1 => ds.length ≤ 100000 ∧ ∃ W : Nat → List Dt → Env → Prop, W 0 [] (wipeE η1 vs) ∧
  (∀ i d acc η', ds[i]? = some d → acc.length ≤ i → W i acc η' → rg d η' fun η2 => rt η2 fun b η3 => if b = true then re η3 fun x η4 => ∃ e, frz η4 x = some e ∧ W (i + 1) (acc ++ [e]) (wipeE η4 vs) else W (i + 1) acc (wipeE η3 vs)) ∧
  ∀ acc η', acc.length ≤ ds.length → W ds.length acc η' → Q (.nw (.lst acc)) (unw η1 η' vs)
theorem de_lc {wi : TI} {g : TG} {tt : TT} {te : TE} {vs sl : List Nat} {ri : RI'} {rg : RG} {rt : RT} {re : RE} (hi : DI K X wi ri) (hg : DG K sl g rg) (ht : DT K W0 tt rt) (he : DE K W0 te re) (hs : ∀ i ∈ sl, i ∈ vs) :
    DE K X (tLc wi g tt te vs) (rLc ri rg rt re vs) := by
  constructor
  · intro η Q Q' hq q
    refine hi.mono _ _ _ ?_ q
    rintro ds η1 ⟨hl, W, h0, h1, h2⟩
    exact ⟨hl, W, h0, h1, fun acc η' l w => hq _ _ (h2 acc η' l w)⟩
  intro B Z H σ η τ P lk o q
  refine hi.run B Z H σ η τ _ lk o (hi.mono _ _ _ ?_ q)
  rintro ds η1 ⟨hl, W, h0, h1, h2⟩ Z1 H1 p J o1 it D hD
  obtain ⟨δ, o2, back⟩ := o1.drops.wipe vs
  obtain ⟨δ', o2', back'⟩ := o1.wipe vs
  have o3 : Ok B K Z1 (upd H1 D (.lst [])) (wipe σ vs) (wipeE η1 vs) ((.ref D, .mu none (.dt (.lst []))) :: (δ' ++ (p ++ τ))) := o2'.new hD ⟨[], upd_same, .nil⟩
  refine ⟨fun i m H' => m = ds.length - i ∧ i ≤ ds.length ∧ ∃ Z' η' acc, Ok B K Z' H' (wipe σ vs) η' ((.ref D, .mu none (.dt (.lst acc))) :: (δ' ++ (p ++ τ))) ∧ acc.length ≤ i ∧ W i acc η',
    ⟨ds.length, by simp, Nat.zero_le _, Z1, _, [], o3, Nat.le_refl _, h0⟩, ?_⟩
  rintro i m H' ⟨rfl, hle, Z', η', acc, o', la, w⟩
  have op : Ok B K Z' H' (wipe σ vs) η' (p ++ (.ref D, .mu none (.dt (.lst acc))) :: (δ' ++ τ)) := o'.perm ((pm3.cons _).trans List.perm_middle.symm)
  by_cases hlt : i < ds.length
  · refine .inr ⟨it.go Z' H' _ η' _ i op hlt, fun H'' => ∃ Z'' η'' acc', Ok B K Z'' H'' (wipe σ vs) η'' ((.ref D, .mu none (.dt (.lst acc'))) :: (δ' ++ (p ++ τ))) ∧ acc'.length ≤ i + 1 ∧ W (i + 1) acc' η'', ?_, ?_⟩
    · rintro H'' n
      exact ⟨ds.length - (i + 1), by omega, rfl, hlt, n⟩
    · intro x H'' y
      obtain ⟨Z2, d, hd, o4⟩ := it.yld Z' H' _ η' _ i x H'' op y hlt
      refine hg.run B Z2 H'' _ η' _ x d _ o4 (hg.mono _ _ _ _ ?_ (h1 i d acc η' hd la w))
      intro η2 q Z3 H3 σ3 bt o5
      have bt' : L2.wipe σ3 vs = L2.wipe σ vs := (bt vs hs).trans (by
        have idem : ∀ (us : List Nat), (∀ i ∈ us, i ∈ vs) → L2.wipe (L2.wipe σ us) vs = L2.wipe σ vs := by
          intro us
          induction us with
          | nil => intro _; rfl
          | cons u us ih =>
            intro hu
            show L2.wipe ((L2.wipe σ us).set u none) vs = L2.wipe σ vs
            rw [wipe_set (hu u (by simp))]
            exact ih fun i hi => hu i (by simp [hi])
        exact idem vs fun _ h => h)
      refine ⟨bt', ?_⟩
      refine ht.run B Z3 H3 σ3 η2 _ _ .none o5 (ht.mono _ _ _ ?_ q)
      intro b η3 q Z4 H4 o6
      have fwd : ∀ {Z' : Zs} {H' : Hp} {η' : Env} {a : List Dt}, Ok B K Z' H' σ3 η' (p ++ (.ref D, .mu none (.dt (.lst a))) :: (δ' ++ τ)) → Ok B K Z' H' (L2.wipe σ vs) (wipeE η' vs) ((.ref D, .mu none (.dt (.lst a))) :: (δ' ++ (p ++ τ))) := by
        intro Z' H' η' a o
        have := o.wipeF vs
        rw [bt'] at this
        exact this.perm (List.perm_middle.trans (pm3.cons _))
      cases b with
      | false => exact ⟨Z4, _, acc, fwd o6, by omega, q⟩
      | true =>
        refine he.run B Z4 H4 σ3 η3 _ _ .none o6 (he.mono _ _ _ ?_ q)
        rintro x5 η4 ⟨e, hfe, w'⟩ Z5 H5 y5 o7
        obtain ⟨Z6, z6, o8⟩ := o7.frz hfe
        have o9 : Ok B K Z6 H5 σ3 η4 ((.ref D, .mu none (.dt (.lst acc))) :: (y5, .val e) :: (p ++ (δ' ++ τ))) := o8.perm (List.perm_middle (l₁ := (y5, En.val e) :: p))
        obtain ⟨a, ea, nz, vs', hH, r⟩ := o9.notZ
        cases ea
        have hlen : vs'.length < sizeLine := by rw [r.length]; exact szl (by omega)
        have o10 := o9.write (o := .lst (vs' ++ [y5])) (d' := .lst (acc ++ [e])) ⟨_, upd_same, (r.append (.cons o8.rp .nil)).write nz⟩
        have o11 := (o10.perm (List.Perm.swap _ _ _)).drop
        exact ⟨vs', hH, hlen, Z6, _, acc ++ [e], fwd (o11.perm List.perm_middle.symm), by simp; omega, w'⟩
  · have e : i = ds.length := by omega
    subst e
    refine .inl ⟨it.stop Z' H' _ η' _ _ op (Nat.le_refl _), ?_⟩
    have o5 : Ok B K Z' H' (L2.wipe σ vs) η' (δ' ++ (p ++ (.ref D, .mu none (.dt (.lst acc))) :: τ)) := by
      refine o'.perm ?_
      have h1 : ((V.ref D, En.mu none (.dt (.lst acc))) :: (δ' ++ (p ++ τ))) = ((V.ref D, En.mu none (.dt (.lst acc))) :: (δ' ++ p)) ++ τ := by simp
      have h2 : (δ' ++ (p ++ (V.ref D, En.mu none (.dt (.lst acc))) :: τ)) = (δ' ++ p) ++ (V.ref D, En.mu none (.dt (.lst acc))) :: τ := by simp
      rw [h1, h2]
      exact List.perm_middle.symm
    have o6 := back' Z' H' η' _ o5
    exact h2 acc η' la w Z' H' _ ⟨trivial, Ok.drops (τ' := p) o6⟩
end
end D

set_option Elab.async false
set_option linter.all false
set_option maxRecDepth 100000
set_option maxHeartbeats 4000000
namespace D
open PySem PySem.Spec PyProof.Rows L2

/-! ### how arguments are handed in: by value, borrowed, to be written -/
inductive Md where
  | v | b | p
def ent (j : Nat) : Md → Ct → En
  | .v, .dt d => .val d
  | .b, .dt d => .bor d
  | _, c => .mu (some j) c
def ents : Nat → List Md → List Ct → List En
  | j, m :: ms, c :: cs => ent j m c :: ents (j + 1) ms cs
  | _, _, _ => []
/-- the arguments as the callee finds them: F what it may write of, G all that any of them may write of -/
def ArgsOk (K : PySem.W.Frag) (Z : Zs) (H : Hp) (G : List Addr) : List V → List Md → List Ct → List Addr → Prop
  | [], [], [], F => F = []
  | v :: vs, .v :: ms, .dt d :: cs, F => Rp K Z H v d ∧ ArgsOk K Z H G vs ms cs F
  | v :: vs, .b :: ms, .dt d :: cs, F => (BRp K Z H v d ∨ ∃ a, v = .ref a ∧ (∃ o, H a = some o) ∧ a ∉ G ∧ BorAt K Z H a d) ∧ ArgsOk K Z H G vs ms cs F
  | v :: vs, .p :: ms, c :: cs, F => ∃ F1 F2, COk K Z H v F1 c ∧ ArgsOk K Z H G vs ms cs F2 ∧ (∀ b, b ∈ F1 → b ∉ F2) ∧ F = F1 ++ F2
  | _, _, _, _ => False
theorem ArgsOk.lens {K : PySem.W.Frag} {Z : Zs} {H : Hp} {G : List Addr} : ∀ {vs : List V} {ms : List Md} {cs : List Ct} {F : List Addr}, ArgsOk K Z H G vs ms cs F → vs.length = ms.length ∧ cs.length = ms.length := by
  intro vs
  induction vs with
  | nil =>
    intro ms cs F h
    cases ms with
    | nil => cases cs with
      | nil => exact ⟨rfl, rfl⟩
      | cons _ _ => exact h.elim
    | cons m ms => cases m <;> cases cs <;> exact h.elim
  | cons v vs ih =>
    intro ms cs F h
    cases ms with
    | nil => cases cs <;> exact h.elim
    | cons m ms =>
      cases cs with
      | nil => cases m <;> exact h.elim
      | cons c cs =>
        cases m with
        | v => cases c with
          | dt d => obtain ⟨h1, h2⟩ := ih h.2; exact ⟨by simp [h1], by simp [h2]⟩
          | hp d g => exact h.elim
        | b => cases c with
          | dt d => obtain ⟨h1, h2⟩ := ih h.2; exact ⟨by simp [h1], by simp [h2]⟩
          | hp d g => exact h.elim
        | p =>
          obtain ⟨F1, F2, _, h', _⟩ := h
          obtain ⟨h1, h2⟩ := ih h'
          exact ⟨by simp [h1], by simp [h2]⟩
/-- the callee's own base -/
abbrev inB (H : Hp) (F : List Addr) (Z : Zs) (vs : List V) : Base := ⟨H, F, Z, vs⟩
theorem args_sep {K : PySem.W.Frag} {Z : Zs} {H : Hp} {G : List Addr} {us : List V} : ∀ {vs : List V} {ms : List Md} {cs : List Ct} {F : List Addr} (j : Nat), (∀ k v, vs[k]? = some v → us[j + k]? = some v) → ArgsOk K Z H G vs ms cs F → Sep (inB H G Z us) K Z H (vs.zip (ents j ms cs)) F := by
  intro vs
  induction vs with
  | nil =>
    intro ms cs F j hu h
    cases ms with
    | nil => cases cs with
      | nil => exact h
      | cons _ _ => exact h.elim
    | cons m ms => cases m <;> cases cs <;> exact h.elim
  | cons v vs ih =>
    intro ms cs F j hu h
    have hu0 : us[j]? = some v := by simpa using hu 0 v rfl
    have hu1 : ∀ k v', vs[k]? = some v' → us[j + 1 + k]? = some v' := fun k v' e => by
      have := hu (k + 1) v' (by simpa using e)
      rw [show j + 1 + k = j + (k + 1) by omega]
      exact this
    cases ms with
    | nil => cases cs <;> exact h.elim
    | cons m ms =>
      cases cs with
      | nil => cases m <;> exact h.elim
      | cons c cs =>
        cases m with
        | v => cases c with
          | dt d => exact ⟨[], F, ⟨rfl, h.1⟩, ih (j + 1) hu1 h.2, by simp, rfl⟩
          | hp d g => exact h.elim
        | b => cases c with
          | dt d => exact ⟨[], F, ⟨rfl, h.1⟩, ih (j + 1) hu1 h.2, by simp, rfl⟩
          | hp d g => exact h.elim
        | p =>
          obtain ⟨F1, F2, e1, h', e3, rfl⟩ := h
          refine ⟨F1, F2, ?_, ih (j + 1) hu1 h', e3, rfl⟩
          cases c with
          | dt d => exact ⟨e1, hu0⟩
          | hp d g => exact ⟨e1, hu0⟩
/-- what a written argument is behind the call -/
def pars : Nat → List Md → List V → List Ct → List (V × En)
  | j, .p :: ms, v :: vs, c :: cs => (v, .mu (some j) c) :: pars (j + 1) ms vs cs
  | j, .v :: ms, _ :: vs, cs => pars (j + 1) ms vs cs
  | j, .b :: ms, _ :: vs, cs => pars (j + 1) ms vs cs
  | _, _, _, _ => []
/-- behind the call -/
structure Lv (K : PySem.W.Frag) (ms : List Md) (vs : List V) (H : Hp) (Z : Zs) (F : List Addr) (Z' : Zs) (H' : Hp) (cs : List Ct) (xs : List Vl) (ws : List V) : Prop where
  bs : ∀ b o, H b = some o → b ∉ F → H' b = some o
  there : ∀ b, H b ≠ none → H' b ≠ none
  old : ∀ b, Z b → Z' b
  grow : ∀ b, Z' b → Z b ∨ H b = none
  zl : ∀ b, Z' b → H' b ≠ none
  ali : ∀ σ, Ali σ xs ws
  sep : ∃ F', Sep (inB H F Z vs) K Z' H' (pars 0 ms vs cs ++ tmp xs ws) F' ∧ ∀ b ∈ F', ¬ Z' b ∧ H' b ≠ none ∧ (H b = none ∨ b ∈ F)
/-- a promise by value -/
structure Spc where
  pre : List Ct → Prop
  post : List Ct → Vl → List Ct → Prop
  exc : List Ct → Addr → List (Str × Dt) → List Ct → Prop := fun _ _ _ _ => False
def toSp (K : PySem.W.Frag) (ms : List Md) (S : Spc) : Sp := fun vs H Q E => ∃ (as : List Ct) (Z : Zs) (F : List Addr), ArgsOk K Z H F vs ms as F ∧ (∀ b ∈ F, ¬ Z b ∧ H b ≠ none) ∧ (∀ b, Z b → H b ≠ none) ∧ S.pre as ∧
  (∀ y cs, S.post as y cs → ∀ Z' H' v, Lv K ms vs H Z F Z' H' cs [y] [v] → Q v H') ∧
  (∀ C fs cs, S.exc as C fs cs → ∀ Z' H' d, Lv K ms vs H Z F Z' H' cs [] [] → XdOk K Z' H' d fs → E (.ref C) d H')
theorem toSp_len {K : PySem.W.Frag} {ms : List Md} {S : Spc} {vs : List V} {H : Hp} {Q : VK} {E : XK} (h : toSp K ms S vs H Q E) : vs.length = ms.length := by
  obtain ⟨as, Z, F, h, _⟩ := h
  exact h.lens.1

/-! ### a body -/
def finds (η : Env) (j : Nat) : Option Ct := η.findSome? fun o => match o with
  | some (.mu (some k) c) => if k = j then some c else none
  | _ => none
def csOf (η : Env) : Nat → List Md → Option (List Ct)
  | _, [] => some []
  | j, .p :: ms => match finds η j, csOf η (j + 1) ms with
    | some c, some r => some (c :: r)
    | _, _ => none
  | j, _ :: ms => csOf η (j + 1) ms
def unal (η : Env) : Vl → Option Vl
  | .d x => some (.d x)
  | .nw x => some (.nw x)
  | .sl i => match η[i]? with
    | some (some (.mu none (.dt d))) => some (.nw d)
    | some (some (.mu none (.hp d g))) => some (.nc (.hp d g))
    | _ => (frz η (.sl i)).map .d
  | .gh _ _ => none
  | .nc c => some (.nc c)
def retD (ms : List Md) (Q : Vl → List Ct → Prop) : Vl → Env → Prop := fun x η => ∃ cs y, csOf η 0 ms = some cs ∧ unal η x = some y ∧ Q y cs
def excD (ms : List Md) (E : Addr → List (Str × Dt) → List Ct → Prop) : Addr → List (Str × Dt) → Env → Prop := fun C fs η => ∃ cs, csOf η 0 ms = some cs ∧ E C fs cs
abbrev bodyD (ms : List Md) (Q : Vl → List Ct → Prop) : EndsD := { nx := fun η => retD ms Q (.d .non) η, rt := retD ms Q }
/-- the slots at the start -/
def startE (n : Nat) (ms : List Md) (as : List Ct) : Env := (ents 0 ms as).map some ++ List.replicate (n - ms.length) none
theorem pack_none (k : Nat) : pack (List.replicate k none) (List.replicate k none) = [] := by
  induction k with
  | zero => rfl
  | succ k ih => exact ih
theorem pack_start : ∀ {vs : List V} {es : List En} (k : Nat), vs.length = es.length → pack (vs.map some ++ List.replicate k none) (es.map some ++ List.replicate k none) = vs.zip es
  | [], [], k, _ => pack_none k
  | v :: vs, e :: es, k, h => by
    have := pack_start (vs := vs) (es := es) k (by simpa using h)
    simp [pack, this]
  | [], _ :: _, _, h => by simp at h
  | _ :: _, [], _, h => by simp at h
theorem slots_start : ∀ {vs : List V} {es : List En} (k : Nat), vs.length = es.length → Slots (vs.map some ++ List.replicate k none) (es.map some ++ List.replicate k none)
  | [], [], k, _ => by
    induction k with
    | zero => trivial
    | succ k ih =>
      rw [List.replicate_succ]
      exact ⟨by simp, by simpa using ih⟩
  | v :: vs, e :: es, k, h => ⟨by simp, slots_start (vs := vs) (es := es) k (by simpa using h)⟩
  | [], _ :: _, _, h => by simp at h
  | _ :: _, [], _, h => by simp at h
theorem ents_length : ∀ {j : Nat} {ms : List Md} {cs : List Ct}, cs.length = ms.length → (ents j ms cs).length = ms.length
  | _, [], [], _ => rfl
  | j, m :: ms, c :: cs, h => by simp [ents, ents_length (j := j + 1) (ms := ms) (cs := cs) (by simpa using h)]
  | _, [], _ :: _, h => by simp at h
  | _, _ :: _, [], h => by simp at h
def parOf (j : Nat) : Option En → Option Ct
  | some (.mu (some k) c) => if k = j then some c else none
  | _ => none
theorem parOf_some {j : Nat} {o : Option En} {c : Ct} (h : parOf j o = some c) : o = some (.mu (some j) c) := by
  unfold parOf at h
  split at h
  · rename_i k c'
    by_cases e : k = j
    · rw [if_pos e] at h
      cases h
      rw [e]
    · rw [if_neg e] at h; cases h
  · cases h
theorem finds_eq (η : Env) (j : Nat) : finds η j = η.findSome? (parOf j) := rfl
theorem finds_some {η : Env} {j : Nat} {c : Ct} (h : finds η j = some c) : ∃ i : Nat, η[i]? = some (some (.mu (some j) c)) := by
  rw [finds_eq] at h
  obtain ⟨o, ho, q⟩ := List.exists_of_findSome?_eq_some h
  obtain ⟨i, hi⟩ := List.mem_iff_getElem?.mp ho
  exact ⟨i, by rw [hi, parOf_some q]⟩
theorem finds_set : ∀ {η : Env} {i j j' : Nat} {c : Ct}, η[i]? = some (some (.mu (some j) c)) → j' ≠ j → finds (η.set i none) j' = finds η j'
  | [], _, _, _, _, h, _ => by simp at h
  | o :: η, 0, j, j', c, h, hj => by
    simp at h
    subst h
    rw [finds_eq, finds_eq]
    show List.findSome? (parOf j') (none :: η) = List.findSome? (parOf j') (some (.mu (some j) c) :: η)
    have e1 : parOf j' (some (.mu (some j) c)) = none := by
      show (if j = j' then some c else none) = none
      rw [if_neg (Ne.symm hj)]
    rw [List.findSome?_cons, List.findSome?_cons, e1]
    rfl
  | o :: η, i + 1, j, j', c, h, hj => by
    have ih := finds_set (η := η) (i := i) (j := j) (j' := j') (c := c) (by simpa using h) hj
    rw [finds_eq, finds_eq] at ih ⊢
    show List.findSome? (parOf j') (o :: η.set i none) = List.findSome? (parOf j') (o :: η)
    rw [List.findSome?_cons, List.findSome?_cons, ih]
theorem csOf_set {η : Env} {i j : Nat} {c : Ct} (h : η[i]? = some (some (.mu (some j) c))) : ∀ (ms : List Md) (j' : Nat), j < j' → csOf (η.set i none) j' ms = csOf η j' ms
  | [], _, _ => rfl
  | .p :: ms, j', hj => by
    show (match finds (η.set i none) j', csOf (η.set i none) (j' + 1) ms with | some c, some r => some (c :: r) | _, _ => none) = (match finds η j', csOf η (j' + 1) ms with | some c, some r => some (c :: r) | _, _ => none)
    rw [finds_set h (by omega), csOf_set h ms (j' + 1) (by omega)]
  | .v :: ms, j', hj => csOf_set h ms (j' + 1) (by omega)
  | .b :: ms, j', hj => csOf_set h ms (j' + 1) (by omega)
section
variable {K : PySem.W.Frag} {B : Base} {Z : Zs} {H : Hp} {σ : L2.St} {η : Env} {τ : List (V × En)}
/-- what was handed in is taken out of the slots -/
theorem Ok.outs : ∀ {ms : List Md} {vs : List V} {cs : List Ct} {j : Nat} {η : Env} {τ : List (V × En)}, Ok B K Z H σ η τ → csOf η j ms = some cs → vs.length = ms.length → (∀ k v, vs[k]? = some v → B.V0[j + k]? = some v) →
    ∃ η', Ok B K Z H σ η' (pars j ms vs cs ++ τ) ∧ ∀ (i : Nat) c, η[i]? = some (some (.mu none c)) → η'[i]? = some (some (.mu none c)) := by
  intro ms
  induction ms with
  | nil =>
    intro vs cs j η τ o hc hl hv
    cases vs with
    | nil => exact ⟨η, o, fun i c h => h⟩
    | cons _ _ => simp at hl
  | cons m ms ih =>
    intro vs cs j η τ o hc hl hv
    cases vs with
    | nil => simp at hl
    | cons v vs =>
      have hv0 : B.V0[j]? = some v := by simpa using hv 0 v rfl
      have hv1 : ∀ k v', vs[k]? = some v' → B.V0[j + 1 + k]? = some v' := fun k v' e => by
        have := hv (k + 1) v' (by simpa using e)
        rw [show j + 1 + k = j + (k + 1) by omega]
        exact this
      cases m with
      | v => exact ih (j := j + 1) o hc (by simpa using hl) hv1
      | b => exact ih (j := j + 1) o hc (by simpa using hl) hv1
      | p =>
        have hc' : (match finds η j, csOf η (j + 1) ms with | some c, some r => some (c :: r) | _, _ => none) = some cs := hc
        cases e1 : finds η j with
        | none => rw [e1] at hc'; cases hc'
        | some c =>
          cases e2 : csOf η (j + 1) ms with
          | none => rw [e1, e2] at hc'; cases hc'
          | some r =>
            rw [e1, e2] at hc'
            cases hc'
            obtain ⟨i, hi⟩ := finds_some e1
            obtain ⟨v', hv', o1⟩ := o.take hi
            obtain ⟨F1, q⟩ := o1.head
            have e3 : B.V0[j]? = some v' := q.2
            rw [hv0] at e3
            cases e3
            rw [← csOf_set hi ms (j + 1) (by omega)] at e2
            obtain ⟨η', o2, k⟩ := ih (j := j + 1) o1 e2 (by simpa using hl) hv1
            refine ⟨η', ?_, fun i' c' h' => k i' c' ?_⟩
            · refine o2.perm ?_
              exact List.perm_middle
            · by_cases ei : i' = i
              · subst ei
                rw [hi] at h'
                cases h'
              · rw [List.getElem?_set_ne (Ne.symm ei)]
                exact h'
/-- what is told behind a body -/
theorem lv_of {ms : List Md} {vs : List V} {F : List Addr} {Z' : Zs} {H' : Hp} {cs : List Ct} {y : List Vl} {ws : List V} {η' : Env} (o : Ok (inB H F Z vs) K Z' H' σ η' (pars 0 ms vs cs ++ tmp y ws)) (ha : ∀ σ, Ali σ y ws) : Lv K ms vs H Z F Z' H' cs y ws := by
  obtain ⟨F', h⟩ := o
  obtain ⟨F1, F2, s1, s2, _, eF⟩ := Sep.append.mp h.sep
  exact ⟨h.base, h.there, h.old, h.grow, h.zl, ha, F2, s2, fun b hb => h.live b (by rw [eF]; exact List.mem_append_right _ hb)⟩
theorem unal_ok {x y : Vl} {v : V} {η : Env} (o : OkV B K Z H σ η τ [x] [v]) (h : unal η x = some y) : (∀ σ, Ali σ [y] [v]) ∧ ∃ Z' : Zs, ∃ η', (∀ b, Z b → Z' b) ∧ Ok B K Z' H σ η' (tmp [y] [v] ++ τ) ∧ ∀ (j : Nat) ms, csOf η' j ms = csOf η j ms := by
  cases x with
  | d x => cases h; exact ⟨fun _ => trivial, Z, η, fun _ z => z, o.2, fun _ _ => rfl⟩
  | nw x => cases h; exact ⟨fun _ => trivial, Z, η, fun _ z => z, o.2, fun _ _ => rfl⟩
  | nc x => cases h; exact ⟨fun _ => trivial, Z, η, fun _ z => z, o.2, fun _ _ => rfl⟩
  | gh i p => cases h
  | sl i =>
    unfold unal at h
    simp only at h
    split at h
    · rename_i d e
      cases h
      obtain ⟨w, hw, o'⟩ := o.2.take e
      rw [o.1.1] at hw; cases hw
      refine ⟨fun _ => trivial, Z, η.set i none, fun _ z => z, o', fun j ms => ?_⟩
      have fs : ∀ {η : Env} {i j' : Nat} {c : Ct}, η[i]? = some (some (.mu none c)) → finds (η.set i none) j' = finds η j' := by
        intro η
        induction η with
        | nil => intro i j' c h; simp at h
        | cons o η ih =>
          intro i j' c h
          cases i with
          | zero =>
            simp at h
            subst h
            rfl
          | succ i =>
            have := ih (i := i) (j' := j') (c := c) (by simpa using h)
            rw [finds_eq, finds_eq] at this ⊢
            show List.findSome? (parOf j') (o :: η.set i none) = List.findSome? (parOf j') (o :: η)
            rw [List.findSome?_cons, List.findSome?_cons, this]
      induction ms generalizing j with
      | nil => rfl
      | cons m ms ih =>
        cases m with
        | v => exact ih (j + 1)
        | b => exact ih (j + 1)
        | p =>
          show (match finds (η.set i none) j, csOf (η.set i none) (j + 1) ms with | some c, some r => some (c :: r) | _, _ => none) = (match finds η j, csOf η (j + 1) ms with | some c, some r => some (c :: r) | _, _ => none)
          rw [fs e, ih (j + 1)]
    · rename_i d g e
      cases h
      obtain ⟨w, hw, o'⟩ := o.2.take e
      rw [o.1.1] at hw; cases hw
      refine ⟨fun _ => trivial, Z, η.set i none, fun _ z => z, o', fun j ms => ?_⟩
      have fs : ∀ {η : Env} {i j' : Nat} {c : Ct}, η[i]? = some (some (.mu none c)) → finds (η.set i none) j' = finds η j' := by
        intro η
        induction η with
        | nil => intro i j' c h; simp at h
        | cons o η ih =>
          intro i j' c h
          cases i with
          | zero =>
            simp at h
            subst h
            rfl
          | succ i =>
            have := ih (i := i) (j' := j') (c := c) (by simpa using h)
            rw [finds_eq, finds_eq] at this ⊢
            show List.findSome? (parOf j') (o :: η.set i none) = List.findSome? (parOf j') (o :: η)
            rw [List.findSome?_cons, List.findSome?_cons, this]
      induction ms generalizing j with
      | nil => rfl
      | cons m ms ih =>
        cases m with
        | v => exact ih (j + 1)
        | b => exact ih (j + 1)
        | p =>
          show (match finds (η.set i none) j, csOf (η.set i none) (j + 1) ms with | some c, some r => some (c :: r) | _, _ => none) = (match finds η j, csOf η (j + 1) ms with | some c, some r => some (c :: r) | _, _ => none)
          rw [fs e, ih (j + 1)]
    · cases e : frz η (.sl i) with
      | none => rw [e] at h; cases h
      | some d =>
        rw [e] at h
        cases h
        obtain ⟨Z', z, o'⟩ := o.frz e
        exact ⟨fun _ => trivial, Z', η, z, o', fun _ _ => rfl⟩
/-- THE BODY: its reading by value, from what was handed in, gives the promise -/
theorem run_body {ms : List Md} {S : Spc} {vs : List V} {N : List Str} {Q : VK} {E : XK} {t : TS} {r : List Ct → RS} (h : toSp K ms S vs H Q E) (hN : ms.length ≤ N.length)
    (hd : ∀ as, DS K ⟨fun cls d _ H => E cls d H, excD ms (S.exc as)⟩ t (r as)) (hr : ∀ as, S.pre as → as.length = ms.length → r as (bodyD ms (S.post as)) (startE N.length ms as)) :
    t { nx := fun _ H' => Q .non H', rt := Q } (start N vs) H := by
  obtain ⟨as, Z, F, ha, hF, hZ, hp, hq, he⟩ := h
  obtain ⟨l1, l2⟩ := ha.lens
  have hs := args_sep (us := vs) 0 (fun k v e => by simpa using e) ha
  have l3 : vs.length = (ents 0 ms as).length := by rw [ents_length l2, l1]
  have o : Ok (inB H F Z vs) K Z H (start N vs) (startE N.length ms as) [] := by
    refine ⟨F, ?_, ?_, fun b hb => ⟨(hF b hb).1, (hF b hb).2, .inr hb⟩, fun b o e _ => e, fun b n => n, fun b z => .inl z, fun b z => z, hZ⟩
    · show Slots (vs.map some ++ List.replicate (N.length - vs.length) none) ((ents 0 ms as).map some ++ List.replicate (N.length - ms.length) none)
      rw [l1]
      exact slots_start _ l3
    · rw [List.append_nil]
      show Sep _ K Z H (pack (vs.map some ++ List.replicate (N.length - vs.length) none) ((ents 0 ms as).map some ++ List.replicate (N.length - ms.length) none)) F
      rw [l1, pack_start _ l3]
      exact hs
  have fin : ∀ (x : Vl) (η : Env) (Z' : Zs) (H' : Hp) (σ' : L2.St) (v : V), retD ms (S.post as) x η → OkV (inB H F Z vs) K Z' H' σ' η [] [x] [v] → Q v H' := by
    rintro x η Z' H' σ' v ⟨cs, y, e1, e2, e3⟩ o'
    obtain ⟨al, Z2, η2, z2, o2, k2⟩ := unal_ok o' e2
    rw [← k2] at e1
    obtain ⟨η3, o3, _⟩ := o2.outs (vs := vs) e1 l1 (fun k v e => by simpa using e)
    have o4 : Ok (inB H F Z vs) K Z2 H' σ' η3 (pars 0 ms vs cs ++ tmp [y] [v]) := by simpa using o3
    exact hq y cs e3 Z2 H' v (lv_of o4 al)
  refine (hd as).run (inB H F Z vs) Z H (start N vs) _ [] _ ?_ o ((hd as).mono _ _ _ ⟨?_, ?_, ?_, ?_⟩ (hr as hp l2))
  · rintro C fs η Z' H' σ' d ⟨cs, e1, e2⟩ o' x
    obtain ⟨η3, o3, _⟩ := o'.outs (vs := vs) e1 l1 (fun k v e => by simpa using e)
    have o4 : Ok (inB H F Z vs) K Z' H' σ' η3 (pars 0 ms vs cs ++ tmp [] []) := o3
    exact he C fs cs e2 Z' H' d (lv_of o4 fun _ => trivial) x
  · intro η w Z' H' σ' o'
    exact fin _ η Z' H' σ' .non w (.d o' .non)
  · intro x η w Z' H' σ' v o'
    exact fin x η Z' H' σ' v w o'
  · intro η w; exact w.elim
  · intro η w; exact w.elim
end
end D

set_option Elab.async false
set_option linter.all false
set_option maxRecDepth 100000
set_option maxHeartbeats 4000000
namespace D
open PySem PySem.Spec PyProof.Rows L2
def flagAt (η : Env) (i : Nat) : Option Nat := match η[i]? with
  | some (some (.mu p _)) => p
  | _ => none
def remP : List Md → List Vl → Env → Env
  | .p :: ms, .sl i :: xs, η => remP ms xs (η.set i none)
  | .p :: ms, _ :: xs, η => remP ms xs η
  | .v :: ms, _ :: xs, η => remP ms xs η
  | .b :: ms, _ :: xs, η => remP ms xs η
  | _, _, η => η
def flagsP : List Md → List Vl → Env → List (Option Nat)
  | .p :: ms, .sl i :: xs, η => flagAt η i :: flagsP ms xs (η.set i none)
  | .p :: ms, _ :: xs, η => none :: flagsP ms xs η
  | .v :: ms, _ :: xs, η => flagsP ms xs η
  | .b :: ms, _ :: xs, η => flagsP ms xs η
  | _, _, _ => []
def conP : List Md → List Vl → Env → Option (List Ct)
  | .p :: ms, .sl i :: xs, η => match η[i]? with
    | some (some (.mu _ c)) => (conP ms xs (η.set i none)).map (c :: ·)
    | _ => none
  | .p :: ms, .nw d :: xs, η => (conP ms xs η).map (.dt d :: ·)
  | .p :: ms, .nc c :: xs, η => (conP ms xs η).map (c :: ·)
  | .p :: _, .d _ :: _, _ => none
  | .p :: _, .gh _ _ :: _, _ => none
  | .v :: ms, _ :: xs, η => conP ms xs η
  | .b :: ms, _ :: xs, η => conP ms xs η
  | [], [], _ => some []
  | _, _, _ => none
def entD (η : Env) : List Md → List Vl → List Ct → Option (List Ct)
  | .p :: ms, _ :: xs, c :: cs => (entD η ms xs cs).map (c :: ·)
  | .v :: ms, x :: xs, cs => match frz η x with
    | some d => (entD η ms xs cs).map (.dt d :: ·)
    | none => none
  | .b :: ms, x :: xs, cs => match look η x with
    | some d => (entD η ms xs cs).map (.dt d :: ·)
    | none => none
  | [], [], [] => some []
  | _, _, _ => none
def argsD (ms : List Md) (xs : List Vl) (η : Env) : Option (List Ct) := match conP ms xs η with
  | some cs => entD (remP ms xs η) ms xs cs
  | none => none
/-- the written arguments, with their flags -/
def pl : List Md → List V → List (Option Nat) → List Ct → List (V × En)
  | .p :: ms, v :: vs, f :: fl, c :: cs => (v, .mu f c) :: pl ms vs fl cs
  | .v :: ms, _ :: vs, fl, cs => pl ms vs fl cs
  | .b :: ms, _ :: vs, fl, cs => pl ms vs fl cs
  | _, _, _, _ => []
/-- what else is held of the arguments -/
def tmpR : List Md → List Vl → List V → List (V × En)
  | .p :: ms, _ :: xs, _ :: vs => tmpR ms xs vs
  | .v :: ms, x :: xs, v :: vs => tmp [x] [v] ++ tmpR ms xs vs
  | .b :: ms, x :: xs, v :: vs => tmp [x] [v] ++ tmpR ms xs vs
  | _, _, _ => []
def putP : List Md → List Vl → List (Option Nat) → List Ct → Env → Env
  | .p :: ms, .sl i :: xs, f :: fl, c :: cs, η => putP ms xs fl cs (η.set i (some (.mu f c)))
  | .p :: ms, _ :: xs, _ :: fl, _ :: cs, η => putP ms xs fl cs η
  | .v :: ms, _ :: xs, fl, cs, η => putP ms xs fl cs η
  | .b :: ms, _ :: xs, fl, cs, η => putP ms xs fl cs η
  | _, _, _, _, η => η
/-- the slots behind the call -/
def aft (ms : List Md) (xs : List Vl) (η : Env) (cs : List Ct) : Env := putP ms xs (flagsP ms xs η) cs (remP ms xs η)
section
variable {K : PySem.W.Frag} {B : Base} {Z : Zs} {H : Hp} {σ : L2.St}
theorem tmp_cons {x : Vl} {xs : List Vl} {v : V} {vs : List V} : tmp (x :: xs) (v :: vs) = tmp [x] [v] ++ tmp xs vs := by cases x <;> rfl
/-- 1. what is written is taken out of its slots -/
theorem call_outs : ∀ {ms : List Md} {xs : List Vl} {vs : List V} {η : Env} {cs : List Ct} {τ : List (V × En)}, Ali σ xs vs → conP ms xs η = some cs → Ok B K Z H σ η (tmp xs vs ++ τ) →
    Ok B K Z H σ (remP ms xs η) (pl ms vs (flagsP ms xs η) cs ++ (tmpR ms xs vs ++ τ)) := by
  intro ms
  induction ms with
  | nil =>
    intro xs vs η cs τ ha hc o
    cases xs with
    | nil =>
      cases vs with
      | nil => exact o
      | cons _ _ => exact ha.elim
    | cons _ _ => cases hc
  | cons m ms ih =>
    intro xs vs η cs τ ha hc o
    cases xs with
    | nil => cases m <;> cases hc
    | cons x xs =>
      cases vs with
      | nil => cases x <;> exact ha.elim
      | cons v vs =>
        have ha' : Ali σ xs vs := by cases x <;> first | exact ha.2 | exact ha
        have keep : ∀ (e : List (V × En)), e = tmp [x] [v] → conP ms xs η = some cs → Ok B K Z H σ (remP ms xs η) (pl ms vs (flagsP ms xs η) cs ++ ((tmp [x] [v] ++ tmpR ms xs vs) ++ τ)) := by
          intro e he hc
          have o1 : Ok B K Z H σ η (tmp xs vs ++ (tmp [x] [v] ++ τ)) := by
            refine o.perm ?_
            rw [tmp_cons, ← List.append_assoc]
            exact List.Perm.append_right _ List.perm_append_comm
          refine (ih ha' hc o1).perm (List.Perm.append_left _ ?_)
          rw [← List.append_assoc]
          exact List.Perm.append_right _ List.perm_append_comm
        cases m with
        | v => exact keep _ rfl hc
        | b => exact keep _ rfl hc
        | p =>
          cases x with
          | d y => cases hc
          | nw y =>
            have hc' : (conP ms xs η).map (Ct.dt y :: ·) = some cs := hc
            cases e : conP ms xs η with
            | none => rw [e] at hc'; cases hc'
            | some r =>
              rw [e] at hc'
              cases hc'
              have o1 : Ok B K Z H σ η (tmp xs vs ++ ((v, .mu none (.dt y)) :: τ)) := o.perm List.perm_middle.symm
              refine (ih ha' e o1).perm ?_
              show (pl ms vs (flagsP ms xs η) r ++ (tmpR ms xs vs ++ ((v, .mu none (.dt y)) :: τ))).Perm ((v, .mu none (.dt y)) :: (pl ms vs (flagsP ms xs η) r ++ (tmpR ms xs vs ++ τ)))
              rw [← List.append_assoc, ← List.append_assoc]
              exact List.perm_middle
          | gh i p => cases hc
          | nc y =>
            have hc' : (conP ms xs η).map (y :: ·) = some cs := hc
            cases e : conP ms xs η with
            | none => rw [e] at hc'; cases hc'
            | some r =>
              rw [e] at hc'
              cases hc'
              have o1 : Ok B K Z H σ η (tmp xs vs ++ ((v, .mu none y) :: τ)) := o.perm List.perm_middle.symm
              refine (ih ha' e o1).perm ?_
              show (pl ms vs (flagsP ms xs η) r ++ (tmpR ms xs vs ++ ((v, .mu none y) :: τ))).Perm ((v, .mu none y) :: (pl ms vs (flagsP ms xs η) r ++ (tmpR ms xs vs ++ τ)))
              rw [← List.append_assoc, ← List.append_assoc]
              exact List.perm_middle
          | sl i =>
            have hc' : (match η[i]? with | some (some (.mu _ c)) => (conP ms xs (η.set i none)).map (c :: ·) | _ => none) = some cs := hc
            split at hc'
            · rename_i p c hi
              cases e : conP ms xs (η.set i none) with
              | none => rw [e] at hc'; cases hc'
              | some r =>
                rw [e] at hc'
                cases hc'
                obtain ⟨w, hw, o1⟩ := o.take hi
                rw [ha.1] at hw; cases hw
                have o2 : Ok B K Z H σ (η.set i none) (tmp xs vs ++ ((v, .mu p c) :: τ)) := o1.perm List.perm_middle.symm
                refine (ih ha' e o2).perm ?_
                have ef : flagAt η i = p := by unfold flagAt; rw [hi]
                show (pl ms vs (flagsP ms xs (η.set i none)) r ++ (tmpR ms xs vs ++ ((v, .mu p c) :: τ))).Perm ((v, .mu (flagAt η i) c) :: (pl ms vs (flagsP ms xs (η.set i none)) r ++ (tmpR ms xs vs ++ τ)))
                rw [ef, ← List.append_assoc, ← List.append_assoc]
                exact List.perm_middle
            · cases hc'
/-- a thing that may be looked at -/
def BorOk (K : PySem.W.Frag) (Z : Zs) (H : Hp) (G : List Addr) (v : V) (d : Dt) : Prop := BRp K Z H v d ∨ ∃ a, v = .ref a ∧ (∃ o, H a = some o) ∧ a ∉ G ∧ BorAt K Z H a d
/-- what is known of the arguments that are not written -/
def Vb (K : PySem.W.Frag) (Z : Zs) (H : Hp) (G : List Addr) : List Md → List V → List Ct → Prop
  | .p :: ms, _ :: vs, _ :: as => Vb K Z H G ms vs as
  | .v :: ms, v :: vs, .dt d :: as => Rp K Z H v d ∧ Vb K Z H G ms vs as
  | .b :: ms, v :: vs, .dt d :: as => BorOk K Z H G v d ∧ Vb K Z H G ms vs as
  | [], [], [] => True
  | _, _, _ => False
theorem Vb.mono {Z' : Zs} {G : List Addr} (h1 : ∀ b, Z b → Z' b) : ∀ {ms : List Md} {vs : List V} {as : List Ct}, Vb K Z H G ms vs as → Vb K Z' H G ms vs as := by
  intro ms
  induction ms with
  | nil => intro vs as h; cases vs <;> cases as <;> first | trivial | exact h.elim
  | cons m ms ih =>
    intro vs as h
    cases vs with
    | nil => cases m <;> cases as <;> exact h.elim
    | cons v vs =>
      cases as with
      | nil => cases m <;> exact h.elim
      | cons a as =>
        cases m with
        | p => exact ih (vs := vs) (as := as) h
        | v => cases a with
          | dt d => exact ⟨h.1.mono h1 fun _ _ _ e => e, ih h.2⟩
          | hp d g => exact h.elim
        | b => cases a with
          | dt d => exact ⟨h.1.imp (fun r => r.mono h1 fun _ _ _ e => e) fun ⟨a, e1, e2, e3, e4⟩ => ⟨a, e1, e2, e3, e4.mono h1 fun _ _ _ e => e⟩, ih h.2⟩
          | hp d g => exact h.elim
/-- 2. what is handed in by value stays from now on -/
theorem call_vals {η : Env} {κ : List (V × En)} {G : List Addr} (hG : ∀ b ∈ G, B.H0 b = none ∨ b ∈ B.F0) : ∀ {ms : List Md} {xs : List Vl} {vs : List V} {cs as : List Ct} {τ : List (V × En)} {Z : Zs}, Ali σ xs vs → entD η ms xs cs = some as → Ok B K Z H σ η (κ ++ (tmpR ms xs vs ++ τ)) →
    (∀ (Z' : Zs) (i : Nat) (v : V) (p : Option Nat) (d : Dt), (∀ b, Z b → Z' b) → σ[i]? = some (some v) → (η[i]? = some (some (.mu p (.dt d))) ∨ ∃ g, η[i]? = some (some (.mu p (.hp d g)))) → ∀ τ', Ok B K Z' H σ η (κ ++ τ') → ∃ a, v = V.ref a ∧ (∃ o, H a = some o) ∧ a ∉ G ∧ BorAt K Z' H a d) →
    (∀ (Z' : Zs) (i : Nat) (p : Addr) (d : Dt), (∀ b, Z b → Z' b) → look η (.gh i p) = some d → ∀ τ', Ok B K Z' H σ η (κ ++ τ') → (∃ o, H p = some o) ∧ p ∉ G ∧ BorAt K Z' H p d) →
    ∃ Z' : Zs, (∀ b, Z b → Z' b) ∧ Ok B K Z' H σ η (κ ++ τ) ∧ Vb K Z' H G ms vs as := by
  intro ms
  induction ms with
  | nil =>
    intro xs vs cs as τ Z ha he o hown howg
    cases xs with
    | nil =>
      cases vs with
      | nil =>
        cases cs with
        | nil => cases he; exact ⟨Z, fun _ z => z, o, trivial⟩
        | cons _ _ => cases he
      | cons _ _ => exact ha.elim
    | cons _ _ => cases cs <;> cases he
  | cons m ms ih =>
    intro xs vs cs as τ Z ha he o hown howg
    cases xs with
    | nil => cases m <;> cases cs <;> cases he
    | cons x xs =>
      cases vs with
      | nil => cases x <;> exact ha.elim
      | cons v vs =>
        have ha' : Ali σ xs vs := by cases x <;> first | exact ha.2 | exact ha
        have ov : OkV B K Z H σ η (κ ++ (tmpR ms xs vs ++ τ)) [x] [v] → OkV B K Z H σ η (κ ++ (tmpR ms xs vs ++ τ)) [x] [v] := fun h => h
        cases m with
        | p =>
          cases cs with
          | nil => cases he
          | cons c cs =>
            have he' : (entD η ms xs cs).map (c :: ·) = some as := he
            cases e : entD η ms xs cs with
            | none => rw [e] at he'; cases he'
            | some r =>
              rw [e] at he'
              cases he'
              exact ih ha' e o hown howg
        | v =>
          have he' : (match frz η x with | some d => (entD η ms xs cs).map (.dt d :: ·) | none => none) = some as := he
          cases e1 : frz η x with
          | none => rw [e1] at he'; cases he'
          | some d =>
            cases e : entD η ms xs cs with
            | none => rw [e1, e] at he'; cases he'
            | some r =>
              rw [e1, e] at he'
              cases he'
              have o1 : OkV B K Z H σ η (κ ++ (tmpR ms xs vs ++ τ)) [x] [v] := by
                refine ⟨by cases x <;> first | exact ⟨ha.1, trivial⟩ | trivial, o.perm ?_⟩
                show (κ ++ ((tmp [x] [v] ++ tmpR ms xs vs) ++ τ)).Perm (tmp [x] [v] ++ (κ ++ (tmpR ms xs vs ++ τ)))
                rw [List.append_assoc]
                exact pm3
              obtain ⟨Z1, z1, o2⟩ := o1.frz e1
              have rv := o2.rp
              obtain ⟨Z2, z2, o3, vb⟩ := ih ha' e o2.drop (fun Z' i w p d' z => hown Z' i w p d' fun b h => z b (z1 b h)) (fun Z' i p d' z => howg Z' i p d' fun b h => z b (z1 b h))
              exact ⟨Z2, fun b z => z2 b (z1 b z), o3, rv.mono z2 fun _ _ _ e => e, vb⟩
        | b =>
          have he' : (match look η x with | some d => (entD η ms xs cs).map (.dt d :: ·) | none => none) = some as := he
          cases e1 : look η x with
          | none => rw [e1] at he'; cases he'
          | some d =>
            cases e : entD η ms xs cs with
            | none => rw [e1, e] at he'; cases he'
            | some r =>
              rw [e1, e] at he'
              cases he'
              have o1 : OkV B K Z H σ η (κ ++ (tmpR ms xs vs ++ τ)) [x] [v] := by
                refine ⟨by cases x <;> first | exact ⟨ha.1, trivial⟩ | trivial, o.perm ?_⟩
                show (κ ++ ((tmp [x] [v] ++ tmpR ms xs vs) ++ τ)).Perm (tmp [x] [v] ++ (κ ++ (tmpR ms xs vs ++ τ)))
                rw [List.append_assoc]
                exact pm3
              have fr : ∀ y, x = .d y ∨ x = .nw y → frz η x = some d := by
                rintro y (rfl | rfl) <;> exact e1
              cases x with
              | d y =>
                obtain ⟨Z1, z1, o2⟩ := o1.frz (fr y (.inl rfl))
                obtain ⟨Z2, z2, o3, vb⟩ := ih ha' e o2.drop (fun Z' i w p d' z => hown Z' i w p d' fun b h => z b (z1 b h)) (fun Z' i p d' z => howg Z' i p d' fun b h => z b (z1 b h))
                exact ⟨Z2, fun b z => z2 b (z1 b z), o3, .inl (.inl (o2.rp.mono z2 fun _ _ _ e => e)), vb⟩
              | nw y =>
                obtain ⟨Z1, z1, o2⟩ := o1.frz (fr y (.inr rfl))
                obtain ⟨Z2, z2, o3, vb⟩ := ih ha' e o2.drop (fun Z' i w p d' z => hown Z' i w p d' fun b h => z b (z1 b h)) (fun Z' i p d' z => howg Z' i p d' fun b h => z b (z1 b h))
                exact ⟨Z2, fun b z => z2 b (z1 b z), o3, .inl (.inl (o2.rp.mono z2 fun _ _ _ e => e)), vb⟩
              | gh i p =>
                obtain ⟨Z2, z2, o3, vb⟩ := ih ha' e o1.ok hown howg
                obtain ⟨q1, q2, q3⟩ := howg Z2 i p d z2 e1 τ o3
                exact ⟨Z2, z2, o3, .inr ⟨p, ha.1, q1, q2, q3⟩, vb⟩
              | nc c =>
                cases c with
                | dt y =>
                  obtain ⟨Z1, z1, o2⟩ := o1.frz (d := y) rfl
                  cases e1
                  obtain ⟨Z2, z2, o3, vb⟩ := ih ha' e o2.drop (fun Z' i w p d' z => hown Z' i w p d' fun b h => z b (z1 b h)) (fun Z' i p d' z => howg Z' i p d' fun b h => z b (z1 b h))
                  exact ⟨Z2, fun b z => z2 b (z1 b z), o3, .inl (.inl (o2.rp.mono z2 fun _ _ _ e => e)), vb⟩
                | hp y g => cases e1
              | sl i =>
                obtain ⟨Z2, z2, o3, vb⟩ := ih ha' e o1.ok hown howg
                refine ⟨Z2, z2, o3, ?_, vb⟩
                rcases look_sl e1 with ⟨p, q⟩ | ⟨p, g, q⟩ | q | ⟨a', q⟩
                · exact .inr (hown Z2 i v p d z2 ha.1 (.inl q) τ o3)
                · exact .inr (hown Z2 i v p d z2 ha.1 (.inr ⟨g, q⟩) τ o3)
                · have o4 := o3.dup ha.1 q
                  obtain ⟨F1, _, h⟩ := o4.head
                  rcases h with h | ⟨a, h1, ⟨ob, h2⟩, h3, h4⟩
                  · exact .inl h
                  · refine .inr ⟨a, h1, ?_, fun m => ?_, h4⟩
                    · obtain ⟨F2, o5⟩ := o4
                      exact ⟨ob, o5.base a ob h2 h3⟩
                    · rcases hG a m with z | z
                      · rw [h2] at z; cases z
                      · exact h3 z
                · obtain ⟨w, hw, o4⟩ := o3.take q
                  rw [ha.1] at hw; cases hw
                  obtain ⟨F1, h⟩ := o4.head
                  obtain ⟨F2, o5⟩ := o4
                  obtain ⟨h1, h2, ⟨ob, h3⟩, h4⟩ := h.seeB o5.base
                  refine .inr ⟨a', h1, ⟨ob, o5.base a' ob h3 h4⟩, fun m => ?_, h2⟩
                  rcases hG a' m with z | z
                  · rw [h3] at z; cases z
                  · exact h4 z
/-- 3. the arguments as the callee finds them -/
theorem args_of {G : List Addr} : ∀ {ms : List Md} {xs : List Vl} {vs : List V} {fl : List (Option Nat)} {cs as : List Ct} {F : List Addr} {η : Env}, Vb K Z H G ms vs as → entD η ms xs cs = some as → fl.length = cs.length → Sep B K Z H (pl ms vs fl cs) F → ArgsOk K Z H G vs ms as F := by
  intro ms
  induction ms with
  | nil =>
    intro xs vs fl cs as F η hv he hl hs
    cases vs with
    | nil =>
      cases as with
      | nil => exact hs
      | cons _ _ => exact hv.elim
    | cons _ _ => cases as <;> exact hv.elim
  | cons m ms ih =>
    intro xs vs fl cs as F η hv he hl hs
    cases xs with
    | nil => cases m <;> cases cs <;> cases he
    | cons x xs =>
      cases vs with
      | nil => cases m <;> cases as <;> exact hv.elim
      | cons v vs =>
        cases as with
        | nil => cases m <;> exact hv.elim
        | cons a as =>
          cases m with
          | p =>
            cases cs with
            | nil => cases he
            | cons c cs =>
              cases fl with
              | nil => simp at hl
              | cons f fl =>
                have he' : (entD η ms xs cs).map (c :: ·) = some (a :: as) := he
                cases e : entD η ms xs cs with
                | none => rw [e] at he'; cases he'
                | some r =>
                  rw [e] at he'
                  cases he'
                  obtain ⟨F1, F2, e1, e2, e3, rfl⟩ := hs
                  exact ⟨F1, F2, e1.1, ih hv e (by simpa using hl) e2, e3, rfl⟩
          | v =>
            cases a with
            | hp d g => exact hv.elim
            | dt d =>
              have he' : (match frz η x with | some d => (entD η ms xs cs).map (.dt d :: ·) | none => none) = some (.dt d :: as) := he
              cases e1 : frz η x with
              | none => rw [e1] at he'; cases he'
              | some d' =>
                cases e : entD η ms xs cs with
                | none => rw [e1, e] at he'; cases he'
                | some r =>
                  rw [e1, e] at he'
                  cases he'
                  exact ⟨hv.1, ih hv.2 e hl hs⟩
          | b =>
            cases a with
            | hp d g => exact hv.elim
            | dt d =>
              have he' : (match look η x with | some d => (entD η ms xs cs).map (.dt d :: ·) | none => none) = some (.dt d :: as) := he
              cases e1 : look η x with
              | none => rw [e1] at he'; cases he'
              | some d' =>
                cases e : entD η ms xs cs with
                | none => rw [e1, e] at he'; cases he'
                | some r =>
                  rw [e1, e] at he'
                  cases he'
                  exact ⟨hv.1, ih hv.2 e hl hs⟩
theorem flags_len : ∀ {ms : List Md} {xs : List Vl} {η : Env} {cs : List Ct}, conP ms xs η = some cs → (flagsP ms xs η).length = cs.length := by
  intro ms
  induction ms with
  | nil =>
    intro xs η cs h
    cases xs with
    | nil => cases h; rfl
    | cons _ _ => cases h
  | cons m ms ih =>
    intro xs η cs h
    cases xs with
    | nil => cases m <;> cases h
    | cons x xs =>
      cases m with
      | v => exact ih (xs := xs) (η := η) h
      | b => exact ih (xs := xs) (η := η) h
      | p =>
        cases x with
        | d y => cases h
        | nw y =>
          have h' : (conP ms xs η).map (Ct.dt y :: ·) = some cs := h
          cases e : conP ms xs η with
          | none => rw [e] at h'; cases h'
          | some r =>
            rw [e] at h'
            cases h'
            show (none :: flagsP ms xs η).length = _
            simp [ih e]
        | gh i p => cases h
        | nc y =>
          have h' : (conP ms xs η).map (y :: ·) = some cs := h
          cases e : conP ms xs η with
          | none => rw [e] at h'; cases h'
          | some r =>
            rw [e] at h'
            cases h'
            show (none :: flagsP ms xs η).length = _
            simp [ih e]
        | sl i =>
          have hc' : (match η[i]? with | some (some (.mu _ c)) => (conP ms xs (η.set i none)).map (c :: ·) | _ => none) = some cs := h
          split at hc'
          · cases e : conP ms xs (η.set i none) with
            | none => rw [e] at hc'; cases hc'
            | some r =>
              rw [e] at hc'
              cases hc'
              show (flagAt η i :: flagsP ms xs (η.set i none)).length = _
              simp [ih e]
          · cases hc'
/-- the flags of the written ones, for what they hold behind the call -/
theorem pl_back {H' : Hp} {Z' : Zs} {F : List Addr} {us : List V} (hn : ∀ b, H b = none → B.H0 b = none) {ys : List Vl} {ws : List V} (hy : ∀ σ, Ali σ ys ws) : ∀ {ms : List Md} {vs : List V} {fl : List (Option Nat)} {cs cs' : List Ct} {j : Nat} {F' F1 : List Addr}, fl.length = cs.length →
    Sep B K Z H (pl ms vs fl cs) F1 → Sep (inB H F Z us) K Z' H' (pars j ms vs cs' ++ tmp ys ws) F' → ∃ F2, Sep B K Z' H' (pl ms vs fl cs' ++ tmp ys ws) F2 ∧ ∀ b ∈ F2, b ∈ F' := by
  intro ms
  have base : ∀ {ys : List Vl} {ws : List V} {F' : List Addr}, (∀ σ, Ali σ ys ws) → Sep (inB H F Z us) K Z' H' (tmp ys ws) F' → ∃ F2, Sep B K Z' H' (tmp ys ws) F2 ∧ ∀ b ∈ F2, b ∈ F' := by
    intro ys
    induction ys with
    | nil =>
      intro ws F' hy h
      cases ws with
      | nil => exact ⟨F', h, fun b hb => hb⟩
      | cons _ _ => exact (hy []).elim
    | cons y ys ih =>
      intro ws F' hy h
      cases ws with
      | nil => cases y <;> exact (hy []).elim
      | cons w ws =>
        cases y with
        | sl i =>
          have := (hy []).1
          simp at this
        | d x =>
          obtain ⟨F1, F2, e1, e2, e3, rfl⟩ := h
          obtain ⟨F3, g1, g2⟩ := ih (ws := ws) (fun σ => hy σ) e2
          exact ⟨F1 ++ F3, ⟨F1, F3, e1, g1, fun b hb hb' => e3 b hb (g2 b hb'), rfl⟩, fun b hb => (List.mem_append.mp hb).elim (fun q => List.mem_append_left _ q) fun q => List.mem_append_right _ (g2 b q)⟩
        | nw x =>
          obtain ⟨F1, F2, e1, e2, e3, rfl⟩ := h
          obtain ⟨F3, g1, g2⟩ := ih (ws := ws) (fun σ => hy σ) e2
          exact ⟨F1 ++ F3, ⟨F1, F3, ⟨e1.1, fun a ea => hn a (e1.2 a ea)⟩, g1, fun b hb hb' => e3 b hb (g2 b hb'), rfl⟩, fun b hb => (List.mem_append.mp hb).elim (fun q => List.mem_append_left _ q) fun q => List.mem_append_right _ (g2 b q)⟩
        | nc x =>
          obtain ⟨F1, F2, e1, e2, e3, rfl⟩ := h
          obtain ⟨F3, g1, g2⟩ := ih (ws := ws) (fun σ => hy σ) e2
          exact ⟨F1 ++ F3, ⟨F1, F3, ⟨e1.1, fun a ea => hn a (e1.2 a ea)⟩, g1, fun b hb hb' => e3 b hb (g2 b hb'), rfl⟩, fun b hb => (List.mem_append.mp hb).elim (fun q => List.mem_append_left _ q) fun q => List.mem_append_right _ (g2 b q)⟩
        | gh i p =>
          have e0 := (hy []).1
          subst e0
          exact ih (ws := ws) (fun σ => (hy σ).2) h
  induction ms with
  | nil =>
    intro vs fl cs cs' j F' F1 hl h1 h2
    exact base hy (by cases vs <;> exact h2)
  | cons m ms ih =>
    intro vs fl cs cs' j F' F1 hl h1 h2
    cases vs with
    | nil =>
      have e0 : pl (m :: ms) [] fl cs' = [] := by cases m <;> rfl
      rw [e0]
      exact base hy (by cases m <;> exact h2)
    | cons v vs =>
      cases m with
      | v => exact ih hl h1 h2
      | b => exact ih hl h1 h2
      | p =>
        cases cs' with
        | nil =>
          obtain ⟨F2, g1, g2⟩ := base hy h2
          refine ⟨F2, ?_, g2⟩
          cases fl <;> exact g1
        | cons c' cs' =>
          cases fl with
          | nil =>
            -- no flags are left: nothing was written
            cases cs with
            | nil =>
              obtain ⟨F3, F4, _, g2, _, rfl⟩ := h2
              have tl : ∀ {ms : List Md} {vs : List V} {cs' : List Ct} {j : Nat} {F' : List Addr}, Sep (inB H F Z us) K Z' H' (pars j ms vs cs' ++ tmp ys ws) F' → ∃ F2, Sep (inB H F Z us) K Z' H' (tmp ys ws) F2 ∧ ∀ b ∈ F2, b ∈ F' := by
                intro ms vs cs' j F' h
                obtain ⟨F5, F6, _, k2, _, rfl⟩ := Sep.append.mp h
                exact ⟨F6, k2, fun b hb => List.mem_append_right _ hb⟩
              obtain ⟨F5, k1, k2⟩ := tl g2
              obtain ⟨F6, k3, k4⟩ := base hy k1
              exact ⟨F6, k3, fun b hb => List.mem_append_right _ (k2 b (k4 b hb))⟩
            | cons _ _ => simp at hl
          | cons f fl =>
            cases cs with
            | nil => simp at hl
            | cons c cs =>
              obtain ⟨F2, F3, e1, e2, e3, rfl⟩ := h1
              obtain ⟨F4, F5, g1, g2, g3, rfl⟩ := h2
              obtain ⟨F6, k1, k2⟩ := ih (by simpa using hl) e2 g2
              exact ⟨F4 ++ F6, ⟨F4, F6, ⟨g1.1, e1.2⟩, k1, fun b hb hb' => g3 b hb (k2 b hb'), rfl⟩, fun b hb => (List.mem_append.mp hb).elim (fun q => List.mem_append_left _ q) fun q => List.mem_append_right _ (k2 b q)⟩
/-- put back into the slots -/
theorem call_put : ∀ {ms : List Md} {xs : List Vl} {vs : List V} {fl : List (Option Nat)} {cs : List Ct} {η : Env} {τ : List (V × En)}, Ali σ xs vs → Ok B K Z H σ η (pl ms vs fl cs ++ τ) → Ok B K Z H σ (putP ms xs fl cs η) τ := by
  intro ms
  induction ms with
  | nil => intro xs vs fl cs η τ ha o; cases vs <;> exact o
  | cons m ms ih =>
    intro xs vs fl cs η τ ha o
    cases xs with
    | nil =>
      have : Ok B K Z H σ η τ := o.drops
      cases m <;> exact this
    | cons x xs =>
      cases vs with
      | nil => cases x <;> exact ha.elim
      | cons v vs =>
        have ha' : Ali σ xs vs := by cases x <;> first | exact ha.2 | exact ha
        cases m with
        | v => cases x <;> exact ih ha' o
        | b => cases x <;> exact ih ha' o
        | p =>
          cases fl with
          | nil =>
            have : Ok B K Z H σ η τ := o.drops
            cases x <;> exact this
          | cons f fl =>
            cases cs with
            | nil =>
              have : Ok B K Z H σ η τ := o.drops
              cases x <;> exact this
            | cons c cs =>
              cases x with
              | d y => exact ih ha' (Ok.drop o)
              | nw y => exact ih ha' (Ok.drop o)
              | gh i p => exact ih ha' (Ok.drop o)
              | nc y => exact ih ha' (Ok.drop o)
              | sl i =>
                refine ih ha' ?_
                have o' : Ok B K Z H σ η ((v, .mu f c) :: (pl ms vs fl cs ++ τ)) := o
                have hi : i < η.length := by
                  have := o'.len
                  have h2 := (List.getElem?_eq_some_iff.mp ha.1).1
                  omega
                exact (o'.forget i).put hi ha.1
end
/-! ### the call -/
def rCall (ms : List Md) (S : Spc) (w : Addr → List (Str × Dt) → Env → Prop) (ra : RA) : RE := fun η Q => ra η fun xs η1 => ∃ as, argsD ms xs η1 = some as ∧ S.pre as ∧
  (∀ y cs, S.post as y cs → Q y (aft ms xs η1 cs)) ∧ ∀ C fs cs, S.exc as C fs cs → w C fs (aft ms xs η1 cs)
theorem de_callS {K : PySem.W.Frag} {X : Wsh} {ms : List Md} {S : Spc} {t : TA} {ra : RA} {E : L2.St → XK} (hE : ∀ σ C d H, X.W (.ref C) d σ H → E σ (.ref C) d H) (ha : DA K X t ra) : DE K X (tCallS (toSp K ms S) E t) (rCall ms S X.w ra) := by
  constructor
  · intro η Q Q' hq q
    refine ha.mono _ _ _ ?_ q
    rintro xs η1 ⟨as, e, hp, h1, h2⟩
    exact ⟨as, e, hp, fun y cs h => hq _ _ (h1 y cs h), h2⟩
  intro B Z H σ η τ P lk o q
  refine ha.run B Z H σ η τ _ lk o (ha.mono _ _ _ ?_ q)
  rintro xs η1 ⟨as, e, hp, hk1, hk2⟩ Z1 H1 vs o1
  unfold argsD at e
  cases ec : conP ms xs η1 with
  | none => rw [ec] at e; cases e
  | some cs =>
    rw [ec] at e
    have e : entD (remP ms xs η1) ms xs cs = some as := e
    have o2 := call_outs o1.1 ec o1.2
    -- the written ones' addresses
    obtain ⟨F0, h0⟩ := id o2
    have split : ∀ {Z : Zs} {τ' : List (V × En)}, Ok B K Z H1 σ (remP ms xs η1) (pl ms vs (flagsP ms xs η1) cs ++ τ') → ∃ G Gr, Sep B K Z H1 (pl ms vs (flagsP ms xs η1) cs) G ∧ OkF B K Z H1 σ (remP ms xs η1) τ' Gr ∧ (∀ b, b ∈ G → b ∉ Gr) ∧ ∀ b ∈ G, ¬ Z b ∧ H1 b ≠ none ∧ (B.H0 b = none ∨ b ∈ B.F0) := by
      intro Z τ' ⟨F0, h0⟩
      obtain ⟨F1, s1, m1⟩ := h0.sep.perm (l' := pl ms vs (flagsP ms xs η1) cs ++ (pack σ (remP ms xs η1) ++ τ')) pm3
      obtain ⟨G, Gr, sG, sR, dG, eG⟩ := Sep.append.mp s1
      exact ⟨G, Gr, sG, ⟨h0.slots, sR, fun b hb => h0.live b ((m1 b).mp (by rw [eG]; exact List.mem_append_right _ hb)), h0.base, h0.there, h0.grow, h0.old, h0.zl⟩, dG, fun b hb => h0.live b ((m1 b).mp (by rw [eG]; exact List.mem_append_left _ hb))⟩
    obtain ⟨G, Gr, sG, hR, dG, lG⟩ := split o2
    have hown : ∀ (Z' : Zs) (i : Nat) (v : V) (p : Option Nat) (d : Dt), (∀ b, Z1 b → Z' b) → σ[i]? = some (some v) → ((remP ms xs η1)[i]? = some (some (En.mu p (.dt d))) ∨ ∃ g, (remP ms xs η1)[i]? = some (some (En.mu p (.hp d g)))) → ∀ τ', Ok B K Z' H1 σ (remP ms xs η1) (pl ms vs (flagsP ms xs η1) cs ++ τ') → ∃ a, v = V.ref a ∧ (∃ o, H1 a = some o) ∧ a ∉ G ∧ BorAt K Z' H1 a d := by
      intro Z' i v p d hz hv hi τ' _
      rcases hi with hi | ⟨g, hi⟩
      · obtain ⟨w, hw, pm⟩ := pack_take hR.slots hi
        rw [hv] at hw; cases hw
        obtain ⟨F2, e2, m2⟩ := hR.sep.mem (p := (v, En.mu p (.dt d))) (List.mem_append_left _ (pm.mem_iff.mpr (by simp)))
        obtain ⟨⟨a, g1, g2, g3⟩, _⟩ := e2
        exact ⟨a, g1, g3.there, fun hm => dG a hm (m2 a (by rw [g2]; simp)), BorAt.mono (.inl g3) hz fun _ _ _ e => e⟩
      · obtain ⟨w, hw, pm⟩ := pack_take hR.slots hi
        rw [hv] at hw; cases hw
        obtain ⟨F2, e2, m2⟩ := hR.sep.mem (p := (v, En.mu p (.hp d g))) (List.mem_append_left _ (pm.mem_iff.mpr (by simp)))
        obtain ⟨⟨a, g1, g2, _, g3, _⟩, _⟩ := e2
        exact ⟨a, g1, g3.there, fun hm => dG a hm (m2 a (by rw [g2]; simp)), BorAt.mono (.inl g3) hz fun _ _ _ e => e⟩
    have howg : ∀ (Z' : Zs) (i : Nat) (p : Addr) (d : Dt), (∀ b, Z1 b → Z' b) → look (remP ms xs η1) (.gh i p) = some d → ∀ τ', Ok B K Z' H1 σ (remP ms xs η1) (pl ms vs (flagsP ms xs η1) cs ++ τ') → (∃ o, H1 p = some o) ∧ p ∉ G ∧ BorAt K Z' H1 p d := by
      intro Z' i p d hz hl τ' _
      obtain ⟨oo, x, g, hi, hp⟩ := look_gh hl
      obtain ⟨w, hw, pm⟩ := pack_take hR.slots hi
      obtain ⟨F2, e2, m2⟩ := hR.sep.mem (p := (w, En.mu oo (.hp x g))) (List.mem_append_left _ (pm.mem_iff.mpr (by simp)))
      obtain ⟨q1, q2⟩ := e2.seeG hp
      exact ⟨q2.there, fun hm => dG p hm (m2 p q1), BorAt.mono (.inl q2) hz fun _ _ _ e => e⟩
    obtain ⟨Z2, z2, o3, vb⟩ := call_vals (fun b hb => (lG b hb).2.2) o1.1 e o2 hown howg
    obtain ⟨G', Gr', sG', hR', dG', lG'⟩ := split o3
    have eG : G' = G := sG'.uniq sG
    subst eG
    have hA := args_of vb e (flags_len ec) sG'
    -- the way back
    have back : ∀ (Z' : Zs) (H' : Hp) (cs' : List Ct) (ys : List Vl) (ws : List V), Lv K ms vs H1 Z2 G' Z' H' cs' ys ws → OkV B K Z' H' σ (aft ms xs η1 cs') τ ys ws := by
      intro Z' H' cs' ys ws lv
      obtain ⟨F', sF, lF⟩ := lv.sep
      have nn : ∀ b, H1 b = none → B.H0 b = none := fun b hb => by
        cases q : B.H0 b with
        | none => rfl
        | some o => exact absurd hb (hR'.there b (by rw [q]; simp))
      obtain ⟨F2, s2, m2⟩ := pl_back (B := B) nn lv.ali (flags_len ec) sG' sF
      have hb' : Bs B H' := fun b o e n => lv.bs b o (hR'.base b o e n) fun hm => by
        rcases (lG' b hm).2.2 with q | q
        · rw [e] at q; cases q
        · exact n q
      have sR' : Sep B K Z' H' (pack σ (remP ms xs η1) ++ τ) Gr' := hR'.sep.mono hR'.base hb' lv.old fun b o hz e => lv.bs b o e fun hm => by
        rcases hz with z | z
        · exact (lG' b hm).1 z
        · exact dG' b hm z
      have dis : ∀ b, b ∈ F2 → b ∉ Gr' := fun b hb hm => by
        rcases (lF b (m2 b hb)).2.2 with q | q
        · exact (hR'.live b hm).2.1 q
        · exact dG' b q hm
      obtain ⟨F3, s3, m3⟩ := Sep.perm (B := B) (K := K) (Z := Z') (H := H') (l := (pl ms vs (flagsP ms xs η1) cs' ++ tmp ys ws) ++ (pack σ (remP ms xs η1) ++ τ)) (l' := pack σ (remP ms xs η1) ++ ((pl ms vs (flagsP ms xs η1) cs' ++ tmp ys ws) ++ τ)) pm3 (F := F2 ++ Gr') (Sep.append.mpr ⟨F2, Gr', s2, sR', dis, rfl⟩)
      have o5 : Ok B K Z' H' σ (remP ms xs η1) (pl ms vs (flagsP ms xs η1) cs' ++ (tmp ys ws ++ τ)) := by
        rw [← List.append_assoc]
        refine ⟨F3, hR'.slots, s3, fun b hb => ?_, hb', fun b n => lv.there b (hR'.there b n), fun b z => ?_, fun b z => lv.old b (hR'.old b z), lv.zl⟩
        · rcases List.mem_append.mp ((m3 b).mp hb) with q | q
          · obtain ⟨l1, l2, l3⟩ := lF b (m2 b q)
            refine ⟨l1, l2, ?_⟩
            rcases l3 with l3 | l3
            · exact .inl (nn b l3)
            · exact (lG' b l3).2.2
          · obtain ⟨l1, l2, l3⟩ := hR'.live b q
            refine ⟨fun z => ?_, lv.there b l2, l3⟩
            rcases lv.grow b z with z | z
            · exact l1 z
            · exact l2 z
        · rcases lv.grow b z with z | z
          · exact hR'.grow b z
          · exact .inr (nn b z)
      exact ⟨lv.ali σ, call_put o1.1 o5⟩
    refine ⟨as, Z2, G', hA, fun b hb => ⟨(lG' b hb).1, (lG' b hb).2.1⟩, hR'.zl, hp, fun y cs' hpost Z' H' v lv => ?_, fun C fs cs' hx Z' H' d lv xd => ?_⟩
    · exact hk1 y cs' hpost Z' H' v (back Z' H' cs' [y] [v] lv)
    · refine hE σ C d H' (lk C fs _ Z' H' σ d (hk2 C fs cs' hx) (back Z' H' cs' [] [] lv).2 xd)
end D

set_option Elab.async false
set_option linter.all false
set_option maxRecDepth 100000
set_option maxHeartbeats 4000000
namespace D
open PySem PySem.Spec PyProof.Rows L2
/-! ### try with several clauses, each with a name or without -/
abbrev Hd := Value × Option Nat × (Addr → Value → Option Addr → TS)
def gone (D : Ends) (i : Nat) : Ends := { nx := fun σ' H' => D.nx (σ'.set i none) H', rt := D.rt, bk := fun σ' H' => D.bk (σ'.set i none) H', ct := fun σ' H' => D.ct (σ'.set i none) H' }
def wMix (K : PySem.W.Frag) (Wout : WX) (D : Ends) : List Hd → WX
  | [] => Wout
  | (c, none, ts) :: r => fun cls d σ H => ∃ b, PySem.W.exmOne K cls c = some b ∧ (b = true → ∀ a, H a = none → ts a cls d D σ H) ∧ (b = false → wMix K Wout D r cls d σ H)
  | (c, some i, ts) :: r => fun cls d σ H => ∃ b, PySem.W.exmOne K cls c = some b ∧ (b = true → ∀ a, H a = none → ts a cls d (gone D i) (σ.set i (some (.ref a))) H) ∧ (b = false → wMix K Wout D r cls d σ H)
inductive MixOk (X : Cx) : List ExceptHandler → List Hd → Prop
  | nil : MixOk X [] []
  | cons {x : Str} {c : Value} {ts : Addr → Value → Option Addr → TS} {b₀ : Stmt} {suite : List Stmt} {np pos' : Pos} {hds : List ExceptHandler} {l : List Hd} (hc : Names X x c)
      (hsu : ∀ (a : Addr) (oe : Obj) (cls : Value) (d : Option Addr) (pn : List (Addr × Obj)), Zc cls d oe → (∃ vs, oe.data = .fields vs) → PSs (X.suite a ((a, oe) :: pn)) (b₀ :: suite) (ts a cls d)) (r : MixOk X hds l) :
      MixOk X (.ExceptHandler (some (.Name x np)) none (b₀ :: suite) pos' :: hds) ((c, none, ts) :: l)
  | consAs {x n : Str} {i : Nat} {c : Value} {ts : Addr → Value → Option Addr → TS} {b₀ : Stmt} {suite : List Stmt} {np pos' : Pos} {hds : List ExceptHandler} {l : List Hd} (hc : Names X x c) (hi : X.N[i]? = some n) (hln : X.env.kindOf n = some .local)
      (hsu : ∀ (a : Addr) (oe : Obj) (cls : Value) (d : Option Addr) (pn : List (Addr × Obj)), Zc cls d oe → (∃ vs, oe.data = .fields vs) → PSs (X.suite a ((a, oe) :: pn)) (b₀ :: suite) (ts a cls d)) (r : MixOk X hds l) :
      MixOk X (.ExceptHandler (some (.Name x np)) (some n) (b₀ :: suite) pos' :: hds) ((c, some i, ts) :: l)
section
variable {X : Cx} {body : List Stmt} {h₀ : ExceptHandler} {hds : List ExceptHandler} {l : List Hd} {pos : Pos} {tb : WX → TS} {Wout : WX}
theorem ps_try_mix (hs : X.stack = X.env :: X.outer) (hf : X.env.frame = some X.env.locals) (hN : X.N.Nodup) (tk : Takes X Wout)
    (hb : ∀ (W : WX) (pn : List (Addr × Obj)) (xe : Value → Shared → Prop), Takes (X.tr pn xe) W → PassesOwn (model X.prog X.w) X.A X.env xe → PSs (X.tr pn xe) body (tb W))
    (hh : MixOk X (h₀ :: hds) l) : PS X (.Try body (h₀ :: hds) [] [] pos) (fun D σ H => tb (wMix X.K Wout D l) D σ H) := by
  refine ⟨fun pins s σ H D I h => ?_⟩
  have ok := I.ok
  have hfr : X.A.frames = some (X.env :: X.outer) := by rw [ok.frames, hs]
  refine wpAny_Try_except ?_
  refine wpAny_mono ((hb (wMix X.K Wout D l) (X.pn ++ pins) (fun e s₁ => wpAny (model X.prog X.w) X.A (noteFrame e X.env) (fun _ s₂ => wpAny (model X.prog X.w) X.A (setFlight e none) (fun _ s₃ =>
    wpAny (model X.prog X.w) X.A (handleBy e X.env (h₀ :: hds)) (SP X pins D) X.xe s₃) X.xe s₂) X.xe s₁) (fun u s' xx => ?_) PassesOwn.looking).run [] s σ H D (I.toTry _) h) (fun f s1 hsp => ?_) (fun e s1 he => he)
  · -- the catch
    obtain ⟨a, B, sI, pins', σ', H', cls, d, rfl, J', nb, up, sky, na, os, ag, w⟩ := xx
    have J : Inv X pins σ' H' sI := J'.ofTry ok
    have sky' : Sky B (X.env :: X.outer) a (Zc cls d) X.env.locals s'.heap := by rw [← hs]; exact sky
    show wpAny (model X.prog X.w) X.A (noteFrame (.ref a) X.env) _ _ _
    refine Sky.land Zc.steady hfr hf sky' fun h3 fl3 up3 => ?_
    have J3 : Inv X pins σ' H' { s' with heap := h3 } := J.landed nb fl3.1 (up.trans up3) os ag
    obtain ⟨oe3, vs3, he3, hz3, hd3⟩ := fl3.there
    have notFr : ∀ {h : Heap} {o : Obj} {vs : Array Value}, h.FunFrames B (X.env :: X.outer) → h.get? a = some o → o.data = .fields vs → a ∉ frs (X.env :: X.outer) := fun {h o vs} ff e dd hm => by
      obtain ⟨_, o', e', hnf⟩ := ff.mem hm
      rw [e] at e'; cases e'
      exact hnf _ dd
    have nfr := notFr fl3.2.2.1 he3 hd3
    have nL : a ≠ X.env.locals := fun z => nfr (List.mem_filterMap.mpr ⟨X.env, List.mem_cons_self, by rw [hf, z]⟩)
    have nF : a ∉ X.fs := fun hm => by
      obtain ⟨e, he, q⟩ := List.mem_filterMap.mp hm
      exact nfr (List.mem_filterMap.mpr ⟨e, List.mem_cons_of_mem _ he, q⟩)
    have S3 := J3.suite he3 hd3 na nL nF
    have go : ∀ {hds' : List ExceptHandler} {l' : List Hd}, MixOk X hds' l' → wMix X.K Wout D l' cls d σ' H' →
        wpAny (model X.prog X.w) X.A (handleBy (.ref a) X.env hds') (SP X pins D) X.xe { s' with heap := h3 } := by
      intro hds' l' hk
      induction hk with
      | nil =>
        intro w
        refine wpAny_handleBy_nil ?_
        obtain ⟨k1, k2, k3, oe, vs, T, oT, ts', he, hz, hd, h1, hr⟩ := id fl3
        unfold PySem.passOn
        refine wpAny_bind (wpAny_field he hd h1 ?_)
        rw [if_neg (show ¬ ((Value.ref T == Value.none) = true) from by simp)]
        have fin : wpAny (model X.prog X.w) X.A (setFlight (.ref a) X.env.frame) (fun _ s4 => wpAny (model X.prog X.w) X.A (throw (.ref a) : Sem Flow) (SP X pins D) X.xe s4) X.xe { s' with heap := h3 } := by
          rw [hf]
          refine HandSPX.setFlight_upZ fl3 fun h4 hh4 up4 => wpAny_throw (tk _ _ ?_)
          exact ⟨a, B, sI, pins, σ', H', cls, d, rfl, J, nb, (up.trans up3).trans up4, .inr (.inr (by rw [hs]; exact hh4)), na, os, ag, w⟩
        first
          | exact wpAny_bind (wpAny_pure (wpAny_bind fin))
          | exact wpAny_bind fin
      | @cons x c ts b₀ suite np pos' hds2 l2 hc hsu r ih =>
        intro w
        obtain ⟨b, hb1, hyes, hno⟩ := w
        refine wpAny_handleBy_cons (codeAny_handlers_test ?_) (by intro q; cases q)
        have LT : PySem.W.Looks (model X.prog X.w) h3 (typeOf (.ref a)) cls := fun A Q E s k q => wpAny_typeOf_ref (k _ _ he3) (by rw [hz3.1]; exact q)
        have LM := PySem.W.exm_one (M := model X.prog X.w) (J3.kIn) LT hb1
        have test : ∀ {Q : Value → Shared → Prop} {E : Value → Shared → Prop}, Q c { s' with heap := h3 } → wpAny (model X.prog X.w) (X.A.mark (some (.ref a))) (eval (.Name x np) X.env) Q E { s' with heap := h3 } := fun {Q E} q => by
          obtain ⟨hg, hdbg, hm | ⟨hm, hv, hnn⟩⟩ := hc
          · exact ld_glob (X := X.suite a ((a, oe3) :: (X.pn ++ pins))) S3 hg hm q hdbg
          · exact ld_blt (X := X.suite a ((a, oe3) :: (X.pn ++ pins))) S3 hg hm hv q hnn hdbg
        refine test (LM.here ?_)
        cases b with
        | true =>
          refine codeAny_handlers_suite ?_
          refine HandSPX.lands_againZ fl3 fun h4 fl4 up4 => ?_
          have J4 : Inv X pins σ' H' { s' with heap := h4 } := J.landed nb fl4.1 ((up.trans up3).trans up4) os ag
          obtain ⟨oe4, vs4, he4, hz4, hd4⟩ := fl4.there
          have S4 := J4.suite he4 hd4 na nL nF
          refine wpAny_mono ((hsu a oe4 cls d (X.pn ++ pins) hz4 ⟨_, hd4⟩).run [] _ _ H' _ S4 (hyes rfl a na)) (fun f s6 hsp => ?_) (fun _ _ z => False.elim z)
          cases f with
          | next =>
            obtain ⟨σ6, H6, S6, q6⟩ := hsp
            exact ⟨_, _, S6.unsuite ok, q6⟩
          | brk =>
            obtain ⟨σ6, H6, S6, q6⟩ := hsp
            exact ⟨_, _, S6.unsuite ok, q6⟩
          | cont =>
            obtain ⟨σ6, H6, S6, q6⟩ := hsp
            exact ⟨_, _, S6.unsuite ok, q6⟩
          | ret u =>
            obtain ⟨v6, σ6, H6, S6, r6, q6⟩ := hsp
            exact ⟨_, _, _, S6.unsuite ok, r6, q6⟩
        | false =>
          show wpAny _ X.A (handleBy (.ref a) X.env hds2) _ _ _
          exact ih (hno rfl)
      | @consAs x n i c ts b₀ suite np pos' hds2 l2 hc hi hln hsu r ih =>
        intro w
        obtain ⟨b, hb1, hyes, hno⟩ := w
        have hloc : Loc X.env.scope n := .inl hln
        refine wpAny_handleBy_cons (codeAny_handlers_test ?_) (by intro q; cases q)
        have LT : PySem.W.Looks (model X.prog X.w) h3 (typeOf (.ref a)) cls := fun A Q E s k q => wpAny_typeOf_ref (k _ _ he3) (by rw [hz3.1]; exact q)
        have LM := PySem.W.exm_one (M := model X.prog X.w) (J3.kIn) LT hb1
        have test : ∀ {Q : Value → Shared → Prop} {E : Value → Shared → Prop}, Q c { s' with heap := h3 } → wpAny (model X.prog X.w) (X.A.mark (some (.ref a))) (eval (.Name x np) X.env) Q E { s' with heap := h3 } := fun {Q E} q => by
          obtain ⟨hg, hdbg, hm | ⟨hm, hv, hnn⟩⟩ := hc
          · exact ld_glob (X := X.suite a ((a, oe3) :: (X.pn ++ pins))) S3 hg hm q hdbg
          · exact ld_blt (X := X.suite a ((a, oe3) :: (X.pn ++ pins))) S3 hg hm hv q hnn hdbg
        refine test (LM.here ?_)
        cases b with
        | true =>
          refine codeAny_handlers_suite_as ?_
          refine HandSPX.lands_againZ fl3 fun h4 fl4 up4 => ?_
          have J4 : Inv X pins σ' H' { s' with heap := h4 } := J.landed nb fl4.1 ((up.trans up3).trans up4) os ag
          obtain ⟨oe4, vs4, he4, hz4, hd4⟩ := fl4.there
          have S4 := J4.suite he4 hd4 na nL nF
          refine store_ok (X := X.suite a ((a, oe4) :: (X.pn ++ pins))) (v := .ref a) S4 hN hi hloc rfl (fun s5 S5 => ?_) (.inr hln)
          refine wpAny_mono ((hsu a oe4 cls d (X.pn ++ pins) hz4 ⟨_, hd4⟩).run [] s5 _ H' _ S5 (hyes rfl a na)) (fun f s6 hsp => ?_) (fun _ _ z => False.elim z)
          have end_ : ∀ {σ6 : L2.St} {H6 : Hp} {Q : Shared → Prop}, Inv (X.suite a ((a, oe4) :: (X.pn ++ pins))) [] σ6 H6 s6 → (∀ s7, Inv X pins (σ6.set i none) H6 s7 → Q s7) →
              wpAny (model X.prog X.w) X.A (do bindName X.env n .none; unbindBehindTheSuite X.env n pos') (fun _ s7 => Q s7) X.xe s6 := fun {σ6 H6 Q} S6 hq => gone_ok (S6.unsuite ok) hN hi hln hq
          cases f with
          | next =>
            obtain ⟨σ6, H6, S6, q6⟩ := hsp
            exact end_ S6 fun s7 J7 => ⟨_, _, J7, q6⟩
          | brk =>
            obtain ⟨σ6, H6, S6, q6⟩ := hsp
            exact end_ S6 fun s7 J7 => ⟨_, _, J7, q6⟩
          | cont =>
            obtain ⟨σ6, H6, S6, q6⟩ := hsp
            exact end_ S6 fun s7 J7 => ⟨_, _, J7, q6⟩
          | ret u =>
            obtain ⟨v6, σ6, H6, S6, r6, q6⟩ := hsp
            exact end_ S6 fun s7 J7 => ⟨_, _, _, J7, r6, q6⟩
        | false =>
          show wpAny _ X.A (handleBy (.ref a) X.env hds2) _ _ _
          exact ih (hno rfl)
    exact go hh w
  · cases f with
    | next =>
      obtain ⟨σ', H', J', q⟩ := hsp
      exact wpAny_execs_nil ⟨σ', H', J'.ofTry ok, q⟩
    | brk =>
      obtain ⟨σ', H', J', q⟩ := hsp
      exact ⟨σ', H', J'.ofTry ok, q⟩
    | cont =>
      obtain ⟨σ', H', J', q⟩ := hsp
      exact ⟨σ', H', J'.ofTry ok, q⟩
    | ret u =>
      obtain ⟨v, σ', H', J', r, q⟩ := hsp
      exact ⟨v, σ', H', J'.ofTry ok, r, q⟩
end
end D

set_option Elab.async false
set_option linter.all false
set_option maxRecDepth 100000
set_option maxHeartbeats 4000000
namespace D
open PySem PySem.Spec PyProof.Rows L2
section
variable {K : PySem.W.Frag} {X : Wsh}
/-! ### raise -/
def rRaise0 (C : Addr) (w : Addr → List (Str × Dt) → Env → Prop) : RS := fun _ η => w C [] η
theorem ds_raise0 {C : Addr} {W : L2.WX} (hW : ∀ d σ H, X.W (.ref C) d σ H → W (.ref C) d σ H) : DS K X (fun _ σ H => (fun (_ : L2.St) (H : Hp) (Q : XK) => Q (.ref C) none H) σ H fun cls d H' => W cls d σ H') (rRaise0 C X.w) :=
  ⟨fun _ _ _ _ q => q, fun B Z H σ η τ E lk o q => hW _ _ _ (lk C [] η Z H σ none q o (.inl ⟨rfl, rfl⟩))⟩
/-- X(e), the value kept by one name -/
def tMk1 (C : Addr) (f : Str) (ta : TA) : L2.St → Hp → XK → Prop := fun σ H Q => ta σ H fun vs H1 => ∃ v, vs = [v] ∧ ∀ d, H1 d = none → Q (.ref C) (some d) (upd H1 d (.xd [(f, v)]))
def rRaise1 (C : Addr) (f : Str) (ra : RA) (w : Addr → List (Str × Dt) → Env → Prop) : RS := fun _ η => ra η fun xs η1 => ∃ d, frzs η1 xs = some [d] ∧ w C [(f, d)] η1
theorem ds_raise1 {C : Addr} {f : Str} {ta : TA} {ra : RA} {W : L2.WX} (hW : ∀ d σ H, X.W (.ref C) d σ H → W (.ref C) d σ H) (ha : DA K X ta ra) : DS K X (fun _ σ H => tMk1 C f ta σ H fun cls d H' => W cls d σ H') (rRaise1 C f ra X.w) := by
  refine ⟨fun η _ _ _ q => q, ?_⟩
  intro B Z H σ η τ E lk o q
  refine ha.run B Z H σ η τ _ lk o (ha.mono _ _ _ ?_ q)
  rintro xs η1 ⟨d, e, q⟩ Z1 H1 vs o1
  obtain ⟨Z2, z2, o2, r⟩ := o1.frzs e
  cases r with
  | @cons v ws _ _ r1 r2 =>
    cases r2
    refine ⟨v, rfl, fun dd hd => ?_⟩
    refine hW _ _ _ (lk C [(f, d)] η1 _ _ σ (some dd) q (o2.newZ hd _) (.inr ⟨dd, [f], [v], [d], rfl, rfl, rfl, .inr rfl, upd_same, ?_⟩))
    exact (RpAll.cons r1 .nil).new hd
/-! ### try -/
abbrev HdD := Value × Option Nat × (Addr → Option Addr → Addr → List (Str × Dt) → RS)
def goneD (D : EndsD) (i : Nat) : EndsD := { nx := fun η => D.nx (η.set i none), rt := D.rt, bk := fun η => D.bk (η.set i none), ct := fun η => D.ct (η.set i none) }
def wMixD (K : PySem.W.Frag) (w : Addr → List (Str × Dt) → Env → Prop) (D : EndsD) : List HdD → Addr → List (Str × Dt) → Env → Prop
  | [] => w
  | (c, none, rs) :: r => fun C fs η => ∃ b, PySem.W.exmOne K (.ref C) c = some b ∧ (b = true → ∀ a d, rs a d C fs D η) ∧ (b = false → wMixD K w D r C fs η)
  | (c, some i, rs) :: r => fun C fs η => ∃ b, PySem.W.exmOne K (.ref C) c = some b ∧ (b = true → i < η.length ∧ ∀ a d, rs a d C fs (goneD D i) (η.set i (some (.val (.exn a d C fs))))) ∧ (b = false → wMixD K w D r C fs η)
inductive DHds (K : PySem.W.Frag) : List Hd → List HdD → Prop
  | nil : DHds K [] []
  | cons {c : Value} {oi : Option Nat} {ts : Addr → Value → Option Addr → TS} {rs : Addr → Option Addr → Addr → List (Str × Dt) → RS} {l : List Hd} {m : List HdD} (h : ∀ a d C fs, DS K W0 (ts a (.ref C) d) (rs a d C fs)) (r : DHds K l m) : DHds K ((c, oi, ts) :: l) ((c, oi, rs) :: m)
def rTry (K : PySem.W.Frag) (rb : (Addr → List (Str × Dt) → Env → Prop) → RS) (m : List HdD) (w : Addr → List (Str × Dt) → Env → Prop) : RS := fun D η => ∃ D0 : EndsD, D0.Le D ∧ rb (wMixD K w D0 m) D0 η
theorem xd_rp {Z : Zs} {H : Hp} {a C : Addr} {d : Option Addr} {fs : List (Str × Dt)} (x : XdOk K Z H d fs) : Rp K Z H (.ref a) (.exn a d C fs) := by
  rcases x with ⟨rfl, rfl⟩ | ⟨dd, ns, vs, ds, rfl, rfl, l, z, h, r⟩
  · exact .exn0 a C
  · exact .exn1 a C z h l r
theorem gone_le {B : Base} {τ : List (V × En)} {E : Ends} {D : EndsD} (h : D.Le (lft B K τ E)) (i : Nat) : (goneD D i).Le (lft B K τ (gone E i)) := by
  have key : ∀ {Z : Zs} {H : Hp} {σ : L2.St} {η : Env}, Ok B K Z H σ η τ → Ok B K Z H (σ.set i none) (η.set i none) τ := by
    intro Z H σ η o
    by_cases hi : i < η.length
    · exact (o.forget i).reslot none (by rw [List.getElem?_set_self hi])
    · have := o.len
      rw [List.set_eq_of_length_le (by omega), List.set_eq_of_length_le (by omega)]
      exact o
  refine ⟨?_, ?_, ?_, ?_⟩
  · intro η w Z H σ o
    exact h.nx _ w Z H _ (key o)
  · intro x η w
    exact h.rt x η w
  · intro η w Z H σ o
    exact h.bk _ w Z H _ (key o)
  · intro η w Z H σ o
    exact h.ct _ w Z H _ (key o)
theorem ds_try {tb : WX → TS} {rb : (Addr → List (Str × Dt) → Env → Prop) → RS} {l : List Hd} {m : List HdD} {Wout : WX} (hW : ∀ C d σ H, X.W (.ref C) d σ H → Wout (.ref C) d σ H) (hb : ∀ W w, DS K ⟨W, w⟩ (tb W) (rb w)) (hh : DHds K l m) :
    DS K X (fun D σ H => tb (wMix K Wout D l) D σ H) (rTry K rb m X.w) := by
  constructor
  · rintro η D D' hd ⟨D0, h0, q⟩
    exact ⟨D0, ⟨fun η q => hd.nx _ (h0.nx _ q), fun x η q => hd.rt _ _ (h0.rt _ _ q), fun η q => hd.bk _ (h0.bk _ q), fun η q => hd.ct _ (h0.ct _ q)⟩, q⟩
  rintro B Z H σ η τ E lk o ⟨D0, h0, q⟩
  refine (hb _ _).run B Z H σ η τ E ?_ o ((hb (wMix K Wout E l) _).mono _ _ _ h0 q)
  have go : ∀ {l : List Hd} {m : List HdD}, DHds K l m → ∀ C fs η Z H σ d, wMixD K X.w D0 m C fs η → Ok B K Z H σ η τ → XdOk K Z H d fs → wMix K Wout E l (.ref C) d σ H := by
    intro l m hk
    induction hk with
    | nil => intro C fs η Z H σ d w o x; exact hW _ _ _ _ (lk C fs η Z H σ d w o x)
    | @cons c oi ts rs l m h r ih =>
      intro C fs η Z H σ d w o x
      cases oi with
      | none =>
        obtain ⟨b, e, w1, w2⟩ := w
        refine ⟨b, e, fun hb a ha => ?_, fun hb => ih C fs η Z H σ d (w2 hb) o x⟩
        exact (h a d C fs).run B Z H σ η τ E .none o ((h a d C fs).mono _ _ _ h0 (w1 hb a d))
      | some i =>
        obtain ⟨b, e, w1, w2⟩ := w
        refine ⟨b, e, fun hb a ha => ?_, fun hb => ih C fs η Z H σ d (w2 hb) o x⟩
        obtain ⟨hi, w1⟩ := w1 hb
        have o2 := Ok.store (o.val (xd_rp (a := a) (C := C) x)) hi
        exact (h a d C fs).run B Z H _ _ τ (gone E i) .none o2 ((h a d C fs).mono _ _ _ (gone_le h0 i) (w1 a d))
  exact fun C fs η Z H σ d w o x => go hh C fs η Z H σ d w o x

/-! ### the exception in hand -/
def rXf (a : Addr) (d : Option Addr) (C : Addr) (f : Str) (re : RE) : RE := fun η Q => re η fun x η1 => ∃ fs v, look η1 x = some (.exn a d C fs) ∧ fs.lookup f = some v ∧ Q (.d v) η1
theorem lookup_zip {α β : Type} {ns : List Str} : ∀ {vs : List α} {ds : List β} {R : α → β → Prop}, (∀ (i : Nat) v d, vs[i]? = some v → ds[i]? = some d → R v d) → ns.length = vs.length → vs.length = ds.length → ∀ {f : Str} {d : β}, (ns.zip ds).lookup f = some d → ∃ v, (ns.zip vs).lookup f = some v ∧ R v d := by
  induction ns with
  | nil => intro vs ds R h l1 l2 f d e; simp at e
  | cons n ns ih =>
    intro vs ds R h l1 l2 f d e
    cases vs with
    | nil => simp at l1
    | cons v vs =>
      cases ds with
      | nil => simp at l2
      | cons d' ds =>
        rw [List.zip_cons_cons, List.lookup_cons] at e ⊢
        cases q : f == n with
        | true =>
          rw [q] at e
          cases e
          exact ⟨v, rfl, h 0 v _ rfl rfl⟩
        | false =>
          rw [q] at e
          exact ih (fun (i : Nat) v d a b => h (i + 1) v d (by simpa using a) (by simpa using b)) (by simpa using l1) (by simpa using l2) e
theorem RpAll.lookup {Z : Zs} {H : Hp} {ns : List Str} {vs : List V} {ds : List Dt} (r : RpAll K Z H vs ds) (l : ns.length = vs.length) {f : Str} {d : Dt} (e : (ns.zip ds).lookup f = some d) : ∃ v, (ns.zip vs).lookup f = some v ∧ Rp K Z H v d :=
  lookup_zip (R := fun v d => Rp K Z H v d) (fun i v d a b => by
    obtain ⟨e', h1, h2⟩ := r.get' a
    rw [b] at h1; cases h1; exact h2) l r.length e
theorem de_xf {a C : Addr} {d : Option Addr} {f : Str} {te : TE} {re : RE} (he : DE K X te re) : DE K X (tXf a (.ref C) d C f te) (rXf a d C f re) := by
  constructor
  · intro η Q Q' hq q
    refine he.mono _ _ _ ?_ q
    rintro x η1 ⟨fs, v, e, l, q⟩
    exact ⟨fs, v, e, l, hq _ _ q⟩
  intro B Z H σ η τ P lk o q
  refine he.run B Z H σ η τ _ lk o (he.mono _ _ _ ?_ q)
  rintro x η1 ⟨fs, dv, e, l, q⟩ Z1 H1 v o1
  obtain ⟨e1, h | ⟨dd, ns, vs, ds, e2, e3, len, z, hx, r⟩⟩ := o1.see e
  · rw [h.2] at l; cases l
  · rw [e3] at l
    obtain ⟨u, h1, h2⟩ := r.lookup len l
    exact ⟨e1, rfl, dd, _, u, e2, hx, h1, q Z1 H1 u (.d o1.ok h2)⟩
/-- isinstance(e, c) of the exception in hand, also one with a dict of its own -/
def rIsX (K : PySem.W.Frag) (C a : Addr) (d : Option Addr) : List V → Hp → VK → Prop := fun xs H Q => ∃ (c : V) (cv : Value) (b : Bool), xs = [.ref a, c] ∧ ClsV c cv ∧ (d = none ∨ ∃ dd fs, d = some dd ∧ H dd = some (.xd fs)) ∧ PySem.W.kitOne K (.ref C) cv = some b ∧ Q (.bl b) H
theorem inst_of {X : Cx} {pins : List (Addr × Obj)} {σ : L2.St} {H : Hp} {s : Shared} {a C : Addr} {d : Option Addr} {oe : Obj} {pn : List (Addr × Obj)} (I : Inv (X.suite a ((a, oe) :: pn)) pins σ H s) (hz : Zc (.ref C) d oe) (hf : ∃ vs, oe.data = .fields vs) (hd : d = none ∨ ∃ dd fs, d = some dd ∧ H dd = some (.xd fs)) : ∃ od, PySem.W.InstAt s.heap a oe C od := by
  obtain ⟨hget, _⟩ := I.pin (a, oe) (List.mem_append.mpr (.inl List.mem_cons_self))
  obtain ⟨vs, hv⟩ := hf
  rcases hd with rfl | ⟨dd, fs, rfl, hx⟩
  · refine ⟨none, ?_⟩
    obtain ⟨oc, od, oda, osl⟩ := oe
    obtain ⟨h1, h2⟩ := hz
    dsimp only at h1 h2 hv
    subst h1 h2 hv
    exact ⟨hget, rfl, rfl, trivial⟩
  · have hx' : ObjOk (X.suite a ((a, oe) :: pn)).prog (X.suite a ((a, oe) :: pn)).w H s.heap dd (.xd fs) := I.hok dd _ hx
    obtain ⟨mA, hns, hr⟩ := hx'
    obtain ⟨od, ho, hl⟩ := lookIn_ns hns
    exact ⟨some od, hget, hz.1, by unfold PySem.W.notCls; rw [hv] <;> rfl, by rw [hz.2]; exact ho⟩
theorem call_isX {X : Cx} {a C : Addr} {d : Option Addr} {oe : Obj} {pn : List (Addr × Obj)} (T : ExcC X.K C) (hz : Zc (.ref C) d oe) (hf : ∃ vs, oe.data = .fields vs) : CallR (X.suite a ((a, oe) :: pn)) (.builtin "isinstance") (rIsX X.K C a d) := by
  intro pins s σ H xs us Q I r h
  obtain ⟨c, cv, b, rfl, hcv, hd, e, q⟩ := h
  obtain ⟨u1, u2, rfl, r1, r2⟩ := vals2 r
  have e2 := hcv.eq r2
  subst e2
  cases r1
  obtain ⟨od, J⟩ := inst_of I hz hf hd
  exact PySem.W.kia_one (PySem.W.kitx_exc (by obtain ⟨cd, hc, _⟩ := PySem.W.any_some T.hd; rw [hc]; rfl) T.hg T.hk T.hs T.ha T.hn T.ht T.hm) I.kIn J e (fun z => nomatch z) fun tk => ⟨.bl b, H, I.kept (t' := tk) fun _ _ z => z, rfl, q⟩
/-- .. a tuple of classes, that was just laid -/
def rIsXT (K : PySem.W.Frag) (C a : Addr) (d : Option Addr) : List V → Hp → VK → Prop := fun xs H Q => ∃ (tp : Addr) (cs : List V) (us : List Value) (b : Bool), xs = [.ref a, .ref tp] ∧ H tp = some (.tup cs) ∧ Paired ClsV cs us ∧ (d = none ∨ ∃ dd fs, d = some dd ∧ H dd = some (.xd fs)) ∧ PySem.W.kitAny K (.ref C) us = some b ∧ Q (.bl b) H
theorem call_isXT {X : Cx} {a C : Addr} {d : Option Addr} {oe : Obj} {pn : List (Addr × Obj)} (T : ExcC X.K C) (hz : Zc (.ref C) d oe) (hf : ∃ vs, oe.data = .fields vs) : CallR (X.suite a ((a, oe) :: pn)) (.builtin "isinstance") (rIsXT X.K C a d) := by
  intro pins s σ H xs us Q I r h
  obtain ⟨tp, cs, ws, b, rfl, hT, k, hd, e, q⟩ := h
  obtain ⟨u1, u2, rfl, r1, r2⟩ := vals2 r
  cases (show u2 = Value.ref tp from r2)
  cases r1
  obtain ⟨_, its, rv, o, h1, h2, n, h3⟩ := (show ObjOk (X.suite a ((a, oe) :: pn)).prog (X.suite a ((a, oe) :: pn)).w H s.heap tp (.tup cs) from I.hok tp _ hT)
  have e3 := ClsV.all k rv
  subst e3
  obtain ⟨od, J⟩ := inst_of I hz hf hd
  obtain ⟨oc, odd, dt, sl⟩ := o
  simp only at h2 h3
  subst h2 h3
  exact PySem.W.kia_tup (PySem.W.kitx_exc (by obtain ⟨cd, hc, _⟩ := PySem.W.any_some T.hd; rw [hc]; rfl) T.hg T.hk T.hs T.ha T.hn T.ht T.hm) I.kIn J h1 e (fun z => nomatch z) fun tk => ⟨.bl b, H, I.kept (t' := tk) fun _ _ z => z, rfl, q⟩
/-- a class as a datum -/
inductive ClsD : Dt → Value → Prop where
  | ty (n : String) : ClsD (.ty n) (.type n)
  | own (C : Addr) : ClsD (.ref C) (.ref C)
theorem ClsD.v {Z : Zs} {H : Hp} {v : V} {c : Dt} {u : Value} (h : ClsD c u) (s : See K Z H v c) : ClsV v u := by
  cases h with
  | ty n => cases (show v = .ty n from s); exact .ty n
  | own C => cases (show v = .ref C from s); exact .own C
def roIsX (K : PySem.W.Frag) (a : Addr) (d : Option Addr) (C : Addr) : ROs := fun xs η Q => ∃ x y c u fs b, xs = [x, y] ∧ look η x = some (.exn a d C fs) ∧ look η y = some c ∧ ClsD c u ∧ PySem.W.kitOne K (.ref C) u = some b ∧ Q (.d (.bl b)) η
theorem ali2 {σ : L2.St} {x y : Vl} {vs : List V} (h : Ali σ [x, y] vs) : ∃ v w, vs = [v, w] := by
  match vs, h with
  | [v, w], _ => exact ⟨v, w, rfl⟩
  | [], h => cases x <;> exact h.elim
  | [_], h => have := h.length; simp at this
  | _ :: _ :: _ :: _, h => have := h.length; simp at this
theorem dc_isX {a : Addr} {d : Option Addr} {C : Addr} : DC K (rIsX K C a d) (roIsX K a d C) := by
  constructor
  · rintro xs η Q Q' hq ⟨x, y, c, u, fs, b, e1, e2, e3, e4, e5, q⟩
    exact ⟨x, y, c, u, fs, b, e1, e2, e3, e4, e5, hq _ _ q⟩
  rintro B Z H σ η τ xs vs P o ⟨x, y, c, u, fs, b, rfl, e2, e3, e4, e5, q⟩
  obtain ⟨v, w, rfl⟩ := ali2 o.1
  obtain ⟨s1, s2⟩ := o.see2 e2 e3
  obtain ⟨e1, h⟩ := s1
  subst e1
  refine ⟨w, u, b, rfl, e4.v s2, ?_, e5, q Z H _ (.d o.ok (.bl b))⟩
  rcases h with ⟨h, _⟩ | ⟨dd, ns, vs, ds, h1, h2, len, z, hx, r⟩
  · exact .inl h
  · exact .inr ⟨dd, _, h1, hx⟩
inductive ClsDs : List Dt → List Value → Prop where
  | nil : ClsDs [] []
  | cons {c : Dt} {u : Value} {cs : List Dt} {us : List Value} (h : ClsD c u) (r : ClsDs cs us) : ClsDs (c :: cs) (u :: us)
theorem ClsDs.vs {Z : Zs} {H : Hp} : ∀ {cs : List Dt} {us : List Value} {vs : List V}, ClsDs cs us → RpAll K Z H vs cs → Paired ClsV vs us
  | _, _, _, .nil, r => by cases r; exact .nil
  | _, _, _, .cons h r, .cons a b => .cons (h.v a.see) (ClsDs.vs r b)
def roIsXT (K : PySem.W.Frag) (a : Addr) (d : Option Addr) (C : Addr) : ROs := fun xs η Q => ∃ x y cs us fs b, xs = [x, y] ∧ look η x = some (.exn a d C fs) ∧ y = .d (.tup cs) ∧ ClsDs cs us ∧ PySem.W.kitAny K (.ref C) us = some b ∧ Q (.d (.bl b)) η
end
end D

set_option Elab.async false
set_option linter.all false
set_option maxRecDepth 100000
set_option maxHeartbeats 4000000
namespace D
open PySem PySem.Spec PyProof.Rows L2
section
variable {K : PySem.W.Frag} {X : Wsh}
/-! ### isinstance of the built-in kinds -/
def isa (n : String) : Dt → Bool
  | .bl _ => n == "bool" || n == "int"
  | .int _ => n == "int"
  | .str _ => n == "str"
  | .byt _ => n == "bytes"
  | .lst _ => n == "list"
  | .tup _ => n == "tuple"
  | .dct _ => n == "dict"
  | _ => false
def plainD : Dt → Bool
  | .non => true
  | .bl _ => true
  | .int _ => true
  | .str _ => true
  | .byt _ => true
  | .lst _ => true
  | .tup _ => true
  | .dct _ => true
  | _ => false
def tyN : Dt → String
  | .non => "NoneType"
  | .bl _ => "bool"
  | .int _ => "int"
  | .str _ => "str"
  | .byt _ => "bytes"
  | .lst _ => "list"
  | .tup _ => "tuple"
  | .dct _ => "dict"
  | _ => ""
def inKinds (n : String) : Bool := n == "bool" || n == "int" || n == "str" || n == "bytes" || n == "list" || n == "tuple" || n == "dict"
theorem kitNN : kitB "NoneType" "bool" = some false ∧ kitB "NoneType" "int" = some false ∧ kitB "NoneType" "str" = some false ∧ kitB "NoneType" "bytes" = some false ∧ kitB "NoneType" "list" = some false ∧ kitB "NoneType" "tuple" = some false ∧ kitB "NoneType" "dict" = some false := by decide +kernel
theorem kitBL : kitB "bool" "bool" = some true ∧ kitB "bool" "int" = some true ∧ kitB "bool" "str" = some false ∧ kitB "bool" "bytes" = some false ∧ kitB "bool" "list" = some false ∧ kitB "bool" "tuple" = some false ∧ kitB "bool" "dict" = some false := by decide +kernel
theorem kitIN : kitB "int" "bool" = some false ∧ kitB "int" "int" = some true ∧ kitB "int" "str" = some false ∧ kitB "int" "bytes" = some false ∧ kitB "int" "list" = some false ∧ kitB "int" "tuple" = some false ∧ kitB "int" "dict" = some false := by decide +kernel
theorem kitST : kitB "str" "bool" = some false ∧ kitB "str" "int" = some false ∧ kitB "str" "str" = some true ∧ kitB "str" "bytes" = some false ∧ kitB "str" "list" = some false ∧ kitB "str" "tuple" = some false ∧ kitB "str" "dict" = some false := by decide +kernel
theorem kitBY : kitB "bytes" "bool" = some false ∧ kitB "bytes" "int" = some false ∧ kitB "bytes" "str" = some false ∧ kitB "bytes" "bytes" = some true ∧ kitB "bytes" "list" = some false ∧ kitB "bytes" "tuple" = some false ∧ kitB "bytes" "dict" = some false := by decide +kernel
theorem kitLI : kitB "list" "bool" = some false ∧ kitB "list" "int" = some false ∧ kitB "list" "str" = some false ∧ kitB "list" "bytes" = some false ∧ kitB "list" "list" = some true ∧ kitB "list" "tuple" = some false ∧ kitB "list" "dict" = some false := by decide +kernel
theorem kitTU : kitB "tuple" "bool" = some false ∧ kitB "tuple" "int" = some false ∧ kitB "tuple" "str" = some false ∧ kitB "tuple" "bytes" = some false ∧ kitB "tuple" "list" = some false ∧ kitB "tuple" "tuple" = some true ∧ kitB "tuple" "dict" = some false := by decide +kernel
theorem kitDI : kitB "dict" "bool" = some false ∧ kitB "dict" "int" = some false ∧ kitB "dict" "str" = some false ∧ kitB "dict" "bytes" = some false ∧ kitB "dict" "list" = some false ∧ kitB "dict" "tuple" = some false ∧ kitB "dict" "dict" = some true := by decide +kernel
theorem kit_gen {f : String → String → Option Bool} (h0 : f "NoneType" "bool" = some false) (h1 : f "NoneType" "int" = some false) (h2 : f "NoneType" "str" = some false) (h3 : f "NoneType" "bytes" = some false) (h4 : f "NoneType" "list" = some false) (h5 : f "NoneType" "tuple" = some false) (h6 : f "NoneType" "dict" = some false) (h7 : f "bool" "bool" = some true) (h8 : f "bool" "int" = some true) (h9 : f "bool" "str" = some false) (h10 : f "bool" "bytes" = some false) (h11 : f "bool" "list" = some false) (h12 : f "bool" "tuple" = some false) (h13 : f "bool" "dict" = some false) (h14 : f "int" "bool" = some false) (h15 : f "int" "int" = some true) (h16 : f "int" "str" = some false) (h17 : f "int" "bytes" = some false) (h18 : f "int" "list" = some false) (h19 : f "int" "tuple" = some false) (h20 : f "int" "dict" = some false) (h21 : f "str" "bool" = some false) (h22 : f "str" "int" = some false) (h23 : f "str" "str" = some true) (h24 : f "str" "bytes" = some false) (h25 : f "str" "list" = some false) (h26 : f "str" "tuple" = some false) (h27 : f "str" "dict" = some false) (h28 : f "bytes" "bool" = some false) (h29 : f "bytes" "int" = some false) (h30 : f "bytes" "str" = some false) (h31 : f "bytes" "bytes" = some true) (h32 : f "bytes" "list" = some false) (h33 : f "bytes" "tuple" = some false) (h34 : f "bytes" "dict" = some false) (h35 : f "list" "bool" = some false) (h36 : f "list" "int" = some false) (h37 : f "list" "str" = some false) (h38 : f "list" "bytes" = some false) (h39 : f "list" "list" = some true) (h40 : f "list" "tuple" = some false) (h41 : f "list" "dict" = some false) (h42 : f "tuple" "bool" = some false) (h43 : f "tuple" "int" = some false) (h44 : f "tuple" "str" = some false) (h45 : f "tuple" "bytes" = some false) (h46 : f "tuple" "list" = some false) (h47 : f "tuple" "tuple" = some true) (h48 : f "tuple" "dict" = some false) (h49 : f "dict" "bool" = some false) (h50 : f "dict" "int" = some false) (h51 : f "dict" "str" = some false) (h52 : f "dict" "bytes" = some false) (h53 : f "dict" "list" = some false) (h54 : f "dict" "tuple" = some false) (h55 : f "dict" "dict" = some true) {n : String} {d : Dt} (hn : inKinds n = true) (hd : plainD d = true) : f (tyN d) n = some (isa n d) := by
  unfold inKinds at hn
  simp only [Bool.or_eq_true, beq_iff_eq] at hn
  rcases hn with (((((rfl | rfl) | rfl) | rfl) | rfl) | rfl) | rfl <;> cases d <;> first | (cases hd; done) | simp only [tyN, isa, *] <;> rfl
theorem kit_isa {n : String} {d : Dt} (hn : inKinds n = true) (hd : plainD d = true) : kitB (tyN d) n = some (isa n d) :=
  kit_gen kitNN.1 kitNN.2.1 kitNN.2.2.1 kitNN.2.2.2.1 kitNN.2.2.2.2.1 kitNN.2.2.2.2.2.1 kitNN.2.2.2.2.2.2 kitBL.1 kitBL.2.1 kitBL.2.2.1 kitBL.2.2.2.1 kitBL.2.2.2.2.1 kitBL.2.2.2.2.2.1 kitBL.2.2.2.2.2.2 kitIN.1 kitIN.2.1 kitIN.2.2.1 kitIN.2.2.2.1 kitIN.2.2.2.2.1 kitIN.2.2.2.2.2.1 kitIN.2.2.2.2.2.2 kitST.1 kitST.2.1 kitST.2.2.1 kitST.2.2.2.1 kitST.2.2.2.2.1 kitST.2.2.2.2.2.1 kitST.2.2.2.2.2.2 kitBY.1 kitBY.2.1 kitBY.2.2.1 kitBY.2.2.2.1 kitBY.2.2.2.2.1 kitBY.2.2.2.2.2.1 kitBY.2.2.2.2.2.2 kitLI.1 kitLI.2.1 kitLI.2.2.1 kitLI.2.2.2.1 kitLI.2.2.2.2.1 kitLI.2.2.2.2.2.1 kitLI.2.2.2.2.2.2 kitTU.1 kitTU.2.1 kitTU.2.2.1 kitTU.2.2.2.1 kitTU.2.2.2.2.1 kitTU.2.2.2.2.2.1 kitTU.2.2.2.2.2.2 kitDI.1 kitDI.2.1 kitDI.2.2.1 kitDI.2.2.2.1 kitDI.2.2.2.2.1 kitDI.2.2.2.2.2.1 kitDI.2.2.2.2.2.2 hn hd
theorem tyx_of {Z : Zs} {H : Hp} {v : V} {d : Dt} (s : See K Z H v d) (hd : plainD d = true) : TyX K H v (.type (tyN d)) := by
  cases d with
  | non => cases (show v = .non from s); exact .base .non
  | bl b => cases (show v = .bl b from s); exact .base (.bl b)
  | int b => cases (show v = .int b from s); exact .base (.int b)
  | str b => cases (show v = .str b from s); exact .base (.str b)
  | byt b => cases (show v = .byt b from s); exact .byt b
  | lst ds =>
    obtain ⟨a, vs, rfl, (h | ⟨o, h⟩) | ⟨o, its, n, hk, hc, _⟩, r⟩ := s
    · exact .base (.lst h)
    · exact .base (.frz h)
    · exact .kList hk hc
  | tup ds =>
    obtain ⟨a, vs, rfl, (h | ⟨o, h⟩) | ⟨o, its, n, hk, hc, _⟩, r⟩ := s
    · exact .base (.tup h)
    · exact .fTuple h
    · exact .kTuple hk hc
  | dct kvs =>
    obtain ⟨a, ks, vs, ds, rfl, e, l, (h | ⟨o, h⟩), r⟩ := s
    · exact .base (.dK h)
    · exact .fDict h
  | ty _ => cases hd
  | ins _ _ => cases hd
  | ref _ => cases hd
  | exn _ _ _ _ => cases hd
/-- isinstance(x, T), T a built-in kind -/
def roIsi : ROs := fun xs η Q => ∃ x n d, xs = [x, .d (.ty n)] ∧ look η x = some d ∧ inKinds n = true ∧ plainD d = true ∧ Q (.d (.bl (isa n d))) η
theorem dc_isi : DC K (rIsi K) roIsi := by
  constructor
  · rintro xs η Q Q' hq ⟨x, n, d, e1, e2, e3, e4, q⟩
    exact ⟨x, n, d, e1, e2, e3, e4, hq _ _ q⟩
  rintro B Z H σ η τ xs vs P o ⟨x, n, d, rfl, e2, e3, e4, q⟩
  obtain ⟨v, w, rfl⟩ := ali2 o.1
  obtain ⟨s1, s2⟩ := o.see2 e2 (rfl : look η (.d (.ty n)) = some (.ty n))
  cases (show w = .ty n from s2)
  exact ⟨v, .ty n, .type (tyN d), .type n, isa n d, rfl, .ty n, tyx_of s1 e4, kit_ty (kit_isa e3 e4), q Z H _ (.d o.ok (.bl _))⟩
theorem de_ty {n : String} : DE K X (tC (.ty n)) (rC (.ty n)) := de_c fun _ _ => .ty n
theorem de_ref {a : Addr} : DE K X (tC (.ref a)) (rC (.ref a)) := de_c fun _ _ => .ref a

/-! ### one argument, a pure answer -/
def roF1 (R : Dt → Dt → Prop) : ROs := fun xs η Q => ∃ x dx d, xs = [x] ∧ look η x = some dx ∧ R dx d ∧ Q (.d d) η
structure F1 (K : PySem.W.Frag) (r : List V → Hp → VK → Prop) (R : Dt → Dt → Prop) : Prop where
  run : ∀ (Z : Zs) (H : Hp) (v : V) (dx d : Dt) (P : VK), See K Z H v dx → R dx d → (∀ u, Rp K Z H u d → P u H) → r [v] H P
theorem dc_F1 {r : List V → Hp → VK → Prop} {R : Dt → Dt → Prop} (h : F1 K r R) : DC K r (roF1 R) := by
  constructor
  · rintro xs η Q Q' hq ⟨x, dx, d, e1, e2, e3, q⟩
    exact ⟨x, dx, d, e1, e2, e3, hq _ _ q⟩
  rintro B Z H σ η τ xs vs P o ⟨x, dx, d, rfl, e2, e3, q⟩
  obtain ⟨v, rfl⟩ := ali1 o.1
  exact h.run Z H v dx d P (o.see e2) e3 fun u ru => q Z H u (.d o.ok ru)
theorem DC.or {r r' : List V → Hp → VK → Prop} {ro ro' : ROs} (h : DC K r ro) (h' : DC K r' ro') : DC K (fun xs H Q => r xs H Q ∨ r' xs H Q) (fun xs η Q => ro xs η Q ∨ ro' xs η Q) :=
  ⟨fun xs η Q Q' hq q => q.imp (h.mono _ _ _ _ hq) (h'.mono _ _ _ _ hq), fun B Z H σ η τ xs vs P o q => q.imp (h.run B Z H σ η τ xs vs P o) (h'.run B Z H σ η τ xs vs P o)⟩
/-- len -/
def RLen : Dt → Dt → Prop
  | .lst ds, d => d = .int ds.length
  | .tup ds, d => d = .int ds.length
  | .str s, d => s.length ≤ 100000 ∧ d = .int s.length
  | .byt b, d => b.size ≤ 100000 ∧ d = .int b.size
  | _, _ => False
theorem f1_len : F1 K (fun xs H Q => ∃ x n, xs = [x] ∧ LenV K x H n ∧ Q (.int n) H) RLen := by
  constructor
  intro Z H v dx d P s e k
  cases dx with
  | lst ds =>
    obtain ⟨a, vs, rfl, h, r⟩ := s
    cases (show d = .int ds.length from e)
    exact ⟨_, vs.length, rfl, .inl ⟨vs, h, rfl⟩, by rw [r.length]; exact k _ (.int _)⟩
  | tup ds =>
    obtain ⟨a, vs, rfl, h, r⟩ := s
    cases (show d = .int ds.length from e)
    exact ⟨_, vs.length, rfl, .inr ⟨vs, h, rfl⟩, by rw [r.length]; exact k _ (.int _)⟩
  | str x =>
    cases (show v = .str x from s)
    obtain ⟨h, rfl⟩ := e
    exact ⟨_, x.length, rfl, ⟨sz h, rfl⟩, k _ (.int _)⟩
  | byt x =>
    cases (show v = .byt x from s)
    obtain ⟨h, rfl⟩ := e
    exact ⟨_, x.size, rfl, ⟨sz h, rfl⟩, k _ (.int _)⟩
  | _ => exact e.elim
/-- int(x) of an int, of a truth -/
def RInt : Dt → Dt → Prop
  | .int i, d => d = .int i
  | .bl b, d => d = .int (if b then 1 else 0)
  | _, _ => False
theorem f1_int : F1 K (fun xs H Q => (∃ i, xs = [V.int i] ∧ Q (.int i) H) ∨ ∃ k, xs = [V.bl k] ∧ Q (.int (if k then 1 else 0)) H) RInt := by
  constructor
  intro Z H v dx d P s e k
  cases dx with
  | int i =>
    cases (show v = .int i from s)
    cases (show d = .int i from e)
    exact .inl ⟨i, rfl, k _ (.int _)⟩
  | bl b =>
    cases (show v = .bl b from s)
    cases (show d = .int (if b then 1 else 0) from e)
    exact .inr ⟨b, rfl, k _ (.int _)⟩
  | _ => exact e.elim
theorem bls_of {Z : Zs} {H : Hp} : ∀ {bs : List Bool} {vs : List V}, RpAll K Z H vs (bs.map Dt.bl) → vs = bs.map V.bl
  | [], vs, r => by cases r; rfl
  | b :: bs, vs, r => by
    cases r with
    | cons a b =>
      cases a
      rw [bls_of b]
      rfl
theorem ints_of {Z : Zs} {H : Hp} : ∀ {ns : List Int} {vs : List V}, RpAll K Z H vs (ns.map Dt.int) → vs = ns.map V.int
  | [], vs, r => by cases r; rfl
  | b :: bs, vs, r => by
    cases r with
    | cons a b =>
      cases a
      rw [ints_of b]
      rfl
theorem strs_of {Z : Zs} {H : Hp} : ∀ {ns : List Str} {vs : List V}, RpAll K Z H vs (ns.map Dt.str) → vs = ns.map V.str
  | [], vs, r => by cases r; rfl
  | b :: bs, vs, r => by
    cases r with
    | cons a b =>
      cases a
      rw [strs_of b]
      rfl
def RAll : Dt → Dt → Prop := fun x d => ∃ bs : List Bool, x = .lst (bs.map .bl) ∧ d = .bl (bs.all id)
def RAny : Dt → Dt → Prop := fun x d => ∃ bs : List Bool, x = .lst (bs.map .bl) ∧ d = .bl (bs.any id)
theorem f1_all : F1 K (rAll K) RAll := by
  constructor
  rintro Z H v dx d P s ⟨bs, rfl, rfl⟩ k
  obtain ⟨a, vs, rfl, h, r⟩ := s
  rw [bls_of r] at h
  exact ⟨a, bs, rfl, h, k _ (.bl _)⟩
theorem f1_any : F1 K (rAny K) RAny := by
  constructor
  rintro Z H v dx d P s ⟨bs, rfl, rfl⟩ k
  obtain ⟨a, vs, rfl, h, r⟩ := s
  rw [bls_of r] at h
  exact ⟨a, bs, rfl, h, k _ (.bl _)⟩
def RBytes : Dt → Dt → Prop := fun x d => ∃ ns : List Int, x = .lst (ns.map .int) ∧ (∀ n ∈ ns, 0 ≤ n ∧ n ≤ 255) ∧ d = .byt (byteArr ns)
theorem f1_bytes : F1 K (fun xs H Q => ∃ p ns, xs = [V.ref p] ∧ SqL K H p (ns.map V.int) ∧ B8 ns ∧ Q (.byt (byteArr ns)) H) RBytes := by
  constructor
  rintro Z H v dx d P s ⟨ns, rfl, hb, rfl⟩ k
  obtain ⟨a, vs, rfl, h, r⟩ := s
  rw [ints_of r] at h
  exact ⟨a, ns, rfl, h, fun n hn => by have := hb n hn; omega, k _ (.byt _)⟩
/-- one argument, a new list -/
def roL1 (R : Dt → List Dt → Prop) : ROs := fun xs η Q => ∃ x dx ds, xs = [x] ∧ look η x = some dx ∧ R dx ds ∧ Q (.nw (.lst ds)) η
structure L1 (K : PySem.W.Frag) (r : List V → Hp → VK → Prop) (R : Dt → List Dt → Prop) : Prop where
  run : ∀ (Z : Zs) (H : Hp) (v : V) (dx : Dt) (ds : List Dt) (P : VK), See K Z H v dx → R dx ds → (∀ vs l, RpAll K Z H vs ds → H l = none → P (.ref l) (upd H l (.lst vs))) → r [v] H P
theorem dc_L1 {r : List V → Hp → VK → Prop} {R : Dt → List Dt → Prop} (h : L1 K r R) : DC K r (roL1 R) := by
  constructor
  · rintro xs η Q Q' hq ⟨x, dx, d, e1, e2, e3, q⟩
    exact ⟨x, dx, d, e1, e2, e3, hq _ _ q⟩
  rintro B Z H σ η τ xs vs P o ⟨x, dx, ds, rfl, e2, e3, q⟩
  obtain ⟨v, rfl⟩ := ali1 o.1
  exact h.run Z H v dx ds P (o.see e2) e3 fun vs l r hl => q Z _ _ (o.ok.newLst r hl)
def RListOf : Dt → List Dt → Prop := fun x ds => x = .lst ds ∨ x = .tup ds
theorem l1_list : L1 K (fun xs H Q => ∃ p ys, xs = [V.ref p] ∧ (SqL K H p ys ∨ SqT K H p ys) ∧ ∀ l, H l = none → Q (.ref l) (upd H l (.lst ys))) RListOf := by
  constructor
  rintro Z H v dx ds P s (rfl | rfl) k
  · obtain ⟨a, vs, rfl, h, r⟩ := s
    exact ⟨a, vs, rfl, .inl h, fun l hl => k vs l r hl⟩
  · obtain ⟨a, vs, rfl, h, r⟩ := s
    exact ⟨a, vs, rfl, .inr h, fun l hl => k vs l r hl⟩
/-- tuple(list): a new tuple -/
def roTupOf : ROs := fun xs η Q => ∃ x ds, xs = [x] ∧ look η x = some (.lst ds) ∧ Q (.d (.tup ds)) η
theorem dc_tupOf : DC K (fun xs H Q => ∃ p ys, xs = [V.ref p] ∧ ((SqL K H p ys ∧ ∀ l, H l = none → Q (.ref l) (upd H l (.tup ys))) ∨ (SqT K H p ys ∧ Q (.ref p) H))) roTupOf := by
  constructor
  · rintro xs η Q Q' hq ⟨x, dx, e1, e2, q⟩
    exact ⟨x, dx, e1, e2, hq _ _ q⟩
  rintro B Z H σ η τ xs vs P o ⟨x, ds, rfl, e2, q⟩
  obtain ⟨v, rfl⟩ := ali1 o.1
  obtain ⟨a, vs, rfl, h, r⟩ := o.see e2
  exact ⟨a, vs, rfl, .inl ⟨h, fun l hl => q _ _ _ (o.ok.newTup r hl)⟩⟩
/-! ### subscripts -/
def RIx : Dt → Dt → Dt → Prop := fun x y d => ∃ ds i, (x = .lst ds ∨ x = .tup ds) ∧ y = .int i ∧ atI ds i = some d
theorem atI_rp {Z : Zs} {H : Hp} {vs : List V} {ds : List Dt} (r : RpAll K Z H vs ds) {i : Int} {d : Dt} (h : atI ds i = some d) : ∃ v, atI vs i = some v ∧ Rp K Z H v d := by
  unfold atI at h ⊢
  rw [r.length]
  cases q : ixN ds.length i with
  | none => rw [q] at h; cases h
  | some j =>
    rw [q] at h
    exact r.get h
theorem p2_ixL : P2 K (rIxL K) (fun x y d => ∃ ds i, x = .lst ds ∧ y = .int i ∧ atI ds i = some d) := by
  constructor
  rintro Z H v w dx dy d P s1 s2 ⟨ds, i, rfl, rfl, h⟩ k
  obtain ⟨a, vs, rfl, hs, r⟩ := s1
  cases (show w = .int i from s2)
  obtain ⟨u, h1, h2⟩ := atI_rp r h
  exact ⟨a, vs, i, u, rfl, rfl, hs, h1, k u h2⟩
theorem p2_ixT : P2 K (rIxT K) (fun x y d => ∃ ds i, x = .tup ds ∧ y = .int i ∧ atI ds i = some d) := by
  constructor
  rintro Z H v w dx dy d P s1 s2 ⟨ds, i, rfl, rfl, h⟩ k
  obtain ⟨a, vs, rfl, hs, r⟩ := s1
  cases (show w = .int i from s2)
  obtain ⟨u, h1, h2⟩ := atI_rp r h
  exact ⟨a, vs, i, u, rfl, rfl, hs, h1, k u h2⟩
theorem p2_ixS : P2 K rIxS (fun x y d => ∃ s i c, x = .str s ∧ y = .int i ∧ s.length ≤ 100000 ∧ atI s.cps.toList i = some c ∧ d = .str ⟨#[c]⟩) := by
  constructor
  rintro Z H v w dx dy d P s1 s2 ⟨s, i, c, rfl, rfl, hl, h, rfl⟩ k
  cases (show v = .str s from s1)
  cases (show w = .int i from s2)
  exact ⟨s, i, c, rfl, rfl, sz hl, h, k _ (.str _)⟩
/-- any of them -/
def RIxA : Dt → Dt → Dt → Prop := fun x y d => (∃ ds i, x = .lst ds ∧ y = .int i ∧ atI ds i = some d) ∨ (∃ ds i, x = .tup ds ∧ y = .int i ∧ atI ds i = some d) ∨ (∃ s i c, x = .str s ∧ y = .int i ∧ s.length ≤ 100000 ∧ atI s.cps.toList i = some c ∧ d = .str ⟨#[c]⟩)
theorem p2_ix : P2 K (rIx K) RIxA := p2_ixL.or (p2_ixT.or p2_ixS)
/-! ### xs[i] = e on one's own list -/
structure DSet (K : PySem.W.Frag) (t : TSet) (ro : Vl → Vl → Vl → Env → (Env → Prop) → Prop) : Prop where
  mono : ∀ o i v η (Q Q' : Env → Prop), (∀ η', Q η' → Q' η') → ro o i v η Q → ro o i v η Q'
  run : ∀ (B : Base) (Z : Zs) (H : Hp) (σ : L2.St) (η : Env) (τ : List (V × En)) (o i x : Vl) (vo vi vx : V) (P : Hp → Prop), OkV B K Z H σ η τ [x, o, i] [vx, vo, vi] → ro o i x η (fun η' => ∀ Z' H', Ok B K Z' H' σ η' τ → P H') → t vo vi vx H P
def roSetL : Vl → Vl → Vl → Env → (Env → Prop) → Prop := fun o i x η Q => ∃ k p ds n j d, o = .sl k ∧ η[k]? = some (some (.mu p (.dt (.lst ds)))) ∧ look η i = some (.int n) ∧ ixN ds.length n = some j ∧ frz η x = some d ∧ Q (η.set k (some (.mu p (.dt (.lst (ds.set j d))))))
theorem dset_list : DSet K rSetL roSetL := by
  constructor
  · rintro o i v η Q Q' hq ⟨k, p, ds, n, j, d, e1, e2, e3, e4, e5, q⟩
    exact ⟨k, p, ds, n, j, d, e1, e2, e3, e4, e5, hq _ q⟩
  rintro B Z H σ η τ o i x vo vi vx P ok ⟨k, p, ds, n, j, d, rfl, e2, e3, e4, e5, q⟩
  have si : See K Z H vi (.int n) := ok.tail.tail.see e3
  cases (show vi = .int n from si)
  have al : σ[k]? = some (some vo) := by
    have := ok.tail.1
    exact this.1
  have o1 : OkV B K Z H σ η τ [x] [vx] := ⟨ok.head.1, by
    have h := ok.head.2
    have : tmp [Vl.sl k, i] [vo, V.int n] = tmp [i] [V.int n] := by cases i <;> rfl
    rw [this] at h
    exact ((h.perm (pm3 (a := tmp [x] [vx]))).drops)⟩
  obtain ⟨Z2, z2, o2⟩ := o1.frz e5
  obtain ⟨w, hw, o3⟩ := o2.take e2
  rw [al] at hw; cases hw
  obtain ⟨a, rfl, nz, vs, hH, r⟩ := o3.notZ
  have rv := (o3.perm (List.Perm.swap _ _ _)).rp
  have o4 := o3.write (o := .lst (vs.set j vx)) (d' := .lst (ds.set j d)) ⟨_, upd_same, (r.set rv j).write nz⟩
  have hk : k < η.length := by
    have := (List.getElem?_eq_some_iff.mp e2).1
    exact this
  exact ⟨a, vs, n, j, rfl, rfl, hH, by rw [r.length]; exact e4, q _ _ ((o4.put hk al).drop)⟩
def rgSub (ro ri : RE) (rs : Vl → Vl → Vl → Env → (Env → Prop) → Prop) : Vl → Env → (Env → Prop) → Prop := fun x η Q => ro η fun o η1 => ri η1 fun i η2 => rs o i x η2 Q
/-- o[i] = e as a statement -/
def rAsgSub (re ro ri : RE) (rs : Vl → Vl → Vl → Env → (Env → Prop) → Prop) : RS := fun D η => re η fun x η0 => ro η0 fun o η1 => ri η1 fun i η2 => rs o i x η2 D.nx
theorem ds_asgSub {te to ti : TE} {t : TSet} {re ro ri : RE} {rs : Vl → Vl → Vl → Env → (Env → Prop) → Prop} (he : DE K X te re) (ho : DE K X to ro) (hi : DE K X ti ri) (hs : DSet K t rs) : DS K X (tAsg te (gSub to ti t)) (rAsgSub re ro ri rs) := by
  refine ⟨fun η D D' hd q => he.mono _ _ _ (fun x η1 q => ho.mono _ _ _ (fun o η2 q => hi.mono _ _ _ (fun i η3 q => hs.mono _ _ _ _ _ _ hd.nx q) q) q) q, ?_⟩
  intro B Z H σ η τ E lk o q
  refine he.run B Z H σ η τ _ lk o (he.mono _ _ _ (fun x η1 q Z1 H1 v1 o1 => ?_) q)
  refine ho.run B Z1 H1 σ η1 _ _ lk.app o1.2 (ho.mono _ _ _ (fun y η2 q Z2 H2 v2 o2 => ?_) q)
  refine hi.run B Z2 H2 σ η2 _ _ lk.app.app o2.2 (hi.mono _ _ _ (fun z η3 q Z3 H3 v3 o3 => ?_) q)
  refine hs.run B Z3 H3 σ η3 τ y z x v2 v3 v1 _ (OkV.cons o1.1 (OkV.cons o2.1 o3)) (hs.mono _ _ _ _ _ _ (fun η' q Z' H' o' => q Z' H' σ o') q)
/-! ### methods of a list of one's own -/
def rBM (T : String) (ro : Vl → ROs) (re : RE) (ra : RA) : RE := fun η Q => re η fun x η1 => (∃ d, look η1 x = some d ∧ isa T d = true ∧ (T = "list" ∨ T = "str")) ∧ ra η1 fun xs η2 => ro x xs η2 Q
theorem tyV_of {Z : Zs} {H : Hp} {v : V} {d : Dt} {T : String} (s : See K Z H v d) (h : isa T d = true) (hT : T = "list" ∨ T = "str") : tyV K T v H := by
  cases d with
  | str x =>
    cases (show v = .str x from s)
    show T = "str"
    simpa [isa] using h
  | lst ds =>
    obtain ⟨a, vs, rfl, hs, r⟩ := s
    exact .inl ⟨by simpa [isa] using h, vs, hs⟩
  | int _ => rcases hT with rfl | rfl <;> simp [isa] at h
  | bl _ => rcases hT with rfl | rfl <;> simp [isa] at h
  | byt _ => rcases hT with rfl | rfl <;> simp [isa] at h
  | tup _ => rcases hT with rfl | rfl <;> simp [isa] at h
  | dct _ => rcases hT with rfl | rfl <;> simp [isa] at h
  | _ => simp [isa] at h
theorem de_bm {T : String} {r : V → List V → Hp → VK → Prop} {ro : Vl → ROs} {te : TE} {ta : TA} {re : RE} {ra : RA} (h : DM K r ro) (he : DE K X te re) (ha : DA K X ta ra) : DE K X (tBM K T r te ta) (rBM T ro re ra) := by
  refine ⟨fun η Q Q' hq q => he.mono _ _ _ (fun x η1 ⟨t, q⟩ => ⟨t, ha.mono _ _ _ (fun xs η2 q => h.mono _ _ _ _ _ hq q) q⟩) q, ?_⟩
  intro B Z H σ η τ P lk o q
  refine he.run B Z H σ η τ _ lk o (he.mono _ _ _ (fun x η1 q Z1 H1 v1 o1 => ?_) q)
  obtain ⟨⟨d, e1, e2, e3⟩, q⟩ := q
  refine ⟨tyV_of (o1.see e1) e2 e3, ?_⟩
  refine ha.run B Z1 H1 σ η1 _ _ lk.app o1.2 (ha.mono _ _ _ (fun xs η2 q Z2 H2 vs o2 => ?_) q)
  exact h.run B Z2 H2 σ η2 τ x v1 xs vs P (OkV.cons o1.1 o2) q
def rBM0 (T : String) (ro : Vl → ROs) (re : RE) : RE := fun η Q => re η fun x η1 => (∃ d, look η1 x = some d ∧ isa T d = true ∧ (T = "list" ∨ T = "str")) ∧ ro x [] η1 Q
theorem de_bm0 {T : String} {r : V → List V → Hp → VK → Prop} {ro : Vl → ROs} {te : TE} {re : RE} (h : DM K r ro) (he : DE K X te re) : DE K X (tBM0 K T r te) (rBM0 T ro re) := by
  refine ⟨fun η Q Q' hq q => he.mono _ _ _ (fun x η1 ⟨t, q⟩ => ⟨t, h.mono _ _ _ _ _ hq q⟩) q, ?_⟩
  intro B Z H σ η τ P lk o q
  refine he.run B Z H σ η τ _ lk o (he.mono _ _ _ (fun x η1 q Z1 H1 v1 o1 => ?_) q)
  obtain ⟨⟨d, e1, e2, e3⟩, q⟩ := q
  exact ⟨tyV_of (o1.see e1) e2 e3, h.run B Z1 H1 σ η1 τ x v1 [] [] P o1 q⟩
/-- a list of one's own is changed by a method without arguments, which tells d -/
theorem own_upd {B : Base} {Z : Zs} {H : Hp} {σ : L2.St} {η : Env} {τ : List (V × En)} {k : Nat} {v : V} {p : Option Nat} {ds : List Dt} (o : Ok B K Z H σ η τ) (al : σ[k]? = some (some v)) (e : η[k]? = some (some (.mu p (.dt (.lst ds))))) :
    ∃ a vs, v = .ref a ∧ H a = some (.lst vs) ∧ RpAll K Z H vs ds ∧ ∀ vs' ds', RpAll K Z H vs' ds' → Ok B K Z (upd H a (.lst vs')) σ (η.set k (some (.mu p (.dt (.lst ds'))))) τ ∧ ∀ {u d}, Rp K Z H u d → Rp K Z (upd H a (.lst vs')) u d := by
  obtain ⟨w, hw, o3⟩ := o.take e
  rw [al] at hw; cases hw
  obtain ⟨a, rfl, nz, vs, hH, r⟩ := o3.notZ
  refine ⟨a, vs, rfl, hH, r, fun vs' ds' r' => ⟨?_, fun ru => ru.write nz⟩⟩
  have o4 := o3.write (o := .lst vs') (d' := .lst ds') ⟨_, upd_same, r'.write nz⟩
  exact o4.put (List.getElem?_eq_some_iff.mp e).1 al
def roAppend : Vl → ROs := fun x xs η Q => ∃ k p ds y d, x = .sl k ∧ η[k]? = some (some (.mu p (.dt (.lst ds)))) ∧ xs = [y] ∧ frz η y = some d ∧ ds.length < 100000 ∧ Q (.d .non) (η.set k (some (.mu p (.dt (.lst (ds ++ [d]))))))
theorem dm_append : DM K rAppend roAppend := by
  constructor
  · rintro x xs η Q Q' hq ⟨k, p, ds, y, d, e1, e2, e3, e4, e5, q⟩
    exact ⟨k, p, ds, y, d, e1, e2, e3, e4, e5, hq _ _ q⟩
  rintro B Z H σ η τ x v xs vs P ok ⟨k, p, ds, y, d, rfl, e2, rfl, e4, e5, q⟩
  obtain ⟨w, rfl⟩ := ali1 ok.tail.1
  have al : σ[k]? = some (some v) := ok.1.1
  have o1 : OkV B K Z H σ η τ [y] [w] := ok.tail
  obtain ⟨Z2, z2, o2⟩ := o1.frz e4
  obtain ⟨a, ws, rfl, hH, r, up⟩ := own_upd o2.drop al e2
  obtain ⟨o5, rk⟩ := up (ws ++ [w]) (ds ++ [d]) (r.append (.cons o2.rp .nil))
  exact ⟨a, ws, w, rfl, rfl, hH, by rw [r.length]; exact szl e5, q _ _ _ (.d o5 .non)⟩
def roOwn0 (f : List Dt → List Dt) : Vl → ROs := fun x xs η Q => ∃ k p ds, x = .sl k ∧ η[k]? = some (some (.mu p (.dt (.lst ds)))) ∧ xs = [] ∧ Q (.d .non) (η.set k (some (.mu p (.dt (.lst (f ds))))))
theorem dm_clear : DM K rClear (roOwn0 fun _ => []) := by
  constructor
  · rintro x xs η Q Q' hq ⟨k, p, ds, e1, e2, e3, q⟩
    exact ⟨k, p, ds, e1, e2, e3, hq _ _ q⟩
  rintro B Z H σ η τ x v xs vs P ok ⟨k, p, ds, rfl, e2, rfl, q⟩
  cases vs with
  | cons _ _ => have := ok.inv; simp at this
  | nil =>
    obtain ⟨a, ws, rfl, hH, r, up⟩ := own_upd ok.ok ok.1.1 e2
    exact ⟨a, ws, rfl, rfl, hH, q _ _ _ (.d (up [] [] .nil).1 .non)⟩
theorem dm_reverse : DM K rReverse (roOwn0 List.reverse) := by
  constructor
  · rintro x xs η Q Q' hq ⟨k, p, ds, e1, e2, e3, q⟩
    exact ⟨k, p, ds, e1, e2, e3, hq _ _ q⟩
  rintro B Z H σ η τ x v xs vs P ok ⟨k, p, ds, rfl, e2, rfl, q⟩
  cases vs with
  | cons _ _ => have := ok.inv; simp at this
  | nil =>
    obtain ⟨a, ws, rfl, hH, r, up⟩ := own_upd ok.ok ok.1.1 e2
    exact ⟨a, ws, rfl, rfl, hH, q _ _ _ (.d (up _ _ r.reverse).1 .non)⟩
def roPopAt : Vl → ROs := fun x xs η Q => ∃ k p ds y i j d, x = .sl k ∧ η[k]? = some (some (.mu p (.dt (.lst ds)))) ∧ xs = [y] ∧ look η y = some (.int i) ∧ -(2 ^ 63) ≤ i ∧ i < 2 ^ 63 ∧ seqIndex? i ds.length = some j ∧ ds[j]? = some d ∧ Q (.d d) (η.set k (some (.mu p (.dt (.lst (ds.eraseIdx j))))))
theorem dm_popAt : DM K rPopAt roPopAt := by
  constructor
  · rintro x xs η Q Q' hq ⟨k, p, ds, y, i, j, d, e1, e2, e3, e4, e5, e6, e7, e8, q⟩
    exact ⟨k, p, ds, y, i, j, d, e1, e2, e3, e4, e5, e6, e7, e8, hq _ _ q⟩
  rintro B Z H σ η τ x v xs vs P ok ⟨k, p, ds, y, i, j, d, rfl, e2, rfl, e4, e5, e6, e7, e8, q⟩
  obtain ⟨w, rfl⟩ := ali1 ok.tail.1
  have si : See K Z H w (.int i) := ok.tail.see e4
  cases (show w = .int i from si)
  obtain ⟨a, ws, rfl, hH, r, up⟩ := own_upd ok.ok ok.1.1 e2
  obtain ⟨u, h1, h2⟩ := r.get e8
  obtain ⟨o5, rk⟩ := up _ _ (r.erase j)
  exact ⟨a, ws, i, j, u, rfl, rfl, hH, e5, e6, by rw [r.length]; exact e7, h1, q _ _ _ (.d o5 (rk h2))⟩
/-! ### slices, sums of lists -/
structure DO (K : PySem.W.Frag) (X : Wsh) (t : TO) (r : Env → (Option Int → Env → Prop) → Prop) : Prop where
  mono : ∀ η (Q Q' : Option Int → Env → Prop), (∀ x η', Q x η' → Q' x η') → r η Q → r η Q'
  run : ∀ (B : Base) (Z : Zs) (H : Hp) (σ : L2.St) (η : Env) (τ : List (V × En)) (P : Option Int → Hp → Prop), Lk B K X τ → Ok B K Z H σ η τ → r η (fun x η' => ∀ Z' H', Ok B K Z' H' σ η' τ → P x H') → t σ H P
def roNone : Env → (Option Int → Env → Prop) → Prop := fun η Q => Q none η
theorem do_none : DO K X tNoPart roNone := ⟨fun η Q Q' hq q => hq _ _ q, fun B Z H σ η τ P lk o q => q Z H o⟩
def roSome (re : RE) : Env → (Option Int → Env → Prop) → Prop := fun η Q => re η fun x η1 => ∃ i, look η1 x = some (.int i) ∧ Q (some i) η1
theorem do_some {te : TE} {re : RE} (he : DE K X te re) : DO K X (tPart te) (roSome re) := by
  refine ⟨fun η Q Q' hq q => he.mono _ _ _ (fun x η1 ⟨i, e, q⟩ => ⟨i, e, hq _ _ q⟩) q, ?_⟩
  intro B Z H σ η τ P lk o q
  refine he.run B Z H σ η τ _ lk o (he.mono _ _ _ (fun x η1 q Z1 H1 v1 o1 => ?_) q)
  obtain ⟨i, e, q⟩ := q
  exact ⟨i, o1.see e, q Z1 H1 o1.ok⟩
def cutD (ds : List Dt) (lo hi : Option Int) : List Dt := (ds.drop (HT.sIx ds.length 0 lo)).take (HT.sIx ds.length ds.length hi - HT.sIx ds.length 0 lo)
def rSlL' (re : RE) (rl rh : Env → (Option Int → Env → Prop) → Prop) : RE := fun η Q => re η fun x η1 => rl η1 fun lo η2 => rh η2 fun hi η3 => ∃ ds, look η3 x = some (.lst ds) ∧ Q (.nw (.lst (cutD ds lo hi))) η3
theorem de_slL {te : TE} {tl th : TO} {re : RE} {rl rh : Env → (Option Int → Env → Prop) → Prop} (he : DE K X te re) (hl : DO K X tl rl) (hh : DO K X th rh) : DE K X (tSl (rSlL K) te tl th) (rSlL' re rl rh) := by
  refine ⟨fun η Q Q' hq q => he.mono _ _ _ (fun x η1 q => hl.mono _ _ _ (fun lo η2 q => hh.mono _ _ _ (fun hi η3 ⟨ds, e, q⟩ => ⟨ds, e, hq _ _ q⟩) q) q) q, ?_⟩
  intro B Z H σ η τ P lk o q
  refine he.run B Z H σ η τ _ lk o (he.mono _ _ _ (fun x η1 q Z1 H1 v1 o1 => ?_) q)
  refine hl.run B Z1 H1 σ η1 _ _ lk.app o1.2 (hl.mono _ _ _ (fun lo η2 q Z2 H2 o2 => ?_) q)
  refine hh.run B Z2 H2 σ η2 _ _ lk.app o2 (hh.mono _ _ _ (fun hi η3 q Z3 H3 o3 => ?_) q)
  obtain ⟨ds, e, q⟩ := q
  have ov : OkV B K Z3 H3 σ η3 τ [x] [v1] := ⟨o1.1, o3⟩
  obtain ⟨a, vs, rfl, hs, r⟩ := ov.see e
  refine ⟨a, vs, rfl, hs, fun p hp => q _ _ _ (ov.ok.newLst ?_ hp)⟩
  unfold cutV cutD
  rw [r.length]
  exact (r.drop _).take _
end
end D

set_option Elab.async false
set_option linter.all false
set_option maxRecDepth 100000
set_option maxHeartbeats 4000000
namespace D
open PySem PySem.Spec PyProof.Rows L2
/-! ### data that are compared -/
mutual
def toP : Dt → PyData
  | .non => .none
  | .bl b => .bool b
  | .int i => .int i
  | .str x => .str x
  | .lst xs => .list (toPs xs)
  | .tup xs => .tuple (toPs xs)
  | .byt _ => .none
  | .ty _ => .none
  | .dct _ => .none
  | .ins _ _ => .none
  | .ref _ => .none
  | .exn _ _ _ _ => .none
def toPs : List Dt → List PyData
  | [] => []
  | x :: r => toP x :: toPs r
end
theorem toPs_map : ∀ xs : List Dt, toPs xs = xs.map toP
  | [] => by simp [toPs]
  | x :: r => by simp [toPs, toPs_map r]
/-- data without dicts and objects, not deeper than n -/
def Pd : Nat → Dt → Prop
  | _, .non => True
  | _, .bl _ => True
  | _, .int _ => True
  | _, .str _ => True
  | n + 1, .lst xs => ∀ x ∈ xs, Pd n x
  | n + 1, .tup xs => ∀ x ∈ xs, Pd n x
  | _, _ => False
theorem Pd.up : ∀ {n m : Nat} {d : Dt}, Pd n d → n ≤ m → Pd m d := by
  intro n
  induction n with
  | zero =>
    intro m d h _
    cases d <;> first | exact h.elim | (cases m <;> trivial)
  | succ n ih =>
    intro m d h hm
    cases m with
    | zero => omega
    | succ m => cases d <;> first | exact h.elim | trivial | exact fun x hx => ih (h x hx) (by omega)
theorem pd_nat : ∀ {n : Nat} {d : Dt}, Pd n d → (toP d).plain = true ∧ (toP d).depth ≤ n := by
  intro n
  have all : ∀ {n : Nat} {xs : List Dt}, (∀ x ∈ xs, (toP x).plain = true ∧ (toP x).depth ≤ n) → PyData.plainAll (toPs xs) = true ∧ PyData.depthAll (toPs xs) ≤ n := by
    intro n xs
    induction xs with
    | nil => intro _; simp [toPs, PyData.plainAll, PyData.depthAll]
    | cons x r ih =>
      intro h
      obtain ⟨h1, h2⟩ := h x (by simp)
      obtain ⟨h3, h4⟩ := ih fun y hy => h y (by simp [hy])
      constructor
      · simp [toPs, PyData.plainAll, h1, h3]
      · simp only [toPs, PyData.depthAll]
        omega
  induction n with
  | zero =>
    intro d h
    cases d <;> first | exact h.elim | simp [toP, PyData.plain, PyData.depth]
  | succ n ih =>
    intro d h
    cases d with
    | lst xs =>
      obtain ⟨h1, h2⟩ := all fun x hx => ih (h x hx)
      exact ⟨by simpa [toP, PyData.plain] using h1, by simp only [toP, PyData.depth]; omega⟩
    | tup xs =>
      obtain ⟨h1, h2⟩ := all fun x hx => ih (h x hx)
      exact ⟨by simpa [toP, PyData.plain] using h1, by simp only [toP, PyData.depth]; omega⟩
    | _ => first | exact h.elim | simp [toP, PyData.plain, PyData.depth]
section
variable {K : PySem.W.Frag} {X : Wsh} {Z : Zs} {H : Hp}
theorem dp_of : ∀ {n : Nat} {d : Dt} {v : V}, Pd n d → Rp K Z H v d → Dp K H v (toP d) := by
  intro n
  have st : ∀ {a : Addr} {vs : List V}, (Z a ∧ Rd H a (.tup vs)) ∨ KT K a vs → SqT K H a vs := fun h => h.imp (fun q => q.2) id
  have all : ∀ {n : Nat} {xs : List Dt} {vs : List V}, (∀ x ∈ xs, Pd n x) → RpAll K Z H vs xs → (∀ {d : Dt} {v : V}, Pd n d → Rp K Z H v d → Dp K H v (toP d)) → DpAll K H vs (toPs xs) := by
    intro n xs
    induction xs with
    | nil => intro vs _ r _; cases r; simp only [toPs]; exact .nil
    | cons x r ih =>
      intro vs h rr f
      cases rr with
      | cons a b =>
        simp only [toPs]
        exact .cons (f (h x (by simp)) a) (ih (fun y hy => h y (by simp [hy])) b f)
  induction n with
  | zero =>
    intro d v h r
    cases r with
    | non => simp only [toP]; exact .non
    | bl b => simp only [toP]; exact .bl b
    | int b => simp only [toP]; exact .int b
    | str b => simp only [toP]; exact .str b
    | _ => exact h.elim
  | succ n ih =>
    intro d v h r
    cases r with
    | non => simp only [toP]; exact .non
    | bl b => simp only [toP]; exact .bl b
    | int b => simp only [toP]; exact .int b
    | str b => simp only [toP]; exact .str b
    | lst z hs ra => simp only [toP]; exact .lst (.inl (.inl hs)) (all h ra ih)
    | tup hs ra => simp only [toP]; exact .tup (st hs) (all h ra ih)
    | _ => exact h.elim
theorem dps_of {n : Nat} : ∀ {xs : List Dt} {vs : List V}, (∀ x ∈ xs, Pd n x) → RpAll K Z H vs xs → DpAll K H vs (toPs xs)
  | [], vs, _, r => by cases r; simp only [toPs]; exact .nil
  | x :: xs, vs, h, r => by
    cases r with
    | cons a b =>
      simp only [toPs]
      exact .cons (dp_of (h x (by simp)) a) (dps_of (fun y hy => h y (by simp [hy])) b)
theorem dp_see {n : Nat} {d : Dt} {v : V} (h : Pd n d) (s : See K Z H v d) : Dp K H v (toP d) := by
  cases d with
  | non => cases (show v = .non from s); simp only [toP]; exact .non
  | bl b => cases (show v = .bl b from s); simp only [toP]; exact .bl b
  | int b => cases (show v = .int b from s); simp only [toP]; exact .int b
  | str b => cases (show v = .str b from s); simp only [toP]; exact .str b
  | lst xs =>
    obtain ⟨a, vs, rfl, hs, r⟩ := s
    cases n with
    | zero => exact h.elim
    | succ n => simp only [toP]; exact .lst hs (dps_of h r)
  | tup xs =>
    obtain ⟨a, vs, rfl, hs, r⟩ := s
    cases n with
    | zero => exact h.elim
    | succ n => simp only [toP]; exact .tup hs (dps_of h r)
  | _ => cases n <;> exact h.elim
end
/-- == of data -/
def deq (a b : Dt) : Bool := PyData.eqv (toP a) (toP b)
theorem deq_self {n : Nat} {d : Dt} (h : Pd n d) : deq d d = true := SeqAt.eqv_refl_plain _ (pd_nat h).1
/-! ### == and != -/
def rEqP (K : PySem.W.Frag) : R2 := fun x y H Q => ∃ d e, Dp K H x d ∧ Dp K H y e ∧ d.plain = true ∧ e.plain = true ∧ min d.depth e.depth ≤ 40 ∧ Q (.bl (PyData.eqv d e)) H
def rNeP (K : PySem.W.Frag) : R2 := fun x y H Q => ∃ d e, Dp K H x d ∧ Dp K H y e ∧ d.plain = true ∧ e.plain = true ∧ min d.depth e.depth ≤ 40 ∧ Q (.bl (!PyData.eqv d e)) H
theorem op_eqP {X : Cx} (hu : X.A.units + 64 < cLine) : OpR X (compareOp .Eq) (rEqP X.K) := by
  intro pins s σ H x y v u Q I rx ry h
  obtain ⟨d, e, hd, he, sd, se, hm, q⟩ := h
  obtain ⟨as, r1⟩ := Dp.reads I d x v hd rx
  obtain ⟨bs, r2⟩ := Dp.reads I e y u he ry
  exact SeqAt.eq_plain r1 r2 sd se (by omega) ⟨.bl _, H, I, rfl, q⟩
theorem op_neP {X : Cx} (hu : X.A.units + 64 < cLine) : OpR X (compareOp .NotEq) (rNeP X.K) := by
  intro pins s σ H x y v u Q I rx ry h
  obtain ⟨d, e, hd, he, sd, se, hm, q⟩ := h
  obtain ⟨as, r1⟩ := Dp.reads I d x v hd rx
  obtain ⟨bs, r2⟩ := Dp.reads I e y u he ry
  exact SeqAt.ne_plain r1 r2 sd se (by omega) ⟨.bl _, H, I, rfl, q⟩
def rInP (K : PySem.W.Frag) (neg : Bool) : R2 := fun x y H Q => ∃ d es, Dp K H x d ∧ (Dp K H y (.list es) ∨ Dp K H y (.tuple es)) ∧ d.plain = true ∧ PyData.plainAll es = true ∧ min (PyData.depthAll es) d.depth ≤ 40 ∧ Q (.bl (if neg then !(es.any fun y => PyData.eqv y d) else es.any fun y => PyData.eqv y d)) H
theorem op_inP {X : Cx} (hu : X.A.units + 64 < cLine) : OpR X (compareOp .In) (rInP X.K false) := by
  intro pins s σ H x y v u Q I rx ry h
  obtain ⟨d, es, hd, he, sd, se, hm, q⟩ := h
  obtain ⟨as, r1⟩ := Dp.reads I d x v hd rx
  rcases he with he | he
  · obtain ⟨bs, r2⟩ := Dp.reads I _ y u he ry
    exact SeqAt.in_list_data r2 r1 se sd (by omega) ⟨.bl _, H, I, rfl, q⟩
  · obtain ⟨bs, r2⟩ := Dp.reads I _ y u he ry
    exact SeqAt.in_tuple_data r2 r1 se sd (by omega) ⟨.bl _, H, I, rfl, q⟩
theorem op_notInP {X : Cx} (hu : X.A.units + 64 < cLine) : OpR X (compareOp .NotIn) (rInP X.K true) := by
  intro pins s σ H x y v u Q I rx ry h
  obtain ⟨d, es, hd, he, sd, se, hm, q⟩ := h
  obtain ⟨as, r1⟩ := Dp.reads I d x v hd rx
  rcases he with he | he
  · obtain ⟨bs, r2⟩ := Dp.reads I _ y u he ry
    exact SeqAt.notIn_list_data r2 r1 se sd (by omega) ⟨.bl _, H, I, rfl, q⟩
  · obtain ⟨bs, r2⟩ := Dp.reads I _ y u he ry
    exact SeqAt.notIn_tuple_data r2 r1 se sd (by omega) ⟨.bl _, H, I, rfl, q⟩
/-- with bytes beside -/
def rEqA (K : PySem.W.Frag) : R2 := fun x y H Q => rEqP K x y H Q ∨ rEq x y H Q
def rNeA (K : PySem.W.Frag) : R2 := fun x y H Q => rNeP K x y H Q ∨ rNe x y H Q
theorem op_eqA {X : Cx} (hu : X.A.units + 64 < cLine) : OpR X (compareOp .Eq) (rEqA X.K) := (op_eqP hu).or op_eq
theorem op_neA {X : Cx} (hu : X.A.units + 64 < cLine) : OpR X (compareOp .NotEq) (rNeA X.K) := (op_neP hu).or op_ne
/-- the answer of == -/
def EqV (a b : Dt) (k : Bool) : Prop := (∃ n m, n ≤ 40 ∧ Pd n a ∧ Pd m b ∧ k = deq a b) ∨ ∃ x y, a = .byt x ∧ b = .byt y ∧ k = decide (x = y)
def REq : Dt → Dt → Dt → Prop := fun a b d => ∃ k, EqV a b k ∧ d = .bl k
def RNe : Dt → Dt → Dt → Prop := fun a b d => ∃ k, EqV a b k ∧ d = .bl (!k)
section
variable {K : PySem.W.Frag} {X : Wsh}
theorem dec_byt' {x y : Array UInt8} : decide (V.byt x = V.byt y) = decide (x = y) := by
  by_cases e : x = y
  · subst e; simp
  · have : ¬ (V.byt x = V.byt y) := fun q => e (V.byt.inj q)
    rw [decide_eq_false this, decide_eq_false e]
theorem p2_eq : P2 K (rEqA K) REq := by
  constructor
  rintro Z H v w dx dy d P s1 s2 ⟨k, (⟨n, m, hn, h1, h2, rfl⟩ | ⟨x, y, rfl, rfl, rfl⟩), rfl⟩ q
  · refine .inl ⟨toP dx, toP dy, dp_see h1 s1, dp_see h2 s2, (pd_nat h1).1, (pd_nat h2).1, ?_, q _ (.bl _)⟩
    have := (pd_nat h1).2
    omega
  · cases (show v = .byt x from s1)
    cases (show w = .byt y from s2)
    exact .inr ⟨rfl, by rw [dec_byt']; exact q _ (.bl _)⟩
theorem p2_ne : P2 K (rNeA K) RNe := by
  constructor
  rintro Z H v w dx dy d P s1 s2 ⟨k, (⟨n, m, hn, h1, h2, rfl⟩ | ⟨x, y, rfl, rfl, rfl⟩), rfl⟩ q
  · refine .inl ⟨toP dx, toP dy, dp_see h1 s1, dp_see h2 s2, (pd_nat h1).1, (pd_nat h2).1, ?_, q _ (.bl _)⟩
    have := (pd_nat h1).2
    omega
  · cases (show v = .byt x from s1)
    cases (show w = .byt y from s2)
    exact .inr ⟨rfl, by rw [dec_byt']; exact q _ (.bl _)⟩
/-- in, not in: data in a list or a tuple; a sign in a text -/
def InV (a b : Dt) (k : Bool) : Prop := (∃ n m es, n ≤ 40 ∧ Pd n a ∧ (b = .lst es ∨ b = .tup es) ∧ (∀ e ∈ es, Pd m e) ∧ k = es.any fun e => deq e a) ∨ ∃ c s, a = .str ⟨#[c]⟩ ∧ b = .str s ∧ k = decide (c ∈ s.cps.toList)
def RIn : Dt → Dt → Dt → Prop := fun a b d => ∃ k, InV a b k ∧ d = .bl k
def RNotIn : Dt → Dt → Dt → Prop := fun a b d => ∃ k, InV a b k ∧ d = .bl (!k)
def rInA (K : PySem.W.Frag) : R2 := fun x y H Q => rInP K false x y H Q ∨ ∃ (c : Nat) (z : Str), x = .str ⟨#[c]⟩ ∧ y = .str z ∧ Q (.bl (decide (c ∈ z.cps.toList))) H
def rNotInA (K : PySem.W.Frag) : R2 := fun x y H Q => rInP K true x y H Q ∨ ∃ (c : Nat) (z : Str), x = .str ⟨#[c]⟩ ∧ y = .str z ∧ Q (.bl (!decide (c ∈ z.cps.toList))) H
theorem any_toPs (es : List Dt) (a : Dt) : ((toPs es).any fun y => PyData.eqv y (toP a)) = es.any fun e => deq e a := by
  rw [toPs_map, List.any_map]
  rfl
theorem plainAll_of {m : Nat} : ∀ {es : List Dt}, (∀ e ∈ es, Pd m e) → PyData.plainAll (toPs es) = true
  | [], _ => by simp [toPs, PyData.plainAll]
  | x :: r, h => by simp [toPs, PyData.plainAll, (pd_nat (h x (by simp))).1, plainAll_of (es := r) fun e he => h e (by simp [he])]
theorem p2_in : P2 K (rInA K) RIn := by
  constructor
  rintro Z H v w dx dy d P s1 s2 ⟨k, (⟨n, m, es, hn, h1, h2, h3, rfl⟩ | ⟨x, y, rfl, rfl, rfl⟩), rfl⟩ q
  · refine .inl ⟨toP dx, toPs es, dp_see h1 s1, ?_, (pd_nat h1).1, plainAll_of h3, ?_, ?_⟩
    · rcases h2 with rfl | rfl
      · exact .inl (by have := dp_see (n := m + 1) (d := .lst es) h3 s2; simpa [toP] using this)
      · exact .inr (by have := dp_see (n := m + 1) (d := .tup es) h3 s2; simpa [toP] using this)
    · have := (pd_nat h1).2
      omega
    · rw [any_toPs]; exact q _ (.bl _)
  · cases (show v = .str ⟨#[x]⟩ from s1)
    cases (show w = .str y from s2)
    exact .inr ⟨x, y, rfl, rfl, q _ (.bl _)⟩
theorem p2_notIn : P2 K (rNotInA K) RNotIn := by
  constructor
  rintro Z H v w dx dy d P s1 s2 ⟨k, (⟨n, m, es, hn, h1, h2, h3, rfl⟩ | ⟨x, y, rfl, rfl, rfl⟩), rfl⟩ q
  · refine .inl ⟨toP dx, toPs es, dp_see h1 s1, ?_, (pd_nat h1).1, plainAll_of h3, ?_, ?_⟩
    · rcases h2 with rfl | rfl
      · exact .inl (by have := dp_see (n := m + 1) (d := .lst es) h3 s2; simpa [toP] using this)
      · exact .inr (by have := dp_see (n := m + 1) (d := .tup es) h3 s2; simpa [toP] using this)
    · have := (pd_nat h1).2
      omega
    · rw [any_toPs]; exact q _ (.bl _)
  · cases (show v = .str ⟨#[x]⟩ from s1)
    cases (show w = .str y from s2)
    exact .inr ⟨x, y, rfl, rfl, q _ (.bl _)⟩
end
theorem op_inA {X : Cx} (hu : X.A.units + 64 < cLine) : OpR X (compareOp .In) (rInA X.K) := (op_inP hu).or op_in_sign
theorem op_notInA {X : Cx} (hu : X.A.units + 64 < cLine) : OpR X (compareOp .NotIn) (rNotInA X.K) := (op_notInP hu).or op_notIn_sign
/-- is None -/
def RIsN : Dt → Dt → Dt → Prop := fun a b d => b = .non ∧ ((a = .non ∧ d = .bl true) ∨ (a ≠ .non ∧ d = .bl false))
def RNotN : Dt → Dt → Dt → Prop := fun a b d => b = .non ∧ ((a = .non ∧ d = .bl false) ∨ (a ≠ .non ∧ d = .bl true))
section
variable {K : PySem.W.Frag} {X : Wsh} {Z : Zs} {H : Hp}
theorem see_non {v : V} {d : Dt} (s : See K Z H v d) : decide (v = .non) = true ↔ d = .non := by
  rw [decide_eq_true_iff]
  constructor
  · rintro rfl
    cases d with
    | non => rfl
    | lst _ => obtain ⟨a, vs, h, _⟩ := s; cases h
    | tup _ => obtain ⟨a, vs, h, _⟩ := s; cases h
    | dct _ => obtain ⟨a, ks, vs, ds, h, _⟩ := s; cases h
    | ins _ _ => obtain ⟨a, dx, ks, vs, ds, h, _⟩ := s; cases h
    | exn _ _ _ _ => obtain ⟨h, _⟩ := s; cases h
    | bl b => cases (show V.non = .bl b from s)
    | int b => cases (show V.non = .int b from s)
    | str b => cases (show V.non = .str b from s)
    | byt b => cases (show V.non = .byt b from s)
    | ty b => cases (show V.non = .ty b from s)
    | ref b => cases (show V.non = .ref b from s)
  · rintro rfl
    exact s
theorem p2_isN : P2 K (fun x y H Q => y = .non ∧ Q (.bl (decide (x = .non))) H) RIsN := by
  constructor
  rintro Z H v w dx dy d P s1 s2 ⟨rfl, (⟨rfl, rfl⟩ | ⟨h, rfl⟩)⟩ q
  · exact ⟨s2, by rw [(see_non s1).mpr rfl]; exact q _ (.bl _)⟩
  · have : decide (v = .non) = false := by
      cases e : decide (v = V.non) with
      | false => rfl
      | true => exact absurd ((see_non s1).mp e) h
    exact ⟨s2, by rw [this]; exact q _ (.bl _)⟩
theorem p2_notN : P2 K (fun x y H Q => y = .non ∧ Q (.bl (!decide (x = .non))) H) RNotN := by
  constructor
  rintro Z H v w dx dy d P s1 s2 ⟨rfl, (⟨rfl, rfl⟩ | ⟨h, rfl⟩)⟩ q
  · exact ⟨s2, by rw [(see_non s1).mpr rfl]; exact q _ (.bl _)⟩
  · have : decide (v = .non) = false := by
      cases e : decide (v = V.non) with
      | false => rfl
      | true => exact absurd ((see_non s1).mp e) h
    exact ⟨s2, by rw [this]; exact q _ (.bl _)⟩
/-! ### + and * -/
def RAddS : Dt → Dt → Dt → Prop := fun x y d => ∃ a b, x = .str a ∧ y = .str b ∧ a.length + b.length ≤ 100000 ∧ d = .str (a ++ b)
theorem p2_addS : P2 K (fun x y H Q => ∃ i j, x = V.str i ∧ y = V.str j ∧ i.length + j.length ≤ sizeLine ∧ Q (.str (i ++ j)) H) RAddS := by
  constructor
  rintro Z H v w dx dy d P s1 s2 ⟨a, b, rfl, rfl, h, rfl⟩ q
  cases (show v = .str a from s1)
  cases (show w = .str b from s2)
  exact ⟨a, b, rfl, rfl, sz h, q _ (.str _)⟩
def RAddB : Dt → Dt → Dt → Prop := fun x y d => ∃ a b, x = .byt a ∧ y = .byt b ∧ a.size + b.size ≤ 100000 ∧ d = .byt (a ++ b)
theorem p2_addB : P2 K (fun x y H Q => ∃ i j, x = V.byt i ∧ y = V.byt j ∧ i.size + j.size ≤ 16777216 ∧ Q (.byt (i ++ j)) H) RAddB := by
  constructor
  rintro Z H v w dx dy d P s1 s2 ⟨a, b, rfl, rfl, h, rfl⟩ q
  cases (show v = .byt a from s1)
  cases (show w = .byt b from s2)
  exact ⟨a, b, rfl, rfl, by omega, q _ (.byt _)⟩
/-- a list that is told whole -/
def trk (η : Env) : Vl → Option (List Dt)
  | .d (.lst ds) => some ds
  | .nw (.lst ds) => some ds
  | .sl i => match η[i]? with
    | some (some (.mu _ (.dt (.lst ds)))) => some ds
    | _ => none
  | .gh i p => match look η (.gh i p) with
    | some (.lst ds) => some ds
    | _ => none
  | _ => none
theorem OkV.trk {B : Base} {σ : L2.St} {η : Env} {τ : List (V × En)} {x : Vl} {v : V} {ds : List Dt} (o : OkV B K Z H σ η τ [x] [v]) (h : D.trk η x = some ds) : ∃ a vs, v = .ref a ∧ H a = some (.lst vs) ∧ RpAll K Z H vs ds := by
  cases x with
  | d y =>
    cases y with
    | lst es =>
      cases h
      cases o.2.rp with
      | lst z h r => exact ⟨_, _, rfl, h, r⟩
    | _ => cases h
  | nw y =>
    cases y with
    | lst es =>
      cases h
      obtain ⟨F, ⟨a, e1, e2, vs, e3, e4⟩, _⟩ := o.2.head
      exact ⟨a, vs, e1, e3, e4⟩
    | _ => cases h
  | nc c => cases h
  | gh i p =>
    unfold D.trk at h
    simp only at h
    split at h
    · rename_i es e
      cases h
      obtain ⟨oo, x, g, q, hp⟩ := look_gh e
      obtain ⟨w, hw, o'⟩ := o.2.take q
      obtain ⟨F, q'⟩ := o'.head
      obtain ⟨vs, h1, h2⟩ := (q'.seeG hp).2
      exact ⟨p, vs, o.1.1, h1, h2⟩
    · cases h
  | sl i =>
    unfold D.trk at h
    simp only at h
    split at h
    · rename_i p es e
      cases h
      obtain ⟨w, hw, o'⟩ := o.2.take e
      rw [o.1.1] at hw; cases hw
      obtain ⟨a, e1, nz, vs, h1, h2⟩ := o'.notZ
      exact ⟨a, vs, e1, h1, h2⟩
    · cases h
/-- + of lists: a new one -/
def roCat : RO2 := fun x y η Q => ∃ xs ys, trk η x = some xs ∧ trk η y = some ys ∧ xs.length + ys.length ≤ 100000 ∧ Q (.nw (.lst (xs ++ ys))) η
theorem d2_cat : D2 K rCat roCat := by
  constructor
  · rintro x y η Q Q' hq ⟨xs, ys, e1, e2, e3, q⟩
    exact ⟨xs, ys, e1, e2, e3, hq _ _ q⟩
  rintro B Z H σ η τ x y v w P o ⟨xs, ys, e1, e2, e3, q⟩
  obtain ⟨a, vs, rfl, h1, r1⟩ := o.head.trk e1
  obtain ⟨b, ws, rfl, h2, r2⟩ := o.tail.trk e2
  exact ⟨a, b, vs, ws, rfl, rfl, h1, h2, by rw [r1.length, r2.length]; exact sz e3, fun p hp => q _ _ _ (o.ok.newLst (r1.append r2) hp)⟩
/-- a list times a number -/
def roRep : RO2 := fun x y η Q => ∃ xs k, trk η x = some xs ∧ look η y = some (.int k) ∧ -(2 ^ 63) ≤ k ∧ k < 2 ^ 63 ∧ xs.length * k.toNat ≤ 100000 ∧ Q (.nw (.lst (List.replicate k.toNat xs).flatten)) η
theorem RpAll.rep {vs : List V} {ds : List Dt} (r : RpAll K Z H vs ds) : ∀ k, RpAll K Z H (List.replicate k vs).flatten (List.replicate k ds).flatten
  | 0 => .nil
  | k + 1 => by
    rw [List.replicate_succ, List.replicate_succ, List.flatten_cons, List.flatten_cons]
    exact r.append (RpAll.rep r k)
theorem d2_rep : D2 K rRep roRep := by
  constructor
  · rintro x y η Q Q' hq ⟨xs, k, e1, e2, e3, e4, e5, q⟩
    exact ⟨xs, k, e1, e2, e3, e4, e5, hq _ _ q⟩
  rintro B Z H σ η τ x y v w P o ⟨xs, k, e1, e2, e3, e4, e5, q⟩
  obtain ⟨a, vs, rfl, h1, r1⟩ := o.head.trk e1
  have s := o.tail.see e2
  cases (show w = .int k from s)
  exact ⟨a, k, vs, rfl, rfl, h1, e3, e4, by rw [r1.length]; exact sz e5, fun p hp => q _ _ _ (o.ok.newLst (r1.rep _) hp)⟩
/-- + of tuples, the left one not empty -/
def roCatT : RO2 := fun x y η Q => ∃ xs ys, look η x = some (.tup xs) ∧ look η y = some (.tup ys) ∧ xs ≠ [] ∧ ys ≠ [] ∧ xs.length + ys.length ≤ 100000 ∧ Q (.d (.tup (xs ++ ys))) η
theorem d2_catT : D2 K (rCatT K) roCatT := by
  constructor
  · rintro x y η Q Q' hq ⟨xs, ys, e1, e2, e3, e4, e5, q⟩
    exact ⟨xs, ys, e1, e2, e3, e4, e5, hq _ _ q⟩
  rintro B Z H σ η τ x y v w P o ⟨xs, ys, e1, e2, e3, e4, e5, q⟩
  obtain ⟨s1, s2⟩ := o.see2 e1 e2
  obtain ⟨a, vs, rfl, h1, r1⟩ := s1
  obtain ⟨b, ws, rfl, h2, r2⟩ := s2
  have l1 := r1.length
  have l2 := r2.length
  refine ⟨a, b, vs, ws, rfl, rfl, h1, h2, ?_, by rw [l1, l2]; exact sz e5, fun h => ?_, fun _ p hp => q _ _ _ (o.ok.newTup (r1.append r2) hp)⟩
  · rintro rfl
    cases xs with
    | nil => exact e3 rfl
    | cons _ _ => simp at l1
  · subst h
    cases ys with
    | nil => exact absurd rfl e4
    | cons _ _ => simp at l2
end
end D

set_option Elab.async false
set_option linter.all false
set_option maxRecDepth 100000
set_option maxHeartbeats 4000000
namespace D
open PySem PySem.Spec PyProof.Rows L2
variable {K : PySem.W.Frag} {X : Wsh}
theorem DS.w0 {t : TS} {r : RS} (h : DS K W0 t r) : DS K X t r := ⟨h.mono, fun B Z H σ η τ E _ o q => h.run B Z H σ η τ E Lk.none o q⟩
theorem run_body0 {ms : List Md} {S : Spc} {vs : List V} {N : List Str} {Q : VK} {E : XK} {t : TS} {r : List Ct → RS} (h : toSp K ms S vs H Q E) (hN : ms.length ≤ N.length)
    (hd : ∀ as, DS K W0 t (r as)) (hr : ∀ as, S.pre as → as.length = ms.length → r as (bodyD ms (S.post as)) (startE N.length ms as)) :
    t { nx := fun _ H' => Q .non H', rt := Q } (start N vs) H := run_body h hN (fun as => (hd as).w0) hr
def roNeg : RO1 := fun x η Q => ∃ i, look η x = some (.int i) ∧ Q (.d (.int (-i))) η
theorem d1_neg : D1 K (rU fun i => .int (-i)) roNeg := by
  constructor
  · rintro x η Q Q' hq ⟨i, e, q⟩
    exact ⟨i, e, hq _ _ q⟩
  rintro B Z H σ η τ x v P o ⟨i, e, q⟩
  exact ⟨i, o.see e, q Z H _ (.d o.ok (.int _))⟩
def rDNew : RE := fun η Q => Q (.nw (.dct [])) η
theorem de_dnew : DE K X tDNewK rDNew := by
  constructor
  · exact fun η Q Q' hq q => hq _ _ q
  intro B Z H σ η τ P lk o q p hp
  exact q _ _ _ (.nw (o.new hp ⟨[], [], [], rfl, rfl, upd_same, .nil⟩))
def RListB : Dt → List Dt → Prop := fun x ds => ∃ b, x = .byt b ∧ b.size ≤ 100000 ∧ ds = (bi b).map .int
theorem RpAll.ints {Z : Zs} {H : Hp} : ∀ ns : List Int, RpAll K Z H (ns.map .int) (ns.map .int)
  | [] => .nil
  | n :: ns => .cons (.int n) (RpAll.ints ns)
theorem l1_listB : L1 K (r1 kLstB) RListB := by
  constructor
  rintro Z H v dx ds P s ⟨b, rfl, l, rfl⟩ k
  cases (show v = .byt b from s)
  exact ⟨b, rfl, sz l, fun q hq => k _ q (RpAll.ints _) hq⟩
end D

set_option Elab.async false
set_option linter.all false
set_option maxRecDepth 100000
set_option maxHeartbeats 4000000
namespace D
open PySem PySem.Spec PyProof.Rows L2
/-! ### the way there and back of a call -/
theorem call_core {K : PySem.W.Frag} {ms : List Md} {B : Base} {σ : L2.St} {η1 : Env} {τ : List (V × En)} {Z1 : Zs} {H1 : Hp} {xs : List Vl} {vs : List V} {as : List Ct} (o1 : OkV B K Z1 H1 σ η1 τ xs vs) (e : argsD ms xs η1 = some as) :
    ∃ (Z2 : Zs) (G' : List Addr), ArgsOk K Z2 H1 G' vs ms as G' ∧ (∀ b ∈ G', ¬ Z2 b ∧ H1 b ≠ none) ∧ (∀ b, Z2 b → H1 b ≠ none) ∧
      ∀ (Z' : Zs) (H' : Hp) (cs' : List Ct) (ys : List Vl) (ws : List V), Lv K ms vs H1 Z2 G' Z' H' cs' ys ws → Ok B K Z' H' σ (remP ms xs η1) (pl ms vs (flagsP ms xs η1) cs' ++ (tmp ys ws ++ τ)) := by
  unfold argsD at e
  cases ec : conP ms xs η1 with
  | none => rw [ec] at e; cases e
  | some cs =>
    rw [ec] at e
    have e : entD (remP ms xs η1) ms xs cs = some as := e
    have o2 := call_outs o1.1 ec o1.2
    -- the written ones' addresses
    obtain ⟨F0, h0⟩ := id o2
    have split : ∀ {Z : Zs} {τ' : List (V × En)}, Ok B K Z H1 σ (remP ms xs η1) (pl ms vs (flagsP ms xs η1) cs ++ τ') → ∃ G Gr, Sep B K Z H1 (pl ms vs (flagsP ms xs η1) cs) G ∧ OkF B K Z H1 σ (remP ms xs η1) τ' Gr ∧ (∀ b, b ∈ G → b ∉ Gr) ∧ ∀ b ∈ G, ¬ Z b ∧ H1 b ≠ none ∧ (B.H0 b = none ∨ b ∈ B.F0) := by
      intro Z τ' ⟨F0, h0⟩
      obtain ⟨F1, s1, m1⟩ := h0.sep.perm (l' := pl ms vs (flagsP ms xs η1) cs ++ (pack σ (remP ms xs η1) ++ τ')) pm3
      obtain ⟨G, Gr, sG, sR, dG, eG⟩ := Sep.append.mp s1
      exact ⟨G, Gr, sG, ⟨h0.slots, sR, fun b hb => h0.live b ((m1 b).mp (by rw [eG]; exact List.mem_append_right _ hb)), h0.base, h0.there, h0.grow, h0.old, h0.zl⟩, dG, fun b hb => h0.live b ((m1 b).mp (by rw [eG]; exact List.mem_append_left _ hb))⟩
    obtain ⟨G, Gr, sG, hR, dG, lG⟩ := split o2
    have hown : ∀ (Z' : Zs) (i : Nat) (v : V) (p : Option Nat) (d : Dt), (∀ b, Z1 b → Z' b) → σ[i]? = some (some v) → ((remP ms xs η1)[i]? = some (some (En.mu p (.dt d))) ∨ ∃ g, (remP ms xs η1)[i]? = some (some (En.mu p (.hp d g)))) → ∀ τ', Ok B K Z' H1 σ (remP ms xs η1) (pl ms vs (flagsP ms xs η1) cs ++ τ') → ∃ a, v = V.ref a ∧ (∃ o, H1 a = some o) ∧ a ∉ G ∧ BorAt K Z' H1 a d := by
      intro Z' i v p d hz hv hi τ' _
      rcases hi with hi | ⟨g, hi⟩
      · obtain ⟨w, hw, pm⟩ := pack_take hR.slots hi
        rw [hv] at hw; cases hw
        obtain ⟨F2, e2, m2⟩ := hR.sep.mem (p := (v, En.mu p (.dt d))) (List.mem_append_left _ (pm.mem_iff.mpr (by simp)))
        obtain ⟨⟨a, g1, g2, g3⟩, _⟩ := e2
        exact ⟨a, g1, g3.there, fun hm => dG a hm (m2 a (by rw [g2]; simp)), BorAt.mono (.inl g3) hz fun _ _ _ e => e⟩
      · obtain ⟨w, hw, pm⟩ := pack_take hR.slots hi
        rw [hv] at hw; cases hw
        obtain ⟨F2, e2, m2⟩ := hR.sep.mem (p := (v, En.mu p (.hp d g))) (List.mem_append_left _ (pm.mem_iff.mpr (by simp)))
        obtain ⟨⟨a, g1, g2, _, g3, _⟩, _⟩ := e2
        exact ⟨a, g1, g3.there, fun hm => dG a hm (m2 a (by rw [g2]; simp)), BorAt.mono (.inl g3) hz fun _ _ _ e => e⟩
    have howg : ∀ (Z' : Zs) (i : Nat) (p : Addr) (d : Dt), (∀ b, Z1 b → Z' b) → look (remP ms xs η1) (.gh i p) = some d → ∀ τ', Ok B K Z' H1 σ (remP ms xs η1) (pl ms vs (flagsP ms xs η1) cs ++ τ') → (∃ o, H1 p = some o) ∧ p ∉ G ∧ BorAt K Z' H1 p d := by
      intro Z' i p d hz hl τ' _
      obtain ⟨oo, x, g, hi, hp⟩ := look_gh hl
      obtain ⟨w, hw, pm⟩ := pack_take hR.slots hi
      obtain ⟨F2, e2, m2⟩ := hR.sep.mem (p := (w, En.mu oo (.hp x g))) (List.mem_append_left _ (pm.mem_iff.mpr (by simp)))
      obtain ⟨q1, q2⟩ := e2.seeG hp
      exact ⟨q2.there, fun hm => dG p hm (m2 p q1), BorAt.mono (.inl q2) hz fun _ _ _ e => e⟩
    obtain ⟨Z2, z2, o3, vb⟩ := call_vals (fun b hb => (lG b hb).2.2) o1.1 e o2 hown howg
    obtain ⟨G', Gr', sG', hR', dG', lG'⟩ := split o3
    have eG : G' = G := sG'.uniq sG
    subst eG
    have hA := args_of vb e (flags_len ec) sG'
    -- the way back
    have back : ∀ (Z' : Zs) (H' : Hp) (cs' : List Ct) (ys : List Vl) (ws : List V), Lv K ms vs H1 Z2 G' Z' H' cs' ys ws → Ok B K Z' H' σ (remP ms xs η1) (pl ms vs (flagsP ms xs η1) cs' ++ (tmp ys ws ++ τ)) := by
      intro Z' H' cs' ys ws lv
      obtain ⟨F', sF, lF⟩ := lv.sep
      have nn : ∀ b, H1 b = none → B.H0 b = none := fun b hb => by
        cases q : B.H0 b with
        | none => rfl
        | some o => exact absurd hb (hR'.there b (by rw [q]; simp))
      obtain ⟨F2, s2, m2⟩ := pl_back (B := B) nn lv.ali (flags_len ec) sG' sF
      have hb' : Bs B H' := fun b o e n => lv.bs b o (hR'.base b o e n) fun hm => by
        rcases (lG' b hm).2.2 with q | q
        · rw [e] at q; cases q
        · exact n q
      have sR' : Sep B K Z' H' (pack σ (remP ms xs η1) ++ τ) Gr' := hR'.sep.mono hR'.base hb' lv.old fun b o hz e => lv.bs b o e fun hm => by
        rcases hz with z | z
        · exact (lG' b hm).1 z
        · exact dG' b hm z
      have dis : ∀ b, b ∈ F2 → b ∉ Gr' := fun b hb hm => by
        rcases (lF b (m2 b hb)).2.2 with q | q
        · exact (hR'.live b hm).2.1 q
        · exact dG' b q hm
      obtain ⟨F3, s3, m3⟩ := Sep.perm (B := B) (K := K) (Z := Z') (H := H') (l := (pl ms vs (flagsP ms xs η1) cs' ++ tmp ys ws) ++ (pack σ (remP ms xs η1) ++ τ)) (l' := pack σ (remP ms xs η1) ++ ((pl ms vs (flagsP ms xs η1) cs' ++ tmp ys ws) ++ τ)) pm3 (F := F2 ++ Gr') (Sep.append.mpr ⟨F2, Gr', s2, sR', dis, rfl⟩)
      have o5 : Ok B K Z' H' σ (remP ms xs η1) (pl ms vs (flagsP ms xs η1) cs' ++ (tmp ys ws ++ τ)) := by
        rw [← List.append_assoc]
        refine ⟨F3, hR'.slots, s3, fun b hb => ?_, hb', fun b n => lv.there b (hR'.there b n), fun b z => ?_, fun b z => lv.old b (hR'.old b z), lv.zl⟩
        · rcases List.mem_append.mp ((m3 b).mp hb) with q | q
          · obtain ⟨l1, l2, l3⟩ := lF b (m2 b q)
            refine ⟨l1, l2, ?_⟩
            rcases l3 with l3 | l3
            · exact .inl (nn b l3)
            · exact (lG' b l3).2.2
          · obtain ⟨l1, l2, l3⟩ := hR'.live b q
            refine ⟨fun z => ?_, lv.there b l2, l3⟩
            rcases lv.grow b z with z | z
            · exact l1 z
            · exact l2 z
        · rcases lv.grow b z with z | z
          · exact hR'.grow b z
          · exact .inr (nn b z)
      exact o5
    exact ⟨Z2, G', hA, fun b hb => ⟨(lG' b hb).1, (lG' b hb).2.1⟩, hR'.zl, back⟩
/-- a call, judged -/
theorem call_go {K : PySem.W.Frag} {X : Wsh} {ms : List Md} {S : Spc} {B : Base} {σ : L2.St} {η1 : Env} {τ : List (V × En)} {Z1 : Zs} {H1 : Hp} {xs : List Vl} {vs : List V} {as : List Ct} {P : VK} {E : XK} (lk : Lk B K X τ) (hE : ∀ C d H, X.W (.ref C) d σ H → E (.ref C) d H)
    (o1 : OkV B K Z1 H1 σ η1 τ xs vs) (e : argsD ms xs η1 = some as) (hp : S.pre as) (h1 : ∀ y cs, S.post as y cs → ∀ Z' H' v, OkV B K Z' H' σ (aft ms xs η1 cs) τ [y] [v] → P v H') (h2 : ∀ C fs cs, S.exc as C fs cs → X.w C fs (aft ms xs η1 cs)) : toSp K ms S vs H1 P E := by
  obtain ⟨Z2, G', hA, hG, hz, back⟩ := call_core o1 e
  refine ⟨as, Z2, G', hA, hG, hz, hp, fun y cs' hpost Z' H' v lv => ?_, fun C fs cs' hx Z' H' d lv xd => ?_⟩
  · exact h1 y cs' hpost Z' H' v ⟨lv.ali σ, call_put o1.1 (back Z' H' cs' [y] [v] lv)⟩
  · exact hE C d H' (lk C fs _ Z' H' σ d (h2 C fs cs' hx) (call_put o1.1 (back Z' H' cs' [] [] lv)) xd)
/-! ### objects of own classes -/
theorem zip_none {α β : Type} {f : Str} : ∀ {ns : List Str} {vs : List α} {ds : List β}, ns.length = vs.length → vs.length = ds.length → (ns.zip ds).lookup f = none → (ns.zip vs).lookup f = none
  | [], _, _, _, _, _ => rfl
  | n :: ns, [], _, h, _, _ => by simp at h
  | n :: ns, v :: vs, [], _, h, _ => by simp at h
  | n :: ns, v :: vs, d :: ds, h, h', e => by
    simp only [List.zip_cons_cons, List.lookup_cons] at e ⊢
    cases q : f == n with
    | true => rw [q] at e; cases e
    | false =>
      rw [q] at e
      exact zip_none (by simpa using h) (by simpa using h') e
def putD (f : Str) (d : Dt) : List (Str × Dt) → List (Str × Dt)
  | [] => [(f, d)]
  | (g, x) :: r => if g = f then (g, d) :: r else (g, x) :: putD f d r
theorem putF_zip {K : PySem.W.Frag} {Z : Zs} {H : Hp} {f : Str} {y : V} {d : Dt} (r : Rp K Z H y d) : ∀ {ns : List Str} {vs : List V} {ds : List Dt}, ns.length = vs.length → RpAll K Z H vs ds →
    ∃ (ns' : List Str) (vs' : List V) (ds' : List Dt), putF f y (ns.zip vs) = ns'.zip vs' ∧ putD f d (ns.zip ds) = ns'.zip ds' ∧ ns'.length = vs'.length ∧ RpAll K Z H vs' ds' := by
  intro ns
  induction ns with
  | nil =>
    intro vs ds h ra
    exact ⟨[f], [y], [d], rfl, rfl, rfl, .cons r .nil⟩
  | cons n ns ih =>
    intro vs ds h ra
    cases ra with
    | nil => simp at h
    | @cons v vs d0 ds r0 ra =>
      by_cases e : n = f
      · exact ⟨n :: ns, y :: vs, d :: ds, by simp [putF, e], by simp [putD, e], by simpa using h, .cons r ra⟩
      · obtain ⟨ns', vs', ds', e1, e2, e3, e4⟩ := ih (by simpa using h) ra
        refine ⟨n :: ns', v :: vs', d0 :: ds', ?_, ?_, by simpa using e3, .cons r0 e4⟩
        · simp only [List.zip_cons_cons, putF, if_neg e]
          rw [e1]
        · simp only [List.zip_cons_cons, putD, if_neg e]
          rw [e2]
theorem see_ins {K : PySem.W.Frag} {Z : Zs} {H : Hp} {v : V} {C : Addr} {fs : List (Str × Dt)} (s : See K Z H v (.ins C fs)) : ∃ (a dx : Addr) (ns : List Str) (vs : List V) (ds : List Dt), v = .ref a ∧ fs = ns.zip ds ∧ ns.length = vs.length ∧ H a = some (.ins C dx (ns.zip vs)) ∧ RpAll K Z H vs ds := s
section
variable {K : PySem.W.Frag} {X : Wsh}
/-- e.f -/
def rFld (K : PySem.W.Frag) (re : RE) (f : Str) : RE := fun η Q => re η fun x η1 => ∃ C fs d, look η1 x = some (.ins C fs) ∧ Cls K C ∧ NoAttr K C f ∧ fs.lookup f = some d ∧ Q (.d d) η1
theorem de_fld {te : TE} {re : RE} {f : Str} (he : DE K X te re) : DE K X (tFld K te f) (rFld K re f) := by
  constructor
  · intro η Q Q' hq q
    refine he.mono _ _ _ ?_ q
    rintro x η1 ⟨C, fs, d, e1, e2, e3, e4, q⟩
    exact ⟨C, fs, d, e1, e2, e3, e4, hq _ _ q⟩
  intro B Z H σ η τ P lk o q
  refine he.run B Z H σ η τ _ lk o (he.mono _ _ _ ?_ q)
  rintro x η1 ⟨C, fs, d, e1, e2, e3, e4, q⟩ Z1 H1 v o1
  obtain ⟨a, dx, ns, vs, ds, rfl, rfl, l, h, r⟩ := see_ins (o1.see e1)
  obtain ⟨u, h1, h2⟩ := r.lookup l e4
  exact ⟨a, C, dx, _, u, rfl, h, e2, e3, h1, q Z1 H1 u (.d o1.ok h2)⟩
/-- o.f = e, o one's own -/
def rSetF (K : PySem.W.Frag) (ro re : RE) (f : Str) : RS := fun D η => re η fun y η1 => ro η1 fun x η2 => ∃ k p C fs d, x = .sl k ∧ η2[k]? = some (some (.mu p (.dt (.ins C fs)))) ∧ frz η2 y = some d ∧ Cls K C ∧ NoAttr K C f ∧ fs.length < 1000 ∧ D.nx (η2.set k (some (.mu p (.dt (.ins C (putD f d fs))))))
theorem ds_setF {to te : TE} {ro re : RE} {f : Str} (ho : DE K X to ro) (he : DE K X te re) : DS K X (sFld K to te f) (rSetF K ro re f) := by
  constructor
  · intro η D D' hd q
    refine he.mono _ _ _ (fun y η1 q => ho.mono _ _ _ ?_ q) q
    rintro x η2 ⟨k, p, C, fs, d, e1, e2, e3, e4, e5, e6, q⟩
    exact ⟨k, p, C, fs, d, e1, e2, e3, e4, e5, e6, hd.nx _ q⟩
  intro B Z H σ η τ E lk o q
  refine he.run B Z H σ η τ _ lk o (he.mono _ _ _ (fun y η1 q Z1 H1 v1 o1 => ?_) q)
  refine ho.run B Z1 H1 σ η1 _ _ lk.app o1.2 (ho.mono _ _ _ ?_ q)
  rintro x η2 ⟨k, p, C, fs, d, rfl, e2, e3, e4, e5, e6, q⟩ Z2 H2 v2 o2
  have al : σ[k]? = some (some v2) := o2.1.1
  have o3 : OkV B K Z2 H2 σ η2 τ [y] [v1] := ⟨by cases y <;> first | exact ⟨o1.1.1, trivial⟩ | trivial, o2.2⟩
  obtain ⟨Z3, z3, o4⟩ := o3.frz e3
  obtain ⟨w, hw, o5⟩ := o4.take e2
  rw [al] at hw; cases hw
  obtain ⟨a, rfl, nz, dx, ns, vs, ds, e0, l, hH, r⟩ := o5.notZ
  have rv := (o5.perm (List.Perm.swap _ _ _)).rp
  subst e0
  obtain ⟨ns', vs', ds', g1, g2, g3, g4⟩ := putF_zip (f := f) rv l r
  have hlen : (ns.zip vs).length < 1000 := by
    have h := e6
    rw [List.length_zip] at h ⊢
    have := r.length
    omega
  have o6 := o5.write (o := .ins C dx (putF f v1 (ns.zip vs))) (d' := .ins C (putD f d (ns.zip ds))) ⟨dx, ns', vs', ds', g2, g3, by rw [upd_same, g1], g4.write nz⟩
  have hk : k < η2.length := (List.getElem?_eq_some_iff.mp e2).1
  exact ⟨a, C, dx, _, rfl, hH, e4, e5, hlen, q _ _ _ ((o6.put hk al).drop)⟩
end
end D

set_option Elab.async false
set_option linter.all false
set_option maxRecDepth 100000
set_option maxHeartbeats 4000000
namespace D
open PySem PySem.Spec PyProof.Rows L2
/-! ### C(..), o.m(..) where the wish may hang on the frame's values -/
def tMakeS (C : Addr) (sp : Sp) (E : L2.St → XK) (t : TA) : TE := fun σ H Q => t σ H fun vs H1 => ∀ x dx, H1 x = none → H1 dx = none → dx ≠ x → sp (.ref x :: vs) (upd (upd H1 dx (.own x)) x (.ins C dx [])) (fun v H2 => v = .non ∧ Q (.ref x) H2) (E σ)
def tMethS (C : Addr) (m : Str) (sp : Sp) (E : L2.St → XK) (ta : TE) (t : TA) : TE := fun σ H Q => ta σ H fun x H1 => ∃ a dx fs, x = .ref a ∧ H1 a = some (.ins C dx fs) ∧ fs.lookup m = none ∧ t σ H1 fun vs H2 => sp (x :: vs) H2 Q (E σ)
section
variable {X : Cx} {CT : CXT} {k : Nat} {f C : Addr} {fd : FuncData} {ps : List Str} {sp : Sp} {E : L2.St → XK} {x m : Str} {p pos apos : Pos} {e o : Expr} {es : List Expr} {ta : TE} {t : TA}
theorem make_go {pins : List (Addr × Obj)} {σ : L2.St} {H : Hp} {s : Shared} {Q : VK} {us : List Value} {vs : List V} (M : Mk X.K C f) (F : FnOk X.prog X.w X.K X.mg X.base CT k f fd ps sp) (hr : Room (k + 1) X.A) (hb : Binds X.K fd ps [])
    (hx : PassesAt CT X σ (E σ)) (I : Inv X pins σ H s) (r : Vals vs us)
    (h : ∀ x dx, H x = none → H dx = none → dx ≠ x → sp (.ref x :: vs) (upd (upd H dx (.own x)) x (.ins C dx [])) (fun v H2 => v = .non ∧ Q (.ref x) H2) (E σ)) :
    wpAny (model X.prog X.w) X.A (call (.ref C) us) (EP X pins σ Q) X.xe s := by
  generalize hn : s.heap.objs.size = n
  have f1 : H (n + 1) = none := I.hok.fresh (by rw [hn]; exact Nat.le_succ n)
  have f0 : H n = none := I.hok.fresh (by rw [hn]; exact Nat.le_refl n)
  have hq := h (n + 1) n f1 f0 (Nat.ne_of_lt (Nat.lt_succ_self n))
  have I2 := Inv.made (C := C) I
  rw [hn] at I2
  have r2 : Vals (V.ref (n + 1) :: vs) (Value.ref (n + 1) :: us) := .cons rfl r
  have hl : (Value.ref (n + 1) :: us).length = ps.length := r2.length.symm.trans (F.len _ _ _ _ hq)
  have b := hb _ (Value.ref (n + 1) :: us) I2.kIn (by rw [List.append_nil]; exact hl)
  rw [List.append_nil] at b
  subst hn
  refine wpAny_call (make_map (f := f) I.kIn M.makes M.init (beq_iff_eq.mp M.fn) ?_)
  refine codeAny_mono (F.run _ X.stack _ _ ⟨_, []⟩ _ _ _ (E σ) (hr.make C us []) (I2.env0.make C us []) b r2 hq) ?_
  intro r s' hq'
  match r, hq' with
  | .error e, hq' => exact hx pins _ _ e s' I2 hq'
  | .ok (.ret u), hq' =>
    obtain ⟨v, H', I3, rv, ev, q3⟩ := I2.after hq'
    cases ev
    exact ⟨rv, ⟨V.ref (s.heap.objs.size + 1), H', I3, rfl, q3⟩⟩
  | .ok .next, hq' => exact False.elim hq'
  | .ok .brk, hq' => exact False.elim hq'
  | .ok .cont, hq' => exact False.elim hq'
theorem pe_makeS (M : Mk X.K C f) (F : FnOk X.prog X.w X.K X.mg X.base CT k f fd ps sp) (hr : Room (k + 1) X.A) (hg : Gl X x) (hm : X.mg x = some (.ref C)) (hb : Binds X.K fd ps []) (hx : ∀ σ, PassesAt CT X σ (E σ))
    (ha : PA X (e :: es) t) (hd : (x == ("__debug__" : Str)) = false := by decide) (h1 : starEach (e :: es) X.env = (false, eval e X.env) :: starEach es X.env := by rfl) (h2 : (backTo pos (starEach es X.env)).any (·.1) = false := by rfl) :
    PE X (.Call (.Name x p) (e :: es) [] pos) (tMakeS C sp E t) := ⟨fun pins s σ H Q I h =>
  wpAny_Call_Name_kw (ld_glob I hg hm (PySem.W.callWith_K (h₀ := X.base) I.ok.mod.kin M.kp (thn (ha.run pos pins s σ H _ I h) fun us s1 ⟨vs, H1, I1, r, q⟩ => ⟨I1.kIn, make_go M F hr hb (hx σ) I1 r q⟩) h1 h2) hd)⟩
theorem pe_methS {pl : Sem Bool} (ho : PE X o ta) (c : Cls X.K C) (hm : Meth X.K C m f) (F : FnOk X.prog X.w X.K X.mg X.base CT k f fd ps sp) (hr : Room k X.A) (hb : Binds X.K fd ps []) (hx : ∀ σ, PassesAt CT X σ (E σ)) (ha : PA X (e :: es) t)
    (h1 : starEach (e :: es) X.env = (false, eval e X.env) :: starEach es X.env := by rfl) (h2 : (backTo pos (starEach es X.env)).any (·.1) = false := by rfl)
    (ht : eval (.Call (.Attribute o m apos) (e :: es) [] pos) X.env = (do let ov ← eval o X.env; standAt apos.atName; let (f, first) ← holding [ov] (getMethod ov m pl); callWith pos f first (backTo pos (starEach (e :: es) X.env)) (backToKw pos (keywordEach [] X.env))) := by rfl) :
    PE X (.Call (.Attribute o m apos) (e :: es) [] pos) (tMethS C m sp E ta t) := by
  constructor
  intro pins s σ H Q I h
  refine PySem.W.methodCall_KW (pl := pl) (thn (ho.run pins s σ H _ I h) ?_) ht
  rintro u s1 ⟨x, H1, I1, rx, a, dx, fs, rfl, ea, l, q⟩
  cases (show u = Value.ref a from rx)
  refine getmeth_ok I1 ea c hm l (PySem.W.callWith_K (first := [.ref a]) (h₀ := X.base) I.ok.mod.kin hm.kp ?_ h1 h2)
  exact thn (ha.run pos pins s1 σ H1 _ I1 q) fun us s2 ⟨vs, H2, I2, r, q2⟩ => ⟨I2.kIn, run_fnS (us := .ref a :: us) (vs := .ref a :: vs) F hr hb (hx σ) I2 (.cons rfl r) q2⟩
theorem pe_methS0 {pl : Sem Bool} (ho : PE X o ta) (c : Cls X.K C) (hm : Meth X.K C m f) (F : FnOk X.prog X.w X.K X.mg X.base CT k f fd ps sp) (hr : Room k X.A) (hb : Binds X.K fd ps []) (hx : ∀ σ, PassesAt CT X σ (E σ))
    (ht : eval (.Call (.Attribute o m apos) [] [] pos) X.env = (do let ov ← eval o X.env; standAt apos.atName; let (f, first) ← holding [ov] (getMethod ov m pl); callWith pos f first (backTo pos (starEach [] X.env)) (backToKw pos (keywordEach [] X.env))) := by rfl) :
    PE X (.Call (.Attribute o m apos) [] [] pos) (tMethS C m sp E ta tNil) := by
  constructor
  intro pins s σ H Q I h
  refine PySem.W.methodCall_KW (pl := pl) (thn (ho.run pins s σ H _ I h) ?_) ht
  rintro u s1 ⟨x, H1, I1, rx, a, dx, fs, rfl, ea, l, q⟩
  cases (show u = Value.ref a from rx)
  refine getmeth_ok I1 ea c hm l ?_
  exact PySem.W.callWith_K0 (first := [.ref a]) I1.kIn hm.kp (run_fnS (us := [.ref a]) (vs := [.ref a]) F hr hb (hx σ) I1 (.cons rfl .nil) q)
end
/-! ### .. by value -/
section
variable {K : PySem.W.Frag} {X : Wsh}
def rMeth (C : Addr) (m : Str) (ms : List Md) (S : Spc) (w : Addr → List (Str × Dt) → Env → Prop) (re : RE) (ra : RA) : RE := fun η Q => re η fun x η1 => (∃ fs, look η1 x = some (.ins C fs) ∧ fs.lookup m = none) ∧
  ra η1 fun xs η2 => ∃ as, argsD ms (x :: xs) η2 = some as ∧ S.pre as ∧ (∀ y cs, S.post as y cs → Q y (aft ms (x :: xs) η2 cs)) ∧ ∀ C fs cs, S.exc as C fs cs → w C fs (aft ms (x :: xs) η2 cs)
theorem de_methS {C : Addr} {m : Str} {ms : List Md} {S : Spc} {te : TE} {re : RE} {t : TA} {ra : RA} {E : L2.St → XK} (hE : ∀ σ C d H, X.W (.ref C) d σ H → E σ (.ref C) d H) (he : DE K X te re) (ha : DA K X t ra) : DE K X (tMethS C m (toSp K ms S) E te t) (rMeth C m ms S X.w re ra) := by
  constructor
  · intro η Q Q' hq q
    refine he.mono _ _ _ (fun x η1 ⟨h, q⟩ => ⟨h, ha.mono _ _ _ ?_ q⟩) q
    rintro xs η2 ⟨as, e, hp, h1, h2⟩
    exact ⟨as, e, hp, fun y cs h => hq _ _ (h1 y cs h), h2⟩
  intro B Z H σ η τ P lk o q
  refine he.run B Z H σ η τ _ lk o (he.mono _ _ _ ?_ q)
  rintro x η1 ⟨⟨fs, e1, e2⟩, q⟩ Z1 H1 v o1
  obtain ⟨a, dx, ns, vs, ds, rfl, rfl, l, h, r⟩ := see_ins (o1.see e1)
  refine ⟨a, dx, _, rfl, h, zip_none l r.length e2, ?_⟩
  refine ha.run B Z1 H1 σ η1 _ _ lk.app o1.2 (ha.mono _ _ _ ?_ q)
  rintro xs η2 ⟨as, e, hp, h1, h2⟩ Z2 H2 ws o2
  have o3 : OkV B K Z2 H2 σ η2 τ (x :: xs) (.ref a :: ws) := .cons o1.1 o2
  exact call_go lk (hE σ) o3 e hp (fun y cs h Z' H' v o => h1 y cs h Z' H' v o) h2
def rMake (C : Addr) (ms : List Md) (S : Spc) (w : Addr → List (Str × Dt) → Env → Prop) (ra : RA) : RE := fun η Q => ra η fun xs η1 => ∃ as, argsD ms xs η1 = some as ∧ S.pre (.dt (.ins C []) :: as) ∧
  (∀ y cs, S.post (.dt (.ins C []) :: as) y cs → ∃ d cs', y = .d .non ∧ cs = .dt d :: cs' ∧ Q (.nw d) (aft ms xs η1 cs')) ∧ ∀ C' fs cs, S.exc (.dt (.ins C []) :: as) C' fs cs → ∃ c cs', cs = c :: cs' ∧ w C' fs (aft ms xs η1 cs')
theorem args_nw {ms : List Md} {xs : List Vl} {η : Env} {as : List Ct} {d : Dt} (e : argsD ms xs η = some as) : argsD (.p :: ms) (.nw d :: xs) η = some (.dt d :: as) := by
  unfold argsD at e ⊢
  cases h : conP ms xs η with
  | none => rw [h] at e; cases e
  | some cs =>
    rw [h] at e
    have e' : entD (remP ms xs η) ms xs cs = some as := e
    have h1 : conP (.p :: ms) (.nw d :: xs) η = some (.dt d :: cs) := by
      show (conP ms xs η).map (.dt d :: ·) = _
      rw [h]; rfl
    rw [h1]
    show (entD (remP ms xs η) ms xs cs).map (.dt d :: ·) = _
    rw [e']; rfl
theorem de_makeS {C : Addr} {ms : List Md} {S : Spc} {t : TA} {ra : RA} {E : L2.St → XK} (hE : ∀ σ C d H, X.W (.ref C) d σ H → E σ (.ref C) d H) (ha : DA K X t ra) : DE K X (tMakeS C (toSp K (.p :: ms) S) E t) (rMake C ms S X.w ra) := by
  constructor
  · intro η Q Q' hq q
    refine ha.mono _ _ _ ?_ q
    rintro xs η1 ⟨as, e, hp, h1, h2⟩
    refine ⟨as, e, hp, fun y cs h => ?_, h2⟩
    obtain ⟨d, cs', e1, e2, q⟩ := h1 y cs h
    exact ⟨d, cs', e1, e2, hq _ _ q⟩
  intro B Z H σ η τ P lk o q
  refine ha.run B Z H σ η τ _ lk o (ha.mono _ _ _ ?_ q)
  rintro xs η1 ⟨as, e, hp, h1, h2⟩ Z1 H1 vs o1 x dx hx hdx ne
  have o2 : Ok B K Z1 (upd H1 dx (.own x)) σ η1 (tmp xs vs ++ τ) := o1.2.ext (upd_keep hdx) (fun _ z => z) fun _ z => .inl z
  have hx' : upd H1 dx (.own x) x = none := by rw [upd_ne ne.symm]; exact hx
  have o3 := o2.new hx' (o := .ins C dx []) (d := .ins C []) ⟨dx, [], [], [], rfl, rfl, upd_same, .nil⟩
  have o4 : OkV B K Z1 (upd (upd H1 dx (.own x)) x (.ins C dx [])) σ η1 τ (.nw (.ins C []) :: xs) (.ref x :: vs) := ⟨o1.1, o3⟩
  obtain ⟨Z2, G', hA, hG, hz, back⟩ := call_core o4 (args_nw e)
  refine ⟨_, Z2, G', hA, hG, hz, hp, fun y cs hpost Z' H' v lv => ?_, fun C' fs cs hxx Z' H' d lv xd => ?_⟩
  · obtain ⟨d, cs', rfl, rfl, q⟩ := h1 y cs hpost
    have o5 : Ok B K Z' H' σ (remP ms xs η1) ((.ref x, .mu none (.dt d)) :: (pl ms vs (flagsP ms xs η1) cs' ++ (tmp [.d .non] [v] ++ τ))) := back Z' H' _ _ _ lv
    have o6 : Ok B K Z' H' σ (remP ms xs η1) ((v, .val .non) :: ((.ref x, .mu none (.dt d)) :: (pl ms vs (flagsP ms xs η1) cs' ++ τ))) := by
      refine o5.perm ?_
      show ((V.ref x, En.mu none (.dt d)) :: (pl ms vs (flagsP ms xs η1) cs' ++ ((v, .val .non) :: τ))).Perm _
      exact ((List.perm_middle (l₁ := pl ms vs (flagsP ms xs η1) cs')).cons _).trans (.swap _ _ _)
    have ev : v = .non := o6.rp.see
    have o7 : Ok B K Z' H' σ (remP ms xs η1) (pl ms vs (flagsP ms xs η1) cs' ++ ((.ref x, .mu none (.dt d)) :: τ)) := o6.drop.perm List.perm_middle.symm
    exact ⟨ev, q Z' H' (.ref x) (.nw (call_put o1.1 o7))⟩
  · obtain ⟨c, cs', rfl, hw⟩ := h2 C' fs cs hxx
    have o5 : Ok B K Z' H' σ (remP ms xs η1) ((.ref x, .mu none c) :: (pl ms vs (flagsP ms xs η1) cs' ++ τ)) := back Z' H' _ [] [] lv
    exact hE σ C' d H' (lk C' fs _ Z' H' σ d hw (call_put o1.1 o5.drop) xd)
end
end D

set_option Elab.async false
set_option linter.all false
set_option maxRecDepth 100000
set_option maxHeartbeats 4000000
namespace D
open PySem PySem.Spec PyProof.Rows L2
/-! ### own exceptions whose __init__ is D.__init__(self, text); self.f = v -/
/-- the class D, D.__init__ being the ValueError's -/
structure FinC (K : PySem.W.Frag) (C : Addr) : Prop where
  rd : PySem.W.readsIn K C (.type "type") = true
  ga : PySem.W.specialIn K (.ref C) "__getattribute__" = some (some (.builtin "type.__getattribute__"))
  vi : PySem.W.findCls K (.ref C) (.type "type") "__init__" = some (.val (.builtin "ValueError.__init__"))
section
variable {X : Cx} {e : Expr} {es : List Expr} {ta : TA} {p1 p2 pos : Pos} {x : Str} {C0 : Addr}
theorem pe_finit {pl : Sem Bool} (T0 : FinC X.K C0) (hg : Gl X x) (hm : X.mg x = some (.ref C0)) (ha : PA X (e :: es) ta) (hd : (x == ("__debug__" : Str)) = false := by decide)
    (hc : eval (.Call (.Attribute (.Name x p1) "__init__" p2) (e :: es) [] pos) X.env = (do let ov ← eval (.Name x p1) X.env; standAt p2.atName; let (f, first) ← holding [ov] (getMethod ov "__init__" pl); callWith pos f first (backTo pos (starEach (e :: es) X.env)) (backToKw pos (keywordEach [] X.env))) := by rfl)
    (h1 : starEach (e :: es) X.env = (false, eval e X.env) :: starEach es X.env := by rfl) (h2 : (backTo pos (starEach es X.env)).any (·.1) = false := by rfl) :
    PE X (.Call (.Attribute (.Name x p1) "__init__" p2) (e :: es) [] pos) (tVeI X.K ta) := by
  constructor
  intro pins s σ H Q I h
  refine PySem.W.methodCall_KW (ld_glob I hg hm ?_ hd) hc
  refine PySem.W.method_cls I.kIn T0.ga (PySem.W.cls_value I.kIn T0.rd T0.vi (by decide +kernel) ?_)
  refine PyProof.Rows.callWith_method1 (thn (ha.run pos pins _ σ H _ (I.tok _) h) ?_) h1 h2
  rintro us s1 ⟨vs, H1, I1, r1, a, C, ws, rfl, hl, T, ea, q⟩
  match us, r1 with
  | _ :: ur, .cons ra rw' =>
    cases (show _ = Value.ref a from ra)
    have hlen : ur.length ≤ sizeLine := by rw [← Paired.length rw', sizeLine_eq]; omega
    exact oinit_ok T I1 ea hlen fun s' J => ⟨.non, H1, J, rfl, q⟩
end
/-- the promise of such an __init__ -/
def spFin (K : PySem.W.Frag) (C : Addr) (f : Str) : Sp := fun vs H Q _ => ∃ a v, vs = [.ref a, v] ∧ H a = some (exo a C none) ∧ ∀ dx, H dx = none → dx ≠ a → Q .non (upd (upd H dx (exd dx [(f, v)])) a (exo a C (some dx)))
theorem spFin_len {K : PySem.W.Frag} {C : Addr} {f : Str} {vs : List V} {H : Hp} {Q : VK} {E : XK} (h : spFin K C f vs H Q E) : vs.length = 2 := by
  obtain ⟨a, v, rfl, _⟩ := h
  rfl
theorem fin_body {K : PySem.W.Frag} {C : Addr} {f : Str} {x : Str} {vs : List V} {H : Hp} {Q : VK} {E : XK} (T : OexC K C) (nf : PySem.W.findIn K (.ref C) f = some none) (h : spFin K C f vs H Q E) :
    tSeq (tDrop (tVeI K (tCons (tVar 0) (tCons (tC (.str x)) tNil)))) (tOst K f (tVar 0) (tVar 1)) { nx := fun _ H' => Q .non H', rt := Q } (vs.map some) H := by
  obtain ⟨a, v, rfl, e, q⟩ := h
  refine ⟨_, rfl, a, C, _, rfl, (show 1 ≤ 1000 by decide), T, e, ?_⟩
  exact ⟨_, rfl, _, rfl, a, C, rfl, T, nf, .inl ⟨e, q⟩⟩
/-- raise C(e) -/
theorem ds_raiseO {K : PySem.W.Frag} {X : Wsh} {C : Addr} {f : Str} {ta : TA} {ra : RA} {W : L2.WX} (hW : ∀ d σ H, X.W (.ref C) d σ H → W (.ref C) d σ H) (ha : DA K X ta ra) :
    DS K X (fun _ σ H => tMkO C (spFin K C f) [] ta σ H fun cls d H' => W cls d σ H') (rRaise1 C f ra X.w) := by
  constructor
  · intro η D D' hd q
    exact q
  intro B Z H σ η τ E lk o q
  refine ha.run B Z H σ η τ _ lk o (ha.mono _ _ _ ?_ q)
  rintro xs η1 ⟨d, e, q⟩ Z1 H1 vs o1
  obtain ⟨Z2, z2, o2, r⟩ := o1.frzs e
  match vs, r with
  | [v], .cons r1 .nil =>
    refine ⟨by simp, fun a hna => ⟨a, v, rfl, upd_same, fun dx hdx ne => ⟨rfl, dx, _, upd_same, by rw [upd_ne ne, upd_same], by rw [← hdx, upd_ne ne], ?_⟩⟩⟩
    have hd : H1 dx = none := by rw [← hdx, upd_ne ne]
    have eh : upd (del (upd (upd (upd H1 a (exo a C none)) dx (exd dx [(f, v)])) a (exo a C (some dx))) a) dx (.xd [(f, v)]) = upd H1 dx (.xd [(f, v)]) := by
      funext b
      by_cases hb : b = dx
      · rw [hb, upd_same, upd_same]
      · rw [upd_ne hb, upd_ne hb]
        by_cases ha' : b = a
        · rw [ha', del_same, hna]
        · rw [del_ne ha', upd_ne ha', upd_ne hb, upd_ne ha']
    rw [eh]
    refine hW _ _ _ (lk C [(f, d)] η1 _ _ σ (some dx) q (o2.newZ hd _) (.inr ⟨dx, [f], [v], [d], rfl, rfl, rfl, .inr rfl, upd_same, ?_⟩))
    exact (RpAll.cons r1 .nil).new hd
theorem ds_raiseOT {K : PySem.W.Frag} {C : Addr} {f : Str} {ta : TA} {ra : RA} {W : Value → Option Addr → L2.St → Hp → Prop} {w : Addr → List (Str × Dt) → Env → Prop} (ha : DA K ⟨W, w⟩ ta ra) :
    DS K ⟨W, w⟩ (fun _ σ H => tMkO C (spFin K C f) [] ta σ H fun cls d H' => W cls d σ H') (rRaise1 C f ra w) := ds_raiseO (X := ⟨W, w⟩) (fun _ _ _ h => h) ha
end D

set_option Elab.async false
set_option linter.all false
set_option maxRecDepth 100000
set_option maxHeartbeats 4000000
namespace D
open PySem PySem.Spec PyProof.Rows L2
section
variable {K : PySem.W.Frag}
/-! ### texts -/
def repS (k : Int) (z : Str) : Str := ⟨(List.replicate k.toNat z.cps).foldl (· ++ ·) #[]⟩
theorem fold_size {α : Type} (a : Array α) : ∀ (n : Nat) (b : Array α), ((List.replicate n a).foldl (· ++ ·) b).size = b.size + n * a.size
  | 0, b => by simp
  | n + 1, b => by
    rw [List.replicate_succ, List.foldl_cons, fold_size a n, Array.size_append, Nat.succ_mul]
    omega
theorem rep_len (k : Int) (z : Str) : (repS k z).length = k.toNat * z.length := by
  show ((List.replicate k.toNat z.cps).foldl (· ++ ·) #[]).size = _
  rw [fold_size]
  simp
  rfl
def rMulS : R2 := fun x y H Q => ∃ z k, x = .str z ∧ y = .int k ∧ 2 ≤ k ∧ k ≤ 1000 ∧ 0 < z.length ∧ z.length ≤ 1000 ∧ Q (.str (repS k z)) H
theorem op_mulS {X : Cx} : OpR X (binaryOp .Mult) rMulS := by
  intro pins s σ H x y v u Q I rx ry h
  obtain ⟨z, k, rfl, rfl, k2, k9, z0, z9, q⟩ := h
  obtain ⟨t, rfl⟩ := rx
  obtain ⟨t', rfl⟩ := ry
  have e1 : ¬ k < 1 := by omega
  have e2 : (k == 1 || z.length == 0) = false := by
    rw [Bool.or_eq_false_iff]
    exact ⟨by simp; omega, by simp; omega⟩
  have hk : k.toNat ≤ 1000 := by omega
  have hm : z.length * k.toNat ≤ 1000 * 1000 := Nat.mul_le_mul z9 hk
  refine PySem.P.mul_str ?_ (fun _ _ => ?_) (fun _ _ => ?_) ?_
  · rw [decide_eq_false (by omega), decide_eq_false (by omega)]; rfl
  · have : (1000 : Int) ≤ (2 ^ 63 - 1) / k := by
      rw [Int.le_ediv_iff_mul_le (by omega)]
      omega
    omega
  · show decide (z.length * k.toNat > sizeLine) = false
    rw [sizeLine_eq]
    exact decide_eq_false (by omega)
  · rw [if_neg e1, e2]
    refine ⟨?_, ⟨.str (repS k z), H, I.tok _, ⟨_, rfl⟩, q⟩⟩
    show (repS k z).length ≤ sizeLine
    rw [rep_len, sizeLine_eq, Nat.mul_comm]
    omega
def RMulS : Dt → Dt → Dt → Prop := fun x y d => ∃ z k, x = .str z ∧ y = .int k ∧ 2 ≤ k ∧ k ≤ 1000 ∧ 0 < z.length ∧ z.length ≤ 1000 ∧ d = .str (repS k z)
theorem p2_mulS : P2 K rMulS RMulS := by
  constructor
  rintro Z H x y dx dy d P sx sy ⟨z, k, rfl, rfl, h1, h2, h3, h4, rfl⟩ q
  cases (show x = .str z from sx)
  cases (show y = .int k from sy)
  exact ⟨z, k, rfl, rfl, h1, h2, h3, h4, q _ (.str _)⟩
def RleS : Dt → Dt → Dt → Prop := fun x y d => ∃ a b, x = .str a ∧ y = .str b ∧ d = .bl (!decide (b.cps.toList < a.cps.toList))
theorem p2_leS : P2 K (fun x y H Q => ∃ i j, x = V.str i ∧ y = V.str j ∧ Q (.bl (!decide (j.cps.toList < i.cps.toList))) H) RleS := by
  constructor
  rintro Z H x y dx dy d P sx sy ⟨a, b, rfl, rfl, rfl⟩ q
  cases (show x = .str a from sx)
  cases (show y = .str b from sy)
  exact ⟨a, b, rfl, rfl, q _ (.bl _)⟩
def roJoin : Vl → ROs := fun x xs η Q => ∃ a y ys, look η x = some (.str a) ∧ xs = [y] ∧ look η y = some (.lst (ys.map .str)) ∧ (ys.map (·.length)).sum + ys.length * a.length ≤ 100000 ∧ Q (.d (.str (Txt.join a ys))) η
theorem dm_join : DM K (fun x xs H Q => ∃ a p, ∃ ys : List Str, x = .str a ∧ xs = [.ref p] ∧ (SqL K H p (ys.map V.str) ∨ SqT K H p (ys.map V.str)) ∧ (ys.map (·.length)).sum + ys.length * a.length ≤ 16777216 ∧ Q (.str (Txt.join a ys)) H) roJoin := by
  constructor
  · rintro x xs η Q Q' hq ⟨a, y, ys, e1, e2, e3, e4, q⟩
    exact ⟨a, y, ys, e1, e2, e3, e4, hq _ _ q⟩
  rintro B Z H σ η τ x v xs vs P o ⟨a, y, ys, e1, rfl, e3, e4, q⟩
  have s1 := o.head.see e1
  cases (show v = .str a from s1)
  obtain ⟨w, rfl⟩ := ali1 o.tail.1
  obtain ⟨p, ws, rfl, hs, r⟩ := o.tail.see e3
  cases strs_of r
  exact ⟨a, p, ys, rfl, rfl, .inl hs, by omega, q Z H _ (.d o.ok (.str _))⟩
def RMin : Dt → Dt → Prop := fun x d => ∃ (ns : List Int) (m : Int), x = .lst (ns.map .int) ∧ m ∈ ns ∧ (∀ y ∈ ns, m ≤ y) ∧ d = .int m
theorem f1_min : F1 K (rMin K) RMin := by
  constructor
  rintro Z H v dx d P s ⟨ns, m, rfl, hm, hl, rfl⟩ k
  obtain ⟨a, vs, rfl, hs, r⟩ := s
  cases ints_of r
  refine ⟨a, ns, rfl, hs, List.length_pos_of_mem hm, fun m' h1 h2 => ?_⟩
  have : m' = m := Int.le_antisymm (h2 _ hm) (hl _ h1)
  rw [this]
  exact k _ (.int _)
end
end D

set_option Elab.async false
set_option linter.all false
set_option maxRecDepth 100000
set_option maxHeartbeats 4000000
namespace D
open PySem PySem.Spec PyProof.Rows L2
/-! ### in an except suite: isinstance with several classes, e.f -/
def rIsXS (K : PySem.W.Frag) (C a : Addr) (d : Option Addr) : List V → Hp → VK → Prop := fun xs H Q => ∃ (tp : Addr) (cs : List V) (us : List Value) (b : Bool), xs = [.ref a, .ref tp] ∧ SqT K H tp cs ∧ Paired ClsV cs us ∧ (d = none ∨ ∃ dd fs, d = some dd ∧ H dd = some (.xd fs)) ∧ PySem.W.kitAny K (.ref C) us = some b ∧ Q (.bl b) H
theorem call_isXS {X : Cx} {a C : Addr} {d : Option Addr} {oe : Obj} {pn : List (Addr × Obj)} (T : ExcC X.K C) (hz : Zc (.ref C) d oe) (hf : ∃ vs, oe.data = .fields vs) : CallR (X.suite a ((a, oe) :: pn)) (.builtin "isinstance") (rIsXS X.K C a d) := by
  intro pins s σ H xs us Q I r h
  obtain ⟨tp, cs, ws, b, rfl, hT, k, hd, e, q⟩ := h
  obtain ⟨u1, u2, rfl, r1, r2⟩ := vals2 r
  cases (show u2 = Value.ref tp from r2)
  cases r1
  obtain ⟨its, rv, ⟨o, h1, h2, n, h3⟩, _⟩ := I.tuple hT
  have e3 := ClsV.all k rv
  subst e3
  obtain ⟨od, J⟩ := inst_of I hz hf hd
  obtain ⟨oc, odd, dt, sl⟩ := o
  simp only at h2 h3
  subst h2 h3
  have hi : PySem.W.isClsIn X.K C = true := by obtain ⟨cd, hc, _⟩ := PySem.W.any_some T.hd; unfold PySem.W.isClsIn; rw [hc]; rfl
  exact PySem.W.kia_tup (PySem.W.kitx_exc hi T.hg T.hk T.hs T.ha T.hn T.ht T.hm) I.kIn J h1 e (fun z => nomatch z) fun tk => ⟨.bl b, H, I.kept (t' := tk) fun _ _ z => z, rfl, q⟩
def roIsXS (K : PySem.W.Frag) (a : Addr) (d : Option Addr) (C : Addr) : ROs := fun xs η Q => ∃ x y cs us fs b, xs = [x, y] ∧ look η x = some (.exn a d C fs) ∧ look η y = some (.tup cs) ∧ ClsDs cs us ∧ PySem.W.kitAny K (.ref C) us = some b ∧ Q (.d (.bl b)) η
theorem dc_isXS {K : PySem.W.Frag} {a : Addr} {d : Option Addr} {C : Addr} : DC K (rIsXS K C a d) (roIsXS K a d C) := by
  constructor
  · rintro xs η Q Q' hq ⟨x, y, cs, us, fs, b, e1, e2, e3, e4, e5, q⟩
    exact ⟨x, y, cs, us, fs, b, e1, e2, e3, e4, e5, hq _ _ q⟩
  rintro B Z H σ η τ xs vs P o ⟨x, y, cs, us, fs, b, rfl, e2, e3, e4, e5, q⟩
  obtain ⟨v, w, rfl⟩ := ali2 o.1
  obtain ⟨s1, s2⟩ := o.see2 e2 e3
  obtain ⟨e1, h⟩ := s1
  subst e1
  obtain ⟨tp, ws, rfl, hs, r⟩ := s2
  refine ⟨tp, ws, us, b, rfl, hs, e4.vs r, ?_, e5, q Z H _ (.d o.ok (.bl b))⟩
  rcases h with ⟨h, _⟩ | ⟨dd, ns, vs, ds, h1, h2, len, z, hx, r⟩
  · exact .inl h
  · exact .inr ⟨dd, _, h1, hx⟩
def tXfn (K : PySem.W.Frag) (a C : Addr) (d : Option Addr) (f : Str) (te : TE) : TE := fun σ H Q => PySem.W.findIn K (.ref C) f = some none ∧ tXf a (.ref C) d C f te σ H Q
theorem pe_xfn {K : PySem.W.Frag} {X : Cx} {a C : Addr} {oe : Obj} {d : Option Addr} {pn : List (Addr × Obj)} {e : Expr} {te : TE} {pos : Pos} {n : Str} (hK : X.K = K) (T : ExcC X.K C) (hz : Zc (.ref C) d oe) (hf : ∃ vs, oe.data = .fields vs) (he : PE (X.suite a ((a, oe) :: pn)) e te)
    (hb : attributeBase e n X.env (eval e X.env) = eval e X.env := by rfl) : PE (X.suite a ((a, oe) :: pn)) (.Attribute e n pos) (tXfn K a C d n te) :=
  ⟨fun pins s σ H Q I h => (pe_xf ⟨T.hg, T.hk, T.hs, T.hd⟩ (hK ▸ h.1) hz hf he hb).run pins s σ H Q I h.2⟩
def rXfn (K : PySem.W.Frag) (a : Addr) (d : Option Addr) (C : Addr) (f : Str) (re : RE) : RE := fun η Q => PySem.W.findIn K (.ref C) f = some none ∧ rXf a d C f re η Q
theorem de_xfn {K : PySem.W.Frag} {X : Wsh} {a C : Addr} {d : Option Addr} {f : Str} {te : TE} {re : RE} (he : DE K X te re) : DE K X (tXfn K a C d f te) (rXfn K a d C f re) :=
  ⟨fun η Q Q' hq q => ⟨q.1, (de_xf he).mono η Q Q' hq q.2⟩, fun B Z H σ η τ P lk o q => ⟨q.1, (de_xf he).run B Z H σ η τ P lk o q.2⟩⟩
end D

set_option Elab.async false
set_option linter.all false
set_option maxRecDepth 100000
set_option maxHeartbeats 4000000
namespace D
open PySem PySem.Spec PyProof.Rows L2
variable {K : PySem.W.Frag} {X : Wsh}
/-! ### from here on the thing in slot i stays as it is -/
theorem Ok.freezeAt {B : Base} {Z : Zs} {H : Hp} {σ : L2.St} {η : Env} {τ : List (V × En)} {i : Nat} {d : Dt} (o : Ok B K Z H σ η τ) (e : η[i]? = some (some (.mu none (.dt d)))) : ∃ Z' : Zs, Ok B K Z' H σ (η.set i (some (.val d))) τ := by
  obtain ⟨v, hv, o1⟩ := o.take e
  obtain ⟨Z', _, o2⟩ := o1.freeze
  exact ⟨Z', o2.put (List.getElem?_eq_some_iff.mp e).1 hv⟩
def rSeqF (i : Nat) (r u : RS) : RS := fun D η => ∃ d, η[i]? = some (some (.mu none (.dt d))) ∧ r { D with nx := u D } (η.set i (some (.val d)))
theorem ds_seqF (i : Nat) {t u : TS} {r s : RS} (h1 : DS K X t r) (h2 : DS K X u s) : DS K X (tSeq t u) (rSeqF i r s) := by
  have h := ds_seq h1 h2
  refine ⟨fun η D D' hd ⟨d, e, q⟩ => ⟨d, e, h.mono _ D D' hd q⟩, ?_⟩
  rintro B Z H σ η τ E lk o ⟨d, e, q⟩
  obtain ⟨Z', o'⟩ := o.freezeAt e
  exact h.run B Z' H σ _ τ E lk o' q
end D

set_option Elab.async false
set_option linter.all false
set_option maxRecDepth 100000
set_option maxHeartbeats 4000000
/-! lists whose items are equal one by one: != is False -/
namespace PySem.SeqAt
open AutoSeq1 (wpAny_loadPart')
open MeetsSeq MeetsSeq2 MeetsSeq3 SeqRoads2
section
variable {prog : Program} {w : World}
abbrev LObj (dd : Option Addr) (its : Array Value) (n : Nat) (sl : Array (Option Value)) : Obj := { cls := .type "list", dict := dd, data := .seq its n, slots := sl }
theorem nq_loop (l b : Addr) (u v : Array Value) (n m : Nat) (d1 d2 : Option Addr) (s1 s2 : Array (Option Value)) (hz : u.size = v.size) : ∀ (k i : Nat), u.size - i = k →
    MeetsIn prog w (Builtin.«list.__eq__.loop» ⟨[.ref l, .ref b, rawInt i, rawInt 3], []⟩) (fun A R s => s.heap.get? l = some (LObj d1 u n s1) ∧ s.heap.get? b = some (LObj d2 v m s2) ∧ (∀ j (h1 : j < u.size) (h2 : j < v.size), EqP prog w A.in1 s u[j] v[j] true) ∧ R (.ok (.ret (.bool false))) s) := by
  intro k
  induction k with
  | zero =>
    rintro i hk A R ⟨hp, g, d, tk, os⟩ ⟨hl, hb, he, h⟩
    have i1 : u[((i : Nat) : Int).toNat]? = none := by simp; omega
    have i2 : v[((i : Nat) : Int).toNat]? = none := by simp; omega
    wp_walk using wpAny_loadPart' hl, wpAny_loadPart' hb
    rw [i1, i2]
    wp_walk using wpAny_loadPart' hl, wpAny_loadPart' hb
    show R (.ok (.ret (.bool (u.size != v.size)))) _
    rw [hz]
    simpa using h
  | succ k ih =>
    rintro i hk A R ⟨hp, g, d, tk, os⟩ ⟨hl, hb, he, h⟩
    have p1 : i < u.size := by omega
    have p2 : i < v.size := by omega
    have i1 : u[((i : Nat) : Int).toNat]? = some u[i] := by simp [p1]
    have i2 : v[((i : Nat) : Int).toNat]? = some v[i] := by simp [p2]
    have nx : ((i : Int) + 1) = ((i + 1 : Nat) : Int) := by push_cast; rfl
    wp_walk using wpAny_loadPart' hl, wpAny_loadPart' hb
    rw [i1, i2]
    refine wpAny_bind (he i p1 p2 _ _ ?_)
    wp_walk
    rw [nx]
    refine ⟨plainId_quiet plain_eq_loop _, codeAny_builtin entry_eq_loop ?_⟩
    rw [Around.under_plainId plain_eq_loop _]
    exact ih (i + 1) (by omega) A R _ ⟨hl, hb, he, h⟩
theorem nq_list (l b : Addr) (u v : Array Value) (n m : Nat) (d1 d2 : Option Addr) (s1 s2 : Array (Option Value)) (hz : u.size = v.size) :
    MeetsIn prog w (Builtin.«list.__ne__» ⟨[.ref l, .ref b], []⟩) (fun A R s => s.heap.get? l = some (LObj d1 u n s1) ∧ s.heap.get? b = some (LObj d2 v m s2) ∧ (∀ j (h1 : j < u.size) (h2 : j < v.size), EqP prog w A.in1 s u[j] v[j] true) ∧ R (.ok (.ret (.bool false))) s) := by
  rintro A R ⟨hp, g, d, tk, os⟩ ⟨hl, hb, he, h⟩
  have f3 := AutoSeq1.sub_list_list
  have nz : ¬ (u.size != v.size) = true := by simp [hz]
  wp_walk using wpAny_loadPart' hl, wpAny_loadPart' hb
  refine ⟨plainId_quiet plain_eq_loop _, codeAny_builtin entry_eq_loop ?_⟩
  rw [Around.under_plainId plain_eq_loop _]
  exact nq_loop l b u v n m d1 d2 s1 s2 hz _ 0 rfl A R _ ⟨hl, hb, he, h⟩
theorem nq_rc {A : Around} {s : Shared} {l b : Addr} {u v : Array Value} (hl : s.heap.IsList l u) (hb : s.heap.IsList b v) (hz : u.size = v.size) (hu : A.units < cLine) (he : ∀ j (h1 : j < u.size) (h2 : j < v.size), EqP prog w A.in1 s u[j] v[j] true) (E Q : Value → Shared → Prop) (h : Q (.bool false) s) :
    wpAny (model prog w) A (richCompare .NotEq (.ref l) (.ref b)) Q E s := by
  obtain ⟨⟨c1, d1, t1, s1⟩, o1, k1, n, e1⟩ := id hl
  obtain ⟨⟨c2, d2, t2, s2⟩, o2, k2, m, e2⟩ := id hb
  simp only at k1 e1 k2 e2
  subst k1 e1 k2 e2
  have ta : s.TypeIs (.ref l) "list" := ⟨_, o1, rfl⟩
  have tb : s.TypeIs (.ref b) "list" := ⟨_, o2, rfl⟩
  refine wpAny_richCompare_same_room (op := .NotEq) ta tb F.slot_list_ne (call_meetsIn F.slot_list_ne ta F.entry_list_ne (F.args_list_ne_2 _ _) (nq_list l b u v n m d1 d2 s1 s2 hz) ⟨o1, o2, he, ?_⟩) hu
  exact ⟨(fun x => nomatch x), h⟩
end
end PySem.SeqAt
namespace D
open PySem PySem.Spec PyProof.Rows L2
/-- two items that are equal: data, or dicts without keys -/
def EqE (K : PySem.W.Frag) (H : Hp) (x y : V) : Prop := (∃ d, Dp K H x d ∧ Dp K H y d ∧ d.plain = true ∧ d.depth ≤ 40) ∨ ∃ a b, x = .ref a ∧ y = .ref b ∧ Rd H a (.dK []) ∧ Rd H b (.dK [])
def rNeS (K : PySem.W.Frag) : R2 := fun x y H Q => ∃ a b xs ys, x = .ref a ∧ y = .ref b ∧ SqL K H a xs ∧ SqL K H b ys ∧ Paired (EqE K H) xs ys ∧ Q (.bl false) H
theorem eqE_run {X : Cx} {pins : List (Addr × Obj)} {σ : L2.St} {H : Hp} {s : Shared} (I : Inv X pins σ H s) {A : Around} (hu : A.units + 62 < cLine) (x y : V) (v u : Value) (h : EqE X.K H x y) (rx : RelV x v) (ry : RelV y u) : SeqAt.EqP X.prog X.w A s v u true := by
  rcases h with ⟨d, h1, h2, hp, hd⟩ | ⟨a, b, rfl, rfl, h1, h2⟩
  · obtain ⟨as, r1⟩ := Dp.reads I d x v h1 rx
    obtain ⟨bs, r2⟩ := Dp.reads I d y u h2 ry
    have := SeqAt.eqAt_plain d d A s v u as bs r1 r2 hp hp (by omega)
    rw [SeqAt.eqv_refl_plain d hp] at this
    exact this.eqP
  · cases (show v = Value.ref a from rx)
    cases (show u = Value.ref b from ry)
    by_cases e : a = b
    · subst e
      exact (SeqAt.EqAt.same _).eqP
    · obtain ⟨_, ya, va, ra, da⟩ := (show ObjOk X.prog X.w H s.heap a (.dK []) from h1.ok I.hok)
      obtain ⟨_, yb, vb, rb, db⟩ := (show ObjOk X.prog X.w H s.heap b (.dK []) from h2.ok I.hok)
      cases ra
      cases rb
      refine SeqAt.eqP_refs e fun E Q q => PySem.W.rcP_dicts (knd := mixKind X.prog X.w) (r := true) ya yb da db (by omega) (fun _ => .nil) E Q ?_
      exact q
theorem op_neS {X : Cx} (hu : X.A.units + 64 < cLine) : OpR X (compareOp .NotEq) (rNeS X.K) := by
  intro pins s σ H x y v u Q I rx ry h
  obtain ⟨a, b, xs, ys, rfl, rfl, ha, hb, hp, q⟩ := h
  cases (show v = Value.ref a from rx)
  cases (show u = Value.ref b from ry)
  obtain ⟨us, r1, p1, _⟩ := I.list ha
  obtain ⟨ws, r2, p2, _⟩ := I.list hb
  have hz : us.toArray.size = ws.toArray.size := by
    rw [List.size_toArray, List.size_toArray, ← r1.length, ← r2.length]
    exact Paired.length hp
  refine SeqAt.nq_rc (A := X.A) p1.isList p2.isList hz (by omega) (fun j h1 h2 => ?_) _ _ ⟨.bl false, H, I, rfl, q⟩
  have := items_run (fun x y v u h rx ry => eqE_run I (A := X.A.in1) (by show X.A.units + 1 + 62 < cLine; omega) x y v u h rx ry) hp r1 r2 j (by simpa using h1) (by simpa using h2)
  simpa using this
def RNeS : Dt → Dt → Dt → Prop := fun a b d => ∃ ds, a = .lst ds ∧ b = .lst ds ∧ (∀ e ∈ ds, Pd 30 e ∨ e = .dct []) ∧ d = .bl false
theorem eqE_of {K : PySem.W.Frag} {Z : Zs} {H : Hp} : ∀ {ds : List Dt} {vs ws : List V}, (∀ e ∈ ds, Pd 30 e ∨ e = .dct []) → RpAll K Z H vs ds → RpAll K Z H ws ds → Paired (EqE K H) vs ws
  | [], vs, ws, _, r1, r2 => by
    cases r1; cases r2
    exact .nil
  | d :: ds, vs, ws, h, r1, r2 => by
    cases r1 with
    | cons a1 b1 =>
      cases r2 with
      | cons a2 b2 =>
        refine .cons ?_ (eqE_of (fun e he => h e (by simp [he])) b1 b2)
        rcases h d (by simp) with hp | rfl
        · have := pd_nat hp
          exact .inl ⟨toP d, dp_of hp a1, dp_of hp a2, this.1, by omega⟩
        · obtain ⟨a, ks, vs', ds', e1, e2, e3, e4, e5⟩ := (show See K Z H _ (.dct []) from a1.see)
          obtain ⟨b, ks2, vs2, ds2, f1, f2, f3, f4, f5⟩ := (show See K Z H _ (.dct []) from a2.see)
          have z1 : ks.zip vs' = [] := by
            have l := e5.length
            have : (ks.zip ds').length = 0 := by rw [← e2]; rfl
            rw [List.length_zip] at this
            exact List.length_eq_zero_iff.mp (by rw [List.length_zip]; omega)
          have z2 : ks2.zip vs2 = [] := by
            have l := f5.length
            have : (ks2.zip ds2).length = 0 := by rw [← f2]; rfl
            rw [List.length_zip] at this
            exact List.length_eq_zero_iff.mp (by rw [List.length_zip]; omega)
          rw [z1] at e4
          rw [z2] at f4
          exact .inr ⟨a, b, e1, f1, e4, f4⟩
theorem p2_neS {K : PySem.W.Frag} : P2 K (rNeS K) RNeS := by
  constructor
  rintro Z H v w dx dy d P sx sy ⟨ds, rfl, rfl, h, rfl⟩ q
  obtain ⟨a, vs, rfl, h1, r1⟩ := sx
  obtain ⟨b, ws, rfl, h2, r2⟩ := sy
  exact ⟨a, b, vs, ws, rfl, rfl, h1, h2, eqE_of h r1 r2, q _ (.bl _)⟩
end D

set_option Elab.async false
set_option linter.all false
set_option maxRecDepth 100000
set_option maxHeartbeats 4000000
namespace D
open PySem PySem.Spec PyProof.Rows L2
section
variable {K : PySem.W.Frag} {X : Wsh}
/-! ### texts: parts, starts, counts, slices -/
theorem rp_strs {Z : Zs} {H : Hp} : ∀ ys : List Str, RpAll K Z H (ys.map V.str) (ys.map Dt.str)
  | [] => .nil
  | y :: ys => .cons (.str y) (rp_strs ys)
def roSplit : Vl → ROs := fun x xs η Q => ∃ a y b, look η x = some (.str a) ∧ xs = [y] ∧ look η y = some (.str b) ∧ 0 < b.length ∧ a.length ≤ 90000 ∧ Q (.nw (.lst ((Txt.split a b).map .str))) η
theorem dm_split : DM K (fun x xs H Q => ∃ a b, x = .str a ∧ xs = [.str b] ∧ (b.length == 0) = false ∧ a.length + 2 ≤ sizeLine ∧ rNewStrs (Txt.split a b) H Q) roSplit := by
  constructor
  · rintro x xs η Q Q' hq ⟨a, y, b, e1, e2, e3, e4, e5, q⟩
    exact ⟨a, y, b, e1, e2, e3, e4, e5, hq _ _ q⟩
  rintro B Z H σ η τ x v xs vs P o ⟨a, y, b, e1, rfl, e3, e4, e5, q⟩
  have s1 := o.head.see e1
  cases (show v = .str a from s1)
  obtain ⟨w, rfl⟩ := ali1 o.tail.1
  have s2 := o.tail.see e3
  cases (show w = .str b from s2)
  refine ⟨a, b, rfl, rfl, by rw [beq_eq_false_iff_ne]; omega, by rw [sizeLine_eq]; omega, fun p hp => ?_⟩
  exact q _ _ _ (o.ok.newLst (rp_strs _) hp)
def roStr1 (f : Str → Str → Dt) : Vl → ROs := fun x xs η Q => ∃ a y b, look η x = some (.str a) ∧ xs = [y] ∧ look η y = some (.str b) ∧ Q (.d (f a b)) η
theorem dm_str1 {f : Str → Str → Dt} {g : Str → Str → V} (hfg : ∀ a b Z H, Rp K Z H (g a b) (f a b)) : DM K (fun x xs H Q => ∃ a b, x = .str a ∧ xs = [.str b] ∧ Q (g a b) H) (roStr1 f) := by
  constructor
  · rintro x xs η Q Q' hq ⟨a, y, b, e1, e2, e3, q⟩
    exact ⟨a, y, b, e1, e2, e3, hq _ _ q⟩
  rintro B Z H σ η τ x v xs vs P o ⟨a, y, b, e1, rfl, e3, q⟩
  have s1 := o.head.see e1
  cases (show v = .str a from s1)
  obtain ⟨w, rfl⟩ := ali1 o.tail.1
  have s2 := o.tail.see e3
  cases (show w = .str b from s2)
  exact ⟨a, b, rfl, rfl, q _ _ _ (.d o.ok (hfg a b Z H))⟩
theorem dm_startswith : DM K (fun x xs H Q => ∃ a b, x = .str a ∧ xs = [.str b] ∧ Q (.bl (Txt.startswith a b)) H) (roStr1 fun a b => .bl (Txt.startswith a b)) := dm_str1 (g := fun a b => .bl (Txt.startswith a b)) fun _ _ _ _ => .bl _
theorem dm_endswith : DM K (fun x xs H Q => ∃ a b, x = .str a ∧ xs = [.str b] ∧ Q (.bl (Txt.endswith a b)) H) (roStr1 fun a b => .bl (Txt.endswith a b)) := dm_str1 (g := fun a b => .bl (Txt.endswith a b)) fun _ _ _ _ => .bl _
theorem dm_count : DM K (fun x xs H Q => ∃ a b, x = .str a ∧ xs = [.str b] ∧ Q (.int (Txt.count a b)) H) (roStr1 fun a b => .int (Txt.count a b)) := dm_str1 (g := fun a b => .int (Txt.count a b)) fun _ _ _ _ => .int _
theorem dm_find : DM K (fun x xs H Q => ∃ a b, x = .str a ∧ xs = [.str b] ∧ Q (.int (Txt.find a b)) H) (roStr1 fun a b => .int (Txt.find a b)) := dm_str1 (g := fun a b => .int (Txt.find a b)) fun _ _ _ _ => .int _
def rSlSt (re : RE) (rl rh : Env → (Option Int → Env → Prop) → Prop) : RE := fun η Q => re η fun x η1 => rl η1 fun lo η2 => rh η2 fun hi η3 => ∃ z, look η3 x = some (.str z) ∧ z.length ≤ 100000 ∧ Q (.d (.str (cutS z lo hi))) η3
theorem de_slS {te : TE} {tl th : TO} {re : RE} {rl rh : Env → (Option Int → Env → Prop) → Prop} (he : DE K X te re) (hl : DO K X tl rl) (hh : DO K X th rh) : DE K X (tSl rSlS te tl th) (rSlSt re rl rh) := by
  refine ⟨fun η Q Q' hq q => he.mono _ _ _ (fun x η1 q => hl.mono _ _ _ (fun lo η2 q => hh.mono _ _ _ (fun hi η3 ⟨ds, e, l, q⟩ => ⟨ds, e, l, hq _ _ q⟩) q) q) q, ?_⟩
  intro B Z H σ η τ P lk o q
  refine he.run B Z H σ η τ _ lk o (he.mono _ _ _ (fun x η1 q Z1 H1 v1 o1 => ?_) q)
  refine hl.run B Z1 H1 σ η1 _ _ lk.app o1.2 (hl.mono _ _ _ (fun lo η2 q Z2 H2 o2 => ?_) q)
  refine hh.run B Z2 H2 σ η2 _ _ lk.app o2 (hh.mono _ _ _ (fun hi η3 q Z3 H3 o3 => ?_) q)
  obtain ⟨z, e, l, q⟩ := q
  have ov : OkV B K Z3 H3 σ η3 τ [x] [v1] := ⟨o1.1, o3⟩
  have s := ov.see e
  cases (show v1 = .str z from s)
  exact ⟨z, rfl, sz l, q _ _ _ (.d ov.ok (.str _))⟩
def rSlBy (re : RE) (rl rh : Env → (Option Int → Env → Prop) → Prop) : RE := fun η Q => re η fun x η1 => rl η1 fun lo η2 => rh η2 fun hi η3 => ∃ z, look η3 x = some (.byt z) ∧ z.size ≤ 100000 ∧ Q (.d (.byt (PySem.W.KBy.picked z lo hi))) η3
theorem de_slB {te : TE} {tl th : TO} {re : RE} {rl rh : Env → (Option Int → Env → Prop) → Prop} (he : DE K X te re) (hl : DO K X tl rl) (hh : DO K X th rh) : DE K X (tSl rSlB te tl th) (rSlBy re rl rh) := by
  refine ⟨fun η Q Q' hq q => he.mono _ _ _ (fun x η1 q => hl.mono _ _ _ (fun lo η2 q => hh.mono _ _ _ (fun hi η3 ⟨ds, e, l, q⟩ => ⟨ds, e, l, hq _ _ q⟩) q) q) q, ?_⟩
  intro B Z H σ η τ P lk o q
  refine he.run B Z H σ η τ _ lk o (he.mono _ _ _ (fun x η1 q Z1 H1 v1 o1 => ?_) q)
  refine hl.run B Z1 H1 σ η1 _ _ lk.app o1.2 (hl.mono _ _ _ (fun lo η2 q Z2 H2 o2 => ?_) q)
  refine hh.run B Z2 H2 σ η2 _ _ lk.app o2 (hh.mono _ _ _ (fun hi η3 q Z3 H3 o3 => ?_) q)
  obtain ⟨z, e, l, q⟩ := q
  have ov : OkV B K Z3 H3 σ η3 τ [x] [v1] := ⟨o1.1, o3⟩
  have s := ov.see e
  cases (show v1 = .byt z from s)
  exact ⟨z, rfl, by omega, q _ _ _ (.d ov.ok (.byt _))⟩
/-- e[::-1] of a list -/
def rRevL (re : RE) : RE := fun η Q => re η fun x η1 => ∃ ds, look η1 x = some (.lst ds) ∧ Q (.nw (.lst ds.reverse)) η1
theorem de_revL {te : TE} {re : RE} (he : DE K X te re) : DE K X (tRevL K te) (rRevL re) := by
  refine ⟨fun η Q Q' hq q => he.mono _ _ _ (fun x η1 ⟨ds, e, q⟩ => ⟨ds, e, hq _ _ q⟩) q, ?_⟩
  intro B Z H σ η τ P lk o q
  refine he.run B Z H σ η τ _ lk o (he.mono _ _ _ (fun x η1 q Z1 H1 v1 o1 => ?_) q)
  obtain ⟨ds, e, q⟩ := q
  obtain ⟨a, vs, rfl, hs, r⟩ := o1.see e
  exact ⟨a, vs, rfl, hs, fun p hp => q _ _ _ (o1.ok.newLst r.reverse hp)⟩
/-! ### by truth -/
def TruD : Dt → Bool → Prop
  | .non, k => k = false
  | .bl b, k => k = b
  | .int i, k => k = decide (i ≠ 0)
  | .str y, k => y.length ≤ 100000 ∧ k = decide (y.length ≠ 0)
  | .byt y, k => y.size ≤ 100000 ∧ k = decide (y.size ≠ 0)
  | .lst ds, k => k = !ds.isEmpty
  | .tup ds, k => k = !ds.isEmpty
  | _, _ => False
theorem see_tru {Z : Zs} {H : Hp} {v : V} {d : Dt} {k : Bool} (s : See K Z H v d) (t : TruD d k) : TruV K v H k := by
  cases d with
  | non => cases (show v = .non from s); exact t
  | bl b => cases (show v = .bl b from s); exact t
  | int i =>
    cases (show v = .int i from s)
    show k = (i != 0)
    rw [show k = decide (i ≠ 0) from t]
    by_cases h : i = 0 <;> simp [h]
  | str y =>
    cases (show v = .str y from s)
    refine ⟨sz t.1, ?_⟩
    rw [t.2]
    by_cases h : y.length = 0 <;> simp [h]
  | byt y =>
    cases (show v = .byt y from s)
    refine ⟨sz t.1, ?_⟩
    rw [t.2]
    by_cases h : y.size = 0 <;> simp [h]
  | lst ds =>
    obtain ⟨a, vs, rfl, hs, r⟩ := s
    refine .inl ⟨vs, hs, ?_⟩
    rw [show k = !ds.isEmpty from t]
    cases r <;> rfl
  | tup ds =>
    obtain ⟨a, vs, rfl, hs, r⟩ := s
    refine .inr (.inl ⟨vs, hs, ?_⟩)
    rw [show k = !ds.isEmpty from t]
    cases r <;> rfl
  | dct kvs => exact t.elim
  | ty n => exact t.elim
  | ins C fs => exact t.elim
  | ref a => exact t.elim
  | exn a d C fs => exact t.elim
def rOrT (ra rb : RE) : RE := fun η Q => ra η fun x η1 => ∃ d k, look η1 x = some d ∧ TruD d k ∧ if k = true then Q x η1 else rb η1 Q
def rAndT (ra rb : RE) : RE := fun η Q => ra η fun x η1 => ∃ d k, look η1 x = some d ∧ TruD d k ∧ if k = true then rb η1 Q else Q x η1
theorem de_orT {ta tb : TE} {ra rb : RE} (ha : DE K X ta ra) (hb : DE K X tb rb) : DE K X (tOrT K ta tb) (rOrT ra rb) := by
  constructor
  · intro η Q Q' hq q
    refine ha.mono _ _ _ ?_ q
    rintro x η1 ⟨d, k, e, t, q⟩
    refine ⟨d, k, e, t, ?_⟩
    cases k with
    | true => exact hq _ _ q
    | false => exact hb.mono _ _ _ hq q
  intro B Z H σ η τ P lk o q
  refine ha.run B Z H σ η τ _ lk o (ha.mono _ _ _ (fun x η1 q Z1 H1 v1 o1 => ?_) q)
  obtain ⟨d, k, e, t, q⟩ := q
  refine ⟨k, see_tru (o1.see e) t, ?_⟩
  cases k with
  | true => exact q Z1 H1 v1 o1
  | false => exact hb.run B Z1 H1 σ η1 τ P lk o1.ok q
theorem de_andT {ta tb : TE} {ra rb : RE} (ha : DE K X ta ra) (hb : DE K X tb rb) : DE K X (tAndT K ta tb) (rAndT ra rb) := by
  constructor
  · intro η Q Q' hq q
    refine ha.mono _ _ _ ?_ q
    rintro x η1 ⟨d, k, e, t, q⟩
    refine ⟨d, k, e, t, ?_⟩
    cases k with
    | false => exact hq _ _ q
    | true => exact hb.mono _ _ _ hq q
  intro B Z H σ η τ P lk o q
  refine ha.run B Z H σ η τ _ lk o (ha.mono _ _ _ (fun x η1 q Z1 H1 v1 o1 => ?_) q)
  obtain ⟨d, k, e, t, q⟩ := q
  refine ⟨k, see_tru (o1.see e) t, ?_⟩
  cases k with
  | false => exact q Z1 H1 v1 o1
  | true => exact hb.run B Z1 H1 σ η1 τ P lk o1.ok q
/-! ### while, with the step's end told -/
abbrev Wn (W : Nat → Env → Prop) (m : Nat) : Env → Prop := fun η' => ∃ m', m' < m ∧ W m' η'
def rWh (rc : RT) (rb : RS) : RS := fun D η => ∃ W : Nat → Env → Prop, ∃ m, W m η ∧ ∀ m η, W m η → rc η fun b η1 =>
  if b = true then rb { D with nx := Wn W m, ct := Wn W m, bk := D.nx } η1 else D.nx η1
theorem ds_wh {c : TT} {tb : TS} {rc : RT} {rb : RS} (hc : DT K X c rc) (hb : DS K X tb rb) : DS K X (tWhile c tb) (rWh rc rb) := by
  have h := ds_while hc hb
  constructor
  · rintro η D D' hd ⟨W, m, h0, h1⟩
    refine ⟨W, m, h0, fun m η w => hc.mono _ _ _ ?_ (h1 m η w)⟩
    rintro b η1 q
    cases b with
    | true => exact hb.mono _ { D with nx := Wn W m, ct := Wn W m, bk := D.nx } { D' with nx := Wn W m, ct := Wn W m, bk := D'.nx } ⟨fun _ h => h, hd.rt, hd.nx, fun _ h => h⟩ q
    | false => exact hd.nx _ q
  rintro B Z H σ η τ E lk o ⟨W, m, h0, h1⟩
  refine h.run B Z H σ η τ E lk o ⟨W, ⟨m, h0⟩, fun m η w => hc.mono _ _ _ ?_ (h1 m η w)⟩
  rintro b η1 q
  cases b with
  | true => exact ⟨_, fun _ h => h, q⟩
  | false => exact q
/-! ### name op= e -/
theorem ds_aug {i : Nat} {te : TE} {re : RE} {r : R2} {ro : RO2} (h : D2 K r ro) (he : DE K X te re) : DS K X (tAug i te r) (rAsg (rOp ro (rVar i) re) i) := ds_asg (de_op h (de_var i) he) i
end
end D

set_option Elab.async false
set_option linter.all false
set_option maxRecDepth 100000
set_option maxHeartbeats 4000000
namespace D
open PySem PySem.Spec PyProof.Rows L2
/-! ### writing at any of an entry's own addresses -/
section
variable {B : Base} {K : PySem.W.Frag} {Z Z' : Zs} {H H' : Hp} {σ : L2.St} {η : Env} {τ : List (V × En)}
theorem Ok.writeC {v : V} {b : Addr} {p : Option Nat} {c c' : Ct} {o : HO} (h : Ok B K Z H σ η ((v, .mu p c) :: τ)) (hc : ∀ F1, COk K Z H v F1 c → ¬ Z b → b ∈ F1 ∧ COk K Z (upd H b o) v F1 c') (nz : ¬ Z b) : Ok B K Z (upd H b o) σ η ((v, .mu p c') :: τ) := by
  obtain ⟨F, h0⟩ := id h
  obtain ⟨F', s, m⟩ := h0.sep.perm (l' := (v, .mu p c) :: (pack σ η ++ τ)) List.perm_middle
  obtain ⟨F1, F2, ⟨e4, e3⟩, s2, dis, eF⟩ := s
  obtain ⟨hb1, hc1⟩ := hc F1 e4 nz
  have hF : ∀ x, x ∈ F1 ++ F2 → x ∈ F := fun x hx => (m x).mp (by rw [eF]; exact hx)
  obtain ⟨la1, la2, la3⟩ := h0.live b (hF b (List.mem_append_left _ hb1))
  have oth : ∀ x, x ≠ b → upd H b o x = H x := fun x hx => upd_ne hx
  have hb : Bs B (upd H b o) := fun x u e n => by
    rw [oth x ?_]
    · exact h0.base x u e n
    · intro q
      subst q
      rcases la3 with q | q
      · rw [e] at q; cases q
      · exact n q
  have kn : ∀ x, H x ≠ none → upd H b o x ≠ none := fun x n => by
    by_cases q : x = b
    · subst q; rw [upd_same]; simp
    · rw [oth x q]; exact n
  have s3 : Sep B K Z (upd H b o) (pack σ η ++ τ) F2 := s2.mono h0.base hb (fun _ z => z) fun x u hz e => by
    rw [oth x ?_]
    · exact e
    · intro q
      subst q
      rcases hz with z | z
      · exact la1 z
      · exact dis x hb1 z
  obtain ⟨F3, s4, m4⟩ := Sep.perm (B := B) (K := K) (Z := Z) (H := upd H b o) (l := (v, .mu p c') :: (pack σ η ++ τ)) (l' := pack σ η ++ (v, .mu p c') :: τ) List.perm_middle.symm (F := F1 ++ F2) ⟨F1, F2, ⟨hc1, e3⟩, s3, dis, rfl⟩
  refine ⟨F3, h0.slots, s4, fun x hx => ?_, hb, fun x n => kn x (h0.there x n), h0.grow, h0.old, fun x z => kn x (h0.zl x z)⟩
  obtain ⟨l1, l2, l3⟩ := h0.live x (hF x ((m4 x).mp hx))
  exact ⟨l1, kn x l2, l3⟩
/-- an entry's own addresses are not frozen -/
theorem Ok.ownC {v : V} {p : Option Nat} {c : Ct} (h : Ok B K Z H σ η ((v, .mu p c) :: τ)) : ∃ F1, COk K Z H v F1 c ∧ ∀ b ∈ F1, ¬ Z b := by
  obtain ⟨F, h0⟩ := id h
  obtain ⟨F1, e1, e2⟩ := h0.sep.mem (p := (v, .mu p c)) (by simp)
  exact ⟨F1, e1.1, fun b hb => (h0.live b (e2 b hb)).1⟩
/-- an own thing becomes a part of another own thing -/
theorem Ok.join {v : V} {a : Addr} {q : Option Nat} {d e : Dt} {g : List (Addr × Dt)} {c : Ct} (hc : c = .hp e g ∨ (c = .dt e ∧ g = [])) (h : Ok B K Z H σ η ((v, .mu q c) :: (.ref a, .mu none (.dt d)) :: τ)) : Ok B K Z H σ η ((v, .mu q (.hp e ((a, d) :: g))) :: τ) := by
  obtain ⟨F, h0⟩ := id h
  obtain ⟨F', s, m⟩ := h0.sep.perm (l' := (v, .mu q c) :: (.ref a, .mu none (.dt d)) :: (pack σ η ++ τ)) (List.perm_middle.trans (List.perm_middle.cons _))
  obtain ⟨F1, F2, ⟨e4, e3⟩, ⟨F3, F4, ⟨⟨a', g1, g2, g4⟩, g3⟩, s2, dis2, eF2⟩, dis, eF⟩ := s
  cases g1
  subst g2
  have hx : ∃ a0, v = .ref a0 ∧ F1 = a0 :: g.map (·.1) ∧ F1.Nodup ∧ OwnAt K Z H a0 e ∧ ∀ q ∈ g, OwnAt K Z H q.1 q.2 := by
    rcases hc with rfl | ⟨rfl, rfl⟩
    · exact e4
    · obtain ⟨a0, z1, z2, z3⟩ := e4
      exact ⟨a0, z1, z2, by rw [z2]; simp, z3, by simp⟩
  obtain ⟨a0, z1, z2, z3, z4, z5⟩ := hx
  have hn : a ∉ F1 := fun hm => dis a hm (by rw [eF2]; simp)
  have hN : (a0 :: a :: g.map (·.1)).Nodup := by
    rw [z2] at z3 hn
    have h1 := List.nodup_cons.mp z3
    have h2 : a0 ≠ a := fun e => hn (by rw [e]; exact List.mem_cons_self ..)
    have h3 : a ∉ g.map (·.1) := fun e => hn (List.mem_cons_of_mem _ e)
    refine List.nodup_cons.mpr ⟨fun hm => ?_, List.nodup_cons.mpr ⟨h3, h1.2⟩⟩
    rcases List.mem_cons.mp hm with e | e
    · exact h2 e
    · exact h1.1 e
  obtain ⟨F5, s4, m4⟩ := Sep.perm (B := B) (K := K) (Z := Z) (H := H) (l := (v, .mu q (.hp e ((a, d) :: g))) :: (pack σ η ++ τ)) (l' := pack σ η ++ (v, .mu q (.hp e ((a, d) :: g))) :: τ) List.perm_middle.symm (F := (a0 :: a :: g.map (·.1)) ++ F4)
    ⟨_, F4, ⟨⟨a0, z1, rfl, hN, z4, fun q hq => by
      rcases List.mem_cons.mp hq with rfl | hq
      · exact g4
      · exact z5 q hq⟩, e3⟩, s2, fun b hb hb' => by
        rcases List.mem_cons.mp hb with rfl | hb
        · exact dis b (by rw [z2]; simp) (by rw [eF2]; simp [hb'])
        · rcases List.mem_cons.mp hb with rfl | hb
          · exact dis2 b (by simp) hb'
          · exact dis b (by rw [z2]; simp [hb]) (by rw [eF2]; simp [hb']), rfl⟩
  refine ⟨F5, h0.slots, s4, fun b hb => h0.live b ((m b).mp ?_), h0.base, h0.there, h0.grow, h0.old, h0.zl⟩
  have := (m4 b).mp hb
  rw [eF, eF2, z2]
  simp only [List.mem_append, List.mem_cons] at this ⊢
  rcases this with (h | h | h) | h
  · exact .inl (.inl h)
  · exact .inr (.inl (.inl h))
  · exact .inl (.inr h)
  · exact .inr (.inr h)
/-! ### what may be written: a slot's own thing, or one within it -/
def own (η : Env) : Vl → Option Dt
  | .sl i => match η[i]? with
    | some (some (.mu _ (.dt d))) => some d
    | some (some (.mu _ (.hp d _))) => some d
    | _ => none
  | .gh i p => look η (.gh i p)
  | _ => none
def gput (p : Addr) (d : Dt) : List (Addr × Dt) → List (Addr × Dt)
  | [] => []
  | (q, x) :: r => if q = p then (q, d) :: r else (q, x) :: gput p d r
def wr (η : Env) (x : Vl) (d : Dt) : Env := match x with
  | .sl i => match η[i]? with
    | some (some (.mu q (.dt _))) => η.set i (some (.mu q (.dt d)))
    | some (some (.mu q (.hp _ g))) => η.set i (some (.mu q (.hp d g)))
    | _ => η
  | .gh i p => match η[i]? with
    | some (some (.mu q (.hp e g))) => η.set i (some (.mu q (.hp e (gput p d g))))
    | _ => η
  | _ => η
theorem gput_keys (p : Addr) (d : Dt) : ∀ g : List (Addr × Dt), (gput p d g).map (·.1) = g.map (·.1)
  | [] => rfl
  | (q, x) :: r => by
    unfold gput
    split
    · rfl
    · rw [List.map_cons, gput_keys p d r]; rfl
theorem gput_mem {p : Addr} {d : Dt} {q : Addr × Dt} : ∀ {g : List (Addr × Dt)}, (g.map (·.1)).Nodup → q ∈ gput p d g → q = (p, d) ∨ (q ∈ g ∧ q.1 ≠ p)
  | [], _, h => nomatch h
  | (r, x) :: t, hn, h => by
    obtain ⟨n1, n2⟩ := List.nodup_cons.mp hn
    unfold gput at h
    split at h
    · rename_i e
      subst e
      rcases List.mem_cons.mp h with rfl | h
      · exact .inl rfl
      · refine .inr ⟨List.mem_cons_of_mem _ h, fun e => n1 ?_⟩
        rw [← e]
        exact List.mem_map.mpr ⟨q, h, rfl⟩
    · rename_i e
      rcases List.mem_cons.mp h with rfl | h
      · exact .inr ⟨List.mem_cons_self .., e⟩
      · rcases gput_mem n2 h with h | ⟨h, h'⟩
        · exact .inl h
        · exact .inr ⟨List.mem_cons_of_mem _ h, h'⟩
theorem OwnAt.far {a b : Addr} {o : HO} {d : Dt} (h : OwnAt K Z H a d) (ne : a ≠ b) (nz : ¬ Z b) : OwnAt K Z (upd H b o) a d :=
  h.mono (fun _ z => z) fun x u z e => by
    rw [upd_ne ?_]
    · exact e
    · rintro rfl
      rcases z with z | z
      · exact nz z
      · exact ne z.symm
/-- the writing of what may be written -/
theorem OkV.write {x : Vl} {v : V} {d : Dt} (h : OkV B K Z H σ η τ [x] [v]) (e : own η x = some d) : ∃ a, v = .ref a ∧ ¬ Z a ∧ OwnAt K Z H a d ∧ ∀ o d', OwnAt K Z (upd H a o) a d' → Ok B K Z (upd H a o) σ (wr η x d') τ := by
  cases x with
  | d y => cases e
  | nw y => cases e
  | nc c => cases e
  | sl i =>
    obtain ⟨al, o0⟩ := h
    have o0 : Ok B K Z H σ η τ := o0
    unfold own at e
    simp only at e
    split at e
    · rename_i q y hi
      cases e
      obtain ⟨w, hw, o1⟩ := o0.take hi
      rw [al.1] at hw; cases hw
      obtain ⟨F1, ⟨a, rfl, rfl, ow⟩, nz⟩ := o1.ownC
      refine ⟨a, rfl, nz a (by simp), ow, fun o d' od => ?_⟩
      have o2 := o1.writeC (b := a) (o := o) (c' := .dt d') (fun F1 ⟨a', e1, e2, e3⟩ _ => by
        cases e1
        exact ⟨by rw [e2]; simp, a, rfl, e2, od⟩) (nz a (by simp))
      have hlt : i < η.length := (List.getElem?_eq_some_iff.mp hi).1
      have := o2.put hlt al.1
      unfold wr
      simp only [hi]
      exact this
    · rename_i q y g hi
      cases e
      obtain ⟨w, hw, o1⟩ := o0.take hi
      rw [al.1] at hw; cases hw
      obtain ⟨F1, ⟨a, rfl, rfl, nd, ow, hg⟩, nz⟩ := o1.ownC
      have nza := nz a (by simp)
      refine ⟨a, rfl, nza, ow, fun o d' od => ?_⟩
      have o2 := o1.writeC (b := a) (o := o) (c' := .hp d' g) (fun F1 ⟨a', e1, e2, e3, e4, e5⟩ _ => by
        cases e1
        refine ⟨by rw [e2]; simp, a, rfl, e2, e3, od, fun z hz => (e5 z hz).far ?_ nza⟩
        rw [e2] at e3
        intro ez
        exact (List.nodup_cons.mp e3).1 (ez ▸ List.mem_map.mpr ⟨z, hz, rfl⟩)) nza
      have hlt : i < η.length := (List.getElem?_eq_some_iff.mp hi).1
      have := o2.put hlt al.1
      unfold wr
      simp only [hi]
      exact this
    · cases e
  | gh i p =>
    obtain ⟨al, o0⟩ := h
    have o0 : Ok B K Z H σ η τ := o0
    have e : look η (.gh i p) = some d := e
    obtain ⟨q, y, g, hi, hp⟩ := look_gh e
    obtain ⟨w, hw, o1⟩ := o0.take hi
    obtain ⟨F1, ⟨a, rfl, rfl, nd, ow, hg⟩, nz⟩ := o1.ownC
    have hm := gfind_mem hp
    have hpm : p ∈ g.map (·.1) := List.mem_map.mpr ⟨_, hm, rfl⟩
    have nzp := nz p (List.mem_cons_of_mem _ hpm)
    refine ⟨p, al.1, nzp, hg _ hm, fun o d' od => ?_⟩
    have o2 := o1.writeC (b := p) (o := o) (c' := .hp y (gput p d' g)) (fun F1 ⟨a', e1, e2, e3, e4, e5⟩ _ => by
      cases e1
      have e3' := e3
      rw [e2] at e3'
      obtain ⟨n1, n2⟩ := List.nodup_cons.mp e3'
      refine ⟨by rw [e2]; exact List.mem_cons_of_mem _ hpm, a, rfl, by rw [gput_keys]; exact e2, e3, e4.far (fun z => n1 (z ▸ hpm)) nzp, fun z hz => ?_⟩
      rcases gput_mem n2 hz with rfl | ⟨hz, hne⟩
      · exact od
      · exact (e5 z hz).far hne nzp) nzp
    have hlt : i < η.length := (List.getElem?_eq_some_iff.mp hi).1
    have := o2.put hlt hw
    unfold wr
    simp only [hi]
    exact this
end
end D

set_option Elab.async false
set_option linter.all false
set_option maxRecDepth 100000
set_option maxHeartbeats 4000000
namespace D
open PySem PySem.Spec PyProof.Rows L2
section
variable {K : PySem.W.Frag} {X : Wsh}
/-! ### fields that hold a thing of their own -/
/-- e.f, a thing within -/
def rFldG (K : PySem.W.Frag) (re : RE) (f : Str) : RE := fun η Q => re η fun x η1 => ∃ i C fs p, (x = .sl i ∨ ∃ q, x = .gh i q) ∧ look η1 x = some (.ins C fs) ∧ Cls K C ∧ NoAttr K C f ∧ fs.lookup f = some (.ref p) ∧ (look η1 (.gh i p)).isSome = true ∧ Q (.gh i p) η1
theorem de_fldG {te : TE} {re : RE} {f : Str} (he : DE K X te re) : DE K X (tFld K te f) (rFldG K re f) := by
  constructor
  · intro η Q Q' hq q
    refine he.mono _ _ _ ?_ q
    rintro x η1 ⟨i, C, fs, p, e0, e1, e2, e3, e4, e5, q⟩
    exact ⟨i, C, fs, p, e0, e1, e2, e3, e4, e5, hq _ _ q⟩
  intro B Z H σ η τ P lk o q
  refine he.run B Z H σ η τ _ lk o (he.mono _ _ _ ?_ q)
  rintro x η1 ⟨i, C, fs, p, e0, e1, e2, e3, e4, e5, q⟩ Z1 H1 v o1
  obtain ⟨a, dx, ns, vs, ds, rfl, rfl, l, h, r⟩ := see_ins (o1.see e1)
  obtain ⟨u, h1, h2⟩ := r.lookup l e4
  refine ⟨a, C, dx, _, u, rfl, h, e2, e3, h1, q Z1 H1 u ⟨⟨?_, trivial⟩, o1.ok⟩⟩
  cases h2
  rfl
/-- o.f = e, e made here: from now on a part of o -/
def rSetFG (K : PySem.W.Frag) (ro re : RE) (f : Str) : RS := fun D η => re η fun y η1 => ro η1 fun x η2 => ∃ k q C fs g d c, y = .nw d ∧ x = .sl k ∧ (c = .hp (.ins C fs) g ∨ (c = .dt (.ins C fs) ∧ g = [])) ∧ η2[k]? = some (some (.mu q c)) ∧ Cls K C ∧ NoAttr K C f ∧ fs.length < 1000 ∧
  ∀ p, D.nx (η2.set k (some (.mu q (.hp (.ins C (putD f (.ref p) fs)) ((p, d) :: g)))))
theorem ds_setFG {to te : TE} {ro re : RE} {f : Str} (ho : DE K X to ro) (he : DE K X te re) : DS K X (sFld K to te f) (rSetFG K ro re f) := by
  constructor
  · intro η D D' hd q
    refine he.mono _ _ _ (fun y η1 q => ho.mono _ _ _ ?_ q) q
    rintro x η2 ⟨k, q, C, fs, g, d, c, e1, e2, e3, e4, e5, e6, e7, q⟩
    exact ⟨k, _, C, fs, g, d, c, e1, e2, e3, e4, e5, e6, e7, fun p => hd.nx _ (q p)⟩
  intro B Z H σ η τ E lk o q
  refine he.run B Z H σ η τ _ lk o (he.mono _ _ _ (fun y η1 q Z1 H1 v1 o1 => ?_) q)
  refine ho.run B Z1 H1 σ η1 _ _ lk.app o1.2 (ho.mono _ _ _ ?_ q)
  rintro x η2 ⟨k, qq, C, fs, g, d, c, rfl, rfl, e3, e4, e5, e6, e7, hq⟩ Z2 H2 v2 o2
  have al : σ[k]? = some (some v2) := o2.1.1
  have o3 : Ok B K Z2 H2 σ η2 ((v1, .mu none (.dt d)) :: τ) := o2.2
  obtain ⟨w, hw, o5⟩ := o3.take e4
  rw [al] at hw; cases hw
  obtain ⟨F1, ⟨p, ep, _, _⟩, _⟩ := (o5.perm (.swap _ _ _)).ownC
  subst ep
  have hlt : k < η2.length := (List.getElem?_eq_some_iff.mp e4).1
  have o6 := (o5.join (e := .ins C fs) (g := g) e3).put hlt al
  have o7 : OkV B K Z2 H2 σ (η2.set k (some (.mu qq (.hp (.ins C fs) ((p, d) :: g))))) τ [.sl k] [v2] := ⟨⟨al, trivial⟩, o6⟩
  have hk : (η2.set k (some (.mu qq (.hp (.ins C fs) ((p, d) :: g)))))[k]? = some (some (.mu qq (.hp (.ins C fs) ((p, d) :: g)))) := List.getElem?_set_self hlt
  obtain ⟨a, rfl, nz, ow, up⟩ := o7.write (d := .ins C fs) (by unfold own; simp only [hk])
  obtain ⟨dx, ns, vs, ds, rfl, l, hH, r⟩ := ow
  obtain ⟨ns', vs', ds', g1, g2, g3, g4⟩ := putF_zip (f := f) (Rp.ref (K := K) (Z := Z2) (H := H2) p) l r
  have hlen : (ns.zip vs).length < 1000 := by
    have h := e7
    rw [List.length_zip] at h ⊢
    have := r.length
    omega
  have o8 := up (.ins C dx (putF f (.ref p) (ns.zip vs))) (.ins C (putD f (.ref p) (ns.zip ds))) ⟨dx, ns', vs', ds', g2, g3, by rw [upd_same, g1], g4.write nz⟩
  have ew : wr (η2.set k (some (.mu qq (.hp (.ins C (ns.zip ds)) ((p, d) :: g))))) (.sl k) (.ins C (putD f (.ref p) (ns.zip ds))) = η2.set k (some (.mu qq (.hp (.ins C (putD f (.ref p) (ns.zip ds))) ((p, d) :: g)))) := by
    unfold wr
    simp only [hk, List.set_set]
  rw [ew] at o8
  exact ⟨a, C, dx, _, rfl, hH, e5, e6, hlen, hq p _ _ _ o8⟩
/-! ### dicts -/
def keyD : Dt → Option Key
  | .int i => some (.inl i)
  | .str s => some (.inr s)
  | _ => none
def keyDt : Key → Dt
  | .inl i => .int i
  | .inr s => .str s
theorem see_key {Z : Zs} {H : Hp} {v : V} {d : Dt} {k : Key} (s : See K Z H v d) (e : keyD d = some k) : v = kV k := by
  cases d <;> first | (cases e; exact s) | cases e
theorem rp_key {Z : Zs} {H : Hp} (k : Key) : Rp K Z H (kV k) (keyDt k) := by
  cases k with
  | inl i => exact .int i
  | inr s => exact .str s
def dget (kvs : List (Key × Dt)) (k : Key) : Option Dt := (kvs.find? fun kv => decide (kv.1 = k)).map (·.2)
def dput (kvs : List (Key × Dt)) (k : Key) (d : Dt) : List (Key × Dt) :=
  if (kvs.any fun kv => decide (kv.1 = k)) = true then kvs.map (fun kv => if kv.1 = k then (kv.1, d) else kv) else kvs ++ [(k, d)]
theorem dget_zip {Z : Zs} {H : Hp} {k : Key} : ∀ {ks : List Key} {vs : List V} {ds : List Dt}, ks.length = vs.length → RpAll K Z H vs ds → (∀ d, dget (ks.zip ds) k = some d → ∃ u, valV (ks.zip vs) k = some u ∧ Rp K Z H u d) ∧ (valV (ks.zip vs) k).isSome = (dget (ks.zip ds) k).isSome
  | [], vs, ds, _, _ => ⟨fun _ h => (nomatch h), rfl⟩
  | q :: ks, [], ds, h, _ => by simp at h
  | q :: ks, v :: vs, ds, h, r => by
    cases r with
    | @cons _ _ d0 ds r0 r =>
      obtain ⟨i1, i2⟩ := dget_zip (k := k) (ks := ks) (by simpa using h) r
      simp only [List.zip_cons_cons]
      by_cases e : q = k
      · refine ⟨fun d hd => ?_, ?_⟩
        · have : d0 = d := by simpa [dget, List.find?_cons, e] using hd
          subst this
          exact ⟨v, valV_pos (p := (q, v)) e, r0⟩
        · rw [valV_pos (p := (q, v)) e]
          simp [dget, List.find?_cons, e]
      · have e1 : dget ((q, d0) :: ks.zip ds) k = dget (ks.zip ds) k := by simp [dget, List.find?_cons, e]
        rw [e1, valV_neg (p := (q, v)) e]
        exact ⟨i1, i2⟩
theorem any_zip {α β : Type} {p : Key → Bool} : ∀ {ks : List Key} {vs : List α} {ds : List β}, ks.length = vs.length → vs.length = ds.length → ((ks.zip vs).any fun kv => p kv.1) = ((ks.zip ds).any fun kv => p kv.1)
  | [], _, _, _, _ => rfl
  | k :: ks, [], _, h, _ => by simp at h
  | k :: ks, v :: vs, [], _, h => by simp at h
  | k :: ks, v :: vs, d :: ds, h, h' => by
    simp only [List.zip_cons_cons, List.any_cons]
    rw [any_zip (ks := ks) (vs := vs) (ds := ds) (by simpa using h) (by simpa using h')]
theorem dput_zip {Z : Zs} {H : Hp} {k : Key} {y : V} {d : Dt} (ry : Rp K Z H y d) {ks : List Key} {vs : List V} {ds : List Dt} (h : ks.length = vs.length) (r : RpAll K Z H vs ds) :
    ∃ (ks' : List Key) (vs' : List V) (ds' : List Dt), putK (ks.zip vs) k y = ks'.zip vs' ∧ dput (ks.zip ds) k d = ks'.zip ds' ∧ ks'.length = vs'.length ∧ RpAll K Z H vs' ds' := by
  unfold putK dput
  rw [any_zip (p := fun q => decide (q = k)) h r.length]
  split
  · have key : ∀ {ks : List Key} {vs : List V} {ds : List Dt}, ks.length = vs.length → RpAll K Z H vs ds → ∃ (vs' : List V) (ds' : List Dt), (ks.zip vs).map (fun kv => if kv.1 = k then (kv.1, y) else kv) = ks.zip vs' ∧ (ks.zip ds).map (fun kv => if kv.1 = k then (kv.1, d) else kv) = ks.zip ds' ∧ ks.length = vs'.length ∧ RpAll K Z H vs' ds' := by
      intro ks
      induction ks with
      | nil =>
        intro vs ds h r
        cases r with
        | nil => exact ⟨[], [], rfl, rfl, rfl, .nil⟩
        | cons _ _ => simp at h
      | cons q ks ih =>
        intro vs ds h r
        cases r with
        | nil => simp at h
        | @cons v vs d0 ds r0 r =>
          obtain ⟨vs', ds', e1, e2, e3, e4⟩ := ih (by simpa using h) r
          by_cases e : q = k
          · exact ⟨y :: vs', d :: ds', by simp [e, e1], by simp [e, e2], by simpa using e3, .cons ry e4⟩
          · exact ⟨v :: vs', d0 :: ds', by simp [e, e1], by simp [e, e2], by simpa using e3, .cons r0 e4⟩
    obtain ⟨vs', ds', e1, e2, e3, e4⟩ := key h r
    exact ⟨ks, vs', ds', e1, e2, e3, e4⟩
  · refine ⟨ks ++ [k], vs ++ [y], ds ++ [d], ?_, ?_, by simp [h], r.append (.cons ry .nil)⟩
    · rw [List.zip_append h]; rfl
    · rw [List.zip_append (h.trans r.length)]; rfl
theorem see_dct {Z : Zs} {H : Hp} {v : V} {kvs : List (Key × Dt)} (s : See K Z H v (.dct kvs)) : ∃ (a : Addr) (ks : List Key) (vs : List V) (ds : List Dt), v = .ref a ∧ kvs = ks.zip ds ∧ ks.length = vs.length ∧ Rd H a (.dK (ks.zip vs)) ∧ RpAll K Z H vs ds := s
/-- d[y] -/
def rDGet (rd ry : RE) : RE := fun η Q => rd η fun x η1 => ry η1 fun y η2 => ∃ kvs dy k d, look η2 x = some (.dct kvs) ∧ look η2 y = some dy ∧ keyD dy = some k ∧ dget kvs k = some d ∧ Q (.d d) η2
theorem de_dget {td ty : TE} {rd ry : RE} (hd : DE K X td rd) (hy : DE K X ty ry) : DE K X (tDGet td ty) (rDGet rd ry) := by
  constructor
  · intro η Q Q' hq q
    refine hd.mono _ _ _ (fun x η1 q => hy.mono _ _ _ ?_ q) q
    rintro y η2 ⟨kvs, dy, k, d, e1, e2, e3, e4, q⟩
    exact ⟨kvs, dy, k, d, e1, e2, e3, e4, hq _ _ q⟩
  intro B Z H σ η τ P lk o q
  refine hd.run B Z H σ η τ _ lk o (hd.mono _ _ _ (fun x η1 q Z1 H1 v1 o1 => ?_) q)
  refine hy.run B Z1 H1 σ η1 _ _ lk.app o1.2 (hy.mono _ _ _ ?_ q)
  rintro y η2 ⟨kvs, dy, k, d, e1, e2, e3, e4, q⟩ Z2 H2 v2 o2
  have o3 : OkV B K Z2 H2 σ η2 τ [x, y] [v1, v2] := OkV.cons o1.1 o2
  obtain ⟨s1, s2⟩ := o3.see2 e1 e2
  obtain ⟨a, ks, vs, ds, rfl, rfl, l, hH, r⟩ := see_dct s1
  obtain ⟨u, h1, h2⟩ := (dget_zip l r).1 d e4
  exact ⟨a, u, rfl, .inl ⟨_, k, hH, see_key s2 e3, h1.symm⟩, q Z2 H2 u (.d o3.ok h2)⟩
/-- y in d, y not in d -/
def rDIn (f : Bool → Bool) (ry rd : RE) : RE := fun η Q => ry η fun y η1 => rd η1 fun x η2 => ∃ kvs dy k, look η2 x = some (.dct kvs) ∧ look η2 y = some dy ∧ keyD dy = some k ∧ Q (.d (.bl (f (dget kvs k).isSome))) η2
theorem de_dinF {f : Bool → Bool} {t : TE} {ty td : TE} {ry rd : RE} (ht : t = fun σ H Q => ty σ H fun y H1 => td σ H1 fun x H2 => ∃ a o, x = .ref a ∧ DGet H2 a y o ∧ Q (.bl (f o.isSome)) H2) (hy : DE K X ty ry) (hd : DE K X td rd) : DE K X t (rDIn f ry rd) := by
  subst ht
  constructor
  · intro η Q Q' hq q
    refine hy.mono _ _ _ (fun x η1 q => hd.mono _ _ _ ?_ q) q
    rintro y η2 ⟨kvs, dy, k, e1, e2, e3, q⟩
    exact ⟨kvs, dy, k, e1, e2, e3, hq _ _ q⟩
  intro B Z H σ η τ P lk o q
  refine hy.run B Z H σ η τ _ lk o (hy.mono _ _ _ (fun y η1 q Z1 H1 v1 o1 => ?_) q)
  refine hd.run B Z1 H1 σ η1 _ _ lk.app o1.2 (hd.mono _ _ _ ?_ q)
  rintro x η2 ⟨kvs, dy, k, e1, e2, e3, q⟩ Z2 H2 v2 o2
  have o3 : OkV B K Z2 H2 σ η2 τ [y, x] [v1, v2] := OkV.cons o1.1 o2
  obtain ⟨s2, s1⟩ := o3.see2 e2 e1
  obtain ⟨a, ks, vs, ds, rfl, rfl, l, hH, r⟩ := see_dct s1
  refine ⟨a, _, rfl, .inl ⟨_, k, hH, see_key s2 e3, rfl⟩, ?_⟩
  rw [(dget_zip l r).2]
  exact q Z2 H2 _ (.d o3.ok (.bl _))
theorem de_din {ty td : TE} {ry rd : RE} (hy : DE K X ty ry) (hd : DE K X td rd) : DE K X (tDIn ty td) (rDIn id ry rd) := de_dinF rfl hy hd
theorem de_dnotin {ty td : TE} {ry rd : RE} (hy : DE K X ty ry) (hd : DE K X td rd) : DE K X (tDNotIn ty td) (rDIn not ry rd) := de_dinF rfl hy hd
/-- d[y] = e -/
def rDPut (rd ry rv : RE) : RS := fun D η => rv η fun z η1 => rd η1 fun x η2 => ry η2 fun y η3 => ∃ kvs dy k d, own η3 x = some (.dct kvs) ∧ look η3 y = some dy ∧ keyD dy = some k ∧ frz η3 z = some d ∧ kvs.length < 100000 ∧ D.nx (wr η3 x (.dct (dput kvs k d)))
theorem ds_dput {td ty tv : TE} {rd ry rv : RE} (hd : DE K X td rd) (hy : DE K X ty ry) (hv : DE K X tv rv) : DS K X (sDPut td ty tv) (rDPut rd ry rv) := by
  constructor
  · intro η D D' hD q
    refine hv.mono _ _ _ (fun z η1 q => hd.mono _ _ _ (fun x η2 q => hy.mono _ _ _ ?_ q) q) q
    rintro y η3 ⟨kvs, dy, k, d, e1, e2, e3, e4, e5, q⟩
    exact ⟨kvs, dy, k, d, e1, e2, e3, e4, e5, hD.nx _ q⟩
  intro B Z H σ η τ E lk o q
  refine hv.run B Z H σ η τ _ lk o (hv.mono _ _ _ (fun z η1 q Z1 H1 v1 o1 => ?_) q)
  refine hd.run B Z1 H1 σ η1 _ _ lk.app o1.2 (hd.mono _ _ _ (fun x η2 q Z2 H2 v2 o2 => ?_) q)
  refine hy.run B Z2 H2 σ η2 _ _ lk.app.app o2.2 (hy.mono _ _ _ ?_ q)
  rintro y η3 ⟨kvs, dy, k, d, e1, e2, e3, e4, e5, q⟩ Z3 H3 v3 o3
  have o4 : OkV B K Z3 H3 σ η3 (tmp [z] [v1] ++ τ) [x, y] [v2, v3] := OkV.cons o2.1 o3
  have o5 : OkV B K Z3 H3 σ η3 τ [z, x, y] [v1, v2, v3] := OkV.cons o1.1 o4
  have s2 := o5.tail.tail.see e2
  have o6 : OkV B K Z3 H3 σ η3 (tmp [x] [v2] ++ τ) [z] [v1] := by
    have := o5.head
    refine ⟨this.1, ?_⟩
    have h : Ok B K Z3 H3 σ η3 (tmp [y] [v3] ++ (tmp [x] [v2] ++ (tmp [z] [v1] ++ τ))) := by
      refine this.2.perm ?_
      have e : tmp [x, y] [v2, v3] = tmp [x] [v2] ++ tmp [y] [v3] := by cases x <;> cases y <;> rfl
      rw [e, List.append_assoc]
      exact (pm3 (a := tmp [z] [v1])).trans ((List.Perm.append_left _ pm3).trans pm3)
    exact (h.drops).perm pm3
  obtain ⟨Z4, z4, o7⟩ := o6.frz e4
  have rv := o7.rp
  have ne : ∀ w, tmp [x] [w] = [] := fun w => by
    cases x with
    | d _ => cases e1
    | nw _ => cases e1
    | nc _ => cases e1
    | sl _ => rfl
    | gh _ _ => rfl
  have o8 : OkV B K Z4 H3 σ η3 τ [x] [v2] := by
    refine ⟨o5.tail.head.1, ?_⟩
    have := o7.drop
    rw [ne] at this ⊢
    exact this
  obtain ⟨a, rfl, nz, ow, up⟩ := o8.write e1
  obtain ⟨ks, vs, ds, rfl, l, hH, r⟩ := ow
  obtain ⟨ks', vs', ds', g1, g2, g3, g4⟩ := dput_zip (k := k) rv l r
  have hz : (ks.zip vs).length < sizeLine := by
    rw [List.length_zip] at e5 ⊢
    have := r.length
    have := szl (n := min ks.length vs.length) (by omega)
    exact this
  have o9 := up (.dK (putK (ks.zip vs) k v1)) (.dct (dput (ks.zip ds) k d)) ⟨ks', vs', ds', g2, g3, by rw [upd_same, g1], g4.write nz⟩
  exact ⟨a, _, rfl, .inl ⟨_, k, hH, see_key s2 e3, hz, rfl⟩, q _ _ _ o9⟩
end
end D

set_option Elab.async false
set_option linter.all false
set_option maxRecDepth 100000
set_option maxHeartbeats 4000000
namespace D
open PySem PySem.Spec PyProof.Rows L2
/-! ### *a, b = a list -/
theorem star_items {prog : Program} {w : World} {A : Around} {E : Value → Shared → Prop} {s : Shared} {l : Addr} {items : Array Value} {Q : List Value → Shared → Prop} (hl : s.heap.IsList l items) (hh : A.handled = none) (hn : 1 ≤ items.size) (hz : items.size ≤ 16384)
    (h : ∀ (h' : Heap) (tk : Nat), (∀ b o, s.heap.get? b = some o → h'.get? b = some o) → Q ((.ref h'.objs.size) :: items.toList.drop (items.size - 1)) { s with heap := h'.push { cls := .type "list", data := .seq (items.toList.take (items.size - 1)).toArray }, toks := tk }) : wpAny (model prog w) A (unpackItems (.ref l) 2 (some 0)) Q E s := by
  have hlt : l ≠ s.heap.objs.size := by obtain ⟨o, ho, _⟩ := hl; exact Nat.ne_of_lt (Heap.lt_size ho)
  unfold unpackItems
  refine wpAny_bind ?_
  unfold notIterableAtAll
  refine wpAny_bind (wpAny_specialOf hl.typeIs slot_list_iter.lookup ?_)
  refine wpAny_pure ?_
  simp only [Bool.false_eq_true, if_false]
  refine wpAny_bind (wpAny_holding (wpAny_pyIter_list hl ?_))
  refine wpAny_bind (wpAny_holding (PySem.W.kun_draw hlt 0 0 _ _ ⟨_, Heap.get?_push_size _ rfl, rfl, rfl⟩ (hl.push _) (by omega) fun h₁ hit₁ hs₁ => ?_))
  have hl₁ : h₁.IsList l items := (hl.push _).extBut hs₁.extBut hlt
  rw [Nat.zero_add] at hit₁
  have hit₁' := hit₁
  obtain ⟨oi, hoi, _⟩ := hit₁'
  have hl₁' := hl₁
  obtain ⟨ol, hol, _⟩ := hl₁'
  rw [if_neg (show ¬ ((List.take 0 (List.drop 0 items.toList)).length < 0) by omega)]
  refine wpAny_bind (wpAny_holding (PySem.W.kun_collect (s := { s with heap := h₁ }) (T := "list_iterator") (.inr (.inr (.inl rfl))) (Walks.list (A := A.in1) hh s.heap.objs.size l hlt items) (fun j u st => st.1.typeIs) (k := 0) (by omega) ⟨hit₁, hl₁⟩ (Heap.lt_size hoi) (Heap.lt_size hol) (fun h₂ tk hk => ?_) (by rw [sizeLine_eq]; omega)))
  rw [List.drop_zero]
  have hrl : items.toList.length = items.size := Array.length_toList
  show wpAny _ _ (if items.toList.length < 2 - 1 - 0 then _ else _) _ _ _
  rw [if_neg (by rw [hrl]; omega)]
  show wpAny _ _ (newList (items.toList.take (items.toList.length - (2 - 1 - 0))) >>= fun d => pure (List.take 0 items.toList ++ [d] ++ items.toList.drop (items.toList.length - (2 - 1 - 0)))) _ _ _
  rw [hrl]
  have he : ∀ b o, s.heap.get? b = some o → h₂.get? b = some o := fun b o e => by
    have hb : b ≠ s.heap.objs.size := Nat.ne_of_lt (Heap.lt_size e)
    exact hk b o hb (hs₁.extBut b o hb (Heap.get?_push_of_some _ e))
  refine wpAny_bind (wpAny_newList ?_)
  refine wpAny_pure ?_
  exact h h₂ tk he
def gStar (K : PySem.W.Frag) (t : TGs) : TG := fun v σ H Q => ∃ a xs z, v = .ref a ∧ SqL K H a (xs ++ [z]) ∧ xs.length ≤ 16000 ∧ ∀ p, H p = none → t [.ref p, z] σ (upd H p (.lst xs)) Q
theorem pg_star {X : Cx} {pos : Pos} {es es' : List Expr} {k : Nat} {t : TGs} (hc : X.calm = true) (h : PGs X es' t) (hm : (assignEach es X.env).map (·.2) = (assignEach es' X.env).map (·.2) := by rfl)
    (hn : (assignEach es X.env).length = 2 := by rfl) (hst : (assignEach es X.env).findIdx? (·.1) = some 0 := by rfl) : PG X (.Tuple es k pos) (gStar X.K t) := by
  refine ⟨fun pins s σ H v u Q I r hw => ?_⟩
  obtain ⟨a, xs, z, e1, hq, hl, hw⟩ := hw
  subst e1
  cases r
  obtain ⟨its, rv, pl, hz⟩ := I.list hq
  have hlen := rv.length
  rw [List.length_append, List.length_singleton] at hlen
  rw [PyProof.Rows.assign_Tuple]
  refine wpAny_bind (wpAny_standAt ?_)
  unfold unpack
  rw [hn, hst]
  refine wpAny_bind (wpAny_holding (star_items pl.isList (I.ok.hd hc) (by rw [List.size_toArray]; omega) (by rw [List.size_toArray]; omega) fun h' tk hk => ?_))
  have e0 : its.toArray.toList = its := by simp
  rw [e0]
  obtain ⟨us, w, rfl, ru, rw'⟩ : ∃ us w, its = us ++ [w] ∧ Vals xs us ∧ RelV z w := by
    clear hlen hz hw pl hq
    have rv : Vals (xs ++ [z]) its := rv
    clear e0
    induction xs generalizing its with
    | nil =>
      cases rv with
      | cons r rr => cases rr; exact ⟨[], _, rfl, .nil, r⟩
    | cons x xs ih =>
      cases rv with
      | cons r rr =>
        obtain ⟨us, w, rfl, h1, h2⟩ := ih (by simp at hl; omega) _ rr rr
        exact ⟨_ :: us, w, rfl, .cons r h1, h2⟩
  have e1 : (us ++ [w]).toArray.size - 1 = us.length := by simp
  rw [e1, List.drop_append_of_le_length (Nat.le_refl _), List.drop_length, List.take_append_of_le_length (Nat.le_refl _), List.take_length, List.nil_append, hm]
  have I0 : Inv X pins σ H { s with heap := h', toks := tk } := I.kept hk
  have hf : H h'.objs.size = none := I0.hok.fresh (Nat.le_refl _)
  have I1 : Inv X pins σ (upd H h'.objs.size (.lst xs)) { s with heap := h'.push { cls := .type "list", data := .seq us.toArray }, toks := tk } := by
    refine I0.laid (t' := tk) (fun b u e => Heap.get?_push_of_some _ e) (Nat.le_refl _) ?_
    exact ⟨by rw [sizeLine_eq]; omega, us, 0, ru, Heap.get?_push_size _ rfl⟩
  exact h.run pins _ σ _ [.ref h'.objs.size, z] _ Q I1 (.cons rfl (.cons rw' .nil)) (hw _ hf)
section
variable {K : PySem.W.Frag} {X : Wsh}
theorem rp_snoc {Z : Zs} {H : Hp} : ∀ {vs : List V} {ds : List Dt} {z : Dt}, RpAll K Z H vs (ds ++ [z]) → ∃ ws w, vs = ws ++ [w] ∧ RpAll K Z H ws ds ∧ Rp K Z H w z
  | vs, [], z, h => by
    cases h with
    | cons a b => cases b; exact ⟨[], _, rfl, .nil, a⟩
  | vs, d :: ds, z, h => by
    cases h with
    | cons a b =>
      obtain ⟨ws, w, rfl, h1, h2⟩ := rp_snoc b
      exact ⟨_ :: ws, w, rfl, .cons a h1, h2⟩
def rAsgStar (ra : RE) (i j : Nat) : RS := fun D η => ra η fun x η1 => ∃ ds z, look η1 x = some (.lst (ds ++ [z])) ∧ ds.length ≤ 16000 ∧ i < η1.length ∧ j < η1.length ∧ D.nx ((η1.set i (some (.mu none (.dt (.lst ds))))).set j (some (.val z)))
theorem ds_asgStar {ta : TE} {ra : RE} (ha : DE K X ta ra) (i j : Nat) : DS K X (tAsg ta (gStar K (gCons (gName i) (gCons (gName j) gNil)))) (rAsgStar ra i j) := by
  constructor
  · intro η D D' hd q
    refine ha.mono _ _ _ ?_ q
    rintro x η1 ⟨ds, z, e1, e2, e3, e4, q⟩
    exact ⟨ds, z, e1, e2, e3, e4, hd.nx _ q⟩
  intro B Z H σ η τ E lk o q
  refine ha.run B Z H σ η τ _ lk o (ha.mono _ _ _ ?_ q)
  rintro x η1 ⟨ds, z, e1, e2, e3, e4, q⟩ Z1 H1 v o1
  obtain ⟨a, vs, rfl, hs, r⟩ := o1.see e1
  obtain ⟨ws, w, rfl, r1, r2⟩ := rp_snoc r
  refine ⟨a, ws, w, rfl, hs, by rw [r1.length]; exact e2, fun p hp => ?_⟩
  have o2 : Ok B K Z1 H1 σ η1 ((w, .val z) :: τ) := o1.ok.val r2
  have o3 := (o2.newLst r1 hp).2
  have o4 := Ok.store (i := i) o3 e3
  have o5 := Ok.store (i := j) o4 (by rw [List.length_set]; exact e4)
  exact ⟨_, _, rfl, _, _, rfl, rfl, q _ _ _ o5⟩
/-! ### own dicts: how many, their keys -/
theorem own_look {η : Env} {x : Vl} {d : Dt} (e : own η x = some d) : look η x = some d := by
  cases x with
  | d y => cases e
  | nw y => cases e
  | nc y => cases e
  | gh i p => exact e
  | sl i =>
    unfold own at e
    simp only at e
    unfold look
    simp only
    split at e
    · rename_i h; rw [h]; exact e
    · rename_i h; rw [h]; exact e
    · cases e
def roLenD : ROs := fun xs η Q => ∃ x kvs, xs = [x] ∧ own η x = some (.dct kvs) ∧ Q (.d (.int (kvs.length : Nat))) η
theorem dc_lenD : DC K (fun xs H Q => ∃ a kvs, xs = [V.ref a] ∧ H a = some (.dK kvs) ∧ Q (.int kvs.length) H) roLenD := by
  constructor
  · rintro xs η Q Q' hq ⟨x, kvs, e1, e2, q⟩
    exact ⟨x, kvs, e1, e2, hq _ _ q⟩
  rintro B Z H σ η τ xs vs P o ⟨x, kvs, rfl, e2, q⟩
  obtain ⟨v, rfl⟩ := ali1 o.1
  obtain ⟨a, rfl, nz, ow, _⟩ := o.write e2
  obtain ⟨ks, vs, ds, rfl, l, hH, r⟩ := ow
  refine ⟨a, _, rfl, hH, ?_⟩
  have e : (ks.zip vs).length = (ks.zip ds).length := by rw [List.length_zip, List.length_zip, r.length]
  rw [e]
  exact q Z H _ (.d o.ok (.int _))
def roListD : ROs := fun xs η Q => ∃ x kvs, xs = [x] ∧ own η x = some (.dct kvs) ∧ Q (.nw (.lst (kvs.map fun kv => keyDt kv.1))) η
theorem rp_keys {Z : Zs} {H : Hp} : ∀ ks : List Key, RpAll K Z H (ks.map kV) (ks.map keyDt)
  | [] => .nil
  | k :: ks => .cons (rp_key k) (rp_keys ks)
theorem zip_keys {α β γ : Type} {f : Key → γ} : ∀ {ks : List Key} {vs : List α}, ks.length = vs.length → (ks.zip vs).map (fun kv => f kv.1) = ks.map f
  | [], _, _ => rfl
  | k :: ks, [], h => by simp at h
  | k :: ks, v :: vs, h => by
    simp only [List.zip_cons_cons, List.map_cons]
    rw [zip_keys (β := β) (ks := ks) (vs := vs) (by simpa using h)]
theorem dc_listD : DC K rListD roListD := by
  constructor
  · rintro xs η Q Q' hq ⟨x, kvs, e1, e2, q⟩
    exact ⟨x, kvs, e1, e2, hq _ _ q⟩
  rintro B Z H σ η τ xs vs P o ⟨x, kvs, rfl, e2, q⟩
  obtain ⟨v, rfl⟩ := ali1 o.1
  obtain ⟨a, rfl, nz, ow, _⟩ := o.write e2
  obtain ⟨ks, vs, ds, rfl, l, hH, r⟩ := ow
  refine ⟨a, _, rfl, hH, fun p hp => ?_⟩
  rw [zip_keys (β := Unit) l]
  rw [zip_keys (β := Unit) (l.trans r.length)] at q
  exact q _ _ _ (o.ok.newLst (rp_keys ks) hp)
/-- sorted(d), its keys texts, fewer than 64 -/
def roSortD : ROs := fun xs η Q => ∃ x kvs ks, xs = [x] ∧ look η x = some (.dct kvs) ∧ kvs.map (·.1) = ks.map Sum.inr ∧ ks.length < 64 ∧ ∀ ys : List Str, ys.Perm ks → sortedS ys = true → Q (.nw (.lst (ys.map .str))) η
theorem dc_sortD : DC K (fun xs H Q => ∃ (a : Addr) (kvs : List (Key × V)) (ks : List Str), xs = [.ref a] ∧ Rd H a (.dK kvs) ∧ kvs.map (·.1) = ks.map Sum.inr ∧ ks.length < 64 ∧
    ∀ ys p, ys.Perm ks → sortedS ys = true → H p = none → Q (.ref p) (upd H p (.lst (ys.map V.str)))) roSortD := by
  constructor
  · rintro xs η Q Q' hq ⟨x, kvs, ks, e1, e2, e3, e4, q⟩
    exact ⟨x, kvs, ks, e1, e2, e3, e4, fun ys h1 h2 => hq _ _ (q ys h1 h2)⟩
  rintro B Z H σ η τ xs vs P o ⟨x, kvs, ks, rfl, e2, e3, e4, q⟩
  obtain ⟨v, rfl⟩ := ali1 o.1
  obtain ⟨a, qs, vs, ds, rfl, rfl, l, hH, r⟩ := see_dct (o.see e2)
  have e5 : (qs.zip ds).map (·.1) = qs := List.map_fst_zip (by rw [l, r.length]; exact Nat.le_refl _)
  have e6 : (qs.zip vs).map (·.1) = qs := List.map_fst_zip (by rw [l]; exact Nat.le_refl _)
  rw [e5] at e3
  refine ⟨a, _, ks, rfl, hH, by rw [e6]; exact e3, e4, fun ys p h1 h2 hp => ?_⟩
  exact q ys h1 h2 _ _ _ (o.ok.newLst (rp_strs ys) hp)
/-! ### C(..) with whatever its making left -/
def rMakeC (C : Addr) (ms : List Md) (S : Spc) (w : Addr → List (Str × Dt) → Env → Prop) (ra : RA) : RE := fun η Q => ra η fun xs η1 => ∃ as, argsD ms xs η1 = some as ∧ S.pre (.dt (.ins C []) :: as) ∧
  (∀ y cs, S.post (.dt (.ins C []) :: as) y cs → ∃ c cs', y = .d .non ∧ cs = c :: cs' ∧ Q (.nc c) (aft ms xs η1 cs')) ∧ ∀ C' fs cs, S.exc (.dt (.ins C []) :: as) C' fs cs → ∃ c cs', cs = c :: cs' ∧ w C' fs (aft ms xs η1 cs')
theorem de_makeC {C : Addr} {ms : List Md} {S : Spc} {t : TA} {ra : RA} {E : L2.St → XK} (hE : ∀ σ C d H, X.W (.ref C) d σ H → E σ (.ref C) d H) (ha : DA K X t ra) : DE K X (tMakeS C (toSp K (.p :: ms) S) E t) (rMakeC C ms S X.w ra) := by
  constructor
  · intro η Q Q' hq q
    refine ha.mono _ _ _ ?_ q
    rintro xs η1 ⟨as, e, hp, h1, h2⟩
    refine ⟨as, e, hp, fun y cs h => ?_, h2⟩
    obtain ⟨d, cs', e1, e2, q⟩ := h1 y cs h
    exact ⟨d, cs', e1, e2, hq _ _ q⟩
  intro B Z H σ η τ P lk o q
  refine ha.run B Z H σ η τ _ lk o (ha.mono _ _ _ ?_ q)
  rintro xs η1 ⟨as, e, hp, h1, h2⟩ Z1 H1 vs o1 x dx hx hdx ne
  have o2 : Ok B K Z1 (upd H1 dx (.own x)) σ η1 (tmp xs vs ++ τ) := o1.2.ext (upd_keep hdx) (fun _ z => z) fun _ z => .inl z
  have hx' : upd H1 dx (.own x) x = none := by rw [upd_ne ne.symm]; exact hx
  have o3 := o2.new hx' (o := .ins C dx []) (d := .ins C []) ⟨dx, [], [], [], rfl, rfl, upd_same, .nil⟩
  have o4 : OkV B K Z1 (upd (upd H1 dx (.own x)) x (.ins C dx [])) σ η1 τ (.nw (.ins C []) :: xs) (.ref x :: vs) := ⟨o1.1, o3⟩
  obtain ⟨Z2, G', hA, hG, hz, back⟩ := call_core o4 (args_nw e)
  refine ⟨_, Z2, G', hA, hG, hz, hp, fun y cs hpost Z' H' v lv => ?_, fun C' fs cs hxx Z' H' d lv xd => ?_⟩
  · obtain ⟨d, cs', rfl, rfl, q⟩ := h1 y cs hpost
    have o5 : Ok B K Z' H' σ (remP ms xs η1) ((.ref x, .mu none d) :: (pl ms vs (flagsP ms xs η1) cs' ++ (tmp [.d .non] [v] ++ τ))) := back Z' H' _ _ _ lv
    have o6 : Ok B K Z' H' σ (remP ms xs η1) ((v, .val .non) :: ((.ref x, .mu none d) :: (pl ms vs (flagsP ms xs η1) cs' ++ τ))) := by
      refine o5.perm ?_
      show ((V.ref x, En.mu none d) :: (pl ms vs (flagsP ms xs η1) cs' ++ ((v, .val .non) :: τ))).Perm _
      exact ((List.perm_middle (l₁ := pl ms vs (flagsP ms xs η1) cs')).cons _).trans (.swap _ _ _)
    have ev : v = .non := o6.rp.see
    have o7 : Ok B K Z' H' σ (remP ms xs η1) (pl ms vs (flagsP ms xs η1) cs' ++ ((.ref x, .mu none d) :: τ)) := o6.drop.perm List.perm_middle.symm
    exact ⟨ev, q Z' H' (.ref x) ⟨trivial, call_put o1.1 o7⟩⟩
  · obtain ⟨c, cs', rfl, hw⟩ := h2 C' fs cs hxx
    have o5 : Ok B K Z' H' σ (remP ms xs η1) ((.ref x, .mu none c) :: (pl ms vs (flagsP ms xs η1) cs' ++ τ)) := back Z' H' _ [] [] lv
    exact hE σ C' d H' (lk C' fs _ Z' H' σ d hw (call_put o1.1 o5.drop) xd)
theorem pe_makeS0 {X : Cx} {CT : CXT} {k : Nat} {f C : Addr} {fd : FuncData} {ps : List Str} {sp : Sp} {E : L2.St → XK} {x : Str} {p pos : Pos} (M : Mk X.K C f) (F : FnOk X.prog X.w X.K X.mg X.base CT k f fd ps sp) (hr : Room (k + 1) X.A) (hg : Gl X x) (hm : X.mg x = some (.ref C)) (hb : Binds X.K fd ps []) (hx : ∀ σ, PassesAt CT X σ (E σ))
    (hd : (x == ("__debug__" : Str)) = false := by decide) : PE X (.Call (.Name x p) [] [] pos) (tMakeS C sp E tNil) := by
  refine ⟨fun pins s σ H Q I h => ?_⟩
  refine wpAny_Call_Name_kw (ld_glob I hg hm ?_ hd)
  exact PySem.W.callWith_K0 I.kIn M.kp (make_go M F hr hb (hx σ) I .nil h)
end
end D

set_option Elab.async false
set_option linter.all false
set_option maxRecDepth 100000
set_option maxHeartbeats 4000000
namespace D
open PySem PySem.Spec PyProof.Rows L2
/-! ### min(l, default=d) -/
theorem hold_ints {h : Heap} : ∀ {ns : List Int} {its : List Value}, Vals (ns.map V.int) its → PySem.W.HoldAll h its ns
  | [], _, r => by cases r; exact ⟨[], .nil⟩
  | n :: ns, _, r => by
    cases r with
    | cons a b =>
      obtain ⟨as, q⟩ := hold_ints b
      obtain ⟨t, rfl⟩ := a
      exact ⟨_, .cons (.int n t) q⟩
theorem min_of {x : Int} : ∀ (xs : List Int), (PySem.W.minOf x xs ∈ x :: xs) ∧ ∀ y ∈ x :: xs, PySem.W.minOf x xs ≤ y := by
  intro xs
  induction xs generalizing x with
  | nil => exact ⟨by simp [PySem.W.minOf], by simp [PySem.W.minOf]⟩
  | cons z zs ih =>
    have e : PySem.W.minOf x (z :: zs) = PySem.W.minOf (if PySem.W.DatumOrd.lt z x = true then z else x) zs := rfl
    rw [e]
    have hl : (PySem.W.DatumOrd.lt z x = true) ↔ z < x := by
      show decide (z < x) = true ↔ _
      exact decide_eq_true_iff
    by_cases h : z < x
    · rw [if_pos (hl.mpr h)]
      obtain ⟨h1, h2⟩ := ih (x := z)
      refine ⟨List.mem_cons_of_mem _ h1, fun y hy => ?_⟩
      rcases List.mem_cons.mp hy with rfl | hy
      · have := h2 z (by simp)
        omega
      · exact h2 y hy
    · rw [if_neg (fun q => h (hl.mp q))]
      obtain ⟨h1, h2⟩ := ih (x := x)
      refine ⟨?_, fun y hy => ?_⟩
      · rcases List.mem_cons.mp h1 with h1 | h1
        · rw [h1]; simp
        · simp [h1]
      · rcases List.mem_cons.mp hy with rfl | hy
        · exact h2 y (by simp)
        · rcases List.mem_cons.mp hy with rfl | hy
          · have := h2 x (by simp)
            omega
          · exact h2 y (by simp [hy])
def rMinDf (K : PySem.W.Frag) : List V → List V → Hp → VK → Prop := fun xs zs H Q => ∃ a ns z, xs = [V.ref a] ∧ zs = [z] ∧ SqL K H a (ns.map V.int) ∧ (ns = [] → Q z H) ∧ ∀ m, m ∈ ns → (∀ y, y ∈ ns → m ≤ y) → Q (.int m) H
theorem crk_minD {X : Cx} (hc : X.calm = true) (hu : X.A.units + 64 < cLine) : CallRK X (.builtin "min") ["default"] (rMinDf X.K) := by
  intro pins s σ H xs zs us ws Q I rx rz h
  obtain ⟨a, ns, z, rfl, rfl, hs, h0, h1⟩ := h
  obtain ⟨its, rv, hl, hz⟩ := I.list hs
  rw [Vals.ref1 rx]
  cases rz with
  | @cons _ w _ _ r rr =>
    cases rr
    refine PySem.W.min_list_datum_default (α := Int) (vs := its.toArray) (xs := ns) (I.ok.hd hc) hl.isList (by simpa using hold_ints (h := s.heap) rv) (by show X.A.units + 1 + 0 < cLine; omega) (fun e h' tk hk => ?_) (fun y ys i v h' tk e hi hv hk => ?_)
    · exact ⟨z, H, I.kept hk, r, h0 e⟩
    · obtain ⟨as, q⟩ := hv
      cases q with
      | int _ t =>
        obtain ⟨m1, m2⟩ := min_of (x := y) ys
        exact ⟨.int _, H, I.kept hk, ⟨t, rfl⟩, h1 _ (by rw [e]; exact m1) (by rw [e]; exact m2)⟩
section
variable {K : PySem.W.Frag} {X : Wsh}
def rMinDef (ra rd : RE) : RE := fun η Q => ra η fun x η1 => rd η1 fun z η2 => ∃ ns : List Int, look η2 x = some (.lst (ns.map .int)) ∧ (ns = [] → Q z η2) ∧ ∀ m, m ∈ ns → (∀ y, y ∈ ns → m ≤ y) → Q (.d (.int m)) η2
theorem de_minD {ta td : TE} {ra rd : RE} (ha : DE K X ta ra) (hd : DE K X td rd) : DE K X (tCKw (rMinDf K) (tCons ta tNil) (tCons td tNil)) (rMinDef ra rd) := by
  constructor
  · intro η Q Q' hq q
    refine ha.mono _ _ _ (fun x η1 q => hd.mono _ _ _ ?_ q) q
    rintro z η2 ⟨ns, e, h0, h1⟩
    exact ⟨ns, e, fun h => hq _ _ (h0 h), fun m h h' => hq _ _ (h1 m h h')⟩
  intro B Z H σ η τ P lk o q
  refine ha.run B Z H σ η τ _ lk o (ha.mono _ _ _ (fun x η1 q Z1 H1 v1 o1 => ?_) q)
  refine hd.run B Z1 H1 σ η1 _ _ lk.app o1.2 (hd.mono _ _ _ ?_ q)
  rintro z η2 ⟨ns, e, h0, h1⟩ Z2 H2 v2 o2
  have o3 : OkV B K Z2 H2 σ η2 τ [x, z] [v1, v2] := OkV.cons o1.1 o2
  obtain ⟨a, vs, rfl, hs, r⟩ := o3.head.see e
  cases ints_of r
  refine ⟨a, ns, v2, rfl, rfl, hs, fun hn => h0 hn Z2 H2 v2 ?_, fun m m1 m2 => h1 m m1 m2 Z2 H2 _ (.d o3.ok (.int m))⟩
  refine ⟨o2.1, ?_⟩
  have o4 : Ok B K Z2 H2 σ η2 (tmp [x] [.ref a] ++ (tmp [z] [v2] ++ τ)) := o2.2.perm pm3
  exact o4.drops

/-! ### zip -/
def zipD (xs ys : List Dt) : List Dt := (xs.zip ys).map fun p => .tup [p.1, p.2]
theorem zipD_length (xs ys : List Dt) : (zipD xs ys).length = min xs.length ys.length := by rw [zipD, List.length_map, List.length_zip]
theorem zipD_get {xs ys : List Dt} {i : Nat} {a b : Dt} (h1 : xs[i]? = some a) (h2 : ys[i]? = some b) : (zipD xs ys)[i]? = some (.tup [a, b]) := by
  rw [zipD, List.getElem?_map, List.getElem?_zip_eq_some (z := (a, b)) |>.mpr ⟨h1, h2⟩]
  rfl
theorem get_zipD {xs ys : List Dt} {i : Nat} {x : Dt} (h : (zipD xs ys)[i]? = some x) : ∃ a b, xs[i]? = some a ∧ ys[i]? = some b ∧ x = .tup [a, b] := by
  rw [zipD, List.getElem?_map] at h
  cases e : (xs.zip ys)[i]? with
  | none => rw [e] at h; cases h
  | some p =>
    rw [e] at h
    cases h
    obtain ⟨h1, h2⟩ := List.getElem?_zip_eq_some.mp e
    exact ⟨_, _, h1, h2, rfl⟩
theorem iter_zip {B : Base} {a b : Addr} {e1 e2 : En} {xs ys : List Dt} (b1 : Bears e1 (.lst xs)) (b2 : Bears e2 (.lst ys)) : IterOk B K (Itz K a b) [(.ref a, e1), (.ref b, e2)] (zipD xs ys) := by
  have sees : ∀ {Z : Zs} {H : Hp} {σ : L2.St} {η : Env} {τ : List (V × En)}, Ok B K Z H σ η ([(.ref a, e1), (.ref b, e2)] ++ τ) → ∃ vs ws, SqL K H a vs ∧ SqL K H b ws ∧ RpAll K Z H vs xs ∧ RpAll K Z H ws ys := by
    intro Z H σ η τ o
    have o : Ok B K Z H σ η ((.ref a, e1) :: (.ref b, e2) :: τ) := o
    obtain ⟨a', vs, ea, s, r⟩ := o.seeT b1
    cases ea
    obtain ⟨b', ws, eb, s', r'⟩ := o.drop.seeT b2
    cases eb
    exact ⟨vs, ws, s, s', r, r'⟩
  refine ⟨fun Z H σ η τ i o hi => ?_, fun Z H σ η τ i x H' o y hi => ?_, fun Z H σ η τ i o hi => ?_⟩
  · obtain ⟨vs, ws, s, s', r, r'⟩ := sees o
    rw [zipD_length] at hi
    obtain ⟨x, hx⟩ := getlt (l := vs) (i := i) (by rw [r.length]; omega)
    obtain ⟨y, hy⟩ := getlt (l := ws) (i := i) (by rw [r'.length]; omega)
    exact ⟨vs, ws, x, y, s, s', hx, hy⟩
  · obtain ⟨vs, ws, s, s', r, r'⟩ := sees o
    obtain ⟨T, x1, y1, rfl, hT, rfl, q1, q2⟩ := y
    obtain ⟨d1, h1, r1⟩ := r.get' (q1 vs s)
    obtain ⟨d2, h2, r2⟩ := r'.get' (q2 ws s')
    have o2 := (o.newTup (ds := [d1, d2]) (.cons r1 (.cons r2 .nil)) hT).2
    exact ⟨_, _, zipD_get h1 h2, o2⟩
  · obtain ⟨vs, ws, s, s', r, r'⟩ := sees o
    rw [zipD_length] at hi
    refine ⟨vs, ws, s, s', ?_⟩
    rw [r.length, r'.length]
    omega
def riZip (ra : RA) : RI' := fun η Q => ra η fun zs η1 => ∃ x y xs ys, zs = [x, y] ∧ held η1 x = some (.lst xs) ∧ held η1 y = some (.lst ys) ∧ Q (zipD xs ys) η1
theorem di_zip {ta : TA} {ra : RA} (ha : DA K X ta ra) : DI K X (iZip K ta) (riZip ra) := by
  constructor
  · intro η Q Q' hq q
    refine ha.mono _ _ _ ?_ q
    rintro zs η1 ⟨x, y, xs, ys, e1, e2, e3, q⟩
    exact ⟨x, y, xs, ys, e1, e2, e3, hq _ _ q⟩
  intro B Z H σ η τ R lk o q
  refine ha.run B Z H σ η τ _ lk o (ha.mono _ _ _ ?_ q)
  rintro zs η1 ⟨x, y, xs, ys, rfl, e2, e3, q⟩ Z1 H1 vs o1
  obtain ⟨v, w, rfl⟩ := ali2 o1.1
  obtain ⟨en1, b1, o2⟩ := o1.head.hold e2
  have o3 : OkV B K Z1 H1 σ η1 ((v, en1) :: τ) [y] [w] := ⟨o1.tail.1, o2.perm (List.perm_middle (l₁ := tmp [y] [w]) (l₂ := τ)).symm⟩
  obtain ⟨en2, b2, o4⟩ := o3.hold e3
  have o5 := o4.perm (List.Perm.swap _ _ _)
  obtain ⟨a, vs, rfl, s, r⟩ := o5.seeT b1
  obtain ⟨b, ws, rfl, s', r'⟩ := o4.seeT b2
  exact ⟨a, b, vs, ws, rfl, s, s', q Z1 H1 [(.ref a, en1), (.ref b, en2)] _ o5 (iter_zip b1 b2)⟩
/-! ### a comprehension over a list of one's own, which stays so -/
abbrev RIO := Env → (List Dt → Option Nat → Dt → Env → Prop) → Prop
structure DIO (K : PySem.W.Frag) (X : Wsh) (wi : TI) (k : Nat) (r : RIO) : Prop where
  mono : ∀ η (Q Q' : List Dt → Option Nat → Dt → Env → Prop), (∀ x p d η', Q x p d η' → Q' x p d η') → r η Q → r η Q'
  run : ∀ (B : Base) (Z : Zs) (H : Hp) (σ : L2.St) (η : Env) (τ : List (V × En)) (R : It → Hp → Prop), Lk B K X τ → Ok B K Z H σ η τ →
    r η (fun ds p0 d η' => ∀ Z' H' v δ J, σ[k]? = some (some v) → Ok B K Z' H' σ η' ((δ ++ [(v, .mu p0 (.dt d))]) ++ τ) → IterOk B K J (δ ++ [(v, .mu p0 (.dt d))]) ds → R J H') → wi σ H R
def riZipO (ra : RA) (k : Nat) : RIO := fun η Q => ra η fun zs η1 => ∃ x xs ys p0, zs = [x, .sl k] ∧ held η1 x = some (.lst xs) ∧ η1[k]? = some (some (.mu p0 (.dt (.lst ys)))) ∧ Q (zipD xs ys) p0 (.lst ys) (η1.set k none)
theorem dio_zip {ta : TA} {ra : RA} {k : Nat} (ha : DA K X ta ra) : DIO K X (iZip K ta) k (riZipO ra k) := by
  constructor
  · intro η Q Q' hq q
    refine ha.mono _ _ _ ?_ q
    rintro zs η1 ⟨x, xs, ys, p0, e1, e2, e3, q⟩
    exact ⟨x, xs, ys, p0, e1, e2, e3, hq _ _ _ _ q⟩
  intro B Z H σ η τ R lk o q
  refine ha.run B Z H σ η τ _ lk o (ha.mono _ _ _ ?_ q)
  rintro zs η1 ⟨x, xs, ys, p0, rfl, e2, e3, q⟩ Z1 H1 vs o1
  obtain ⟨v, w, rfl⟩ := ali2 o1.1
  obtain ⟨en1, b1, o2⟩ := o1.head.hold e2
  have o2 : Ok B K Z1 H1 σ η1 ((v, en1) :: τ) := o2
  have hw : σ[k]? = some (some w) := o1.tail.1.1
  obtain ⟨w', hw', o3⟩ := o2.take e3
  rw [hw] at hw'; cases hw'
  have o5 := o3.perm (List.Perm.swap _ _ _)
  have b2 : Bears (En.mu p0 (.dt (.lst ys))) (.lst ys) := .inr (.inl ⟨_, rfl⟩)
  obtain ⟨a, vs, rfl, s, r⟩ := o5.seeT b1
  obtain ⟨b, ws, rfl, s', r'⟩ := o3.seeT b2
  exact ⟨a, b, vs, ws, rfl, s, s', q Z1 H1 (.ref b) [(.ref a, en1)] _ hw o5 (iter_zip b1 b2)⟩
def riListO (ra : RE) (k : Nat) : RIO := fun η Q => ra η fun x η1 => ∃ ys p0, x = .sl k ∧ η1[k]? = some (some (.mu p0 (.dt (.lst ys)))) ∧ Q ys p0 (.lst ys) (η1.set k none)
theorem dio_list {tl : TE} {ra : RE} {k : Nat} (ha : DE K X tl ra) : DIO K X (iList K tl) k (riListO ra k) := by
  constructor
  · intro η Q Q' hq q
    refine ha.mono _ _ _ ?_ q
    rintro x η1 ⟨ys, p0, e1, e3, q⟩
    exact ⟨ys, p0, e1, e3, hq _ _ _ _ q⟩
  intro B Z H σ η τ R lk o q
  refine ha.run B Z H σ η τ _ lk o (ha.mono _ _ _ ?_ q)
  rintro x η1 ⟨ys, p0, rfl, e3, q⟩ Z1 H1 w o1
  have hw : σ[k]? = some (some w) := o1.1.1
  have o2 : Ok B K Z1 H1 σ η1 τ := o1.2
  obtain ⟨w', hw', o3⟩ := o2.take e3
  rw [hw] at hw'; cases hw'
  have b2 : Bears (En.mu p0 (.dt (.lst ys))) (.lst ys) := .inr (.inl ⟨_, rfl⟩)
  obtain ⟨b, ws, rfl, s', r'⟩ := o3.seeT b2
  exact ⟨b, rfl, ⟨ws, s'⟩, q Z1 H1 (.ref b) [] _ hw o3 (iter_list b2 rfl)⟩
def rLcO (ri : RIO) (k : Nat) (rg : RG) (rt : RT) (re : RE) (vs : List Nat) : RE := fun η Q => ri η fun ds p0 d0 η1 => ds.length ≤ 100000 ∧ ∃ W : Nat → List Dt → Env → Prop, W 0 [] (wipeE η1 vs) ∧
  (∀ i d acc η', ds[i]? = some d → acc.length ≤ i → W i acc η' → rg d η' fun η2 => rt η2 fun b η3 => if b = true then re η3 fun x η4 => ∃ e, frz η4 x = some e ∧ W (i + 1) (acc ++ [e]) (wipeE η4 vs) else W (i + 1) acc (wipeE η3 vs)) ∧
  ∀ acc η', acc.length ≤ ds.length → W ds.length acc η' → k < (unw η1 η' vs).length ∧ Q (.nw (.lst acc)) ((unw η1 η' vs).set k (some (.mu p0 (.dt d0))))
theorem de_lcO {k : Nat} {wi : TI} {g : TG} {tt : TT} {te : TE} {vs sl : List Nat} {ri : RIO} {rg : RG} {rt : RT} {re : RE} (hi : DIO K X wi k ri) (hg : DG K sl g rg) (ht : DT K W0 tt rt) (he : DE K W0 te re) (hs : ∀ i ∈ sl, i ∈ vs) :
    DE K X (tLc wi g tt te vs) (rLcO ri k rg rt re vs) := by
  constructor
  · intro η Q Q' hq q
    refine hi.mono _ _ _ ?_ q
    rintro ds p0 d0 η1 ⟨hl, W, h0, h1, h2⟩
    exact ⟨hl, W, h0, h1, fun acc η' l w => ⟨(h2 acc η' l w).1, hq _ _ (h2 acc η' l w).2⟩⟩
  intro B Z H σ η τ P lk o q
  refine hi.run B Z H σ η τ _ lk o (hi.mono _ _ _ ?_ q)
  rintro ds p0 d0 η1 ⟨hl, W, h0, h1, h2⟩ Z1 H1 v0 δ0 J hv0 o1 it D hD
  generalize hp : δ0 ++ [(v0, En.mu p0 (.dt d0))] = p at o1 it
  obtain ⟨δ, o2, back⟩ := o1.drops.wipe vs
  obtain ⟨δ', o2', back'⟩ := o1.wipe vs
  have o3 : Ok B K Z1 (upd H1 D (.lst [])) (wipe σ vs) (wipeE η1 vs) ((.ref D, .mu none (.dt (.lst []))) :: (δ' ++ (p ++ τ))) := o2'.new hD ⟨[], upd_same, .nil⟩
  refine ⟨fun i m H' => m = ds.length - i ∧ i ≤ ds.length ∧ ∃ Z' η' acc, Ok B K Z' H' (wipe σ vs) η' ((.ref D, .mu none (.dt (.lst acc))) :: (δ' ++ (p ++ τ))) ∧ acc.length ≤ i ∧ W i acc η',
    ⟨ds.length, by simp, Nat.zero_le _, Z1, _, [], o3, Nat.le_refl _, h0⟩, ?_⟩
  rintro i m H' ⟨rfl, hle, Z', η', acc, o', la, w⟩
  have op : Ok B K Z' H' (wipe σ vs) η' (p ++ (.ref D, .mu none (.dt (.lst acc))) :: (δ' ++ τ)) := o'.perm ((pm3.cons _).trans List.perm_middle.symm)
  by_cases hlt : i < ds.length
  · refine .inr ⟨it.go Z' H' _ η' _ i op hlt, fun H'' => ∃ Z'' η'' acc', Ok B K Z'' H'' (wipe σ vs) η'' ((.ref D, .mu none (.dt (.lst acc'))) :: (δ' ++ (p ++ τ))) ∧ acc'.length ≤ i + 1 ∧ W (i + 1) acc' η'', ?_, ?_⟩
    · rintro H'' n
      exact ⟨ds.length - (i + 1), by omega, rfl, hlt, n⟩
    · intro x H'' y
      obtain ⟨Z2, d, hd, o4⟩ := it.yld Z' H' _ η' _ i x H'' op y hlt
      refine hg.run B Z2 H'' _ η' _ x d _ o4 (hg.mono _ _ _ _ ?_ (h1 i d acc η' hd la w))
      intro η2 q Z3 H3 σ3 bt o5
      have bt' : L2.wipe σ3 vs = L2.wipe σ vs := (bt vs hs).trans (by
        have idem : ∀ (us : List Nat), (∀ i ∈ us, i ∈ vs) → L2.wipe (L2.wipe σ us) vs = L2.wipe σ vs := by
          intro us
          induction us with
          | nil => intro _; rfl
          | cons u us ih =>
            intro hu
            show L2.wipe ((L2.wipe σ us).set u none) vs = L2.wipe σ vs
            rw [wipe_set (hu u (by simp))]
            exact ih fun i hi => hu i (by simp [hi])
        exact idem vs fun _ h => h)
      refine ⟨bt', ?_⟩
      refine ht.run B Z3 H3 σ3 η2 _ _ .none o5 (ht.mono _ _ _ ?_ q)
      intro b η3 q Z4 H4 o6
      have fwd : ∀ {Z' : Zs} {H' : Hp} {η' : Env} {a : List Dt}, Ok B K Z' H' σ3 η' (p ++ (.ref D, .mu none (.dt (.lst a))) :: (δ' ++ τ)) → Ok B K Z' H' (L2.wipe σ vs) (wipeE η' vs) ((.ref D, .mu none (.dt (.lst a))) :: (δ' ++ (p ++ τ))) := by
        intro Z' H' η' a o
        have := o.wipeF vs
        rw [bt'] at this
        exact this.perm (List.perm_middle.trans (pm3.cons _))
      cases b with
      | false => exact ⟨Z4, _, acc, fwd o6, by omega, q⟩
      | true =>
        refine he.run B Z4 H4 σ3 η3 _ _ .none o6 (he.mono _ _ _ ?_ q)
        rintro x5 η4 ⟨e, hfe, w'⟩ Z5 H5 y5 o7
        obtain ⟨Z6, z6, o8⟩ := o7.frz hfe
        have o9 : Ok B K Z6 H5 σ3 η4 ((.ref D, .mu none (.dt (.lst acc))) :: (y5, .val e) :: (p ++ (δ' ++ τ))) := o8.perm (List.perm_middle (l₁ := (y5, En.val e) :: p))
        obtain ⟨a, ea, nz, vs', hH, r⟩ := o9.notZ
        cases ea
        have hlen : vs'.length < sizeLine := by rw [r.length]; exact szl (by omega)
        have o10 := o9.write (o := .lst (vs' ++ [y5])) (d' := .lst (acc ++ [e])) ⟨_, upd_same, (r.append (.cons o8.rp .nil)).write nz⟩
        have o11 := (o10.perm (List.Perm.swap _ _ _)).drop
        exact ⟨vs', hH, hlen, Z6, _, acc ++ [e], fwd (o11.perm List.perm_middle.symm), by simp; omega, w'⟩
  · have e : i = ds.length := by omega
    subst e
    refine .inl ⟨it.stop Z' H' _ η' _ _ op (Nat.le_refl _), ?_⟩
    have o5 : Ok B K Z' H' (L2.wipe σ vs) η' (δ' ++ (p ++ (.ref D, .mu none (.dt (.lst acc))) :: τ)) := by
      refine o'.perm ?_
      have h1 : ((V.ref D, En.mu none (.dt (.lst acc))) :: (δ' ++ (p ++ τ))) = ((V.ref D, En.mu none (.dt (.lst acc))) :: (δ' ++ p)) ++ τ := by simp
      have h2 : (δ' ++ (p ++ (V.ref D, En.mu none (.dt (.lst acc))) :: τ)) = (δ' ++ p) ++ (V.ref D, En.mu none (.dt (.lst acc))) :: τ := by simp
      rw [h1, h2]
      exact List.perm_middle.symm
    have o6 := back' Z' H' η' _ o5
    obtain ⟨hk, q⟩ := h2 acc η' la w
    have o7 := o6.forget k
    rw [← hp] at o7
    have o8 : Ok B K Z' H' σ ((unw η1 η' vs).set k none) ((v0, .mu p0 (.dt d0)) :: (δ0 ++ ((V.ref D, En.mu none (.dt (.lst acc))) :: τ))) := by
      refine o7.perm ?_
      rw [List.append_assoc]
      exact List.perm_middle
    have o9 := o8.put hk hv0
    exact q Z' H' _ ⟨trivial, Ok.drops (τ' := δ0) o9⟩
end
end D

set_option Elab.async false
set_option linter.all false
set_option maxRecDepth 100000
set_option maxHeartbeats 4000000
namespace D
open PySem PySem.Spec PyProof.Rows L2
section
variable {K : PySem.W.Frag} {X : Wsh}
/-- t[lo:hi] -/
def rSlTu (re : RE) (rl rh : Env → (Option Int → Env → Prop) → Prop) : RE := fun η Q => re η fun x η1 => rl η1 fun lo η2 => rh η2 fun hi η3 => ∃ ds, frz η3 x = some (.tup ds) ∧ Q (.d (.tup (cutD ds lo hi))) η3
theorem de_slT {te : TE} {tl th : TO} {re : RE} {rl rh : Env → (Option Int → Env → Prop) → Prop} (he : DE K X te re) (hl : DO K X tl rl) (hh : DO K X th rh) : DE K X (tSl (rSlA K) te tl th) (rSlTu re rl rh) := by
  refine ⟨fun η Q Q' hq q => he.mono _ _ _ (fun x η1 q => hl.mono _ _ _ (fun lo η2 q => hh.mono _ _ _ (fun hi η3 ⟨ds, e, q⟩ => ⟨ds, e, hq _ _ q⟩) q) q) q, ?_⟩
  intro B Z H σ η τ P lk o q
  refine he.run B Z H σ η τ _ lk o (he.mono _ _ _ (fun x η1 q Z1 H1 v1 o1 => ?_) q)
  refine hl.run B Z1 H1 σ η1 _ _ lk.app o1.2 (hl.mono _ _ _ (fun lo η2 q Z2 H2 o2 => ?_) q)
  refine hh.run B Z2 H2 σ η2 _ _ lk.app o2 (hh.mono _ _ _ (fun hi η3 q Z3 H3 o3 => ?_) q)
  obtain ⟨ds, e, q⟩ := q
  have ov : OkV B K Z3 H3 σ η3 τ [x] [v1] := ⟨o1.1, o3⟩
  obtain ⟨Z4, z4, o4⟩ := ov.frz e
  obtain ⟨a, vs, rfl, hs, r⟩ := o4.rp.see
  refine ⟨a, vs, rfl, hs, fun hw => ?_, fun _ p hp => ?_⟩
  · have e2 : cutD ds lo hi = ds := by
      unfold cutD
      rw [r.length] at hw
      rw [hw.1, hw.2, List.drop_zero, Nat.sub_zero, List.take_length]
    rw [e2] at q
    exact q _ _ _ ⟨trivial, o4⟩
  · refine q _ _ _ (o4.drop.newTup ?_ hp)
    unfold cutV cutD
    rw [r.length]
    exact (r.drop _).take _
end
end D

set_option Elab.async false
set_option linter.all false
set_option maxRecDepth 100000
set_option maxHeartbeats 4000000
namespace D
open PySem PySem.Spec PyProof.Rows L2
section
variable {K : PySem.W.Frag} {X : Wsh}
/-- + of tuples, empty ones too -/
def roCatA : RO2 := fun x y η Q => ∃ xs ys, frz η x = some (.tup xs) ∧ frz η y = some (.tup ys) ∧ xs.length + ys.length ≤ 100000 ∧ Q (.d (.tup (xs ++ ys))) η
theorem d2_catA : D2 K (rCatA K) roCatA := by
  constructor
  · rintro x y η Q Q' hq ⟨xs, ys, e1, e2, e5, q⟩
    exact ⟨xs, ys, e1, e2, e5, hq _ _ q⟩
  rintro B Z H σ η τ x y v w P o ⟨xs, ys, e1, e2, e5, q⟩
  obtain ⟨Z1, z1, o1, rr⟩ := OkV.frzs (ds := [.tup xs, .tup ys]) o (by simp [frzs, e1, e2])
  cases rr with
  | cons r1 rr =>
  cases rr with
  | cons r2 rr =>
  obtain ⟨a, vs, rfl, h1, s1⟩ := r1.see
  obtain ⟨b, ws, rfl, h2, s2⟩ := r2.see
  have l1 := s1.length
  have l2 := s2.length
  refine ⟨a, b, vs, ws, rfl, rfl, h1, h2, by rw [l1, l2]; exact sz e5, fun h => ?_, fun _ h => ?_, fun _ _ p hp => ?_⟩
  · subst h
    cases xs with
    | nil => exact q _ _ _ (.d o1 r2)
    | cons _ _ => simp at l1
  · subst h
    cases ys with
    | nil =>
      rw [List.append_nil] at q
      exact q _ _ _ (.d o1 r1)
    | cons _ _ => simp at l2
  · exact q _ _ _ (o1.newTup (s1.append s2) hp)
theorem repS_lt {k : Int} {z : Str} (h : k < 1) : repS k z = Str.empty := by
  unfold repS
  rw [show k.toNat = 0 by omega]
  rfl
theorem repS_one {z : Str} : repS 1 z = z := by
  obtain ⟨a⟩ := z
  show (⟨#[] ++ a⟩ : Str) = _
  rw [Array.empty_append]
theorem repS_nil {k : Int} {z : Str} (h : z.length = 0) : repS k z = z := by
  obtain ⟨a⟩ := z
  have ha : a = #[] := Array.eq_empty_of_size_eq_zero h
  subst ha
  have : (repS k ⟨#[]⟩).cps.size = 0 := by
    have := rep_len k ⟨#[]⟩
    rw [h, Nat.mul_zero] at this
    exact this
  have e := Array.eq_empty_of_size_eq_zero this
  show (⟨(repS k ⟨#[]⟩).cps⟩ : Str) = _
  rw [e]
def rMulZ : R2 := fun x y H Q => ∃ z k, x = .str z ∧ y = .int k ∧ 0 ≤ k ∧ k ≤ 1000 ∧ z.length ≤ 1000 ∧ Q (.str (repS k z)) H
theorem op_mulZ {X : Cx} : OpR X (binaryOp .Mult) rMulZ := by
  intro pins s σ H x y v u Q I rx ry h
  obtain ⟨z, k, rfl, rfl, k0, k9, z9, q⟩ := h
  by_cases hb : 2 ≤ k ∧ 0 < z.length
  · exact op_mulS pins s σ H _ _ _ _ Q I rx ry ⟨z, k, rfl, rfl, hb.1, k9, hb.2, z9, q⟩
  obtain ⟨t, rfl⟩ := rx
  obtain ⟨t', rfl⟩ := ry
  by_cases h1 : k < 1
  · rw [repS_lt h1] at q
    refine PySem.P.mul_str ?_ (fun h => absurd h1 h) (fun h => absurd h1 h) ?_
    · rw [decide_eq_false (by omega), decide_eq_false (by omega)]; rfl
    · rw [if_pos h1]
      exact ⟨by decide, ⟨.str Str.empty, H, I.tok _, ⟨_, rfl⟩, q⟩⟩
  have e2 : (k == 1 || z.length == 0) = true := by
    rw [Bool.or_eq_true_iff]
    by_cases hk : k = 1
    · exact .inl (by simp [hk])
    · exact .inr (by simp; omega)
  have er : repS k z = z := by
    by_cases hk : k = 1
    · rw [hk, repS_one]
    · exact repS_nil (by omega)
  rw [er] at q
  refine PySem.P.mul_str ?_ (fun _ h => absurd (e2.symm.trans h) (by decide)) (fun _ h => absurd (e2.symm.trans h) (by decide)) ?_
  · rw [decide_eq_false (by omega), decide_eq_false (by omega)]; rfl
  · rw [if_neg h1, if_pos e2]
    exact ⟨.str z, H, I, ⟨_, rfl⟩, q⟩
def RMulZ : Dt → Dt → Dt → Prop := fun x y d => ∃ z k, x = .str z ∧ y = .int k ∧ 0 ≤ k ∧ k ≤ 1000 ∧ z.length ≤ 1000 ∧ d = .str (repS k z)
theorem p2_mulZ : P2 K rMulZ RMulZ := by
  constructor
  rintro Z H x y dx dy d P sx sy ⟨z, k, rfl, rfl, h1, h2, h4, rfl⟩ q
  cases (show x = .str z from sx)
  cases (show y = .int k from sy)
  exact ⟨z, k, rfl, rfl, h1, h2, h4, q _ (.str _)⟩
/-- f() -/
theorem pe_callS0 {X : Cx} {CT : CXT} {k : Nat} {f : Addr} {fd : FuncData} {ps : List Str} {sp : Sp} {E : L2.St → XK} {x : Str} {p pos : Pos} (F : FnOk X.prog X.w X.K X.mg X.base CT k f fd ps sp) (hr : Room k X.A) (hg : Gl X x) (hm : X.mg x = some (.ref f)) (hk : PySem.W.keepIn X.K (.ref f) = true) (hb : Binds X.K fd ps []) (hx : ∀ σ, PassesAt CT X σ (E σ))
    (hdb : (x == ("__debug__" : Str)) = false := by decide) : PE X (.Call (.Name x p) [] [] pos) (tCallS sp E tNil) := by
  refine ⟨fun pins s σ H Q I h => ?_⟩
  refine wpAny_Call_Name_kw (ld_glob I hg hm ?_ hdb)
  exact PySem.W.callWith_K0 I.kIn hk (run_fnS (us := []) F hr hb (hx σ) I .nil h)
end
end D

set_option Elab.async false
set_option linter.all false
set_option maxRecDepth 100000
set_option maxHeartbeats 4000000
namespace D
open PySem PySem.Spec PyProof.Rows L2
section
variable {K : PySem.W.Frag} {X : Wsh}
/-- a, b = x, y : both stay -/
def rPar (ra : RA) (i j : Nat) : RS := fun D η => ra η fun xs η1 => ∃ ds, frzs η1 xs = some ds ∧ ∃ d e, ds = [d, e] ∧ i < η1.length ∧ j < η1.length ∧ D.nx ((η1.set i (some (.val d))).set j (some (.val e)))
theorem ds_par {ta : TA} {ra : RA} {i j : Nat} (ha : DA K X ta ra) : DS K X (tPar i j ta) (rPar ra i j) := by
  constructor
  · intro η D D' hd q
    refine ha.mono _ _ _ ?_ q
    rintro x η1 ⟨ds, e, d, d', e2, hi, hj, q⟩
    exact ⟨ds, e, d, d', e2, hi, hj, hd.nx _ q⟩
  intro B Z H σ η τ E lk o q
  refine ha.run B Z H σ η τ _ lk o (ha.mono _ _ _ ?_ q)
  rintro xs η1 ⟨ds, e, d, d', rfl, hi, hj, q⟩ Z1 H1 vs o1
  obtain ⟨Z2, z2, o2, r⟩ := o1.frzs e
  cases r with
  | @cons v vs _ _ r1 r =>
    cases r with
    | @cons w vs _ _ r2 r =>
      cases r
      refine ⟨v, w, rfl, ?_⟩
      have o3 := (o2.val r1).store hi
      exact q Z2 H1 _ ((o3.val r2).store (by rw [List.length_set]; exact hj))
/-- a, b = x, y : two new things, each held by its name -/
def rParM (ra : RA) (i j : Nat) : RS := fun D η => ra η fun xs η1 => ∃ d e, xs = [.nw d, .nw e] ∧ i < η1.length ∧ j < η1.length ∧ D.nx ((η1.set i (some (.mu none (.dt d)))).set j (some (.mu none (.dt e))))
theorem ds_parM {ta : TA} {ra : RA} {i j : Nat} (ha : DA K X ta ra) : DS K X (tPar i j ta) (rParM ra i j) := by
  constructor
  · intro η D D' hd q
    refine ha.mono _ _ _ ?_ q
    rintro x η1 ⟨d, e, e2, hi, hj, q⟩
    exact ⟨d, e, e2, hi, hj, hd.nx _ q⟩
  intro B Z H σ η τ E lk o q
  refine ha.run B Z H σ η τ _ lk o (ha.mono _ _ _ ?_ q)
  rintro xs η1 ⟨d, e, rfl, hi, hj, q⟩ Z1 H1 vs o1
  obtain ⟨v, w, rfl⟩ : ∃ v w, vs = [v, w] := by
    have := o1.1
    match vs, this with
    | [v, w], _ => exact ⟨v, w, rfl⟩
  have o2 : Ok _ K Z1 H1 σ η1 ((v, En.mu none (.dt d)) :: (w, En.mu none (.dt e)) :: τ) := o1.2
  refine ⟨v, w, rfl, ?_⟩
  have o3 := o2.store hi
  exact q Z1 H1 _ (o3.store (by rw [List.length_set]; exact hj))
/-! pairs of whole numbers: > -/
def gtP (i j k l : Int) : Bool := if k = i then decide (l < j) else decide (k < i)
def rGtP (K : PySem.W.Frag) : R2 := fun x y H Q => ∃ a b i j k l, x = .ref a ∧ y = .ref b ∧ SqT K H a [.int i, .int j] ∧ SqT K H b [.int k, .int l] ∧ Q (.bl (gtP i j k l)) H
theorem holds_pair2 {h : Heap} {a : Addr} {its : List Value} {i j : Int} (r : Vals [.int i, .int j] its) (t : IsTup h a its.toArray) : PySem.W.Holds (α := Int × Int) h (.ref a) (i, j) := by
  cases r with
  | cons r1 r =>
    cases r with
    | cons r2 r =>
      cases r
      obtain ⟨t1, rfl⟩ := r1
      obtain ⟨t2, rfl⟩ := r2
      obtain ⟨o, e, c, n, d⟩ := t
      exact ⟨_, .tuple e c d (.cons (.int i t1) (.cons (.int j t2) .nil))⟩
theorem op_gtP {X : Cx} (hu : X.A.units + 64 < cLine) : OpR X (compareOp .Gt) (rGtP X.K) := by
  intro pins s σ H x y v u Q I rx ry h
  obtain ⟨a, b, i, j, k, l, rfl, rfl, ha, hb, q⟩ := h
  cases rx
  cases ry
  obtain ⟨its, r1, p1, _⟩ := I.tuple ha
  obtain ⟨its2, r2, p2, _⟩ := I.tuple hb
  exact PySem.W.gt_datum (α := Int × Int) (holds_pair2 r1 p1) (holds_pair2 r2 p2) (by
    show X.A.units + (max 0 0 + 1) < cLine
    omega) ⟨.bl (gtP i j k l), H, I, rfl, q⟩
def RGtP : Dt → Dt → Dt → Prop := fun x y d => ∃ i j k l, x = .tup [.int i, .int j] ∧ y = .tup [.int k, .int l] ∧ d = .bl (gtP i j k l)
theorem p2_gtP : P2 K (rGtP K) RGtP := by
  constructor
  rintro Z H x y dx dy d P sx sy ⟨i, j, k, l, rfl, rfl, rfl⟩ q
  obtain ⟨a, vs, rfl, h1, r1⟩ := sx
  obtain ⟨b, ws, rfl, h2, r2⟩ := sy
  have int2 : ∀ {vs : List V} {i j : Int}, RpAll K Z H vs [.int i, .int j] → vs = [.int i, .int j] := by
    intro vs i j r
    cases r with
    | cons a r =>
      cases r with
      | cons b r =>
        cases r
        cases a
        cases b
        rfl
  cases int2 r1
  cases int2 r2
  exact ⟨a, b, i, j, k, l, rfl, rfl, h1, h2, q _ (.bl _)⟩
/-! min, max of two whole numbers -/
def roI2 (f : Int → Int → Int) : ROs := fun xs η Q => ∃ x y i j, xs = [x, y] ∧ look η x = some (.int i) ∧ look η y = some (.int j) ∧ Q (.d (.int (f i j))) η
theorem dc_I2 (f : Int → Int → Int) : DC K (fun xs H Q => ∃ i j, xs = [V.int i, V.int j] ∧ Q (.int (f i j)) H) (roI2 f) := by
  constructor
  · rintro xs η Q Q' hq ⟨x, y, i, j, e1, e2, e3, q⟩
    exact ⟨x, y, i, j, e1, e2, e3, hq _ _ q⟩
  rintro B Z H σ η τ xs vs P o ⟨x, y, i, j, rfl, e2, e3, q⟩
  obtain ⟨v, w, rfl⟩ := ali2 o.1
  obtain ⟨s1, s2⟩ := o.see2 e2 e3
  cases (show v = .int i from s1)
  cases (show w = .int j from s2)
  exact ⟨i, j, rfl, q Z H _ (.d o.ok (.int _))⟩
theorem dc_min2 : DC K (fun xs H Q => ∃ i j, xs = [V.int i, V.int j] ∧ Q (.int (if j < i then j else i)) H) (roI2 fun i j => if j < i then j else i) := dc_I2 _
theorem dc_max2 : DC K (fun xs H Q => ∃ i j, xs = [V.int i, V.int j] ∧ Q (.int (if j > i then j else i)) H) (roI2 fun i j => if j > i then j else i) := dc_I2 _
end
end D

set_option Elab.async false
set_option linter.all false
set_option maxRecDepth 100000
set_option maxHeartbeats 4000000
namespace D
open PySem PySem.Spec PyProof.Rows L2
section
variable {K : PySem.W.Frag} {X : Wsh}
/-! C(e, .., k = v, ..): all arguments stay -/
theorem ok_vals {B : Base} {Z : Zs} {H : Hp} {σ : L2.St} {η : Env} {τ : List (V × En)} : ∀ {vs : List V} {ds : List Dt}, RpAll K Z H vs ds → Ok B K Z H σ η τ → OkV B K Z H σ η τ (ds.map Vl.d) vs
  | _, [], r, o => by
    cases r
    exact ⟨trivial, o⟩
  | _, d :: ds, r, o => by
    cases r with
    | cons a b =>
      have ih := ok_vals b o
      exact ⟨ih.1, ih.2.val a⟩
theorem tmp_rp {B : Base} {Z : Zs} {H : Hp} {σ : L2.St} {η : Env} {τ : List (V × En)} : ∀ {vs : List V} {ds : List Dt}, vs.length = ds.length → Ok B K Z H σ η (tmp (ds.map Vl.d) vs ++ τ) → RpAll K Z H vs ds
  | [], [], _, _ => .nil
  | v :: vs, d :: ds, l, o => by
    have o' : Ok B K Z H σ η ((v, En.val d) :: (tmp (ds.map Vl.d) vs ++ τ)) := o
    exact .cons o'.rp (tmp_rp (by simpa using l) o'.drop)
/-- what making asks, by value -/
def MakeQ (C : Addr) (ms : List Md) (S : Spc) (w : Addr → List (Str × Dt) → Env → Prop) (xs : List Vl) (η1 : Env) (Q : Vl → Env → Prop) : Prop := ∃ as, argsD ms xs η1 = some as ∧ S.pre (.dt (.ins C []) :: as) ∧
  (∀ y cs, S.post (.dt (.ins C []) :: as) y cs → ∃ d cs', y = .d .non ∧ cs = .dt d :: cs' ∧ Q (.nw d) (aft ms xs η1 cs')) ∧ ∀ C' fs cs, S.exc (.dt (.ins C []) :: as) C' fs cs → ∃ c cs', cs = c :: cs' ∧ w C' fs (aft ms xs η1 cs')
theorem make_core {C : Addr} {ms : List Md} {S : Spc} {E : XK} {B : Base} {Z1 : Zs} {H1 : Hp} {σ : L2.St} {η1 : Env} {τ : List (V × En)} {P : VK} {xs : List Vl} {vs : List V} (hE : ∀ C d H, X.W (.ref C) d σ H → E (.ref C) d H) (lk : Lk B K X τ) (o1 : OkV B K Z1 H1 σ η1 τ xs vs)
    (q : MakeQ C ms S X.w xs η1 fun x η' => ∀ Z' H' v, OkV B K Z' H' σ η' τ [x] [v] → P v H') {x dx : Addr} (hx : H1 x = none) (hdx : H1 dx = none) (ne : dx ≠ x) :
    toSp K (.p :: ms) S (.ref x :: vs) (upd (upd H1 dx (.own x)) x (.ins C dx [])) (fun v H3 => v = .non ∧ P (.ref x) H3) E := by
  obtain ⟨as, e, hp, h1, h2⟩ := q
  have o2 : Ok B K Z1 (upd H1 dx (.own x)) σ η1 (tmp xs vs ++ τ) := o1.2.ext (upd_keep hdx) (fun _ z => z) fun _ z => .inl z
  have hx' : upd H1 dx (.own x) x = none := by rw [upd_ne ne.symm]; exact hx
  have o3 := o2.new hx' (o := .ins C dx []) (d := .ins C []) ⟨dx, [], [], [], rfl, rfl, upd_same, .nil⟩
  have o4 : OkV B K Z1 (upd (upd H1 dx (.own x)) x (.ins C dx [])) σ η1 τ (.nw (.ins C []) :: xs) (.ref x :: vs) := ⟨o1.1, o3⟩
  obtain ⟨Z2, G', hA, hG, hz, back⟩ := call_core o4 (args_nw e)
  refine ⟨_, Z2, G', hA, hG, hz, hp, fun y cs hpost Z' H' v lv => ?_, fun C' fs cs hxx Z' H' d lv xd => ?_⟩
  · obtain ⟨d, cs', rfl, rfl, q⟩ := h1 y cs hpost
    have o5 : Ok B K Z' H' σ (remP ms xs η1) ((.ref x, .mu none (.dt d)) :: (pl ms vs (flagsP ms xs η1) cs' ++ (tmp [.d .non] [v] ++ τ))) := back Z' H' _ _ _ lv
    have o6 : Ok B K Z' H' σ (remP ms xs η1) ((v, .val .non) :: ((.ref x, .mu none (.dt d)) :: (pl ms vs (flagsP ms xs η1) cs' ++ τ))) := by
      refine o5.perm ?_
      show ((V.ref x, En.mu none (.dt d)) :: (pl ms vs (flagsP ms xs η1) cs' ++ ((v, .val .non) :: τ))).Perm _
      exact ((List.perm_middle (l₁ := pl ms vs (flagsP ms xs η1) cs')).cons _).trans (.swap _ _ _)
    have ev : v = .non := o6.rp.see
    have o7 : Ok B K Z' H' σ (remP ms xs η1) (pl ms vs (flagsP ms xs η1) cs' ++ ((.ref x, .mu none (.dt d)) :: τ)) := o6.drop.perm List.perm_middle.symm
    exact ⟨ev, q Z' H' (.ref x) (.nw (call_put o1.1 o7))⟩
  · obtain ⟨c, cs', rfl, hw⟩ := h2 C' fs cs hxx
    have o5 : Ok B K Z' H' σ (remP ms xs η1) ((.ref x, .mu none c) :: (pl ms vs (flagsP ms xs η1) cs' ++ τ)) := back Z' H' _ [] [] lv
    exact hE C' d H' (lk C' fs _ Z' H' σ d hw (call_put o1.1 o5.drop) xd)
/-- the values in the parameters' order, the defaults among them: as data, as values -/
structure GOk (K : PySem.W.Frag) (n m : Nat) (gV : List V → List V → List V) (gD : List Dt → List Dt → List Dt) : Prop where
  go : ∀ {Z : Zs} {H : Hp} {x : V} {vs zs : List V} {ds es : List Dt}, vs.length = n → zs.length = m → RpAll K Z H vs ds → RpAll K Z H zs es → ∃ ws, gV (x :: vs) zs = x :: ws ∧ RpAll K Z H ws (gD ds es)
def rMakeK (C : Addr) (n m : Nat) (ms : List Md) (S : Spc) (gD : List Dt → List Dt → List Dt) (w : Addr → List (Str × Dt) → Env → Prop) (ra rk : RA) : RE := fun η Q => ra η fun xs η1 => ∃ ds, frzs η1 xs = some ds ∧ ds.length = n ∧
  rk η1 fun ys η2 => ∃ es, frzs η2 ys = some es ∧ es.length = m ∧ MakeQ C ms S w ((gD ds es).map .d) η2 Q
theorem de_makeK {C : Addr} {n m : Nat} {ms : List Md} {S : Spc} {gV : List V → List V → List V} {gD : List Dt → List Dt → List Dt} {t tk : TA} {ra rk : RA} {E : XK} (hE : ∀ σ C d H, X.W (.ref C) d σ H → E (.ref C) d H) (hg : GOk K n m gV gD) (ha : DA K X t ra) (hk : DA K X tk rk) :
    DE K X (tMakeK C n m (toSp K (.p :: ms) S) gV E t tk) (rMakeK C n m ms S gD X.w ra rk) := by
  constructor
  · intro η Q Q' hq q
    refine ha.mono _ _ _ ?_ q
    rintro xs η1 ⟨ds, e1, l1, q⟩
    refine ⟨ds, e1, l1, hk.mono _ _ _ ?_ q⟩
    rintro ys η2 ⟨es, e2, l2, as, e, hp, h1, h2⟩
    refine ⟨es, e2, l2, as, e, hp, fun y cs h => ?_, h2⟩
    obtain ⟨d, cs', e1, e2, q⟩ := h1 y cs h
    exact ⟨d, cs', e1, e2, hq _ _ q⟩
  intro B Z H σ η τ P lk o q
  refine ha.run B Z H σ η τ _ lk o (ha.mono _ _ _ ?_ q)
  rintro xs η1 ⟨ds, e1, l1, q⟩ Z1 H1 vs o1
  obtain ⟨Z2, z2, o2, r⟩ := o1.frzs e1
  -- the frozen positional ones are held while the keywords' values are told
  have ov := ok_vals r o2
  refine hk.run B Z2 H1 σ η1 _ _ lk.app ov.2 (hk.mono _ _ _ ?_ q)
  rintro ys η2 ⟨es, e2, l2, q⟩ Z3 H3 zs o3
  obtain ⟨Z4, z4, o4, r4⟩ := o3.frzs e2
  have r3 := tmp_rp r.length o4
  have lv : vs.length = n := by rw [r.length, l1]
  have lz : zs.length = m := by rw [r4.length, l2]
  refine ⟨lv, lz, fun x dx hx hdx ne => ?_⟩
  obtain ⟨ws, hw, rw_⟩ := hg.go (x := .ref x) lv lz r3 r4
  rw [hw]
  exact make_core (fun C d H => hE σ C d H) lk (ok_vals rw_ o4.drops) q hx hdx ne
end
end D

set_option Elab.async false
set_option linter.all false
set_option maxRecDepth 100000
set_option maxHeartbeats 4000000
/-! set(list) once for texts and whole numbers -/
namespace D
open PySem PySem.Spec PyProof.Rows L2
section
variable {P : Program} {w : World} {A : Around} {E : Value → Shared → Prop} {s : Shared}
/-- the set that is filled -/
abbrev eSet (w : World) : Obj := { cls := .type "set", dict := none, data := .set #[] 0 (.fresh 0 0 (!w.params.followText "set-order")) }
abbrev LtIt (l : Addr) (its : Array Value) (I : Addr) : Nat → Shared → Prop := fun i s => s.heap.IsListIter I l i ∧ s.heap.IsList l its
/-- what fills it -/
def Fills (P : Program) (w : World) (l : Addr) (its : Array Value) (S : Addr) (F : Heap → Prop) : Prop := ∀ (B : Around) (I : Addr) (t : Shared) (R : Result → Shared → Prop), WalksS P w B.in1 I [I, l] [I] (fun a b => b = a) its.size (fun i v => its[i]? = some v) (LtIt l its I) →
  S ∉ [I, l] → LtIt l its I 0 t → t.heap.get? S = some (eSet w) → (∀ t', Moved (S :: [I]) (fun a b => b = a) t t' → F t'.heap → R (.ok (.ret .none)) t') → codeAny (model P w) B (.builtin "set.update.loop" ⟨[.ref S, .ref I], []⟩) R t
set_option maxHeartbeats 6400000 in
theorem set_shell {l : Addr} {its : Array Value} {F : Heap → Prop} {Q : Value → Shared → Prop} (hh : A.handled = none) (hl : s.heap.IsList l its) (fi : Fills P w l its s.heap.objs.size F)
    (k : ∀ (h' : Heap) (tk : Nat), F h' → (∀ b o, s.heap.get? b = some o → h'.get? b = some o) → Q (.ref s.heap.objs.size) { s with heap := h', toks := tk }) : wpAny (model P w) A (call (.type "set") [.ref l]) Q E s := by
  obtain ⟨c0, c1, c2⟩ := PySem.F.called_set.mro
  have c3 := PySem.F.called_set.made
  have c4 := PySem.F.called_set.sub
  refine wpAny_call (codeAny_of_tree (show wpAny _ _ (callAny (.type "set") _) _ _ _ from wpAny_pure ⟨Code.quiet_builtin _ (by decide +kernel), codeAny_builtin PySem.F.entry_type_call ?_⟩))
  rw [Around.under_plain (weight_type_call_type "set" [.ref l] []) rfl]
  have c5 := PySem.F.called_set.notType
  have c6 := PySem.F.called_set.canCreate
  have c7 := PySem.F.typeCall_set_1 (.ref l)
  repeat (any_goals (first | wp_step | assumption))

  refine codeAny_mono (code_set_led1 (.ref l) (E := E) (Q₁ := fun y t => y = .ref s.heap.objs.size ∧ t = { s with heap := s.heap.push (eSet w) }) ⟨rfl, rfl⟩) fun r t ht => ?_
  match r, ht with
  | .error _, ht => exact ht
  | .ok .next, ht => exact ht.elim
  | .ok .brk, ht => exact ht.elim
  | .ok .cont, ht => exact ht.elim
  | .ok (.ret y), ht =>
    obtain ⟨rfl, rfl⟩ := ht
    have g0 : (s.heap.push (eSet w)).get? s.heap.objs.size = some (eSet w) := Heap.get?_push_size _ rfl
    have g1 : Shared.TypeIs { s with heap := s.heap.push (eSet w) } (.ref s.heap.objs.size) "set" := ⟨_, g0, rfl⟩
    have c8 := PySem.F.called_set.init.lookup
    have c9 := PySem.F.called_set.init.bind (.ref s.heap.objs.size)
    repeat (any_goals (first | wp_step | assumption))

    refine codeAny_mono (codeAny_call_builtin (R := wants (fun y t => y = .none ∧ ∃ h' tk, t = { s with heap := h', toks := tk } ∧ F h' ∧ ∀ b o, s.heap.get? b = some o → h'.get? b = some o) E) PySem.F.called_set.init.plain PySem.F.entry_set_init (check_set_init_1 g1 ?_)) fun r2 t2 h2 => ?_
    · obtain ⟨⟨o1, o2, o3, o4⟩, q0, q1, n1, q2⟩ := hl
      simp only at q1 q2
      subst q1; subst q2
      have q3 : (s.heap.push (eSet w)).get? l = some ⟨.type "list", o2, .seq its n1, o4⟩ := Heap.get?_push_of_some _ q0
      have d1 := PySem.F.sub_list_set
      have d2 := PySem.F.sub_list_frozenset
      have d3 : (Value.type "list" == Value.type "dict") = false := by decide
      have q4 : (s.heap.push (eSet w)).IsList l its := ⟨_, q3, rfl, n1, rfl⟩
      unfold Builtin.«set.__init__» noKeywords Builtin.Frozenset.updateFrom
      generalize hPI : pyIter = PI
      wp_walk
      subst hPI

      refine wpAny_pyIter_list q4 (wpAny_bind (wpAny_runValue ?_))
      have m0 : l < s.heap.objs.size := Heap.lt_size q0
      have m1 : A.in1.in1.in1.handled = none := by simp [hh]
      have m2 : (s.heap.push (eSet w)).objs.size = s.heap.objs.size + 1 := Heap.size_push ..
      have m3 : l ≠ (s.heap.push (eSet w)).objs.size := by
        rw [m2]
        exact Nat.ne_of_lt (Nat.lt_succ_of_lt m0)
      have m4 : s.heap.objs.size ∉ [(s.heap.push (eSet w)).objs.size, l] := by
        simp only [List.mem_cons, List.not_mem_nil, or_false, not_or]
        exact ⟨by rw [m2]; exact Nat.ne_of_lt (Nat.lt_succ_self _), Nat.ne_of_gt m0⟩
      refine fi _ _ _ _ (Walks.list m1 _ l m3 its).toS m4 ⟨⟨_, Heap.get?_push_size _ rfl, rfl, rfl⟩, q4.push _⟩ (Heap.get?_push_of_some _ g0) ?_
      rintro ⟨h', g', d', tk', os'⟩ mv hF
      obtain rfl : g' = s.gens := mv.gens
      obtain rfl : d' = s.drawn := mv.drawn
      obtain rfl : os' = s.os := mv.os
      show wpAny _ _ _ _ _ _
      refine wpAny_pure ?_
      show wpAny _ _ (ret Value.none) _ _ _
      refine wpAny_pure ⟨rfl, h', tk', rfl, hF, fun b o e => mv.heap b o ?_ (Heap.get?_push_of_some _ (Heap.get?_push_of_some _ e))⟩
      have m5 : b < s.heap.objs.size := Heap.lt_size e
      simp only [List.mem_cons, List.not_mem_nil, or_false, not_or]
      exact ⟨Nat.ne_of_lt m5, by rw [m2]; exact Nat.ne_of_lt (Nat.lt_succ_of_lt m5)⟩
    · match r2, h2 with
      | .error _, h2 => exact h2
      | .ok .next, h2 => exact h2.elim
      | .ok .brk, h2 => exact h2.elim
      | .ok .cont, h2 => exact h2.elim
      | .ok (.ret y), h2 =>
        obtain ⟨rfl, h', tk, rfl, hF, hk⟩ := h2
        repeat (any_goals (first | wp_step | assumption))
        exact k _ _ hF hk
/-- whole numbers -/
theorem fills_ints {l S : Addr} {its : Array Value} {ns : List Int} (hi : IntsAre its.toList ns) (hb : ns.length + 1 < scanBound) : Fills P w l its S (fun h => ∃ c, c ≤ ns.length ∧ SetR w h S (fun j => decide (j ∈ ns)) c) := by
  intro B I t R W hS st g hR
  have hn : its.size = ns.length := by
    have := IntsAre.length hi
    rwa [Array.length_toList] at this
  refine set_update_ints W S hS ns hn hb (fun i v hv => ?_) (its.size - 0) 0 t rfl (Nat.zero_le _) st ⟨0, Nat.le_refl 0, setR_new_at g⟩ fun t' c mv hc hr => hR t' mv ⟨c, by omega, hr⟩
  have h1 : i < ns.length := by
    rw [← hn]
    exact (Array.getElem?_eq_some_iff.mp hv).1
  obtain ⟨tk, e⟩ := PyProof.Rows.IntsAre.int_at hi i v (by rw [Array.getElem?_toList]; exact hv)
  refine ⟨ns[i], tk, List.getElem?_eq_getElem h1, ?_⟩
  rw [e, List.getD_eq_getElem?_getD, List.getElem?_eq_getElem h1]
  rfl
/-- how many texts are met for the first time -/
def cnS (xs : List Str) : Nat → Nat
  | 0 => 0
  | i + 1 => if (xs.take i).any (· == xs.getD i Str.empty) = true then cnS xs i else cnS xs i + 1
theorem cnS_le (xs : List Str) : ∀ i, cnS xs i ≤ i
  | 0 => Nat.le_refl _
  | i + 1 => by
    have := cnS_le xs i
    unfold cnS
    split <;> omega
theorem cnS_full {xs : List Str} : ∀ {i : Nat}, i ≤ xs.length → (cnS xs i = i ↔ (xs.take i).Nodup)
  | 0, _ => by simp [cnS]
  | i + 1, h => by
    have ih := cnS_full (xs := xs) (i := i) (by omega)
    have hle := cnS_le xs i
    have hg : xs.getD i Str.empty = xs[i] := by rw [List.getD_eq_getElem?_getD, List.getElem?_eq_getElem h]; rfl
    have ht : xs.take (i + 1) = xs.take i ++ [xs[i]] := by rw [List.take_add_one, List.getElem?_eq_getElem h]; rfl
    unfold cnS
    rw [hg, ht, List.nodup_append]
    by_cases q : (xs.take i).any (· == xs[i]) = true
    · rw [if_pos q]
      constructor
      · intro e
        omega
      · rintro ⟨_, _, h3⟩
        obtain ⟨y, hy, e⟩ := List.any_eq_true.mp q
        exact absurd (eq_of_beq e) (h3 y hy _ (by simp))
    · rw [if_neg q]
      constructor
      · intro e
        refine ⟨ih.mp (by omega), by simp, fun y hy z hz => ?_⟩
        rw [List.mem_singleton.mp hz]
        intro e
        exact q (List.any_eq_true.mpr ⟨y, hy, by rw [e]; exact beq_self_eq_true _⟩)
      · rintro ⟨h1, _, _⟩
        have := ih.mpr h1
        omega
theorem fills_texts {l S : Addr} {its : Array Value} {xs : List Str} (hi : StrsAre its.toList xs) (hb : xs.length + 1 < scanBound) : Fills P w l its S (fun h => h.SetOf (strKind P w) S (fun y => xs.any (· == y)) (cnS xs xs.length)) := by
  intro B I t R W hS st g hR
  have hn : its.size = xs.length := by
    have := StrsAre.len_eq hi
    rwa [Array.length_toList] at this
  have hw : S ∉ [I] := fun h => hS (W.sub _ h)
  suffices H : ∀ (k i : Nat) (u : Shared), its.size - i = k → i ≤ its.size → LtIt l its I i u → u.heap.SetOf (strKind P w) S (fun y => (xs.take i).any (· == y)) (cnS xs i) → Moved (S :: [I]) (fun a b => b = a) t u →
      codeAny (model P w) B (.builtin "set.update.loop" ⟨[.ref S, .ref I], []⟩) R u by
    refine H its.size 0 t rfl (Nat.zero_le _) st ?_ ?_
    · exact ⟨_, #[], 0, _, g, ⟨rfl, rfl, rfl⟩, rfl, (fun e he => by simp at he), (fun y => by simp), (by decide), (by rfl), rfl⟩
    · exact Moved.refl fun a => rfl
  intro k
  induction k with
  | zero =>
    intro i u hk hle hst hs mv
    obtain rfl : i = its.size := by omega
    refine codeAny_builtin PyProof.Rows.F.entry_set_update_loop ?_
    rw [Around.under_plainId PyProof.Rows.F.plain_set_update_loop _]
    show wpAny _ B.in1 (pyNext (.ref I) >>= _) _ _ u
    refine wpAny_bind (W.done u _ _ hst fun u' m => ?_)
    have m' := mv.trans W.gtrans (m.mono fun b hb => List.mem_cons_of_mem _ hb)
    obtain ⟨o, es, ep, tb, ho, z⟩ := hs
    have z' : u'.heap.SetOf (strKind P w) S (fun y => (xs.take its.size).any (· == y)) (cnS xs its.size) := ⟨o, es, ep, tb, m.heap S _ hw ho, z⟩
    rw [hn, List.take_length] at z'
    exact wpAny_pure (hR u' m' z')
  | succ k ih =>
    intro i u hk hle hst hs mv
    have hlt : i < its.size := by omega
    refine codeAny_builtin PyProof.Rows.F.entry_set_update_loop ?_
    rw [Around.under_plainId PyProof.Rows.F.plain_set_update_loop _]
    show wpAny _ B.in1 (pyNext (.ref I) >>= _) _ _ u
    refine wpAny_bind (W.item i u _ _ hlt hst fun v u' hP hst' m => ?_)
    obtain ⟨tk, rfl⟩ := SS.strs_at hi i v (by rw [Array.getElem?_toList]; exact hP)
    obtain ⟨o, es, ep, tb, ho, z⟩ := hs
    have z' : u'.heap.SetOf (strKind P w) S (fun y => (xs.take i).any (· == y)) (cnS xs i) := ⟨o, es, ep, tb, m.heap S _ hw ho, z⟩
    show wpAny _ B.in1 (holding [Value.str (xs.getD i Str.empty) tk] (setAdd S (.str (xs.getD i Str.empty) tk)) >>= _) _ _ u'
    unfold setAdd
    refine wpAny_bind (wpAny_holding (wpAny_holding (wpAny_bind ((strKind P w).pyHash (k := xs.getD i Str.empty) (strKind_is _ _ _ _) ?_))))
    have hc := cnS_le xs i
    refine wpAny_setAddHashed_of (knd := strKind P w) (s := { u' with toks := u'.toks + 1 }) (strKind_is _ _ _ _) rfl z' (by omega) fun h' hsb z2 => ?_
    have z3 : h'.SetOf (strKind P w) S (fun y => (xs.take (i + 1)).any (· == y)) (cnS xs (i + 1)) := by
      refine SetOf_congr z2 (fun y => ?_) (by rw [cnS])
      have hx : i < xs.length := by omega
      have hg : xs.getD i Str.empty = xs[i] := by rw [List.getD_eq_getElem?_getD, List.getElem?_eq_getElem hx]; rfl
      rw [List.take_add_one, List.getElem?_eq_getElem hx, List.any_append, hg]
      congr 1
      show decide (y = xs[i]) = [xs[i]].any (· == y)
      by_cases e : y = xs[i]
      · simp [e]
      · have hb : (xs[i] == y) = false := by simpa [beq_iff_eq] using fun q : xs[i] = y => e q.symm
        simp [e, hb]
    have hf : LtIt l its I (i + 1) { u' with heap := h', toks := u'.toks + 1 } := W.frame _ u' _ _ hst' (Nat.le_succ _) fun b hb o e => by
      rw [hsb.2 b fun h => hS (h ▸ hb)]
      exact e
    refine wpAny_pure ⟨plainId_quiet PyProof.Rows.F.plain_set_update_loop _, ih (i + 1) _ (by omega) hlt hf z3 ?_⟩
    refine mv.trans W.gtrans ((m.mono fun b hb => List.mem_cons_of_mem _ hb).then_heap (Nat.le_succ _) fun b o hb e => ?_)
    rw [hsb.2 b fun h => hb (h ▸ List.mem_cons_self ..)]
    exact e
end
end D

set_option Elab.async false
set_option linter.all false
set_option maxRecDepth 100000
set_option maxHeartbeats 4000000
namespace D
open PySem PySem.Spec PyProof.Rows L2
/-! len(set(texts)), sorted(set(whole numbers)) -/
def tLenTx (K : PySem.W.Frag) (ta : TE) : TE := fun σ H Q => ta σ H fun x H1 => ∃ (l : Addr) (xs : List Str), x = .ref l ∧ SqL K H1 l (xs.map V.str) ∧ xs.length ≤ 4000 ∧ Q (.int (cnS xs xs.length : Nat)) H1
def tSortSI (K : PySem.W.Frag) (ta : TE) : TE := fun σ H Q => ta σ H fun x H1 => ∃ (l : Addr) (ns : List Int), x = .ref l ∧ SqL K H1 l (ns.map V.int) ∧ ns.length < 64 ∧
  ∀ (ms : List Int) (p : Addr), ms.Pairwise (· < ·) → (∀ k, k ∈ ms ↔ k ∈ ns) → H1 p = none → Q (.ref p) (upd H1 p (.lst (ms.map V.int)))
section
variable {X : Cx} {a : Expr} {ta : TE} {p p2 q pos : Pos}
theorem pe_lenTx (hc : X.calm = true) (g1 : Gl X "len") (m1 : X.mg "len" = none) (g2 : Gl X "set") (m2 : X.mg "set" = none) (ha : PE X a ta) (na : starEach [a] X.env = (false, eval a X.env) :: starEach [] X.env := by rfl) :
    PE X (.Call (.Name "len" p) [.Call (.Name "set" p2) [a] [] q] [] pos) (tLenTx X.K ta) := by
  constructor
  intro pins s σ H Q I h
  refine Call_ (ld_blt I g1 m1 boot_len (PyProof.Rows.callWith_builtin1 (PyProof.Rows.args_cons (Call_ (ld_blt I g2 m2 PyProof.Rows.boot_set ?_)) rfl) rfl rfl))
  refine PyProof.Rows.callWith_type1 (PyProof.Rows.args_cons (thn (ha.run pins s σ H _ I h) ?_) na) na rfl
  rintro v t ⟨x, H1, I1, r1, l, xs, rfl, hs, hn, hq⟩
  refine PyProof.Rows.args_nil ?_
  cases r1
  obtain ⟨its, r, pl, _⟩ := I1.list hs
  have hx : StrsAre its.toArray.toList xs := by simpa using strsAre_of r
  have cl := cnS_le xs xs.length
  refine set_shell (I1.ok.hd hc) pl.isList (fills_texts hx (by unfold scanBound; omega)) fun h' tk hS hk => PyProof.Rows.args_nil ?_
  obtain ⟨o, es, ep, tb, z1, z2, z3, _, _, _, z4, z5⟩ := hS
  have I2 : Inv X pins σ H1 { t with heap := h', toks := tk } := I1.kept fun b o e => hk b o e
  exact call_len_set z1 z2 z3 z4 (by rw [z5]; omega) ⟨.int (cnS xs xs.length : Nat), H1, I2.tok _, ⟨_, by rw [z5]⟩, hq⟩
theorem sortSI_go {pins : List (Addr × Obj)} {σ : L2.St} {H : Hp} {s : Shared} {Q : VK} {l : Addr} {c : Nat} {ns : List Int} (hc : X.calm = true) (I : Inv X pins σ H s) (hS : SetR X.w s.heap l (fun j => decide (j ∈ ns)) c) (h64 : c < 64)
    (hq : ∀ (ms : List Int) (p : Addr), ms.Pairwise (· < ·) → (∀ k, k ∈ ms ↔ k ∈ ns) → H p = none → Q (.ref p) (upd H p (.lst (ms.map V.int)))) : wpAny (model X.prog X.w) X.A (call (.builtin "sorted") [.ref l]) (EP X pins σ Q) X.xe s := by
  refine sorted_set hS (I.ok.hd hc) h64 fun s' p out n ms k g o hp hg hi hso hm hl => ?_
  have hlen : (ms.map V.int).length ≤ sizeLine := by rw [List.length_map, hl, sizeLine_eq]; omega
  have hnew : H p = none := I.hok.fresh hp
  have J : Inv X pins σ (upd H p (.lst (ms.map V.int))) s' := I.call' (ch := []) o (Un.laid k hp hnew) (I.hok.laid k hp ⟨hlen, out.toList, n, vals_of_ints hi, hg⟩) (by rw [g]; exact I.bare) fun _ z => nomatch z
  exact ⟨.ref p, _, J, rfl, hq ms p hso (fun j => (hm j).trans decide_eq_true_iff) hnew⟩
theorem pe_sortSI (hc : X.calm = true) (g1 : Gl X "sorted") (m1 : X.mg "sorted" = none) (g2 : Gl X "set") (m2 : X.mg "set" = none) (ha : PE X a ta) (na : starEach [a] X.env = (false, eval a X.env) :: starEach [] X.env := by rfl) :
    PE X (.Call (.Name "sorted" p) [.Call (.Name "set" p2) [a] [] q] [] pos) (tSortSI X.K ta) := by
  constructor
  intro pins s σ H Q I h
  refine Call_ (ld_blt I g1 m1 PyProof.Rows.boot_sorted (PyProof.Rows.callWith_builtin1 (PyProof.Rows.args_cons (Call_ (ld_blt I g2 m2 PyProof.Rows.boot_set ?_)) rfl) rfl rfl))
  refine PyProof.Rows.callWith_type1 (PyProof.Rows.args_cons (thn (ha.run pins s σ H _ I h) ?_) na) na rfl
  rintro v t ⟨x, H1, I1, r1, l, ns, rfl, hs, hn, hq⟩
  refine PyProof.Rows.args_nil ?_
  cases r1
  obtain ⟨its, r, pl, _⟩ := I1.list hs
  have hx : IntsAre its.toArray.toList ns := by simpa using intsAre_of r
  refine set_shell (I1.ok.hd hc) pl.isList (fills_ints hx (by unfold scanBound; omega)) fun h' tk hS hk => PyProof.Rows.args_nil ?_
  obtain ⟨c, hc2, hS⟩ := hS
  have I2 : Inv X pins σ H1 { t with heap := h', toks := tk } := I1.kept fun b o e => hk b o e
  exact sortSI_go hc I2 hS (by omega) hq
end
/-! sorted(pairs of whole numbers) -/
def rSortP (K : PySem.W.Frag) : List V → Hp → VK → Prop := fun vs H Q => ∃ (a : Addr) (xs : List V) (ns : List (Int × Int)), vs = [V.ref a] ∧ SqL K H a xs ∧ xs.length = ns.length ∧ (∀ x ∈ xs.zip ns, ∃ t, x.1 = V.ref t ∧ SqT K H t [.int x.2.1, .int x.2.2]) ∧
  ∀ (zs : List (V × (Int × Int))) p, zs.Perm (xs.zip ns) → (zs.map (·.2)).Pairwise (fun m n => SrtO.lexB n m = false) → H p = none → Q (.ref p) (upd H p (.lst (zs.map (·.1))))
theorem pair_one {h : Heap} {v : Value} {i j k l : Int} (a : Srt.IsPair h v i j) (b : Srt.IsPair h v k l) : (i, j) = (k, l) := by
  obtain ⟨t, o, t1, t2, n, e1, e2, e3, e4⟩ := a
  obtain ⟨t', o', t1', t2', n', f1, f2, f3, f4⟩ := b
  rw [e1] at f1
  cases f1
  rw [e2] at f2
  cases f2
  rw [e4] at f4
  cases f4
  rfl
theorem zip_map_two {α β γ : Type} {f : γ → α} {g : γ → β} : ∀ (l : List γ), (l.map f).zip (l.map g) = l.map fun x => (f x, g x)
  | [] => rfl
  | x :: l => by rw [List.map_cons, List.map_cons, List.zip_cons_cons, zip_map_two l]; rfl
theorem cr_sortP {X : Cx} : CallR X (.builtin "sorted") (rSortP X.K) := by
  intro pins s σ H vs us Q I r h
  obtain ⟨a, xs, ns, rfl, hs, hl, hx, q⟩ := h
  obtain ⟨its, rv, hL, hz⟩ := I.list hs
  rw [Vals.ref1 r]
  have isp : ∀ (t : Addr) (i j : Int), SqT X.K H t [.int i, .int j] → Srt.IsPair s.heap (.ref t) i j := by
    intro t i j ht
    obtain ⟨its2, r2, ⟨o, ho, hc, n, hd⟩, _⟩ := I.tuple ht
    obtain ⟨u1, u2, rfl, ⟨t1, rfl⟩, ⟨t2, rfl⟩⟩ := vals2 r2
    exact ⟨t, o, t1, t2, n, rfl, ho, hc, hd⟩
  have xref : ∀ x ∈ xs, ∃ t n, x = V.ref t ∧ SqT X.K H t [.int n.1, .int n.2] ∧ (x, n) ∈ xs.zip ns := by
    intro x hm
    obtain ⟨i, hi, e⟩ := List.getElem_of_mem hm
    have hz : (xs.zip ns)[i]'(by rw [List.length_zip]; omega) = (x, ns[i]'(by omega)) := by rw [List.getElem_zip, e]
    have hm2 : (x, ns[i]'(by omega)) ∈ xs.zip ns := hz ▸ List.getElem_mem _
    obtain ⟨t, e1, e2⟩ := hx _ hm2
    exact ⟨t, _, e1, e2, hm2⟩
  obtain ⟨e1, e2⟩ := refs_back rv fun x m => by
    obtain ⟨t, _, e, _⟩ := xref x m
    exact ⟨t, e⟩
  open Classical in
  let k : Value → Int × Int := fun v => if h : ∃ n : Int × Int, Srt.IsPair s.heap v n.1 n.2 then Classical.choose h else (0, 0)
  have kis : ∀ v (n : Int × Int), Srt.IsPair s.heap v n.1 n.2 → k v = n := by
    intro v n hp
    have h : ∃ n : Int × Int, Srt.IsPair s.heap v n.1 n.2 := ⟨n, hp⟩
    have : k v = Classical.choose h := dif_pos h
    rw [this]
    exact pair_one (Classical.choose_spec h) hp
  have hn : ns = its.map k := by
    have hlen : its.length = ns.length := by rw [← rv.length]; exact hl
    refine List.ext_getElem (by rw [List.length_map]; exact hlen.symm) fun i h1 h2 => ?_
    rw [List.getElem_map]
    have h3 : i < xs.length := by omega
    have h4 : i < its.length := by omega
    have hm : (xs[i], ns[i]) ∈ xs.zip ns := by
      have : (xs.zip ns)[i]'(by rw [List.length_zip]; omega) = (xs[i], ns[i]) := List.getElem_zip
      exact this ▸ List.getElem_mem _
    obtain ⟨t, f1, f2⟩ := hx _ hm
    have f1 : xs[i] = V.ref t := f1
    obtain ⟨t2, f3⟩ := e2 its[i] (List.getElem_mem _)
    have f4 : xs[i] = backV its[i] := by simp only [e1, List.getElem_map]
    rw [f3] at f4
    rw [f1] at f4
    cases (show V.ref t = V.ref t2 from f4)
    rw [f3]
    exact (kis _ _ (isp _ _ _ f2)).symm
  refine SrtO.sorted_pairsO (k := k) hL.isList (by rw [← rv.length]; exact hz) (fun v hv => ?_) fun h' d out h1 h2 kp hd hnn => ?_
  · obtain ⟨t, rfl⟩ := e2 v hv
    have hm : V.ref t ∈ xs := by rw [e1]; exact List.mem_map.mpr ⟨_, hv, rfl⟩
    obtain ⟨t', n, e, ht, _⟩ := xref _ hm
    cases e
    have := isp _ _ _ ht
    rw [kis _ n this]
    exact this
  · have h3 : ∀ u ∈ out, ∃ a, u = Value.ref a := fun u hu => e2 u (h2.perm.mem_iff.mp hu)
    obtain ⟨n, hnn⟩ := hnn
    have hp : (out.map fun v => (backV v, k v)).Perm (xs.zip ns) := by
      rw [hn, e1, zip_map_two]
      exact h2.perm.map _
    have eo : (out.map fun v => (backV v, k v)).map (·.1) = out.map backV := by rw [List.map_map]; rfl
    have e3 : (out.map fun v => (backV v, k v)).map (·.2) = out.map k := by rw [List.map_map]; rfl
    have := q (out.map fun v => (backV v, k v)) d hp (by rw [e3]; exact List.pairwise_map.mpr h1) (I.hok.fresh hd)
    rw [eo] at this
    refine ⟨.ref d, upd H d (.lst (out.map backV)), I.laid (t' := s.toks) kp hd ⟨?_, out, n, vals_back h3, hnn⟩, rfl, this⟩
    rw [List.length_map, h2.perm.length_eq, ← rv.length]
    exact hz
/-! o.f as a target -/
def gFld (K : PySem.W.Frag) (to : TE) (f : Str) : TG := fun v σ H Q => to σ H fun x H1 => ∃ a C dx fs, x = .ref a ∧ H1 a = some (.ins C dx fs) ∧ Cls K C ∧ NoAttr K C f ∧ fs.length < 1000 ∧ Q σ (upd H1 a (.ins C dx (putF f v fs)))
theorem pg_fld {X : Cx} {o : Expr} {to : TE} {f : Str} {pos : Pos} (ho : PE X o to) : PG X (.Attribute o f pos) (gFld X.K to f) := by
  constructor
  intro pins s σ H v u Q I r h
  refine PySem.W.kas_attr (thn (ho.run pins s σ H _ I h) ?_)
  rintro ov t ⟨x, H1, I1, rx, a, C, dx, fs, rfl, ea, c, n, l, q⟩
  cases (show ov = Value.ref a from rx)
  exact setattr_ok I1 ea c n l r fun s3 I3 => ⟨σ, _, I3, q⟩
section
variable {K : PySem.W.Frag} {X : Wsh}
def rgFld (K : PySem.W.Frag) (ro : RE) (f : Str) : RG := fun d η Q => ro η fun x η1 => ∃ k p C fs, x = .sl k ∧ η1[k]? = some (some (.mu p (.dt (.ins C fs)))) ∧ Cls K C ∧ NoAttr K C f ∧ fs.length < 1000 ∧ Q (η1.set k (some (.mu p (.dt (.ins C (putD f d fs))))))
theorem dg_fld {to : TE} {ro : RE} {f : Str} (ho : DE K W0 to ro) : DG K [] (gFld K to f) (rgFld K ro f) := by
  constructor
  · intro d η Q Q' hq q
    refine ho.mono _ _ _ ?_ q
    rintro x η1 ⟨k, p, C, fs, e1, e2, e3, e4, e5, q⟩
    exact ⟨k, p, C, fs, e1, e2, e3, e4, e5, hq _ q⟩
  intro B Z H σ η τ v d P o q
  refine ho.run B Z H σ η _ _ .none o (ho.mono _ _ _ ?_ q)
  rintro x η1 ⟨k, p, C, fs, rfl, e2, e4, e5, e6, q⟩ Z2 H2 v2 o2
  have al : σ[k]? = some (some v2) := o2.1.1
  have o4 : Ok B K Z2 H2 σ η1 ((v, .val d) :: τ) := o2.2
  obtain ⟨w, hw, o5⟩ := o4.take e2
  rw [al] at hw; cases hw
  obtain ⟨a, rfl, nz, dx, ns, vs, ds, e0, l, hH, r⟩ := o5.notZ
  have rv := (o5.perm (List.Perm.swap _ _ _)).rp
  subst e0
  obtain ⟨ns', vs', ds', g1, g2, g3, g4⟩ := putF_zip (f := f) rv l r
  have hlen : (ns.zip vs).length < 1000 := by
    have h := e6
    rw [List.length_zip] at h ⊢
    have := r.length
    omega
  have o6 := o5.write (o := .ins C dx (putF f v (ns.zip vs))) (d' := .ins C (putD f d (ns.zip ds))) ⟨dx, ns', vs', ds', g2, g3, by rw [upd_same, g1], g4.write nz⟩
  have hk : k < η1.length := (List.getElem?_eq_some_iff.mp e2).1
  exact ⟨a, C, dx, _, rfl, hH, e4, e5, hlen, q _ _ σ (fun _ _ => rfl) ((o6.put hk al).drop)⟩
/-! by value -/
def rLenTx (re : RE) : RE := fun η Q => re η fun x η1 => ∃ xs : List Str, look η1 x = some (.lst (xs.map .str)) ∧ xs.length ≤ 4000 ∧ Q (.d (.int (cnS xs xs.length : Nat))) η1
theorem de_lenTx {ta : TE} {ra : RE} (ha : DE K X ta ra) : DE K X (tLenTx K ta) (rLenTx ra) := by
  constructor
  · intro η Q Q' hq q
    refine ha.mono _ _ _ ?_ q
    rintro x η1 ⟨xs, e, l, q⟩
    exact ⟨xs, e, l, hq _ _ q⟩
  intro B Z H σ η τ P lk o q
  refine ha.run B Z H σ η τ _ lk o (ha.mono _ _ _ ?_ q)
  rintro x η1 ⟨xs, e, l, q⟩ Z1 H1 v o1
  obtain ⟨a, vs, rfl, hs, r⟩ := o1.see e
  cases strs_of r
  exact ⟨a, xs, rfl, hs, l, q _ _ _ (.d o1.ok (.int _))⟩
def rSortSI (re : RE) : RE := fun η Q => re η fun x η1 => ∃ ns : List Int, look η1 x = some (.lst (ns.map .int)) ∧ ns.length < 64 ∧ ∀ ms : List Int, ms.Pairwise (· < ·) → (∀ k, k ∈ ms ↔ k ∈ ns) → Q (.nw (.lst (ms.map .int))) η1
theorem rpInts {Z : Zs} {H : Hp} : ∀ ms : List Int, RpAll K Z H (ms.map V.int) (ms.map Dt.int)
  | [] => .nil
  | m :: ms => .cons (.int m) (rpInts ms)
theorem de_sortSI {ta : TE} {ra : RE} (ha : DE K X ta ra) : DE K X (tSortSI K ta) (rSortSI ra) := by
  constructor
  · intro η Q Q' hq q
    refine ha.mono _ _ _ ?_ q
    rintro x η1 ⟨xs, e, l, q⟩
    exact ⟨xs, e, l, fun ms h h' => hq _ _ (q ms h h')⟩
  intro B Z H σ η τ P lk o q
  refine ha.run B Z H σ η τ _ lk o (ha.mono _ _ _ ?_ q)
  rintro x η1 ⟨ns, e, l, q⟩ Z1 H1 v o1
  obtain ⟨a, vs, rfl, hs, r⟩ := o1.see e
  cases ints_of r
  exact ⟨a, ns, rfl, hs, l, fun ms p h h' hp => q ms h h' _ _ _ (o1.ok.newLst (rpInts ms) hp)⟩
def pairI (n : Int × Int) : Dt := .tup [.int n.1, .int n.2]
def roSortP : ROs := fun xs η Q => ∃ x ns, xs = [x] ∧ frz η x = some (.lst (ns.map pairI)) ∧ ∀ ms : List (Int × Int), ms.Perm ns → ms.Pairwise (fun m n => SrtO.lexB n m = false) → Q (.nw (.lst (ms.map pairI))) η
theorem rp_pairs {Z : Zs} {H : Hp} {vs : List V} {ns : List (Int × Int)} (r : RpAll K Z H vs (ns.map pairI)) : vs.length = ns.length ∧ ∀ x ∈ vs.zip ns, Rp K Z H x.1 (pairI x.2) := by
  induction ns generalizing vs with
  | nil => cases r; exact ⟨rfl, fun x hx => by simp at hx⟩
  | cons n ns ih =>
    cases r with
    | cons a b =>
      obtain ⟨h1, h2⟩ := ih b
      refine ⟨by simp [h1], fun x hx => ?_⟩
      rcases List.mem_cons.mp (show x ∈ (_, n) :: _ from hx) with rfl | hx
      · exact a
      · exact h2 x hx
theorem pairs_rp {Z : Zs} {H : Hp} : ∀ {zs : List (V × (Int × Int))}, (∀ x ∈ zs, Rp K Z H x.1 (pairI x.2)) → RpAll K Z H (zs.map (·.1)) ((zs.map (·.2)).map pairI)
  | [], _ => .nil
  | z :: zs, h => .cons (h z (by simp)) (pairs_rp fun x hx => h x (by simp [hx]))
theorem dc_sortP : DC K (rSortP K) roSortP := by
  constructor
  · rintro xs η Q Q' hq ⟨x, ns, e1, e2, q⟩
    exact ⟨x, ns, e1, e2, fun ms h h' => hq _ _ (q ms h h')⟩
  rintro B Z H σ η τ xs vs P o ⟨x, ns, rfl, e2, q⟩
  obtain ⟨v, rfl⟩ : ∃ v, vs = [v] := by
    have := o.1.length
    match vs, this with
    | [v], _ => exact ⟨v, rfl⟩
  obtain ⟨Z1, z1, o1⟩ := o.frz e2
  obtain ⟨a, ws, rfl, hs, r⟩ := o1.rp.see
  obtain ⟨h1, h2⟩ := rp_pairs r
  refine ⟨a, ws, ns, rfl, hs, h1, fun y hy => ?_, fun zs p hp hw hf => ?_⟩
  · obtain ⟨t, us, e, s, r2⟩ := (h2 y hy).see
    refine ⟨t, e, ?_⟩
    cases r2 with
    | cons r3 r2 =>
      cases r2 with
      | cons r4 r2 =>
        cases r2
        cases r3
        cases r4
        exact s
  · have hm : (zs.map (·.2)).Perm ns := by
      have := hp.map (·.2)
      rwa [List.map_snd_zip (by omega)] at this
    exact q _ hm hw _ _ _ (o1.drop.newLst (pairs_rp fun y hy => h2 y (hp.mem_iff.mp hy)) hf)
def rPar3 (ra : RA) (i j l : Nat) : RS := fun D η => ra η fun xs η1 => ∃ ds, frzs η1 xs = some ds ∧ ∃ d e f, ds = [d, e, f] ∧ i < η1.length ∧ j < η1.length ∧ l < η1.length ∧ D.nx (((η1.set i (some (.val d))).set j (some (.val e))).set l (some (.val f)))
theorem ds_par3 {ta : TA} {ra : RA} {i j l : Nat} (ha : DA K X ta ra) : DS K X (tPar3 i j l ta) (rPar3 ra i j l) := by
  constructor
  · intro η D D' hd q
    refine ha.mono _ _ _ ?_ q
    rintro x η1 ⟨ds, e, d, d', d3, e2, hi, hj, hl, q⟩
    exact ⟨ds, e, d, d', d3, e2, hi, hj, hl, hd.nx _ q⟩
  intro B Z H σ η τ E lk o q
  refine ha.run B Z H σ η τ _ lk o (ha.mono _ _ _ ?_ q)
  rintro xs η1 ⟨ds, e, d, d', d3, rfl, hi, hj, hl, q⟩ Z1 H1 vs o1
  obtain ⟨Z2, z2, o2, r⟩ := o1.frzs e
  cases r with
  | @cons v vs _ _ r1 r =>
    cases r with
    | @cons w vs _ _ r2 r =>
      cases r with
      | @cons u vs _ _ r3 r =>
        cases r
        refine ⟨v, w, u, rfl, ?_⟩
        have o3 := (o2.val r1).store hi
        have o4 := (o3.val r2).store (by rw [List.length_set]; exact hj)
        exact q Z2 H1 _ ((o4.val r3).store (by rw [List.length_set, List.length_set]; exact hl))
def roRepT : RO2 := fun x y η Q => ∃ xs k, frz η x = some (.tup xs) ∧ look η y = some (.int k) ∧ xs ≠ [] ∧ 2 ≤ k ∧ k ≤ 1000 ∧ xs.length ≤ 1000 ∧ Q (.d (.tup (List.replicate k.toNat xs).flatten)) η
theorem d2_repT : D2 K (rRepT K) roRepT := by
  constructor
  · rintro x y η Q Q' hq ⟨xs, k, e1, e2, e3, e4, e5, e6, q⟩
    exact ⟨xs, k, e1, e2, e3, e4, e5, e6, hq _ _ q⟩
  rintro B Z H σ η τ x y v w P o ⟨xs, k, e1, e2, e3, e4, e5, e6, q⟩
  cases (show w = .int k from o.tail.see e2)
  obtain ⟨Z1, z1, o1⟩ := o.head.frz e1
  obtain ⟨a, vs, rfl, s, r⟩ := o1.rp.see
  have l := r.length
  have o2 : Ok B K Z1 H σ η τ := o1.drop.drops
  refine ⟨a, k, vs, rfl, rfl, s, ?_, e4, e5, by omega, fun p hp => q _ _ _ (o2.newTup (r.rep _) hp)⟩
  rintro rfl
  cases xs with
  | nil => exact e3 rfl
  | cons _ _ => simp at l
end
/-! C(e, .., k = v, ..) with a wish that hangs on the frame -/
def tMakeKS (C : Addr) (n m : Nat) (sp : Sp) (gV : List V → List V → List V) (E : L2.St → XK) (t tk : TA) : TE := fun σ H Q => t σ H fun vs H1 => tk σ H1 fun zs H2 => vs.length = n ∧ zs.length = m ∧ ∀ x dx, H2 x = none → H2 dx = none → dx ≠ x →
  sp (gV (.ref x :: vs) zs) (upd (upd H2 dx (.own x)) x (.ins C dx [])) (fun v H3 => v = .non ∧ Q (.ref x) H3) (E σ)
section
variable {X : Cx} {CT : CXT} {k n : Nat} {f C : Addr} {fd : FuncData} {ps ks : List Str} {sp : Sp} {E : L2.St → XK} {x : Str} {p pos : Pos} {e : Expr} {es : List Expr} {kws : List Keyword} {t tk : TA} {g : List Value → List Value → List Value} {gV : List V → List V → List V}
theorem goK {pins : List (Addr × Obj)} {σ : L2.St} {H : Hp} {s : Shared} {Q : VK} {us ws : List Value} {vs zs : List V} (M : Mk X.K C f) (F : FnOk X.prog X.w X.K X.mg X.base CT k f fd ps sp) (hr : Room (k + 1) X.A) (hb : KBn X.K fd ps (n + 1) ks g gV) (hx : PassesAt CT X σ (E σ)) (I : Inv X pins σ H s)
    (r : Vals vs us) (rz : Vals zs ws) (l1 : vs.length = n) (l2 : zs.length = ks.length) (h : ∀ x dx, H x = none → H dx = none → dx ≠ x → sp (gV (.ref x :: vs) zs) (upd (upd H dx (.own x)) x (.ins C dx [])) (fun v H2 => v = .non ∧ Q (.ref x) H2) (E σ)) :
    wpAny (model X.prog X.w) X.A (call (.ref C) us (ks.zip ws)) (EP X pins σ Q) X.xe s := by
  generalize hn : s.heap.objs.size = N
  have f1 : H (N + 1) = none := I.hok.fresh (by rw [hn]; exact Nat.le_succ N)
  have f0 : H N = none := I.hok.fresh (by rw [hn]; exact Nat.le_refl N)
  have hq := h (N + 1) N f1 f0 (Nat.ne_of_lt (Nat.lt_succ_self N))
  have I2 := Inv.made (C := C) I
  rw [hn] at I2
  have r1 : Vals (V.ref (N + 1) :: vs) (Value.ref (N + 1) :: us) := .cons rfl r
  have n1 : (Value.ref (N + 1) :: us).length = n + 1 := by rw [← r1.length, List.length_cons, l1]
  have b := hb.to _ (Value.ref (N + 1) :: us) ws I2.kIn n1 (rz.length.symm.trans l2)
  have r2 := hb.rel r1 rz
  subst hn
  refine wpAny_call (make_map (f := f) I.kIn M.makes M.init (beq_iff_eq.mp M.fn) ?_)
  refine codeAny_mono (F.run _ X.stack _ _ ⟨Value.ref (s.heap.objs.size + 1) :: us, ks.zip ws⟩ _ _ _ (E σ) (hr.make C us (ks.zip ws)) (I2.env0.make C us (ks.zip ws)) b r2 hq) ?_
  intro r s' hq'
  match r, hq' with
  | .error e, hq' => exact hx pins _ _ e s' I2 hq'
  | .ok (.ret u), hq' =>
    obtain ⟨v, H', I3, rv, ev, q3⟩ := I2.after hq'
    cases ev
    exact ⟨rv, ⟨V.ref (s.heap.objs.size + 1), H', I3, rfl, q3⟩⟩
  | .ok .next, hq' => exact False.elim hq'
  | .ok .brk, hq' => exact False.elim hq'
  | .ok .cont, hq' => exact False.elim hq'
theorem pe_makeKS (M : Mk X.K C f) (F : FnOk X.prog X.w X.K X.mg X.base CT k f fd ps sp) (hr : Room (k + 1) X.A) (hg : Gl X x) (hm : X.mg x = some (.ref C)) (hb : KBn X.K fd ps (n + 1) ks g gV) (hx : ∀ σ, PassesAt CT X σ (E σ)) (ha : PA X (e :: es) t) (hkw : PK X kws tk)
    (a1 : (backToKw pos (keywordEach kws X.env)).all (·.1.isSome) = true := by rfl) (a2 : (backToKw pos (keywordEach kws X.env)).filterMap (·.1) = ks := by rfl) (a3 : (x == ("__debug__" : Str)) = false := by decide)
    (a4 : starEach (e :: es) X.env = (false, eval e X.env) :: starEach es X.env := by rfl) (a5 : ((backTo pos (starEach (e :: es) X.env)).any (·.1) || (backToKw pos (keywordEach kws X.env)).any (·.1.isNone)) = false := by rfl) : PE X (.Call (.Name x p) (e :: es) kws pos) (tMakeKS C n ks.length sp gV E t tk) := by
  constructor
  intro pins s σ H Q I h
  refine wpAny_Call_Name_kw (ld_glob I hg hm (PySem.W.callWith_KW (h₀ := X.base) I.ok.mod.kin M.kp a1 (thn (ha.run pos pins s σ H _ I h) ?_) a5 a4) a3)
  rintro us t1 ⟨vs, H1, I1, r, q⟩
  refine thn (hkw.run pos pins t1 σ H1 _ I1 q) ?_
  rintro ws t2 ⟨zs, H2, I2, rz, l1, l2, q2⟩
  refine ⟨I2.kIn, ?_⟩
  rw [a2]
  exact goK M F hr hb (hx σ) I2 r rz l1 l2 q2
end
section
variable {K : PySem.W.Frag} {X : Wsh}
theorem de_makeKS {C : Addr} {n m : Nat} {ms : List Md} {S : Spc} {gV : List V → List V → List V} {gD : List Dt → List Dt → List Dt} {t tk : TA} {ra rk : RA} {E : L2.St → XK} (hE : ∀ σ C d H, X.W (.ref C) d σ H → E σ (.ref C) d H) (hg : GOk K n m gV gD) (ha : DA K X t ra) (hk : DA K X tk rk) :
    DE K X (tMakeKS C n m (toSp K (.p :: ms) S) gV E t tk) (rMakeK C n m ms S gD X.w ra rk) := by
  constructor
  · intro η Q Q' hq q
    refine ha.mono _ _ _ ?_ q
    rintro xs η1 ⟨ds, e1, l1, q⟩
    refine ⟨ds, e1, l1, hk.mono _ _ _ ?_ q⟩
    rintro ys η2 ⟨es, e2, l2, as, e, hp, h1, h2⟩
    refine ⟨es, e2, l2, as, e, hp, fun y cs h => ?_, h2⟩
    obtain ⟨d, cs', e1, e2, q⟩ := h1 y cs h
    exact ⟨d, cs', e1, e2, hq _ _ q⟩
  intro B Z H σ η τ P lk o q
  refine ha.run B Z H σ η τ _ lk o (ha.mono _ _ _ ?_ q)
  rintro xs η1 ⟨ds, e1, l1, q⟩ Z1 H1 vs o1
  obtain ⟨Z2, z2, o2, r⟩ := o1.frzs e1
  have ov := ok_vals r o2
  refine hk.run B Z2 H1 σ η1 _ _ lk.app ov.2 (hk.mono _ _ _ ?_ q)
  rintro ys η2 ⟨es, e2, l2, q⟩ Z3 H3 zs o3
  obtain ⟨Z4, z4, o4, r4⟩ := o3.frzs e2
  have r3 := tmp_rp r.length o4
  have lv : vs.length = n := by rw [r.length, l1]
  have lz : zs.length = m := by rw [r4.length, l2]
  refine ⟨lv, lz, fun x dx hx hdx ne => ?_⟩
  obtain ⟨ws, hw, rw_⟩ := hg.go (x := .ref x) lv lz r3 r4
  rw [hw]
  exact make_core (E := E σ) (hE σ) lk (ok_vals rw_ o4.drops) q hx hdx ne
end
end D

set_option Elab.async false
set_option linter.all false
/-! // by divisors beyond 2 ^ 30: the kit's op_fdivW, here to be importable -/

set_option Elab.async false
set_option linter.all false
set_option maxRecDepth 100000
set_option maxHeartbeats 4000000
/-! == and != by an own __eq__ that tells either -/
namespace PySem.W
open PySem PyProof.Rows
open Builtin
section
variable {prog : Program} {w : World} {A : Around} {E : Value → Shared → Prop} {s : Shared} {K : Frag} {x C L f : Addr} {h₀ : Heap} {m : Str → Option Value} {ox : Obj} {od : Option Obj} {b tb : Value}
theorem ifBound_B {M : Model} {args : List Value} {name : Str} {id T : String} {Q : Option Value → Shared → Prop} (X : K.In s.heap) (I : InstAt s.heap x ox C od) (hs : findIn K (.ref C) name = some (some (.builtin id))) (S : Slot T name id)
    (h : wpAny M A (call (.builtin id) (.ref x :: args)) (fun v => Q (some v)) E s) : wpAny M A (callSpecialIfBound? (.ref x) name args) Q E s := by
  simp only [callSpecialIfBound?, bindSpecialIfBound?]
  refine wpAny_holding (wpAny_bind (wpAny_bind (wpAny_bind (I.type.here ((looks_findIn X hs).here ?_)))))
  have fin : wpAny M A (call (.builtin id) ([.ref x] ++ args) >>= fun v => pure (some v)) Q E s := wpAny_bind (wpAny_mono h (fun v s' h' => wpAny_pure h') fun _ _ h' => h')
  simp only [S.bind]
  refine wpAny_bind (wpAny_askSetting (wpAny_ite ?_))
  split
  · exact wpAny_bind (wpAny_pure (wpAny_pure fin))
  · exact wpAny_tryCatch (wpAny_bind (wpAny_pure (wpAny_pure fin)))
theorem ne_entry (X : K.In s.heap) (I : InstAt s.heap x ox C od) (hs : findIn K (.ref C) "__eq__" = some (some (.ref f))) (hf : isFn K (.ref f) = true) (hu : A.units < cLine) {Q : Fin → Shared → Prop}
    (hcall : wpAny (model prog w) A (call (.ref f) [.ref x, b]) (fun v s' => ∃ q, v = .bool q ∧ Q (.done (.ret (.bool (!q)))) s') E s) :
    wpAny (model prog w) A (Builtin.«object.__ne__» ⟨[.ref x, b], []⟩) Q E s := by
  obtain ⟨h, g, d, t, os⟩ := s
  unfold Builtin.«object.__ne__»
  repeat (first
    | with_reducible refine wpAny_cRoomFor hu ?_
    | (refine wpAny_bind (m := callSpecialIfBound? (.ref x) (Str.ofString "__eq__") [b])
        (ifBound_K X I hs hf (wpAny_mono hcall (fun r s' hr => by
          obtain ⟨q, rfl, hq⟩ := hr
          repeat (first | exact hq | exact wpAny_pure hq | exact wpAny_truthy_bool hq | (refine wpAny_bind (m := truthy (.bool _)) (wpAny_truthy_bool ?_)) | wp_step)) fun _ _ e => e)))
    | wp_step)
theorem check_K {M : Model} {id owner n : String} {rest : List Value} {Q : Unit → Shared → Prop} (X : K.In s.heap) (I : InstAt s.heap x ox C od) (hk : builtinKind id = some .slot) (hsp : splitId id = some (owner, n))
    (ha : argsOk id ⟨.ref x :: rest, []⟩) (hob : subIn K (.ref C) (.type owner) = some true) (hq : Q () s) : wpAny M A (checkBuiltinCall id ⟨.ref x :: rest, []⟩) Q E s := by
  simp only [checkBuiltinCall, hk, hsp]
  refine wpAny_bind ?_
  unfold isInstance
  refine wpAny_bind (I.type.here ((looks_subIn X hob).here ?_))
  simp only [Bool.not_true, Bool.false_eq_true, if_false]
  cases hsig : Manifest.signature? id with
  | none => exact wpAny_pure hq
  | some sig =>
    simp only [argsOk, hsig] at ha
    have h2 : Bind.checkArgs id sig ⟨.ref x :: rest, []⟩ = pure () := ha
    show wpAny M A (Bind.checkArgs id sig ⟨.ref x :: rest, []⟩) Q E _
    rw [h2]; exact wpAny_pure hq
theorem ne_K {Q : Value → Shared → Prop} (hu : A.units + 1 < cLine) (hF : Fr h₀ L s.heap m) (X₀ : K.In h₀) (I : InstAt s.heap x ox C od) (hb : Looks (model prog w) s.heap (typeOf b) tb) (hn : notFirst K C tb = true)
    (hne : findIn K (.ref C) "__ne__" = some (some (.builtin "object.__ne__"))) (hob : subIn K (.ref C) (.type "object") = some true)
    (hs : findIn K (.ref C) "__eq__" = some (some (.ref f))) (hf : isFn K (.ref f) = true)
    (h : wpAny (model prog w) A.in1 (call (.ref f) [.ref x, b]) (fun v s' => ∃ q, v = .bool q ∧ Q (.bool (!q)) s') E s) : wpAny (model prog w) A (richCompare .NotEq (.ref x) b) Q E s := by
  have X := X₀.keeps hF.keep
  have one : wpAny (model prog w) A (tryCompare (.ref x) "__ne__" b) (fun r s' => ∃ v, r = some v ∧ Q v s') E s := by
    unfold tryCompare
    refine wpAny_bind (ifBound_B X I hne F.cmp_object.ne (wpAny_call (codeAny_call_builtin F.cmp_object.ne.plain F.cmpEntry_ne
      (check_K X I F.cmpKind_ne F.cmpSplit_ne (F.cmpArgs_ne _ _) hob (ne_entry (A := A.in1) X I hs hf hu (wpAny_mono h (fun v s' hv => ?_) fun _ _ e => e))))))
    obtain ⟨q, rfl, hq⟩ := hv
    exact ⟨q, rfl, wpAny_pure ⟨_, rfl, hq⟩⟩
  unfold richCompare
  simp only [oneThing_ref]
  refine wpAny_holding (wpAny_bind (wpAny_cRoomFor (Nat.lt_of_succ_lt hu) ?_))
  refine wpAny_bind (I.type.here (wpAny_bind (hb.here ?_)))
  split
  · rename_i q
    have e : subIn K tb (.ref C) = some false := by
      rcases Bool.or_eq_true_iff.mp hn with e | e
      · rw [beq_iff_eq.mp e] at q; simp at q
      · exact beq_iff_eq.mp e
    refine wpAny_bind ((looks_subIn X e).here ?_)
    simp only [Bool.false_eq_true, if_false]
    refine wpAny_bind (wpAny_mono one (fun r s' z => ?_) fun _ _ e => e)
    obtain ⟨v, rfl, hq⟩ := z
    exact wpAny_pure hq
  · refine wpAny_bind (wpAny_pure ?_)
    simp only [Bool.false_eq_true, if_false]
    refine wpAny_bind (wpAny_mono one (fun r s' z => ?_) fun _ _ e => e)
    obtain ⟨v, rfl, hq⟩ := z
    exact wpAny_pure hq
end
end PySem.W
namespace D
open PySem PySem.Spec PyProof.Rows L2
theorem own_call {X : Cx} {k : Nat} {f : Addr} {fd : FuncData} {ps : List Str} {sp : Sp} {A : Around} {pins : List (Addr × Obj)} {σ : L2.St} {H : Hp} {s : Shared} {Q : VK} {us : List Value} {vs : List V} (F : FnOk X.prog X.w X.K X.mg X.base CX0 k f fd ps sp)
    (hr : Room k A) (fr : A.frames = X.A.frames) (hb : Binds X.K fd ps []) (I : Inv X pins σ H s) (r : Vals vs us) (h : sp vs H Q E0) : wpAny (model X.prog X.w) A (call (.ref f) us) (EP X pins σ Q) X.xe s := by
  have hl : us.length = ps.length := by rw [← r.length]; exact F.len _ _ _ _ h
  have b := hb s us I.kIn (by rw [List.append_nil]; exact hl)
  rw [List.append_nil] at b
  have e0 : Env0 X.prog X.w X.K X.mg X.base A X.stack s H := by
    have e := I.env0
    exact ⟨by rw [fr]; exact e.frames, e.mod, e.bs, e.bsz, e.funs, e.frf, e.hok, e.bare⟩
  refine wpAny_call (codeAny_mono (F.run A X.stack s H ⟨us, []⟩ us vs Q E0 hr e0 b r h) fun r s' hq => ?_)
  cases r with
  | error e => exact False.elim hq
  | ok fl =>
    cases fl with
    | ret u => exact I.after hq
    | next => exact False.elim hq
    | brk => exact False.elim hq
    | cont => exact False.elim hq
/-- x == y, x != y of two objects of the class at C by its own == -/
def rOwnB (C : Addr) (sp : Sp) (g : Bool → Bool) : R2 := fun x y H Q => ∃ a dx fs b dy gs, x = .ref a ∧ y = .ref b ∧ H a = some (.ins C dx fs) ∧ H b = some (.ins C dy gs) ∧ sp [.ref a, .ref b] H (fun v H' => ∃ r, v = .bl r ∧ Q (.bl (g r)) H') E0
structure OwnNe (K : PySem.W.Frag) (C : Addr) : Prop where
  ne : PySem.W.findIn K (.ref C) "__ne__" = some (some (.builtin "object.__ne__"))
  ob : PySem.W.subIn K (.ref C) (.type "object") = some true
section
variable {X : Cx} {k : Nat} {f C : Addr} {fd : FuncData} {ps : List Str} {sp : Sp}
theorem op_eqB (F : FnOk X.prog X.w X.K X.mg X.base CX0 k f fd ps sp) (hr : Room (k + 1) X.A) (hm : Meth X.K C "__eq__" f) (hb : Binds X.K fd ps []) : OpR X (compareOp .Eq) (rOwnB C sp id) := by
  intro pins s σ H x y u v Q I rx ry hq
  obtain ⟨a, dx, fs, b, dy, gs, rfl, rfl, ha, hb', hsp⟩ := hq
  cases rx
  cases ry
  obtain ⟨mA, J, _⟩ := ins_get I.hok ha
  obtain ⟨mB, J', _⟩ := ins_get I.hok hb'
  obtain ⟨od, J, _⟩ := J.look
  obtain ⟨od', J', _⟩ := J'.look
  obtain ⟨m, hF⟩ := I.fr
  show wpAny (model X.prog X.w) X.A (richCompare .Eq (.ref a) (.ref b)) (EP X pins σ Q) X.xe s
  refine PySem.W.cmp_K (op := .Eq) (tb := .ref C) hr.units0 hF I.ok.mod.kin J J'.type (by simp [PySem.W.notFirst]) hm.at_ hm.fn ?_
  have r2 : Vals [V.ref a, V.ref b] [Value.ref a, Value.ref b] := .cons rfl (.cons rfl .nil)
  refine wpAny_mono (own_call F (hr.mono (Nat.le_succ k)) rfl hb I r2 hsp) (fun r s' q => ?_) fun _ _ x => x
  obtain ⟨z, H', I', rz, q0, ez, q⟩ := q
  subst ez
  have rz : r = .bool q0 := rz
  subst rz
  exact ⟨.bl q0, H', I', rfl, q⟩
theorem op_neB (F : FnOk X.prog X.w X.K X.mg X.base CX0 k f fd ps sp) (hr : Room (k + 1) X.A) (hm : Meth X.K C "__eq__" f) (hn : OwnNe X.K C) (hb : Binds X.K fd ps []) : OpR X (compareOp .NotEq) (rOwnB C sp not) := by
  intro pins s σ H x y u v Q I rx ry hq
  obtain ⟨a, dx, fs, b, dy, gs, rfl, rfl, ha, hb', hsp⟩ := hq
  cases rx
  cases ry
  obtain ⟨mA, J, _⟩ := ins_get I.hok ha
  obtain ⟨mB, J', _⟩ := ins_get I.hok hb'
  obtain ⟨od, J, _⟩ := J.look
  obtain ⟨od', J', _⟩ := J'.look
  obtain ⟨m, hF⟩ := I.fr
  show wpAny (model X.prog X.w) X.A (richCompare .NotEq (.ref a) (.ref b)) (EP X pins σ Q) X.xe s
  refine PySem.W.ne_K (tb := .ref C) hr.in1.units0 hF I.ok.mod.kin J J'.type (by simp [PySem.W.notFirst]) hn.ne hn.ob hm.at_ hm.fn ?_
  have r2 : Vals [V.ref a, V.ref b] [Value.ref a, Value.ref b] := .cons rfl (.cons rfl .nil)
  refine wpAny_mono (own_call F hr.in1 rfl hb I r2 hsp) (fun r s' q => ?_) fun _ _ x => x
  obtain ⟨z, H', I', rz, q0, ez, q⟩ := q
  subst ez
  have rz : r = .bool q0 := rz
  subst rz
  exact ⟨_, rfl, .bl (!q0), H', I', rfl, q⟩
end
def roOwnB (C : Addr) (ms : List Md) (S : Spc) (g : Bool → Bool) : RO2 := fun x y η Q => (∃ fs gs, look η x = some (.ins C fs) ∧ look η y = some (.ins C gs)) ∧
  ∃ as, argsD ms [x, y] η = some as ∧ S.pre as ∧ (∀ z cs, S.post as z cs → ∃ r, z = .d (.bl r) ∧ Q (.d (.bl (g r))) (aft ms [x, y] η cs)) ∧ ∀ C fs cs, ¬ S.exc as C fs cs
theorem d2_ownB {K : PySem.W.Frag} {C : Addr} {ms : List Md} {S : Spc} {g : Bool → Bool} : D2 K (rOwnB C (toSp K ms S) g) (roOwnB C ms S g) := by
  constructor
  · rintro x y η Q Q' hq ⟨h1, as, e, hp, h2, h3⟩
    refine ⟨h1, as, e, hp, fun z cs h => ?_, h3⟩
    obtain ⟨r, e', q⟩ := h2 z cs h
    exact ⟨r, e', hq _ _ q⟩
  rintro B Z H σ η τ x y v w P o ⟨⟨fs, gs, e1, e2⟩, as, e, hp, h2, h3⟩
  obtain ⟨s1, s2⟩ := o.see2 e1 e2
  obtain ⟨a, dx, ns, vs, ds, rfl, rfl, l, h, r⟩ := see_ins s1
  obtain ⟨b, dy, ns', vs', ds', rfl, rfl, l', h', r'⟩ := see_ins s2
  refine ⟨a, dx, _, b, dy, _, rfl, rfl, h, h', ?_⟩
  obtain ⟨Z2, G', hA, hG, hz, back⟩ := call_core o e
  refine ⟨as, Z2, G', hA, hG, hz, hp, fun y' cs' hpost Z' H' v' lv => ?_, fun C' fs cs' hx => absurd hx (h3 _ _ _)⟩
  obtain ⟨r0, rfl, q⟩ := h2 y' cs' hpost
  have o5 := call_put o.1 (back Z' H' cs' [.d (.bl r0)] [v'] lv)
  have o6 : OkV B K Z' H' σ (aft ms [x, y] η cs') τ [.d (.bl r0)] [v'] := ⟨lv.ali σ, o5⟩
  have ev : v' = .bl r0 := (o6.see (d := .bl r0) rfl)
  subst ev
  exact ⟨r0, rfl, q Z' H' _ (.d o6.ok (.bl _))⟩
/-! isinstance(x, C), C a class of the text -/
structure InsTy (K : PySem.W.Frag) (C : Addr) : Prop where
  cl : Cls K C
  ha : PySem.W.findIn K (.ref C) "__class__" = some (some (.builtin "object.__class__"))
  hn : PySem.W.specialIn K (.builtin "object.__class__") "__get__" = some (some (.builtin "getset_descriptor.__get__"))
  htk : PySem.W.takesIn K (.builtin "object.__class__") = some true
  hm : PySem.W.mroIn K C (.type "object") = some true
def IsC (K : PySem.W.Frag) (C : Addr) (d : Dt) (b : Bool) : Prop := match d with
  | .ins D _ => InsTy K D ∧ PySem.W.kitOne K (.ref D) (.ref C) = some b
  | d => plainD d = true ∧ PySem.W.kitOne K (.type (tyN d)) (.ref C) = some b
theorem isC_ins {K : PySem.W.Frag} {C D : Addr} {fs : List (Str × Dt)} {b : Bool} : IsC K C (.ins D fs) b = (InsTy K D ∧ PySem.W.kitOne K (.ref D) (.ref C) = some b) := rfl
def roIsC (K : PySem.W.Frag) : ROs := fun xs η Q => ∃ x C d b, xs = [x, .d (.ref C)] ∧ look η x = some d ∧ IsC K C d b ∧ Q (.d (.bl b)) η
theorem dc_isC {K : PySem.W.Frag} : DC K (rIsi K) (roIsC K) := by
  constructor
  · rintro xs η Q Q' hq ⟨x, C, d, b, e1, e2, e3, q⟩
    exact ⟨x, C, d, b, e1, e2, e3, hq _ _ q⟩
  rintro B Z H σ η τ xs vs P o ⟨x, C, d, b, rfl, e2, e3, q⟩
  obtain ⟨v, w, rfl⟩ := ali2 o.1
  obtain ⟨s1, s2⟩ := o.see2 e2 (rfl : look η (.d (.ref C)) = some (.ref C))
  cases (show w = .ref C from s2)
  have fin : ∀ t, TyX K H v t → PySem.W.kitOne K t (.ref C) = some b → rIsi K [v, .ref C] H P := fun t ty k => ⟨v, .ref C, t, .ref C, b, rfl, .own C, ty, k, q Z H _ (.d o.ok (.bl _))⟩
  by_cases hi : ∃ D fs, d = .ins D fs
  · obtain ⟨D, fs, rfl⟩ := hi
    obtain ⟨it, k⟩ := e3
    obtain ⟨a, dx, ns, ws, ds, rfl, rfl, l, h, r⟩ := see_ins s1
    exact fin _ (.base (.ins h it.cl it.ha it.hn it.htk it.hm)) k
  · have e4 : plainD d = true ∧ PySem.W.kitOne K (.type (tyN d)) (.ref C) = some b := by
      cases d <;> first | exact e3 | exact absurd ⟨_, _, rfl⟩ hi
    exact fin _ (tyx_of s1 e4.1) e4.2
end D

set_option Elab.async false
set_option linter.all false
set_option maxRecDepth 100000
set_option maxHeartbeats 4000000
/-! dicts: locked while they are walked -/
namespace D
open PySem PySem.Spec PyProof.Rows L2
/-- two heaps that differ by locks of dicts -/
def SL (H H' : Hp) : Prop := ∀ b o, H b = some o → H' b = some o ∨ (∃ kv od, o = .dK kv ∧ H' b = some (.frz od (.dK kv))) ∨ ∃ kv od, o = .frz od (.dK kv) ∧ H' b = some (.dK kv)
section
variable {K : PySem.W.Frag} {Z Z' : Zs} {H H' : Hp}
theorem SL.dK (h : SL H H') {a : Addr} {kv : List (Key × V)} (r : Rd H a (.dK kv)) : Rd H' a (.dK kv) := by
  rcases r with r | ⟨o, r⟩
  · rcases h _ _ r with e | ⟨kv', od, e1, e⟩ | ⟨kv', od, e1, e⟩
    · exact .inl e
    · cases e1; exact .inr ⟨od, e⟩
    · cases e1
  · rcases h _ _ r with e | ⟨kv', od, e1, e⟩ | ⟨kv', od, e1, e⟩
    · exact .inr ⟨o, e⟩
    · cases e1
    · cases e1; exact .inl e
theorem SL.tup (h : SL H H') {a : Addr} {vs : List V} (r : Rd H a (.tup vs)) : Rd H' a (.tup vs) := by
  rcases r with r | ⟨o, r⟩
  · rcases h _ _ r with e | ⟨kv', od, e1, e⟩ | ⟨kv', od, e1, e⟩
    · exact .inl e
    · cases e1
    · cases e1
  · rcases h _ _ r with e | ⟨kv', od, e1, e⟩ | ⟨kv', od, e1, e⟩
    · exact .inr ⟨o, e⟩
    · cases e1
    · cases e1
theorem SL.at_ (h : SL H H') {a : Addr} {o : HO} (r : H a = some o) (n1 : ∀ kv, o ≠ .dK kv) (n2 : ∀ od kv, o ≠ .frz od (.dK kv)) : H' a = some o := by
  rcases h _ _ r with e | ⟨kv', od, e1, e⟩ | ⟨kv', od, e1, e⟩
  · exact e
  · exact absurd e1 (n1 _)
  · exact absurd e1 (n2 _ _)
theorem Rp.sl (hs : SL H H') {v : V} {d : Dt} (h : Rp K Z H v d) : Rp K Z H' v d := by
  refine Rp.rec (motive_1 := fun v d _ => Rp K Z H' v d) (motive_2 := fun vs ds _ => RpAll K Z H' vs ds) .non .bl .int .str .byt .ty .ref ?_ ?_ ?_ .exn0 ?_ ?_ .nil ?_ h
  · intro a vs ds z h _ ih
    exact .lst z (hs.at_ h (by simp) (by simp)) ih
  · intro a vs ds h _ ih
    exact .tup (h.imp (fun ⟨z, r⟩ => ⟨z, hs.tup r⟩) id) ih
  · intro a ks vs ds z r l _ ih
    exact .dct z (hs.dK r) l ih
  · intro dd ns vs ds a C z r l _ ih
    exact .exn1 a C z (hs.at_ r (by simp) (by simp)) l ih
  · intro a C dx ns vs ds z r l _ ih
    exact .ins z (hs.at_ r (by simp) (by simp)) l ih
  · intro v vs d ds _ _ i1 i2
    exact .cons i1 i2
theorem RpAll.sl (hs : SL H H') {vs : List V} {ds : List Dt} (h : RpAll K Z H vs ds) : RpAll K Z H' vs ds := by
  induction vs generalizing ds with
  | nil => cases h; exact .nil
  | cons v vs ih =>
    cases h with
    | cons a b => exact .cons (a.sl hs) (ih b)
theorem OwnAt.sl (hs : SL H H') {b : Addr} (e : H' b = H b) {d : Dt} (h : OwnAt K Z H b d) : OwnAt K Z H' b d := by
  cases d with
  | lst ds => obtain ⟨vs, e1, e2⟩ := h; exact ⟨vs, e.trans e1, e2.sl hs⟩
  | dct kvs => obtain ⟨ks, vs, ds, e0, e1, e2, e3⟩ := h; exact ⟨ks, vs, ds, e0, e1, e.trans e2, e3.sl hs⟩
  | ins C fs => obtain ⟨dx, ns, vs, ds, e0, e1, e2, e3⟩ := h; exact ⟨dx, ns, vs, ds, e0, e1, e.trans e2, e3.sl hs⟩
  | non => exact h.elim
  | bl b => exact h.elim
  | int b => exact h.elim
  | str b => exact h.elim
  | byt b => exact h.elim
  | ty b => exact h.elim
  | tup b => exact h.elim
  | ref b => exact h.elim
  | exn a d C fs => exact h.elim
theorem BRp.sl (hs : SL H H') {v : V} {d : Dt} (h : BRp K Z H v d) : BRp K Z H' v d :=
  h.imp (fun r => r.sl hs) fun ⟨a, vs, ds, e1, e2, e3, r⟩ => ⟨a, vs, ds, e1, e2, e3, r.sl hs⟩
theorem BorAt.sl (hs : SL H H') {a : Addr} {d : Dt} (h : BorAt K Z H a d) : BorAt K Z H' a d := by
  rcases h with h | ⟨o, vs, ds, rfl, e, r⟩ | ⟨o, ks, vs, ds, rfl, l, e, r⟩
  · cases d with
    | lst ds => obtain ⟨vs, e1, e2⟩ := h; exact .inl ⟨vs, hs.at_ e1 (by simp) (by simp), e2.sl hs⟩
    | ins C fs => obtain ⟨dx, ns, vs, ds, e0, e1, e2, e3⟩ := h; exact .inl ⟨dx, ns, vs, ds, e0, e1, hs.at_ e2 (by simp) (by simp), e3.sl hs⟩
    | dct kvs =>
      obtain ⟨ks, vs, ds, rfl, e1, e2, e3⟩ := h
      rcases hs.dK (.inl e2) with e | ⟨o, e⟩
      · exact .inl ⟨ks, vs, ds, rfl, e1, e, e3.sl hs⟩
      · exact .inr (.inr ⟨o, ks, vs, ds, rfl, e1, e, e3.sl hs⟩)
    | non => exact h.elim
    | bl b => exact h.elim
    | int b => exact h.elim
    | str b => exact h.elim
    | byt b => exact h.elim
    | ty b => exact h.elim
    | tup b => exact h.elim
    | ref b => exact h.elim
    | exn a d C fs => exact h.elim
  · exact .inr (.inl ⟨o, vs, ds, rfl, hs.at_ e (by simp) (by simp), r.sl hs⟩)
  · rcases hs.dK (.inr ⟨o, e⟩) with e | ⟨o, e⟩
    · exact .inl ⟨ks, vs, ds, rfl, l, e, r.sl hs⟩
    · exact .inr (.inr ⟨o, ks, vs, ds, rfl, l, e, r.sl hs⟩)
end
/-- the base with what stands at a told -/
def pinB (B : Base) (Z : Zs) (a : Addr) (o : HO) : Base := ⟨upd B.H0 a o, B.F0.filter (fun b => decide (b ≠ a)), fun b => B.Z0 b ∨ (b = a ∧ Z a), B.V0⟩
section
variable {B : Base} {K : PySem.W.Frag} {Z : Zs} {H : Hp} {σ : L2.St} {η : Env} {τ : List (V × En)} {a : Addr} {od : Obj} {kv : List (Key × V)}
theorem pin_F {b : Addr} (h : b ≠ a) {o : HO} : b ∈ (pinB B Z a o).F0 ↔ b ∈ B.F0 := by
  show b ∈ B.F0.filter _ ↔ _
  rw [List.mem_filter]
  exact ⟨fun q => q.1, fun q => ⟨q, decide_eq_true h⟩⟩
theorem pin_Fa {o : HO} : a ∉ (pinB B Z a o).F0 := fun q => by
  have := (List.mem_filter.mp (show a ∈ B.F0.filter (fun b => decide (b ≠ a)) from q)).2
  simp at this
theorem sl_lock (ha : H a = some (.dK kv) ∨ H a = some (.frz od (.dK kv))) : SL H (upd H a (.frz od (.dK kv))) := fun b o e => by
  by_cases h : b = a
  · subst h
    rw [upd_same]
    rcases ha with ha | ha
    · rw [ha] at e; cases e; exact .inr (.inl ⟨kv, od, rfl, rfl⟩)
    · rw [ha] at e; cases e; exact .inl rfl
  · rw [upd_ne h]; exact .inl e
theorem sl_unlock {o0 : HO} (ha : H a = some (.frz od (.dK kv))) (h0 : o0 = .dK kv ∨ o0 = .frz od (.dK kv)) : SL H (upd H a o0) := fun b o e => by
  by_cases h : b = a
  · subst h
    rw [upd_same]
    rw [ha] at e; cases e
    rcases h0 with rfl | rfl
    · exact .inr (.inr ⟨kv, od, rfl, rfl⟩)
    · exact .inl rfl
  · rw [upd_ne h]; exact .inl e
theorem COk.slx {H' : Hp} (hs : SL H H') {v : V} {F : List Addr} {c : Ct} (h : COk K Z H v F c) (he : ∀ b ∈ F, H' b = H b) : COk K Z H' v F c := by
  cases c with
  | dt d =>
    obtain ⟨a, e1, e2, e4⟩ := h
    exact ⟨a, e1, e2, e4.sl hs (he a (by rw [e2]; simp))⟩
  | hp d g =>
    obtain ⟨a, e1, e2, e3, e4, e5⟩ := h
    exact ⟨a, e1, e2, e3, e4.sl hs (he a (by rw [e2]; simp)), fun q hq => (e5 q hq).sl hs (he q.1 (by rw [e2]; exact List.mem_cons_of_mem _ (List.mem_map.mpr ⟨q, hq, rfl⟩)))⟩
theorem Sep.map {B B' : Base} {H H' : Hp} {Z Z' : Zs} : ∀ {l : List (V × En)} {F : List Addr}, (∀ v e F1, EnOk B K Z H v F1 e → (∀ b ∈ F1, b ∈ F) → EnOk B' K Z' H' v F1 e) → Sep B K Z H l F → Sep B' K Z' H' l F
  | [], _, _, h => h
  | p :: r, F, hm, h => by
    obtain ⟨F1, F2, e1, e2, e3, rfl⟩ := h
    exact ⟨F1, F2, hm _ _ _ e1 fun b hb => List.mem_append_left _ hb, Sep.map (fun v e F1' h1 h2 => hm v e F1' h1 fun b hb => List.mem_append_right _ (h2 b hb)) e2, e3, rfl⟩
theorem Ok.pin (h : Ok B K Z H σ η τ) (ha : H a = some (.dK kv) ∨ H a = some (.frz od (.dK kv))) (hz : Z a ∨ ((∃ o, B.H0 a = some o) ∧ a ∉ B.F0)) :
    Ok (pinB B Z a (.frz od (.dK kv))) K Z (upd H a (.frz od (.dK kv))) σ η τ := by
  obtain ⟨F, h⟩ := h
  have nF : ∀ b ∈ F, b ≠ a := fun b hb e => by
    subst e
    obtain ⟨l1, _, l3⟩ := h.live b hb
    rcases hz with z | ⟨⟨o, z⟩, n⟩
    · exact l1 z
    · rcases l3 with l3 | l3
      · rw [z] at l3; cases l3
      · exact n l3
  have hs : SL H (upd H a (.frz od (.dK kv))) := sl_lock ha
  refine ⟨F, h.slots, h.sep.map ?_, fun b hb => ?_, fun b o e n => ?_, fun b n => ?_, fun b z => ?_, fun b z => ?_, fun b z => ?_⟩
  · intro v e F1 he hF
    have nF1 : ∀ b ∈ F1, b ≠ a := fun b hb => nF b (hF b hb)
    cases e with
    | val d => exact ⟨he.1, he.2.sl hs⟩
    | mu p c =>
      refine ⟨he.1.slx hs fun b hb => upd_ne (nF1 b hb), ?_⟩
      have hm := he.2
      cases p with
      | none =>
        intro b hb
        have hbF : b ∈ F1 := by
          cases c with
          | dt d => obtain ⟨⟨a', e1, e2, _⟩, _⟩ := he; rw [e1] at hb; cases hb; rw [e2]; simp
          | hp d g => obtain ⟨⟨a', e1, e2, _⟩, _⟩ := he; rw [e1] at hb; cases hb; rw [e2]; simp
        show upd B.H0 a _ b = none
        rw [upd_ne (nF1 b hbF)]
        exact hm b hb
      | some j => exact hm
    | bor d =>
      refine ⟨he.1, he.2.imp (fun r => r.sl hs) ?_⟩
      rintro ⟨a', e1, ⟨o, e2⟩, e3, e5⟩
      by_cases q : a' = a
      · subst q
        exact ⟨a', e1, ⟨_, upd_same⟩, pin_Fa, e5.sl hs⟩
      · exact ⟨a', e1, ⟨o, (upd_ne q).trans e2⟩, fun m => e3 ((pin_F q).mp m), e5.sl hs⟩
    | lb a' d => exact he.elim
  · obtain ⟨l1, l2, l3⟩ := h.live b hb
    refine ⟨l1, by rw [upd_ne (nF b hb)]; exact l2, l3.imp (fun e => (upd_ne (nF b hb)).trans e) fun e => (pin_F (nF b hb)).mpr e⟩
  · by_cases q : b = a
    · subst q
      have e : upd B.H0 b (.frz od (.dK kv)) b = some o := e
      rw [upd_same] at e; cases e
      exact upd_same
    · have e : upd B.H0 a (.frz od (.dK kv)) b = some o := e
      rw [upd_ne q] at e ⊢
      exact h.base b o e fun m => n ((pin_F q).mpr m)
  · by_cases q : b = a
    · subst q; rw [upd_same]; simp
    · have n : upd B.H0 a (.frz od (.dK kv)) b ≠ none := n
      rw [upd_ne q] at n ⊢
      exact h.there b n
  · by_cases q : b = a
    · subst q; exact .inl (.inr ⟨rfl, z⟩)
    · rcases h.grow b z with z | z
      · exact .inl (.inl z)
      · exact .inr ((upd_ne q).trans z)
  · rcases z with z | ⟨rfl, z⟩
    · exact h.old b z
    · exact z
  · by_cases q : b = a
    · subst q; rw [upd_same]; simp
    · rw [upd_ne q]; exact h.zl b z
theorem Ok.unpin {Z2 : Zs} {H2 : Hp} {σ2 : L2.St} {η2 : Env} {τ2 : List (V × En)} {o0 : HO} (h : Ok (pinB B Z a (.frz od (.dK kv))) K Z2 H2 σ2 η2 τ2) (h0 : o0 = .dK kv ∨ o0 = .frz od (.dK kv)) (hz : Z a ∨ ((∃ o, B.H0 a = some o) ∧ a ∉ B.F0))
    (hb0 : ∀ o, B.H0 a = some o → a ∉ B.F0 → o = o0) (hg : Z a → B.Z0 a ∨ B.H0 a = none) : H2 a = some (.frz od (.dK kv)) ∧ Ok B K Z2 (upd H2 a o0) σ2 η2 τ2 := by
  obtain ⟨F, h⟩ := h
  have ha : H2 a = some (.frz od (.dK kv)) := h.base a _ upd_same pin_Fa
  have hs : SL H2 (upd H2 a o0) := sl_unlock ha h0
  have za : Z a → Z2 a := fun z => h.old a (.inr ⟨rfl, z⟩)
  have nF : ∀ b ∈ F, b ≠ a := fun b hb e => by
    subst e
    obtain ⟨l1, _, l3⟩ := h.live b hb
    rcases l3 with l3 | l3
    · have l3 : upd B.H0 b (.frz od (.dK kv)) b = none := l3
      rw [upd_same] at l3; cases l3
    · exact pin_Fa l3
  refine ⟨ha, F, h.slots, h.sep.map ?_, fun b hb => ?_, fun b o e n => ?_, fun b n => ?_, fun b z => ?_, fun b z => ?_, fun b z => ?_⟩
  · intro v e F1 he hF
    have nF1 : ∀ b ∈ F1, b ≠ a := fun b hb => nF b (hF b hb)
    cases e with
    | val d => exact ⟨he.1, he.2.sl hs⟩
    | mu p c =>
      refine ⟨he.1.slx hs fun b hb => upd_ne (nF1 b hb), ?_⟩
      have hm := he.2
      cases p with
      | none =>
        intro b hb
        have hm := hm b hb
        have hm : upd B.H0 a (.frz od (.dK kv)) b = none := hm
        by_cases q : b = a
        · subst q; rw [upd_same] at hm; cases hm
        · rw [upd_ne q] at hm; exact hm
      | some j => exact hm
    | bor d =>
      obtain ⟨e0, he⟩ := he
      rcases he with r | ⟨a', e1, ⟨o, e2⟩, e3, e5⟩
      · exact ⟨e0, .inl (r.sl hs)⟩
      · by_cases q : a' = a
        · subst q
          rcases hz with z | ⟨z, n⟩
          · refine ⟨e0, .inl (.inl ?_)⟩
            subst e1
            rcases e5 with e5 | ⟨_, _, _, _, e5, _⟩ | ⟨o', ks, vs, ds, rfl, l, e5, r⟩
            · cases d with
              | lst ds => obtain ⟨vs, q1, _⟩ := e5; rw [ha] at q1; cases q1
              | dct kvs => obtain ⟨_, _, _, _, _, q1, _⟩ := e5; rw [ha] at q1; cases q1
              | ins C fs => obtain ⟨_, _, _, _, _, _, q1, _⟩ := e5; rw [ha] at q1; cases q1
              | non => exact e5.elim
              | bl b => exact e5.elim
              | int b => exact e5.elim
              | str b => exact e5.elim
              | byt b => exact e5.elim
              | ty b => exact e5.elim
              | tup b => exact e5.elim
              | ref b => exact e5.elim
              | exn a d C fs => exact e5.elim
            · rw [ha] at e5; cases e5
            · exact .dct (za z) (hs.dK (.inr ⟨o', e5⟩)) l (r.sl hs)
          · exact ⟨e0, .inr ⟨a', e1, z, n, e5.sl hs⟩⟩
        · have e2 : upd B.H0 a (.frz od (.dK kv)) a' = some o := e2
          rw [upd_ne q] at e2
          exact ⟨e0, .inr ⟨a', e1, ⟨o, e2⟩, fun m => e3 ((pin_F q).mpr m), e5.sl hs⟩⟩
    | lb a' d => exact he.elim
  · obtain ⟨l1, l2, l3⟩ := h.live b hb
    have nb := nF b hb
    refine ⟨l1, by rw [upd_ne nb]; exact l2, l3.imp (fun e => ?_) fun e => (pin_F nb).mp e⟩
    have e : upd B.H0 a (.frz od (.dK kv)) b = none := e
    rw [upd_ne nb] at e
    exact e
  · by_cases q : b = a
    · subst q
      rw [upd_same, hb0 o e n]
    · rw [upd_ne q]
      exact h.base b o ((upd_ne q).trans e) fun m => n ((pin_F q).mp m)
  · by_cases q : b = a
    · subst q; rw [upd_same]; simp
    · rw [upd_ne q]
      exact h.there b (fun e => n (by have e : upd B.H0 a (.frz od (.dK kv)) b = none := e; rw [upd_ne q] at e; exact e))
  · rcases h.grow b z with z | z
    · rcases z with z | ⟨rfl, z⟩
      · exact .inl z
      · exact hg z
    · have z : upd B.H0 a (.frz od (.dK kv)) b = none := z
      by_cases q : b = a
      · subst q; rw [upd_same] at z; cases z
      · rw [upd_ne q] at z; exact .inr z
  · exact h.old b (.inl z)
  · by_cases q : b = a
    · subst q; rw [upd_same]; simp
    · rw [upd_ne q]; exact h.zl b z
end
end D
namespace D
open PySem PySem.Spec PyProof.Rows L2
/-- the thing is locked where it isn't yet -/
def tLk (t : TS) : TS := fun D σ H => tLock t D σ H ∨ t D σ H
theorem ps_lk {X : Cx} {st : Stmt} {t : TS} (h : PS X st t) : PS X st (tLk t) := by
  refine ⟨fun pins s σ H D I q => ?_⟩
  rcases q with q | q
  · exact (ps_lock h).run pins s σ H D I q
  · exact h.run pins s σ H D I q
def tLkE (t : TE) : TE := fun σ H Q => tLockE t σ H Q ∨ t σ H Q
theorem pe_lk {X : Cx} {e : Expr} {t : TE} (h : PE X e t) : PE X e (tLkE t) := by
  refine ⟨fun pins s σ H Q I q => ?_⟩
  rcases q with q | q
  · exact (pe_lock h).run pins s σ H Q I q
  · exact h.run pins s σ H Q I q
/-- a slot holds a dict that others made -/
def dctAt (η : Env) (i : Nat) (kvs : List (Key × Dt)) : Prop := η[i]? = some (some (.val (.dct kvs))) ∨ η[i]? = some (some (.bor (.dct kvs)))
/-- a dict at hand, locked -/
structure Pd1 (B : Base) (K : PySem.W.Frag) (Z : Zs) (H : Hp) (σ : L2.St) (η : Env) (i : Nat) (kvs : List (Key × Dt)) (a : Addr) (od : Obj) (ks : List Key) (vs : List V) (ds : List Dt) : Prop where
  at_ : σ[i]? = some (some (.ref a))
  h : H a = some (.frz od (.dK (ks.zip vs)))
  h0 : B.H0 a = some (.frz od (.dK (ks.zip vs)))
  f0 : a ∉ B.F0
  e : kvs = ks.zip ds
  l : ks.length = vs.length
  l2 : vs.length = ds.length
  en : ∃ en, (en = En.val (.dct kvs) ∨ en = .bor (.dct kvs)) ∧ ∀ τ, Ok B K Z H σ η τ → Ok B K Z H σ η ((.ref a, en) :: τ)
/-- what is judged of a statement while a slot's dict is locked -/
structure DSP (K : PySem.W.Frag) (i : Nat) (t : TS) (r : List (Key × Dt) → RS) : Prop where
  mono : ∀ kvs η (D D' : EndsD), D.Le D' → r kvs D η → r kvs D' η
  run : ∀ (B : Base) (Z : Zs) (H : Hp) (σ : L2.St) (η : Env) (τ : List (V × En)) (E : Ends) kvs a od ks vs ds, Pd1 B K Z H σ η i kvs a od ks vs ds → Ok B K Z H σ η τ → r kvs (lft B K τ E) η → t E σ H
structure DEP (K : PySem.W.Frag) (i : Nat) (t : TE) (r : List (Key × Dt) → RE) : Prop where
  mono : ∀ kvs η (Q Q' : Vl → Env → Prop), (∀ x η', Q x η' → Q' x η') → r kvs η Q → r kvs η Q'
  run : ∀ (B : Base) (Z : Zs) (H : Hp) (σ : L2.St) (η : Env) (τ : List (V × En)) (P : VK) kvs a od ks vs ds, Pd1 B K Z H σ η i kvs a od ks vs ds → Ok B K Z H σ η τ → r kvs η (fun x η' => ∀ Z' H' v, OkV B K Z' H' σ η' τ [x] [v] → P v H') → t σ H P
section
variable {K : PySem.W.Frag} {X : Wsh}
/-- a slot's dict, and how it is locked -/
theorem dct_pin {B : Base} {Z : Zs} {H : Hp} {σ : L2.St} {η : Env} {τ : List (V × En)} {i : Nat} {kvs : List (Key × Dt)} (o : Ok B K Z H σ η τ) (h : dctAt η i kvs) :
    ∃ (a : Addr) (ks : List Key) (vs : List V) (ds : List Dt) (o0 : HO), H a = some o0 ∧ (o0 = .dK (ks.zip vs) ∨ ∃ od, o0 = .frz od (.dK (ks.zip vs))) ∧
      ∀ od, (o0 = .dK (ks.zip vs) ∨ o0 = .frz od (.dK (ks.zip vs))) → ∃ B', Pd1 B' K Z (upd H a (.frz od (.dK (ks.zip vs)))) σ η i kvs a od ks vs ds ∧ (∀ τ', Ok B K Z H σ η τ' → Ok B' K Z (upd H a (.frz od (.dK (ks.zip vs)))) σ η τ') ∧
        ∀ Z2 H2 σ2 η2 τ2, Ok B' K Z2 H2 σ2 η2 τ2 → H2 a = some (.frz od (.dK (ks.zip vs))) ∧ Ok B K Z2 (upd H2 a o0) σ2 η2 τ2 := by
  have key : ∃ (a : Addr) (ks : List Key) (vs : List V) (ds : List Dt), σ[i]? = some (some (.ref a)) ∧ kvs = ks.zip ds ∧ ks.length = vs.length ∧ vs.length = ds.length ∧ Rd H a (.dK (ks.zip vs)) ∧ (Z a ∨ ((∃ o, B.H0 a = some o) ∧ a ∉ B.F0)) ∧
      ∃ en, (en = En.val (.dct kvs) ∨ en = .bor (.dct kvs)) ∧ η[i]? = some (some en) := by
    rcases h with h | h
    · obtain ⟨v, hv, o'⟩ := o.take h
      have r := o'.rp
      cases r with
      | @dct a ks vs ds z r l ra => exact ⟨a, ks, vs, ds, hv, rfl, l, ra.length, r, .inl z, _, .inl rfl, h⟩
    · obtain ⟨v, hv, o'⟩ := o.take h
      obtain ⟨F, hF, hh⟩ := o'.head
      rcases hh with (r | ⟨_, _, _, _, e, _⟩) | ⟨a, rfl, q1, q2, b⟩
      · cases r with
        | @dct a ks vs ds z r l ra => exact ⟨a, ks, vs, ds, hv, rfl, l, ra.length, r, .inl z, _, .inr rfl, h⟩
      · cases e
      · rcases b with ⟨ks, vs, ds, rfl, l, e, r⟩ | ⟨_, _, _, e, _⟩ | ⟨o1, ks, vs, ds, e0, l, e, r⟩
        · exact ⟨a, ks, vs, ds, hv, rfl, l, r.length, .inl e, .inr ⟨q1, q2⟩, _, .inr rfl, h⟩
        · cases e
        · cases e0
          exact ⟨a, ks, vs, ds, hv, rfl, l, r.length, .inr ⟨o1, e⟩, .inr ⟨q1, q2⟩, _, .inr rfl, h⟩
  obtain ⟨a, ks, vs, ds, hv, e0, l, l2, rd, hz, en, hen, hi⟩ := key
  obtain ⟨o0, ho, hk⟩ : ∃ o0, H a = some o0 ∧ (o0 = .dK (ks.zip vs) ∨ ∃ od, o0 = .frz od (.dK (ks.zip vs))) := by
    rcases rd with rd | ⟨od, rd⟩
    · exact ⟨_, rd, .inl rfl⟩
    · exact ⟨_, rd, .inr ⟨od, rfl⟩⟩
  refine ⟨a, ks, vs, ds, o0, ho, hk, fun od h0 => ⟨pinB B Z a (.frz od (.dK (ks.zip vs))), ?_, fun τ' o' => ?_, fun Z2 H2 σ2 η2 τ2 o2 => ?_⟩⟩
  · refine ⟨hv, upd_same, upd_same, pin_Fa, e0, l, l2, en, hen, fun τ' o' => ?_⟩
    rcases hen with rfl | rfl
    · obtain ⟨w, hw, o3⟩ := o'.take hi
      rw [hv] at hw; cases hw
      exact o'.val o3.rp
    · exact o'.dup hv hi
  · refine o'.pin ?_ hz
    rcases h0 with rfl | rfl
    · exact .inl ho
    · exact .inr ho
  · obtain ⟨F, hF⟩ := id o
    refine o2.unpin h0 hz (fun o1 e n => ?_) (fun z => hF.grow a z)
    have := hF.base a o1 e n
    rw [ho] at this
    cases this
    rfl
theorem ds_lk {i : Nat} {t : TS} {r : List (Key × Dt) → RS} (h : DSP K i t r) : DS K X (tLk t) (fun D η => ∃ kvs, dctAt η i kvs ∧ r kvs D η) := by
  constructor
  · rintro η D D' hd ⟨kvs, h1, h2⟩
    exact ⟨kvs, h1, h.mono _ _ _ _ hd h2⟩
  rintro B Z H σ η τ E lk o ⟨kvs, h1, h2⟩
  obtain ⟨a, ks, vs, ds, o0, ho, hk, pin⟩ := dct_pin o h1
  rcases hk with rfl | ⟨od, rfl⟩
  · refine .inl ⟨a, _, ho, trivial, fun od => ?_⟩
    obtain ⟨B', p1, fwd, back⟩ := pin od (.inl rfl)
    refine h.run B' Z _ σ η τ _ kvs a od ks vs ds p1 (fwd τ o) (h.mono _ _ _ _ ⟨fun η' q Z2 H2 σ2 o2 => ?_, fun x η' q Z2 H2 σ2 v o2 => ?_, fun η' q Z2 H2 σ2 o2 => ?_, fun η' q Z2 H2 σ2 o2 => ?_⟩ h2)
    · obtain ⟨e, o3⟩ := back _ _ _ _ _ o2; exact ⟨e, q _ _ _ o3⟩
    · obtain ⟨e, o3⟩ := back _ _ _ _ _ o2.2; exact ⟨e, q _ _ _ _ ⟨o2.1, o3⟩⟩
    · obtain ⟨e, o3⟩ := back _ _ _ _ _ o2; exact ⟨e, q _ _ _ o3⟩
    · obtain ⟨e, o3⟩ := back _ _ _ _ _ o2; exact ⟨e, q _ _ _ o3⟩
  · right
    obtain ⟨B', p1, fwd, back⟩ := pin od (.inr rfl)
    have eH : upd H a (.frz od (.dK (ks.zip vs))) = H := by
      funext b
      by_cases q : b = a
      · subst q; rw [upd_same, ho]
      · rw [upd_ne q]
    have e2 : ∀ H2 : Hp, H2 a = some (.frz od (.dK (ks.zip vs))) → upd H2 a (.frz od (.dK (ks.zip vs))) = H2 := fun H2 e => by
      funext b
      by_cases q : b = a
      · subst q; rw [upd_same, e]
      · rw [upd_ne q]
    rw [eH] at p1 fwd
    refine h.run B' Z H σ η τ _ kvs a od ks vs ds p1 (fwd τ o) (h.mono _ _ _ _ ⟨fun η' q Z2 H2 σ2 o2 => ?_, fun x η' q Z2 H2 σ2 v o2 => ?_, fun η' q Z2 H2 σ2 o2 => ?_, fun η' q Z2 H2 σ2 o2 => ?_⟩ h2)
    · obtain ⟨e, o3⟩ := back _ _ _ _ _ o2; rw [e2 _ e] at o3; exact q _ _ _ o3
    · obtain ⟨e, o3⟩ := back _ _ _ _ _ o2.2; rw [e2 _ e] at o3; exact q _ _ _ _ ⟨o2.1, o3⟩
    · obtain ⟨e, o3⟩ := back _ _ _ _ _ o2; rw [e2 _ e] at o3; exact q _ _ _ o3
    · obtain ⟨e, o3⟩ := back _ _ _ _ _ o2; rw [e2 _ e] at o3; exact q _ _ _ o3
theorem de_lk {i : Nat} {t : TE} {r : List (Key × Dt) → RE} (h : DEP K i t r) : DE K X (tLkE t) (fun η Q => ∃ kvs, dctAt η i kvs ∧ r kvs η Q) := by
  constructor
  · rintro η Q Q' hq ⟨kvs, h1, h2⟩
    exact ⟨kvs, h1, h.mono _ _ _ _ hq h2⟩
  rintro B Z H σ η τ P lk o ⟨kvs, h1, h2⟩
  obtain ⟨a, ks, vs, ds, o0, ho, hk, pin⟩ := dct_pin o h1
  rcases hk with rfl | ⟨od, rfl⟩
  · refine .inl ⟨a, _, ho, trivial, fun od => ?_⟩
    obtain ⟨B', p1, fwd, back⟩ := pin od (.inl rfl)
    refine h.run B' Z _ σ η τ _ kvs a od ks vs ds p1 (fwd τ o) (h.mono _ _ _ _ (fun x η' q Z2 H2 v o2 => ?_) h2)
    obtain ⟨e, o3⟩ := back _ _ _ _ _ o2.2; exact ⟨e, q _ _ _ ⟨o2.1, o3⟩⟩
  · right
    obtain ⟨B', p1, fwd, back⟩ := pin od (.inr rfl)
    have e2 : ∀ H2 : Hp, H2 a = some (.frz od (.dK (ks.zip vs))) → upd H2 a (.frz od (.dK (ks.zip vs))) = H2 := fun H2 e => by
      funext b
      by_cases q : b = a
      · subst q; rw [upd_same, e]
      · rw [upd_ne q]
    rw [e2 H ho] at p1 fwd
    refine h.run B' Z H σ η τ _ kvs a od ks vs ds p1 (fwd τ o) (h.mono _ _ _ _ (fun x η' q Z2 H2 v o2 => ?_) h2)
    obtain ⟨e, o3⟩ := back _ _ _ _ _ o2.2; rw [e2 _ e] at o3; exact q _ _ _ ⟨o2.1, o3⟩
/-! ### the three walks of a dict -/
section
variable {B : Base} {a : Addr} {od : Obj} {ks : List Key} {vs : List V} {ds : List Dt} {kvs : List (Key × Dt)} {en : En}
theorem zip_at {α β : Type} : ∀ {xs : List α} {ys : List β} {i : Nat} {x : α} {y : β}, (xs.zip ys)[i]? = some (x, y) → xs[i]? = some x ∧ ys[i]? = some y
  | x0 :: xs, y0 :: ys, 0, x, y, h => by simp at h; simp [h.1, h.2]
  | x0 :: xs, y0 :: ys, i + 1, x, y, h => by simpa using zip_at (xs := xs) (ys := ys) (i := i) (by simpa using h)
  | [], _, _, _, _, h => by simp at h
  | _ :: _, [], _, _, _, h => by simp at h
theorem zip_of {α β : Type} : ∀ {xs : List α} {ys : List β} {i : Nat} {x : α} {y : β}, xs[i]? = some x → ys[i]? = some y → (xs.zip ys)[i]? = some (x, y)
  | x0 :: xs, y0 :: ys, 0, x, y, h, h' => by simp at h h'; simp [h, h']
  | x0 :: xs, y0 :: ys, i + 1, x, y, h, h' => by simpa using zip_of (xs := xs) (ys := ys) (i := i) (by simpa using h) (by simpa using h')
  | [], _, _, _, _, h, _ => by simp at h
  | _ :: _, [], _, _, _, _, h => by simp at h
/-- what the held entry tells -/
theorem held_dct (hk : kvs = ks.zip ds) (l : ks.length = vs.length) (l2 : vs.length = ds.length) (hen : en = En.val (.dct kvs) ∨ en = .bor (.dct kvs)) {Z : Zs} {H : Hp} {σ : L2.St} {η : Env} {τ : List (V × En)} (o : Ok B K Z H σ η ((.ref a, en) :: τ))
    (h : H a = some (.frz od (.dK (ks.zip vs)))) {i : Nat} {k : Key} {v : V} (hi : (ks.zip vs)[i]? = some (k, v)) : ∃ d, kvs[i]? = some (k, d) ∧ Rp K Z H v d := by
  have s : See K Z H (.ref a) (.dct kvs) := o.seeT (by
    rcases hen with rfl | rfl
    · exact .inl rfl
    · exact .inr (.inr (.inl rfl)))
  obtain ⟨a', ks', vs', ds', e1, e2, l', rd, r⟩ := see_dct s
  cases e1
  have e3 : ks.zip vs = ks'.zip vs' := by
    rcases rd with rd | ⟨o', rd⟩
    · rw [h] at rd; cases rd
    · rw [h] at rd
      exact HO.dK.inj (HO.frz.inj (Option.some.inj rd)).2
  rw [e3] at hi
  obtain ⟨q1, q2⟩ := zip_at hi
  obtain ⟨d, q3, q4⟩ := r.get' q2
  exact ⟨d, by rw [e2]; exact zip_of q1 q3, q4⟩
theorem frz_of {Z : Zs} {H : Hp} {σ : L2.St} {η : Env} {τ : List (V × En)} {u : HO} (o : Ok B K Z H σ η τ) (h0 : B.H0 a = some u) (f0 : a ∉ B.F0) : H a = some u := by
  obtain ⟨F, hF⟩ := o
  exact hF.base a _ h0 f0
theorem iter_keys (h0 : B.H0 a = some (.frz od (.dK (ks.zip vs)))) (f0 : a ∉ B.F0) (hk : kvs = ks.zip ds) (l : ks.length = vs.length) (l2 : vs.length = ds.length) (hen : en = En.val (.dct kvs) ∨ en = .bor (.dct kvs)) :
    IterOk B K (Itk a od (ks.zip vs)) [(.ref a, en)] (kvs.map fun kv => keyDt kv.1) := by
  have hl : (kvs.map fun kv => keyDt kv.1).length = (ks.zip vs).length := by rw [List.length_map, hk, List.length_zip, List.length_zip, l2]
  refine ⟨fun Z H σ η τ i o hi => ⟨frz_of o h0 f0, by rw [← hl]; exact hi⟩, fun Z H σ η τ i x H' o y hi => ?_, fun Z H σ η τ i o hi => ⟨frz_of o h0 f0, by rw [← hl]; exact hi⟩⟩
  obtain ⟨rfl, k, v, e, rfl⟩ := y
  obtain ⟨d, e2, _⟩ := held_dct hk l l2 hen o (frz_of o h0 f0) e
  exact ⟨Z, keyDt k, by rw [List.getElem?_map, e2]; rfl, o.val (rp_key k)⟩
theorem iter_vals (h0 : B.H0 a = some (.frz od (.dK (ks.zip vs)))) (f0 : a ∉ B.F0) (hk : kvs = ks.zip ds) (l : ks.length = vs.length) (l2 : vs.length = ds.length) (hen : en = En.val (.dct kvs) ∨ en = .bor (.dct kvs)) :
    IterOk B K (Itd a od (ks.zip vs)) [(.ref a, en)] (kvs.map (·.2)) := by
  have hl : (kvs.map (·.2)).length = (ks.zip vs).length := by rw [List.length_map, hk, List.length_zip, List.length_zip, l2]
  refine ⟨fun Z H σ η τ i o hi => ⟨frz_of o h0 f0, by rw [← hl]; exact hi⟩, fun Z H σ η τ i x H' o y hi => ?_, fun Z H σ η τ i o hi => ⟨frz_of o h0 f0, by rw [← hl]; exact hi⟩⟩
  obtain ⟨rfl, k, e⟩ := y
  obtain ⟨d, e2, r⟩ := held_dct hk l l2 hen o (frz_of o h0 f0) e
  exact ⟨Z, d, by rw [List.getElem?_map, e2]; rfl, o.val r⟩
theorem iter_items (h0 : B.H0 a = some (.frz od (.dK (ks.zip vs)))) (f0 : a ∉ B.F0) (hk : kvs = ks.zip ds) (l : ks.length = vs.length) (l2 : vs.length = ds.length) (hen : en = En.val (.dct kvs) ∨ en = .bor (.dct kvs)) :
    IterOk B K (Iti a od (ks.zip vs)) [(.ref a, en)] (kvs.map fun kv => .tup [keyDt kv.1, kv.2]) := by
  have hl : (kvs.map fun kv => Dt.tup [keyDt kv.1, kv.2]).length = (ks.zip vs).length := by rw [List.length_map, hk, List.length_zip, List.length_zip, l2]
  refine ⟨fun Z H σ η τ i o hi => ⟨frz_of o h0 f0, by rw [← hl]; exact hi⟩, fun Z H σ η τ i x H' o y hi => ?_, fun Z H σ η τ i o hi => ⟨frz_of o h0 f0, by rw [← hl]; exact hi⟩⟩
  obtain ⟨T, k, v, e, rfl, hT, rfl⟩ := y
  obtain ⟨d, e2, r⟩ := held_dct hk l l2 hen o (frz_of o h0 f0) e
  exact ⟨_, .tup [keyDt k, d], by rw [List.getElem?_map, e2]; rfl, (o.newTup (.cons (rp_key k) (.cons r .nil)) hT).2⟩
end
/-- the loop of a for, its iterator told -/
theorem for_run {g : TG} {tb : TS} {rg : RG} {rb : RS} {sl : List Nat} (hg : DG K sl g rg) (hb : DS K W0 tb rb) {B : Base} {Z1 : Zs} {H1 : Hp} {σ : L2.St} {η1 : Env} {τ : List (V × En)} {E : Ends} {p : List (V × En)} {J : It} {ds : List Dt} (o1 : Ok B K Z1 H1 σ η1 (p ++ τ)) (it : IterOk B K J p ds)
    (q : ∃ W : Nat → Env → Prop, W 0 η1 ∧ (∀ i d η', ds[i]? = some d → W i η' → rg d η' fun η2 => rb { lft B K τ E with nx := W (i + 1), ct := W (i + 1), bk := (lft B K τ E).nx } η2) ∧ ∀ η', W ds.length η' → (lft B K τ E).nx η') :
    ∃ W : Nat → Nat → L2.St → Hp → Prop, (∃ m, W 0 m σ H1) ∧ ∀ i m σ H, W i m σ H →
      (J.stop i H ∧ E.nx σ H) ∨ (J.go i H ∧ ∃ N : L2.St → Hp → Prop, (∀ σ' H', N σ' H' → ∃ m', m' < m ∧ W (i + 1) m' σ' H') ∧ ∀ x H', J.yld i H x H' → g x σ H' fun σ2 H2 => tb { E with nx := N, ct := N, bk := E.nx } σ2 H2) := by
  obtain ⟨W, h0, h1, h2⟩ := q
  refine ⟨fun i m σ' H' => m = ds.length - i ∧ i ≤ ds.length ∧ ∃ Z' η', Ok B K Z' H' σ' η' (p ++ τ) ∧ W i η', ⟨ds.length, by simp, Nat.zero_le _, Z1, η1, o1, h0⟩, ?_⟩
  rintro i m σ' H' ⟨rfl, hle, Z', η', o', w⟩
  by_cases hlt : i < ds.length
  · refine .inr ⟨it.go Z' H' σ' η' τ i o' hlt, fun σ'' H'' => ∃ Z'' η'', Ok B K Z'' H'' σ'' η'' (p ++ τ) ∧ W (i + 1) η'', ?_, ?_⟩
    · rintro σ'' H'' n
      exact ⟨ds.length - (i + 1), by omega, rfl, hlt, n⟩
    · intro x H'' y
      obtain ⟨Z2, d, hd, o2⟩ := it.yld Z' H' σ' η' τ i x H'' o' y hlt
      refine hg.run B Z2 H'' σ' η' (p ++ τ) x d _ o2 (hg.mono _ _ _ _ ?_ (h1 i d η' hd w))
      intro η2 q Z3 H3 σ3 _ o3
      refine hb.run B Z3 H3 σ3 η2 (p ++ τ) _ .none o3 (hb.mono _ _ _ ⟨?_, ?_, ?_, ?_⟩ q)
      · intro η4 w4 Z4 H4 σ4 o4
        exact ⟨Z4, η4, o4, w4⟩
      · intro x4 η4 w4 Z4 H4 σ4 v4 o4
        exact w4 Z4 H4 σ4 v4 o4.dropsτ
      · intro η4 w4 Z4 H4 σ4 o4
        exact w4 Z4 H4 σ4 o4.drops
      · intro η4 w4 Z4 H4 σ4 o4
        exact ⟨Z4, η4, o4, w4⟩
  · have e : i = ds.length := by omega
    subst e
    exact .inl ⟨it.stop Z' H' σ' η' τ _ o' (Nat.le_refl _), h2 η' w Z' H' σ' o'.drops⟩
def rForK (f : List (Key × Dt) → List Dt) (i : Nat) (rg : RG) (rb : RS) : RS := fun D η => ∃ kvs, dctAt η i kvs ∧ ∃ W : Nat → Env → Prop, W 0 η ∧
  (∀ i d η', (f kvs)[i]? = some d → W i η' → rg d η' fun η2 => rb { D with nx := W (i + 1), ct := W (i + 1), bk := D.nx } η2) ∧ ∀ η', W (f kvs).length η' → D.nx η'
theorem dsp_for {i : Nat} {wi : TI} {g : TG} {tb : TS} {rg : RG} {rb : RS} {sl : List Nat} {J : Addr → Obj → List (Key × V) → It} {f : List (Key × Dt) → List Dt} (hg : DG K sl g rg) (hb : DS K W0 tb rb)
    (hw : ∀ (σ : L2.St) (H : Hp) (R : It → Hp → Prop) (a : Addr) (o : Obj) (kvs : List (Key × V)), σ[i]? = some (some (.ref a)) → H a = some (.frz o (.dK kvs)) → R (J a o kvs) H → wi σ H R)
    (hj : ∀ (B : Base) (a : Addr) (od : Obj) (ks : List Key) (vs : List V) (ds : List Dt) (kvs : List (Key × Dt)) (en : En), B.H0 a = some (.frz od (.dK (ks.zip vs))) → a ∉ B.F0 → kvs = ks.zip ds → ks.length = vs.length → vs.length = ds.length → (en = En.val (.dct kvs) ∨ en = .bor (.dct kvs)) → IterOk B K (J a od (ks.zip vs)) [(.ref a, en)] (f kvs)) :
    DS K X (tLk (tFor wi g tb)) (rForK f i rg rb) := by
  refine ds_lk (r := fun kvs D η => ∃ W : Nat → Env → Prop, W 0 η ∧
    (∀ i d η', (f kvs)[i]? = some d → W i η' → rg d η' fun η2 => rb { D with nx := W (i + 1), ct := W (i + 1), bk := D.nx } η2) ∧ ∀ η', W (f kvs).length η' → D.nx η') ⟨?_, ?_⟩
  · rintro kvs η D D' hd ⟨W, h0, h1, h2⟩
    exact ⟨W, h0, fun i d η' e w => hg.mono _ _ _ _ (fun η2 q => hb.mono _ { D with nx := W (i + 1), ct := W (i + 1), bk := D.nx } { D' with nx := W (i + 1), ct := W (i + 1), bk := D'.nx } ⟨fun _ h => h, hd.rt, hd.nx, fun _ h => h⟩ q) (h1 i d η' e w), fun η' w => hd.nx _ (h2 η' w)⟩
  · rintro B Z H σ η τ E kvs a od ks vs ds P o q
    obtain ⟨en, hen, dup⟩ := P.en
    exact hw _ _ _ a od _ P.at_ P.h (for_run hg hb (p := [(.ref a, en)]) (dup τ o) (hj B a od ks vs ds kvs en P.h0 P.f0 P.e P.l P.l2 hen) q)
def kD (kvs : List (Key × Dt)) : List Dt := kvs.map fun kv => keyDt kv.1
def vD (kvs : List (Key × Dt)) : List Dt := kvs.map (·.2)
def iD (kvs : List (Key × Dt)) : List Dt := kvs.map fun kv => .tup [keyDt kv.1, kv.2]
theorem ds_forK {i : Nat} {g : TG} {tb : TS} {rg : RG} {rb : RS} {sl : List Nat} (hg : DG K sl g rg) (hb : DS K W0 tb rb) : DS K X (tLk (tFor (iKeys (tVar i)) g tb)) (rForK kD i rg rb) :=
  dsp_for hg hb (J := Itk) (fun σ H R a o kvs h1 h2 h3 => ⟨_, h1, a, o, rfl, .inl ⟨kvs, h2, h3⟩⟩) fun B a od ks vs ds kvs en h1 h2 h3 h4 h5 h6 => iter_keys h1 h2 h3 h4 h5 h6
theorem ds_forV {i : Nat} {g : TG} {tb : TS} {rg : RG} {rb : RS} {sl : List Nat} (hg : DG K sl g rg) (hb : DS K W0 tb rb) : DS K X (tLk (tFor (iVals (tVar i)) g tb)) (rForK vD i rg rb) :=
  dsp_for hg hb (J := Itd) (fun σ H R a o kvs h1 h2 h3 => ⟨_, h1, a, o, kvs, rfl, h2, h3⟩) fun B a od ks vs ds kvs en h1 h2 h3 h4 h5 h6 => iter_vals h1 h2 h3 h4 h5 h6
theorem ds_forI {i : Nat} {g : TG} {tb : TS} {rg : RG} {rb : RS} {sl : List Nat} (hg : DG K sl g rg) (hb : DS K W0 tb rb) : DS K X (tLk (tFor (iItems (tVar i)) g tb)) (rForK iD i rg rb) :=
  dsp_for hg hb (J := Iti) (fun σ H R a o kvs h1 h2 h3 => ⟨_, h1, a, o, kvs, rfl, h2, h3⟩) fun B a od ks vs ds kvs en h1 h2 h3 h4 h5 h6 => iter_items h1 h2 h3 h4 h5 h6
end
end D

set_option Elab.async false
set_option linter.all false
set_option maxRecDepth 100000
set_option maxHeartbeats 4000000
/-! sets of texts that are walked: sorted(set(texts)) -/
namespace D
open PySem PySem.Spec PyProof.Rows L2
def tKey (e : Int × Value) : Str := match e.2 with | .str k _ => k | _ => Str.empty
def GoodT (P : Program) (w : World) (e : Int × Value) : Prop := ∃ k tk, e.2 = Value.str k tk ∧ e.1 = (strKind P w).hash k
def SetT (P : Program) (w : World) (h : Heap) (a : Addr) (S : Str → Bool) (n : Nat) : Prop :=
  ∃ o es ep t, h.get? a = some o ∧ o.ExactSet ∧ o.data = .set es ep t ∧ (∀ e ∈ es.toList, GoodT P w e) ∧ (es.toList.map tKey).Nodup ∧ (∀ k, S k = true ↔ k ∈ es.toList.map tKey) ∧
    es.size < scanBound ∧ t.fits es.size = true ∧ es.size = n ∧ Ris t.place.toList ∧ (w.params.followText "set-order" = true ∨ t.led = true)
section
variable {P : Program} {w : World} {h h' : Heap} {a : Addr} {S : Str → Bool} {n : Nat}
theorem SetT.at (R : SetT P w h a S n) (k : ∀ o, h.get? a = some o → h'.get? a = some o) : SetT P w h' a S n := by
  obtain ⟨o, es, ep, t, ho, r⟩ := R
  exact ⟨o, es, ep, t, k o ho, r⟩
theorem SetT.congr {S' : Str → Bool} (R : SetT P w h a S n) (e : ∀ k, S' k = S k) : SetT P w h a S' n := by
  have q : S' = S := funext e
  rw [q]; exact R
theorem goodT_elems {l : List (Int × Value)} (g : ∀ e ∈ l, GoodT P w e) : ElemsOf (strKind P w) l := fun e he => by
  obtain ⟨k, tk, h1, h2⟩ := g e he
  exact ⟨⟨k, by rw [h1]; exact strKind_is P w k tk, h2⟩, by rw [h1] <;> rfl⟩
theorem goodT_is {e : Int × Value} (g : GoodT P w e) (k : Str) : (strKind P w).is k e.2 = true ↔ tKey e = k := by
  obtain ⟨k0, tk, h1, _⟩ := g
  unfold tKey
  rw [h1]
  show ((k0 == k) = true) ↔ k0 = k
  exact beq_iff_eq
theorem goodT_mem {l : List (Int × Value)} (g : ∀ e ∈ l, GoodT P w e) (k : Str) : k ∈ l.map tKey ↔ ∃ e ∈ l, (strKind P w).is k e.2 = true := by
  rw [List.mem_map]
  constructor
  · rintro ⟨e, he, q⟩
    exact ⟨e, he, (goodT_is (g e he) k).2 q⟩
  · rintro ⟨e, he, q⟩
    exact ⟨e, he, (goodT_is (g e he) k).1 q⟩
end
section
variable {P : Program} {w : World} {A : Around} {E : Value → Shared → Prop} {s : Shared} {a : Addr} {S : Str → Bool} {n : Nat}
theorem setT_add_tail {g : Bool → Sem Unit} (hg : ∀ (b : Bool) (s₁ : Shared) (Q' : Unit → Shared → Prop), Q' () s₁ → wpAny (model P w) A (g b) Q' E s₁)
    {o : Obj} {es : Array (Int × Value)} {ep : Nat} {t : SetTable} (ho : s.heap.get? a = some o) (hex : o.ExactSet) (hd : o.data = .set es ep t)
    {es1 : Array (Int × Value)} {t2 : SetTable} {S' : Str → Bool} (g1 : ∀ e ∈ es1.toList, GoodT P w e) (nd1 : (es1.toList.map tKey).Nodup) (m1 : ∀ k, S' k = true ↔ k ∈ es1.toList.map tKey)
    (hb1 : es1.size < scanBound) (hf2 : t2.fits es1.size = true) (hr : Ris t2.place.toList) (hl : w.params.followText "set-order" = true ∨ t2.led = true) {wasDummy : Bool} {R : Option Bool → Shared → Prop}
    (hR : ∀ h', Heap.SameBut a s.heap h' → SetT P w h' a S' es1.size → R (some true) { s with heap := h' }) :
    wpAny (model P w) A (do
        storeSet a es1 t2
        if (!wasDummy && t2.tooFull) = true then do
            g (relayAll t2 es1 (SetTable.grown es1.size)).2.2
            storeSet a (relayAll t2 es1 (SetTable.grown es1.size)).1 (relayAll t2 es1 (SetTable.grown es1.size)).2.1
            pure (some true)
          else pure (some true)) R E s := by
  refine wpAny_bind (wpAny_storeSet_of ho hd ?_ (fits_of_scanBound hb1))
  have ho1 := store_at (es' := es1) (t' := t2) ho hd
  have sb1 := Heap.SameBut.update s.heap a (Obj.putSet es1 t2)
  split
  · have pm := relayAll_perm t2 es1 (SetTable.grown es1.size)
    have hf3 := relayAll_fits t2 es1 (SetTable.grown es1.size)
    have hr3 := relayAll_ris t2 es1 (SetTable.grown es1.size)
    have hl3 := relayAll_led t2 es1 (SetTable.grown es1.size)
    generalize relayAll t2 es1 (SetTable.grown es1.size) = Z at pm hf3 hr3 hl3 ⊢
    obtain ⟨es2, t3, gave⟩ := Z
    dsimp only at pm hf3 hr3 hl3 ⊢
    have hsz : es2.size = es1.size := by rw [← Array.length_toList, pm.length_eq, Array.length_toList]
    have hb2 : es2.size < scanBound := by rw [hsz]; exact hb1
    refine wpAny_bind (hg _ _ _ ?_)
    refine wpAny_bind (wpAny_storeSet_of ho1 rfl ?_ (fits_of_scanBound hb2))
    have ho2 := store_at (es' := es2) (t' := t3) ho1 rfl
    refine wpAny_pure (hR _ (sb1.trans (Heap.SameBut.update _ a _)) ?_)
    exact ⟨_, es2, _, t3, ho2, hex, rfl, fun e he => g1 e (pm.mem_iff.mp he), (pm.map tKey).nodup_iff.mpr nd1, fun k => (m1 k).trans (pm.map tKey).mem_iff.symm, hb2, hf3, hsz, hr3,
      hl.imp id fun z => by rw [hl3]; exact z⟩
  · exact wpAny_pure (hR _ sb1 ⟨_, es1, _, t2, ho1, hex, rfl, g1, nd1, m1, hb1, hf2, rfl, hr, hl⟩)
theorem setT_add_hashed {k : Str} {tk : Tok} {Q : Bool → Shared → Prop} (R : SetT P w s.heap a S n) (room : n + 1 < scanBound)
    (hQ : ∀ h', Heap.SameBut a s.heap h' → SetT P w h' a (fun j => S j || decide (j = k)) (if S k = true then n else n + 1) → Q (!S k) { s with heap := h' }) :
    wpAny (model P w) A (setAddHashed a (.str k tk) ((strKind P w).hash k)) Q E s := by
  obtain ⟨o, es, ep, t, ho, hex, hd, g, nd, hm, hb, hf, hn, hr, hl⟩ := R
  have hkey : (strKind P w).is k (.str k tk) = true := strKind_is P w k tk
  have hsc : (Value.str k tk).scannable = true := rfl
  have hel : ElemsOf (strKind P w) es.toList := goodT_elems g
  unfold setAddHashed setAddHashedIn
  refine wpAny_holding (wpAny_bind (wpAny_setState_of ho hd hf ?_))
  dsimp only
  rw [byScan_of hsc hb hel]
  simp only [↓reduceIte]
  unfold setAddByScan
  refine wpAny_bind ?_
  refine wpAny_bind (wpAny_rule ?_)
  refine wpAny_bind (wpAny_setScan_of hkey ho hd hf hel ?_)
  cases hfi : List.findIdx? (fun e => (strKind P w).is k e.2) es.toList with
  | some j =>
    dsimp only
    obtain ⟨hj, pj, _⟩ := List.findIdx?_eq_some_iff_getElem.mp hfi
    have hSk : S k = true := (hm k).2 ((goodT_mem (P := P) (w := w) g k).2 ⟨es.toList[j], List.getElem_mem hj, pj⟩)
    refine wpAny_pure (wpAny_pure ?_)
    have q := hQ s.heap (Heap.SameBut.refl a s.heap) ⟨o, es, ep, t, ho, hex, hd, g, nd, fun i => by
      rw [Bool.or_eq_true, decide_eq_true_eq, ← hm i]
      exact ⟨fun z => z.elim id (fun e => e ▸ hSk), .inl⟩, hb, hf, by rw [if_pos hSk]; exact hn, hr, hl⟩
    rw [hSk] at q
    exact q
  | none =>
    dsimp only
    have hnk : k ∉ es.toList.map tKey := fun z => by
      obtain ⟨e, he, q⟩ := (goodT_mem (P := P) (w := w) g k).1 z
      have c := List.findIdx?_eq_none_iff.mp hfi e he
      rw [q] at c
      cases c
    have hSk : S k = false := by
      cases q : S k with
      | false => rfl
      | true => exact absurd ((hm k).1 q) hnk
    have hgw : ∀ (b : Bool) {s₁ : Shared} {Q' : Unit → Shared → Prop}, Q' () s₁ → wpAny (model P w) A (match b with | true => rule "set.scan.the-table-gave-way" | false => pure ()) Q' E s₁ :=
      fun b s₁ Q' q => by cases b <;> first | exact wpAny_pure q | exact wpAny_rule q
    have pm := layNew_perm t es ((strKind P w).hash k) (.str k tk)
    have hf1 := layNew_fits t es ((strKind P w).hash k) (.str k tk)
    have hr1 := layNew_ris t es ((strKind P w).hash k) (.str k tk) hr
    have hl1 := layNew_led t es ((strKind P w).hash k) (.str k tk)
    generalize layNew t es ((strKind P w).hash k) (.str k tk) = Z at pm hf1 hr1 hl1 ⊢
    obtain ⟨es1, t1, wasDummy, gave⟩ := Z
    dsimp only at pm hf1 hr1 hl1 ⊢
    rw [Array.toList_push] at pm
    have pc : es1.toList.Perm (((strKind P w).hash k, Value.str k tk) :: es.toList) := pm.trans (List.perm_append_singleton _ _)
    have pk : (es1.toList.map tKey).Perm (k :: es.toList.map tKey) := pc.map tKey
    have g1 : ∀ e ∈ es1.toList, GoodT P w e := fun e he => by
      rcases List.mem_cons.mp (pc.mem_iff.mp he) with z | z
      · rw [z]; exact ⟨k, tk, rfl, rfl⟩
      · exact g e z
    have nd1 : (es1.toList.map tKey).Nodup := pk.nodup_iff.mpr (List.nodup_cons.mpr ⟨hnk, nd⟩)
    have m1 : ∀ i, (S i || decide (i = k)) = true ↔ i ∈ es1.toList.map tKey := fun i => by
      rw [Bool.or_eq_true, decide_eq_true_eq, hm i, pk.mem_iff, List.mem_cons]
      exact Or.comm
    have hsz : es1.size = n + 1 := by rw [← Array.length_toList, pc.length_eq, List.length_cons, Array.length_toList, hn]
    have hb1 : es1.size < scanBound := by rw [hsz]; exact room
    have hled : w.params.followText "set-order" = true ∨ t1.led = true := hl.imp id fun z => by rw [hl1]; exact z
    have fin : ∀ h', Heap.SameBut a s.heap h' → SetT P w h' a (fun j => S j || decide (j = k)) es1.size → Q true { s with heap := h' } := fun h' sb r => by
      have q := hQ h' sb
      rw [hSk] at q
      rw [hsz] at r
      exact q r
    refine wpAny_bind (hgw _ ?_)
    split
    · refine wpAny_bind ?_
      rw [hashByValue_scannable 8 hsc]
      refine wpAny_pure ?_
      refine setT_add_tail ?_ ho hex hd g1 nd1 m1 hb1 ?_ ?_ ?_ ?_
      · intro b s₁ Q' q; cases b <;> first | exact wpAny_pure q | exact wpAny_rule q
      · first | (split <;> first | exact hf1 | exact SetTable.fits_plain_off hf1) | exact hf1
      · first | (split <;> exact hr1) | exact hr1
      · first | (split <;> exact hled) | exact hled
      · intro h' sb r; dsimp only; exact wpAny_pure (fin h' sb r)
    · refine wpAny_bind (wpAny_pure ?_)
      simp only [↓reduceIte]
      refine setT_add_tail ?_ ho hex hd g1 nd1 m1 hb1 hf1 hr1 hled ?_
      · intro b s₁ Q' q; cases b <;> first | exact wpAny_pure q | exact wpAny_rule q
      · intro h' sb r; dsimp only; exact wpAny_pure (fin h' sb r)
theorem setT_new {S0 : Addr} {h : Heap} (g : h.get? S0 = some (eSet w)) : SetT P w h S0 (fun y => ([] : List Str).any (· == y)) 0 :=
  ⟨_, #[], 0, _, g, ⟨rfl, rfl, rfl⟩, rfl, (fun e he => by simp at he), by simp, (fun y => by simp), (by decide), (by rfl), rfl, List.Pairwise.nil, by
    show w.params.followText "set-order" = true ∨ (!w.params.followText "set-order") = true
    cases w.params.followText "set-order" <;> simp⟩
theorem fills_textsR {l S0 : Addr} {its : Array Value} {xs : List Str} (hi : StrsAre its.toList xs) (hb : xs.length + 1 < scanBound) : Fills P w l its S0 (fun h => SetT P w h S0 (fun y => xs.any (· == y)) (cnS xs xs.length)) := by
  intro B I t R W hS st g hR
  have hn : its.size = xs.length := by
    have := StrsAre.len_eq hi
    rwa [Array.length_toList] at this
  have hw : S0 ∉ [I] := fun h => hS (W.sub _ h)
  suffices H : ∀ (k i : Nat) (u : Shared), its.size - i = k → i ≤ its.size → LtIt l its I i u → SetT P w u.heap S0 (fun y => (xs.take i).any (· == y)) (cnS xs i) → Moved (S0 :: [I]) (fun a b => b = a) t u →
      codeAny (model P w) B (.builtin "set.update.loop" ⟨[.ref S0, .ref I], []⟩) R u by
    refine H its.size 0 t rfl (Nat.zero_le _) st ?_ ?_
    · exact setT_new g
    · exact Moved.refl fun a => rfl
  intro k
  induction k with
  | zero =>
    intro i u hk hle hst hs mv
    obtain rfl : i = its.size := by omega
    refine codeAny_builtin PyProof.Rows.F.entry_set_update_loop ?_
    rw [Around.under_plainId PyProof.Rows.F.plain_set_update_loop _]
    show wpAny _ B.in1 (pyNext (.ref I) >>= _) _ _ u
    refine wpAny_bind (W.done u _ _ hst fun u' m => ?_)
    have m' := mv.trans W.gtrans (m.mono fun b hb => List.mem_cons_of_mem _ hb)
    have z' : SetT P w u'.heap S0 (fun y => (xs.take its.size).any (· == y)) (cnS xs its.size) := hs.at fun o ho => m.heap S0 _ hw ho
    rw [hn, List.take_length] at z'
    exact wpAny_pure (hR u' m' z')
  | succ k ih =>
    intro i u hk hle hst hs mv
    have hlt : i < its.size := by omega
    refine codeAny_builtin PyProof.Rows.F.entry_set_update_loop ?_
    rw [Around.under_plainId PyProof.Rows.F.plain_set_update_loop _]
    show wpAny _ B.in1 (pyNext (.ref I) >>= _) _ _ u
    refine wpAny_bind (W.item i u _ _ hlt hst fun v u' hP hst' m => ?_)
    obtain ⟨tk, rfl⟩ := SS.strs_at hi i v (by rw [Array.getElem?_toList]; exact hP)
    have z' : SetT P w u'.heap S0 (fun y => (xs.take i).any (· == y)) (cnS xs i) := hs.at fun o ho => m.heap S0 _ hw ho
    show wpAny _ B.in1 (holding [Value.str (xs.getD i Str.empty) tk] (setAdd S0 (.str (xs.getD i Str.empty) tk)) >>= _) _ _ u'
    unfold setAdd
    refine wpAny_bind (wpAny_holding (wpAny_holding (wpAny_bind ((strKind P w).pyHash (k := xs.getD i Str.empty) (strKind_is _ _ _ _) ?_))))
    have hc := cnS_le xs i
    refine setT_add_hashed (s := { u' with toks := u'.toks + 1 }) z' (by omega) fun h' hsb z2 => ?_
    have z3 : SetT P w h' S0 (fun y => (xs.take (i + 1)).any (· == y)) (cnS xs (i + 1)) := by
      have z2' : SetT P w h' S0 (fun j => (xs.take i).any (· == j) || decide (j = xs.getD i Str.empty)) (cnS xs (i + 1)) := by rw [cnS]; exact z2
      refine z2'.congr fun y => ?_
      have hx : i < xs.length := by omega
      have hg : xs.getD i Str.empty = xs[i] := by rw [List.getD_eq_getElem?_getD, List.getElem?_eq_getElem hx]; rfl
      rw [List.take_add_one, List.getElem?_eq_getElem hx, List.any_append, hg]
      congr 1
      show [xs[i]].any (· == y) = decide (y = xs[i])
      by_cases e : y = xs[i]
      · simp [e]
      · have hb : (xs[i] == y) = false := by simpa [beq_iff_eq] using fun q : xs[i] = y => e q.symm
        simp [e, hb]
    have hf : LtIt l its I (i + 1) { u' with heap := h', toks := u'.toks + 1 } := W.frame _ u' _ _ hst' (Nat.le_succ _) fun b hb o e => by
      rw [hsb.2 b fun h => hS (h ▸ hb)]
      exact e
    refine wpAny_pure ⟨plainId_quiet PyProof.Rows.F.plain_set_update_loop _, ih (i + 1) _ (by omega) hlt hf z3 ?_⟩
    refine mv.trans W.gtrans ((m.mono fun b hb => List.mem_cons_of_mem _ hb).then_heap (Nat.le_succ _) fun b o hb e => ?_)
    rw [hsb.2 b fun h => hb (h ▸ List.mem_cons_self ..)]
    exact e
theorem strs_ofT : ∀ (l : List Value), (∀ v ∈ l, ∃ k tk, v = Value.str k tk) → StrsAre l (l.map fun v => match v with | .str k _ => k | _ => Str.empty)
  | [], _ => .nil
  | v :: l, h => by
    obtain ⟨k, tk, rfl⟩ := h v List.mem_cons_self
    exact .cons _ tk (strs_ofT l fun u hu => h u (List.mem_cons_of_mem _ hu))
theorem sorted_setTx {Q : Value → Shared → Prop} (R : SetT P w s.heap a S n) (hh : A.handled = none) (h64 : n < 64)
    (hQ : ∀ s' p (out : Array Value) (c : Nat) (ys : List Str), (∀ b o, s.heap.get? b = some o → s'.heap.get? b = some o) → s'.gens = s.gens → s'.os = s.os → s.heap.objs.size ≤ p →
      s'.heap.get? p = some (seqObj "list" out c) → StrsAre out.toList ys → sortedS ys = true → ys.Nodup → (∀ k, k ∈ ys ↔ S k = true) → ys.length = n → Q (.ref p) s') :
    wpAny (model P w) A (call (.builtin "sorted") [.ref a]) Q E s := by
  obtain ⟨o, es, ep, t, ho, hex, hd, g, nd, hm, hb, hf, hn, hr, hl⟩ := R
  refine Calls.call_function_entry kind_sorted plain_sorted entry_sorted (args_sorted1 _) ?_
  unfold Builtin.«sorted»
  refine wpAny_bind (m := checkCount "sorted" 1 1 _) (wpAny_pure ?_)
  refine wpAny_bind (collect_set (A := A.in1) hh ⟨o, ho, hex.1, hd⟩ hf hb hr hl fun s1 vs k1 hz g1 o1 pm => ?_)
  have hvl : vs.length = n := by rw [pm.length_eq, List.length_map, Array.length_toList]; exact hn
  have hS : StrsAre vs (vs.map fun v => match v with | .str k _ => k | _ => Str.empty) := strs_ofT vs fun v hv => by
    obtain ⟨e, he, q⟩ := List.mem_map.mp (pm.mem_iff.mp hv)
    obtain ⟨k, tk, h1, _⟩ := g e he
    exact ⟨k, tk, by rw [← q]; exact h1⟩
  have pk : (vs.map fun v => match v with | .str k _ => k | _ => Str.empty).Perm (es.toList.map tKey) := by
    have q := pm.map fun v => match v with | .str k _ => k | _ => Str.empty
    rw [List.map_map] at q
    exact q
  generalize (vs.map fun v => match v with | .str k _ => k | _ => Str.empty) = zs at hS pk
  refine wpAny_bind (wpAny_newList ?_ (by rw [hvl, sizeLine_eq]; omega))
  have hoL : (s1.heap.push (seqObj "list" vs.toArray 0)).get? s1.heap.objs.size = some (seqObj "list" vs.toArray 0) := Heap.get?_push_size _ rfl
  refine wpAny_bind (wpAny_holding (wpAny_call_entry PyProof.Rows.slot_list_sort ⟨_, hoL, rfl⟩ PyProof.Rows.entry_list_sort
    (list_sort_treeK strKind_oneLt (s := { s1 with heap := s1.heap.push (seqObj "list" vs.toArray 0) }) hoL hS.keysOf (fun v₁ v₂ rest e => keyKind_strs (by rw [← e]; exact hS)) (by rw [hvl]; exact h64) fun st' hp hs => ⟨_, rfl, ?_⟩)
    (PyProof.Rows.args_list_sort _)))
  obtain ⟨ys, q1, q2, q3⟩ := sorted_out_str hS hp hs
  obtain ⟨c, hc⟩ := sortedHeap_at (vs := vs) (out := (arrOf st').map (·.2)) hoL
  have pn : ys.Perm (es.toList.map tKey) := q2.trans pk
  refine wpAny_pure ⟨_, rfl, hQ _ s1.heap.objs.size ((arrOf st').map (·.2)) c ys (fun b u e => ?_) g1 o1 hz hc q1 q3 (pn.nodup_iff.mpr nd) (fun k => by rw [pn.mem_iff, ← hm k]) ?_⟩
  · have q := k1 b u e
    have hlt := Heap.lt_size q
    rw [sortedHeap_old (Nat.ne_of_lt hlt) (by rw [size_push']; exact Nat.lt_succ_of_lt hlt)]
    exact Heap.get?_push_of_some _ q
  · rw [pn.length_eq, List.length_map, Array.length_toList]; exact hn
end
end D
namespace D
open PySem PySem.Spec PyProof.Rows L2
def tSortST (K : PySem.W.Frag) (ta : TE) : TE := fun σ H Q => ta σ H fun x H1 => ∃ (l : Addr) (xs : List Str), x = .ref l ∧ SqL K H1 l (xs.map V.str) ∧ xs.length < 64 ∧
  ∀ (ys : List Str) (p : Addr), sortedS ys = true → ys.Nodup → (∀ k, k ∈ ys ↔ k ∈ xs) → H1 p = none → Q (.ref p) (upd H1 p (.lst (ys.map V.str)))
section
variable {X : Cx} {a : Expr} {ta : TE} {p p2 q pos : Pos}
theorem pe_sortST (hc : X.calm = true) (g1 : Gl X "sorted") (m1 : X.mg "sorted" = none) (g2 : Gl X "set") (m2 : X.mg "set" = none) (ha : PE X a ta) (na : starEach [a] X.env = (false, eval a X.env) :: starEach [] X.env := by rfl) :
    PE X (.Call (.Name "sorted" p) [.Call (.Name "set" p2) [a] [] q] [] pos) (tSortST X.K ta) := by
  constructor
  intro pins s σ H Q I h
  refine Call_ (ld_blt I g1 m1 PyProof.Rows.boot_sorted (PyProof.Rows.callWith_builtin1 (PyProof.Rows.args_cons (Call_ (ld_blt I g2 m2 PyProof.Rows.boot_set ?_)) rfl) rfl rfl))
  refine PyProof.Rows.callWith_type1 (PyProof.Rows.args_cons (thn (ha.run pins s σ H _ I h) ?_) na) na rfl
  rintro v t ⟨x, H1, I1, r1, l, xs, rfl, hs, hn, hq⟩
  refine PyProof.Rows.args_nil ?_
  cases r1
  obtain ⟨its, r, pl, _⟩ := I1.list hs
  have hx : StrsAre its.toArray.toList xs := by simpa using strsAre_of r
  refine set_shell (I1.ok.hd hc) pl.isList (fills_textsR hx (by unfold scanBound; omega)) fun h' tk hS hk => PyProof.Rows.args_nil ?_
  have I2 : Inv X pins σ H1 { t with heap := h', toks := tk } := I1.kept fun b o e => hk b o e
  have hle := cnS_le xs xs.length
  refine sorted_setTx (s := { t with heap := h', toks := tk }) hS (I2.ok.hd hc) (by omega) fun s' p out n ys k g o hp hg hi hso hnd hm hl => ?_
  have hlen : (ys.map V.str).length ≤ sizeLine := by rw [List.length_map, hl, sizeLine_eq]; omega
  have hnew : H1 p = none := I2.hok.fresh hp
  have J : Inv X pins σ (upd H1 p (.lst (ys.map V.str))) s' := I2.call' (ch := []) o (Un.laid k hp hnew) (I2.hok.laid k hp ⟨hlen, out.toList, n, vals_of_strs hi, hg⟩) (by rw [g]; exact I2.bare) fun _ z => nomatch z
  refine ⟨.ref p, _, J, rfl, hq ys p hso hnd (fun y => (hm y).trans ?_) hnew⟩
  rw [List.any_eq_true]
  constructor
  · rintro ⟨z, hz, e⟩
    rw [← eq_of_beq e]; exact hz
  · exact fun hy => ⟨y, hy, beq_self_eq_true _⟩
end
section
variable {K : PySem.W.Frag} {X : Wsh}
def rSortST (re : RE) : RE := fun η Q => re η fun x η1 => ∃ xs : List Str, look η1 x = some (.lst (xs.map .str)) ∧ xs.length < 64 ∧ ∀ ys : List Str, sortedS ys = true → ys.Nodup → (∀ k, k ∈ ys ↔ k ∈ xs) → Q (.nw (.lst (ys.map .str))) η1
theorem de_sortST {ta : TE} {ra : RE} (ha : DE K X ta ra) : DE K X (tSortST K ta) (rSortST ra) := by
  constructor
  · intro η Q Q' hq q
    refine ha.mono _ _ _ ?_ q
    rintro x η1 ⟨xs, e, l, q⟩
    exact ⟨xs, e, l, fun ms h h' h2 => hq _ _ (q ms h h' h2)⟩
  intro B Z H σ η τ P lk o q
  refine ha.run B Z H σ η τ _ lk o (ha.mono _ _ _ ?_ q)
  rintro x η1 ⟨xs, e, l, q⟩ Z1 H1 v o1
  obtain ⟨a, vs, rfl, hs, r⟩ := o1.see e
  cases strs_of r
  exact ⟨a, xs, rfl, hs, l, fun ys p h h' h2 hp => q ys h h' h2 _ _ _ (o1.ok.newLst (rp_strs ys) hp)⟩
/-! {k: v} -/
def rDisp1 (rk rv : RE) : RE := fun η Q => rk η fun x η1 => rv η1 fun y η2 => ∃ dx k d, look η2 x = some dx ∧ keyD dx = some k ∧ frz η2 y = some d ∧ Q (.nw (.dct [(k, d)])) η2
theorem de_disp1 {tk tv : TE} {rk rv : RE} (hk : DE K X tk rk) (hv : DE K X tv rv) : DE K X (tDisp [(tk, tv)]) (rDisp1 rk rv) := by
  constructor
  · intro η Q Q' hq q
    refine hk.mono _ _ _ (fun x η1 q => hv.mono _ _ _ ?_ q) q
    rintro y η2 ⟨dx, k, d, e1, e2, e3, q⟩
    exact ⟨dx, k, d, e1, e2, e3, hq _ _ q⟩
  intro B Z H σ η τ P lk o q p hp
  have o1 : Ok B K Z (upd H p (.dK [])) σ η ((.ref p, .mu none (.dt (.dct []))) :: τ) := o.new hp (d := .dct []) ⟨[], [], [], rfl, rfl, upd_same, .nil⟩
  refine hk.run B Z _ σ η _ _ lk.cons o1 (hk.mono _ _ _ (fun x η1 q Z1 H1 v1 o2 => ?_) q)
  refine hv.run B Z1 H1 σ η1 _ _ lk.cons.app o2.2 (hv.mono _ _ _ ?_ q)
  rintro y η2 ⟨dx, k, d, e1, e2, e3, q⟩ Z2 H2 v2 o3
  have o4 : OkV B K Z2 H2 σ η2 ((.ref p, .mu none (.dt (.dct []))) :: τ) [x, y] [v1, v2] := OkV.cons o2.1 o3
  have ek : v1 = kV k := see_key (o4.head.see e1) e2
  subst ek
  have o5 : OkV B K Z2 H2 σ η2 (tmp [x] [kV k] ++ ((.ref p, .mu none (.dt (.dct []))) :: τ)) [y] [v2] := o3
  obtain ⟨Z3, z3, o6⟩ := o5.frz e3
  have o7 : Ok B K Z3 H2 σ η2 (((.ref p, .mu none (.dt (.dct []))) :: (v2, .val d) :: τ)) := by
    have h : Ok B K Z3 H2 σ η2 (tmp [x] [kV k] ++ ((.ref p, .mu none (.dt (.dct []))) :: (v2, .val d) :: τ)) := by
      refine o6.perm ?_
      exact (List.perm_middle (l₁ := tmp [x] [kV k]) (a := (v2, En.val d))).symm.trans (List.Perm.append_left _ (List.Perm.swap _ _ _))
    exact h.drops
  obtain ⟨a', ea, nz, ow⟩ := o7.notZ
  cases ea
  obtain ⟨ks, vs, ds, e4, e5, e6, e7⟩ := ow
  have ez : ks.zip vs = [] := by
    have l := e7.length
    cases ks with
    | nil => rfl
    | cons k0 ks =>
      cases vs with
      | nil => simp at e5
      | cons v0 vs =>
        cases ds with
        | nil => simp at l
        | cons d0 ds => simp at e4
  rw [ez] at e6
  have rv : Rp K Z3 H2 v2 d := (o7.perm (List.Perm.swap _ _ _)).rp
  refine ⟨e6, [(k, v2)], rfl, by simp, ?_⟩
  have em : mergeK [] [(k, v2)] = [(k, v2)] := rfl
  rw [em]
  have o8 := o7.write (o := .dK [(k, v2)]) (d' := .dct [(k, d)]) ⟨[k], [v2], [d], rfl, rfl, upd_same, .cons (rv.write nz) .nil⟩
  exact q _ _ _ (.nw ((o8.perm (List.Perm.swap _ _ _)).drop))
end
end D

set_option Elab.async false
set_option linter.all false
set_option maxRecDepth 100000
set_option maxHeartbeats 4000000
/-! a thing is frozen ahead of a block's last statement -/
namespace D
open PySem PySem.Spec PyProof.Rows L2
variable {K : PySem.W.Frag} {X : Wsh}
def rFrz (i : Nat) (r : RS) : RS := fun D η => ∃ d, η[i]? = some (some (.mu none (.dt d))) ∧ r D (η.set i (some (.val d)))
theorem ds_frz1 (i : Nat) {t : TS} {r : RS} (h : DS K X t r) : DS K X t (rFrz i r) := by
  refine ⟨fun η D D' hd ⟨d, e, q⟩ => ⟨d, e, h.mono _ D D' hd q⟩, ?_⟩
  rintro B Z H σ η τ E lk o ⟨d, e, q⟩
  obtain ⟨Z', o'⟩ := o.freezeAt e
  exact h.run B Z' H σ _ τ E lk o' q
end D

set_option Elab.async false
set_option linter.all false
set_option maxRecDepth 100000
set_option maxHeartbeats 4000000
set_option pp.maxSteps 8000
namespace Q
open PySem PySem.Spec PyProof.Rows L2 D
def top (i : Nat) : Stmt := PySem.Challenge.pw_fellwhere_k31_what_a_change_has.main.body.getD i (.Pass ⟨0, 0, 0, 0⟩)
def Hs (P : Program) (w : World) (K : PySem.W.Frag) (mg : Str → Option Value) (base : Heap) (CX : CXT) (k : Nat) (x : Str) (ps : List Str) (sp : Sp) : Prop :=
  ∃ f fd, FnOk P w K mg base CX k f fd ps sp ∧ mg x = some (.ref f) ∧ PySem.W.keepIn K (.ref f) = true ∧ Binds K fd ps []
structure ExcF (K : PySem.W.Frag) (mg : Str → Option Value) (x : Str) (C : Addr) : Prop where
  g : mg x = some (.ref C)
  nw : PySem.W.excIn K C [.type "ValueError", .type "Exception", .type "BaseException", .type "object"] "ValueError.__new__" = true
  kp : PySem.W.keepIn K (.ref C) = true
  sb : PySem.W.subIn K (.ref C) (.type "BaseException") = some true
  ty : PySem.W.typeIn K (.ref C) = some (.type "type")
  ec : ExcC K C
def tEx (K : PySem.W.Frag) (t : Addr → TS) (cls : Value) : TS := fun D σ H => ∃ C, cls = .ref C ∧ ExcC K C ∧ t C D σ H
theorem pss_ex {K : PySem.W.Frag} {X : Cx} {sts : List Stmt} {t : Addr → TS} {cls : Value} {d : Option Addr} {oe : Obj} (hK : X.K = K) (h : ∀ C, ExcC X.K C → Zc (.ref C) d oe → PSs X sts (t C)) (hz : Zc cls d oe) : PSs X sts (tEx K t cls) :=
  ⟨fun pins s σ H D I ⟨C, e, ec, q⟩ => (h C (hK ▸ ec) (e ▸ hz)).run pins s σ H D I q⟩
def rEx (K : PySem.W.Frag) (C : Addr) (r : RS) : RS := fun D η => ExcC K C ∧ r D η
theorem ds_ex {K : PySem.W.Frag} {X : Wsh} {t : Addr → TS} {r : RS} {C : Addr} (h : DS K X (t C) r) : DS K X (tEx K t (.ref C)) (rEx K C r) :=
  ⟨fun η D D' hd q => ⟨q.1, h.mono η D D' hd q.2⟩, fun B Z H σ η τ E lk o q => ⟨C, rfl, q.1, h.run B Z H σ η τ E lk o q.2⟩⟩
abbrev rLenK (K : PySem.W.Frag) : List V → Hp → VK → Prop := fun xs H Q => ∃ x n, xs = [x] ∧ LenV K x H n ∧ Q (.int n) H
abbrev rListK (K : PySem.W.Frag) : List V → Hp → VK → Prop := fun xs H Q => ∃ p ys, xs = [.ref p] ∧ (SqL K H p ys ∨ SqT K H p ys) ∧ ∀ l, H l = none → Q (.ref l) (upd H l (.lst ys))
def tTry (K : PySem.W.Frag) (Wout : WX) (l : List Hd) (tb : WX → TS) : TS := fun D σ H => tb (wMix K Wout D l) D σ H
theorem ps_tryT {K : PySem.W.Frag} {X : Cx} {body : List Stmt} {h₀ : ExceptHandler} {hds : List ExceptHandler} {l : List Hd} {pos : Pos} {tb : WX → TS} {Wout : WX} (hK : X.K = K) (hs : X.stack = X.env :: X.outer) (hf : X.env.frame = some X.env.locals) (hN : X.N.Nodup) (tk : Takes X Wout)
    (hb : ∀ (W : WX) (pn : List (Addr × Obj)) (xe : Value → Shared → Prop), Takes (X.tr pn xe) W → PassesOwn (model X.prog X.w) X.A X.env xe → PSs (X.tr pn xe) body (tb W))
    (hh : MixOk X (h₀ :: hds) l) : PS X (.Try body (h₀ :: hds) [] [] pos) (tTry K Wout l tb) := hK ▸ ps_try_mix hs hf hN tk hb hh
theorem ds_tryT {K : PySem.W.Frag} {X : Wsh} {tb : WX → TS} {rb : (Addr → List (Str × Dt) → _root_.D.Env → Prop) → RS} {l : List Hd} {m : List HdD} {Wout : WX} (hW : ∀ C d σ H, X.W (.ref C) d σ H → Wout (.ref C) d σ H) (hb : ∀ W w, DS K ⟨W, w⟩ (tb W) (rb w)) (hh : DHds K l m) :
    DS K X (tTry K Wout l tb) (rTry K rb m X.w) := ds_try hW hb hh
/-! #### reading a def statement by statement -/
theorem sg {r u : RS} {D : EndsD} {η : _root_.D.Env} (h : ∀ U, U = u D → r { D with nx := U } η) : rSeq r u D η := h _ rfl
def Lp (rg : RG) (rb : RS) (D : EndsD) (ds : List Dt) (η1 : _root_.D.Env) : Prop := ∃ W : Nat → _root_.D.Env → Prop, W 0 η1 ∧
  (∀ i d η', ds[i]? = some d → W i η' → rg d η' fun η2 => rb { D with nx := W (i + 1), ct := W (i + 1), bk := D.nx } η2) ∧ ∀ η', W ds.length η' → D.nx η'
theorem rFor_L {ri : RI'} {rg : RG} {rb : RS} {D : EndsD} {η : _root_.D.Env} : rFor ri rg rb D η = ri η fun ds η1 => Lp rg rb D ds η1 := rfl
def Lc (rg : RG) (rt : RT) (re : RE) (vs : List Nat) (Q : Vl → _root_.D.Env → Prop) (ds : List Dt) (η1 : _root_.D.Env) : Prop := ds.length ≤ 100000 ∧ ∃ W : Nat → List Dt → _root_.D.Env → Prop, W 0 [] (wipeE η1 vs) ∧
  (∀ i d acc η', ds[i]? = some d → acc.length ≤ i → W i acc η' → rg d η' fun η2 => rt η2 fun b η3 => if b = true then re η3 fun x η4 => ∃ e, frz η4 x = some e ∧ W (i + 1) (acc ++ [e]) (wipeE η4 vs) else W (i + 1) acc (wipeE η3 vs)) ∧
  ∀ acc η', acc.length ≤ ds.length → W ds.length acc η' → Q (.nw (.lst acc)) (unw η1 η' vs)
theorem rLc_L {ri : RI'} {rg : RG} {rt : RT} {re : RE} {vs : List Nat} {η : _root_.D.Env} {Q : Vl → _root_.D.Env → Prop} : rLc ri rg rt re vs η Q = ri η fun ds η1 => Lc rg rt re vs Q ds η1 := rfl
theorem asgLc {ri : RI'} {rg : RG} {rt : RT} {re : RE} {vs : List Nat} {η : _root_.D.Env} {i : Nat} {D : EndsD} : rAsg (rLc ri rg rt re vs) i D η = ri η fun ds η1 => Lc rg rt re vs (fun x η1 => i < η1.length ∧ match x with
  | .d d => D.nx (η1.set i (some (.val d)))
  | .nw d => D.nx (η1.set i (some (.mu none (.dt d))))
  | .nc c => D.nx (η1.set i (some (.mu none c)))
  | .gh _ _ => False
  | .sl j => match frz η1 (.sl j) with
    | some d => D.nx (η1.set i (some (.val d)))
    | none => False) ds η1 := rfl
/-- a comprehension without condition: by what is made of each -/
theorem lc_map {rg : RG} {re : RE} {vs : List Nat} {Q : Vl → _root_.D.Env → Prop} {ds : List Dt} {η1 : _root_.D.Env} (W : Nat → List Dt → _root_.D.Env → Prop) (hl : ds.length ≤ 100000) (h0 : W 0 [] (wipeE η1 vs))
    (h1 : ∀ i d acc η', ds[i]? = some d → acc.length ≤ i → W i acc η' → rg d η' fun η2 => re η2 fun x η4 => ∃ e, frz η4 x = some e ∧ W (i + 1) (acc ++ [e]) (wipeE η4 vs))
    (h2 : ∀ acc η', acc.length ≤ ds.length → W ds.length acc η' → Q (.nw (.lst acc)) (unw η1 η' vs)) : Lc rg rYes re vs Q ds η1 := ⟨hl, W, h0, h1, h2⟩
theorem lp_of {rg : RG} {rb : RS} {D : EndsD} {ds : List Dt} {η1 : _root_.D.Env} (W : Nat → _root_.D.Env → Prop) (h0 : W 0 η1)
    (h1 : ∀ i d η', ds[i]? = some d → W i η' → rg d η' fun η2 => rb { D with nx := W (i + 1), ct := W (i + 1), bk := D.nx } η2) (h2 : ∀ η', W ds.length η' → D.nx η') : Lp rg rb D ds η1 := ⟨W, h0, h1, h2⟩
theorem isa_no {n : String} : isa n .non = false := rfl
theorem isa_bl {n : String} {b : Bool} : isa n (.bl b) = (n == "bool" || n == "int") := rfl
theorem isa_in {n : String} {b : Int} : isa n (.int b) = (n == "int") := rfl
theorem isa_st {n : String} {b : Str} : isa n (.str b) = (n == "str") := rfl
theorem isa_by {n : String} {b : Array UInt8} : isa n (.byt b) = (n == "bytes") := rfl
theorem isa_ls {n : String} {b : List Dt} : isa n (.lst b) = (n == "list") := rfl
theorem isa_tu {n : String} {b : List Dt} : isa n (.tup b) = (n == "tuple") := rfl
theorem isa_di {n : String} {b : List (Key × Dt)} : isa n (.dct b) = (n == "dict") := rfl
/-- a promise by what is told (A) of a call that ends, and of one that raises (B) -/
def Spf {A : Type} (pre : List Ct → Prop) (R : List Ct → A → Prop) (f : List Ct → A → Vl) (g : List Ct → A → List Ct) : Spc := { pre := pre, post := fun as y cs => ∃ a, R as a ∧ y = f as a ∧ cs = g as a }
def Spg {A B : Type} (pre : List Ct → Prop) (R : List Ct → A → Prop) (f : List Ct → A → Vl) (g : List Ct → A → List Ct) (S : List Ct → B → Prop) (c : List Ct → B → Addr × List (Str × Dt)) (k : List Ct → B → List Ct) : Spc :=
  { pre := pre, post := fun as y cs => ∃ a, R as a ∧ y = f as a ∧ cs = g as a, exc := fun as C fs cs => ∃ b, S as b ∧ (C, fs) = c as b ∧ cs = k as b }
section
variable {A B : Type} {ms : List Md} {pre : List Ct → Prop} {R : List Ct → A → Prop} {f : List Ct → A → Vl} {g : List Ct → A → List Ct} {S : List Ct → B → Prop} {c : List Ct → B → Addr × List (Str × Dt)} {k : List Ct → B → List Ct} {w : Addr → List (Str × Dt) → _root_.D.Env → Prop} {ra : RA} {η : _root_.D.Env} {Q : Vl → _root_.D.Env → Prop}
theorem rCall_f : rCall ms (Spf pre R f g) w ra η Q = ra η fun xs η1 => ∃ as, argsD ms xs η1 = some as ∧ pre as ∧ ∀ a, R as a → Q (f as a) (aft ms xs η1 (g as a)) := by
  unfold rCall
  congr
  funext xs η1
  refine propext ⟨?_, ?_⟩
  · rintro ⟨as, h1, h2, h3, _⟩
    exact ⟨as, h1, h2, fun a r => h3 _ _ ⟨a, r, rfl, rfl⟩⟩
  · rintro ⟨as, h1, h2, h3⟩
    refine ⟨as, h1, h2, ?_, fun _ _ _ z => z.elim⟩
    rintro y cs ⟨a, r, rfl, rfl⟩
    exact h3 a r
theorem rCall_g : rCall ms (Spg pre R f g S c k) w ra η Q = ra η fun xs η1 => ∃ as, argsD ms xs η1 = some as ∧ pre as ∧ (∀ a, R as a → Q (f as a) (aft ms xs η1 (g as a))) ∧ ∀ b, S as b → w (c as b).1 (c as b).2 (aft ms xs η1 (k as b)) := by
  unfold rCall
  congr
  funext xs η1
  refine propext ⟨?_, ?_⟩
  · rintro ⟨as, h1, h2, h3, h4⟩
    exact ⟨as, h1, h2, fun a r => h3 _ _ ⟨a, r, rfl, rfl⟩, fun b r => h4 _ _ _ ⟨b, r, rfl, rfl⟩⟩
  · rintro ⟨as, h1, h2, h3, h4⟩
    refine ⟨as, h1, h2, ?_, ?_⟩
    · rintro y cs ⟨a, r, rfl, rfl⟩
      exact h3 a r
    · rintro C fs cs ⟨b, r, e, rfl⟩
      have e1 : C = (c as b).1 := congrArg Prod.fst e
      have e2 : fs = (c as b).2 := congrArg Prod.snd e
      rw [e1, e2]
      exact h4 b r
end
theorem f_pre {A : Type} {pre : List Ct → Prop} {R : List Ct → A → Prop} {f : List Ct → A → Vl} {g : List Ct → A → List Ct} : (Spf pre R f g).pre = pre := rfl
theorem f_post {A : Type} {pre : List Ct → Prop} {R : List Ct → A → Prop} {f : List Ct → A → Vl} {g : List Ct → A → List Ct} : (Spf pre R f g).post = fun as y cs => ∃ a, R as a ∧ y = f as a ∧ cs = g as a := rfl
theorem g_pre {A B : Type} {pre : List Ct → Prop} {R : List Ct → A → Prop} {f : List Ct → A → Vl} {g : List Ct → A → List Ct} {S : List Ct → B → Prop} {c : List Ct → B → Addr × List (Str × Dt)} {k : List Ct → B → List Ct} : (Spg pre R f g S c k).pre = pre := rfl
theorem g_post {A B : Type} {pre : List Ct → Prop} {R : List Ct → A → Prop} {f : List Ct → A → Vl} {g : List Ct → A → List Ct} {S : List Ct → B → Prop} {c : List Ct → B → Addr × List (Str × Dt)} {k : List Ct → B → List Ct} : (Spg pre R f g S c k).post = fun as y cs => ∃ a, R as a ∧ y = f as a ∧ cs = g as a := rfl
theorem g_exc {A B : Type} {pre : List Ct → Prop} {R : List Ct → A → Prop} {f : List Ct → A → Vl} {g : List Ct → A → List Ct} {S : List Ct → B → Prop} {c : List Ct → B → Addr × List (Str × Dt)} {k : List Ct → B → List Ct} : (Spg pre R f g S c k).exc = fun as C fs cs => ∃ b, S as b ∧ (C, fs) = c as b ∧ cs = k as b := rfl
theorem de_callT {K : PySem.W.Frag} {ms : List Md} {S : Spc} {t : TA} {ra : RA} {W : Value → Option Addr → L2.St → Hp → Prop} {w : Addr → List (Str × Dt) → _root_.D.Env → Prop} (ha : DA K ⟨W, w⟩ t ra) : DE K ⟨W, w⟩ (tCallS (toSp K ms S) (WE W) t) (rCall ms S w ra) := de_callS (X := ⟨W, w⟩) (fun _ _ _ _ h => h) ha
theorem ds_raiseT {K : PySem.W.Frag} {C : Addr} {W : Value → Option Addr → L2.St → Hp → Prop} {w : Addr → List (Str × Dt) → _root_.D.Env → Prop} : DS K ⟨W, w⟩ (fun _ σ H => (fun (_ : L2.St) (H : Hp) (Q : XK) => Q (.ref C) none H) σ H fun cls d H' => W cls d σ H') (rRaise0 C w) := ds_raise0 (X := ⟨W, w⟩) fun _ _ _ h => h
theorem take_succ_at {α : Type} {l : List α} {i : Nat} {x : α} (h : l[i]? = some x) : l.take (i + 1) = l.take i ++ [x] := by
  rw [List.take_add_one, h]
  rfl
theorem at0 {α : Type} {x : α} {l : List α} : atI (x :: l) 0 = some x := atI_nat (j := 0) rfl
theorem at1 {α : Type} {a x : α} {l : List α} : atI (a :: x :: l) 1 = some x := atI_nat (j := 1) rfl
theorem at2 {α : Type} {a b x : α} {l : List α} : atI (a :: b :: x :: l) 2 = some x := atI_nat (j := 2) rfl
theorem at3 {α : Type} {a b c x : α} {l : List α} : atI (a :: b :: c :: x :: l) 3 = some x := atI_nat (j := 3) rfl
theorem ix30 : ixN 3 0 = some 0 := by decide
theorem ix31 : ixN 3 1 = some 1 := by decide
theorem ix32 : ixN 3 2 = some 2 := by decide
theorem int_in {i : Int} {d : Dt} : RInt (.int i) d = (d = .int i) := rfl
theorem int_bl {b : Bool} {d : Dt} : RInt (.bl b) d = (d = .int (if b then 1 else 0)) := rfl
theorem deq_int (a b : Int) : deq (.int a) (.int b) = decide (a = b) := by
  simp [deq, toP, PyData.eqv]
  try rfl
theorem eq_pd {a b d : Dt} (n m : Nat) (ha : Pd n a) (hb : Pd m b) (hn : n ≤ 40) : REq a b d = (d = .bl (deq a b)) := by
  refine propext ⟨?_, fun e => ⟨_, .inl ⟨n, m, hn, ha, hb, rfl⟩, e⟩⟩
  rintro ⟨k, h | ⟨x, y, rfl, rfl, _⟩, rfl⟩
  · obtain ⟨_, _, _, _, _, rfl⟩ := h
    rfl
  · cases n <;> exact ha.elim
theorem ne_pd {a b d : Dt} (n m : Nat) (ha : Pd n a) (hb : Pd m b) (hn : n ≤ 40) : RNe a b d = (d = .bl (!deq a b)) := by
  refine propext ⟨?_, fun e => ⟨_, .inl ⟨n, m, hn, ha, hb, rfl⟩, e⟩⟩
  rintro ⟨k, h | ⟨x, y, rfl, rfl, _⟩, rfl⟩
  · obtain ⟨_, _, _, _, _, rfl⟩ := h
    rfl
  · cases n <;> exact ha.elim
theorem pd_int (a : Int) : Pd 0 (.int a) := trivial
theorem eq_ii {a b : Int} {d : Dt} : REq (.int a) (.int b) d = (d = .bl (decide (a = b))) := by rw [eq_pd 0 0 (pd_int a) (pd_int b) (by decide), deq_int]
theorem ne_ii {a b : Int} {d : Dt} : RNe (.int a) (.int b) d = (d = .bl (!decide (a = b))) := by rw [ne_pd 0 0 (pd_int a) (pd_int b) (by decide), deq_int]
theorem eq_by {a b : Array UInt8} {d : Dt} : REq (.byt a) (.byt b) d = (d = .bl (decide (a = b))) := by
  refine propext ⟨?_, fun e => ⟨_, .inr ⟨_, _, rfl, rfl, rfl⟩, e⟩⟩
  rintro ⟨k, ⟨n, _, _, h, _⟩ | ⟨x, y, e1, e2, rfl⟩, rfl⟩
  · cases n <;> exact h.elim
  · cases e1; cases e2; rfl
theorem ne_by {a b : Array UInt8} {d : Dt} : RNe (.byt a) (.byt b) d = (d = .bl (!decide (a = b))) := by
  refine propext ⟨?_, fun e => ⟨_, .inr ⟨_, _, rfl, rfl, rfl⟩, e⟩⟩
  rintro ⟨k, ⟨n, _, _, h, _⟩ | ⟨x, y, e1, e2, rfl⟩, rfl⟩
  · cases n <;> exact h.elim
  · cases e1; cases e2; rfl
theorem isX_own {K : PySem.W.Frag} {η : _root_.D.Env} {Q : Vl → _root_.D.Env → Prop} {a C D : Addr} {d : Option Addr} {fs : List (Str × Dt)} {b : Bool} (h : PySem.W.kitOne K (.ref C) (.ref D) = some b) : roIsX K a d C [.d (.exn a d C fs), .d (.ref D)] η Q = Q (.d (.bl b)) η := by
  refine propext ⟨?_, fun q => ⟨_, _, _, _, _, _, rfl, rfl, rfl, .own D, h, q⟩⟩
  rintro ⟨x, y, c, u, fs', b', e1, e2, e3, e4, e5, q⟩
  cases e1; cases e2; cases e3; cases e4
  rw [h] at e5; cases e5
  exact q
theorem isX_ty {K : PySem.W.Frag} {η : _root_.D.Env} {Q : Vl → _root_.D.Env → Prop} {a C : Addr} {d : Option Addr} {fs : List (Str × Dt)} {n : String} {b : Bool} (h : PySem.W.kitOne K (.ref C) (.type n) = some b) : roIsX K a d C [.d (.exn a d C fs), .d (.ty n)] η Q = Q (.d (.bl b)) η := by
  refine propext ⟨?_, fun q => ⟨_, _, _, _, _, _, rfl, rfl, rfl, .ty n, h, q⟩⟩
  rintro ⟨x, y, c, u, fs', b', e1, e2, e3, e4, e5, q⟩
  cases e1; cases e2; cases e3; cases e4
  rw [h] at e5; cases e5
  exact q
theorem at_mem {α : Type} {l : List α} {i : Int} (h0 : 0 ≤ i) (h1 : i < (l.length : Int)) : ∃ x, atI l i = some x ∧ x ∈ l := by
  have hj : i.toNat < l.length := by omega
  have e : l[i.toNat]? = some l[i.toNat] := List.getElem?_eq_getElem hj
  refine ⟨l[i.toNat], ?_, List.getElem_mem hj⟩
  have := atI_nat e
  rwa [show ((i.toNat : Nat) : Int) = i by omega] at this
theorem cut_len (ds : List Dt) (lo hi : Option Int) : (D.cutD ds lo hi).length ≤ ds.length := by
  unfold D.cutD
  rw [List.length_take, List.length_drop]
  omega
theorem cut_mem {ds : List Dt} {lo hi : Option Int} {x : Dt} (h : x ∈ D.cutD ds lo hi) : x ∈ ds := List.mem_of_mem_drop (List.mem_of_mem_take h)
theorem ne_self {n : Nat} {a d : Dt} (h : Pd n a) (hn : n ≤ 40) : RNe a a d = (d = .bl false) := by rw [ne_pd n n h h hn, deq_self h]; rfl
theorem eq_self' {n : Nat} {a d : Dt} (h : Pd n a) (hn : n ≤ 40) : REq a a d = (d = .bl true) := by rw [eq_pd n n h h hn, deq_self h]
theorem pd_ints (ks : List Int) : Pd 1 (.lst (ks.map .int)) := by
  intro x hx
  obtain ⟨k, _, rfl⟩ := List.mem_map.mp hx
  exact trivial
theorem rp_ints {K : PySem.W.Frag} {Z : Zs} {H : Hp} : ∀ ns : List Int, RpAll K Z H (ns.map V.int) (ns.map Dt.int)
  | [] => .nil
  | n :: ns => .cons (.int n) (rp_ints ns)
/-- the law's own promise -/
theorem sp_law {K : PySem.W.Frag} {S : Spc} {H : Hp} {a : Addr} {ns : List Int} (hpre : S.pre [.dt (.lst (ns.map .int))]) (hpost : ∀ as y cs, S.post as y cs → y = .d (.bl true)) (hexc : ∀ as C fs cs, ¬ S.exc as C fs cs)
    (hS : SqL K H a (ns.map V.int)) : toSp K [.b] S [.ref a] H (fun v _ => v = .bl true) fun _ _ _ => False := by
  have h1 : ArgsOk K (fun _ => False) H [] [.ref a] [.b] [.dt (.lst (ns.map .int))] [] := by
    refine ⟨?_, rfl⟩
    rcases hS with (h | ⟨o, h⟩) | h
    · exact .inr ⟨a, rfl, ⟨_, h⟩, by simp, .inl ⟨_, h, rp_ints ns⟩⟩
    · exact .inr ⟨a, rfl, ⟨_, h⟩, by simp, .inr (.inl ⟨o, _, _, rfl, h, rp_ints ns⟩)⟩
    · exact .inl (.inr ⟨a, _, _, rfl, rfl, h, rp_ints ns⟩)
  refine ⟨_, _, _, h1, fun b hb => (List.not_mem_nil hb).elim, fun b hb => hb.elim, hpre, fun y cs h Z' H' v L => ?_, fun C fs cs h => (hexc _ _ _ _ h).elim⟩
  have e := hpost _ _ _ h
  subst e
  obtain ⟨F', s, _⟩ := L.sep
  obtain ⟨F1, F2, e, _⟩ := s
  exact e.see (.inl rfl)
theorem kit1 {K : PySem.W.Frag} {C D : Addr} (i : PySem.W.isClsIn K D = true) (t : PySem.W.typeIn K (.ref D) = some (.type "type")) (s : PySem.W.subIn K (.ref C) (.ref D) = some true) : PySem.W.kitOne K (.ref C) (.ref D) = some true := by
  unfold PySem.W.kitOne
  split
  · rfl
  · simp only [PySem.W.kitCls]
    rw [show (PySem.W.clsIn K D).isSome = true from i, t, s]
    rfl
theorem kit0 {K : PySem.W.Frag} {C D : Addr} (i : PySem.W.isClsIn K D = true) (t : PySem.W.typeIn K (.ref D) = some (.type "type")) (s : PySem.W.subIn K (.ref C) (.ref D) = some false) (r : PySem.W.subIn K (.ref C) (.ref C) = some true) : PySem.W.kitOne K (.ref C) (.ref D) = some false := by
  unfold PySem.W.kitOne
  split
  · rename_i h
    have e : (Value.ref C) = .ref D := by simpa using h
    rw [← e, r] at s
    cases s
  · simp only [PySem.W.kitCls]
    rw [show (PySem.W.clsIn K D).isSome = true from i, t, s]
    rfl
theorem kitT {K : PySem.W.Frag} {C : Addr} {n : String} {b : Bool} (m : PySem.W.kitMeta n = true) (s : PySem.W.subIn K (.ref C) (.type n) = some b) : PySem.W.kitOne K (.ref C) (.type n) = some b := by
  unfold PySem.W.kitOne
  split
  · rename_i h
    have e : (Value.ref C) = .type n := by simpa using h
    cases e
  · simp only [PySem.W.kitCls]
    rw [m, s]
    rfl
theorem exm1 {K : PySem.W.Frag} {C D : Addr} {b : Bool} (i : PySem.W.isClsIn K D = true) (t : PySem.W.typeIn K (.ref D) = some (.type "type")) (e : PySem.W.subIn K (.ref D) (.type "BaseException") = some true) (s : PySem.W.subIn K (.ref C) (.ref D) = some b) : PySem.W.exmOne K (.ref C) (.ref D) = some b := by
  unfold PySem.W.exmOne
  rw [e]
  simp only [PySem.W.kitCls]
  rw [show (PySem.W.clsIn K D).isSome = true from i, t, s]
  rfl
/-! #### classes and exceptions with a field -/
structure ExO (P : Program) (w : World) (K : PySem.W.Frag) (mg : Str → Option Value) (base : Heap) (x : Str) (C : Addr) (f : Str) : Prop where
  g : mg x = some (.ref C)
  oc : OexC K C
  nf : PySem.W.findIn K (.ref C) f = some none
  ec : ExcC K C
  ini : ∃ fI fd ps, PySem.W.findIn K (.ref C) "__init__" = some (some (.ref fI)) ∧ PySem.W.typeIn K (.ref fI) = some (.type "function") ∧ FnOk P w K mg base CX0 1 fI fd ps (spFin K C f) ∧ Binds K fd ps []
def HsI (P : Program) (w : World) (K : PySem.W.Frag) (mg : Str → Option Value) (base : Heap) (CX : CXT) (k : Nat) (C : Addr) (ps : List Str) (sp : Sp) : Prop := ∃ f fd, FnOk P w K mg base CX k f fd ps sp ∧ Mk K C f ∧ Binds K fd ps []
def HsK (P : Program) (w : World) (K : PySem.W.Frag) (mg : Str → Option Value) (base : Heap) (CX : CXT) (k : Nat) (C : Addr) (ps : List Str) (sp : Sp) (FD : Addr → FuncData → Prop) : Prop := ∃ f fd, FnOk P w K mg base CX k f fd ps sp ∧ Mk K C f ∧ FD f fd
def HsM (P : Program) (w : World) (K : PySem.W.Frag) (mg : Str → Option Value) (base : Heap) (CX : CXT) (k : Nat) (C : Addr) (m : Str) (ps : List Str) (sp : Sp) : Prop := ∃ f fd, FnOk P w K mg base CX k f fd ps sp ∧ Meth K C m f ∧ Binds K fd ps []
structure ClF (K : PySem.W.Frag) (mg : Str → Option Value) (x : Str) (C : Addr) : Prop where
  g : mg x = some (.ref C)
  cl : Cls K C
theorem lk_eq {β : Type} {f : Str} {d : β} {r : List (Str × β)} : List.lookup f ((f, d) :: r) = some d := by simp [List.lookup]
theorem isXS_d {K : PySem.W.Frag} {η : _root_.D.Env} {Q : Vl → _root_.D.Env → Prop} {a C : Addr} {d : Option Addr} {fs : List (Str × Dt)} {cs : List Dt} {us : List Value} {b : Bool} (hc : ClsDs cs us) (h : PySem.W.kitAny K (.ref C) us = some b) : roIsXS K a d C [.d (.exn a d C fs), .d (.tup cs)] η Q = Q (.d (.bl b)) η := by
  refine propext ⟨?_, fun q => ⟨_, _, _, _, _, _, rfl, rfl, rfl, hc, h, q⟩⟩
  rintro ⟨x, y, cs', us', fs', b', e1, e2, e3, e4, e5, q⟩
  cases e1; cases e2; cases e3
  have : us' = us := by
    clear h e5 q
    induction hc generalizing us' with
    | nil => cases e4; rfl
    | cons h _ ih =>
      cases e4 with
      | cons h' r' =>
        rw [ih _ r']
        cases h <;> cases h' <;> rfl
  subst this
  rw [h] at e5; cases e5
  exact q
theorem any0 {K : PySem.W.Frag} {t : Value} : PySem.W.kitAny K t [] = some false := rfl
theorem anyF {K : PySem.W.Frag} {t c : Value} {r : List Value} {b : Bool} (h : PySem.W.kitOne K t c = some false) (q : PySem.W.kitAny K t r = some b) : PySem.W.kitAny K t (c :: r) = some b := by
  simp only [PySem.W.kitAny, h]
  exact q
theorem de_makeT {K : PySem.W.Frag} {C : Addr} {ms : List Md} {S : Spc} {t : TA} {ra : RA} {W : Value → Option Addr → L2.St → Hp → Prop} {w : Addr → List (Str × Dt) → _root_.D.Env → Prop} (ha : DA K ⟨W, w⟩ t ra) : DE K ⟨W, w⟩ (tMakeS C (toSp K (.p :: ms) S) (WE W) t) (rMake C ms S w ra) := de_makeS (X := ⟨W, w⟩) (fun _ _ _ _ h => h) ha
theorem len_ls {ds : List Dt} {d : Dt} : RLen (.lst ds) d = (d = .int ds.length) := rfl
theorem len_tu {ds : List Dt} {d : Dt} : RLen (.tup ds) d = (d = .int ds.length) := rfl
theorem len_st {s : Str} {d : Dt} : RLen (.str s) d = (s.length ≤ 100000 ∧ d = .int s.length) := rfl
theorem len_by {s : Array UInt8} {d : Dt} : RLen (.byt s) d = (s.size ≤ 100000 ∧ d = .int s.size) := rfl
theorem deq_str (x y : Str) : deq (.str x) (.str y) = decide (x = y) := by
  simp [deq, toP, PyData.eqv]
  try rfl
theorem notin_pd {a d : Dt} {es : List Dt} (n m : Nat) (ha : Pd n a) (hn : n ≤ 40) (he : ∀ e ∈ es, Pd m e) : RNotIn a (.tup es) d = (d = .bl (!(es.any fun e => deq e a))) := by
  refine propext ⟨?_, fun e => ⟨_, .inl ⟨n, m, es, hn, ha, .inr rfl, he, rfl⟩, e⟩⟩
  rintro ⟨k, h | ⟨c, s, _, h, _⟩, rfl⟩
  · obtain ⟨_, _, es', _, _, h, _, rfl⟩ := h
    rcases h with h | h <;> cases h
    rfl
  · cases h
theorem notin_c {c : Nat} {s : Str} {d : Dt} : RNotIn (.str ⟨#[c]⟩) (.str s) d = (d = .bl (!decide (c ∈ s.cps.toList))) := by
  refine propext ⟨?_, fun e => ⟨_, .inr ⟨c, s, rfl, rfl, rfl⟩, e⟩⟩
  rintro ⟨k, h | ⟨c', s', h1, h2, rfl⟩, rfl⟩
  · obtain ⟨_, _, es', _, _, h, _⟩ := h
    rcases h with h | h <;> cases h
  · cases h1; cases h2; rfl
theorem in_c {c : Nat} {s : Str} {d : Dt} : RIn (.str ⟨#[c]⟩) (.str s) d = (d = .bl (decide (c ∈ s.cps.toList))) := by
  refine propext ⟨?_, fun e => ⟨_, .inr ⟨c, s, rfl, rfl, rfl⟩, e⟩⟩
  rintro ⟨k, h | ⟨c', s', h1, h2, rfl⟩, rfl⟩
  · obtain ⟨_, _, es', _, _, h, _⟩ := h
    rcases h with h | h <;> cases h
  · cases h1; cases h2; rfl
theorem signs_get {s : Str} {i : Nat} {x : Dt} (h : (D.signs s)[i]? = some x) : ∃ c, s.cps.toList[i]? = some c ∧ x = .str ⟨#[c]⟩ := by
  unfold D.signs at h
  rw [List.getElem?_map] at h
  cases e : s.cps.toList[i]? with
  | none => rw [e] at h; cases h
  | some c => rw [e] at h; cases h; exact ⟨c, rfl, rfl⟩
def s1 (c : Nat) : Str := ⟨#[c]⟩
theorem jL_ones : ∀ cs : List Nat, TL.joinL [] (cs.map fun c => [c]) = cs
  | [] => rfl
  | [_] => rfl
  | c :: d :: r => by
    show [c] ++ ([] ++ TL.joinL [] ((d :: r).map fun c => [c])) = _
    rw [jL_ones (d :: r)]
    rfl
theorem join_s1 (cs : List Nat) : (Txt.join (Str.ofString "") (cs.map s1)).cps.toList = cs := by
  show (Builtin.Str.glued (Str.ofString "") (cs.map s1)).cps.toList = cs
  rw [StrLaws.glued_eq_join]
  have := TL.tl_join (Str.ofString "") (cs.map s1)
  rw [List.map_map] at this
  exact this.trans (jL_ones cs)
theorem join_s1_len (cs : List Nat) : (Txt.join (Str.ofString "") (cs.map s1)).length = cs.length := by
  have := congrArg List.length (join_s1 cs)
  rwa [Array.length_toList] at this
theorem sum_s1 (cs : List Nat) : ((cs.map s1).map (·.length)).sum + (cs.map s1).length * (Str.ofString "").length = cs.length := by
  rw [show (Str.ofString "").length = 0 from rfl, Nat.mul_zero, Nat.add_zero, List.map_map]
  induction cs with
  | nil => rfl
  | cons c r ih => simp only [List.map_cons, List.sum_cons, List.length_cons]; rw [ih]; show 1 + _ = _; omega
section
variable {A B : Type} {C : Addr} {ms : List Md} {pre : List Ct → Prop} {R : List Ct → A → Prop} {f : List Ct → A → Vl} {g : List Ct → A → List Ct} {S : List Ct → B → Prop} {c : List Ct → B → Addr × List (Str × Dt)} {k : List Ct → B → List Ct} {w : Addr → List (Str × Dt) → _root_.D.Env → Prop} {ra : RA} {η : _root_.D.Env} {Q : Vl → _root_.D.Env → Prop}
theorem rMake_g : rMake C ms (Spg pre R f g S c k) w ra η Q = ra η fun xs η1 => ∃ as, argsD ms xs η1 = some as ∧ pre (.dt (.ins C []) :: as) ∧ (∀ a, R (.dt (.ins C []) :: as) a → ∃ d cs', f (.dt (.ins C []) :: as) a = .d .non ∧ g (.dt (.ins C []) :: as) a = .dt d :: cs' ∧ Q (.nw d) (aft ms xs η1 cs')) ∧
    ∀ b, S (.dt (.ins C []) :: as) b → ∃ c0 cs', k (.dt (.ins C []) :: as) b = c0 :: cs' ∧ w (c (.dt (.ins C []) :: as) b).1 (c (.dt (.ins C []) :: as) b).2 (aft ms xs η1 cs') := by
  unfold rMake
  congr
  funext xs η1
  refine propext ⟨?_, ?_⟩
  · rintro ⟨as, h1, h2, h3, h4⟩
    exact ⟨as, h1, h2, fun a r => h3 _ _ ⟨a, r, rfl, rfl⟩, fun b r => h4 _ _ _ ⟨b, r, rfl, rfl⟩⟩
  · rintro ⟨as, h1, h2, h3, h4⟩
    refine ⟨as, h1, h2, ?_, ?_⟩
    · rintro y cs ⟨a, r, rfl, rfl⟩
      exact h3 a r
    · rintro C' fs cs ⟨b, r, e, rfl⟩
      have e1 : C' = (c (.dt (.ins C []) :: as) b).1 := congrArg Prod.fst e
      have e2 : fs = (c (.dt (.ins C []) :: as) b).2 := congrArg Prod.snd e
      rw [e1, e2]
      exact h4 b r
end
theorem sgF {i : Nat} {r u : RS} {D : EndsD} {η : _root_.D.Env} {d : Dt} (e : η[i]? = some (some (.mu none (.dt d)))) (h : ∀ U, U = u D → r { D with nx := U } (η.set i (some (.val d)))) : rSeqF i r u D η := ⟨d, e, h _ rfl⟩
theorem notin_ints {a : Int} {ps : List Int} {d : Dt} : RNotIn (.int a) (.lst (ps.map .int)) d = (d = .bl (!decide (a ∈ ps))) := by
  have key : ((ps.map Dt.int).any fun e => deq e (.int a)) = decide (a ∈ ps) := by
    rw [List.any_map]
    induction ps with
    | nil => rfl
    | cons p ps ih =>
      rw [List.any_cons, ih, Function.comp, deq_int, ← Bool.decide_or]
      exact decide_eq_decide.mpr (by rw [List.mem_cons]; exact or_congr_left eq_comm)
  refine propext ⟨?_, fun e => ⟨_, .inl ⟨0, 0, _, by decide, trivial, .inl rfl, ?_, rfl⟩, by rw [key]; exact e⟩⟩
  · rintro ⟨k, h | ⟨c, s, h, _, _⟩, rfl⟩
    · obtain ⟨_, _, es', _, _, h, _, rfl⟩ := h
      rcases h with h | h <;> cases h
      rw [key]
    · cases h
  · intro e he
    obtain ⟨z, _, rfl⟩ := List.mem_map.mp he
    exact trivial
theorem pd_nil0 : Pd 1 (.lst []) := fun x h => (List.not_mem_nil h).elim
theorem ne_nil {ps : List Int} {d : Dt} : RNe (.lst (ps.map .int)) (.lst []) d = (d = .bl (!decide (ps = []))) := by
  rw [ne_pd 1 1 (pd_ints ps) pd_nil0 (by decide)]
  congr 2
  cases ps with
  | nil => rfl
  | cons p ps => rfl
theorem cut_lo (ds : List Dt) {i : Int} (h0 : 0 ≤ i) (h1 : i ≤ ds.length) : D.cutD ds none (some i) = ds.take i.toNat := by
  unfold D.cutD
  have e1 : HT.sIx ds.length 0 none = 0 := rfl
  have e2 : HT.sIx ds.length ds.length (some i) = i.toNat := by
    show (if i < 0 then _ else min i.toNat ds.length) = _
    rw [if_neg (by omega)]
    omega
  rw [e1, e2, List.drop_zero, Nat.sub_zero]
theorem cut_hi (ds : List Dt) {i : Int} (h0 : 0 ≤ i) (h1 : i ≤ ds.length) : D.cutD ds (some i) none = ds.drop i.toNat := by
  unfold D.cutD
  have e1 : HT.sIx ds.length ds.length none = ds.length := rfl
  have e2 : HT.sIx ds.length 0 (some i) = i.toNat := by
    show (if i < 0 then _ else min i.toNat ds.length) = _
    rw [if_neg (by omega)]
    omega
  rw [e1, e2]
  exact List.take_of_length_le (by rw [List.length_drop]; exact Nat.le_refl _)
theorem at_ix {α : Type} {l : List α} {i : Int} (h0 : 0 ≤ i) (h1 : i < (l.length : Int)) : ∃ x, atI l i = some x ∧ l[i.toNat]? = some x := by
  have hj : i.toNat < l.length := by omega
  have e : l[i.toNat]? = some l[i.toNat] := List.getElem?_eq_getElem hj
  refine ⟨l[i.toNat], ?_, e⟩
  have := atI_nat e
  rwa [show ((i.toNat : Nat) : Int) = i by omega] at this

theorem len_two {α : Type} {l : List α} (h : l.length = 2) : ∃ a b, l = [a, b] := by
  match l, h with
  | [a, b], _ => exact ⟨a, b, rfl⟩
theorem len_three {α : Type} {l : List α} (h : l.length = 3) : ∃ a b c, l = [a, b, c] := by
  match l, h with
  | [a, b, c], _ => exact ⟨a, b, c, rfl⟩
theorem signs_ne {s : Str} (h : 0 < s.length) : D.signs s ≠ [] := by
  intro z
  have := congrArg List.length z
  rw [D.signs_length] at this
  have e : s.cps.size = s.length := rfl
  rw [List.length_nil] at this
  omega
theorem signs_lt {s : Str} (h : s.length < 100000) : (D.signs s).length < 100000 := by rw [D.signs_length]; exact h
theorem app_cps (a b : Str) : (a ++ b).cps.toList = a.cps.toList ++ b.cps.toList := TL.tl_append a b
theorem app_len (a b : Str) : (a ++ b).length = a.length + b.length := by
  have := congrArg List.length (app_cps a b)
  rw [List.length_append, Array.length_toList, Array.length_toList, Array.length_toList] at this
  exact this
theorem len_list (s : Str) : s.cps.toList.length = s.length := Array.length_toList
theorem eq_str {a b : Str} {d : Dt} : REq (.str a) (.str b) d = (d = .bl (decide (a = b))) := by
  rw [eq_pd (a := Dt.str a) (b := Dt.str b) 0 0 trivial trivial (by decide), deq_str]
theorem ne_str {a b : Str} {d : Dt} : RNe (.str a) (.str b) d = (d = .bl (!decide (a = b))) := by
  rw [ne_pd (a := Dt.str a) (b := Dt.str b) 0 0 trivial trivial (by decide), deq_str]
theorem str_ext {a b : Str} (h : a.cps.toList = b.cps.toList) : a = b := by
  obtain ⟨a⟩ := a
  obtain ⟨b⟩ := b
  have : a = b := Array.ext' h
  rw [this]
theorem cutS_lo (z : Str) {i : Int} (h0 : 0 ≤ i) : (cutS z none (some i)).cps.toList = z.cps.toList.take i.toNat := by
  have e1 : HT.sIx z.length 0 none = 0 := rfl
  have e2 : HT.sIx z.length z.length (some i) = min i.toNat z.length := by
    show (if i < 0 then _ else min i.toNat z.length) = _
    rw [if_neg (by omega)]
  show ((z.cps.toList.drop (HT.sIx z.length 0 none)).take (HT.sIx z.length z.length (some i) - HT.sIx z.length 0 none)) = _
  rw [e1, e2, List.drop_zero, Nat.sub_zero, ← len_list, ← List.take_eq_take_min]
theorem cutS_len {z : Str} {i : Int} (h0 : 0 ≤ i) : (cutS z none (some i)).length = min i.toNat z.length := by
  rw [← len_list, cutS_lo z h0, List.length_take, len_list]
theorem starts_cut (w t : Str) : decide (cutS w none (some (t.length : Int)) = t) = Txt.startswith w t := by
  have e : Txt.startswith w t = (decide (0 + t.length ≤ w.length) && Builtin.Str.subAt w t 0) := rfl
  rw [e, StrLaws.subAt_eq, List.drop_zero, Nat.zero_add]
  have hc := cutS_lo w (i := (t.length : Int)) (by omega)
  rw [show ((t.length : Int)).toNat = t.length by omega] at hc
  by_cases h : cutS w none (some (t.length : Int)) = t
  · rw [decide_eq_true h]
    have h1 : t.length ≤ w.length := by
      have := cutS_length w none (some (t.length : Int))
      rw [h] at this
      exact this
    rw [decide_eq_true h1, ← hc, h]
    simp
  · rw [decide_eq_false h]
    symm
    rw [Bool.and_eq_false_iff]
    right
    rw [beq_eq_false_iff_ne, ← hc]
    exact fun z => h (str_ext z)
theorem lc_of {rg : RG} {rt : RT} {re : RE} {vs : List Nat} {Q : Vl → _root_.D.Env → Prop} {ds : List Dt} {η1 : _root_.D.Env} (W : Nat → List Dt → _root_.D.Env → Prop) (hl : ds.length ≤ 100000) (h0 : W 0 [] (wipeE η1 vs))
    (h1 : ∀ i d acc η', ds[i]? = some d → acc.length ≤ i → W i acc η' → rg d η' fun η2 => rt η2 fun b η3 => if b = true then re η3 fun x η4 => ∃ e, frz η4 x = some e ∧ W (i + 1) (acc ++ [e]) (wipeE η4 vs) else W (i + 1) acc (wipeE η3 vs))
    (h2 : ∀ acc η', acc.length ≤ ds.length → W ds.length acc η' → Q (.nw (.lst acc)) (unw η1 η' vs)) : Lc rg rt re vs Q ds η1 := ⟨hl, W, h0, h1, h2⟩
theorem lw_of {rc : RT} {rb : RS} {D : EndsD} {η : _root_.D.Env} (W : Nat → _root_.D.Env → Prop) (m : Nat) (h0 : W m η)
    (h1 : ∀ m η, W m η → rc η fun b η1 => if b = true then rb { D with nx := Wn W m, ct := Wn W m, bk := D.nx } η1 else D.nx η1) : rWh rc rb D η := ⟨W, m, h0, h1⟩
theorem drop_at {α : Type} {l : List α} {i : Nat} {x : α} (h : l[i]? = some x) : l.drop i = x :: l.drop (i + 1) := by
  have hi : i < l.length := (List.getElem?_eq_some_iff.mp h).1
  rw [List.drop_eq_getElem_cons hi]
  rw [List.getElem?_eq_getElem hi] at h
  cases h
  rfl
theorem map_get {ss : List Str} {i : Nat} {x : Dt} (h : (ss.map Dt.str)[i]? = some x) : ∃ w, ss[i]? = some w ∧ x = .str w := by
  rw [List.getElem?_map] at h
  cases e : ss[i]? with
  | none => rw [e] at h; cases h
  | some c => rw [e] at h; cases h; exact ⟨c, rfl, rfl⟩
theorem in_lst {a d : Dt} {es : List Dt} (n m : Nat) (ha : Pd n a) (hn : n ≤ 40) (he : ∀ e ∈ es, Pd m e) : RIn a (.lst es) d = (d = .bl (es.any fun e => deq e a)) := by
  refine propext ⟨?_, fun e => ⟨_, .inl ⟨n, m, es, hn, ha, .inl rfl, he, rfl⟩, e⟩⟩
  rintro ⟨k, h | ⟨c, s, _, h, _⟩, rfl⟩
  · obtain ⟨_, _, es', _, _, h, _, rfl⟩ := h
    rcases h with h | h <;> cases h
    rfl
  · cases h
theorem in_pd {a d : Dt} {es : List Dt} (n m : Nat) (ha : Pd n a) (hn : n ≤ 40) (he : ∀ e ∈ es, Pd m e) : RIn a (.tup es) d = (d = .bl (es.any fun e => deq e a)) := by
  refine propext ⟨?_, fun e => ⟨_, .inl ⟨n, m, es, hn, ha, .inr rfl, he, rfl⟩, e⟩⟩
  rintro ⟨k, h | ⟨c, s, _, h, _⟩, rfl⟩
  · obtain ⟨_, _, es', _, _, h, _, rfl⟩ := h
    rcases h with h | h <;> cases h
    rfl
  · cases h
theorem pd_strs (ss : List Str) : Pd 1 (.lst (ss.map .str)) := by
  intro x hx
  obtain ⟨k, _, rfl⟩ := List.mem_map.mp hx
  exact trivial
theorem deq_nil {ds : List Dt} : deq (.lst ds) (.lst []) = decide (ds = []) := by
  cases ds <;> rfl
theorem ne_nilP {n : Nat} {ds : List Dt} {d : Dt} (h : Pd n (.lst ds)) (hn : n ≤ 40) : RNe (.lst ds) (.lst []) d = (d = .bl (!decide (ds = []))) := by
  rw [ne_pd n 1 h pd_nil0 hn, deq_nil]
theorem eq_nilP {n : Nat} {ds : List Dt} {d : Dt} (h : Pd n (.lst ds)) (hn : n ≤ 40) : REq (.lst ds) (.lst []) d = (d = .bl (decide (ds = []))) := by
  rw [eq_pd n 1 h pd_nil0 hn, deq_nil]
theorem at_last {α : Type} {l : List α} {x : α} (h : l.getLast? = some x) : atI l (-1) = some x := by
  have hn : 0 < l.length := by
    cases l with
    | nil => cases h
    | cons a r => simp
  unfold atI ixN
  rw [if_neg (by decide), if_pos (by omega)]
  show l[_]? = some x
  rw [List.getLast?_eq_getElem?] at h
  rw [← h]
  congr 1
  omega

def isNon : Dt → Bool
  | .non => true
  | _ => false
theorem isN_eq {x d : Dt} : RIsN x .non d = (d = .bl (isNon x)) := by
  refine propext ⟨?_, ?_⟩
  · rintro ⟨_, (⟨rfl, rfl⟩ | ⟨h, rfl⟩)⟩
    · rfl
    · cases x <;> first | rfl | exact absurd rfl h
  · rintro rfl
    cases x <;> first | exact ⟨rfl, .inl ⟨rfl, rfl⟩⟩ | exact ⟨rfl, .inr ⟨(fun h => by cases h), rfl⟩⟩
theorem notN_eq {x d : Dt} : RNotN x .non d = (d = .bl (!isNon x)) := by
  refine propext ⟨?_, ?_⟩
  · rintro ⟨_, (⟨rfl, rfl⟩ | ⟨h, rfl⟩)⟩
    · rfl
    · cases x <;> first | rfl | exact absurd rfl h
  · rintro rfl
    cases x <;> first | exact ⟨rfl, .inl ⟨rfl, rfl⟩⟩ | exact ⟨rfl, .inr ⟨(fun h => by cases h), rfl⟩⟩
def LcO (k : Nat) (rg : RG) (rt : RT) (re : RE) (vs : List Nat) (Q : Vl → _root_.D.Env → Prop) (ds : List Dt) (p0 : Option Nat) (d0 : Dt) (η1 : _root_.D.Env) : Prop := ds.length ≤ 100000 ∧ ∃ W : Nat → List Dt → _root_.D.Env → Prop, W 0 [] (wipeE η1 vs) ∧
  (∀ i d acc η', ds[i]? = some d → acc.length ≤ i → W i acc η' → rg d η' fun η2 => rt η2 fun b η3 => if b = true then re η3 fun x η4 => ∃ e, frz η4 x = some e ∧ W (i + 1) (acc ++ [e]) (wipeE η4 vs) else W (i + 1) acc (wipeE η3 vs)) ∧
  ∀ acc η', acc.length ≤ ds.length → W ds.length acc η' → k < (unw η1 η' vs).length ∧ Q (.nw (.lst acc)) ((unw η1 η' vs).set k (some (.mu p0 (.dt d0))))
theorem rLcO_L {ri : RIO} {k : Nat} {rg : RG} {rt : RT} {re : RE} {vs : List Nat} {η : _root_.D.Env} {Q : Vl → _root_.D.Env → Prop} : rLcO ri k rg rt re vs η Q = ri η fun ds p0 d0 η1 => LcO k rg rt re vs Q ds p0 d0 η1 := rfl
theorem lco_map {k : Nat} {rg : RG} {re : RE} {vs : List Nat} {Q : Vl → _root_.D.Env → Prop} {ds : List Dt} {p0 : Option Nat} {d0 : Dt} {η1 : _root_.D.Env} (W : Nat → List Dt → _root_.D.Env → Prop) (hl : ds.length ≤ 100000) (h0 : W 0 [] (wipeE η1 vs))
    (h1 : ∀ i d acc η', ds[i]? = some d → acc.length ≤ i → W i acc η' → rg d η' fun η2 => re η2 fun x η4 => ∃ e, frz η4 x = some e ∧ W (i + 1) (acc ++ [e]) (wipeE η4 vs))
    (h2 : ∀ acc η', acc.length ≤ ds.length → W ds.length acc η' → k < (unw η1 η' vs).length ∧ Q (.nw (.lst acc)) ((unw η1 η' vs).set k (some (.mu p0 (.dt d0))))) : LcO k rg rYes re vs Q ds p0 d0 η1 := ⟨hl, W, h0, h1, h2⟩
def idxF (p : Dt → Bool) : Nat → List Dt → List Int
  | _, [] => []
  | i, r :: rs => if p r = true then (i : Int) :: idxF p (i + 1) rs else idxF p (i + 1) rs
theorem idxF_ge {p : Dt → Bool} : ∀ {rs : List Dt} {i : Nat}, ∀ m ∈ idxF p i rs, (i : Int) ≤ m
  | [], _, m, h => (List.not_mem_nil h).elim
  | r :: rs, i, m, h => by
    unfold idxF at h
    split at h
    · rcases List.mem_cons.mp h with rfl | h
      · exact Int.le_refl _
      · have := idxF_ge m h
        omega
    · have := idxF_ge m h
      omega
theorem idxF_none {p : Dt → Bool} : ∀ {rs : List Dt} {i : Nat}, rs.findIdx? p = none → idxF p i rs = []
  | [], _, _ => rfl
  | r :: rs, i, h => by
    rw [List.findIdx?_cons] at h
    unfold idxF
    cases e : p r with
    | true => rw [e] at h; simp at h
    | false =>
      rw [e] at h
      rw [if_neg (by decide)]
      exact idxF_none (by simpa using h)
theorem idxF_some {p : Dt → Bool} : ∀ {rs : List Dt} {i j : Nat}, rs.findIdx? p = some j → ((i + j : Nat) : Int) ∈ idxF p i rs ∧ ∀ m ∈ idxF p i rs, ((i + j : Nat) : Int) ≤ m
  | [], _, _, h => by simp at h
  | r :: rs, i, j, h => by
    rw [List.findIdx?_cons] at h
    unfold idxF
    cases e : p r with
    | true =>
      rw [e] at h
      simp at h
      subst h
      rw [if_pos rfl]
      refine ⟨by simp, fun m hm => ?_⟩
      rcases List.mem_cons.mp hm with rfl | hm
      · simp
      · have := idxF_ge m hm
        push_cast
        omega
    | false =>
      rw [e] at h
      simp at h
      obtain ⟨j', hj, rfl⟩ := h
      rw [if_neg (by decide)]
      obtain ⟨h1, h2⟩ := idxF_some (i := i + 1) hj
      rw [show i + (j' + 1) = i + 1 + j' by omega]
      exact ⟨h1, h2⟩
theorem idxF_min {p : Dt → Bool} {rs : List Dt} {m : Int} (h1 : m ∈ idxF p 0 rs) (h2 : ∀ y, y ∈ idxF p 0 rs → m ≤ y) : ∃ j : Nat, rs.findIdx? p = some j ∧ m = (j : Int) := by
  cases e : rs.findIdx? p with
  | none => rw [idxF_none e] at h1; exact (List.not_mem_nil h1).elim
  | some j =>
    obtain ⟨q1, q2⟩ := idxF_some (i := 0) e
    have := h2 _ q1
    have := q2 _ h1
    exact ⟨j, rfl, by omega⟩
theorem deq_pair {a b c d : Dt} : deq (.tup [a, b]) (.tup [c, d]) = (deq a c && deq b d) := by
  simp [deq, toP, toPs, PyData.eqv, PyData.eqvAll]
theorem idxF_head {p : Dt → Bool} : ∀ {rs : List Dt} {i j : Nat}, rs.findIdx? p = some j → ∃ l, idxF p i rs = ((i + j : Nat) : Int) :: l
  | [], _, _, h => by simp at h
  | r :: rs, i, j, h => by
    rw [List.findIdx?_cons] at h
    unfold idxF
    cases e : p r with
    | true =>
      rw [e] at h
      simp at h
      subst h
      exact ⟨idxF p (i + 1) rs, by simp⟩
    | false =>
      rw [e] at h
      simp at h
      obtain ⟨j', hj, rfl⟩ := h
      obtain ⟨l, hl⟩ := idxF_head (i := i + 1) hj
      exact ⟨l, by rw [if_neg (by decide), hl, show i + (j' + 1) = i + 1 + j' by omega]⟩
section
variable {A B : Type} {C : Addr} {ms : List Md} {pre : List Ct → Prop} {R : List Ct → A → Prop} {f : List Ct → A → Vl} {g : List Ct → A → List Ct} {S : List Ct → B → Prop} {c : List Ct → B → Addr × List (Str × Dt)} {k : List Ct → B → List Ct} {w : Addr → List (Str × Dt) → _root_.D.Env → Prop} {ra : RA} {re : RE} {m : Str} {η : _root_.D.Env} {Q : Vl → _root_.D.Env → Prop}
theorem rMeth_f : rMeth C m ms (Spf pre R f g) w re ra η Q = re η fun x η1 => (∃ fs, look η1 x = some (.ins C fs) ∧ fs.lookup m = none) ∧ ra η1 fun xs η2 => ∃ as, argsD ms (x :: xs) η2 = some as ∧ pre as ∧ ∀ a, R as a → Q (f as a) (aft ms (x :: xs) η2 (g as a)) := by
  unfold rMeth
  congr
  funext x η1
  congr
  funext xs η2
  refine propext ⟨?_, ?_⟩
  · rintro ⟨as, h1, h2, h3, _⟩
    exact ⟨as, h1, h2, fun a r => h3 _ _ ⟨a, r, rfl, rfl⟩⟩
  · rintro ⟨as, h1, h2, h3⟩
    refine ⟨as, h1, h2, ?_, fun _ _ _ z => z.elim⟩
    rintro y cs ⟨a, r, rfl, rfl⟩
    exact h3 a r
theorem rMeth_g : rMeth C m ms (Spg pre R f g S c k) w re ra η Q = re η fun x η1 => (∃ fs, look η1 x = some (.ins C fs) ∧ fs.lookup m = none) ∧ ra η1 fun xs η2 => ∃ as, argsD ms (x :: xs) η2 = some as ∧ pre as ∧ (∀ a, R as a → Q (f as a) (aft ms (x :: xs) η2 (g as a))) ∧ ∀ b, S as b → w (c as b).1 (c as b).2 (aft ms (x :: xs) η2 (k as b)) := by
  unfold rMeth
  congr
  funext x η1
  congr
  funext xs η2
  refine propext ⟨?_, ?_⟩
  · rintro ⟨as, h1, h2, h3, h4⟩
    exact ⟨as, h1, h2, fun a r => h3 _ _ ⟨a, r, rfl, rfl⟩, fun b r => h4 _ _ _ ⟨b, r, rfl, rfl⟩⟩
  · rintro ⟨as, h1, h2, h3, h4⟩
    refine ⟨as, h1, h2, ?_, ?_⟩
    · rintro y cs ⟨a, r, rfl, rfl⟩
      exact h3 a r
    · rintro C fs cs ⟨b, r, e, rfl⟩
      have e1 : C = (c as b).1 := congrArg Prod.fst e
      have e2 : fs = (c as b).2 := congrArg Prod.snd e
      rw [e1, e2]
      exact h4 b r
theorem roOwnB_f {x y : Vl} {q : Bool → Bool} : roOwnB C ms (Spf pre R f g) q x y η Q = ((∃ fs gs, look η x = some (.ins C fs) ∧ look η y = some (.ins C gs)) ∧ ∃ as, argsD ms [x, y] η = some as ∧ pre as ∧ ∀ a, R as a → ∃ r, f as a = .d (.bl r) ∧ Q (.d (.bl (q r))) (aft ms [x, y] η (g as a))) := by
  unfold roOwnB
  refine congrArg (And _) (propext ⟨?_, ?_⟩)
  · rintro ⟨as, h1, h2, h3, _⟩
    exact ⟨as, h1, h2, fun a r => h3 _ _ ⟨a, r, rfl, rfl⟩⟩
  · rintro ⟨as, h1, h2, h3⟩
    refine ⟨as, h1, h2, ?_, fun _ _ _ z => z.elim⟩
    rintro y cs ⟨a, r, rfl, rfl⟩
    exact h3 a r
theorem MakeQ_g {xs : List Vl} : MakeQ C ms (Spg pre R f g S c k) w xs η Q = ∃ as, argsD ms xs η = some as ∧ pre (.dt (.ins C []) :: as) ∧ (∀ a, R (.dt (.ins C []) :: as) a → ∃ d cs', f (.dt (.ins C []) :: as) a = .d .non ∧ g (.dt (.ins C []) :: as) a = .dt d :: cs' ∧ Q (.nw d) (aft ms xs η cs')) ∧
    ∀ b, S (.dt (.ins C []) :: as) b → ∃ c0 cs', k (.dt (.ins C []) :: as) b = c0 :: cs' ∧ w (c (.dt (.ins C []) :: as) b).1 (c (.dt (.ins C []) :: as) b).2 (aft ms xs η cs') := by
  unfold MakeQ
  refine propext ⟨?_, ?_⟩
  · rintro ⟨as, h1, h2, h3, h4⟩
    exact ⟨as, h1, h2, fun a r => h3 _ _ ⟨a, r, rfl, rfl⟩, fun b r => h4 _ _ _ ⟨b, r, rfl, rfl⟩⟩
  · rintro ⟨as, h1, h2, h3, h4⟩
    refine ⟨as, h1, h2, ?_, ?_⟩
    · rintro y cs ⟨a, r, rfl, rfl⟩
      exact h3 a r
    · rintro C' fs cs ⟨b, r, e, rfl⟩
      have e1 : C' = (c (.dt (.ins C []) :: as) b).1 := congrArg Prod.fst e
      have e2 : fs = (c (.dt (.ins C []) :: as) b).2 := congrArg Prod.snd e
      rw [e1, e2]
      exact h4 b r
end
theorem rForK_L {f : List (Key × Dt) → List Dt} {i : Nat} {rg : RG} {rb : RS} {D : EndsD} {η : _root_.D.Env} : rForK f i rg rb D η = ∃ kvs, (η[i]? = some (some (.val (.dct kvs))) ∨ η[i]? = some (some (.bor (.dct kvs)))) ∧ Lp rg rb D (f kvs) η := rfl
section
variable {A : Type} {C : Addr} {ms : List Md} {pre : List Ct → Prop} {R : List Ct → A → Prop} {f : List Ct → A → Vl} {g : List Ct → A → List Ct} {w : Addr → List (Str × Dt) → _root_.D.Env → Prop} {ra : RA} {η : _root_.D.Env} {Q : Vl → _root_.D.Env → Prop}
theorem rMakeC_f : rMakeC C ms (Spf pre R f g) w ra η Q = ra η fun xs η1 => ∃ as, argsD ms xs η1 = some as ∧ pre (.dt (.ins C []) :: as) ∧ ∀ a, R (.dt (.ins C []) :: as) a → ∃ c cs', f (.dt (.ins C []) :: as) a = .d .non ∧ g (.dt (.ins C []) :: as) a = c :: cs' ∧ Q (.nc c) (aft ms xs η1 cs') := by
  unfold rMakeC
  congr
  funext xs η1
  refine propext ⟨?_, ?_⟩
  · rintro ⟨as, h1, h2, h3, _⟩
    exact ⟨as, h1, h2, fun a r => h3 _ _ ⟨a, r, rfl, rfl⟩⟩
  · rintro ⟨as, h1, h2, h3⟩
    refine ⟨as, h1, h2, ?_, fun _ _ _ z => z.elim⟩
    rintro y cs ⟨a, r, rfl, rfl⟩
    exact h3 a r
end
theorem hu1 {n : Nat} (h : n + 64 < cLine) : n + 1 < cLine := by omega
structure Gs (K : PySem.W.Frag) (mg : Str → Option Value) (c_FellError c_NoName c_Taken c_NoChange c_History : Addr) : Prop where
  x_History : mg "History" = some (.ref c_History)
  c_LETTERS : ∃ t, mg "LETTERS" = some (.str "abcdefghijklmnopqrstuvwxyz" t)
  c_MOST_NAME : ∃ t, mg "MOST_NAME" = some (.int 12 t)
  b_all : mg "all" = none
  b_bool : mg "bool" = none
  b_enumerate : mg "enumerate" = none
  b_int : mg "int" = none
  b_isinstance : mg "isinstance" = none
  b_len : mg "len" = none
  b_list : mg "list" = none
  b_range : mg "range" = none
  b_set : mg "set" = none
  b_sorted : mg "sorted" = none
  b_str : mg "str" = none
def isW (d : Dt) : Bool := isa "int" d && !isa "bool" d
def iv : Dt → Int
  | .int i => i
  | _ => 0
theorem isW_int {d : Dt} (h : isW d = true) : ∃ i, d = .int i := by
  cases d <;> simp_all [isW, isa]
def btw (d : Dt) (lo hi : Int) : Bool := isW d && (decide (lo ≤ iv d) && decide (iv d ≤ hi))
def S_is_whole : Spc := Spf (A := Unit) (fun as => ∃ d, as = [.dt d] ∧ plainD d = true) (fun _ _ => True) (fun as _ => match as with
  | [.dt d] => .d (.bl (isW d))
  | _ => .d .non) fun _ _ => []
def S_is_between : Spc := Spf (A := Unit) (fun as => ∃ d lo hi, as = [.dt d, .dt (.int lo), .dt (.int hi)] ∧ plainD d = true) (fun _ _ => True) (fun as _ => match as with
  | [.dt d, .dt (.int lo), .dt (.int hi)] => .d (.bl (btw d lo hi))
  | _ => .d .non) fun _ _ => []
def letC (c : Nat) : Bool := decide (c ∈ (Str.ofString "abcdefghijklmnopqrstuvwxyz").cps.toList)
def pathC (c : Nat) : Bool := decide (c ∈ (Str.ofString "abcdefghijklmnopqrstuvwxyz_/.").cps.toList)
def nameS : Dt → Bool
  | .str s => decide (1 ≤ s.length) && (decide (s.length ≤ 12) && ((match s.cps.toList with | c :: _ => letC c | [] => false) && s.cps.toList.all fun c => letC c || decide (c = 95)))
  | _ => false
def pathS : Dt → Bool
  | .str s => decide (1 ≤ s.length) && (decide (s.length ≤ 40) && s.cps.toList.all pathC)
  | _ => false
theorem name_eq {s : Str} {c0 : Nat} (h : s.cps.toList[0]? = some c0) : nameS (.str s) = (decide (1 ≤ s.length) && (decide (s.length ≤ 12) && (letC c0 && s.cps.toList.all fun c => letC c || decide (c = 95)))) := by
  unfold nameS
  simp only
  cases e : s.cps.toList with
  | nil => rw [e] at h; cases h
  | cons a r => rw [e] at h; cases h; rfl
theorem eq_sign {c : Nat} {d : Dt} : REq (.str ⟨#[c]⟩) (.str (Str.ofString "_")) d = (d = .bl (decide (c = 95))) := by
  rw [eq_pd (a := Dt.str ⟨#[c]⟩) (b := Dt.str (Str.ofString "_")) 0 0 trivial trivial (by decide), deq_str]
  have : decide ((⟨#[c]⟩ : Str) = Str.ofString "_") = decide (c = 95) := decide_eq_decide.mpr (by
    rw [show Str.ofString "_" = ⟨#[95]⟩ from rfl]
    constructor
    · intro h; injection h with h; simpa using h
    · intro h; rw [h])
  rw [this]
def S_is_name : Spc := Spf (A := Unit) (fun as => ∃ d, as = [.dt d] ∧ plainD d = true ∧ ∀ s, d = .str s → s.length ≤ 1000) (fun _ _ => True) (fun as _ => match as with
  | [.dt d] => .d (.bl (nameS d))
  | _ => .d .non) fun _ _ => []
def S_is_path : Spc := Spf (A := Unit) (fun as => ∃ d, as = [.dt d] ∧ plainD d = true ∧ ∀ s, d = .str s → s.length ≤ 1000) (fun _ _ => True) (fun as _ => match as with
  | [.dt d] => .d (.bl (pathS d))
  | _ => .d .non) fun _ _ => []

def smS (d : Dt) : Prop := ∀ s, d = .str s → s.length ≤ 1000
theorem pd_plain {n : Nat} {d : Dt} (h : Pd n d) : plainD d = true := by cases d <;> first | rfl | (cases n <;> exact h.elim)
theorem btw_int {a : Dt} {lo hi : Int} (h : btw a lo hi = true) : ∃ i, a = .int i := isW_int (Bool.and_eq_true_iff.mp h).1
theorem path_str {a : Dt} (h : pathS a = true) : ∃ s : Str, a = .str s ∧ s.length ≤ 40 := by
  cases a with
  | str s =>
    refine ⟨s, rfl, ?_⟩
    simp only [pathS, Bool.and_eq_true, decide_eq_true_eq] at h
    exact h.2.1
  | _ => cases h
theorem name_str {a : Dt} (h : nameS a = true) : ∃ s : Str, a = .str s ∧ s.length ≤ 12 := by
  cases a with
  | str s =>
    refine ⟨s, rfl, ?_⟩
    simp only [nameS, Bool.and_eq_true, decide_eq_true_eq] at h
    exact h.2.1
  | _ => cases h


def wOk (w : Dt) : Prop := ∃ a b c : Int, w = .lst [.int a, .int b, .int c] ∧ 0 ≤ b ∧ b < 2147483647 ∧ 0 ≤ c
def cnt : Dt → Int
  | .lst [_, _, .int c] => c
  | _ => 0
theorem primes {i : Int} (h0 : 0 ≤ i) (h7 : i < 7) : ∃ p : Int, atI [Dt.int 2147483647, Dt.int 2147483629, Dt.int 2147483587, Dt.int 2147483579, Dt.int 2147483563, Dt.int 2147483549, Dt.int 2147483543] i = some (.int p) ∧ 2147483543 ≤ p ∧ p ≤ 2147483647 := by
  have : i = 0 ∨ i = 1 ∨ i = 2 ∨ i = 3 ∨ i = 4 ∨ i = 5 ∨ i = 6 := by omega
  rcases this with rfl | rfl | rfl | rfl | rfl | rfl | rfl <;> exact ⟨_, rfl, by decide, by decide⟩
def S_well : Spc := Spf (A := Dt) (fun as => ∃ i, as = [.dt (.int i)]) (fun _ w => wOk w ∧ cnt w = 0) (fun _ w => .nw w) fun _ _ => []
def S_draw : Spc := Spf (A := Int × Dt) (fun as => ∃ w n, as = [.dt w, .dt (.int n)] ∧ wOk w ∧ cnt w < 1000000000 ∧ 0 < n ∧ n < 1000000) (fun as p => match as with
  | [.dt w, .dt (.int n)] => wOk p.2 ∧ cnt p.2 ≤ cnt w + 1 ∧ 0 ≤ p.1 ∧ p.1 < n
  | _ => False) (fun _ p => .d (.int p.1)) fun _ p => [.dt p.2]
def items : Dt → List Dt
  | .lst ds => ds
  | .str s => D.signs s
  | .tup ds => ds
  | _ => []
def S_one : Spc := Spf (A := Dt × Dt) (fun as => ∃ w d, as = [.dt w, .dt d] ∧ wOk w ∧ cnt w < 1000000000 ∧ items d ≠ [] ∧ (items d).length < 100000) (fun as p => match as with
  | [.dt w, .dt d] => wOk p.2 ∧ cnt p.2 ≤ cnt w + 1 ∧ p.1 ∈ items d
  | _ => False) (fun _ p => .d p.1) fun _ p => [.dt p.2]
def S_right : Spc := Spf (A := Dt) (fun as => ∃ w, as = [.dt w] ∧ wOk w ∧ cnt w = 0) (fun _ _ => True) (fun _ _ => .d (.bl true)) fun _ w => [.dt w]
def S_law : Spc := Spf (A := Unit) (fun as => ∃ ns : List Int, as = [.dt (.lst (ns.map .int))] ∧ ns.length ≤ 63) (fun _ _ => True) (fun _ _ => .d (.bl true)) fun _ _ => []


def optN : Option Nat → Dt
  | none => .non
  | some i => .int (i : Int)

theorem deq_bl (a b : Bool) : deq (.bl a) (.bl b) = (a == b) := by
  cases a <;> cases b <;> rfl
theorem ne_bb {a b : Bool} {d : Dt} : RNe (.bl a) (.bl b) d = (d = .bl (!(a == b))) := by
  rw [ne_pd (a := Dt.bl a) (b := Dt.bl b) 0 0 trivial trivial (by decide), deq_bl]
theorem ne_selfP {n : Nat} {x d : Dt} (h : Pd n x) (hn : n ≤ 40) : RNe x x d = (d = .bl false) := by
  rw [ne_pd n n h h hn, deq_self h]
  rfl
def strD : Dt → Str
  | .str s => s
  | _ => Str.empty
abbrev HS := List (Str × List Str)
def hget (hs : HS) (s : Str) : Option (List Str) := (hs.find? fun q => decide (q.1 = s)).map (·.2)
def hk (hs : HS) : List (Key × Dt) := hs.map fun q => (.inr q.1, .lst (q.2.map .str))
def hNames (hs : HS) : List Str := hs.map (·.1)
def histC (C p : Addr) (hs : HS) : Ct := .hp (.ins C [("parents", .ref p)]) [(p, .dct (hk hs))]
structure HOk (hs : HS) : Prop where
  nd : (hNames hs).Nodup
  up : ∀ (i : Nat) n ps, hs[i]? = some (n, ps) → ∀ q ∈ ps, q ∈ hNames (hs.take i)
  len : hs.length < 60
inductive Reach (hs : HS) : Str → Str → Prop
  | refl (a : Str) : Reach hs a a
  | step {a b c : Str} {ps : List Str} : Reach hs a b → hget hs b = some ps → c ∈ ps → Reach hs a c
theorem dget_hk (hs : HS) (s : Str) : dget (hk hs) (.inr s) = (hget hs s).map fun ps => .lst (ps.map .str) := by
  unfold dget hk hget
  induction hs with
  | nil => rfl
  | cons q r ih =>
    simp only [List.map_cons, List.find?_cons]
    by_cases e : q.1 = s
    · rw [decide_eq_true (show (Sum.inr q.1 : Key) = Sum.inr s by rw [e]), decide_eq_true e]
      rfl
    · rw [decide_eq_false (show ¬ (Sum.inr q.1 : Key) = Sum.inr s from fun h => e (Sum.inr.inj h)), decide_eq_false e]
      exact ih
theorem hget_mem {hs : HS} {s : Str} : (hget hs s).isSome = decide (s ∈ hNames hs) := by
  unfold hget hNames
  rw [Option.isSome_map, Bool.eq_iff_iff, List.find?_isSome]
  simp
theorem hget_some {hs : HS} {s : Str} (h : s ∈ hNames hs) : ∃ ps, hget hs s = some ps := by
  have := hget_mem (hs := hs) (s := s)
  rw [decide_eq_true h] at this
  exact Option.isSome_iff_exists.mp this
theorem hget_at {hs : HS} {s : Str} {ps : List Str} (h : hget hs s = some ps) : ∃ i : Nat, hs[i]? = some (s, ps) := by
  unfold hget at h
  obtain ⟨q, hq, rfl⟩ := Option.map_eq_some_iff.mp h
  obtain ⟨i, hi⟩ := List.mem_iff_getElem?.mp (List.mem_of_find?_eq_some hq)
  have := List.find?_some hq
  have e : q.1 = s := of_decide_eq_true this
  refine ⟨i, ?_⟩
  rw [hi, ← e]
theorem dput_hk {hs : HS} {s : Str} {ps : List Str} (h : s ∉ hNames hs) : dput (hk hs) (.inr s) (.lst (ps.map .str)) = hk (hs ++ [(s, ps)]) := by
  unfold dput
  rw [if_neg]
  · unfold hk
    rw [List.map_append]
    rfl
  · intro q
    obtain ⟨kv, h1, h2⟩ := List.any_eq_true.mp q
    obtain ⟨x, hx, rfl⟩ := List.mem_map.mp h1
    have := Sum.inr.inj (of_decide_eq_true h2)
    exact h (List.mem_map.mpr ⟨x, hx, this⟩)
theorem hk_len (hs : HS) : (hk hs).length = hs.length := List.length_map _
theorem hk_keys (hs : HS) : ((hk hs).map fun kv => keyDt kv.1) = (hNames hs).map .str := by
  unfold hk hNames
  rw [List.map_map, List.map_map]
  rfl
def keptB (hs : HS) : Dt → Bool
  | .str s => decide (s ∈ hNames hs)
  | _ => false
theorem kept_str {hs : HS} {d : Dt} (h : keptB hs d = true) : ∃ s, d = .str s ∧ s ∈ hNames hs := by
  cases d <;> first | exact ⟨_, rfl, of_decide_eq_true h⟩ | cases h
theorem HOk.par {hs : HS} (h : HOk hs) {s : Str} {ps : List Str} (e : hget hs s = some ps) : ∀ q ∈ ps, q ∈ hNames hs := by
  obtain ⟨i, hi⟩ := hget_at e
  intro q hq
  have := h.up i s ps hi q hq
  unfold hNames at this ⊢
  rw [List.map_take] at this
  exact List.mem_of_mem_take this
theorem HOk.snoc {hs : HS} (h : HOk hs) {s : Str} {ps : List Str} (h1 : s ∉ hNames hs) (h2 : ∀ q ∈ ps, q ∈ hNames hs) (hl : hs.length < 59) : HOk (hs ++ [(s, ps)]) := by
  refine ⟨?_, fun i n qs e q hq => ?_, by rw [List.length_append]; simp; omega⟩
  · unfold hNames
    rw [List.map_append, List.nodup_append]
    refine ⟨h.nd, by simp, fun a ha b hb e => ?_⟩
    simp at hb
    rw [e, hb] at ha
    exact h1 ha
  · rcases Nat.lt_or_ge i hs.length with hi | hi
    · rw [List.getElem?_append_left hi] at e
      rw [List.take_append_of_le_length (by omega)]
      exact h.up i n qs e q hq
    · rw [List.getElem?_append_right hi] at e
      have e0 : i - hs.length = 0 := by
        have := (List.getElem?_eq_some_iff.mp e).1
        simp at this
        omega
      rw [e0] at e
      simp at e
      obtain ⟨rfl, rfl⟩ := e
      have : i = hs.length := by omega
      rw [this, List.take_append_of_le_length (Nat.le_refl _), List.take_length]
      exact h2 q hq
theorem HOk.nil : HOk [] := ⟨by simp [hNames], fun i n ps e => by simp at e, by decide⟩
theorem reach_in {hs : HS} (h : HOk hs) {a b : Str} (r : Reach hs a b) (ha : a ∈ hNames hs) : b ∈ hNames hs := by
  induction r with
  | refl => exact ha
  | step _ e m ih => exact h.par e _ m
/-- what a change has, sorted -/
structure AllOf (hs : HS) (s : Str) (ys : List Str) : Prop where
  so : sortedS ys = true
  nd : ys.Nodup
  mem : ∀ k, k ∈ ys ↔ Reach hs s k
theorem rising_pw : ∀ (p : Str) (l : List Str), risingS p l = true → (p :: l).Pairwise fun a b => a.cps.toList ≤ b.cps.toList
  | p, [], _ => by simp
  | p, x :: r, h => by
    obtain ⟨h1, h2⟩ := Bool.and_eq_true_iff.mp (show (!ltCps x.cps.toList p.cps.toList && risingS x r) = true from h)
    have ih := rising_pw x r h2
    have hpx : p.cps.toList ≤ x.cps.toList := by
      rw [ltCps_eq] at h1
      have : ¬ x.cps.toList < p.cps.toList := by simpa using h1
      exact List.not_lt.mp this
    refine List.pairwise_cons.mpr ⟨fun y hy => ?_, ih⟩
    rcases List.mem_cons.mp hy with rfl | hy
    · exact hpx
    · exact List.le_trans hpx ((List.pairwise_cons.mp ih).1 y hy)
theorem sorted_pw : ∀ {l : List Str}, sortedS l = true → l.Pairwise fun a b => a.cps.toList ≤ b.cps.toList
  | [], _ => List.Pairwise.nil
  | x :: r, h => rising_pw x r h
theorem sorted_uniq {xs ys : List Str} (h1 : sortedS xs = true) (h2 : sortedS ys = true) (n1 : xs.Nodup) (n2 : ys.Nodup) (hm : ∀ k, k ∈ xs ↔ k ∈ ys) : xs = ys := by
  refine List.Perm.eq_of_pairwise (le := fun a b : Str => a.cps.toList ≤ b.cps.toList) (fun a b _ _ h h' => str_ext (List.le_antisymm h h')) (sorted_pw h1) (sorted_pw h2) ?_
  exact (List.perm_ext_iff_of_nodup n1 n2).mpr hm
theorem AllOf.uniq {hs : HS} {s : Str} {xs ys : List Str} (h : AllOf hs s xs) (h' : AllOf hs s ys) : xs = ys :=
  sorted_uniq h.so h'.so h.nd h'.nd fun k => (h.mem k).trans (h'.mem k).symm
def keptK (kvs : List (Key × Dt)) : Dt → Bool
  | .str s => (dget kvs (.inr s)).isSome
  | _ => false
theorem keptK_hk {hs : HS} {d : Dt} : keptK (hk hs) d = keptB hs d := by
  cases d <;> try rfl
  show (dget (hk hs) _).isSome = decide _
  rw [dget_hk, Option.isSome_map, hget_mem]
def S_hinit (C : Addr) : Spc := Spf (A := Addr) (fun as => as = [.dt (.ins C [])]) (fun _ _ => True) (fun _ _ => .d .non) fun _ p => [histC C p []]
def S_iskept (C : Addr) : Spc := Spf (A := Unit) (fun as => ∃ p hs d, as = [histC C p hs, .dt d] ∧ (plainD d = true)) (fun _ _ => True) (fun as _ => match as with
  | [.hp _ [(_, .dct kvs)], .dt d] => .d (.bl (keptK kvs d))
  | _ => .d .non) fun as _ => as.take 1
def S_surekept (C CN : Addr) : Spc := Spg (A := Unit) (B := Unit) (fun as => ∃ p hs d, as = [histC C p hs, .dt d] ∧ plainD d = true) (fun as _ => ∃ p hs d, as = [histC C p hs, .dt d] ∧ keptB hs d = true) (fun _ _ => .d .non) (fun as _ => as.take 1)
  (fun as _ => ∃ p hs d, as = [histC C p hs, .dt d] ∧ keptB hs d = false) (fun as _ => match as with
    | [_, .dt d] => (CN, [("name", d)])
    | _ => (CN, [])) fun as _ => as.take 1
def badPar (hs : HS) : List Dt → List Dt → Option Dt
  | _, [] => none
  | seen, x :: r => if (keptB hs x && !seen.any fun y => deq y x) = true then badPar hs (seen ++ [x]) r else some x
def badPars (hs : HS) : Dt → Option Dt
  | .lst ds => badPar hs [] ds
  | _ => some .non
def parA (e : Dt) : Prop := plainD e = true ∧ ∀ ds, e = .lst ds → ds.length ≤ 1000 ∧ ∀ x ∈ ds, plainD x = true
def S_surepar (C CN : Addr) : Spc := Spg (A := Unit) (B := Dt) (fun as => ∃ p hs e, as = [histC C p hs, .dt e] ∧ parA e) (fun as _ => ∃ p hs e, as = [histC C p hs, .dt e] ∧ badPars hs e = none) (fun _ _ => .d .non) (fun as _ => as.take 1)
  (fun as b => ∃ p hs e, as = [histC C p hs, .dt e] ∧ badPars hs e = some b) (fun _ b => (CN, [("name", b)])) fun as _ => as.take 1
/-- what is refused of a change: the class's number and the value -/
def badAdd (hs : HS) (d e : Dt) : Option (Nat × Dt) := if nameS d = false then some (0, d) else if keptB hs d = true then some (1, d) else (badPars hs e).map fun b => (2, b)
def S_add (C C0 C1 C2 : Addr) : Spc := Spg (A := Addr × HS) (B := Nat × Dt) (fun as => ∃ p hs d e, as = [histC C p hs, .dt d, .dt e] ∧ plainD d = true ∧ (∀ s, d = .str s → s.length ≤ 1000) ∧ parA e ∧ hs.length < 90000)
  (fun as q => ∃ p hs s ps, as = [histC C p hs, .dt (.str s), .dt (.lst (ps.map .str))] ∧ badAdd hs (.str s) (.lst (ps.map .str)) = none ∧ q = (p, hs ++ [(s, ps)])) (fun _ _ => .d .non) (fun _ q => [histC C q.1 q.2])
  (fun as b => ∃ p hs d e, as = [histC C p hs, .dt d, .dt e] ∧ badAdd hs d e = some b) (fun _ b => (if b.1 = 0 then C0 else if b.1 = 1 then C1 else C2, [("name", b.2)])) fun as _ => as.take 1
def S_allof (C CN : Addr) : Spc := Spg (A := List Str) (B := Unit) (fun as => ∃ p hs d, as = [histC C p hs, .dt d] ∧ plainD d = true ∧ HOk hs) (fun as ys => ∃ p hs s, as = [histC C p hs, .dt (.str s)] ∧ s ∈ hNames hs ∧ AllOf hs s ys) (fun _ ys => .nw (.lst (ys.map .str))) (fun as _ => as.take 1)
  (fun as _ => ∃ p hs d, as = [histC C p hs, .dt d] ∧ keptB hs d = false) (fun as _ => match as with
    | [_, .dt d] => (CN, [("name", d)])
    | _ => (CN, [])) fun as _ => as.take 1
def S_has (C CN : Addr) : Spc := Spg (A := Bool) (B := Dt) (fun as => ∃ p hs d e, as = [histC C p hs, .dt d, .dt e] ∧ plainD d = true ∧ plainD e = true ∧ HOk hs)
  (fun as b => ∃ p hs s t, as = [histC C p hs, .dt (.str s), .dt (.str t)] ∧ s ∈ hNames hs ∧ t ∈ hNames hs ∧ (b = true ↔ Reach hs s t)) (fun _ b => .d (.bl b)) (fun as _ => as.take 1)
  (fun as b => ∃ p hs d e, as = [histC C p hs, .dt d, .dt e] ∧ ((keptB hs d = false ∧ b = d) ∨ (keptB hs d = true ∧ keptB hs e = false ∧ b = e))) (fun _ b => (CN, [("name", b)])) fun as _ => as.take 1
theorem histC_inj {C p p' : Addr} {hs hs' : HS} (h : histC C p hs = histC C p' hs') : p = p' ∧ hk hs = hk hs' := by
  unfold histC at h
  injection h with h1 h2
  simp at h2
  exact h2
theorem hk_inj : ∀ {hs hs' : HS}, hk hs = hk hs' → hs = hs'
  | [], [], _ => rfl
  | [], _ :: _, h => by simp [hk] at h
  | _ :: _, [], h => by simp [hk] at h
  | (a, ps) :: r, (b, qs) :: r', h => by
    have h := h
    unfold hk at h
    simp only [List.map_cons, List.cons.injEq, Prod.mk.injEq, Sum.inr.injEq, Dt.lst.injEq] at h
    obtain ⟨⟨rfl, h2⟩, h3⟩ := h
    have e : ps = qs := by
      have : (ps.map Dt.str).map strD = (qs.map Dt.str).map strD := by rw [h2]
      rwa [List.map_map, List.map_map, show (strD ∘ Dt.str) = id from rfl, List.map_id, List.map_id] at this
    rw [e, hk_inj (hs := r) (hs' := r') h3]
theorem exH {C p : Addr} {hs : HS} {Q : Addr → HS → Prop} : (∃ p' hs', Ct.hp (Dt.ins C [(Str.ofString "parents", Dt.ref p)]) [(p, Dt.dct (hk hs))] = Ct.hp (Dt.ins C [(Str.ofString "parents", Dt.ref p')]) [(p', Dt.dct (hk hs'))] ∧ Q p' hs') = Q p hs := by
  refine propext ⟨?_, fun h => ⟨p, hs, rfl, h⟩⟩
  rintro ⟨p', hs', e, q⟩
  obtain ⟨rfl, e2⟩ := histC_inj (C := C) (p := p) (p' := p') (hs := hs) (hs' := hs') e
  rw [hk_inj e2]
  exact q
theorem exH0 {C p : Addr} {hs : HS} : (∃ p' hs', Ct.hp (Dt.ins C [(Str.ofString "parents", Dt.ref p)]) [(p, Dt.dct (hk hs))] = Ct.hp (Dt.ins C [(Str.ofString "parents", Dt.ref p')]) [(p', Dt.dct (hk hs'))]) = True := eq_true ⟨p, hs, rfl⟩
theorem faH {C p : Addr} {hs : HS} {Q : Addr → HS → Prop} : (∀ p' hs', Ct.hp (Dt.ins C [(Str.ofString "parents", Dt.ref p)]) [(p, Dt.dct (hk hs))] = Ct.hp (Dt.ins C [(Str.ofString "parents", Dt.ref p')]) [(p', Dt.dct (hk hs'))] → Q p' hs') = Q p hs := by
  refine propext ⟨fun h => h p hs rfl, ?_⟩
  rintro q p' hs' e
  obtain ⟨rfl, e2⟩ := histC_inj (C := C) (p := p) (p' := p') (hs := hs) (hs' := hs') e
  rw [← hk_inj e2]
  exact q
theorem badPar_step {hs : HS} {ds : List Dt} {i : Nat} {x : Dt} (h : ds[i]? = some x) : badPar hs (ds.take i) (ds.drop i) = if (keptB hs x && !(ds.take i).any fun y => deq y x) = true then badPar hs (ds.take (i + 1)) (ds.drop (i + 1)) else some x := by
  rw [drop_at h, badPar, take_succ_at h]
theorem badPar_strs {hs : HS} : ∀ {ds seen : List Dt}, badPar hs seen ds = none → ∀ x ∈ ds, keptB hs x = true
  | [], _, _, x, h => (List.not_mem_nil h).elim
  | d :: r, seen, h, x, hx => by
    unfold badPar at h
    split at h
    · rename_i q
      rcases List.mem_cons.mp hx with rfl | hx
      · exact (Bool.and_eq_true_iff.mp q).1
      · exact badPar_strs h x hx
    · cases h
theorem kept_strs {hs : HS} : ∀ {ds : List Dt}, (∀ x ∈ ds, keptB hs x = true) → ∃ ps : List Str, ds = ps.map .str ∧ ∀ q ∈ ps, q ∈ hNames hs
  | [], _ => ⟨[], rfl, by simp⟩
  | d :: r, h => by
    obtain ⟨s, rfl, hs'⟩ := kept_str (h d (by simp))
    obtain ⟨ps, rfl, hp⟩ := kept_strs (ds := r) fun x hx => h x (List.mem_cons_of_mem _ hx)
    exact ⟨s :: ps, rfl, fun q hq => (List.mem_cons.mp hq).elim (fun e => e ▸ hs') (hp q)⟩
/-- what is found, what is still to be looked at -/
structure AllInv (hs : HS) (s : Str) (fs ts : List Str) : Prop where
  nd : fs.Nodup
  inn : ∀ f ∈ fs, f ∈ hNames hs
  sub : ∀ t ∈ ts, t ∈ fs
  s0 : s ∈ fs
  re : ∀ f ∈ fs, Reach hs s f
  cl : ∀ f ∈ fs, f ∉ ts → ∀ ps, hget hs f = some ps → ∀ q ∈ ps, q ∈ fs
  len : ts.length ≤ fs.length
theorem nd_len {α : Type} [DecidableEq α] : ∀ {l m : List α}, l.Nodup → (∀ x ∈ l, x ∈ m) → l.length ≤ m.length
  | [], m, _, _ => Nat.zero_le _
  | a :: r, m, hn, hs => by
    obtain ⟨h1, h2⟩ := List.nodup_cons.mp hn
    have ha : a ∈ m := hs a (by simp)
    have ih := nd_len (l := r) (m := m.erase a) h2 fun x hx => (List.mem_erase_of_ne (fun e : x = a => h1 (by rw [← e]; exact hx))).mpr (hs x (by simp [hx]))
    rw [List.length_erase_of_mem ha] at ih
    have : 0 < m.length := List.length_pos_of_mem ha
    rw [List.length_cons]
    omega
theorem AllInv.all {hs : HS} {s : Str} {fs ys : List Str} (h : AllInv hs s fs []) (hp : ys.Perm fs) (hso : sortedS ys = true) : AllOf hs s ys := by
  refine ⟨hso, hp.nodup_iff.mpr h.nd, fun k => (hp.mem_iff).trans ⟨h.re k, fun r => ?_⟩⟩
  induction r with
  | refl => exact h.s0
  | step _ e m ih => exact h.cl _ ih (by simp) _ e _ m
structure InInv (hs : HS) (s la : Str) (ps fs ts0 : List Str) (i : Nat) (fs' ts' : List Str) : Prop where
  nd : fs'.Nodup
  inn : ∀ f ∈ fs', f ∈ hNames hs
  sub : ∀ t ∈ ts', t ∈ fs'
  s0 : s ∈ fs'
  la_ : la ∈ fs'
  re : ∀ f ∈ fs', Reach hs s f
  cl : ∀ f ∈ fs', f ∉ ts' → f ≠ la → ∀ ps, hget hs f = some ps → ∀ q ∈ ps, q ∈ fs'
  don : ∀ q ∈ ps.take i, q ∈ fs'
  len : ts'.length + 1 ≤ fs'.length
  eqn : fs'.length + ts0.length = fs.length + ts'.length
  mon : fs.length ≤ fs'.length
theorem InInv.start {hs : HS} {s la : Str} {ps fs ts0 : List Str} (h : AllInv hs s fs (ts0 ++ [la])) : InInv hs s la ps fs ts0 0 fs ts0 := by
  refine ⟨h.nd, h.inn, fun t ht => h.sub t (by simp [ht]), h.s0, h.sub la (by simp), h.re, fun f hf hn hne => h.cl f hf ?_, by simp, ?_, rfl, Nat.le_refl _⟩
  · rw [List.mem_append, List.mem_singleton]
    exact fun q => q.elim hn hne
  · have := h.len
    rw [List.length_append] at this
    simpa using this
theorem InInv.skip {hs : HS} {s la q : Str} {ps fs ts0 fs' ts' : List Str} {i : Nat} (h : InInv hs s la ps fs ts0 i fs' ts') (hq : ps[i]? = some q) (hin : q ∈ fs') : InInv hs s la ps fs ts0 (i + 1) fs' ts' := by
  refine ⟨h.nd, h.inn, h.sub, h.s0, h.la_, h.re, h.cl, fun x hx => ?_, h.len, h.eqn, h.mon⟩
  rw [take_succ_at hq, List.mem_append, List.mem_singleton] at hx
  rcases hx with hx | rfl
  · exact h.don x hx
  · exact hin
theorem InInv.put {hs : HS} {s la q : Str} {ps fs ts0 fs' ts' : List Str} {i : Nat} (ho : HOk hs) (h : InInv hs s la ps fs ts0 i fs' ts') (hps : hget hs la = some ps) (hq : ps[i]? = some q) (hin : q ∉ fs') : InInv hs s la ps fs ts0 (i + 1) (fs' ++ [q]) (ts' ++ [q]) := by
  have hm : q ∈ ps := List.mem_of_getElem? hq
  refine ⟨?_, fun f hf => ?_, fun t ht => ?_, by simp [h.s0], by simp [h.la_], fun f hf => ?_, fun f hf hn hne ps' e x hx => ?_, fun x hx => ?_, ?_, ?_, by have := h.mon; rw [List.length_append]; omega⟩
  · rw [List.nodup_append]
    refine ⟨h.nd, by simp, fun a ha b hb e => ?_⟩
    simp at hb
    rw [e, hb] at ha
    exact hin ha
  · rw [List.mem_append, List.mem_singleton] at hf
    rcases hf with hf | rfl
    · exact h.inn f hf
    · exact ho.par hps _ hm
  · rw [List.mem_append, List.mem_singleton] at ht ⊢
    exact ht.imp (h.sub t) id
  · rw [List.mem_append, List.mem_singleton] at hf
    rcases hf with hf | rfl
    · exact h.re f hf
    · exact .step (h.re la h.la_) hps hm
  · rw [List.mem_append, List.mem_singleton] at hf hn
    rw [List.mem_append]
    rcases hf with hf | rfl
    · exact .inl (h.cl f hf (fun z => hn (.inl z)) hne ps' e x hx)
    · exact absurd rfl fun z => hn (.inr z)
  · rw [take_succ_at hq, List.mem_append, List.mem_singleton] at hx
    rw [List.mem_append, List.mem_singleton]
    exact hx.imp (h.don x) id
  · have := h.len
    rw [List.length_append, List.length_append]
    simp
    omega
  · have := h.eqn
    rw [List.length_append, List.length_append]
    simp
    omega
theorem InInv.done {hs : HS} {s la : Str} {ps fs ts0 fs' ts' : List Str} (h : InInv hs s la ps fs ts0 ps.length fs' ts') (hps : hget hs la = some ps) : AllInv hs s fs' ts' := by
  refine ⟨h.nd, h.inn, h.sub, h.s0, h.re, fun f hf hn ps' e q hq => ?_, by have := h.len; omega⟩
  by_cases hl : f = la
  · subst hl
    rw [hps] at e
    cases e
    exact h.don q (by rw [List.take_length]; exact hq)
  · exact h.cl f hf hn hl ps' e q hq
abbrev trD (fs : List Str) : List (Key × Dt) := fs.map fun f => (Sum.inr f, .bl true)
theorem dget_tr {fs : List Str} {q : Str} : (dget (trD fs) (.inr q)).isSome = decide (q ∈ fs) := by
  unfold dget
  rw [Option.isSome_map, Bool.eq_iff_iff, List.find?_isSome, decide_eq_true_iff]
  constructor
  · rintro ⟨kv, h1, h2⟩
    obtain ⟨x, hx, rfl⟩ := List.mem_map.mp h1
    exact Sum.inr.inj (of_decide_eq_true h2) ▸ hx
  · exact fun h => ⟨_, List.mem_map.mpr ⟨q, h, rfl⟩, decide_eq_true rfl⟩
theorem dput_tr {fs : List Str} {q : Str} (h : q ∉ fs) : dput (trD fs) (.inr q) (.bl true) = trD (fs ++ [q]) := by
  unfold dput
  rw [if_neg]
  · simp
  · intro z
    obtain ⟨kv, h1, h2⟩ := List.any_eq_true.mp z
    obtain ⟨x, hx, rfl⟩ := List.mem_map.mp h1
    exact h (Sum.inr.inj (of_decide_eq_true h2) ▸ hx)
theorem AllInv.start {hs : HS} {s : Str} (h : s ∈ hNames hs) : AllInv hs s [s] [s] :=
  ⟨by simp, fun f hf => by rw [List.mem_singleton.mp hf]; exact h, fun t ht => ht, by simp, fun f hf => by rw [List.mem_singleton.mp hf]; exact .refl s, fun f hf hn => absurd hf hn, by simp⟩
theorem lkH_kept {a : Dt} : List.lookup (Str.ofString "is_kept") [(Str.ofString "parents", a)] = none := rfl
theorem lkH_sk {a : Dt} : List.lookup (Str.ofString "sure_kept") [(Str.ofString "parents", a)] = none := rfl
theorem lkH_sp {a : Dt} : List.lookup (Str.ofString "sure_parents") [(Str.ofString "parents", a)] = none := rfl
theorem lkH_add {a : Dt} : List.lookup (Str.ofString "add") [(Str.ofString "parents", a)] = none := rfl
theorem lkH_all {a : Dt} : List.lookup (Str.ofString "all_of") [(Str.ofString "parents", a)] = none := rfl
theorem lkH_has {a : Dt} : List.lookup (Str.ofString "has") [(Str.ofString "parents", a)] = none := rfl
theorem lkH_par {a : Dt} : List.lookup (Str.ofString "parents") [(Str.ofString "parents", a)] = some a := rfl
theorem gf_1 {p : Addr} {d : Dt} : gfind p [(p, d)] = some d := by unfold gfind; simp
theorem name_cs {s : Str} {c0 : Nat} {cs : List Nat} (e : s.cps.toList = c0 :: cs) (h0 : letC c0 = true) (h1 : cs.length ≤ 11) (h : ∀ c ∈ cs, letC c = true ∨ c = 95) : nameS (.str s) = true := by
  have l : s.length = cs.length + 1 := by rw [← len_list, e, List.length_cons]
  have e0 : s.cps.toList[0]? = some c0 := by rw [e]; rfl
  rw [name_eq e0, l, e, h0, decide_eq_true (by omega), decide_eq_true (by omega)]
  simp only [Bool.true_and, List.all_cons, h0, Bool.true_or]
  refine List.all_eq_true.mpr fun c hc => ?_
  rcases h c hc with h | h <;> simp [h]

theorem at4 {α : Type} {a b c d x : α} {l : List α} : atI (a :: b :: c :: d :: x :: l) 4 = some x := atI_nat (j := 4) rfl
theorem at5 {α : Type} {a b c d e x : α} {l : List α} : atI (a :: b :: c :: d :: e :: x :: l) 5 = some x := atI_nat (j := 5) rfl
theorem at6 {α : Type} {a b c d e f x : α} {l : List α} : atI (a :: b :: c :: d :: e :: f :: x :: l) 6 = some x := atI_nat (j := 6) rfl
/-- rows of changes: names, parents -/
def rowsD (hs : HS) : List Dt := hs.map fun q => .tup [.str q.1, .lst (q.2.map .str)]
/-- a plan that a history can be made of -/
structure POk (hs : HS) : Prop extends HOk hs where
  nm : ∀ s ∈ hNames hs, nameS (.str s) = true
  pnd : ∀ (i : Nat) n ps, hs[i]? = some (n, ps) → ps.Nodup
  p3 : ∀ (i : Nat) n ps, hs[i]? = some (n, ps) → ps.length ≤ 3
  l15 : hs.length ≤ 15
def nW (i : Nat) : Str := ⟨#[110, 97 + i]⟩
abbrev zzS : Str := Str.ofString "zz_last"
structure NInv (acc : List Str) : Prop where
  nd : acc.Nodup
  nm : ∀ s ∈ acc, nameS (.str s) = true
  ix : ∀ (i : Nat) s, acc[i]? = some s → s.cps.toList.head? ≠ some 110 ∨ s = nW i
  zz : ∀ s ∈ acc, s ≠ zzS
theorem NInv.nil : NInv [] := ⟨by simp, by simp, fun i s h => by simp at h, by simp⟩
theorem NInv.snoc {acc : List Str} {s : Str} (h : NInv acc) (h1 : nameS (.str s) = true) (h2 : s ∉ acc) (h3 : s.cps.toList.head? ≠ some 110 ∨ s = nW acc.length) (h4 : s ≠ zzS) : NInv (acc ++ [s]) := by
  refine ⟨?_, fun t ht => ?_, fun i t ht => ?_, fun t ht => ?_⟩
  · rw [List.nodup_append]
    refine ⟨h.nd, by simp, fun a ha b hb e => ?_⟩
    simp at hb
    rw [e, hb] at ha
    exact h2 ha
  · rw [List.mem_append, List.mem_singleton] at ht
    rcases ht with ht | rfl
    · exact h.nm t ht
    · exact h1
  · rcases Nat.lt_or_ge i acc.length with hi | hi
    · rw [List.getElem?_append_left hi] at ht
      exact h.ix i t ht
    · rw [List.getElem?_append_right hi] at ht
      have e0 : i - acc.length = 0 := by
        have := (List.getElem?_eq_some_iff.mp ht).1
        simp at this
        omega
      rw [e0] at ht
      simp at ht
      subst ht
      have : i = acc.length := by omega
      rw [this]
      exact h3
  · rw [List.mem_append, List.mem_singleton] at ht
    rcases ht with ht | rfl
    · exact h.zz t ht
    · exact h4
theorem nW_inj {i j : Nat} (h : nW i = nW j) : i = j := by
  have : (#[110, 97 + i] : Array Nat) = #[110, 97 + j] := congrArg Str.cps h
  simp at this
  exact this
theorem NInv.fresh {acc : List Str} (h : NInv acc) : nW acc.length ∉ acc := fun hm => by
  obtain ⟨i, hi⟩ := List.mem_iff_getElem?.mp hm
  rcases h.ix i _ hi with q | q
  · exact q rfl
  · have := nW_inj q
    have := (List.getElem?_eq_some_iff.mp hi).1
    omega
theorem nW_name {i : Nat} (h : i < 26) : nameS (.str (nW i)) = true := by
  have e : (nW i).cps.toList = [110, 97 + i] := rfl
  rw [name_eq (c0 := 110) (by rw [e]; rfl), e]
  have hl : letC (97 + i) = true := by
    have : ∀ j : Fin 26, letC (97 + j.val) = true := by decide +kernel
    exact this ⟨i, h⟩
  rw [show (nW i).length = 2 from rfl]
  simp only [List.all_cons, List.all_nil, hl]
  rw [show letC 110 = true from by decide +kernel]
  simp
theorem nW_zz {i : Nat} : nW i ≠ zzS := fun h => by
  have : (nW i).cps.toList = zzS.cps.toList := by rw [h]
  rw [show (nW i).cps.toList = [110, 97 + i] from rfl, show zzS.cps.toList = [122, 122, 95, 108, 97, 115, 116] from by decide +kernel] at this
  cases this
theorem nW_at {i : Nat} (h : i < 26) : atI (Str.ofString "abcdefghijklmnopqrstuvwxyz").cps.toList (i : Int) = some (97 + i) ∧ Str.ofString "n" ++ (⟨#[97 + i]⟩ : Str) = nW i := by
  refine ⟨?_, rfl⟩
  have : ∀ j : Fin 26, (Str.ofString "abcdefghijklmnopqrstuvwxyz").cps.toList[j.val]? = some (97 + j.val) := by decide +kernel
  exact atI_nat (this ⟨i, h⟩)
/-- a sign of a text, by its place -/
theorem sig_at {z : Str} {a : Int} {n : Int} (h0 : 0 ≤ a) (h1 : a < n) (e : n = z.length) : ∃ c, atI z.cps.toList a = some c ∧ c ∈ z.cps.toList := by
  obtain ⟨k, rfl⟩ := Int.eq_ofNat_of_zero_le h0
  have hk : k < z.cps.toList.length := by rw [len_list]; omega
  exact ⟨z.cps.toList[k], atI_nat (List.getElem?_eq_getElem hk), List.getElem_mem hk⟩
theorem abz_mem {c : Nat} (h : c ∈ (Str.ofString "abz_").cps.toList) : (letC c = true ∨ c = 95) ∧ c ≠ 108 := by
  have : ∀ c ∈ (Str.ofString "abz_").cps.toList, (letC c = true ∨ c = 95) ∧ c ≠ 108 := by decide +kernel
  exact this c h
theorem abx_mem {c : Nat} (h : c ∈ (Str.ofString "abcxyz").cps.toList) : letC c = true ∧ c ≠ 110 := by
  have : ∀ c ∈ (Str.ofString "abcxyz").cps.toList, letC c = true ∧ c ≠ 110 := by decide +kernel
  exact this c h
theorem zz_ne {z : Str} {c0 : Nat} {cs : List Nat} (e : z.cps.toList = c0 :: cs) (h : ∀ c ∈ cs, c ≠ 108) : z ≠ zzS := fun q => by
  have e2 : zzS.cps.toList = [122, 122, 95, 108, 97, 115, 116] := by decide +kernel
  rw [q, e2] at e
  injection e with _ e
  exact h 108 (by rw [← e]; decide) rfl
theorem badPar_no {hs : HS} : ∀ {ds seen : List Str}, (∀ x ∈ ds, x ∈ hNames hs) → ds.Nodup → (∀ x ∈ ds, x ∉ seen) → badPar hs (seen.map .str) (ds.map .str) = none
  | [], _, _, _, _ => rfl
  | x :: r, seen, h1, h2, h3 => by
    have hk : keptB hs (.str x) = true := decide_eq_true (h1 x (by simp))
    have hn : ((seen.map Dt.str).any fun y => deq y (.str x)) = false := by
      rw [List.any_eq_false]
      rintro y hy e
      obtain ⟨t, ht, rfl⟩ := List.mem_map.mp hy
      rw [deq_str] at e
      exact h3 x (by simp) (of_decide_eq_true e ▸ ht)
    rw [List.map_cons, badPar, hk, hn, if_pos (by decide)]
    have := badPar_no (ds := r) (seen := seen ++ [x]) (fun y hy => h1 y (List.mem_cons_of_mem _ hy)) (List.nodup_cons.mp h2).2 (fun y hy hm => ?_)
    · rw [List.map_append] at this
      exact this
    · rw [List.mem_append, List.mem_singleton] at hm
      rcases hm with hm | rfl
      · exact h3 y (List.mem_cons_of_mem _ hy) hm
      · exact (List.nodup_cons.mp h2).1 hy
theorem badAdd_no {hs : HS} {s : Str} {ps : List Str} (h1 : nameS (.str s) = true) (h2 : s ∉ hNames hs) (h3 : ∀ q ∈ ps, q ∈ hNames hs) (h4 : ps.Nodup) : badAdd hs (.str s) (.lst (ps.map .str)) = none := by
  unfold badAdd
  rw [h1, if_neg (by decide), show keptB hs (.str s) = false from decide_eq_false h2, if_neg (by decide)]
  rw [show badPars hs (.lst (ps.map .str)) = none from badPar_no (seen := []) h3 h4 (by simp)]
  rfl
theorem hNames_take (hs : HS) (i : Nat) : hNames (hs.take i) = (hNames hs).take i := by unfold hNames; rw [List.map_take]
theorem hNames_at {hs : HS} {i : Nat} {s : Str} {ps : List Str} (h : hs[i]? = some (s, ps)) : (hNames hs)[i]? = some s := by unfold hNames; rw [List.getElem?_map, h]; rfl
theorem POk.fresh {hs : HS} (h : POk hs) {i : Nat} {s : Str} {ps : List Str} (e : hs[i]? = some (s, ps)) : s ∉ hNames (hs.take i) := fun q => by
  have hn : s ∈ (hNames hs).take i := by rw [← hNames_take]; exact q
  obtain ⟨j, hj⟩ := List.mem_iff_getElem?.mp hn
  have hji : j < i := by
    have := (List.getElem?_eq_some_iff.mp hj).1
    rw [List.length_take] at this
    omega
  rw [List.getElem?_take, if_pos hji] at hj
  have hij := hNames_at e
  have hjl := (List.getElem?_eq_some_iff.mp hj).1
  have := (List.getElem?_inj hjl h.nd).mp (hj.trans hij.symm)
  omega
theorem POk.no {hs : HS} (h : POk hs) {i : Nat} {s : Str} {ps : List Str} (e : hs[i]? = some (s, ps)) : badAdd (hs.take i) (.str s) (.lst (ps.map .str)) = none :=
  badAdd_no (h.nm s (List.mem_of_getElem? (hNames_at e))) (h.fresh e) (h.up i s ps e) (h.pnd i s ps e)
theorem hs_inj : ∀ {ps qs : List Str}, ps.map Dt.str = qs.map Dt.str → ps = qs := fun h => by
  have : (List.map Dt.str _).map strD = (List.map Dt.str _).map strD := congrArg (List.map strD) h
  rwa [List.map_map, List.map_map, show (strD ∘ Dt.str) = id from rfl, List.map_id, List.map_id] at this
theorem POk.snoc {hs : HS} (h : POk hs) {s : Str} {ps : List Str} (h1 : nameS (.str s) = true) (h2 : s ∉ hNames hs) (h3 : ∀ q ∈ ps, q ∈ hNames hs) (h4 : ps.Nodup) (h5 : ps.length ≤ 3) (hl : hs.length ≤ 14) : POk (hs ++ [(s, ps)]) := by
  have key : ∀ (i : Nat) n qs, (hs ++ [(s, ps)])[i]? = some (n, qs) → hs[i]? = some (n, qs) ∨ qs = ps := fun i n qs e => by
    rcases Nat.lt_or_ge i hs.length with hi | hi
    · rw [List.getElem?_append_left hi] at e
      exact .inl e
    · rw [List.getElem?_append_right hi] at e
      have := List.mem_of_getElem? e
      rw [List.mem_singleton] at this
      exact .inr (congrArg Prod.snd this)
  refine ⟨h.toHOk.snoc h2 h3 (by omega), fun t ht => ?_, fun i n qs e => ?_, fun i n qs e => ?_, by rw [List.length_append]; simp; omega⟩
  · unfold hNames at ht
    rw [List.map_append, List.mem_append] at ht
    rcases ht with ht | ht
    · exact h.nm t ht
    · simp at ht
      rw [ht]
      exact h1
  · rcases key i n qs e with e | rfl
    · exact h.pnd i n qs e
    · exact h4
  · rcases key i n qs e with e | rfl
    · exact h.p3 i n qs e
    · exact h5
theorem POk.nil : POk [] := ⟨.nil, by simp [hNames], by simp, by simp, by simp⟩
theorem hNames_snoc (hs : HS) (s : Str) (ps : List Str) : hNames (hs ++ [(s, ps)]) = hNames hs ++ [s] := by unfold hNames; rw [List.map_append]; rfl
theorem rowsD_snoc (hs : HS) (s : Str) (ps : List Str) : rowsD (hs ++ [(s, ps)]) = rowsD hs ++ [.tup [.str s, .lst (ps.map .str)]] := by unfold rowsD; rw [List.map_append]; rfl
theorem any_strs {acc : List Str} {z : Str} : ((acc.map Dt.str).any fun e => deq e (.str z)) = decide (z ∈ acc) := by
  rw [Bool.eq_iff_iff, List.any_eq_true, decide_eq_true_iff]
  constructor
  · rintro ⟨x, hx, e⟩
    obtain ⟨u, hu, rfl⟩ := List.mem_map.mp hx
    rw [deq_str] at e
    exact of_decide_eq_true e ▸ hu
  · exact fun h => ⟨_, List.mem_map.mpr ⟨z, h, rfl⟩, by rw [deq_str]; exact decide_eq_true rfl⟩
theorem in_strs (acc : List Str) (z : Str) : RIn (.str z) (.lst (acc.map .str)) (.bl (decide (z ∈ acc))) := by
  rw [in_lst 0 0 (a := .str z) trivial (by decide) (fun e he => by obtain ⟨u, _, rfl⟩ := List.mem_map.mp he; exact trivial), any_strs]
theorem rowsD_len (hs : HS) : (rowsD hs).length = hs.length := List.length_map _
theorem rows_get {hs : HS} {i : Nat} {x : Dt} (h : (rowsD hs)[i]? = some x) : ∃ s ps, hs[i]? = some (s, ps) ∧ x = .tup [.str s, .lst (ps.map .str)] := by
  unfold rowsD at h
  rw [List.getElem?_map] at h
  obtain ⟨⟨s, ps⟩, hq, e⟩ := Option.map_eq_some_iff.mp h
  exact ⟨s, ps, hq, e.symm⟩
structure LInv (all ls ps : List Str) : Prop where
  nl : ls.Nodup
  np : ps.Nodup
  ml : ∀ x ∈ ls, x ∈ all
  mp : ∀ x ∈ ps, x ∈ all
  df : ∀ x ∈ ls, x ∉ ps
theorem LInv.pop {all ls ps : List Str} {k : Nat} {x : Str} (h : LInv all ls ps) (e : ls[k]? = some x) : LInv all (ls.eraseIdx k) (ps ++ [x]) := by
  have hx : x ∈ ls := List.mem_of_getElem? e
  have sub : ∀ y ∈ ls.eraseIdx k, y ∈ ls := fun y hy => List.mem_of_mem_eraseIdx hy
  refine ⟨h.nl.eraseIdx k, ?_, fun y hy => h.ml y (sub y hy), fun y hy => ?_, fun y hy hm => ?_⟩
  · rw [List.nodup_append]
    refine ⟨h.np, by simp, fun a ha b hb e => ?_⟩
    simp at hb
    rw [e, hb] at ha
    exact h.df x hx ha
  · rw [List.mem_append, List.mem_singleton] at hy
    rcases hy with hy | rfl
    · exact h.mp y hy
    · exact h.ml _ hx
  · rw [List.mem_append, List.mem_singleton] at hm
    rcases hm with hm | rfl
    · exact h.df y (sub y hy) hm
    · obtain ⟨i, hik, hi⟩ := List.mem_eraseIdx_iff_getElem?.mp hy
      have hil := (List.getElem?_eq_some_iff.mp hi).1
      exact hik ((List.getElem?_inj hil h.nl).mp (hi.trans e.symm))
theorem map_erase {α β : Type} (f : α → β) : ∀ (l : List α) (k : Nat), (l.map f).eraseIdx k = (l.eraseIdx k).map f
  | [], _ => rfl
  | _ :: _, 0 => rfl
  | a :: r, k + 1 => by
    simp only [List.map_cons, List.eraseIdx_cons_succ, map_erase f r k]
theorem nd_take {α : Type} {l : List α} {i : Nat} {x : α} (h : l.Nodup) (e : l[i]? = some x) : x ∉ l.take i := fun q => by
  obtain ⟨j, hj⟩ := List.mem_iff_getElem?.mp q
  have hji : j < i := by
    have := (List.getElem?_eq_some_iff.mp hj).1
    rw [List.length_take] at this
    omega
  rw [List.getElem?_take, if_pos hji] at hj
  have := (List.getElem?_inj (List.getElem?_eq_some_iff.mp hj).1 h).mp (hj.trans e.symm)
  omega
theorem seq_nat {q n : Nat} (h : q < n) : seqIndex? (q : Int) n = some q := by
  unfold seqIndex?
  simp
  omega
theorem rowsD_inj : ∀ {hs hs' : HS}, rowsD hs = rowsD hs' → hs = hs'
  | [], [], _ => rfl
  | [], _ :: _, h => by simp [rowsD] at h
  | _ :: _, [], h => by simp [rowsD] at h
  | (a, ps) :: r, (b, qs) :: r', h => by
    have h := h
    unfold rowsD at h
    simp only [List.map_cons, List.cons.injEq, Dt.tup.injEq, Dt.str.injEq, Dt.lst.injEq, and_true] at h
    obtain ⟨⟨rfl, h2⟩, h3⟩ := h
    rw [hs_inj h2, rowsD_inj (hs := r) (hs' := r') h3]
theorem rows_at {hs : HS} {a : Int} (h0 : 0 ≤ a) (h1 : a < (rowsD hs).length) : ∃ (s : Str) (ps : List Str), s ∈ hNames hs ∧ atI (rowsD hs) a = some (.tup [.str s, .lst (ps.map .str)]) := by
  obtain ⟨k, rfl⟩ := Int.eq_ofNat_of_zero_le h0
  have hk : k < hs.length := by rw [rowsD_len] at h1; omega
  rcases e : hs[k] with ⟨s, ps⟩
  have e2 : hs[k]? = some (s, ps) := by rw [List.getElem?_eq_getElem hk, e]
  refine ⟨s, ps, List.mem_of_getElem? (hNames_at e2), atI_nat ?_⟩
  unfold rowsD
  rw [List.getElem?_map, e2]
  rfl
theorem rows_last {hs : HS} (h : hs ≠ []) : ∃ (s : Str) (ps : List Str), s ∈ hNames hs ∧ atI (rowsD hs) (-1) = some (.tup [.str s, .lst (ps.map .str)]) := by
  have hl : 0 < hs.length := List.length_pos_iff.mpr h
  rcases e : hs[hs.length - 1] with ⟨s, ps⟩
  have e2 : hs[hs.length - 1]? = some (s, ps) := by rw [List.getElem?_eq_getElem (by omega), e]
  refine ⟨s, ps, List.mem_of_getElem? (hNames_at e2), at_last ?_⟩
  unfold rowsD
  rw [List.getLast?_map, List.getLast?_eq_getElem?, e2]
  rfl
def S_lnames (m : Nat) : Spc := Spf (A := List Str × Dt) (fun as => ∃ (w : Dt) (n : Nat), as = [.dt w, .dt (.int (n : Int))] ∧ wOk w ∧ cnt w < 2000000 ∧ n ≤ m) (fun as p => match as with
  | [.dt w, .dt (.int n)] => wOk p.2 ∧ cnt p.2 ≤ cnt w + 20 * n ∧ (p.1.length : Int) = n ∧ p.1.Nodup ∧ (∀ s ∈ p.1, nameS (.str s) = true) ∧ ∀ s ∈ p.1, s ≠ zzS
  | _ => False) (fun _ p => .nw (.lst (p.1.map .str))) fun _ p => [.dt p.2]
def S_lplan (m : Nat) : Spc := Spf (A := HS × Dt) (fun as => ∃ (w : Dt) (n : Nat), as = [.dt w, .dt (.int (n : Int))] ∧ wOk w ∧ cnt w < 1000000 ∧ 1 ≤ n ∧ n ≤ m) (fun as p => match as with
  | [.dt w, .dt (.int n)] => wOk p.2 ∧ cnt p.2 ≤ cnt w + 1 + 40 * n ∧ p.1 ≠ [] ∧ (p.1.length : Int) ≤ n ∧ POk p.1 ∧ ∀ s ∈ hNames p.1, s ≠ zzS
  | _ => False) (fun _ p => .nw (.lst (rowsD p.1))) fun _ p => [.dt p.2]
theorem Reach.trans {hs : HS} {a b c : Str} (h : Reach hs a b) (h2 : Reach hs b c) : Reach hs a c := by
  induction h2 with
  | refl => exact h
  | step _ e m ih => exact .step ih e m
theorem reach_left {hs : HS} {s k : Str} {ps : List Str} (e : hget hs s = some ps) : Reach hs s k ↔ k = s ∨ ∃ p ∈ ps, Reach hs p k := by
  constructor
  · intro h
    induction h with
    | refl => exact .inl rfl
    | step _ e2 m ih =>
      rcases ih with rfl | ⟨p, hp, r⟩
      · rw [e] at e2
        cases e2
        exact .inr ⟨_, m, .refl _⟩
      · exact .inr ⟨p, hp, .step r e2 m⟩
  · rintro (rfl | ⟨p, hp, r⟩)
    · exact .refl _
    · exact Reach.trans (.step (.refl _) e hp) r
theorem HOk.hget_eq {hs : HS} (h : HOk hs) {i : Nat} {s : Str} {ps : List Str} (e : hs[i]? = some (s, ps)) : hget hs s = some ps := by
  obtain ⟨qs, hq⟩ := hget_some (hs := hs) (s := s) (List.mem_of_getElem? (hNames_at e))
  obtain ⟨j, hj⟩ := hget_at hq
  have h1 := hNames_at e
  have h2 := hNames_at hj
  have := (List.getElem?_inj (List.getElem?_eq_some_iff.mp h1).1 h.nd).mp (h1.trans h2.symm)
  subst this
  rw [e] at hj
  cases hj
  exact hq
theorem AllOf.len {hs : HS} (h : HOk hs) {s : Str} {ys : List Str} (a : AllOf hs s ys) (hs' : s ∈ hNames hs) : ys.length ≤ hs.length := by
  have := nd_len a.nd (m := hNames hs) fun x hx => reach_in h ((a.mem x).mp hx) hs'
  unfold hNames at this
  rwa [List.length_map] at this
/-- what each change has, of the first ones -/
structure CloI (hs cl : HS) (i : Nat) : Prop where
  nm : hNames cl = (hNames hs).take i
  al : ∀ (j : Nat) n ys, cl[j]? = some (n, ys) → AllOf hs n ys
abbrev Clo (hs cl : HS) : Prop := CloI hs cl hs.length
theorem CloI.nil {hs : HS} : CloI hs [] 0 := ⟨rfl, by simp⟩
theorem CloI.len {hs cl : HS} {i : Nat} (h : CloI hs cl i) : cl.length ≤ hs.length := by
  have := congrArg List.length h.nm
  unfold hNames at this
  rw [List.length_map, List.length_take, List.length_map] at this
  omega
theorem CloI.get {hs cl : HS} {i : Nat} (h : CloI hs cl i) {s : Str} (hm : s ∈ (hNames hs).take i) : ∃ ys, hget cl s = some ys ∧ AllOf hs s ys := by
  obtain ⟨ys, hy⟩ := hget_some (hs := cl) (s := s) (by rw [h.nm]; exact hm)
  obtain ⟨j, hj⟩ := hget_at hy
  exact ⟨ys, hy, h.al j s ys hj⟩
theorem CloI.snoc {hs cl : HS} {i : Nat} {s : Str} {ps ys : List Str} (h : CloI hs cl i) (e : hs[i]? = some (s, ps)) (a : AllOf hs s ys) : CloI hs (cl ++ [(s, ys)]) (i + 1) := by
  refine ⟨by rw [hNames_snoc, h.nm, take_succ_at (hNames_at e)], fun j n zs hj => ?_⟩
  rcases Nat.lt_or_ge j cl.length with hi | hi
  · rw [List.getElem?_append_left hi] at hj
    exact h.al j n zs hj
  · rw [List.getElem?_append_right hi] at hj
    have := List.mem_of_getElem? hj
    rw [List.mem_singleton] at this
    cases this
    exact a
/-- what is gathered of a change and of some of its parents -/
structure Gat (hs : HS) (s : Str) (qs fs : List Str) : Prop where
  mem : ∀ k, k ∈ fs ↔ k = s ∨ ∃ p ∈ qs, Reach hs p k
  len : fs.length ≤ 1 + 15 * qs.length
theorem Gat.start {hs : HS} {s : Str} : Gat hs s [] [s] := ⟨fun k => by simp, by simp⟩
theorem Gat.put {hs : HS} (ho : POk hs) {s q : Str} {qs fs ys : List Str} (h : Gat hs s qs fs) (a : AllOf hs q ys) (hq : q ∈ hNames hs) : Gat hs s (qs ++ [q]) (fs ++ ys) := by
  have hl := a.len ho.toHOk hq
  have h15 := ho.l15
  have hfl := h.len
  refine ⟨fun k => ?_, by rw [List.length_append, List.length_append, List.length_singleton]; omega⟩
  rw [List.mem_append, h.mem, a.mem]
  constructor
  · rintro ((h | ⟨p, hp, r⟩) | h)
    · exact .inl h
    · exact .inr ⟨p, List.mem_append_left _ hp, r⟩
    · exact .inr ⟨q, by simp, h⟩
  · rintro (h | ⟨p, hp, r⟩)
    · exact .inl (.inl h)
    · rw [List.mem_append, List.mem_singleton] at hp
      rcases hp with hp | rfl
      · exact .inl (.inr ⟨p, hp, r⟩)
      · exact .inr r
theorem Gat.all {hs : HS} {s : Str} {ps fs ys : List Str} (h : Gat hs s ps fs) (e : hget hs s = some ps) (h1 : sortedS ys = true) (h2 : ys.Nodup) (h3 : ∀ k, k ∈ ys ↔ k ∈ fs) : AllOf hs s ys :=
  ⟨h1, h2, fun k => (h3 k).trans ((h.mem k).trans (reach_left e).symm)⟩
theorem kd_hk (cl : HS) : kD (hk cl) = (hNames cl).map .str := hk_keys cl
theorem Clo.nm' {hs cl : HS} (h : Clo hs cl) : hNames cl = hNames hs := by
  have := h.nm
  rwa [show hs.length = (hNames hs).length from (List.length_map _).symm, List.take_length] at this
def S_lclo : Spc := Spf (A := HS × HS) (fun as => ∃ hs, as = [.dt (.lst (rowsD hs))] ∧ POk hs) (fun as p => as = [.dt (.lst (rowsD p.1))] ∧ Clo p.1 p.2) (fun _ p => .nw (.dct (hk p.2))) fun _ _ => []
def S_ltold (C : Addr) : Spc := Spf (A := Unit) (fun as => ∃ p hs cl, as = [histC C p hs, .dt (.dct (hk cl))] ∧ POk hs ∧ Clo hs cl) (fun _ _ => True) (fun _ _ => .d (.bl true)) fun as _ => as.take 1
def S_lhist (C : Addr) : Spc := Spf (A := Addr × HS) (fun as => ∃ hs, as = [.dt (.lst (rowsD hs))] ∧ POk hs) (fun as p => as = [.dt (.lst (rowsD p.2))]) (fun _ p => .nc (histC C p.1 p.2)) fun _ _ => []

abbrev s_NoChange_init : Stmt := inClass (top 5) 0
theorem sc_NoChange_init : FnScope ["self", "name"] ["self", "name"] (defScope s_NoChange_init) := ⟨rfl, rfl, rfl, by decide +kernel, rfl, by decide +kernel, by decide +kernel⟩
theorem ok_NoChange_init {P : Program} {w : World} {K : PySem.W.Frag} {mg : Str → Option Value} {base : Heap} {f c_F c_X : Addr} {fd : FuncData} (T : OexC K c_X) (nf : PySem.W.findIn K (.ref c_X) "name" = some none) (T0 : FinC K c_F) (gF : mg "FellError" = some (.ref c_F)) (F : Fun K "__init__" "NoChange.__init__" s_NoChange_init f fd) :
    FnOk P w K mg base CX0 1 f fd ["self", "name"] (spFin K c_X "name") := by
  refine F.ok sc_NoChange_init (fun vs H Q E h => spFin_len h) (fun cdv A outer s H vs Q E hr h => ?_)
  refine ⟨_, pss_cons (ps_expr (pe_finit T0 rfl gF (pa_cons (pv 0) (pa_cons pe_str pa_nil)))) (pss_one (ps_ost (pv 0) (pv 1))), ?_⟩
  obtain ⟨a, v, rfl, e, q⟩ := id h
  exact fin_body T nf h
abbrev s_NoName_init : Stmt := inClass (top 3) 0
theorem sc_NoName_init : FnScope ["self", "name"] ["self", "name"] (defScope s_NoName_init) := ⟨rfl, rfl, rfl, by decide +kernel, rfl, by decide +kernel, by decide +kernel⟩
theorem ok_NoName_init {P : Program} {w : World} {K : PySem.W.Frag} {mg : Str → Option Value} {base : Heap} {f c_F c_X : Addr} {fd : FuncData} (T : OexC K c_X) (nf : PySem.W.findIn K (.ref c_X) "name" = some none) (T0 : FinC K c_F) (gF : mg "FellError" = some (.ref c_F)) (F : Fun K "__init__" "NoName.__init__" s_NoName_init f fd) :
    FnOk P w K mg base CX0 1 f fd ["self", "name"] (spFin K c_X "name") := by
  refine F.ok sc_NoName_init (fun vs H Q E h => spFin_len h) (fun cdv A outer s H vs Q E hr h => ?_)
  refine ⟨_, pss_cons (ps_expr (pe_finit T0 rfl gF (pa_cons (pv 0) (pa_cons pe_str pa_nil)))) (pss_one (ps_ost (pv 0) (pv 1))), ?_⟩
  obtain ⟨a, v, rfl, e, q⟩ := id h
  exact fin_body T nf h
abbrev s_Taken_init : Stmt := inClass (top 4) 0
theorem sc_Taken_init : FnScope ["self", "name"] ["self", "name"] (defScope s_Taken_init) := ⟨rfl, rfl, rfl, by decide +kernel, rfl, by decide +kernel, by decide +kernel⟩
theorem ok_Taken_init {P : Program} {w : World} {K : PySem.W.Frag} {mg : Str → Option Value} {base : Heap} {f c_F c_X : Addr} {fd : FuncData} (T : OexC K c_X) (nf : PySem.W.findIn K (.ref c_X) "name" = some none) (T0 : FinC K c_F) (gF : mg "FellError" = some (.ref c_F)) (F : Fun K "__init__" "Taken.__init__" s_Taken_init f fd) :
    FnOk P w K mg base CX0 1 f fd ["self", "name"] (spFin K c_X "name") := by
  refine F.ok sc_Taken_init (fun vs H Q E h => spFin_len h) (fun cdv A outer s H vs Q E hr h => ?_)
  refine ⟨_, pss_cons (ps_expr (pe_finit T0 rfl gF (pa_cons (pv 0) (pa_cons pe_str pa_nil)))) (pss_one (ps_ost (pv 0) (pv 1))), ?_⟩
  obtain ⟨a, v, rfl, e, q⟩ := id h
  exact fin_body T nf h
/-! #### is_name -/
abbrev s_is_name : Stmt := top 9
abbrev N_is_name : List Str := ["thing", "sign"]
abbrev P_is_name : List Str := ["thing"]
abbrev ms_is_name : List Md := [.v]
theorem sc_is_name : FnScope N_is_name P_is_name (defScope s_is_name) := ⟨rfl, rfl, rfl, by decide +kernel, rfl, by decide +kernel, by decide +kernel⟩
theorem ok_is_name {P : Program} {w : World} {K : PySem.W.Frag} {mg : Str → Option Value} {base : Heap} {f : Addr} {fd : FuncData} {c_FellError c_NoName c_Taken c_NoChange c_History : Addr} (G : Gs K mg c_FellError c_NoName c_Taken c_NoChange c_History) (X_NoChange : ExO P w K mg base "NoChange" c_NoChange "name") (X_NoName : ExO P w K mg base "NoName" c_NoName "name") (X_Taken : ExO P w K mg base "Taken" c_Taken "name") (K_History : ClF K mg "History" c_History) (nA_History_parents : NoAttr K c_History "parents") (F : Fun K "is_name" "is_name" s_is_name f fd) (mf : mg "is_name" = some (.ref f)) :
    Hs P w K mg base CX0 1 "is_name" P_is_name (toSp K ms_is_name (S_is_name)) := by
  obtain ⟨t_LETTERS, g_LETTERS⟩ := G.c_LETTERS
  obtain ⟨t_MOST_NAME, g_MOST_NAME⟩ := G.c_MOST_NAME
  refine ⟨f, fd, ?_, mf, F.kp, F.binds (ps := P_is_name) fun _ _ _ _ _ _ us hl => match us, hl with | [_], _ => rfl⟩
  refine F.ok sc_is_name (fun vs H Q E h => toSp_len h) (fun cdv A outer s H vs Q E hr h => ?_)
  have hu := hr.units
  refine ⟨_, pss_cons (ps_if (PW.pt (pw_or (pt_not (pt_val (pe_callB call_isi rfl G.b_isinstance (by decide +kernel) (pa_cons (pv 0) (pa_cons (pe_bltn (v := .ty "str") (u := .type "str") rfl G.b_str (by decide +kernel) rfl) (pa_nil)))))) (pw_or (pt_not (pt_chain (op_le) (op_le) (pe_int) (pe_callB call_len rfl G.b_len (by decide +kernel) (pa_cons (pv 0) (pa_nil))) (pe_glob (v := .int 12) rfl g_MOST_NAME ⟨_, rfl⟩))) (pw_or1 (pt_cmpR ((op_notInA hu)) (pe_ix ix_seq (pv 0) (pe_int) (fun _ _ => rfl)) (pe_glob (v := .str "abcdefghijklmnopqrstuvwxyz") rfl g_LETTERS ⟨_, rfl⟩) (by rfl)))))) (pss_one (ps_ret (pe_bl))) (pss_nil)) (pss_one (ps_ret (pe_callB (cr_all rfl) rfl G.b_all (by decide +kernel) (pa_cons (pe_lc (own := [("sign", 1)]) (tt := tYes) rfl sc_is_name.nd (pi_str (pv 0)) (blkOk_by (N := N_is_name) (sc := defScope s_is_name) (by decide +kernel)) (fun _ _ _ _ _ => pg_name (i := 1) sc_is_name.nd rfl (by first | exact Or.inl rfl | exact Or.inr rfl | exact .inr (.inl rfl) | exact .inr (.inr rfl))) (fun _ _ _ _ _ => pts_nil) (fun _ _ _ _ _ => pe_or (pe_cmpR ((show OpR _ _ (rInA K) from op_inA hu)) (pv 1) (pe_glob (v := .str "abcdefghijklmnopqrstuvwxyz") rfl g_LETTERS ⟨_, rfl⟩) (by rfl)) (pe_one (pe_cmpR ((show OpR _ _ (rEqA K) from op_eqA hu)) (pv 1) (pe_str) (nomark _))))) (pa_nil))))), ?_⟩
  refine run_body0 h (by decide) (fun as => ds_seq (ds_if (dt_or (dt_not (dt_B (de_cb (dc_isi) (da_cons (de_var 0) (da_cons (de_ty) (da_nil)))))) (dt_or (dt_not (dt_test (de_chain p2_ib p2_ib (de_int) (de_cb (dc_F1 f1_len) (da_cons (de_var 0) (da_nil))) (de_int)))) (dt_test (de_op (d2_P p2_notIn) (de_op (d2_P p2_ix) (de_var 0) (de_int)) (de_str))))) (ds_ret (de_bl)) (ds_next)) (ds_ret (de_cb (dc_F1 f1_all) (da_cons (de_lc (vs := [1]) (di_str (de_var 0)) (dg_name 1) (dt_yes) (de_orV (de_op (d2_P p2_in) (de_var 1) (de_str)) (de_op (d2_P p2_eq) (de_var 1) (de_str))) (by decide)) (da_nil))))) (fun as hp hl => ?_)
  obtain ⟨d, rfl, hd, hs⟩ := hp
  simp (maxSteps := 3000000) only [rPar, rParM, riRange3, roI2, rLcO_L, isN_eq, notN_eq, rSlTu, riZip, riZipO, riListO, rMinDef, rFldG, rSetFG, rDGet, rDIn, rDPut, roLenD, roListD, roSortD, rAsgStar, rForK_L, rDisp1, rSortST, rMakeC_f, kD, vD, iD, keyDt, own, wr, gput, gfind, keyD, keyDt, id_eq, roSplit, roStr1, rSlSt, rSlBy, rRevL, TruD, rOrT, rAndT, rMake_g, roCatA, roRep, rMeth_f, rMeth_g, roOwnB_f, MakeQ_g, rMakeK, roIsC, isC_ins, rFld, rSetF, rXfn, rXf, lk_eq, putD, Dt.ins.injEq, Dt.exn.injEq, RleS, RMulS, RMulZ, roJoin, rRet, rRetN, rSeq, rIfS, rAsg, rVar, ofEn, rC, rOp, rUn, roP, rCB, rCons, rNil, rAndV, rOrV, rNotV, rB, rAnd, rOr, rNot, rIf, rTup, rLst, rDrop, rNext, rNever, look, frz, frzs, looks, held, roIsi, roF1, roL1, roNeg, rDNew, startE, ents, ent, csOf, unal, finds, RI0, RI, int_in, int_bl, len_ls, len_tu, len_st, len_by, at0, at1, at2, at3, ix30, ix31, ix32, eq_ii, ne_ii, eq_by, ne_by, notin_c, in_c, D.rChain, RIxA, roTupOf, RListOf, RListB, List.findSome?, List.getElem?_cons_zero, List.getElem?_cons_succ, List.getElem?_nil, List.set_cons_zero, List.set_cons_succ, List.length_cons, List.length_nil, List.map_cons, List.map_nil, List.replicate, List.nil_append, List.cons_append, List.append_nil, Option.some.injEq, exists_eq_left', exists_eq_left, exists_eq', exists_eq, true_and, and_true, Vl.d.injEq, Vl.nw.injEq, Vl.sl.injEq, Dt.int.injEq, Dt.bl.injEq, Dt.str.injEq, Dt.lst.injEq, Dt.tup.injEq, Dt.byt.injEq, Dt.ty.injEq, Dt.ref.injEq, En.val.injEq, En.mu.injEq, En.bor.injEq, List.cons.injEq, Nat.reduceLT, Nat.reduceAdd, Nat.reduceSub, Nat.zero_add, and_self, ↓reduceIte, Bool.false_eq_true, reduceCtorEq, false_and, and_false, exists_const, exists_false, or_false, false_or, Nat.reduceEqDiff, Option.map_some, Option.getD_some, Option.getD_none, and_assoc, exists_and_left, exists_and_right, rCall_f, rCall_g, f_pre, f_post, g_pre, g_post, g_exc, Prod.forall, Prod.exists, Prod.mk.injEq, exists_const, forall_const, argsD, conP, entD, remP, flagsP, flagAt, putP, aft, Ct.dt.injEq, forall_eq, forall_eq', forall_const, implies_true, false_implies, and_imp, forall_exists_index, forall_apply_eq_imp_iff, List.length_append, retD, rFor_L, asgLc, rLc_L, riList, riTup, riStr, riRange1, riRange2, riEnum, riRev, rgName, rgTup, rgCons, rgNil, wipeE, unw, rYes, rAsgG, rAsgSub, roSetL, rBM, rBM0, roAppend, roOwn0, isa_no, isa_bl, isa_in, isa_st, isa_by, isa_ls, isa_tu, isa_di, beq_self_eq_true, Bool.or_true, Bool.true_or, Bool.or_false, Bool.false_or, Bool.or_self, Bool.not_true, Bool.not_false, Bool.and_true, Bool.true_and, Bool.and_false, Bool.false_and, String.reduceBEq, String.reduceEq, not_true_eq_false, not_false_eq_true, rSlL', roNone, roSome, roCat, D.trk, rRaise0, rRaise1, excD, rTry, rEx, wMixD, goneD, List.isEmpty_nil, if_true, List.length_singleton, Nat.reduceLeDiff, Nat.reducePow, Int.reducePow, Int.reduceLT, Int.reduceLE, Int.reduceNeg, Int.reduceToNat, ms_is_name, hd, S_is_name, inKinds]
  by_cases ht : ∃ s, d = .str s
  · obtain ⟨s, rfl⟩ := ht
    have hl := hs s rfl
    simp (maxSteps := 3000000) only [rPar, rParM, riRange3, roI2, rLcO_L, isN_eq, notN_eq, rSlTu, riZip, riZipO, riListO, rMinDef, rFldG, rSetFG, rDGet, rDIn, rDPut, roLenD, roListD, roSortD, rAsgStar, rForK_L, rDisp1, rSortST, rMakeC_f, kD, vD, iD, keyDt, own, wr, gput, gfind, keyD, keyDt, id_eq, roSplit, roStr1, rSlSt, rSlBy, rRevL, TruD, rOrT, rAndT, rMake_g, roCatA, roRep, rMeth_f, rMeth_g, roOwnB_f, MakeQ_g, rMakeK, roIsC, isC_ins, rFld, rSetF, rXfn, rXf, lk_eq, putD, Dt.ins.injEq, Dt.exn.injEq, RleS, RMulS, RMulZ, roJoin, rRet, rRetN, rSeq, rIfS, rAsg, rVar, ofEn, rC, rOp, rUn, roP, rCB, rCons, rNil, rAndV, rOrV, rNotV, rB, rAnd, rOr, rNot, rIf, rTup, rLst, rDrop, rNext, rNever, look, frz, frzs, looks, held, roIsi, roF1, roL1, roNeg, rDNew, startE, ents, ent, csOf, unal, finds, RI0, RI, int_in, int_bl, len_ls, len_tu, len_st, len_by, at0, at1, at2, at3, ix30, ix31, ix32, eq_ii, ne_ii, eq_by, ne_by, notin_c, in_c, D.rChain, RIxA, roTupOf, RListOf, RListB, List.findSome?, List.getElem?_cons_zero, List.getElem?_cons_succ, List.getElem?_nil, List.set_cons_zero, List.set_cons_succ, List.length_cons, List.length_nil, List.map_cons, List.map_nil, List.replicate, List.nil_append, List.cons_append, List.append_nil, Option.some.injEq, exists_eq_left', exists_eq_left, exists_eq', exists_eq, true_and, and_true, Vl.d.injEq, Vl.nw.injEq, Vl.sl.injEq, Dt.int.injEq, Dt.bl.injEq, Dt.str.injEq, Dt.lst.injEq, Dt.tup.injEq, Dt.byt.injEq, Dt.ty.injEq, Dt.ref.injEq, En.val.injEq, En.mu.injEq, En.bor.injEq, List.cons.injEq, Nat.reduceLT, Nat.reduceAdd, Nat.reduceSub, Nat.zero_add, and_self, ↓reduceIte, Bool.false_eq_true, reduceCtorEq, false_and, and_false, exists_const, exists_false, or_false, false_or, Nat.reduceEqDiff, Option.map_some, Option.getD_some, Option.getD_none, and_assoc, exists_and_left, exists_and_right, rCall_f, rCall_g, f_pre, f_post, g_pre, g_post, g_exc, Prod.forall, Prod.exists, Prod.mk.injEq, exists_const, forall_const, argsD, conP, entD, remP, flagsP, flagAt, putP, aft, Ct.dt.injEq, forall_eq, forall_eq', forall_const, implies_true, false_implies, and_imp, forall_exists_index, forall_apply_eq_imp_iff, List.length_append, retD, rFor_L, asgLc, rLc_L, riList, riTup, riStr, riRange1, riRange2, riEnum, riRev, rgName, rgTup, rgCons, rgNil, wipeE, unw, rYes, rAsgG, rAsgSub, roSetL, rBM, rBM0, roAppend, roOwn0, isa_no, isa_bl, isa_in, isa_st, isa_by, isa_ls, isa_tu, isa_di, beq_self_eq_true, Bool.or_true, Bool.true_or, Bool.or_false, Bool.false_or, Bool.or_self, Bool.not_true, Bool.not_false, Bool.and_true, Bool.true_and, Bool.and_false, Bool.false_and, String.reduceBEq, String.reduceEq, not_true_eq_false, not_false_eq_true, rSlL', roNone, roSome, roCat, D.trk, rRaise0, rRaise1, excD, rTry, rEx, wMixD, goneD, List.isEmpty_nil, if_true, List.length_singleton, Nat.reduceLeDiff, Nat.reducePow, Int.reducePow, Int.reduceLT, Int.reduceLE, Int.reduceNeg, Int.reduceToNat]
    refine ⟨by omega, ?_⟩
    by_cases h1 : 1 ≤ s.length
    · rw [if_pos (decide_eq_true (by omega : (1 : Int) ≤ s.length))]
      by_cases h2 : s.length ≤ 12
      · rw [decide_eq_true (by omega : (s.length : Int) ≤ 12)]
        simp only [Bool.not_true, Bool.false_eq_true, if_false]
        have hz : s.length = s.cps.toList.length := by rw [Array.length_toList]; rfl
        obtain ⟨c0, hc0, hcm⟩ := at_ix (l := s.cps.toList) (i := 0) (by decide) (by omega)
        refine ⟨by omega, _, ⟨c0, hc0, rfl⟩, .bl (!letC c0), by rw [notin_c]; rfl, _, rfl, ?_⟩
        have hcm : s.cps.toList[0]? = some c0 := hcm
        rw [name_eq hcm]
        cases hlet : letC c0 with
        | false => simp
        | true =>
          simp only [Bool.not_true, Bool.false_eq_true, if_false]
          refine lc_map (fun i acc η' => η' = [some (.val (.str s)), none] ∧ acc = (s.cps.toList.take i).map fun c => .bl (letC c || decide (c = 95))) (by rw [D.signs_length]; exact Nat.le_trans hl (by decide)) ⟨rfl, rfl⟩ ?_ ?_
          · rintro i x acc η' hx hl ⟨rfl, rfl⟩
            obtain ⟨c, hc, rfl⟩ := signs_get hx
            simp (maxSteps := 3000000) only [rPar, rParM, riRange3, roI2, rLcO_L, isN_eq, notN_eq, rSlTu, riZip, riZipO, riListO, rMinDef, rFldG, rSetFG, rDGet, rDIn, rDPut, roLenD, roListD, roSortD, rAsgStar, rForK_L, rDisp1, rSortST, rMakeC_f, kD, vD, iD, keyDt, own, wr, gput, gfind, keyD, keyDt, id_eq, roSplit, roStr1, rSlSt, rSlBy, rRevL, TruD, rOrT, rAndT, rMake_g, roCatA, roRep, rMeth_f, rMeth_g, roOwnB_f, MakeQ_g, rMakeK, roIsC, isC_ins, rFld, rSetF, rXfn, rXf, lk_eq, putD, Dt.ins.injEq, Dt.exn.injEq, RleS, RMulS, RMulZ, roJoin, rRet, rRetN, rSeq, rIfS, rAsg, rVar, ofEn, rC, rOp, rUn, roP, rCB, rCons, rNil, rAndV, rOrV, rNotV, rB, rAnd, rOr, rNot, rIf, rTup, rLst, rDrop, rNext, rNever, look, frz, frzs, looks, held, roIsi, roF1, roL1, roNeg, rDNew, startE, ents, ent, csOf, unal, finds, RI0, RI, int_in, int_bl, len_ls, len_tu, len_st, len_by, at0, at1, at2, at3, ix30, ix31, ix32, eq_ii, ne_ii, eq_by, ne_by, notin_c, in_c, D.rChain, RIxA, roTupOf, RListOf, RListB, List.findSome?, List.getElem?_cons_zero, List.getElem?_cons_succ, List.getElem?_nil, List.set_cons_zero, List.set_cons_succ, List.length_cons, List.length_nil, List.map_cons, List.map_nil, List.replicate, List.nil_append, List.cons_append, List.append_nil, Option.some.injEq, exists_eq_left', exists_eq_left, exists_eq', exists_eq, true_and, and_true, Vl.d.injEq, Vl.nw.injEq, Vl.sl.injEq, Dt.int.injEq, Dt.bl.injEq, Dt.str.injEq, Dt.lst.injEq, Dt.tup.injEq, Dt.byt.injEq, Dt.ty.injEq, Dt.ref.injEq, En.val.injEq, En.mu.injEq, En.bor.injEq, List.cons.injEq, Nat.reduceLT, Nat.reduceAdd, Nat.reduceSub, Nat.zero_add, and_self, ↓reduceIte, Bool.false_eq_true, reduceCtorEq, false_and, and_false, exists_const, exists_false, or_false, false_or, Nat.reduceEqDiff, Option.map_some, Option.getD_some, Option.getD_none, and_assoc, exists_and_left, exists_and_right, rCall_f, rCall_g, f_pre, f_post, g_pre, g_post, g_exc, Prod.forall, Prod.exists, Prod.mk.injEq, exists_const, forall_const, argsD, conP, entD, remP, flagsP, flagAt, putP, aft, Ct.dt.injEq, forall_eq, forall_eq', forall_const, implies_true, false_implies, and_imp, forall_exists_index, forall_apply_eq_imp_iff, List.length_append, retD, rFor_L, asgLc, rLc_L, riList, riTup, riStr, riRange1, riRange2, riEnum, riRev, rgName, rgTup, rgCons, rgNil, wipeE, unw, rYes, rAsgG, rAsgSub, roSetL, rBM, rBM0, roAppend, roOwn0, isa_no, isa_bl, isa_in, isa_st, isa_by, isa_ls, isa_tu, isa_di, beq_self_eq_true, Bool.or_true, Bool.true_or, Bool.or_false, Bool.false_or, Bool.or_self, Bool.not_true, Bool.not_false, Bool.and_true, Bool.true_and, Bool.and_false, Bool.false_and, String.reduceBEq, String.reduceEq, not_true_eq_false, not_false_eq_true, rSlL', roNone, roSome, roCat, D.trk, rRaise0, rRaise1, excD, rTry, rEx, wMixD, goneD, List.isEmpty_nil, if_true, List.length_singleton, Nat.reduceLeDiff, Nat.reducePow, Int.reducePow, Int.reduceLT, Int.reduceLE, Int.reduceNeg, Int.reduceToNat, eq_sign]
            rw [take_succ_at hc, List.map_append]
            simp only [List.map_cons, List.map_nil, letC]
            split
            · rename_i h; rw [h]; simp
            · rename_i h; simp only [Bool.not_eq_true] at h; rw [h]; simp
          · rintro acc η' hl ⟨rfl, rfl⟩
            simp (maxSteps := 3000000) only [rPar, rParM, riRange3, roI2, rLcO_L, isN_eq, notN_eq, rSlTu, riZip, riZipO, riListO, rMinDef, rFldG, rSetFG, rDGet, rDIn, rDPut, roLenD, roListD, roSortD, rAsgStar, rForK_L, rDisp1, rSortST, rMakeC_f, kD, vD, iD, keyDt, own, wr, gput, gfind, keyD, keyDt, id_eq, roSplit, roStr1, rSlSt, rSlBy, rRevL, TruD, rOrT, rAndT, rMake_g, roCatA, roRep, rMeth_f, rMeth_g, roOwnB_f, MakeQ_g, rMakeK, roIsC, isC_ins, rFld, rSetF, rXfn, rXf, lk_eq, putD, Dt.ins.injEq, Dt.exn.injEq, RleS, RMulS, RMulZ, roJoin, rRet, rRetN, rSeq, rIfS, rAsg, rVar, ofEn, rC, rOp, rUn, roP, rCB, rCons, rNil, rAndV, rOrV, rNotV, rB, rAnd, rOr, rNot, rIf, rTup, rLst, rDrop, rNext, rNever, look, frz, frzs, looks, held, roIsi, roF1, roL1, roNeg, rDNew, startE, ents, ent, csOf, unal, finds, RI0, RI, int_in, int_bl, len_ls, len_tu, len_st, len_by, at0, at1, at2, at3, ix30, ix31, ix32, eq_ii, ne_ii, eq_by, ne_by, notin_c, in_c, D.rChain, RIxA, roTupOf, RListOf, RListB, List.findSome?, List.getElem?_cons_zero, List.getElem?_cons_succ, List.getElem?_nil, List.set_cons_zero, List.set_cons_succ, List.length_cons, List.length_nil, List.map_cons, List.map_nil, List.replicate, List.nil_append, List.cons_append, List.append_nil, Option.some.injEq, exists_eq_left', exists_eq_left, exists_eq', exists_eq, true_and, and_true, Vl.d.injEq, Vl.nw.injEq, Vl.sl.injEq, Dt.int.injEq, Dt.bl.injEq, Dt.str.injEq, Dt.lst.injEq, Dt.tup.injEq, Dt.byt.injEq, Dt.ty.injEq, Dt.ref.injEq, En.val.injEq, En.mu.injEq, En.bor.injEq, List.cons.injEq, Nat.reduceLT, Nat.reduceAdd, Nat.reduceSub, Nat.zero_add, and_self, ↓reduceIte, Bool.false_eq_true, reduceCtorEq, false_and, and_false, exists_const, exists_false, or_false, false_or, Nat.reduceEqDiff, Option.map_some, Option.getD_some, Option.getD_none, and_assoc, exists_and_left, exists_and_right, rCall_f, rCall_g, f_pre, f_post, g_pre, g_post, g_exc, Prod.forall, Prod.exists, Prod.mk.injEq, exists_const, forall_const, argsD, conP, entD, remP, flagsP, flagAt, putP, aft, Ct.dt.injEq, forall_eq, forall_eq', forall_const, implies_true, false_implies, and_imp, forall_exists_index, forall_apply_eq_imp_iff, List.length_append, retD, rFor_L, asgLc, rLc_L, riList, riTup, riStr, riRange1, riRange2, riEnum, riRev, rgName, rgTup, rgCons, rgNil, wipeE, unw, rYes, rAsgG, rAsgSub, roSetL, rBM, rBM0, roAppend, roOwn0, isa_no, isa_bl, isa_in, isa_st, isa_by, isa_ls, isa_tu, isa_di, beq_self_eq_true, Bool.or_true, Bool.true_or, Bool.or_false, Bool.false_or, Bool.or_self, Bool.not_true, Bool.not_false, Bool.and_true, Bool.true_and, Bool.and_false, Bool.false_and, String.reduceBEq, String.reduceEq, not_true_eq_false, not_false_eq_true, rSlL', roNone, roSome, roCat, D.trk, rRaise0, rRaise1, excD, rTry, rEx, wMixD, goneD, List.isEmpty_nil, if_true, List.length_singleton, Nat.reduceLeDiff, Nat.reducePow, Int.reducePow, Int.reduceLT, Int.reduceLE, Int.reduceNeg, Int.reduceToNat]
            rw [D.signs_length, show s.cps.size = s.cps.toList.length by simp, List.take_length]
            exact ⟨_, ⟨s.cps.toList.map fun c => letC c || decide (c = 95), by simp, rfl⟩, by simp [h1, h2, hlet, List.all_map]; try rfl⟩
      · rw [decide_eq_false (by omega : ¬ (s.length : Int) ≤ 12)]
        simp [nameS, h2]
    · rw [if_neg (by simp; omega)]
      simp [nameS, h1]
  · have h1 : isa "str" d = false := by cases d <;> first | rfl | exact absurd ⟨_, rfl⟩ ht
    rw [h1]
    cases d <;> first | rfl | exact absurd ⟨_, rfl⟩ ht
/-! #### History.__init__ -/
abbrev s_History___init__ : Stmt := inClass (top 11) 0
abbrev N_History___init__ : List Str := ["self"]
abbrev P_History___init__ : List Str := ["self"]
abbrev ms_History___init__ : List Md := [.p]
theorem sc_History___init__ : FnScope N_History___init__ P_History___init__ (defScope s_History___init__) := ⟨rfl, rfl, rfl, by decide +kernel, rfl, by decide +kernel, by decide +kernel⟩
theorem ok_History___init__ {P : Program} {w : World} {K : PySem.W.Frag} {mg : Str → Option Value} {base : Heap} {f : Addr} {fd : FuncData} {c_FellError c_NoName c_Taken c_NoChange c_History : Addr} (G : Gs K mg c_FellError c_NoName c_Taken c_NoChange c_History) (X_NoChange : ExO P w K mg base "NoChange" c_NoChange "name") (X_NoName : ExO P w K mg base "NoName" c_NoName "name") (X_Taken : ExO P w K mg base "Taken" c_Taken "name") (K_History : ClF K mg "History" c_History) (nA_History_parents : NoAttr K c_History "parents") (F : Fun K "__init__" "History.__init__" s_History___init__ f fd) (mf : Mk K c_History f) :
    HsI P w K mg base CX0 1 c_History P_History___init__ (toSp K ms_History___init__ (S_hinit c_History)) := by
  refine ⟨f, fd, ?_, mf, F.binds (ps := P_History___init__) fun _ _ _ _ _ _ us hl => match us, hl with | [_], _ => rfl⟩
  refine F.ok sc_History___init__ (fun vs H Q E h => toSp_len h) (fun cdv A outer s H vs Q E hr h => ?_)
  have hu := hr.units
  refine ⟨_, pss_one (ps_fld (pv 0) (pe_dnewK) rfl), ?_⟩
  refine run_body0 h (by decide) (fun as => ds_setFG (de_var 0) (de_dnew)) (fun as hp hl => ?_)
  subst hp
  simp (maxSteps := 3000000) only [rPar, rParM, riRange3, roI2, rLcO_L, isN_eq, notN_eq, rSlTu, riZip, riZipO, riListO, rMinDef, rFldG, rSetFG, rDGet, rDIn, rDPut, roLenD, roListD, roSortD, rAsgStar, rForK_L, rDisp1, rSortST, rMakeC_f, kD, vD, iD, keyDt, own, wr, gput, gfind, keyD, keyDt, id_eq, roSplit, roStr1, rSlSt, rSlBy, rRevL, TruD, rOrT, rAndT, rMake_g, roCatA, roRep, rMeth_f, rMeth_g, roOwnB_f, MakeQ_g, rMakeK, roIsC, isC_ins, rFld, rSetF, rXfn, rXf, lk_eq, putD, Dt.ins.injEq, Dt.exn.injEq, RleS, RMulS, RMulZ, roJoin, rRet, rRetN, rSeq, rIfS, rAsg, rVar, ofEn, rC, rOp, rUn, roP, rCB, rCons, rNil, rAndV, rOrV, rNotV, rB, rAnd, rOr, rNot, rIf, rTup, rLst, rDrop, rNext, rNever, look, frz, frzs, looks, held, roIsi, roF1, roL1, roNeg, rDNew, startE, ents, ent, csOf, unal, finds, RI0, RI, int_in, int_bl, len_ls, len_tu, len_st, len_by, at0, at1, at2, at3, ix30, ix31, ix32, eq_ii, ne_ii, eq_by, ne_by, notin_c, in_c, D.rChain, RIxA, roTupOf, RListOf, RListB, List.findSome?, List.getElem?_cons_zero, List.getElem?_cons_succ, List.getElem?_nil, List.set_cons_zero, List.set_cons_succ, List.length_cons, List.length_nil, List.map_cons, List.map_nil, List.replicate, List.nil_append, List.cons_append, List.append_nil, Option.some.injEq, exists_eq_left', exists_eq_left, exists_eq', exists_eq, true_and, and_true, Vl.d.injEq, Vl.nw.injEq, Vl.sl.injEq, Dt.int.injEq, Dt.bl.injEq, Dt.str.injEq, Dt.lst.injEq, Dt.tup.injEq, Dt.byt.injEq, Dt.ty.injEq, Dt.ref.injEq, En.val.injEq, En.mu.injEq, En.bor.injEq, List.cons.injEq, Nat.reduceLT, Nat.reduceAdd, Nat.reduceSub, Nat.zero_add, and_self, ↓reduceIte, Bool.false_eq_true, reduceCtorEq, false_and, and_false, exists_const, exists_false, or_false, false_or, Nat.reduceEqDiff, Option.map_some, Option.getD_some, Option.getD_none, and_assoc, exists_and_left, exists_and_right, rCall_f, rCall_g, f_pre, f_post, g_pre, g_post, g_exc, Prod.forall, Prod.exists, Prod.mk.injEq, exists_const, forall_const, argsD, conP, entD, remP, flagsP, flagAt, putP, aft, Ct.dt.injEq, forall_eq, forall_eq', forall_const, implies_true, false_implies, and_imp, forall_exists_index, forall_apply_eq_imp_iff, List.length_append, retD, rFor_L, asgLc, rLc_L, riList, riTup, riStr, riRange1, riRange2, riEnum, riRev, rgName, rgTup, rgCons, rgNil, wipeE, unw, rYes, rAsgG, rAsgSub, roSetL, rBM, rBM0, roAppend, roOwn0, isa_no, isa_bl, isa_in, isa_st, isa_by, isa_ls, isa_tu, isa_di, beq_self_eq_true, Bool.or_true, Bool.true_or, Bool.or_false, Bool.false_or, Bool.or_self, Bool.not_true, Bool.not_false, Bool.and_true, Bool.true_and, Bool.and_false, Bool.false_and, String.reduceBEq, String.reduceEq, not_true_eq_false, not_false_eq_true, rSlL', roNone, roSome, roCat, D.trk, rRaise0, rRaise1, excD, rTry, rEx, wMixD, goneD, List.isEmpty_nil, if_true, List.length_singleton, Nat.reduceLeDiff, Nat.reducePow, Int.reducePow, Int.reduceLT, Int.reduceLE, Int.reduceNeg, Int.reduceToNat, ms_History___init__, S_hinit, exH, faH, exH0, keptK_hk, lkH_kept, lkH_sk, lkH_sp, lkH_add, lkH_all, lkH_has, lkH_par, gf_1, K_History.cl, nA_History_parents, histC, List.take_succ_cons, List.take_zero]
  exact ⟨some 0, c_History, [], [], _, .inr ⟨rfl, rfl⟩, rfl, rfl, K_History.cl, nA_History_parents, by decide, fun p => ⟨_, rfl, p, rfl⟩⟩
/-! #### History.is_kept -/
abbrev s_History_is_kept : Stmt := inClass (top 11) 3
abbrev N_History_is_kept : List Str := ["self", "thing"]
abbrev P_History_is_kept : List Str := ["self", "thing"]
abbrev ms_History_is_kept : List Md := [.p, .v]
theorem sc_History_is_kept : FnScope N_History_is_kept P_History_is_kept (defScope s_History_is_kept) := ⟨rfl, rfl, rfl, by decide +kernel, rfl, by decide +kernel, by decide +kernel⟩
theorem ok_History_is_kept {P : Program} {w : World} {K : PySem.W.Frag} {mg : Str → Option Value} {base : Heap} {f : Addr} {fd : FuncData} {c_FellError c_NoName c_Taken c_NoChange c_History : Addr} (G : Gs K mg c_FellError c_NoName c_Taken c_NoChange c_History) (X_NoChange : ExO P w K mg base "NoChange" c_NoChange "name") (X_NoName : ExO P w K mg base "NoName" c_NoName "name") (X_Taken : ExO P w K mg base "Taken" c_Taken "name") (K_History : ClF K mg "History" c_History) (nA_History_parents : NoAttr K c_History "parents") (F : Fun K "is_kept" "History.is_kept" s_History_is_kept f fd) (mf : Meth K c_History "is_kept" f) :
    HsM P w K mg base CX0 1 c_History "is_kept" P_History_is_kept (toSp K ms_History_is_kept (S_iskept c_History)) := by
  refine ⟨f, fd, ?_, mf, F.binds (ps := P_History_is_kept) fun _ _ _ _ _ _ us hl => match us, hl with | [_, _], _ => rfl⟩
  refine F.ok sc_History_is_kept (fun vs H Q E h => toSp_len h) (fun cdv A outer s H vs Q E hr h => ?_)
  have hu := hr.units
  refine ⟨_, pss_one (ps_ret (pe_and (pe_callB call_isi rfl G.b_isinstance (by decide +kernel) (pa_cons (pv 1) (pa_cons (pe_bltn (v := .ty "str") (u := .type "str") rfl G.b_str (by decide +kernel) rfl) (pa_nil)))) (pe_one (pe_cmp (pc_din (hu1 hu) (pv 1) (pe_fld (pv 0) rfl)) (by rfl))))), ?_⟩
  refine run_body0 h (by decide) (fun as => ds_ret (de_andV (de_cb (dc_isi) (da_cons (de_var 1) (da_cons (de_ty) (da_nil)))) (de_din (de_var 1) (de_fldG (de_var 0))))) (fun as hp hl => ?_)
  obtain ⟨p, hs, d, rfl, hd⟩ := hp
  simp (maxSteps := 3000000) only [rPar, rParM, riRange3, roI2, rLcO_L, isN_eq, notN_eq, rSlTu, riZip, riZipO, riListO, rMinDef, rFldG, rSetFG, rDGet, rDIn, rDPut, roLenD, roListD, roSortD, rAsgStar, rForK_L, rDisp1, rSortST, rMakeC_f, kD, vD, iD, keyDt, own, wr, gput, gfind, keyD, keyDt, id_eq, roSplit, roStr1, rSlSt, rSlBy, rRevL, TruD, rOrT, rAndT, rMake_g, roCatA, roRep, rMeth_f, rMeth_g, roOwnB_f, MakeQ_g, rMakeK, roIsC, isC_ins, rFld, rSetF, rXfn, rXf, lk_eq, putD, Dt.ins.injEq, Dt.exn.injEq, RleS, RMulS, RMulZ, roJoin, rRet, rRetN, rSeq, rIfS, rAsg, rVar, ofEn, rC, rOp, rUn, roP, rCB, rCons, rNil, rAndV, rOrV, rNotV, rB, rAnd, rOr, rNot, rIf, rTup, rLst, rDrop, rNext, rNever, look, frz, frzs, looks, held, roIsi, roF1, roL1, roNeg, rDNew, startE, ents, ent, csOf, unal, finds, RI0, RI, int_in, int_bl, len_ls, len_tu, len_st, len_by, at0, at1, at2, at3, ix30, ix31, ix32, eq_ii, ne_ii, eq_by, ne_by, notin_c, in_c, D.rChain, RIxA, roTupOf, RListOf, RListB, List.findSome?, List.getElem?_cons_zero, List.getElem?_cons_succ, List.getElem?_nil, List.set_cons_zero, List.set_cons_succ, List.length_cons, List.length_nil, List.map_cons, List.map_nil, List.replicate, List.nil_append, List.cons_append, List.append_nil, Option.some.injEq, exists_eq_left', exists_eq_left, exists_eq', exists_eq, true_and, and_true, Vl.d.injEq, Vl.nw.injEq, Vl.sl.injEq, Dt.int.injEq, Dt.bl.injEq, Dt.str.injEq, Dt.lst.injEq, Dt.tup.injEq, Dt.byt.injEq, Dt.ty.injEq, Dt.ref.injEq, En.val.injEq, En.mu.injEq, En.bor.injEq, List.cons.injEq, Nat.reduceLT, Nat.reduceAdd, Nat.reduceSub, Nat.zero_add, and_self, ↓reduceIte, Bool.false_eq_true, reduceCtorEq, false_and, and_false, exists_const, exists_false, or_false, false_or, Nat.reduceEqDiff, Option.map_some, Option.getD_some, Option.getD_none, and_assoc, exists_and_left, exists_and_right, rCall_f, rCall_g, f_pre, f_post, g_pre, g_post, g_exc, Prod.forall, Prod.exists, Prod.mk.injEq, exists_const, forall_const, argsD, conP, entD, remP, flagsP, flagAt, putP, aft, Ct.dt.injEq, forall_eq, forall_eq', forall_const, implies_true, false_implies, and_imp, forall_exists_index, forall_apply_eq_imp_iff, List.length_append, retD, rFor_L, asgLc, rLc_L, riList, riTup, riStr, riRange1, riRange2, riEnum, riRev, rgName, rgTup, rgCons, rgNil, wipeE, unw, rYes, rAsgG, rAsgSub, roSetL, rBM, rBM0, roAppend, roOwn0, isa_no, isa_bl, isa_in, isa_st, isa_by, isa_ls, isa_tu, isa_di, beq_self_eq_true, Bool.or_true, Bool.true_or, Bool.or_false, Bool.false_or, Bool.or_self, Bool.not_true, Bool.not_false, Bool.and_true, Bool.true_and, Bool.and_false, Bool.false_and, String.reduceBEq, String.reduceEq, not_true_eq_false, not_false_eq_true, rSlL', roNone, roSome, roCat, D.trk, rRaise0, rRaise1, excD, rTry, rEx, wMixD, goneD, List.isEmpty_nil, if_true, List.length_singleton, Nat.reduceLeDiff, Nat.reducePow, Int.reducePow, Int.reduceLT, Int.reduceLE, Int.reduceNeg, Int.reduceToNat, ms_History_is_kept, S_iskept, hd, inKinds, exH, faH, exH0, keptK_hk, lkH_kept, lkH_sk, lkH_sp, lkH_add, lkH_all, lkH_has, lkH_par, gf_1, K_History.cl, nA_History_parents, histC, List.take_succ_cons, List.take_zero]
  by_cases h : ∃ s, d = .str s
  · obtain ⟨s, rfl⟩ := h
    rw [show isa "str" (Dt.str s) = true from rfl, if_pos rfl]
    exact ⟨rfl, _, rfl, _, rfl, keptK_hk (hs := hs) (d := .str s)⟩
  · have h1 : isa "str" d = false := by cases d <;> first | rfl | exact absurd ⟨_, rfl⟩ h
    have h2 : keptB hs d = false := by cases d <;> first | rfl | exact absurd ⟨_, rfl⟩ h
    rw [h1, h2, if_neg (by decide)]
/-! #### History.sure_kept -/
abbrev s_History_sure_kept : Stmt := inClass (top 11) 4
abbrev N_History_sure_kept : List Str := ["self", "thing"]
abbrev P_History_sure_kept : List Str := ["self", "thing"]
abbrev ms_History_sure_kept : List Md := [.p, .v]
theorem sc_History_sure_kept : FnScope N_History_sure_kept P_History_sure_kept (defScope s_History_sure_kept) := ⟨rfl, rfl, rfl, by decide +kernel, rfl, by decide +kernel, by decide +kernel⟩
theorem ok_History_sure_kept {P : Program} {w : World} {K : PySem.W.Frag} {mg : Str → Option Value} {base : Heap} {f : Addr} {fd : FuncData} {c_FellError c_NoName c_Taken c_NoChange c_History : Addr} (G : Gs K mg c_FellError c_NoName c_Taken c_NoChange c_History) (h0 : HsM P w K mg base CX0 1 c_History "is_kept" P_History_is_kept (toSp K ms_History_is_kept (S_iskept c_History))) (X_NoChange : ExO P w K mg base "NoChange" c_NoChange "name") (X_NoName : ExO P w K mg base "NoName" c_NoName "name") (X_Taken : ExO P w K mg base "Taken" c_Taken "name") (K_History : ClF K mg "History" c_History) (nA_History_parents : NoAttr K c_History "parents") (F : Fun K "sure_kept" "History.sure_kept" s_History_sure_kept f fd) (mf : Meth K c_History "sure_kept" f) :
    HsM P w K mg base (L2.CX P w) 3 c_History "sure_kept" P_History_sure_kept (toSp K ms_History_sure_kept (S_surekept c_History c_NoChange)) := by
  obtain ⟨f0, fd0, F0, M0, b0⟩ := h0
  obtain ⟨fI_NoChange, fdI_NoChange, psI_NoChange, iX_NoChange, tX_NoChange, FX_NoChange, bX_NoChange⟩ := X_NoChange.ini
  refine ⟨f, fd, ?_, mf, F.binds (ps := P_History_sure_kept) fun _ _ _ _ _ _ us hl => match us, hl with | [_, _], _ => rfl⟩
  refine F.okX sc_History_sure_kept (fun vs H Q E h => toSp_len h) (fun cdv A outer s H vs Q E hr h => ?_)
  have hu := hr.units
  refine ⟨_, pss_one (ps_if (pt_not (pt_val (pe_methS (E := (fun _ => E)) (pv 0) K_History.cl M0 F0 (hr.mono (by decide)) b0 (fun _ => fun _ _ _ _ _ _ h => False.elim h) (pa_cons (pv 1) (pa_nil))))) (pss_one (ps_raise rfl (takes_of rfl rfl rfl rfl) (pmk_oex X_NoChange.oc iX_NoChange tX_NoChange FX_NoChange (hr.mono (by decide)) bX_NoChange .nil (fun _ _ _ _ _ _ _ h => h.elim) rfl X_NoChange.g (pa_cons (pv 1) (pa_nil))))) (pss_nil)), ?_⟩
  refine run_body h (by decide) (fun as => ds_if (dt_not (dt_B (de_methS (X := _) (E := (fun _ => E)) (S := S_iskept c_History) (fun _ _ _ _ h => h) (de_var 0) (da_cons (de_var 1) (da_nil))))) (ds_raiseO (fun _ _ _ h => h) (da_cons (de_var 1) (da_nil))) (ds_next)) (fun as hp hl => ?_)
  obtain ⟨p, hs, d, rfl, hd⟩ := hp
  simp (maxSteps := 3000000) only [rPar, rParM, riRange3, roI2, rLcO_L, isN_eq, notN_eq, rSlTu, riZip, riZipO, riListO, rMinDef, rFldG, rSetFG, rDGet, rDIn, rDPut, roLenD, roListD, roSortD, rAsgStar, rForK_L, rDisp1, rSortST, rMakeC_f, kD, vD, iD, keyDt, own, wr, gput, gfind, keyD, keyDt, id_eq, roSplit, roStr1, rSlSt, rSlBy, rRevL, TruD, rOrT, rAndT, rMake_g, roCatA, roRep, rMeth_f, rMeth_g, roOwnB_f, MakeQ_g, rMakeK, roIsC, isC_ins, rFld, rSetF, rXfn, rXf, lk_eq, putD, Dt.ins.injEq, Dt.exn.injEq, RleS, RMulS, RMulZ, roJoin, rRet, rRetN, rSeq, rIfS, rAsg, rVar, ofEn, rC, rOp, rUn, roP, rCB, rCons, rNil, rAndV, rOrV, rNotV, rB, rAnd, rOr, rNot, rIf, rTup, rLst, rDrop, rNext, rNever, look, frz, frzs, looks, held, roIsi, roF1, roL1, roNeg, rDNew, startE, ents, ent, csOf, unal, finds, RI0, RI, int_in, int_bl, len_ls, len_tu, len_st, len_by, at0, at1, at2, at3, ix30, ix31, ix32, eq_ii, ne_ii, eq_by, ne_by, notin_c, in_c, D.rChain, RIxA, roTupOf, RListOf, RListB, List.findSome?, List.getElem?_cons_zero, List.getElem?_cons_succ, List.getElem?_nil, List.set_cons_zero, List.set_cons_succ, List.length_cons, List.length_nil, List.map_cons, List.map_nil, List.replicate, List.nil_append, List.cons_append, List.append_nil, Option.some.injEq, exists_eq_left', exists_eq_left, exists_eq', exists_eq, true_and, and_true, Vl.d.injEq, Vl.nw.injEq, Vl.sl.injEq, Dt.int.injEq, Dt.bl.injEq, Dt.str.injEq, Dt.lst.injEq, Dt.tup.injEq, Dt.byt.injEq, Dt.ty.injEq, Dt.ref.injEq, En.val.injEq, En.mu.injEq, En.bor.injEq, List.cons.injEq, Nat.reduceLT, Nat.reduceAdd, Nat.reduceSub, Nat.zero_add, and_self, ↓reduceIte, Bool.false_eq_true, reduceCtorEq, false_and, and_false, exists_const, exists_false, or_false, false_or, Nat.reduceEqDiff, Option.map_some, Option.getD_some, Option.getD_none, and_assoc, exists_and_left, exists_and_right, rCall_f, rCall_g, f_pre, f_post, g_pre, g_post, g_exc, Prod.forall, Prod.exists, Prod.mk.injEq, exists_const, forall_const, argsD, conP, entD, remP, flagsP, flagAt, putP, aft, Ct.dt.injEq, forall_eq, forall_eq', forall_const, implies_true, false_implies, and_imp, forall_exists_index, forall_apply_eq_imp_iff, List.length_append, retD, rFor_L, asgLc, rLc_L, riList, riTup, riStr, riRange1, riRange2, riEnum, riRev, rgName, rgTup, rgCons, rgNil, wipeE, unw, rYes, rAsgG, rAsgSub, roSetL, rBM, rBM0, roAppend, roOwn0, isa_no, isa_bl, isa_in, isa_st, isa_by, isa_ls, isa_tu, isa_di, beq_self_eq_true, Bool.or_true, Bool.true_or, Bool.or_false, Bool.false_or, Bool.or_self, Bool.not_true, Bool.not_false, Bool.and_true, Bool.true_and, Bool.and_false, Bool.false_and, String.reduceBEq, String.reduceEq, not_true_eq_false, not_false_eq_true, rSlL', roNone, roSome, roCat, D.trk, rRaise0, rRaise1, excD, rTry, rEx, wMixD, goneD, List.isEmpty_nil, if_true, List.length_singleton, Nat.reduceLeDiff, Nat.reducePow, Int.reducePow, Int.reduceLT, Int.reduceLE, Int.reduceNeg, Int.reduceToNat, ms_History_sure_kept, S_surekept, ms_History_is_kept, S_iskept, hd, exH, faH, exH0, keptK_hk, lkH_kept, lkH_sk, lkH_sp, lkH_add, lkH_all, lkH_has, lkH_par, gf_1, K_History.cl, nA_History_parents, histC, List.take_succ_cons, List.take_zero]
  cases keptB hs d with
  | false => rw [if_pos (by decide)]
  | true => rw [if_neg (by decide)]
/-! #### History.sure_parents -/
abbrev s_History_sure_parents : Stmt := inClass (top 11) 5
abbrev N_History_sure_parents : List Str := ["self", "parents", "spot", "parent"]
abbrev P_History_sure_parents : List Str := ["self", "parents"]
abbrev ms_History_sure_parents : List Md := [.p, .b]
theorem sc_History_sure_parents : FnScope N_History_sure_parents P_History_sure_parents (defScope s_History_sure_parents) := ⟨rfl, rfl, rfl, by decide +kernel, rfl, by decide +kernel, by decide +kernel⟩
theorem ok_History_sure_parents {P : Program} {w : World} {K : PySem.W.Frag} {mg : Str → Option Value} {base : Heap} {f : Addr} {fd : FuncData} {c_FellError c_NoName c_Taken c_NoChange c_History : Addr} (G : Gs K mg c_FellError c_NoName c_Taken c_NoChange c_History) (h0 : HsM P w K mg base CX0 1 c_History "is_kept" P_History_is_kept (toSp K ms_History_is_kept (S_iskept c_History))) (X_NoChange : ExO P w K mg base "NoChange" c_NoChange "name") (X_NoName : ExO P w K mg base "NoName" c_NoName "name") (X_Taken : ExO P w K mg base "Taken" c_Taken "name") (K_History : ClF K mg "History" c_History) (nA_History_parents : NoAttr K c_History "parents") (F : Fun K "sure_parents" "History.sure_parents" s_History_sure_parents f fd) (mf : Meth K c_History "sure_parents" f) :
    HsM P w K mg base (L2.CX P w) 3 c_History "sure_parents" P_History_sure_parents (toSp K ms_History_sure_parents (S_surepar c_History c_NoChange)) := by
  obtain ⟨f0, fd0, F0, M0, b0⟩ := h0
  obtain ⟨fI_NoChange, fdI_NoChange, psI_NoChange, iX_NoChange, tX_NoChange, FX_NoChange, bX_NoChange⟩ := X_NoChange.ini
  refine ⟨f, fd, ?_, mf, F.binds (ps := P_History_sure_parents) fun _ _ _ _ _ _ us hl => match us, hl with | [_, _], _ => rfl⟩
  refine F.okX sc_History_sure_parents (fun vs H Q E h => toSp_len h) (fun cdv A outer s H vs Q E hr h => ?_)
  have hu := hr.units
  refine ⟨_, pss_cons (ps_if (pt_not (pt_val (pe_callB call_isi rfl G.b_isinstance (by decide +kernel) (pa_cons (pv 1) (pa_cons (pe_bltn (v := .ty "list") (u := .type "list") rfl G.b_list (by decide +kernel) rfl) (pa_nil)))))) (pss_one (ps_raise rfl (takes_of rfl rfl rfl rfl) (pmk_oex X_NoChange.oc iX_NoChange tX_NoChange FX_NoChange (hr.mono (by decide)) bX_NoChange .nil (fun _ _ _ _ _ _ _ h => h.elim) rfl X_NoChange.g (pa_cons (pe_non) (pa_nil))))) (pss_nil)) (pss_one (ps_for (passes_of rfl) rfl (pi_enum rfl G.b_enumerate (pa_cons (pv 1) (pa_nil))) (pg_tup rfl (pgs_cons (pg_name (i := 2) sc_History_sure_parents.nd rfl (by first | exact Or.inl rfl | exact Or.inr rfl | exact .inr (.inl rfl) | exact .inr (.inr rfl))) (pgs_cons (pg_name (i := 3) sc_History_sure_parents.nd rfl (by first | exact Or.inl rfl | exact Or.inr rfl | exact .inr (.inl rfl) | exact .inr (.inr rfl))) (pgs_nil)))) (pss_one (ps_if (PW.pt (pw_or (pt_not (pt_val (pe_methS (E := (fun _ => E)) (pv 0) K_History.cl M0 F0 (hr.mono (by decide)) b0 (fun _ => fun _ _ _ _ _ _ h => False.elim h) (pa_cons (pv 3) (pa_nil))))) (pw_or1 (pt_cmpR ((op_inA hu)) (pv 3) (pe_slice sl_list (pv 1) (po_none) (po_some (pv 2))) (by rfl))))) (pss_one (ps_raise rfl (takes_of rfl rfl rfl rfl) (pmk_oex X_NoChange.oc iX_NoChange tX_NoChange FX_NoChange (hr.mono (by decide)) bX_NoChange .nil (fun _ _ _ _ _ _ _ h => h.elim) rfl X_NoChange.g (pa_cons (pv 3) (pa_nil))))) (pss_nil))))), ?_⟩
  refine run_body h (by decide) (fun as => ds_seq (ds_if (dt_not (dt_B (de_cb (dc_isi) (da_cons (de_var 1) (da_cons (de_ty) (da_nil)))))) (ds_raiseO (fun _ _ _ h => h) (da_cons (de_non) (da_nil))) (ds_next)) (ds_for (di_enum (da_cons (de_var 1) (da_nil))) (dg_tup (dgs_cons (dg_name 2) (dgs_cons (dg_name 3) (dgs_nil)))) (ds_if (dt_or (dt_not (dt_B (de_methS (X := _) (E := (fun _ => E)) (S := S_iskept c_History) (fun _ _ _ _ h => h) (de_var 0) (da_cons (de_var 3) (da_nil))))) (dt_test (de_op (d2_P p2_in) (de_var 3) (de_slL (de_var 1) (do_none) (do_some (de_var 2)))))) (ds_raiseO (fun _ _ _ h => h) (da_cons (de_var 3) (da_nil))) (ds_next)))) (fun as hp hl => ?_)
  obtain ⟨p, hs, e, rfl, he⟩ := hp
  have hpl := he.1
  refine sg fun U1 e1 => ?_
  simp (maxSteps := 3000000) only [rPar, rParM, riRange3, roI2, rLcO_L, isN_eq, notN_eq, rSlTu, riZip, riZipO, riListO, rMinDef, rFldG, rSetFG, rDGet, rDIn, rDPut, roLenD, roListD, roSortD, rAsgStar, rForK_L, rDisp1, rSortST, rMakeC_f, kD, vD, iD, keyDt, own, wr, gput, gfind, keyD, keyDt, id_eq, roSplit, roStr1, rSlSt, rSlBy, rRevL, TruD, rOrT, rAndT, rMake_g, roCatA, roRep, rMeth_f, rMeth_g, roOwnB_f, MakeQ_g, rMakeK, roIsC, isC_ins, rFld, rSetF, rXfn, rXf, lk_eq, putD, Dt.ins.injEq, Dt.exn.injEq, RleS, RMulS, RMulZ, roJoin, rRet, rRetN, rSeq, rIfS, rAsg, rVar, ofEn, rC, rOp, rUn, roP, rCB, rCons, rNil, rAndV, rOrV, rNotV, rB, rAnd, rOr, rNot, rIf, rTup, rLst, rDrop, rNext, rNever, look, frz, frzs, looks, held, roIsi, roF1, roL1, roNeg, rDNew, startE, ents, ent, csOf, unal, finds, RI0, RI, int_in, int_bl, len_ls, len_tu, len_st, len_by, at0, at1, at2, at3, ix30, ix31, ix32, eq_ii, ne_ii, eq_by, ne_by, notin_c, in_c, D.rChain, RIxA, roTupOf, RListOf, RListB, List.findSome?, List.getElem?_cons_zero, List.getElem?_cons_succ, List.getElem?_nil, List.set_cons_zero, List.set_cons_succ, List.length_cons, List.length_nil, List.map_cons, List.map_nil, List.replicate, List.nil_append, List.cons_append, List.append_nil, Option.some.injEq, exists_eq_left', exists_eq_left, exists_eq', exists_eq, true_and, and_true, Vl.d.injEq, Vl.nw.injEq, Vl.sl.injEq, Dt.int.injEq, Dt.bl.injEq, Dt.str.injEq, Dt.lst.injEq, Dt.tup.injEq, Dt.byt.injEq, Dt.ty.injEq, Dt.ref.injEq, En.val.injEq, En.mu.injEq, En.bor.injEq, List.cons.injEq, Nat.reduceLT, Nat.reduceAdd, Nat.reduceSub, Nat.zero_add, and_self, ↓reduceIte, Bool.false_eq_true, reduceCtorEq, false_and, and_false, exists_const, exists_false, or_false, false_or, Nat.reduceEqDiff, Option.map_some, Option.getD_some, Option.getD_none, and_assoc, exists_and_left, exists_and_right, rCall_f, rCall_g, f_pre, f_post, g_pre, g_post, g_exc, Prod.forall, Prod.exists, Prod.mk.injEq, exists_const, forall_const, argsD, conP, entD, remP, flagsP, flagAt, putP, aft, Ct.dt.injEq, forall_eq, forall_eq', forall_const, implies_true, false_implies, and_imp, forall_exists_index, forall_apply_eq_imp_iff, List.length_append, retD, rFor_L, asgLc, rLc_L, riList, riTup, riStr, riRange1, riRange2, riEnum, riRev, rgName, rgTup, rgCons, rgNil, wipeE, unw, rYes, rAsgG, rAsgSub, roSetL, rBM, rBM0, roAppend, roOwn0, isa_no, isa_bl, isa_in, isa_st, isa_by, isa_ls, isa_tu, isa_di, beq_self_eq_true, Bool.or_true, Bool.true_or, Bool.or_false, Bool.false_or, Bool.or_self, Bool.not_true, Bool.not_false, Bool.and_true, Bool.true_and, Bool.and_false, Bool.false_and, String.reduceBEq, String.reduceEq, not_true_eq_false, not_false_eq_true, rSlL', roNone, roSome, roCat, D.trk, rRaise0, rRaise1, excD, rTry, rEx, wMixD, goneD, List.isEmpty_nil, if_true, List.length_singleton, Nat.reduceLeDiff, Nat.reducePow, Int.reducePow, Int.reduceLT, Int.reduceLE, Int.reduceNeg, Int.reduceToNat, ms_History_sure_parents, S_surepar, ms_History_is_kept, S_iskept, hpl, inKinds, exH, faH, exH0, keptK_hk, lkH_kept, lkH_sk, lkH_sp, lkH_add, lkH_all, lkH_has, lkH_par, gf_1, K_History.cl, nA_History_parents, histC, List.take_succ_cons, List.take_zero]
  by_cases hl : ∃ ds, e = .lst ds
  rotate_left
  · have h1 : isa "list" e = false := by cases e <;> first | rfl | exact absurd ⟨_, rfl⟩ hl
    have h2 : badPars hs e = some .non := by cases e <;> first | rfl | exact absurd ⟨_, rfl⟩ hl
    rw [h1, if_pos (by decide)]
    exact ⟨_, h2, rfl⟩
  obtain ⟨ds, rfl⟩ := hl
  obtain ⟨hdl, hdp⟩ := he.2 ds rfl
  rw [show isa "list" (Dt.lst ds) = true from rfl, if_neg (by decide)]
  subst e1
  simp (maxSteps := 3000000) only [rPar, rParM, riRange3, roI2, rLcO_L, isN_eq, notN_eq, rSlTu, riZip, riZipO, riListO, rMinDef, rFldG, rSetFG, rDGet, rDIn, rDPut, roLenD, roListD, roSortD, rAsgStar, rForK_L, rDisp1, rSortST, rMakeC_f, kD, vD, iD, keyDt, own, wr, gput, gfind, keyD, keyDt, id_eq, roSplit, roStr1, rSlSt, rSlBy, rRevL, TruD, rOrT, rAndT, rMake_g, roCatA, roRep, rMeth_f, rMeth_g, roOwnB_f, MakeQ_g, rMakeK, roIsC, isC_ins, rFld, rSetF, rXfn, rXf, lk_eq, putD, Dt.ins.injEq, Dt.exn.injEq, RleS, RMulS, RMulZ, roJoin, rRet, rRetN, rSeq, rIfS, rAsg, rVar, ofEn, rC, rOp, rUn, roP, rCB, rCons, rNil, rAndV, rOrV, rNotV, rB, rAnd, rOr, rNot, rIf, rTup, rLst, rDrop, rNext, rNever, look, frz, frzs, looks, held, roIsi, roF1, roL1, roNeg, rDNew, startE, ents, ent, csOf, unal, finds, RI0, RI, int_in, int_bl, len_ls, len_tu, len_st, len_by, at0, at1, at2, at3, ix30, ix31, ix32, eq_ii, ne_ii, eq_by, ne_by, notin_c, in_c, D.rChain, RIxA, roTupOf, RListOf, RListB, List.findSome?, List.getElem?_cons_zero, List.getElem?_cons_succ, List.getElem?_nil, List.set_cons_zero, List.set_cons_succ, List.length_cons, List.length_nil, List.map_cons, List.map_nil, List.replicate, List.nil_append, List.cons_append, List.append_nil, Option.some.injEq, exists_eq_left', exists_eq_left, exists_eq', exists_eq, true_and, and_true, Vl.d.injEq, Vl.nw.injEq, Vl.sl.injEq, Dt.int.injEq, Dt.bl.injEq, Dt.str.injEq, Dt.lst.injEq, Dt.tup.injEq, Dt.byt.injEq, Dt.ty.injEq, Dt.ref.injEq, En.val.injEq, En.mu.injEq, En.bor.injEq, List.cons.injEq, Nat.reduceLT, Nat.reduceAdd, Nat.reduceSub, Nat.zero_add, and_self, ↓reduceIte, Bool.false_eq_true, reduceCtorEq, false_and, and_false, exists_const, exists_false, or_false, false_or, Nat.reduceEqDiff, Option.map_some, Option.getD_some, Option.getD_none, and_assoc, exists_and_left, exists_and_right, rCall_f, rCall_g, f_pre, f_post, g_pre, g_post, g_exc, Prod.forall, Prod.exists, Prod.mk.injEq, exists_const, forall_const, argsD, conP, entD, remP, flagsP, flagAt, putP, aft, Ct.dt.injEq, forall_eq, forall_eq', forall_const, implies_true, false_implies, and_imp, forall_exists_index, forall_apply_eq_imp_iff, List.length_append, retD, rFor_L, asgLc, rLc_L, riList, riTup, riStr, riRange1, riRange2, riEnum, riRev, rgName, rgTup, rgCons, rgNil, wipeE, unw, rYes, rAsgG, rAsgSub, roSetL, rBM, rBM0, roAppend, roOwn0, isa_no, isa_bl, isa_in, isa_st, isa_by, isa_ls, isa_tu, isa_di, beq_self_eq_true, Bool.or_true, Bool.true_or, Bool.or_false, Bool.false_or, Bool.or_self, Bool.not_true, Bool.not_false, Bool.and_true, Bool.true_and, Bool.and_false, Bool.false_and, String.reduceBEq, String.reduceEq, not_true_eq_false, not_false_eq_true, rSlL', roNone, roSome, roCat, D.trk, rRaise0, rRaise1, excD, rTry, rEx, wMixD, goneD, List.isEmpty_nil, if_true, List.length_singleton, Nat.reduceLeDiff, Nat.reducePow, Int.reducePow, Int.reduceLT, Int.reduceLE, Int.reduceNeg, Int.reduceToNat, ms_History_sure_parents, S_surepar, ms_History_is_kept, S_iskept, hpl, inKinds, exH, faH, exH0, keptK_hk, lkH_kept, lkH_sk, lkH_sp, lkH_add, lkH_all, lkH_has, lkH_par, gf_1, K_History.cl, nA_History_parents, histC, List.take_succ_cons, List.take_zero]
  refine lp_of (fun i η' => badPars hs (.lst ds) = badPar hs (ds.take i) (ds.drop i) ∧ (∀ x ∈ ds.take i, keptB hs x = true) ∧ ∃ c2 c3, η' = [some (.mu (some 0) (histC c_History p hs)), some (.bor (.lst ds)), c2, c3]) ⟨rfl, by simp, _, _, rfl⟩ ?_ ?_
  · rintro i x η' hx ⟨hb, hki, c2, c3, rfl⟩
    obtain ⟨y, hy, rfl⟩ := enumD_get hx
    rw [badPar_step hy] at hb
    have hyp := hdp y (List.mem_of_getElem? hy)
    have hil : i < ds.length := (List.getElem?_eq_some_iff.mp hy).1
    have hcl : D.cutD ds none (some (i : Int)) = ds.take i := by rw [cut_lo ds (by omega) (by omega)]; rfl
    simp (maxSteps := 3000000) only [rPar, rParM, riRange3, roI2, rLcO_L, isN_eq, notN_eq, rSlTu, riZip, riZipO, riListO, rMinDef, rFldG, rSetFG, rDGet, rDIn, rDPut, roLenD, roListD, roSortD, rAsgStar, rForK_L, rDisp1, rSortST, rMakeC_f, kD, vD, iD, keyDt, own, wr, gput, gfind, keyD, keyDt, id_eq, roSplit, roStr1, rSlSt, rSlBy, rRevL, TruD, rOrT, rAndT, rMake_g, roCatA, roRep, rMeth_f, rMeth_g, roOwnB_f, MakeQ_g, rMakeK, roIsC, isC_ins, rFld, rSetF, rXfn, rXf, lk_eq, putD, Dt.ins.injEq, Dt.exn.injEq, RleS, RMulS, RMulZ, roJoin, rRet, rRetN, rSeq, rIfS, rAsg, rVar, ofEn, rC, rOp, rUn, roP, rCB, rCons, rNil, rAndV, rOrV, rNotV, rB, rAnd, rOr, rNot, rIf, rTup, rLst, rDrop, rNext, rNever, look, frz, frzs, looks, held, roIsi, roF1, roL1, roNeg, rDNew, startE, ents, ent, csOf, unal, finds, RI0, RI, int_in, int_bl, len_ls, len_tu, len_st, len_by, at0, at1, at2, at3, ix30, ix31, ix32, eq_ii, ne_ii, eq_by, ne_by, notin_c, in_c, D.rChain, RIxA, roTupOf, RListOf, RListB, List.findSome?, List.getElem?_cons_zero, List.getElem?_cons_succ, List.getElem?_nil, List.set_cons_zero, List.set_cons_succ, List.length_cons, List.length_nil, List.map_cons, List.map_nil, List.replicate, List.nil_append, List.cons_append, List.append_nil, Option.some.injEq, exists_eq_left', exists_eq_left, exists_eq', exists_eq, true_and, and_true, Vl.d.injEq, Vl.nw.injEq, Vl.sl.injEq, Dt.int.injEq, Dt.bl.injEq, Dt.str.injEq, Dt.lst.injEq, Dt.tup.injEq, Dt.byt.injEq, Dt.ty.injEq, Dt.ref.injEq, En.val.injEq, En.mu.injEq, En.bor.injEq, List.cons.injEq, Nat.reduceLT, Nat.reduceAdd, Nat.reduceSub, Nat.zero_add, and_self, ↓reduceIte, Bool.false_eq_true, reduceCtorEq, false_and, and_false, exists_const, exists_false, or_false, false_or, Nat.reduceEqDiff, Option.map_some, Option.getD_some, Option.getD_none, and_assoc, exists_and_left, exists_and_right, rCall_f, rCall_g, f_pre, f_post, g_pre, g_post, g_exc, Prod.forall, Prod.exists, Prod.mk.injEq, exists_const, forall_const, argsD, conP, entD, remP, flagsP, flagAt, putP, aft, Ct.dt.injEq, forall_eq, forall_eq', forall_const, implies_true, false_implies, and_imp, forall_exists_index, forall_apply_eq_imp_iff, List.length_append, retD, rFor_L, asgLc, rLc_L, riList, riTup, riStr, riRange1, riRange2, riEnum, riRev, rgName, rgTup, rgCons, rgNil, wipeE, unw, rYes, rAsgG, rAsgSub, roSetL, rBM, rBM0, roAppend, roOwn0, isa_no, isa_bl, isa_in, isa_st, isa_by, isa_ls, isa_tu, isa_di, beq_self_eq_true, Bool.or_true, Bool.true_or, Bool.or_false, Bool.false_or, Bool.or_self, Bool.not_true, Bool.not_false, Bool.and_true, Bool.true_and, Bool.and_false, Bool.false_and, String.reduceBEq, String.reduceEq, not_true_eq_false, not_false_eq_true, rSlL', roNone, roSome, roCat, D.trk, rRaise0, rRaise1, excD, rTry, rEx, wMixD, goneD, List.isEmpty_nil, if_true, List.length_singleton, Nat.reduceLeDiff, Nat.reducePow, Int.reducePow, Int.reduceLT, Int.reduceLE, Int.reduceNeg, Int.reduceToNat, ms_History_is_kept, S_iskept, hyp, hcl, exH, faH, exH0, keptK_hk, lkH_kept, lkH_sk, lkH_sp, lkH_add, lkH_all, lkH_has, lkH_par, gf_1, K_History.cl, nA_History_parents, histC, List.take_succ_cons, List.take_zero]
    refine ⟨rfl, ?_⟩
    cases hk : keptB hs y with
    | false =>
      rw [hk, Bool.false_and, if_neg (by decide)] at hb
      rw [if_pos (by decide)]
      exact ⟨_, hb, rfl⟩
    | true =>
      rw [hk, Bool.true_and] at hb
      rw [if_neg (by decide)]
      obtain ⟨t, rfl, ht⟩ := kept_str hk
      refine ⟨_, by rw [in_lst 0 0 (a := .str t) trivial (by decide) (fun e he => by obtain ⟨u, rfl, _⟩ := kept_str (hki e he); exact trivial)], _, rfl, ?_⟩
      cases hin : (ds.take i).any fun e => deq e (.str t) with
      | true =>
        rw [hin, if_neg (by decide)] at hb
        rw [if_pos rfl]
        exact ⟨_, hb, rfl⟩
      | false =>
        rw [hin, if_pos (by decide)] at hb
        rw [if_neg (by decide)]
        refine ⟨hb, fun x hx => ?_⟩
        rw [take_succ_at hy, List.mem_append, List.mem_singleton] at hx
        rcases hx with hx | rfl
        · exact hki x hx
        · exact hk
  rintro η' ⟨hb, hki, c2, c3, rfl⟩
  simp (maxSteps := 3000000) only [rPar, rParM, riRange3, roI2, rLcO_L, isN_eq, notN_eq, rSlTu, riZip, riZipO, riListO, rMinDef, rFldG, rSetFG, rDGet, rDIn, rDPut, roLenD, roListD, roSortD, rAsgStar, rForK_L, rDisp1, rSortST, rMakeC_f, kD, vD, iD, keyDt, own, wr, gput, gfind, keyD, keyDt, id_eq, roSplit, roStr1, rSlSt, rSlBy, rRevL, TruD, rOrT, rAndT, rMake_g, roCatA, roRep, rMeth_f, rMeth_g, roOwnB_f, MakeQ_g, rMakeK, roIsC, isC_ins, rFld, rSetF, rXfn, rXf, lk_eq, putD, Dt.ins.injEq, Dt.exn.injEq, RleS, RMulS, RMulZ, roJoin, rRet, rRetN, rSeq, rIfS, rAsg, rVar, ofEn, rC, rOp, rUn, roP, rCB, rCons, rNil, rAndV, rOrV, rNotV, rB, rAnd, rOr, rNot, rIf, rTup, rLst, rDrop, rNext, rNever, look, frz, frzs, looks, held, roIsi, roF1, roL1, roNeg, rDNew, startE, ents, ent, csOf, unal, finds, RI0, RI, int_in, int_bl, len_ls, len_tu, len_st, len_by, at0, at1, at2, at3, ix30, ix31, ix32, eq_ii, ne_ii, eq_by, ne_by, notin_c, in_c, D.rChain, RIxA, roTupOf, RListOf, RListB, List.findSome?, List.getElem?_cons_zero, List.getElem?_cons_succ, List.getElem?_nil, List.set_cons_zero, List.set_cons_succ, List.length_cons, List.length_nil, List.map_cons, List.map_nil, List.replicate, List.nil_append, List.cons_append, List.append_nil, Option.some.injEq, exists_eq_left', exists_eq_left, exists_eq', exists_eq, true_and, and_true, Vl.d.injEq, Vl.nw.injEq, Vl.sl.injEq, Dt.int.injEq, Dt.bl.injEq, Dt.str.injEq, Dt.lst.injEq, Dt.tup.injEq, Dt.byt.injEq, Dt.ty.injEq, Dt.ref.injEq, En.val.injEq, En.mu.injEq, En.bor.injEq, List.cons.injEq, Nat.reduceLT, Nat.reduceAdd, Nat.reduceSub, Nat.zero_add, and_self, ↓reduceIte, Bool.false_eq_true, reduceCtorEq, false_and, and_false, exists_const, exists_false, or_false, false_or, Nat.reduceEqDiff, Option.map_some, Option.getD_some, Option.getD_none, and_assoc, exists_and_left, exists_and_right, rCall_f, rCall_g, f_pre, f_post, g_pre, g_post, g_exc, Prod.forall, Prod.exists, Prod.mk.injEq, exists_const, forall_const, argsD, conP, entD, remP, flagsP, flagAt, putP, aft, Ct.dt.injEq, forall_eq, forall_eq', forall_const, implies_true, false_implies, and_imp, forall_exists_index, forall_apply_eq_imp_iff, List.length_append, retD, rFor_L, asgLc, rLc_L, riList, riTup, riStr, riRange1, riRange2, riEnum, riRev, rgName, rgTup, rgCons, rgNil, wipeE, unw, rYes, rAsgG, rAsgSub, roSetL, rBM, rBM0, roAppend, roOwn0, isa_no, isa_bl, isa_in, isa_st, isa_by, isa_ls, isa_tu, isa_di, beq_self_eq_true, Bool.or_true, Bool.true_or, Bool.or_false, Bool.false_or, Bool.or_self, Bool.not_true, Bool.not_false, Bool.and_true, Bool.true_and, Bool.and_false, Bool.false_and, String.reduceBEq, String.reduceEq, not_true_eq_false, not_false_eq_true, rSlL', roNone, roSome, roCat, D.trk, rRaise0, rRaise1, excD, rTry, rEx, wMixD, goneD, List.isEmpty_nil, if_true, List.length_singleton, Nat.reduceLeDiff, Nat.reducePow, Int.reducePow, Int.reduceLT, Int.reduceLE, Int.reduceNeg, Int.reduceToNat, ms_History_sure_parents, S_surepar, exH, faH, exH0, keptK_hk, lkH_kept, lkH_sk, lkH_sp, lkH_add, lkH_all, lkH_has, lkH_par, gf_1, K_History.cl, nA_History_parents, histC, List.take_succ_cons, List.take_zero]
  rw [enumD_length, List.drop_length] at hb
  exact hb
/-! #### History.add -/
abbrev s_History_add : Stmt := inClass (top 11) 6
abbrev N_History_add : List Str := ["self", "name", "parents"]
abbrev P_History_add : List Str := ["self", "name", "parents"]
abbrev ms_History_add : List Md := [.p, .v, .b]
theorem sc_History_add : FnScope N_History_add P_History_add (defScope s_History_add) := ⟨rfl, rfl, rfl, by decide +kernel, rfl, by decide +kernel, by decide +kernel⟩
theorem ok_History_add {P : Program} {w : World} {K : PySem.W.Frag} {mg : Str → Option Value} {base : Heap} {f : Addr} {fd : FuncData} {c_FellError c_NoName c_Taken c_NoChange c_History : Addr} (G : Gs K mg c_FellError c_NoName c_Taken c_NoChange c_History) (h0 : HsM P w K mg base (L2.CX P w) 3 c_History "sure_parents" P_History_sure_parents (toSp K ms_History_sure_parents (S_surepar c_History c_NoChange))) (h1 : Hs P w K mg base CX0 1 "is_name" P_is_name (toSp K ms_is_name (S_is_name))) (X_NoChange : ExO P w K mg base "NoChange" c_NoChange "name") (X_NoName : ExO P w K mg base "NoName" c_NoName "name") (X_Taken : ExO P w K mg base "Taken" c_Taken "name") (K_History : ClF K mg "History" c_History) (nA_History_parents : NoAttr K c_History "parents") (F : Fun K "add" "History.add" s_History_add f fd) (mf : Meth K c_History "add" f) :
    HsM P w K mg base (L2.CX P w) 4 c_History "add" P_History_add (toSp K ms_History_add (S_add c_History c_NoName c_Taken c_NoChange)) := by
  obtain ⟨f0, fd0, F0, M0, b0⟩ := h0
  obtain ⟨f1, fd1, F1, m1, k1, b1⟩ := h1
  obtain ⟨fI_NoName, fdI_NoName, psI_NoName, iX_NoName, tX_NoName, FX_NoName, bX_NoName⟩ := X_NoName.ini
  obtain ⟨fI_Taken, fdI_Taken, psI_Taken, iX_Taken, tX_Taken, FX_Taken, bX_Taken⟩ := X_Taken.ini
  refine ⟨f, fd, ?_, mf, F.binds (ps := P_History_add) fun _ _ _ _ _ _ us hl => match us, hl with | [_, _, _], _ => rfl⟩
  refine F.okX sc_History_add (fun vs H Q E h => toSp_len h) (fun cdv A outer s H vs Q E hr h => ?_)
  have hu := hr.units
  refine ⟨_, pss_cons (ps_if (pt_not (pt_val (pe_callS (E := (fun _ => E)) F1 (hr.mono (by decide)) rfl m1 k1 b1 (fun _ => fun _ _ _ _ _ _ h => False.elim h) (pa_cons (pv 1) (pa_nil))))) (pss_one (ps_raise rfl (takes_of rfl rfl rfl rfl) (pmk_oex X_NoName.oc iX_NoName tX_NoName FX_NoName (hr.mono (by decide)) bX_NoName .nil (fun _ _ _ _ _ _ _ h => h.elim) rfl X_NoName.g (pa_cons (pv 1) (pa_nil))))) (pss_nil)) (pss_cons (ps_if (pt_cmp (pc_din (hu1 hu) (pv 1) (pe_fld (pv 0) rfl)) (by rfl)) (pss_one (ps_raise rfl (takes_of rfl rfl rfl rfl) (pmk_oex X_Taken.oc iX_Taken tX_Taken FX_Taken (hr.mono (by decide)) bX_Taken .nil (fun _ _ _ _ _ _ _ h => h.elim) rfl X_Taken.g (pa_cons (pv 1) (pa_nil))))) (pss_nil)) (pss_cons (ps_expr (pe_methS (E := _) (pv 0) K_History.cl M0 F0 (hr.mono (by decide)) b0 (fun σ => passAt (takes_of rfl rfl rfl rfl) σ) (pa_cons (pv 2) (pa_nil)))) (pss_one (ps_dput (hu1 hu) (pe_fld (pv 0) rfl) (pv 1) (pe_callTy call_list_of rfl G.b_list (by decide +kernel) (pa_cons (pv 2) (pa_nil))) (by rfl))))), ?_⟩
  refine run_body h (by decide) (fun as => ds_seq (ds_if (dt_not (dt_B (de_callS (ms := ms_is_name) (S := S_is_name) (fun _ _ _ _ h => h) (da_cons (de_var 1) (da_nil))))) (ds_raiseO (fun _ _ _ h => h) (da_cons (de_var 1) (da_nil))) (ds_next)) (ds_seq (ds_if (dt_B (de_din (de_var 1) (de_fldG (de_var 0)))) (ds_raiseO (fun _ _ _ h => h) (da_cons (de_var 1) (da_nil))) (ds_next)) (ds_seq (ds_drop (de_methS (X := _) (E := _) (S := S_surepar c_History c_NoChange) (fun _ _ _ _ h => h) (de_var 0) (da_cons (de_var 2) (da_nil)))) (ds_dput (de_fldG (de_var 0)) (de_var 1) (de_cb (dc_L1 l1_list) (da_cons (de_var 2) (da_nil))))))) (fun as hp hl => ?_)
  obtain ⟨p, hs, d, e, rfl, hd, hd2, he, hl⟩ := hp
  refine sg fun U1 e1 => ?_
  simp (maxSteps := 3000000) only [rPar, rParM, riRange3, roI2, rLcO_L, isN_eq, notN_eq, rSlTu, riZip, riZipO, riListO, rMinDef, rFldG, rSetFG, rDGet, rDIn, rDPut, roLenD, roListD, roSortD, rAsgStar, rForK_L, rDisp1, rSortST, rMakeC_f, kD, vD, iD, keyDt, own, wr, gput, gfind, keyD, keyDt, id_eq, roSplit, roStr1, rSlSt, rSlBy, rRevL, TruD, rOrT, rAndT, rMake_g, roCatA, roRep, rMeth_f, rMeth_g, roOwnB_f, MakeQ_g, rMakeK, roIsC, isC_ins, rFld, rSetF, rXfn, rXf, lk_eq, putD, Dt.ins.injEq, Dt.exn.injEq, RleS, RMulS, RMulZ, roJoin, rRet, rRetN, rSeq, rIfS, rAsg, rVar, ofEn, rC, rOp, rUn, roP, rCB, rCons, rNil, rAndV, rOrV, rNotV, rB, rAnd, rOr, rNot, rIf, rTup, rLst, rDrop, rNext, rNever, look, frz, frzs, looks, held, roIsi, roF1, roL1, roNeg, rDNew, startE, ents, ent, csOf, unal, finds, RI0, RI, int_in, int_bl, len_ls, len_tu, len_st, len_by, at0, at1, at2, at3, ix30, ix31, ix32, eq_ii, ne_ii, eq_by, ne_by, notin_c, in_c, D.rChain, RIxA, roTupOf, RListOf, RListB, List.findSome?, List.getElem?_cons_zero, List.getElem?_cons_succ, List.getElem?_nil, List.set_cons_zero, List.set_cons_succ, List.length_cons, List.length_nil, List.map_cons, List.map_nil, List.replicate, List.nil_append, List.cons_append, List.append_nil, Option.some.injEq, exists_eq_left', exists_eq_left, exists_eq', exists_eq, true_and, and_true, Vl.d.injEq, Vl.nw.injEq, Vl.sl.injEq, Dt.int.injEq, Dt.bl.injEq, Dt.str.injEq, Dt.lst.injEq, Dt.tup.injEq, Dt.byt.injEq, Dt.ty.injEq, Dt.ref.injEq, En.val.injEq, En.mu.injEq, En.bor.injEq, List.cons.injEq, Nat.reduceLT, Nat.reduceAdd, Nat.reduceSub, Nat.zero_add, and_self, ↓reduceIte, Bool.false_eq_true, reduceCtorEq, false_and, and_false, exists_const, exists_false, or_false, false_or, Nat.reduceEqDiff, Option.map_some, Option.getD_some, Option.getD_none, and_assoc, exists_and_left, exists_and_right, rCall_f, rCall_g, f_pre, f_post, g_pre, g_post, g_exc, Prod.forall, Prod.exists, Prod.mk.injEq, exists_const, forall_const, argsD, conP, entD, remP, flagsP, flagAt, putP, aft, Ct.dt.injEq, forall_eq, forall_eq', forall_const, implies_true, false_implies, and_imp, forall_exists_index, forall_apply_eq_imp_iff, List.length_append, retD, rFor_L, asgLc, rLc_L, riList, riTup, riStr, riRange1, riRange2, riEnum, riRev, rgName, rgTup, rgCons, rgNil, wipeE, unw, rYes, rAsgG, rAsgSub, roSetL, rBM, rBM0, roAppend, roOwn0, isa_no, isa_bl, isa_in, isa_st, isa_by, isa_ls, isa_tu, isa_di, beq_self_eq_true, Bool.or_true, Bool.true_or, Bool.or_false, Bool.false_or, Bool.or_self, Bool.not_true, Bool.not_false, Bool.and_true, Bool.true_and, Bool.and_false, Bool.false_and, String.reduceBEq, String.reduceEq, not_true_eq_false, not_false_eq_true, rSlL', roNone, roSome, roCat, D.trk, rRaise0, rRaise1, excD, rTry, rEx, wMixD, goneD, List.isEmpty_nil, if_true, List.length_singleton, Nat.reduceLeDiff, Nat.reducePow, Int.reducePow, Int.reduceLT, Int.reduceLE, Int.reduceNeg, Int.reduceToNat, ms_History_add, S_add, ms_is_name, S_is_name, hd, exH, faH, exH0, keptK_hk, lkH_kept, lkH_sk, lkH_sp, lkH_add, lkH_all, lkH_has, lkH_par, gf_1, K_History.cl, nA_History_parents, histC, List.take_succ_cons, List.take_zero]
  refine ⟨hd2, ?_⟩
  cases hn : nameS d with
  | false =>
    rw [if_pos (by decide)]
    exact ⟨0, d, by unfold badAdd; rw [hn]; rfl, rfl, rfl⟩
  | true =>
  rw [if_neg (by decide)]
  obtain ⟨s, rfl, hsl⟩ := name_str hn
  subst e1
  refine sg fun U1 e1 => ?_
  simp (maxSteps := 3000000) only [rPar, rParM, riRange3, roI2, rLcO_L, isN_eq, notN_eq, rSlTu, riZip, riZipO, riListO, rMinDef, rFldG, rSetFG, rDGet, rDIn, rDPut, roLenD, roListD, roSortD, rAsgStar, rForK_L, rDisp1, rSortST, rMakeC_f, kD, vD, iD, keyDt, own, wr, gput, gfind, keyD, keyDt, id_eq, roSplit, roStr1, rSlSt, rSlBy, rRevL, TruD, rOrT, rAndT, rMake_g, roCatA, roRep, rMeth_f, rMeth_g, roOwnB_f, MakeQ_g, rMakeK, roIsC, isC_ins, rFld, rSetF, rXfn, rXf, lk_eq, putD, Dt.ins.injEq, Dt.exn.injEq, RleS, RMulS, RMulZ, roJoin, rRet, rRetN, rSeq, rIfS, rAsg, rVar, ofEn, rC, rOp, rUn, roP, rCB, rCons, rNil, rAndV, rOrV, rNotV, rB, rAnd, rOr, rNot, rIf, rTup, rLst, rDrop, rNext, rNever, look, frz, frzs, looks, held, roIsi, roF1, roL1, roNeg, rDNew, startE, ents, ent, csOf, unal, finds, RI0, RI, int_in, int_bl, len_ls, len_tu, len_st, len_by, at0, at1, at2, at3, ix30, ix31, ix32, eq_ii, ne_ii, eq_by, ne_by, notin_c, in_c, D.rChain, RIxA, roTupOf, RListOf, RListB, List.findSome?, List.getElem?_cons_zero, List.getElem?_cons_succ, List.getElem?_nil, List.set_cons_zero, List.set_cons_succ, List.length_cons, List.length_nil, List.map_cons, List.map_nil, List.replicate, List.nil_append, List.cons_append, List.append_nil, Option.some.injEq, exists_eq_left', exists_eq_left, exists_eq', exists_eq, true_and, and_true, Vl.d.injEq, Vl.nw.injEq, Vl.sl.injEq, Dt.int.injEq, Dt.bl.injEq, Dt.str.injEq, Dt.lst.injEq, Dt.tup.injEq, Dt.byt.injEq, Dt.ty.injEq, Dt.ref.injEq, En.val.injEq, En.mu.injEq, En.bor.injEq, List.cons.injEq, Nat.reduceLT, Nat.reduceAdd, Nat.reduceSub, Nat.zero_add, and_self, ↓reduceIte, Bool.false_eq_true, reduceCtorEq, false_and, and_false, exists_const, exists_false, or_false, false_or, Nat.reduceEqDiff, Option.map_some, Option.getD_some, Option.getD_none, and_assoc, exists_and_left, exists_and_right, rCall_f, rCall_g, f_pre, f_post, g_pre, g_post, g_exc, Prod.forall, Prod.exists, Prod.mk.injEq, exists_const, forall_const, argsD, conP, entD, remP, flagsP, flagAt, putP, aft, Ct.dt.injEq, forall_eq, forall_eq', forall_const, implies_true, false_implies, and_imp, forall_exists_index, forall_apply_eq_imp_iff, List.length_append, retD, rFor_L, asgLc, rLc_L, riList, riTup, riStr, riRange1, riRange2, riEnum, riRev, rgName, rgTup, rgCons, rgNil, wipeE, unw, rYes, rAsgG, rAsgSub, roSetL, rBM, rBM0, roAppend, roOwn0, isa_no, isa_bl, isa_in, isa_st, isa_by, isa_ls, isa_tu, isa_di, beq_self_eq_true, Bool.or_true, Bool.true_or, Bool.or_false, Bool.false_or, Bool.or_self, Bool.not_true, Bool.not_false, Bool.and_true, Bool.true_and, Bool.and_false, Bool.false_and, String.reduceBEq, String.reduceEq, not_true_eq_false, not_false_eq_true, rSlL', roNone, roSome, roCat, D.trk, rRaise0, rRaise1, excD, rTry, rEx, wMixD, goneD, List.isEmpty_nil, if_true, List.length_singleton, Nat.reduceLeDiff, Nat.reducePow, Int.reducePow, Int.reduceLT, Int.reduceLE, Int.reduceNeg, Int.reduceToNat, ms_History_add, S_add, exH, faH, exH0, keptK_hk, lkH_kept, lkH_sk, lkH_sp, lkH_add, lkH_all, lkH_has, lkH_par, gf_1, K_History.cl, nA_History_parents, histC, List.take_succ_cons, List.take_zero]
  refine ⟨rfl, _, rfl, ?_⟩
  rw [show (dget (hk hs) (Sum.inr s)).isSome = keptB hs (.str s) from keptK_hk (d := .str s)]
  cases hkp : keptB hs (.str s) with
  | true =>
    rw [if_pos rfl]
    exact ⟨1, _, by unfold badAdd; rw [hn, hkp]; rfl, rfl, rfl⟩
  | false =>
  rw [if_neg (by decide)]
  have hba : badAdd hs (.str s) e = (badPars hs e).map fun b => (2, b) := by unfold badAdd; rw [hn, hkp]; rfl
  subst e1
  refine sg fun U1 e1 => ?_
  simp (maxSteps := 3000000) only [rPar, rParM, riRange3, roI2, rLcO_L, isN_eq, notN_eq, rSlTu, riZip, riZipO, riListO, rMinDef, rFldG, rSetFG, rDGet, rDIn, rDPut, roLenD, roListD, roSortD, rAsgStar, rForK_L, rDisp1, rSortST, rMakeC_f, kD, vD, iD, keyDt, own, wr, gput, gfind, keyD, keyDt, id_eq, roSplit, roStr1, rSlSt, rSlBy, rRevL, TruD, rOrT, rAndT, rMake_g, roCatA, roRep, rMeth_f, rMeth_g, roOwnB_f, MakeQ_g, rMakeK, roIsC, isC_ins, rFld, rSetF, rXfn, rXf, lk_eq, putD, Dt.ins.injEq, Dt.exn.injEq, RleS, RMulS, RMulZ, roJoin, rRet, rRetN, rSeq, rIfS, rAsg, rVar, ofEn, rC, rOp, rUn, roP, rCB, rCons, rNil, rAndV, rOrV, rNotV, rB, rAnd, rOr, rNot, rIf, rTup, rLst, rDrop, rNext, rNever, look, frz, frzs, looks, held, roIsi, roF1, roL1, roNeg, rDNew, startE, ents, ent, csOf, unal, finds, RI0, RI, int_in, int_bl, len_ls, len_tu, len_st, len_by, at0, at1, at2, at3, ix30, ix31, ix32, eq_ii, ne_ii, eq_by, ne_by, notin_c, in_c, D.rChain, RIxA, roTupOf, RListOf, RListB, List.findSome?, List.getElem?_cons_zero, List.getElem?_cons_succ, List.getElem?_nil, List.set_cons_zero, List.set_cons_succ, List.length_cons, List.length_nil, List.map_cons, List.map_nil, List.replicate, List.nil_append, List.cons_append, List.append_nil, Option.some.injEq, exists_eq_left', exists_eq_left, exists_eq', exists_eq, true_and, and_true, Vl.d.injEq, Vl.nw.injEq, Vl.sl.injEq, Dt.int.injEq, Dt.bl.injEq, Dt.str.injEq, Dt.lst.injEq, Dt.tup.injEq, Dt.byt.injEq, Dt.ty.injEq, Dt.ref.injEq, En.val.injEq, En.mu.injEq, En.bor.injEq, List.cons.injEq, Nat.reduceLT, Nat.reduceAdd, Nat.reduceSub, Nat.zero_add, and_self, ↓reduceIte, Bool.false_eq_true, reduceCtorEq, false_and, and_false, exists_const, exists_false, or_false, false_or, Nat.reduceEqDiff, Option.map_some, Option.getD_some, Option.getD_none, and_assoc, exists_and_left, exists_and_right, rCall_f, rCall_g, f_pre, f_post, g_pre, g_post, g_exc, Prod.forall, Prod.exists, Prod.mk.injEq, exists_const, forall_const, argsD, conP, entD, remP, flagsP, flagAt, putP, aft, Ct.dt.injEq, forall_eq, forall_eq', forall_const, implies_true, false_implies, and_imp, forall_exists_index, forall_apply_eq_imp_iff, List.length_append, retD, rFor_L, asgLc, rLc_L, riList, riTup, riStr, riRange1, riRange2, riEnum, riRev, rgName, rgTup, rgCons, rgNil, wipeE, unw, rYes, rAsgG, rAsgSub, roSetL, rBM, rBM0, roAppend, roOwn0, isa_no, isa_bl, isa_in, isa_st, isa_by, isa_ls, isa_tu, isa_di, beq_self_eq_true, Bool.or_true, Bool.true_or, Bool.or_false, Bool.false_or, Bool.or_self, Bool.not_true, Bool.not_false, Bool.and_true, Bool.true_and, Bool.and_false, Bool.false_and, String.reduceBEq, String.reduceEq, not_true_eq_false, not_false_eq_true, rSlL', roNone, roSome, roCat, D.trk, rRaise0, rRaise1, excD, rTry, rEx, wMixD, goneD, List.isEmpty_nil, if_true, List.length_singleton, Nat.reduceLeDiff, Nat.reducePow, Int.reducePow, Int.reduceLT, Int.reduceLE, Int.reduceNeg, Int.reduceToNat, ms_History_add, S_add, ms_History_sure_parents, S_surepar, exH, faH, exH0, keptK_hk, lkH_kept, lkH_sk, lkH_sp, lkH_add, lkH_all, lkH_has, lkH_par, gf_1, K_History.cl, nA_History_parents, histC, List.take_succ_cons, List.take_zero]
  refine ⟨he, fun hb => ?_, fun b hb => ⟨2, b, by rw [hba, hb]; rfl, rfl, rfl⟩⟩
  have hba' : badAdd hs (.str s) e = none := by rw [hba, hb]; rfl
  obtain ⟨ds, rfl⟩ : ∃ ds, e = .lst ds := by cases e <;> first | exact ⟨_, rfl⟩ | cases hb
  have hb' : badPar hs [] ds = none := hb
  obtain ⟨ps, rfl, hps⟩ := kept_strs (badPar_strs hb')
  have hns : s ∉ hNames hs := of_decide_eq_false hkp
  subst e1
  simp (maxSteps := 3000000) only [rPar, rParM, riRange3, roI2, rLcO_L, isN_eq, notN_eq, rSlTu, riZip, riZipO, riListO, rMinDef, rFldG, rSetFG, rDGet, rDIn, rDPut, roLenD, roListD, roSortD, rAsgStar, rForK_L, rDisp1, rSortST, rMakeC_f, kD, vD, iD, keyDt, own, wr, gput, gfind, keyD, keyDt, id_eq, roSplit, roStr1, rSlSt, rSlBy, rRevL, TruD, rOrT, rAndT, rMake_g, roCatA, roRep, rMeth_f, rMeth_g, roOwnB_f, MakeQ_g, rMakeK, roIsC, isC_ins, rFld, rSetF, rXfn, rXf, lk_eq, putD, Dt.ins.injEq, Dt.exn.injEq, RleS, RMulS, RMulZ, roJoin, rRet, rRetN, rSeq, rIfS, rAsg, rVar, ofEn, rC, rOp, rUn, roP, rCB, rCons, rNil, rAndV, rOrV, rNotV, rB, rAnd, rOr, rNot, rIf, rTup, rLst, rDrop, rNext, rNever, look, frz, frzs, looks, held, roIsi, roF1, roL1, roNeg, rDNew, startE, ents, ent, csOf, unal, finds, RI0, RI, int_in, int_bl, len_ls, len_tu, len_st, len_by, at0, at1, at2, at3, ix30, ix31, ix32, eq_ii, ne_ii, eq_by, ne_by, notin_c, in_c, D.rChain, RIxA, roTupOf, RListOf, RListB, List.findSome?, List.getElem?_cons_zero, List.getElem?_cons_succ, List.getElem?_nil, List.set_cons_zero, List.set_cons_succ, List.length_cons, List.length_nil, List.map_cons, List.map_nil, List.replicate, List.nil_append, List.cons_append, List.append_nil, Option.some.injEq, exists_eq_left', exists_eq_left, exists_eq', exists_eq, true_and, and_true, Vl.d.injEq, Vl.nw.injEq, Vl.sl.injEq, Dt.int.injEq, Dt.bl.injEq, Dt.str.injEq, Dt.lst.injEq, Dt.tup.injEq, Dt.byt.injEq, Dt.ty.injEq, Dt.ref.injEq, En.val.injEq, En.mu.injEq, En.bor.injEq, List.cons.injEq, Nat.reduceLT, Nat.reduceAdd, Nat.reduceSub, Nat.zero_add, and_self, ↓reduceIte, Bool.false_eq_true, reduceCtorEq, false_and, and_false, exists_const, exists_false, or_false, false_or, Nat.reduceEqDiff, Option.map_some, Option.getD_some, Option.getD_none, and_assoc, exists_and_left, exists_and_right, rCall_f, rCall_g, f_pre, f_post, g_pre, g_post, g_exc, Prod.forall, Prod.exists, Prod.mk.injEq, exists_const, forall_const, argsD, conP, entD, remP, flagsP, flagAt, putP, aft, Ct.dt.injEq, forall_eq, forall_eq', forall_const, implies_true, false_implies, and_imp, forall_exists_index, forall_apply_eq_imp_iff, List.length_append, retD, rFor_L, asgLc, rLc_L, riList, riTup, riStr, riRange1, riRange2, riEnum, riRev, rgName, rgTup, rgCons, rgNil, wipeE, unw, rYes, rAsgG, rAsgSub, roSetL, rBM, rBM0, roAppend, roOwn0, isa_no, isa_bl, isa_in, isa_st, isa_by, isa_ls, isa_tu, isa_di, beq_self_eq_true, Bool.or_true, Bool.true_or, Bool.or_false, Bool.false_or, Bool.or_self, Bool.not_true, Bool.not_false, Bool.and_true, Bool.true_and, Bool.and_false, Bool.false_and, String.reduceBEq, String.reduceEq, not_true_eq_false, not_false_eq_true, rSlL', roNone, roSome, roCat, D.trk, rRaise0, rRaise1, excD, rTry, rEx, wMixD, goneD, List.isEmpty_nil, if_true, List.length_singleton, Nat.reduceLeDiff, Nat.reducePow, Int.reducePow, Int.reduceLT, Int.reduceLE, Int.reduceNeg, Int.reduceToNat, ms_History_add, S_add, exH, faH, exH0, keptK_hk, lkH_kept, lkH_sk, lkH_sp, lkH_add, lkH_all, lkH_has, lkH_par, gf_1, K_History.cl, nA_History_parents, histC, List.take_succ_cons, List.take_zero]
  exact ⟨rfl, _, rfl, by rw [hk_len]; omega, p, hs ++ [(s, ps)], ⟨ps, rfl, hba', rfl, rfl⟩, by rw [dput_hk hns]⟩
/-! #### History.all_of -/
abbrev s_History_all_of : Stmt := inClass (top 11) 7
abbrev N_History_all_of : List Str := ["self", "name", "found", "todo", "last", "parent"]
abbrev P_History_all_of : List Str := ["self", "name"]
abbrev ms_History_all_of : List Md := [.p, .v]
theorem sc_History_all_of : FnScope N_History_all_of P_History_all_of (defScope s_History_all_of) := ⟨rfl, rfl, rfl, by decide +kernel, rfl, by decide +kernel, by decide +kernel⟩
theorem ok_History_all_of {P : Program} {w : World} {K : PySem.W.Frag} {mg : Str → Option Value} {base : Heap} {f : Addr} {fd : FuncData} {c_FellError c_NoName c_Taken c_NoChange c_History : Addr} (G : Gs K mg c_FellError c_NoName c_Taken c_NoChange c_History) (h0 : HsM P w K mg base (L2.CX P w) 3 c_History "sure_kept" P_History_sure_kept (toSp K ms_History_sure_kept (S_surekept c_History c_NoChange))) (X_NoChange : ExO P w K mg base "NoChange" c_NoChange "name") (X_NoName : ExO P w K mg base "NoName" c_NoName "name") (X_Taken : ExO P w K mg base "Taken" c_Taken "name") (K_History : ClF K mg "History" c_History) (nA_History_parents : NoAttr K c_History "parents") (F : Fun K "all_of" "History.all_of" s_History_all_of f fd) (mf : Meth K c_History "all_of" f) :
    HsM P w K mg base (L2.CX P w) 4 c_History "all_of" P_History_all_of (toSp K ms_History_all_of (S_allof c_History c_NoChange)) := by
  obtain ⟨f0, fd0, F0, M0, b0⟩ := h0
  refine ⟨f, fd, ?_, mf, F.binds (ps := P_History_all_of) fun _ _ _ _ _ _ us hl => match us, hl with | [_, _], _ => rfl⟩
  refine F.okX sc_History_all_of (fun vs H Q E h => toSp_len h) (fun cdv A outer s H vs Q E hr h => ?_)
  have hu := hr.units
  refine ⟨_, pss_cons (ps_expr (pe_methS (E := _) (pv 0) K_History.cl M0 F0 (hr.mono (by decide)) b0 (fun σ => passAt (takes_of rfl rfl rfl rfl) σ) (pa_cons (pv 1) (pa_nil)))) (pss_cons (ps_set (i := 2) sc_History_all_of.nd rfl (by first | exact Or.inl rfl | exact Or.inr rfl) (pe_disp (pps_cons (pv 1) (pe_bl) pps_nil) rfl rfl (by simp) (by decide))) (pss_cons (ps_set (i := 3) sc_History_all_of.nd rfl (by first | exact Or.inl rfl | exact Or.inr rfl) (pe_lst (pa_cons (pv 1) (pa_nil)))) (pss_cons (ps_while (passes_of rfl) (pt_cmpR ((op_neA hu)) (pv 3) (pe_lst (pa_nil)) (nomark _)) (pss_cons (ps_asg (pv 3) (pg_star rfl (pgs_cons (pg_name (i := 3) sc_History_all_of.nd rfl (by first | exact Or.inl rfl | exact Or.inr rfl | exact .inr (.inl rfl) | exact .inr (.inr rfl))) (pgs_cons (pg_name (i := 4) sc_History_all_of.nd rfl (by first | exact Or.inl rfl | exact Or.inr rfl | exact .inr (.inl rfl) | exact .inr (.inr rfl))) pgs_nil)))) (pss_one (ps_for (passes_of rfl) rfl (pi_list (pe_dget (hu1 hu) (pe_fld (pv 0) rfl) (pv 4) (fun _ _ => rfl))) (pg_name (i := 5) sc_History_all_of.nd rfl (by first | exact Or.inl rfl | exact Or.inr rfl | exact .inr (.inl rfl) | exact .inr (.inr rfl))) (pss_one (ps_if (pt_cmp (pc_dnotin (hu1 hu) (pv 5) (pv 2)) (by rfl)) (pss_cons (ps_dput (hu1 hu) (pv 2) (pv 5) (pe_bl) (by rfl)) (pss_one (ps_expr (pe_bm PySem.F.plainAttrs_list PySem.F.slot_list_append PySem.F.type_list_append mt_append (pv 3) (pa_cons (pv 5) (pa_nil)))))) (pss_nil))))))) (pss_one (ps_ret (pe_callB (call_sortedD rfl) rfl G.b_sorted (by decide +kernel) (pa_cons (pv 2) (pa_nil)))))))), ?_⟩
  refine run_body h (by decide) (fun as => ds_seq (ds_drop (de_methS (X := _) (E := _) (S := S_surekept c_History c_NoChange) (fun _ _ _ _ h => h) (de_var 0) (da_cons (de_var 1) (da_nil)))) (ds_seq (ds_asg (de_disp1 (de_var 1) (de_bl)) 2) (ds_seq (ds_asg (de_lst (da_cons (de_var 1) (da_nil))) 3) (ds_seq (ds_wh (dt_test (de_op (d2_P p2_ne) (de_var 3) (de_lst (da_nil)))) (ds_seq (ds_asgStar (de_var 3) 3 4) (ds_for (di_list (de_dget (de_fldG (de_var 0)) (de_var 4))) (dg_name 5) (ds_if (dt_B (de_dnotin (de_var 5) (de_var 2))) (ds_seq (ds_dput (de_var 2) (de_var 5) (de_bl)) (ds_drop (de_bm dm_append (de_var 3) (da_cons (de_var 5) (da_nil))))) (ds_next))))) (ds_ret (de_cb (dc_sortD) (da_cons (de_var 2) (da_nil)))))))) (fun as hp hl => ?_)
  obtain ⟨p, hs, d, rfl, hd, ho⟩ := hp
  refine sg fun U1 e1 => ?_
  simp (maxSteps := 3000000) only [rPar, rParM, riRange3, roI2, rLcO_L, isN_eq, notN_eq, rSlTu, riZip, riZipO, riListO, rMinDef, rFldG, rSetFG, rDGet, rDIn, rDPut, roLenD, roListD, roSortD, rAsgStar, rForK_L, rDisp1, rSortST, rMakeC_f, kD, vD, iD, keyDt, own, wr, gput, gfind, keyD, keyDt, id_eq, roSplit, roStr1, rSlSt, rSlBy, rRevL, TruD, rOrT, rAndT, rMake_g, roCatA, roRep, rMeth_f, rMeth_g, roOwnB_f, MakeQ_g, rMakeK, roIsC, isC_ins, rFld, rSetF, rXfn, rXf, lk_eq, putD, Dt.ins.injEq, Dt.exn.injEq, RleS, RMulS, RMulZ, roJoin, rRet, rRetN, rSeq, rIfS, rAsg, rVar, ofEn, rC, rOp, rUn, roP, rCB, rCons, rNil, rAndV, rOrV, rNotV, rB, rAnd, rOr, rNot, rIf, rTup, rLst, rDrop, rNext, rNever, look, frz, frzs, looks, held, roIsi, roF1, roL1, roNeg, rDNew, startE, ents, ent, csOf, unal, finds, RI0, RI, int_in, int_bl, len_ls, len_tu, len_st, len_by, at0, at1, at2, at3, ix30, ix31, ix32, eq_ii, ne_ii, eq_by, ne_by, notin_c, in_c, D.rChain, RIxA, roTupOf, RListOf, RListB, List.findSome?, List.getElem?_cons_zero, List.getElem?_cons_succ, List.getElem?_nil, List.set_cons_zero, List.set_cons_succ, List.length_cons, List.length_nil, List.map_cons, List.map_nil, List.replicate, List.nil_append, List.cons_append, List.append_nil, Option.some.injEq, exists_eq_left', exists_eq_left, exists_eq', exists_eq, true_and, and_true, Vl.d.injEq, Vl.nw.injEq, Vl.sl.injEq, Dt.int.injEq, Dt.bl.injEq, Dt.str.injEq, Dt.lst.injEq, Dt.tup.injEq, Dt.byt.injEq, Dt.ty.injEq, Dt.ref.injEq, En.val.injEq, En.mu.injEq, En.bor.injEq, List.cons.injEq, Nat.reduceLT, Nat.reduceAdd, Nat.reduceSub, Nat.zero_add, and_self, ↓reduceIte, Bool.false_eq_true, reduceCtorEq, false_and, and_false, exists_const, exists_false, or_false, false_or, Nat.reduceEqDiff, Option.map_some, Option.getD_some, Option.getD_none, and_assoc, exists_and_left, exists_and_right, rCall_f, rCall_g, f_pre, f_post, g_pre, g_post, g_exc, Prod.forall, Prod.exists, Prod.mk.injEq, exists_const, forall_const, argsD, conP, entD, remP, flagsP, flagAt, putP, aft, Ct.dt.injEq, forall_eq, forall_eq', forall_const, implies_true, false_implies, and_imp, forall_exists_index, forall_apply_eq_imp_iff, List.length_append, retD, rFor_L, asgLc, rLc_L, riList, riTup, riStr, riRange1, riRange2, riEnum, riRev, rgName, rgTup, rgCons, rgNil, wipeE, unw, rYes, rAsgG, rAsgSub, roSetL, rBM, rBM0, roAppend, roOwn0, isa_no, isa_bl, isa_in, isa_st, isa_by, isa_ls, isa_tu, isa_di, beq_self_eq_true, Bool.or_true, Bool.true_or, Bool.or_false, Bool.false_or, Bool.or_self, Bool.not_true, Bool.not_false, Bool.and_true, Bool.true_and, Bool.and_false, Bool.false_and, String.reduceBEq, String.reduceEq, not_true_eq_false, not_false_eq_true, rSlL', roNone, roSome, roCat, D.trk, rRaise0, rRaise1, excD, rTry, rEx, wMixD, goneD, List.isEmpty_nil, if_true, List.length_singleton, Nat.reduceLeDiff, Nat.reducePow, Int.reducePow, Int.reduceLT, Int.reduceLE, Int.reduceNeg, Int.reduceToNat, ms_History_all_of, S_allof, ms_History_sure_kept, S_surekept, hd, exH, faH, exH0, keptK_hk, lkH_kept, lkH_sk, lkH_sp, lkH_add, lkH_all, lkH_has, lkH_par, gf_1, K_History.cl, nA_History_parents, histC, List.take_succ_cons, List.take_zero]
  refine ⟨fun hkp => ?_, fun h => h⟩
  obtain ⟨s, rfl, hs'⟩ := kept_str hkp
  subst e1
  refine sg fun U1 e1 => ?_
  simp (maxSteps := 3000000) only [rPar, rParM, riRange3, roI2, rLcO_L, isN_eq, notN_eq, rSlTu, riZip, riZipO, riListO, rMinDef, rFldG, rSetFG, rDGet, rDIn, rDPut, roLenD, roListD, roSortD, rAsgStar, rForK_L, rDisp1, rSortST, rMakeC_f, kD, vD, iD, keyDt, own, wr, gput, gfind, keyD, keyDt, id_eq, roSplit, roStr1, rSlSt, rSlBy, rRevL, TruD, rOrT, rAndT, rMake_g, roCatA, roRep, rMeth_f, rMeth_g, roOwnB_f, MakeQ_g, rMakeK, roIsC, isC_ins, rFld, rSetF, rXfn, rXf, lk_eq, putD, Dt.ins.injEq, Dt.exn.injEq, RleS, RMulS, RMulZ, roJoin, rRet, rRetN, rSeq, rIfS, rAsg, rVar, ofEn, rC, rOp, rUn, roP, rCB, rCons, rNil, rAndV, rOrV, rNotV, rB, rAnd, rOr, rNot, rIf, rTup, rLst, rDrop, rNext, rNever, look, frz, frzs, looks, held, roIsi, roF1, roL1, roNeg, rDNew, startE, ents, ent, csOf, unal, finds, RI0, RI, int_in, int_bl, len_ls, len_tu, len_st, len_by, at0, at1, at2, at3, ix30, ix31, ix32, eq_ii, ne_ii, eq_by, ne_by, notin_c, in_c, D.rChain, RIxA, roTupOf, RListOf, RListB, List.findSome?, List.getElem?_cons_zero, List.getElem?_cons_succ, List.getElem?_nil, List.set_cons_zero, List.set_cons_succ, List.length_cons, List.length_nil, List.map_cons, List.map_nil, List.replicate, List.nil_append, List.cons_append, List.append_nil, Option.some.injEq, exists_eq_left', exists_eq_left, exists_eq', exists_eq, true_and, and_true, Vl.d.injEq, Vl.nw.injEq, Vl.sl.injEq, Dt.int.injEq, Dt.bl.injEq, Dt.str.injEq, Dt.lst.injEq, Dt.tup.injEq, Dt.byt.injEq, Dt.ty.injEq, Dt.ref.injEq, En.val.injEq, En.mu.injEq, En.bor.injEq, List.cons.injEq, Nat.reduceLT, Nat.reduceAdd, Nat.reduceSub, Nat.zero_add, and_self, ↓reduceIte, Bool.false_eq_true, reduceCtorEq, false_and, and_false, exists_const, exists_false, or_false, false_or, Nat.reduceEqDiff, Option.map_some, Option.getD_some, Option.getD_none, and_assoc, exists_and_left, exists_and_right, rCall_f, rCall_g, f_pre, f_post, g_pre, g_post, g_exc, Prod.forall, Prod.exists, Prod.mk.injEq, exists_const, forall_const, argsD, conP, entD, remP, flagsP, flagAt, putP, aft, Ct.dt.injEq, forall_eq, forall_eq', forall_const, implies_true, false_implies, and_imp, forall_exists_index, forall_apply_eq_imp_iff, List.length_append, retD, rFor_L, asgLc, rLc_L, riList, riTup, riStr, riRange1, riRange2, riEnum, riRev, rgName, rgTup, rgCons, rgNil, wipeE, unw, rYes, rAsgG, rAsgSub, roSetL, rBM, rBM0, roAppend, roOwn0, isa_no, isa_bl, isa_in, isa_st, isa_by, isa_ls, isa_tu, isa_di, beq_self_eq_true, Bool.or_true, Bool.true_or, Bool.or_false, Bool.false_or, Bool.or_self, Bool.not_true, Bool.not_false, Bool.and_true, Bool.true_and, Bool.and_false, Bool.false_and, String.reduceBEq, String.reduceEq, not_true_eq_false, not_false_eq_true, rSlL', roNone, roSome, roCat, D.trk, rRaise0, rRaise1, excD, rTry, rEx, wMixD, goneD, List.isEmpty_nil, if_true, List.length_singleton, Nat.reduceLeDiff, Nat.reducePow, Int.reducePow, Int.reduceLT, Int.reduceLE, Int.reduceNeg, Int.reduceToNat, ms_History_all_of, S_allof, exH, faH, exH0, keptK_hk, lkH_kept, lkH_sk, lkH_sp, lkH_add, lkH_all, lkH_has, lkH_par, gf_1, K_History.cl, nA_History_parents, histC, List.take_succ_cons, List.take_zero]
  subst e1
  refine sg fun U1 e1 => ?_
  simp (maxSteps := 3000000) only [rPar, rParM, riRange3, roI2, rLcO_L, isN_eq, notN_eq, rSlTu, riZip, riZipO, riListO, rMinDef, rFldG, rSetFG, rDGet, rDIn, rDPut, roLenD, roListD, roSortD, rAsgStar, rForK_L, rDisp1, rSortST, rMakeC_f, kD, vD, iD, keyDt, own, wr, gput, gfind, keyD, keyDt, id_eq, roSplit, roStr1, rSlSt, rSlBy, rRevL, TruD, rOrT, rAndT, rMake_g, roCatA, roRep, rMeth_f, rMeth_g, roOwnB_f, MakeQ_g, rMakeK, roIsC, isC_ins, rFld, rSetF, rXfn, rXf, lk_eq, putD, Dt.ins.injEq, Dt.exn.injEq, RleS, RMulS, RMulZ, roJoin, rRet, rRetN, rSeq, rIfS, rAsg, rVar, ofEn, rC, rOp, rUn, roP, rCB, rCons, rNil, rAndV, rOrV, rNotV, rB, rAnd, rOr, rNot, rIf, rTup, rLst, rDrop, rNext, rNever, look, frz, frzs, looks, held, roIsi, roF1, roL1, roNeg, rDNew, startE, ents, ent, csOf, unal, finds, RI0, RI, int_in, int_bl, len_ls, len_tu, len_st, len_by, at0, at1, at2, at3, ix30, ix31, ix32, eq_ii, ne_ii, eq_by, ne_by, notin_c, in_c, D.rChain, RIxA, roTupOf, RListOf, RListB, List.findSome?, List.getElem?_cons_zero, List.getElem?_cons_succ, List.getElem?_nil, List.set_cons_zero, List.set_cons_succ, List.length_cons, List.length_nil, List.map_cons, List.map_nil, List.replicate, List.nil_append, List.cons_append, List.append_nil, Option.some.injEq, exists_eq_left', exists_eq_left, exists_eq', exists_eq, true_and, and_true, Vl.d.injEq, Vl.nw.injEq, Vl.sl.injEq, Dt.int.injEq, Dt.bl.injEq, Dt.str.injEq, Dt.lst.injEq, Dt.tup.injEq, Dt.byt.injEq, Dt.ty.injEq, Dt.ref.injEq, En.val.injEq, En.mu.injEq, En.bor.injEq, List.cons.injEq, Nat.reduceLT, Nat.reduceAdd, Nat.reduceSub, Nat.zero_add, and_self, ↓reduceIte, Bool.false_eq_true, reduceCtorEq, false_and, and_false, exists_const, exists_false, or_false, false_or, Nat.reduceEqDiff, Option.map_some, Option.getD_some, Option.getD_none, and_assoc, exists_and_left, exists_and_right, rCall_f, rCall_g, f_pre, f_post, g_pre, g_post, g_exc, Prod.forall, Prod.exists, Prod.mk.injEq, exists_const, forall_const, argsD, conP, entD, remP, flagsP, flagAt, putP, aft, Ct.dt.injEq, forall_eq, forall_eq', forall_const, implies_true, false_implies, and_imp, forall_exists_index, forall_apply_eq_imp_iff, List.length_append, retD, rFor_L, asgLc, rLc_L, riList, riTup, riStr, riRange1, riRange2, riEnum, riRev, rgName, rgTup, rgCons, rgNil, wipeE, unw, rYes, rAsgG, rAsgSub, roSetL, rBM, rBM0, roAppend, roOwn0, isa_no, isa_bl, isa_in, isa_st, isa_by, isa_ls, isa_tu, isa_di, beq_self_eq_true, Bool.or_true, Bool.true_or, Bool.or_false, Bool.false_or, Bool.or_self, Bool.not_true, Bool.not_false, Bool.and_true, Bool.true_and, Bool.and_false, Bool.false_and, String.reduceBEq, String.reduceEq, not_true_eq_false, not_false_eq_true, rSlL', roNone, roSome, roCat, D.trk, rRaise0, rRaise1, excD, rTry, rEx, wMixD, goneD, List.isEmpty_nil, if_true, List.length_singleton, Nat.reduceLeDiff, Nat.reducePow, Int.reducePow, Int.reduceLT, Int.reduceLE, Int.reduceNeg, Int.reduceToNat, ms_History_all_of, S_allof, exH, faH, exH0, keptK_hk, lkH_kept, lkH_sk, lkH_sp, lkH_add, lkH_all, lkH_has, lkH_par, gf_1, K_History.cl, nA_History_parents, histC, List.take_succ_cons, List.take_zero]
  subst e1
  refine sg fun U1 e1 => ?_
  refine lw_of (fun m η' => ∃ fs ts c4 c5, m = 2 * (hs.length - fs.length) + ts.length ∧ AllInv hs s fs ts ∧ η' = [some (.mu (some 0) (histC c_History p hs)), some (.val (.str s)), some (.mu none (.dt (.dct (fs.map fun f => (Sum.inr f, .bl true))))), some (.mu none (.dt (.lst (ts.map .str)))), c4, c5]) _ ⟨[s], [s], _, _, rfl, .start hs', rfl⟩ ?_
  rintro m η' ⟨fs, ts, c4, c5, rfl, hinv, rfl⟩
  have hfl : fs.length ≤ hs.length := by
    have h1 := nd_len hinv.nd hinv.inn
    rw [hNames, List.length_map] at h1
    exact h1
  have hhl := ho.len
  simp (maxSteps := 3000000) only [rPar, rParM, riRange3, roI2, rLcO_L, isN_eq, notN_eq, rSlTu, riZip, riZipO, riListO, rMinDef, rFldG, rSetFG, rDGet, rDIn, rDPut, roLenD, roListD, roSortD, rAsgStar, rForK_L, rDisp1, rSortST, rMakeC_f, kD, vD, iD, keyDt, own, wr, gput, gfind, keyD, keyDt, id_eq, roSplit, roStr1, rSlSt, rSlBy, rRevL, TruD, rOrT, rAndT, rMake_g, roCatA, roRep, rMeth_f, rMeth_g, roOwnB_f, MakeQ_g, rMakeK, roIsC, isC_ins, rFld, rSetF, rXfn, rXf, lk_eq, putD, Dt.ins.injEq, Dt.exn.injEq, RleS, RMulS, RMulZ, roJoin, rRet, rRetN, rIfS, rAsg, rVar, ofEn, rC, rOp, rUn, roP, rCB, rCons, rNil, rAndV, rOrV, rNotV, rB, rAnd, rOr, rNot, rIf, rTup, rLst, rDrop, rNext, rNever, look, frz, frzs, looks, held, roIsi, roF1, roL1, roNeg, rDNew, startE, ents, ent, csOf, unal, finds, RI0, RI, int_in, int_bl, len_ls, len_tu, len_st, len_by, at0, at1, at2, at3, ix30, ix31, ix32, eq_ii, ne_ii, eq_by, ne_by, notin_c, in_c, D.rChain, RIxA, roTupOf, RListOf, RListB, List.findSome?, List.getElem?_cons_zero, List.getElem?_cons_succ, List.getElem?_nil, List.set_cons_zero, List.set_cons_succ, List.length_cons, List.length_nil, List.map_cons, List.map_nil, List.replicate, List.nil_append, List.cons_append, List.append_nil, Option.some.injEq, exists_eq_left', exists_eq_left, exists_eq', exists_eq, true_and, and_true, Vl.d.injEq, Vl.nw.injEq, Vl.sl.injEq, Dt.int.injEq, Dt.bl.injEq, Dt.str.injEq, Dt.lst.injEq, Dt.tup.injEq, Dt.byt.injEq, Dt.ty.injEq, Dt.ref.injEq, En.val.injEq, En.mu.injEq, En.bor.injEq, List.cons.injEq, Nat.reduceLT, Nat.reduceAdd, Nat.reduceSub, Nat.zero_add, and_self, ↓reduceIte, Bool.false_eq_true, reduceCtorEq, false_and, and_false, exists_const, exists_false, or_false, false_or, Nat.reduceEqDiff, Option.map_some, Option.getD_some, Option.getD_none, and_assoc, exists_and_left, exists_and_right, rCall_f, rCall_g, f_pre, f_post, g_pre, g_post, g_exc, Prod.forall, Prod.exists, Prod.mk.injEq, exists_const, forall_const, argsD, conP, entD, remP, flagsP, flagAt, putP, aft, Ct.dt.injEq, forall_eq, forall_eq', forall_const, implies_true, false_implies, and_imp, forall_exists_index, forall_apply_eq_imp_iff, List.length_append, retD, rFor_L, asgLc, rLc_L, riList, riTup, riStr, riRange1, riRange2, riEnum, riRev, rgName, rgTup, rgCons, rgNil, wipeE, unw, rYes, rAsgG, rAsgSub, roSetL, rBM, rBM0, roAppend, roOwn0, isa_no, isa_bl, isa_in, isa_st, isa_by, isa_ls, isa_tu, isa_di, beq_self_eq_true, Bool.or_true, Bool.true_or, Bool.or_false, Bool.false_or, Bool.or_self, Bool.not_true, Bool.not_false, Bool.and_true, Bool.true_and, Bool.and_false, Bool.false_and, String.reduceBEq, String.reduceEq, not_true_eq_false, not_false_eq_true, rSlL', roNone, roSome, roCat, D.trk, rRaise0, rRaise1, excD, rTry, rEx, wMixD, goneD, List.isEmpty_nil, if_true, List.length_singleton, Nat.reduceLeDiff, Nat.reducePow, Int.reducePow, Int.reduceLT, Int.reduceLE, Int.reduceNeg, Int.reduceToNat, ms_History_all_of, S_allof, exH, faH, exH0, keptK_hk, lkH_kept, lkH_sk, lkH_sp, lkH_add, lkH_all, lkH_has, lkH_par, gf_1, K_History.cl, nA_History_parents, histC, List.take_succ_cons, List.take_zero]
  refine ⟨_, by rw [ne_nilP (pd_strs ts) (by decide)], _, rfl, ?_⟩
  by_cases h0 : ts = []
  · subst h0
    rw [if_neg (by simp)]
    subst e1
    simp (maxSteps := 3000000) only [rPar, rParM, riRange3, roI2, rLcO_L, isN_eq, notN_eq, rSlTu, riZip, riZipO, riListO, rMinDef, rFldG, rSetFG, rDGet, rDIn, rDPut, roLenD, roListD, roSortD, rAsgStar, rForK_L, rDisp1, rSortST, rMakeC_f, kD, vD, iD, keyDt, own, wr, gput, gfind, keyD, keyDt, id_eq, roSplit, roStr1, rSlSt, rSlBy, rRevL, TruD, rOrT, rAndT, rMake_g, roCatA, roRep, rMeth_f, rMeth_g, roOwnB_f, MakeQ_g, rMakeK, roIsC, isC_ins, rFld, rSetF, rXfn, rXf, lk_eq, putD, Dt.ins.injEq, Dt.exn.injEq, RleS, RMulS, RMulZ, roJoin, rRet, rRetN, rSeq, rIfS, rAsg, rVar, ofEn, rC, rOp, rUn, roP, rCB, rCons, rNil, rAndV, rOrV, rNotV, rB, rAnd, rOr, rNot, rIf, rTup, rLst, rDrop, rNext, rNever, look, frz, frzs, looks, held, roIsi, roF1, roL1, roNeg, rDNew, startE, ents, ent, csOf, unal, finds, RI0, RI, int_in, int_bl, len_ls, len_tu, len_st, len_by, at0, at1, at2, at3, ix30, ix31, ix32, eq_ii, ne_ii, eq_by, ne_by, notin_c, in_c, D.rChain, RIxA, roTupOf, RListOf, RListB, List.findSome?, List.getElem?_cons_zero, List.getElem?_cons_succ, List.getElem?_nil, List.set_cons_zero, List.set_cons_succ, List.length_cons, List.length_nil, List.map_cons, List.map_nil, List.replicate, List.nil_append, List.cons_append, List.append_nil, Option.some.injEq, exists_eq_left', exists_eq_left, exists_eq', exists_eq, true_and, and_true, Vl.d.injEq, Vl.nw.injEq, Vl.sl.injEq, Dt.int.injEq, Dt.bl.injEq, Dt.str.injEq, Dt.lst.injEq, Dt.tup.injEq, Dt.byt.injEq, Dt.ty.injEq, Dt.ref.injEq, En.val.injEq, En.mu.injEq, En.bor.injEq, List.cons.injEq, Nat.reduceLT, Nat.reduceAdd, Nat.reduceSub, Nat.zero_add, and_self, ↓reduceIte, Bool.false_eq_true, reduceCtorEq, false_and, and_false, exists_const, exists_false, or_false, false_or, Nat.reduceEqDiff, Option.map_some, Option.getD_some, Option.getD_none, and_assoc, exists_and_left, exists_and_right, rCall_f, rCall_g, f_pre, f_post, g_pre, g_post, g_exc, Prod.forall, Prod.exists, Prod.mk.injEq, exists_const, forall_const, argsD, conP, entD, remP, flagsP, flagAt, putP, aft, Ct.dt.injEq, forall_eq, forall_eq', forall_const, implies_true, false_implies, and_imp, forall_exists_index, forall_apply_eq_imp_iff, List.length_append, retD, rFor_L, asgLc, rLc_L, riList, riTup, riStr, riRange1, riRange2, riEnum, riRev, rgName, rgTup, rgCons, rgNil, wipeE, unw, rYes, rAsgG, rAsgSub, roSetL, rBM, rBM0, roAppend, roOwn0, isa_no, isa_bl, isa_in, isa_st, isa_by, isa_ls, isa_tu, isa_di, beq_self_eq_true, Bool.or_true, Bool.true_or, Bool.or_false, Bool.false_or, Bool.or_self, Bool.not_true, Bool.not_false, Bool.and_true, Bool.true_and, Bool.and_false, Bool.false_and, String.reduceBEq, String.reduceEq, not_true_eq_false, not_false_eq_true, rSlL', roNone, roSome, roCat, D.trk, rRaise0, rRaise1, excD, rTry, rEx, wMixD, goneD, List.isEmpty_nil, if_true, List.length_singleton, Nat.reduceLeDiff, Nat.reducePow, Int.reducePow, Int.reduceLT, Int.reduceLE, Int.reduceNeg, Int.reduceToNat, ms_History_all_of, S_allof, exH, faH, exH0, keptK_hk, lkH_kept, lkH_sk, lkH_sp, lkH_add, lkH_all, lkH_has, lkH_par, gf_1, K_History.cl, nA_History_parents, histC, List.take_succ_cons, List.take_zero]
    exact ⟨_, rfl, fs, by rw [List.map_map]; rfl, by omega, fun ys hp hso => ⟨hs', ys, hinv.all hp hso, rfl⟩⟩
  rw [if_pos (by simp [h0])]
  obtain ⟨ts0, la, rfl⟩ : ∃ t0 l, ts = t0 ++ [l] := ⟨ts.dropLast, ts.getLast h0, (List.dropLast_concat_getLast h0).symm⟩
  clear h0
  obtain ⟨ps, hps⟩ := hget_some (hinv.inn la (hinv.sub la (by simp)))
  have hdg : dget (hk hs) (.inr la) = some (.lst (ps.map .str)) := by rw [dget_hk, hps]; rfl
  simp (maxSteps := 3000000) only [rPar, rParM, riRange3, roI2, rLcO_L, isN_eq, notN_eq, rSlTu, riZip, riZipO, riListO, rMinDef, rFldG, rSetFG, rDGet, rDIn, rDPut, roLenD, roListD, roSortD, rAsgStar, rForK_L, rDisp1, rSortST, rMakeC_f, kD, vD, iD, keyDt, own, wr, gput, gfind, keyD, keyDt, id_eq, roSplit, roStr1, rSlSt, rSlBy, rRevL, TruD, rOrT, rAndT, rMake_g, roCatA, roRep, rMeth_f, rMeth_g, roOwnB_f, MakeQ_g, rMakeK, roIsC, isC_ins, rFld, rSetF, rXfn, rXf, lk_eq, putD, Dt.ins.injEq, Dt.exn.injEq, RleS, RMulS, RMulZ, roJoin, rRet, rRetN, rSeq, rIfS, rAsg, rVar, ofEn, rC, rOp, rUn, roP, rCB, rCons, rNil, rAndV, rOrV, rNotV, rB, rAnd, rOr, rNot, rIf, rTup, rLst, rDrop, rNext, rNever, look, frz, frzs, looks, held, roIsi, roF1, roL1, roNeg, rDNew, startE, ents, ent, csOf, unal, finds, RI0, RI, int_in, int_bl, len_ls, len_tu, len_st, len_by, at0, at1, at2, at3, ix30, ix31, ix32, eq_ii, ne_ii, eq_by, ne_by, notin_c, in_c, D.rChain, RIxA, roTupOf, RListOf, RListB, List.findSome?, List.getElem?_cons_zero, List.getElem?_cons_succ, List.getElem?_nil, List.set_cons_zero, List.set_cons_succ, List.length_cons, List.length_nil, List.map_cons, List.map_nil, List.replicate, List.nil_append, List.cons_append, List.append_nil, Option.some.injEq, exists_eq_left', exists_eq_left, exists_eq', exists_eq, true_and, and_true, Vl.d.injEq, Vl.nw.injEq, Vl.sl.injEq, Dt.int.injEq, Dt.bl.injEq, Dt.str.injEq, Dt.lst.injEq, Dt.tup.injEq, Dt.byt.injEq, Dt.ty.injEq, Dt.ref.injEq, En.val.injEq, En.mu.injEq, En.bor.injEq, List.cons.injEq, Nat.reduceLT, Nat.reduceAdd, Nat.reduceSub, Nat.zero_add, and_self, ↓reduceIte, Bool.false_eq_true, reduceCtorEq, false_and, and_false, exists_const, exists_false, or_false, false_or, Nat.reduceEqDiff, Option.map_some, Option.getD_some, Option.getD_none, and_assoc, exists_and_left, exists_and_right, rCall_f, rCall_g, f_pre, f_post, g_pre, g_post, g_exc, Prod.forall, Prod.exists, Prod.mk.injEq, exists_const, forall_const, argsD, conP, entD, remP, flagsP, flagAt, putP, aft, Ct.dt.injEq, forall_eq, forall_eq', forall_const, implies_true, false_implies, and_imp, forall_exists_index, forall_apply_eq_imp_iff, List.length_append, retD, rFor_L, asgLc, rLc_L, riList, riTup, riStr, riRange1, riRange2, riEnum, riRev, rgName, rgTup, rgCons, rgNil, wipeE, unw, rYes, rAsgG, rAsgSub, roSetL, rBM, rBM0, roAppend, roOwn0, isa_no, isa_bl, isa_in, isa_st, isa_by, isa_ls, isa_tu, isa_di, beq_self_eq_true, Bool.or_true, Bool.true_or, Bool.or_false, Bool.false_or, Bool.or_self, Bool.not_true, Bool.not_false, Bool.and_true, Bool.true_and, Bool.and_false, Bool.false_and, String.reduceBEq, String.reduceEq, not_true_eq_false, not_false_eq_true, rSlL', roNone, roSome, roCat, D.trk, rRaise0, rRaise1, excD, rTry, rEx, wMixD, goneD, List.isEmpty_nil, if_true, List.length_singleton, Nat.reduceLeDiff, Nat.reducePow, Int.reducePow, Int.reduceLT, Int.reduceLE, Int.reduceNeg, Int.reduceToNat, ms_History_all_of, S_allof, hdg, List.map_append, exH, faH, exH0, keptK_hk, lkH_kept, lkH_sk, lkH_sp, lkH_add, lkH_all, lkH_has, lkH_par, gf_1, K_History.cl, nA_History_parents, histC, List.take_succ_cons, List.take_zero]
  have htl := hinv.len
  rw [List.length_append, List.length_singleton] at htl
  refine ⟨ts0.map .str, .str la, rfl, by rw [List.length_map]; omega, rfl, _, rfl, _, rfl, _, hdg, _, rfl, ?_⟩
  refine lp_of (fun i η' => ∃ fs' ts' c5, InInv hs s la ps fs ts0 i fs' ts' ∧ η' = [some (.mu (some 0) (histC c_History p hs)), some (.val (.str s)), some (.mu none (.dt (.dct (trD fs')))), some (.mu none (.dt (.lst (ts'.map .str)))), some (.val (.str la)), c5]) ⟨fs, ts0, _, .start hinv, rfl⟩ ?_ ?_
  · rintro i x η' hx ⟨fs', ts', c5, hin, rfl⟩
    obtain ⟨q, hq, rfl⟩ := map_get hx
    have hfl' : fs'.length ≤ hs.length := by
      have h1 := nd_len hin.nd hin.inn
      rw [hNames, List.length_map] at h1
      exact h1
    have hl2 := hin.len
    simp (maxSteps := 3000000) only [rPar, rParM, riRange3, roI2, rLcO_L, isN_eq, notN_eq, rSlTu, riZip, riZipO, riListO, rMinDef, rFldG, rSetFG, rDGet, rDIn, rDPut, roLenD, roListD, roSortD, rAsgStar, rForK_L, rDisp1, rSortST, rMakeC_f, kD, vD, iD, keyDt, own, wr, gput, gfind, keyD, keyDt, id_eq, roSplit, roStr1, rSlSt, rSlBy, rRevL, TruD, rOrT, rAndT, rMake_g, roCatA, roRep, rMeth_f, rMeth_g, roOwnB_f, MakeQ_g, rMakeK, roIsC, isC_ins, rFld, rSetF, rXfn, rXf, lk_eq, putD, Dt.ins.injEq, Dt.exn.injEq, RleS, RMulS, RMulZ, roJoin, rRet, rRetN, rSeq, rIfS, rAsg, rVar, ofEn, rC, rOp, rUn, roP, rCB, rCons, rNil, rAndV, rOrV, rNotV, rB, rAnd, rOr, rNot, rIf, rTup, rLst, rDrop, rNext, rNever, look, frz, frzs, looks, held, roIsi, roF1, roL1, roNeg, rDNew, startE, ents, ent, csOf, unal, finds, RI0, RI, int_in, int_bl, len_ls, len_tu, len_st, len_by, at0, at1, at2, at3, ix30, ix31, ix32, eq_ii, ne_ii, eq_by, ne_by, notin_c, in_c, D.rChain, RIxA, roTupOf, RListOf, RListB, List.findSome?, List.getElem?_cons_zero, List.getElem?_cons_succ, List.getElem?_nil, List.set_cons_zero, List.set_cons_succ, List.length_cons, List.length_nil, List.map_cons, List.map_nil, List.replicate, List.nil_append, List.cons_append, List.append_nil, Option.some.injEq, exists_eq_left', exists_eq_left, exists_eq', exists_eq, true_and, and_true, Vl.d.injEq, Vl.nw.injEq, Vl.sl.injEq, Dt.int.injEq, Dt.bl.injEq, Dt.str.injEq, Dt.lst.injEq, Dt.tup.injEq, Dt.byt.injEq, Dt.ty.injEq, Dt.ref.injEq, En.val.injEq, En.mu.injEq, En.bor.injEq, List.cons.injEq, Nat.reduceLT, Nat.reduceAdd, Nat.reduceSub, Nat.zero_add, and_self, ↓reduceIte, Bool.false_eq_true, reduceCtorEq, false_and, and_false, exists_const, exists_false, or_false, false_or, Nat.reduceEqDiff, Option.map_some, Option.getD_some, Option.getD_none, and_assoc, exists_and_left, exists_and_right, rCall_f, rCall_g, f_pre, f_post, g_pre, g_post, g_exc, Prod.forall, Prod.exists, Prod.mk.injEq, exists_const, forall_const, argsD, conP, entD, remP, flagsP, flagAt, putP, aft, Ct.dt.injEq, forall_eq, forall_eq', forall_const, implies_true, false_implies, and_imp, forall_exists_index, forall_apply_eq_imp_iff, List.length_append, retD, rFor_L, asgLc, rLc_L, riList, riTup, riStr, riRange1, riRange2, riEnum, riRev, rgName, rgTup, rgCons, rgNil, wipeE, unw, rYes, rAsgG, rAsgSub, roSetL, rBM, rBM0, roAppend, roOwn0, isa_no, isa_bl, isa_in, isa_st, isa_by, isa_ls, isa_tu, isa_di, beq_self_eq_true, Bool.or_true, Bool.true_or, Bool.or_false, Bool.false_or, Bool.or_self, Bool.not_true, Bool.not_false, Bool.and_true, Bool.true_and, Bool.and_false, Bool.false_and, String.reduceBEq, String.reduceEq, not_true_eq_false, not_false_eq_true, rSlL', roNone, roSome, roCat, D.trk, rRaise0, rRaise1, excD, rTry, rEx, wMixD, goneD, List.isEmpty_nil, if_true, List.length_singleton, Nat.reduceLeDiff, Nat.reducePow, Int.reducePow, Int.reduceLT, Int.reduceLE, Int.reduceNeg, Int.reduceToNat, ms_History_all_of, dget_tr, exH, faH, exH0, keptK_hk, lkH_kept, lkH_sk, lkH_sp, lkH_add, lkH_all, lkH_has, lkH_par, gf_1, K_History.cl, nA_History_parents, histC, List.take_succ_cons, List.take_zero]
    refine ⟨_, rfl, ?_⟩
    rw [dget_tr]
    by_cases hqi : q ∈ fs'
    · rw [decide_eq_true hqi, if_neg (by decide)]
      exact ⟨fs', ts', hin.skip hq hqi, rfl, rfl⟩
    · rw [decide_eq_false hqi, if_pos (by decide)]
      exact ⟨_, rfl, by rw [List.length_map]; omega, by rw [List.length_map]; omega, fs' ++ [q], ts' ++ [q], hin.put ho hps hq hqi, by rw [dput_tr hqi], by rw [List.map_append]; rfl⟩
  rintro η' ⟨fs', ts', c5, hin, rfl⟩
  rw [List.length_map] at hin
  have hd := hin.done hps
  have hfl' : fs'.length ≤ hs.length := by
    have h1 := nd_len hin.nd hin.inn
    rw [hNames, List.length_map] at h1
    exact h1
  have hq := hin.eqn
  have hmon := hin.mon
  exact ⟨2 * (hs.length - fs'.length) + ts'.length, by omega, fs', ts', rfl, hd, _, _, rfl⟩
/-! #### History.has -/
abbrev s_History_has : Stmt := inClass (top 11) 8
abbrev N_History_has : List Str := ["self", "name", "other"]
abbrev P_History_has : List Str := ["self", "name", "other"]
abbrev ms_History_has : List Md := [.p, .v, .v]
theorem sc_History_has : FnScope N_History_has P_History_has (defScope s_History_has) := ⟨rfl, rfl, rfl, by decide +kernel, rfl, by decide +kernel, by decide +kernel⟩
theorem ok_History_has {P : Program} {w : World} {K : PySem.W.Frag} {mg : Str → Option Value} {base : Heap} {f : Addr} {fd : FuncData} {c_FellError c_NoName c_Taken c_NoChange c_History : Addr} (G : Gs K mg c_FellError c_NoName c_Taken c_NoChange c_History) (h0 : HsM P w K mg base (L2.CX P w) 4 c_History "all_of" P_History_all_of (toSp K ms_History_all_of (S_allof c_History c_NoChange))) (h1 : HsM P w K mg base (L2.CX P w) 3 c_History "sure_kept" P_History_sure_kept (toSp K ms_History_sure_kept (S_surekept c_History c_NoChange))) (X_NoChange : ExO P w K mg base "NoChange" c_NoChange "name") (X_NoName : ExO P w K mg base "NoName" c_NoName "name") (X_Taken : ExO P w K mg base "Taken" c_Taken "name") (K_History : ClF K mg "History" c_History) (nA_History_parents : NoAttr K c_History "parents") (F : Fun K "has" "History.has" s_History_has f fd) (mf : Meth K c_History "has" f) :
    HsM P w K mg base (L2.CX P w) 5 c_History "has" P_History_has (toSp K ms_History_has (S_has c_History c_NoChange)) := by
  obtain ⟨f0, fd0, F0, M0, b0⟩ := h0
  obtain ⟨f1, fd1, F1, M1, b1⟩ := h1
  refine ⟨f, fd, ?_, mf, F.binds (ps := P_History_has) fun _ _ _ _ _ _ us hl => match us, hl with | [_, _, _], _ => rfl⟩
  refine F.okX sc_History_has (fun vs H Q E h => toSp_len h) (fun cdv A outer s H vs Q E hr h => ?_)
  have hu := hr.units
  refine ⟨_, pss_cons (ps_expr (pe_methS (E := _) (pv 0) K_History.cl M1 F1 (hr.mono (by decide)) b1 (fun σ => passAt (takes_of rfl rfl rfl rfl) σ) (pa_cons (pv 1) (pa_nil)))) (pss_cons (ps_expr (pe_methS (E := _) (pv 0) K_History.cl M1 F1 (hr.mono (by decide)) b1 (fun σ => passAt (takes_of rfl rfl rfl rfl) σ) (pa_cons (pv 2) (pa_nil)))) (pss_one (ps_ret (pe_cmpR ((op_inA hu)) (pv 2) (pe_methS (E := _) (pv 0) K_History.cl M0 F0 (hr.mono (by decide)) b0 (fun σ => passAt (takes_of rfl rfl rfl rfl) σ) (pa_cons (pv 1) (pa_nil))) (by rfl))))), ?_⟩
  refine run_body h (by decide) (fun as => ds_seq (ds_drop (de_methS (X := _) (E := _) (S := S_surekept c_History c_NoChange) (fun _ _ _ _ h => h) (de_var 0) (da_cons (de_var 1) (da_nil)))) (ds_seq (ds_drop (de_methS (X := _) (E := _) (S := S_surekept c_History c_NoChange) (fun _ _ _ _ h => h) (de_var 0) (da_cons (de_var 2) (da_nil)))) (ds_ret (de_op (d2_P p2_in) (de_var 2) (de_methS (X := _) (E := _) (S := S_allof c_History c_NoChange) (fun _ _ _ _ h => h) (de_var 0) (da_cons (de_var 1) (da_nil))))))) (fun as hp hl => ?_)
  obtain ⟨p, hs, d, e, rfl, hd, he, ho⟩ := hp
  refine sg fun U1 e1 => ?_
  simp (maxSteps := 3000000) only [rPar, rParM, riRange3, roI2, rLcO_L, isN_eq, notN_eq, rSlTu, riZip, riZipO, riListO, rMinDef, rFldG, rSetFG, rDGet, rDIn, rDPut, roLenD, roListD, roSortD, rAsgStar, rForK_L, rDisp1, rSortST, rMakeC_f, kD, vD, iD, keyDt, own, wr, gput, gfind, keyD, keyDt, id_eq, roSplit, roStr1, rSlSt, rSlBy, rRevL, TruD, rOrT, rAndT, rMake_g, roCatA, roRep, rMeth_f, rMeth_g, roOwnB_f, MakeQ_g, rMakeK, roIsC, isC_ins, rFld, rSetF, rXfn, rXf, lk_eq, putD, Dt.ins.injEq, Dt.exn.injEq, RleS, RMulS, RMulZ, roJoin, rRet, rRetN, rSeq, rIfS, rAsg, rVar, ofEn, rC, rOp, rUn, roP, rCB, rCons, rNil, rAndV, rOrV, rNotV, rB, rAnd, rOr, rNot, rIf, rTup, rLst, rDrop, rNext, rNever, look, frz, frzs, looks, held, roIsi, roF1, roL1, roNeg, rDNew, startE, ents, ent, csOf, unal, finds, RI0, RI, int_in, int_bl, len_ls, len_tu, len_st, len_by, at0, at1, at2, at3, ix30, ix31, ix32, eq_ii, ne_ii, eq_by, ne_by, notin_c, in_c, D.rChain, RIxA, roTupOf, RListOf, RListB, List.findSome?, List.getElem?_cons_zero, List.getElem?_cons_succ, List.getElem?_nil, List.set_cons_zero, List.set_cons_succ, List.length_cons, List.length_nil, List.map_cons, List.map_nil, List.replicate, List.nil_append, List.cons_append, List.append_nil, Option.some.injEq, exists_eq_left', exists_eq_left, exists_eq', exists_eq, true_and, and_true, Vl.d.injEq, Vl.nw.injEq, Vl.sl.injEq, Dt.int.injEq, Dt.bl.injEq, Dt.str.injEq, Dt.lst.injEq, Dt.tup.injEq, Dt.byt.injEq, Dt.ty.injEq, Dt.ref.injEq, En.val.injEq, En.mu.injEq, En.bor.injEq, List.cons.injEq, Nat.reduceLT, Nat.reduceAdd, Nat.reduceSub, Nat.zero_add, and_self, ↓reduceIte, Bool.false_eq_true, reduceCtorEq, false_and, and_false, exists_const, exists_false, or_false, false_or, Nat.reduceEqDiff, Option.map_some, Option.getD_some, Option.getD_none, and_assoc, exists_and_left, exists_and_right, rCall_f, rCall_g, f_pre, f_post, g_pre, g_post, g_exc, Prod.forall, Prod.exists, Prod.mk.injEq, exists_const, forall_const, argsD, conP, entD, remP, flagsP, flagAt, putP, aft, Ct.dt.injEq, forall_eq, forall_eq', forall_const, implies_true, false_implies, and_imp, forall_exists_index, forall_apply_eq_imp_iff, List.length_append, retD, rFor_L, asgLc, rLc_L, riList, riTup, riStr, riRange1, riRange2, riEnum, riRev, rgName, rgTup, rgCons, rgNil, wipeE, unw, rYes, rAsgG, rAsgSub, roSetL, rBM, rBM0, roAppend, roOwn0, isa_no, isa_bl, isa_in, isa_st, isa_by, isa_ls, isa_tu, isa_di, beq_self_eq_true, Bool.or_true, Bool.true_or, Bool.or_false, Bool.false_or, Bool.or_self, Bool.not_true, Bool.not_false, Bool.and_true, Bool.true_and, Bool.and_false, Bool.false_and, String.reduceBEq, String.reduceEq, not_true_eq_false, not_false_eq_true, rSlL', roNone, roSome, roCat, D.trk, rRaise0, rRaise1, excD, rTry, rEx, wMixD, goneD, List.isEmpty_nil, if_true, List.length_singleton, Nat.reduceLeDiff, Nat.reducePow, Int.reducePow, Int.reduceLT, Int.reduceLE, Int.reduceNeg, Int.reduceToNat, ms_History_has, S_has, ms_History_sure_kept, S_surekept, hd, exH, faH, exH0, keptK_hk, lkH_kept, lkH_sk, lkH_sp, lkH_add, lkH_all, lkH_has, lkH_par, gf_1, K_History.cl, nA_History_parents, histC, List.take_succ_cons, List.take_zero]
  refine ⟨fun h1 => ?_, fun h1 => ⟨_, .inl ⟨h1, rfl⟩, rfl⟩⟩
  subst e1
  refine sg fun U1 e1 => ?_
  simp (maxSteps := 3000000) only [rPar, rParM, riRange3, roI2, rLcO_L, isN_eq, notN_eq, rSlTu, riZip, riZipO, riListO, rMinDef, rFldG, rSetFG, rDGet, rDIn, rDPut, roLenD, roListD, roSortD, rAsgStar, rForK_L, rDisp1, rSortST, rMakeC_f, kD, vD, iD, keyDt, own, wr, gput, gfind, keyD, keyDt, id_eq, roSplit, roStr1, rSlSt, rSlBy, rRevL, TruD, rOrT, rAndT, rMake_g, roCatA, roRep, rMeth_f, rMeth_g, roOwnB_f, MakeQ_g, rMakeK, roIsC, isC_ins, rFld, rSetF, rXfn, rXf, lk_eq, putD, Dt.ins.injEq, Dt.exn.injEq, RleS, RMulS, RMulZ, roJoin, rRet, rRetN, rSeq, rIfS, rAsg, rVar, ofEn, rC, rOp, rUn, roP, rCB, rCons, rNil, rAndV, rOrV, rNotV, rB, rAnd, rOr, rNot, rIf, rTup, rLst, rDrop, rNext, rNever, look, frz, frzs, looks, held, roIsi, roF1, roL1, roNeg, rDNew, startE, ents, ent, csOf, unal, finds, RI0, RI, int_in, int_bl, len_ls, len_tu, len_st, len_by, at0, at1, at2, at3, ix30, ix31, ix32, eq_ii, ne_ii, eq_by, ne_by, notin_c, in_c, D.rChain, RIxA, roTupOf, RListOf, RListB, List.findSome?, List.getElem?_cons_zero, List.getElem?_cons_succ, List.getElem?_nil, List.set_cons_zero, List.set_cons_succ, List.length_cons, List.length_nil, List.map_cons, List.map_nil, List.replicate, List.nil_append, List.cons_append, List.append_nil, Option.some.injEq, exists_eq_left', exists_eq_left, exists_eq', exists_eq, true_and, and_true, Vl.d.injEq, Vl.nw.injEq, Vl.sl.injEq, Dt.int.injEq, Dt.bl.injEq, Dt.str.injEq, Dt.lst.injEq, Dt.tup.injEq, Dt.byt.injEq, Dt.ty.injEq, Dt.ref.injEq, En.val.injEq, En.mu.injEq, En.bor.injEq, List.cons.injEq, Nat.reduceLT, Nat.reduceAdd, Nat.reduceSub, Nat.zero_add, and_self, ↓reduceIte, Bool.false_eq_true, reduceCtorEq, false_and, and_false, exists_const, exists_false, or_false, false_or, Nat.reduceEqDiff, Option.map_some, Option.getD_some, Option.getD_none, and_assoc, exists_and_left, exists_and_right, rCall_f, rCall_g, f_pre, f_post, g_pre, g_post, g_exc, Prod.forall, Prod.exists, Prod.mk.injEq, exists_const, forall_const, argsD, conP, entD, remP, flagsP, flagAt, putP, aft, Ct.dt.injEq, forall_eq, forall_eq', forall_const, implies_true, false_implies, and_imp, forall_exists_index, forall_apply_eq_imp_iff, List.length_append, retD, rFor_L, asgLc, rLc_L, riList, riTup, riStr, riRange1, riRange2, riEnum, riRev, rgName, rgTup, rgCons, rgNil, wipeE, unw, rYes, rAsgG, rAsgSub, roSetL, rBM, rBM0, roAppend, roOwn0, isa_no, isa_bl, isa_in, isa_st, isa_by, isa_ls, isa_tu, isa_di, beq_self_eq_true, Bool.or_true, Bool.true_or, Bool.or_false, Bool.false_or, Bool.or_self, Bool.not_true, Bool.not_false, Bool.and_true, Bool.true_and, Bool.and_false, Bool.false_and, String.reduceBEq, String.reduceEq, not_true_eq_false, not_false_eq_true, rSlL', roNone, roSome, roCat, D.trk, rRaise0, rRaise1, excD, rTry, rEx, wMixD, goneD, List.isEmpty_nil, if_true, List.length_singleton, Nat.reduceLeDiff, Nat.reducePow, Int.reducePow, Int.reduceLT, Int.reduceLE, Int.reduceNeg, Int.reduceToNat, ms_History_has, S_has, ms_History_sure_kept, S_surekept, he, exH, faH, exH0, keptK_hk, lkH_kept, lkH_sk, lkH_sp, lkH_add, lkH_all, lkH_has, lkH_par, gf_1, K_History.cl, nA_History_parents, histC, List.take_succ_cons, List.take_zero]
  refine ⟨fun h2 => ?_, fun h2 => ⟨_, .inr ⟨h1, h2, rfl⟩, rfl⟩⟩
  obtain ⟨s, rfl, hs'⟩ := kept_str h1
  obtain ⟨t, rfl, ht⟩ := kept_str h2
  subst e1
  simp (maxSteps := 3000000) only [rPar, rParM, riRange3, roI2, rLcO_L, isN_eq, notN_eq, rSlTu, riZip, riZipO, riListO, rMinDef, rFldG, rSetFG, rDGet, rDIn, rDPut, roLenD, roListD, roSortD, rAsgStar, rForK_L, rDisp1, rSortST, rMakeC_f, kD, vD, iD, keyDt, own, wr, gput, gfind, keyD, keyDt, id_eq, roSplit, roStr1, rSlSt, rSlBy, rRevL, TruD, rOrT, rAndT, rMake_g, roCatA, roRep, rMeth_f, rMeth_g, roOwnB_f, MakeQ_g, rMakeK, roIsC, isC_ins, rFld, rSetF, rXfn, rXf, lk_eq, putD, Dt.ins.injEq, Dt.exn.injEq, RleS, RMulS, RMulZ, roJoin, rRet, rRetN, rSeq, rIfS, rAsg, rVar, ofEn, rC, rOp, rUn, roP, rCB, rCons, rNil, rAndV, rOrV, rNotV, rB, rAnd, rOr, rNot, rIf, rTup, rLst, rDrop, rNext, rNever, look, frz, frzs, looks, held, roIsi, roF1, roL1, roNeg, rDNew, startE, ents, ent, csOf, unal, finds, RI0, RI, int_in, int_bl, len_ls, len_tu, len_st, len_by, at0, at1, at2, at3, ix30, ix31, ix32, eq_ii, ne_ii, eq_by, ne_by, notin_c, in_c, D.rChain, RIxA, roTupOf, RListOf, RListB, List.findSome?, List.getElem?_cons_zero, List.getElem?_cons_succ, List.getElem?_nil, List.set_cons_zero, List.set_cons_succ, List.length_cons, List.length_nil, List.map_cons, List.map_nil, List.replicate, List.nil_append, List.cons_append, List.append_nil, Option.some.injEq, exists_eq_left', exists_eq_left, exists_eq', exists_eq, true_and, and_true, Vl.d.injEq, Vl.nw.injEq, Vl.sl.injEq, Dt.int.injEq, Dt.bl.injEq, Dt.str.injEq, Dt.lst.injEq, Dt.tup.injEq, Dt.byt.injEq, Dt.ty.injEq, Dt.ref.injEq, En.val.injEq, En.mu.injEq, En.bor.injEq, List.cons.injEq, Nat.reduceLT, Nat.reduceAdd, Nat.reduceSub, Nat.zero_add, and_self, ↓reduceIte, Bool.false_eq_true, reduceCtorEq, false_and, and_false, exists_const, exists_false, or_false, false_or, Nat.reduceEqDiff, Option.map_some, Option.getD_some, Option.getD_none, and_assoc, exists_and_left, exists_and_right, rCall_f, rCall_g, f_pre, f_post, g_pre, g_post, g_exc, Prod.forall, Prod.exists, Prod.mk.injEq, exists_const, forall_const, argsD, conP, entD, remP, flagsP, flagAt, putP, aft, Ct.dt.injEq, forall_eq, forall_eq', forall_const, implies_true, false_implies, and_imp, forall_exists_index, forall_apply_eq_imp_iff, List.length_append, retD, rFor_L, asgLc, rLc_L, riList, riTup, riStr, riRange1, riRange2, riEnum, riRev, rgName, rgTup, rgCons, rgNil, wipeE, unw, rYes, rAsgG, rAsgSub, roSetL, rBM, rBM0, roAppend, roOwn0, isa_no, isa_bl, isa_in, isa_st, isa_by, isa_ls, isa_tu, isa_di, beq_self_eq_true, Bool.or_true, Bool.true_or, Bool.or_false, Bool.false_or, Bool.or_self, Bool.not_true, Bool.not_false, Bool.and_true, Bool.true_and, Bool.and_false, Bool.false_and, String.reduceBEq, String.reduceEq, not_true_eq_false, not_false_eq_true, rSlL', roNone, roSome, roCat, D.trk, rRaise0, rRaise1, excD, rTry, rEx, wMixD, goneD, List.isEmpty_nil, if_true, List.length_singleton, Nat.reduceLeDiff, Nat.reducePow, Int.reducePow, Int.reduceLT, Int.reduceLE, Int.reduceNeg, Int.reduceToNat, ms_History_has, S_has, ms_History_all_of, S_allof, exH, faH, exH0, keptK_hk, lkH_kept, lkH_sk, lkH_sp, lkH_add, lkH_all, lkH_has, lkH_par, gf_1, K_History.cl, nA_History_parents, histC, List.take_succ_cons, List.take_zero]
  refine ⟨rfl, ho, fun ys _ hy => ⟨_, by rw [in_lst 0 0 (a := .str t) trivial (by decide) (fun e he => by obtain ⟨u, _, rfl⟩ := List.mem_map.mp he; exact trivial)], hs', ht, _, ?_, rfl⟩, fun h => absurd h (by rw [h1]; decide)⟩
  rw [← hy.mem t, List.any_eq_true]
  constructor
  · rintro ⟨x, hx, e⟩
    obtain ⟨u, hu, rfl⟩ := List.mem_map.mp hx
    rw [deq_str] at e
    rw [← of_decide_eq_true e]
    exact hu
  · intro h
    exact ⟨_, List.mem_map.mpr ⟨t, h, rfl⟩, by rw [deq_str]; exact decide_eq_true rfl⟩
/-! #### _law_well -/
abbrev s_law_well : Stmt := top 13
abbrev N_law_well : List Str := ["_law_cell"]
abbrev P_law_well : List Str := ["_law_cell"]
abbrev ms_law_well : List Md := [.v]
theorem sc_law_well : FnScope N_law_well P_law_well (defScope s_law_well) := ⟨rfl, rfl, rfl, by decide +kernel, rfl, by decide +kernel, by decide +kernel⟩
theorem ok_law_well {P : Program} {w : World} {K : PySem.W.Frag} {mg : Str → Option Value} {base : Heap} {f : Addr} {fd : FuncData} {c_FellError c_NoName c_Taken c_NoChange c_History : Addr} (G : Gs K mg c_FellError c_NoName c_Taken c_NoChange c_History) (X_NoChange : ExO P w K mg base "NoChange" c_NoChange "name") (X_NoName : ExO P w K mg base "NoName" c_NoName "name") (X_Taken : ExO P w K mg base "Taken" c_Taken "name") (K_History : ClF K mg "History" c_History) (nA_History_parents : NoAttr K c_History "parents") (F : Fun K "_law_well" "_law_well" s_law_well f fd) (mf : mg "_law_well" = some (.ref f)) :
    Hs P w K mg base CX0 1 "_law_well" P_law_well (toSp K ms_law_well (S_well)) := by
  refine ⟨f, fd, ?_, mf, F.kp, F.binds (ps := P_law_well) fun _ _ _ _ _ _ us hl => match us, hl with | [_], _ => rfl⟩
  refine F.ok sc_law_well (fun vs H Q E h => toSp_len h) (fun cdv A outer s H vs Q E hr h => ?_)
  have hu := hr.units
  refine ⟨_, pss_one (ps_ret (pe_lst (pa_cons (pe_op op_mul (pv 0) (pe_callTy call_int1 rfl G.b_int (by decide +kernel) (pa_cons (pe_cmpR (op_ge) (pv 0) (pe_op op_pow (pe_int) (pe_int)) (nomark _)) (pa_nil)))) (pa_cons (pe_op op_mod (pe_callTy call_int1 rfl G.b_int (by decide +kernel) (pa_cons (pv 0) (pa_nil))) (pe_int)) (pa_cons (pe_int) (pa_nil)))))), ?_⟩
  refine run_body0 h (by decide) (fun as => ds_ret (de_lst (da_cons (de_op (d2_P p2_ci) (de_var 0) (de_cb (dc_F1 f1_int) (da_cons (de_op (d2_P p2_ib) (de_var 0) (de_op (d2_P p2_ci) (de_int) (de_int))) (da_nil)))) (da_cons (de_op (d2_P p2_ci) (de_cb (dc_F1 f1_int) (da_cons (de_var 0) (da_nil))) (de_int)) (da_cons (de_int) (da_nil)))))) (fun as hp hl => ?_)
  obtain ⟨i, rfl⟩ := hp
  simp (maxSteps := 3000000) only [rPar, rParM, riRange3, roI2, rLcO_L, isN_eq, notN_eq, rSlTu, riZip, riZipO, riListO, rMinDef, rFldG, rSetFG, rDGet, rDIn, rDPut, roLenD, roListD, roSortD, rAsgStar, rForK_L, rDisp1, rSortST, rMakeC_f, kD, vD, iD, keyDt, own, wr, gput, gfind, keyD, keyDt, id_eq, roSplit, roStr1, rSlSt, rSlBy, rRevL, TruD, rOrT, rAndT, rMake_g, roCatA, roRep, rMeth_f, rMeth_g, roOwnB_f, MakeQ_g, rMakeK, roIsC, isC_ins, rFld, rSetF, rXfn, rXf, lk_eq, putD, Dt.ins.injEq, Dt.exn.injEq, RleS, RMulS, RMulZ, roJoin, rRet, rRetN, rSeq, rIfS, rAsg, rVar, ofEn, rC, rOp, rUn, roP, rCB, rCons, rNil, rAndV, rOrV, rNotV, rB, rAnd, rOr, rNot, rIf, rTup, rLst, rDrop, rNext, rNever, look, frz, frzs, looks, held, roIsi, roF1, roL1, roNeg, rDNew, startE, ents, ent, csOf, unal, finds, RI0, RI, int_in, int_bl, len_ls, len_tu, len_st, len_by, at0, at1, at2, at3, ix30, ix31, ix32, eq_ii, ne_ii, eq_by, ne_by, notin_c, in_c, D.rChain, RIxA, roTupOf, RListOf, RListB, List.findSome?, List.getElem?_cons_zero, List.getElem?_cons_succ, List.getElem?_nil, List.set_cons_zero, List.set_cons_succ, List.length_cons, List.length_nil, List.map_cons, List.map_nil, List.replicate, List.nil_append, List.cons_append, List.append_nil, Option.some.injEq, exists_eq_left', exists_eq_left, exists_eq', exists_eq, true_and, and_true, Vl.d.injEq, Vl.nw.injEq, Vl.sl.injEq, Dt.int.injEq, Dt.bl.injEq, Dt.str.injEq, Dt.lst.injEq, Dt.tup.injEq, Dt.byt.injEq, Dt.ty.injEq, Dt.ref.injEq, En.val.injEq, En.mu.injEq, En.bor.injEq, List.cons.injEq, Nat.reduceLT, Nat.reduceAdd, Nat.reduceSub, Nat.zero_add, and_self, ↓reduceIte, Bool.false_eq_true, reduceCtorEq, false_and, and_false, exists_const, exists_false, or_false, false_or, Nat.reduceEqDiff, Option.map_some, Option.getD_some, Option.getD_none, and_assoc, exists_and_left, exists_and_right, rCall_f, rCall_g, f_pre, f_post, g_pre, g_post, g_exc, Prod.forall, Prod.exists, Prod.mk.injEq, exists_const, forall_const, argsD, conP, entD, remP, flagsP, flagAt, putP, aft, Ct.dt.injEq, forall_eq, forall_eq', forall_const, implies_true, false_implies, and_imp, forall_exists_index, forall_apply_eq_imp_iff, List.length_append, retD, rFor_L, asgLc, rLc_L, riList, riTup, riStr, riRange1, riRange2, riEnum, riRev, rgName, rgTup, rgCons, rgNil, wipeE, unw, rYes, rAsgG, rAsgSub, roSetL, rBM, rBM0, roAppend, roOwn0, isa_no, isa_bl, isa_in, isa_st, isa_by, isa_ls, isa_tu, isa_di, beq_self_eq_true, Bool.or_true, Bool.true_or, Bool.or_false, Bool.false_or, Bool.or_self, Bool.not_true, Bool.not_false, Bool.and_true, Bool.true_and, Bool.and_false, Bool.false_and, String.reduceBEq, String.reduceEq, not_true_eq_false, not_false_eq_true, rSlL', roNone, roSome, roCat, D.trk, rRaise0, rRaise1, excD, rTry, rEx, wMixD, goneD, List.isEmpty_nil, if_true, List.length_singleton, Nat.reduceLeDiff, Nat.reducePow, Int.reducePow, Int.reduceLT, Int.reduceLE, Int.reduceNeg, Int.reduceToNat, ms_law_well, S_well]
  refine ⟨⟨by decide, by decide, by decide⟩, ?_, _, ⟨_, _, _, rfl, ?_, ?_, ?_⟩, rfl, rfl⟩
  · right
    split <;> decide
  all_goals omega
/-! #### _law_draw -/
abbrev s_law_draw : Stmt := top 14
abbrev N_law_draw : List Str := ["_law_well_here", "_law_width", "_law_digit", "_law_prime", "_law_number"]
abbrev P_law_draw : List Str := ["_law_well_here", "_law_width"]
abbrev ms_law_draw : List Md := [.p, .v]
theorem sc_law_draw : FnScope N_law_draw P_law_draw (defScope s_law_draw) := ⟨rfl, rfl, rfl, by decide +kernel, rfl, by decide +kernel, by decide +kernel⟩
theorem ok_law_draw {P : Program} {w : World} {K : PySem.W.Frag} {mg : Str → Option Value} {base : Heap} {f : Addr} {fd : FuncData} {c_FellError c_NoName c_Taken c_NoChange c_History : Addr} (G : Gs K mg c_FellError c_NoName c_Taken c_NoChange c_History) (X_NoChange : ExO P w K mg base "NoChange" c_NoChange "name") (X_NoName : ExO P w K mg base "NoName" c_NoName "name") (X_Taken : ExO P w K mg base "Taken" c_Taken "name") (K_History : ClF K mg "History" c_History) (nA_History_parents : NoAttr K c_History "parents") (F : Fun K "_law_draw" "_law_draw" s_law_draw f fd) (mf : mg "_law_draw" = some (.ref f)) :
    Hs P w K mg base CX0 1 "_law_draw" P_law_draw (toSp K ms_law_draw (S_draw)) := by
  refine ⟨f, fd, ?_, mf, F.kp, F.binds (ps := P_law_draw) fun _ _ _ _ _ _ us hl => match us, hl with | [_, _], _ => rfl⟩
  refine F.ok sc_law_draw (fun vs H Q E h => toSp_len h) (fun cdv A outer s H vs Q E hr h => ?_)
  have hu := hr.units
  refine ⟨_, pss_cons (ps_if (pt_cmpR (op_gt) (pe_ix ix_seq (pv 0) (pe_int) (fun _ _ => rfl)) (pe_int) (nomark _)) (pss_cons (ps_set (i := 2) sc_law_draw.nd rfl (by first | exact Or.inl rfl | exact Or.inr rfl) (pe_op op_mod (pe_callTy call_int1 rfl G.b_int (by decide +kernel) (pa_cons (pe_ix ix_seq (pv 0) (pe_int) (fun _ _ => rfl)) (pa_nil))) (pv 1))) (pss_cons (ps_asg (pe_op op_fdiv (pe_ix ix_seq (pv 0) (pe_int) (fun _ _ => rfl)) (pv 1)) (pg_sub (pv 0) (pe_int) set_list)) (pss_one (ps_ret (pv 2))))) (pss_nil)) (pss_cons (ps_asg (pe_op op_add (pe_ix ix_seq (pv 0) (pe_int) (fun _ _ => rfl)) (pe_int)) (pg_sub (pv 0) (pe_int) set_list)) (pss_cons (ps_set (i := 3) sc_law_draw.nd rfl (by first | exact Or.inl rfl | exact Or.inr rfl) (pe_ix ix_seq (pe_lst (pa_cons (pe_int) (pa_cons (pe_int) (pa_cons (pe_int) (pa_cons (pe_int) (pa_cons (pe_int) (pa_cons (pe_int) (pa_cons (pe_int) (pa_nil))))))))) (pe_op op_mod (pe_callTy call_int1 rfl G.b_int (by decide +kernel) (pa_cons (pe_ix ix_seq (pv 0) (pe_int) (fun _ _ => rfl)) (pa_nil))) (pe_int)) (fun _ _ => rfl))) (pss_cons (ps_set (i := 4) sc_law_draw.nd rfl (by first | exact Or.inl rfl | exact Or.inr rfl) (pe_op op_mod (pe_callTy call_int1 rfl G.b_int (by decide +kernel) (pa_cons (pe_op op_pow (pe_op op_add (pe_op op_add (pe_ix ix_seq (pv 0) (pe_int) (fun _ _ => rfl)) (pe_op op_mul (pe_int) (pe_ix ix_seq (pv 0) (pe_int) (fun _ _ => rfl)))) (pe_int)) (pe_int)) (pa_nil))) (pv 3))) (pss_cons (ps_set (i := 4) sc_law_draw.nd rfl (by first | exact Or.inl rfl | exact Or.inr rfl) (pe_op op_mod (pe_callTy call_int1 rfl G.b_int (by decide +kernel) (pa_cons (pe_op op_mul (pe_op op_add (pv 4) (pe_ix ix_seq (pv 0) (pe_int) (fun _ _ => rfl))) (pe_op op_add (pe_op op_fdiv (pv 4) (pe_int)) (pe_int))) (pa_nil))) (pv 3))) (pss_one (ps_ret (pe_op op_mod (pe_callTy call_int1 rfl G.b_int (by decide +kernel) (pa_cons (pe_op op_fdiv (pv 4) (pe_int)) (pa_nil))) (pv 1)))))))), ?_⟩
  refine run_body0 h (by decide) (fun as => ds_seq (ds_if (dt_test (de_op (d2_P p2_ib) (de_op (d2_P p2_ix) (de_var 0) (de_int)) (de_int))) (ds_seq (ds_asg (de_op (d2_P p2_ci) (de_cb (dc_F1 f1_int) (da_cons (de_op (d2_P p2_ix) (de_var 0) (de_int)) (da_nil))) (de_var 1)) 2) (ds_seq (ds_asgSub (de_op (d2_P p2_ci) (de_op (d2_P p2_ix) (de_var 0) (de_int)) (de_var 1)) (de_var 0) (de_int) dset_list) (ds_ret (de_var 2)))) (ds_next)) (ds_seq (ds_asgSub (de_op (d2_P p2_ii) (de_op (d2_P p2_ix) (de_var 0) (de_int)) (de_int)) (de_var 0) (de_int) dset_list) (ds_seq (ds_asg (de_op (d2_P p2_ix) (de_lst (da_cons (de_int) (da_cons (de_int) (da_cons (de_int) (da_cons (de_int) (da_cons (de_int) (da_cons (de_int) (da_cons (de_int) (da_nil))))))))) (de_op (d2_P p2_ci) (de_cb (dc_F1 f1_int) (da_cons (de_op (d2_P p2_ix) (de_var 0) (de_int)) (da_nil))) (de_int))) 3) (ds_seq (ds_asg (de_op (d2_P p2_ci) (de_cb (dc_F1 f1_int) (da_cons (de_op (d2_P p2_ci) (de_op (d2_P p2_ii) (de_op (d2_P p2_ii) (de_op (d2_P p2_ix) (de_var 0) (de_int)) (de_op (d2_P p2_ci) (de_int) (de_op (d2_P p2_ix) (de_var 0) (de_int)))) (de_int)) (de_int)) (da_nil))) (de_var 3)) 4) (ds_seq (ds_asg (de_op (d2_P p2_ci) (de_cb (dc_F1 f1_int) (da_cons (de_op (d2_P p2_ci) (de_op (d2_P p2_ii) (de_var 4) (de_op (d2_P p2_ix) (de_var 0) (de_int))) (de_op (d2_P p2_ii) (de_op (d2_P p2_ci) (de_var 4) (de_int)) (de_int))) (da_nil))) (de_var 3)) 4) (ds_ret (de_op (d2_P p2_ci) (de_cb (dc_F1 f1_int) (da_cons (de_op (d2_P p2_ci) (de_var 4) (de_int)) (da_nil))) (de_var 1)))))))) (fun as hp hl => ?_)
  obtain ⟨w, n, rfl, ⟨a, b, c, rfl, hb, hb', hc⟩, hm, hn, hn'⟩ := hp
  simp (maxSteps := 3000000) only [rPar, rParM, riRange3, roI2, rLcO_L, isN_eq, notN_eq, rSlTu, riZip, riZipO, riListO, rMinDef, rFldG, rSetFG, rDGet, rDIn, rDPut, roLenD, roListD, roSortD, rAsgStar, rForK_L, rDisp1, rSortST, rMakeC_f, kD, vD, iD, keyDt, own, wr, gput, gfind, keyD, keyDt, id_eq, roSplit, roStr1, rSlSt, rSlBy, rRevL, TruD, rOrT, rAndT, rMake_g, roCatA, roRep, rMeth_f, rMeth_g, roOwnB_f, MakeQ_g, rMakeK, roIsC, isC_ins, rFld, rSetF, rXfn, rXf, lk_eq, putD, Dt.ins.injEq, Dt.exn.injEq, RleS, RMulS, RMulZ, roJoin, rRet, rRetN, rIfS, rAsg, rVar, ofEn, rC, rOp, rUn, roP, rCB, rCons, rNil, rAndV, rOrV, rNotV, rB, rAnd, rOr, rNot, rIf, rTup, rLst, rDrop, rNext, rNever, look, frz, frzs, looks, held, roIsi, roF1, roL1, roNeg, rDNew, startE, ents, ent, csOf, unal, finds, RI0, RI, int_in, int_bl, len_ls, len_tu, len_st, len_by, at0, at1, at2, at3, ix30, ix31, ix32, eq_ii, ne_ii, eq_by, ne_by, notin_c, in_c, D.rChain, RIxA, roTupOf, RListOf, RListB, List.findSome?, List.getElem?_cons_zero, List.getElem?_cons_succ, List.getElem?_nil, List.set_cons_zero, List.set_cons_succ, List.length_cons, List.length_nil, List.map_cons, List.map_nil, List.replicate, List.nil_append, List.cons_append, List.append_nil, Option.some.injEq, exists_eq_left', exists_eq_left, exists_eq', exists_eq, true_and, and_true, Vl.d.injEq, Vl.nw.injEq, Vl.sl.injEq, Dt.int.injEq, Dt.bl.injEq, Dt.str.injEq, Dt.lst.injEq, Dt.tup.injEq, Dt.byt.injEq, Dt.ty.injEq, Dt.ref.injEq, En.val.injEq, En.mu.injEq, En.bor.injEq, List.cons.injEq, Nat.reduceLT, Nat.reduceAdd, Nat.reduceSub, Nat.zero_add, and_self, ↓reduceIte, Bool.false_eq_true, reduceCtorEq, false_and, and_false, exists_const, exists_false, or_false, false_or, Nat.reduceEqDiff, Option.map_some, Option.getD_some, Option.getD_none, and_assoc, exists_and_left, exists_and_right, rCall_f, rCall_g, f_pre, f_post, g_pre, g_post, g_exc, Prod.forall, Prod.exists, Prod.mk.injEq, exists_const, forall_const, argsD, conP, entD, remP, flagsP, flagAt, putP, aft, Ct.dt.injEq, forall_eq, forall_eq', forall_const, implies_true, false_implies, and_imp, forall_exists_index, forall_apply_eq_imp_iff, List.length_append, retD, rFor_L, asgLc, rLc_L, riList, riTup, riStr, riRange1, riRange2, riEnum, riRev, rgName, rgTup, rgCons, rgNil, wipeE, unw, rYes, rAsgG, rAsgSub, roSetL, rBM, rBM0, roAppend, roOwn0, isa_no, isa_bl, isa_in, isa_st, isa_by, isa_ls, isa_tu, isa_di, beq_self_eq_true, Bool.or_true, Bool.true_or, Bool.or_false, Bool.false_or, Bool.or_self, Bool.not_true, Bool.not_false, Bool.and_true, Bool.true_and, Bool.and_false, Bool.false_and, String.reduceBEq, String.reduceEq, not_true_eq_false, not_false_eq_true, rSlL', roNone, roSome, roCat, D.trk, rRaise0, rRaise1, excD, rTry, rEx, wMixD, goneD, List.isEmpty_nil, if_true, List.length_singleton, Nat.reduceLeDiff, Nat.reducePow, Int.reducePow, Int.reduceLT, Int.reduceLE, Int.reduceNeg, Int.reduceToNat, ms_law_draw]
  refine sg fun U1 e1 => ?_
  simp (maxSteps := 3000000) only [rPar, rParM, riRange3, roI2, rLcO_L, isN_eq, notN_eq, rSlTu, riZip, riZipO, riListO, rMinDef, rFldG, rSetFG, rDGet, rDIn, rDPut, roLenD, roListD, roSortD, rAsgStar, rForK_L, rDisp1, rSortST, rMakeC_f, kD, vD, iD, keyDt, own, wr, gput, gfind, keyD, keyDt, id_eq, roSplit, roStr1, rSlSt, rSlBy, rRevL, TruD, rOrT, rAndT, rMake_g, roCatA, roRep, rMeth_f, rMeth_g, roOwnB_f, MakeQ_g, rMakeK, roIsC, isC_ins, rFld, rSetF, rXfn, rXf, lk_eq, putD, Dt.ins.injEq, Dt.exn.injEq, RleS, RMulS, RMulZ, roJoin, rRet, rRetN, rSeq, rIfS, rAsg, rVar, ofEn, rC, rOp, rUn, roP, rCB, rCons, rNil, rAndV, rOrV, rNotV, rB, rAnd, rOr, rNot, rIf, rTup, rLst, rDrop, rNext, rNever, look, frz, frzs, looks, held, roIsi, roF1, roL1, roNeg, rDNew, startE, ents, ent, csOf, unal, finds, RI0, RI, int_in, int_bl, len_ls, len_tu, len_st, len_by, at0, at1, at2, at3, ix30, ix31, ix32, eq_ii, ne_ii, eq_by, ne_by, notin_c, in_c, D.rChain, RIxA, roTupOf, RListOf, RListB, List.findSome?, List.getElem?_cons_zero, List.getElem?_cons_succ, List.getElem?_nil, List.set_cons_zero, List.set_cons_succ, List.length_cons, List.length_nil, List.map_cons, List.map_nil, List.replicate, List.nil_append, List.cons_append, List.append_nil, Option.some.injEq, exists_eq_left', exists_eq_left, exists_eq', exists_eq, true_and, and_true, Vl.d.injEq, Vl.nw.injEq, Vl.sl.injEq, Dt.int.injEq, Dt.bl.injEq, Dt.str.injEq, Dt.lst.injEq, Dt.tup.injEq, Dt.byt.injEq, Dt.ty.injEq, Dt.ref.injEq, En.val.injEq, En.mu.injEq, En.bor.injEq, List.cons.injEq, Nat.reduceLT, Nat.reduceAdd, Nat.reduceSub, Nat.zero_add, and_self, ↓reduceIte, Bool.false_eq_true, reduceCtorEq, false_and, and_false, exists_const, exists_false, or_false, false_or, Nat.reduceEqDiff, Option.map_some, Option.getD_some, Option.getD_none, and_assoc, exists_and_left, exists_and_right, rCall_f, rCall_g, f_pre, f_post, g_pre, g_post, g_exc, Prod.forall, Prod.exists, Prod.mk.injEq, exists_const, forall_const, argsD, conP, entD, remP, flagsP, flagAt, putP, aft, Ct.dt.injEq, forall_eq, forall_eq', forall_const, implies_true, false_implies, and_imp, forall_exists_index, forall_apply_eq_imp_iff, List.length_append, retD, rFor_L, asgLc, rLc_L, riList, riTup, riStr, riRange1, riRange2, riEnum, riRev, rgName, rgTup, rgCons, rgNil, wipeE, unw, rYes, rAsgG, rAsgSub, roSetL, rBM, rBM0, roAppend, roOwn0, isa_no, isa_bl, isa_in, isa_st, isa_by, isa_ls, isa_tu, isa_di, beq_self_eq_true, Bool.or_true, Bool.true_or, Bool.or_false, Bool.false_or, Bool.or_self, Bool.not_true, Bool.not_false, Bool.and_true, Bool.true_and, Bool.and_false, Bool.false_and, String.reduceBEq, String.reduceEq, not_true_eq_false, not_false_eq_true, rSlL', roNone, roSome, roCat, D.trk, rRaise0, rRaise1, excD, rTry, rEx, wMixD, goneD, List.isEmpty_nil, if_true, List.length_singleton, Nat.reduceLeDiff, Nat.reducePow, Int.reducePow, Int.reduceLT, Int.reduceLE, Int.reduceNeg, Int.reduceToNat, ms_law_draw, S_draw]
  by_cases h0 : 0 < a
  · simp only [h0, decide_true, if_true]
    refine ⟨hn, ⟨hn, by omega⟩, _, _, ⟨_, _, _, rfl, hb, hb', hc⟩, ?_, Int.emod_nonneg _ (by omega), Int.emod_lt_of_pos _ hn, rfl, rfl⟩
    show c ≤ c + 1
    omega
  · simp only [h0, decide_false, if_false, Bool.false_eq_true]
    subst e1
    refine sg fun U2 e2 => ?_
    simp (maxSteps := 3000000) only [rPar, rParM, riRange3, roI2, rLcO_L, isN_eq, notN_eq, rSlTu, riZip, riZipO, riListO, rMinDef, rFldG, rSetFG, rDGet, rDIn, rDPut, roLenD, roListD, roSortD, rAsgStar, rForK_L, rDisp1, rSortST, rMakeC_f, kD, vD, iD, keyDt, own, wr, gput, gfind, keyD, keyDt, id_eq, roSplit, roStr1, rSlSt, rSlBy, rRevL, TruD, rOrT, rAndT, rMake_g, roCatA, roRep, rMeth_f, rMeth_g, roOwnB_f, MakeQ_g, rMakeK, roIsC, isC_ins, rFld, rSetF, rXfn, rXf, lk_eq, putD, Dt.ins.injEq, Dt.exn.injEq, RleS, RMulS, RMulZ, roJoin, rRet, rRetN, rSeq, rIfS, rAsg, rVar, ofEn, rC, rOp, rUn, roP, rCB, rCons, rNil, rAndV, rOrV, rNotV, rB, rAnd, rOr, rNot, rIf, rTup, rLst, rDrop, rNext, rNever, look, frz, frzs, looks, held, roIsi, roF1, roL1, roNeg, rDNew, startE, ents, ent, csOf, unal, finds, RI0, RI, int_in, int_bl, len_ls, len_tu, len_st, len_by, at0, at1, at2, at3, ix30, ix31, ix32, eq_ii, ne_ii, eq_by, ne_by, notin_c, in_c, D.rChain, RIxA, roTupOf, RListOf, RListB, List.findSome?, List.getElem?_cons_zero, List.getElem?_cons_succ, List.getElem?_nil, List.set_cons_zero, List.set_cons_succ, List.length_cons, List.length_nil, List.map_cons, List.map_nil, List.replicate, List.nil_append, List.cons_append, List.append_nil, Option.some.injEq, exists_eq_left', exists_eq_left, exists_eq', exists_eq, true_and, and_true, Vl.d.injEq, Vl.nw.injEq, Vl.sl.injEq, Dt.int.injEq, Dt.bl.injEq, Dt.str.injEq, Dt.lst.injEq, Dt.tup.injEq, Dt.byt.injEq, Dt.ty.injEq, Dt.ref.injEq, En.val.injEq, En.mu.injEq, En.bor.injEq, List.cons.injEq, Nat.reduceLT, Nat.reduceAdd, Nat.reduceSub, Nat.zero_add, and_self, ↓reduceIte, Bool.false_eq_true, reduceCtorEq, false_and, and_false, exists_const, exists_false, or_false, false_or, Nat.reduceEqDiff, Option.map_some, Option.getD_some, Option.getD_none, and_assoc, exists_and_left, exists_and_right, rCall_f, rCall_g, f_pre, f_post, g_pre, g_post, g_exc, Prod.forall, Prod.exists, Prod.mk.injEq, exists_const, forall_const, argsD, conP, entD, remP, flagsP, flagAt, putP, aft, Ct.dt.injEq, forall_eq, forall_eq', forall_const, implies_true, false_implies, and_imp, forall_exists_index, forall_apply_eq_imp_iff, List.length_append, retD, rFor_L, asgLc, rLc_L, riList, riTup, riStr, riRange1, riRange2, riEnum, riRev, rgName, rgTup, rgCons, rgNil, wipeE, unw, rYes, rAsgG, rAsgSub, roSetL, rBM, rBM0, roAppend, roOwn0, isa_no, isa_bl, isa_in, isa_st, isa_by, isa_ls, isa_tu, isa_di, beq_self_eq_true, Bool.or_true, Bool.true_or, Bool.or_false, Bool.false_or, Bool.or_self, Bool.not_true, Bool.not_false, Bool.and_true, Bool.true_and, Bool.and_false, Bool.false_and, String.reduceBEq, String.reduceEq, not_true_eq_false, not_false_eq_true, rSlL', roNone, roSome, roCat, D.trk, rRaise0, rRaise1, excD, rTry, rEx, wMixD, goneD, List.isEmpty_nil, if_true, List.length_singleton, Nat.reduceLeDiff, Nat.reducePow, Int.reducePow, Int.reduceLT, Int.reduceLE, Int.reduceNeg, Int.reduceToNat, S_draw, ms_law_draw]
    subst e2
    refine sg fun U3 e3 => ?_
    simp (maxSteps := 3000000) only [rPar, rParM, riRange3, roI2, rLcO_L, isN_eq, notN_eq, rSlTu, riZip, riZipO, riListO, rMinDef, rFldG, rSetFG, rDGet, rDIn, rDPut, roLenD, roListD, roSortD, rAsgStar, rForK_L, rDisp1, rSortST, rMakeC_f, kD, vD, iD, keyDt, own, wr, gput, gfind, keyD, keyDt, id_eq, roSplit, roStr1, rSlSt, rSlBy, rRevL, TruD, rOrT, rAndT, rMake_g, roCatA, roRep, rMeth_f, rMeth_g, roOwnB_f, MakeQ_g, rMakeK, roIsC, isC_ins, rFld, rSetF, rXfn, rXf, lk_eq, putD, Dt.ins.injEq, Dt.exn.injEq, RleS, RMulS, RMulZ, roJoin, rRet, rRetN, rSeq, rIfS, rAsg, rVar, ofEn, rC, rOp, rUn, roP, rCB, rCons, rNil, rAndV, rOrV, rNotV, rB, rAnd, rOr, rNot, rIf, rTup, rLst, rDrop, rNext, rNever, look, frz, frzs, looks, held, roIsi, roF1, roL1, roNeg, rDNew, startE, ents, ent, csOf, unal, finds, RI0, RI, int_in, int_bl, len_ls, len_tu, len_st, len_by, at0, at1, at2, at3, ix30, ix31, ix32, eq_ii, ne_ii, eq_by, ne_by, notin_c, in_c, D.rChain, RIxA, roTupOf, RListOf, RListB, List.findSome?, List.getElem?_cons_zero, List.getElem?_cons_succ, List.getElem?_nil, List.set_cons_zero, List.set_cons_succ, List.length_cons, List.length_nil, List.map_cons, List.map_nil, List.replicate, List.nil_append, List.cons_append, List.append_nil, Option.some.injEq, exists_eq_left', exists_eq_left, exists_eq', exists_eq, true_and, and_true, Vl.d.injEq, Vl.nw.injEq, Vl.sl.injEq, Dt.int.injEq, Dt.bl.injEq, Dt.str.injEq, Dt.lst.injEq, Dt.tup.injEq, Dt.byt.injEq, Dt.ty.injEq, Dt.ref.injEq, En.val.injEq, En.mu.injEq, En.bor.injEq, List.cons.injEq, Nat.reduceLT, Nat.reduceAdd, Nat.reduceSub, Nat.zero_add, and_self, ↓reduceIte, Bool.false_eq_true, reduceCtorEq, false_and, and_false, exists_const, exists_false, or_false, false_or, Nat.reduceEqDiff, Option.map_some, Option.getD_some, Option.getD_none, and_assoc, exists_and_left, exists_and_right, rCall_f, rCall_g, f_pre, f_post, g_pre, g_post, g_exc, Prod.forall, Prod.exists, Prod.mk.injEq, exists_const, forall_const, argsD, conP, entD, remP, flagsP, flagAt, putP, aft, Ct.dt.injEq, forall_eq, forall_eq', forall_const, implies_true, false_implies, and_imp, forall_exists_index, forall_apply_eq_imp_iff, List.length_append, retD, rFor_L, asgLc, rLc_L, riList, riTup, riStr, riRange1, riRange2, riEnum, riRev, rgName, rgTup, rgCons, rgNil, wipeE, unw, rYes, rAsgG, rAsgSub, roSetL, rBM, rBM0, roAppend, roOwn0, isa_no, isa_bl, isa_in, isa_st, isa_by, isa_ls, isa_tu, isa_di, beq_self_eq_true, Bool.or_true, Bool.true_or, Bool.or_false, Bool.false_or, Bool.or_self, Bool.not_true, Bool.not_false, Bool.and_true, Bool.true_and, Bool.and_false, Bool.false_and, String.reduceBEq, String.reduceEq, not_true_eq_false, not_false_eq_true, rSlL', roNone, roSome, roCat, D.trk, rRaise0, rRaise1, excD, rTry, rEx, wMixD, goneD, List.isEmpty_nil, if_true, List.length_singleton, Nat.reduceLeDiff, Nat.reducePow, Int.reducePow, Int.reduceLT, Int.reduceLE, Int.reduceNeg, Int.reduceToNat, S_draw, ms_law_draw]
    obtain ⟨p, hp1, hp2, hp3⟩ := primes (Int.emod_nonneg (c + 1) (by decide)) (Int.emod_lt_of_pos _ (by decide))
    refine ⟨_, hp1, ?_⟩
    subst e3
    have hcc : c + 1 ≤ 1000000000 := by
      have : c < 1000000000 := hm
      omega
    refine sg fun U4 e4 => ?_
    simp (maxSteps := 3000000) only [rPar, rParM, riRange3, roI2, rLcO_L, isN_eq, notN_eq, rSlTu, riZip, riZipO, riListO, rMinDef, rFldG, rSetFG, rDGet, rDIn, rDPut, roLenD, roListD, roSortD, rAsgStar, rForK_L, rDisp1, rSortST, rMakeC_f, kD, vD, iD, keyDt, own, wr, gput, gfind, keyD, keyDt, id_eq, roSplit, roStr1, rSlSt, rSlBy, rRevL, TruD, rOrT, rAndT, rMake_g, roCatA, roRep, rMeth_f, rMeth_g, roOwnB_f, MakeQ_g, rMakeK, roIsC, isC_ins, rFld, rSetF, rXfn, rXf, lk_eq, putD, Dt.ins.injEq, Dt.exn.injEq, RleS, RMulS, RMulZ, roJoin, rRet, rRetN, rSeq, rIfS, rAsg, rVar, ofEn, rC, rOp, rUn, roP, rCB, rCons, rNil, rAndV, rOrV, rNotV, rB, rAnd, rOr, rNot, rIf, rTup, rLst, rDrop, rNext, rNever, look, frz, frzs, looks, held, roIsi, roF1, roL1, roNeg, rDNew, startE, ents, ent, csOf, unal, finds, RI0, RI, int_in, int_bl, len_ls, len_tu, len_st, len_by, at0, at1, at2, at3, ix30, ix31, ix32, eq_ii, ne_ii, eq_by, ne_by, notin_c, in_c, D.rChain, RIxA, roTupOf, RListOf, RListB, List.findSome?, List.getElem?_cons_zero, List.getElem?_cons_succ, List.getElem?_nil, List.set_cons_zero, List.set_cons_succ, List.length_cons, List.length_nil, List.map_cons, List.map_nil, List.replicate, List.nil_append, List.cons_append, List.append_nil, Option.some.injEq, exists_eq_left', exists_eq_left, exists_eq', exists_eq, true_and, and_true, Vl.d.injEq, Vl.nw.injEq, Vl.sl.injEq, Dt.int.injEq, Dt.bl.injEq, Dt.str.injEq, Dt.lst.injEq, Dt.tup.injEq, Dt.byt.injEq, Dt.ty.injEq, Dt.ref.injEq, En.val.injEq, En.mu.injEq, En.bor.injEq, List.cons.injEq, Nat.reduceLT, Nat.reduceAdd, Nat.reduceSub, Nat.zero_add, and_self, ↓reduceIte, Bool.false_eq_true, reduceCtorEq, false_and, and_false, exists_const, exists_false, or_false, false_or, Nat.reduceEqDiff, Option.map_some, Option.getD_some, Option.getD_none, and_assoc, exists_and_left, exists_and_right, rCall_f, rCall_g, f_pre, f_post, g_pre, g_post, g_exc, Prod.forall, Prod.exists, Prod.mk.injEq, exists_const, forall_const, argsD, conP, entD, remP, flagsP, flagAt, putP, aft, Ct.dt.injEq, forall_eq, forall_eq', forall_const, implies_true, false_implies, and_imp, forall_exists_index, forall_apply_eq_imp_iff, List.length_append, retD, rFor_L, asgLc, rLc_L, riList, riTup, riStr, riRange1, riRange2, riEnum, riRev, rgName, rgTup, rgCons, rgNil, wipeE, unw, rYes, rAsgG, rAsgSub, roSetL, rBM, rBM0, roAppend, roOwn0, isa_no, isa_bl, isa_in, isa_st, isa_by, isa_ls, isa_tu, isa_di, beq_self_eq_true, Bool.or_true, Bool.true_or, Bool.or_false, Bool.false_or, Bool.or_self, Bool.not_true, Bool.not_false, Bool.and_true, Bool.true_and, Bool.and_false, Bool.false_and, String.reduceBEq, String.reduceEq, not_true_eq_false, not_false_eq_true, rSlL', roNone, roSome, roCat, D.trk, rRaise0, rRaise1, excD, rTry, rEx, wMixD, goneD, List.isEmpty_nil, if_true, List.length_singleton, Nat.reduceLeDiff, Nat.reducePow, Int.reducePow, Int.reduceLT, Int.reduceLE, Int.reduceNeg, Int.reduceToNat, S_draw, ms_law_draw]
    refine ⟨.inl ⟨by decide, by decide⟩, ⟨by decide, by decide, by omega⟩, by omega, ?_⟩
    have hq0 : 0 ≤ (b + 7919 * (c + 1) + 1) ^ 5 % p := Int.emod_nonneg _ (by omega)
    have hq1 : (b + 7919 * (c + 1) + 1) ^ 5 % p < p := Int.emod_lt_of_pos _ (by omega)
    generalize (b + 7919 * (c + 1) + 1) ^ 5 % p = q at hq0 hq1
    subst e4
    refine sg fun U5 e5 => ?_
    simp (maxSteps := 3000000) only [rPar, rParM, riRange3, roI2, rLcO_L, isN_eq, notN_eq, rSlTu, riZip, riZipO, riListO, rMinDef, rFldG, rSetFG, rDGet, rDIn, rDPut, roLenD, roListD, roSortD, rAsgStar, rForK_L, rDisp1, rSortST, rMakeC_f, kD, vD, iD, keyDt, own, wr, gput, gfind, keyD, keyDt, id_eq, roSplit, roStr1, rSlSt, rSlBy, rRevL, TruD, rOrT, rAndT, rMake_g, roCatA, roRep, rMeth_f, rMeth_g, roOwnB_f, MakeQ_g, rMakeK, roIsC, isC_ins, rFld, rSetF, rXfn, rXf, lk_eq, putD, Dt.ins.injEq, Dt.exn.injEq, RleS, RMulS, RMulZ, roJoin, rRet, rRetN, rSeq, rIfS, rAsg, rVar, ofEn, rC, rOp, rUn, roP, rCB, rCons, rNil, rAndV, rOrV, rNotV, rB, rAnd, rOr, rNot, rIf, rTup, rLst, rDrop, rNext, rNever, look, frz, frzs, looks, held, roIsi, roF1, roL1, roNeg, rDNew, startE, ents, ent, csOf, unal, finds, RI0, RI, int_in, int_bl, len_ls, len_tu, len_st, len_by, at0, at1, at2, at3, ix30, ix31, ix32, eq_ii, ne_ii, eq_by, ne_by, notin_c, in_c, D.rChain, RIxA, roTupOf, RListOf, RListB, List.findSome?, List.getElem?_cons_zero, List.getElem?_cons_succ, List.getElem?_nil, List.set_cons_zero, List.set_cons_succ, List.length_cons, List.length_nil, List.map_cons, List.map_nil, List.replicate, List.nil_append, List.cons_append, List.append_nil, Option.some.injEq, exists_eq_left', exists_eq_left, exists_eq', exists_eq, true_and, and_true, Vl.d.injEq, Vl.nw.injEq, Vl.sl.injEq, Dt.int.injEq, Dt.bl.injEq, Dt.str.injEq, Dt.lst.injEq, Dt.tup.injEq, Dt.byt.injEq, Dt.ty.injEq, Dt.ref.injEq, En.val.injEq, En.mu.injEq, En.bor.injEq, List.cons.injEq, Nat.reduceLT, Nat.reduceAdd, Nat.reduceSub, Nat.zero_add, and_self, ↓reduceIte, Bool.false_eq_true, reduceCtorEq, false_and, and_false, exists_const, exists_false, or_false, false_or, Nat.reduceEqDiff, Option.map_some, Option.getD_some, Option.getD_none, and_assoc, exists_and_left, exists_and_right, rCall_f, rCall_g, f_pre, f_post, g_pre, g_post, g_exc, Prod.forall, Prod.exists, Prod.mk.injEq, exists_const, forall_const, argsD, conP, entD, remP, flagsP, flagAt, putP, aft, Ct.dt.injEq, forall_eq, forall_eq', forall_const, implies_true, false_implies, and_imp, forall_exists_index, forall_apply_eq_imp_iff, List.length_append, retD, rFor_L, asgLc, rLc_L, riList, riTup, riStr, riRange1, riRange2, riEnum, riRev, rgName, rgTup, rgCons, rgNil, wipeE, unw, rYes, rAsgG, rAsgSub, roSetL, rBM, rBM0, roAppend, roOwn0, isa_no, isa_bl, isa_in, isa_st, isa_by, isa_ls, isa_tu, isa_di, beq_self_eq_true, Bool.or_true, Bool.true_or, Bool.or_false, Bool.false_or, Bool.or_self, Bool.not_true, Bool.not_false, Bool.and_true, Bool.true_and, Bool.and_false, Bool.false_and, String.reduceBEq, String.reduceEq, not_true_eq_false, not_false_eq_true, rSlL', roNone, roSome, roCat, D.trk, rRaise0, rRaise1, excD, rTry, rEx, wMixD, goneD, List.isEmpty_nil, if_true, List.length_singleton, Nat.reduceLeDiff, Nat.reducePow, Int.reducePow, Int.reduceLT, Int.reduceLE, Int.reduceNeg, Int.reduceToNat, S_draw, ms_law_draw]
    refine ⟨⟨by decide, by decide⟩, .inl ⟨by omega, by omega⟩, by omega, ?_⟩
    have hr0 : 0 ≤ (q + (c + 1)) * (q / 1009 + 69621) % p := Int.emod_nonneg _ (by omega)
    generalize (q + (c + 1)) * (q / 1009 + 69621) % p = r at hr0
    subst e5
    simp (maxSteps := 3000000) only [rPar, rParM, riRange3, roI2, rLcO_L, isN_eq, notN_eq, rSlTu, riZip, riZipO, riListO, rMinDef, rFldG, rSetFG, rDGet, rDIn, rDPut, roLenD, roListD, roSortD, rAsgStar, rForK_L, rDisp1, rSortST, rMakeC_f, kD, vD, iD, keyDt, own, wr, gput, gfind, keyD, keyDt, id_eq, roSplit, roStr1, rSlSt, rSlBy, rRevL, TruD, rOrT, rAndT, rMake_g, roCatA, roRep, rMeth_f, rMeth_g, roOwnB_f, MakeQ_g, rMakeK, roIsC, isC_ins, rFld, rSetF, rXfn, rXf, lk_eq, putD, Dt.ins.injEq, Dt.exn.injEq, RleS, RMulS, RMulZ, roJoin, rRet, rRetN, rSeq, rIfS, rAsg, rVar, ofEn, rC, rOp, rUn, roP, rCB, rCons, rNil, rAndV, rOrV, rNotV, rB, rAnd, rOr, rNot, rIf, rTup, rLst, rDrop, rNext, rNever, look, frz, frzs, looks, held, roIsi, roF1, roL1, roNeg, rDNew, startE, ents, ent, csOf, unal, finds, RI0, RI, int_in, int_bl, len_ls, len_tu, len_st, len_by, at0, at1, at2, at3, ix30, ix31, ix32, eq_ii, ne_ii, eq_by, ne_by, notin_c, in_c, D.rChain, RIxA, roTupOf, RListOf, RListB, List.findSome?, List.getElem?_cons_zero, List.getElem?_cons_succ, List.getElem?_nil, List.set_cons_zero, List.set_cons_succ, List.length_cons, List.length_nil, List.map_cons, List.map_nil, List.replicate, List.nil_append, List.cons_append, List.append_nil, Option.some.injEq, exists_eq_left', exists_eq_left, exists_eq', exists_eq, true_and, and_true, Vl.d.injEq, Vl.nw.injEq, Vl.sl.injEq, Dt.int.injEq, Dt.bl.injEq, Dt.str.injEq, Dt.lst.injEq, Dt.tup.injEq, Dt.byt.injEq, Dt.ty.injEq, Dt.ref.injEq, En.val.injEq, En.mu.injEq, En.bor.injEq, List.cons.injEq, Nat.reduceLT, Nat.reduceAdd, Nat.reduceSub, Nat.zero_add, and_self, ↓reduceIte, Bool.false_eq_true, reduceCtorEq, false_and, and_false, exists_const, exists_false, or_false, false_or, Nat.reduceEqDiff, Option.map_some, Option.getD_some, Option.getD_none, and_assoc, exists_and_left, exists_and_right, rCall_f, rCall_g, f_pre, f_post, g_pre, g_post, g_exc, Prod.forall, Prod.exists, Prod.mk.injEq, exists_const, forall_const, argsD, conP, entD, remP, flagsP, flagAt, putP, aft, Ct.dt.injEq, forall_eq, forall_eq', forall_const, implies_true, false_implies, and_imp, forall_exists_index, forall_apply_eq_imp_iff, List.length_append, retD, rFor_L, asgLc, rLc_L, riList, riTup, riStr, riRange1, riRange2, riEnum, riRev, rgName, rgTup, rgCons, rgNil, wipeE, unw, rYes, rAsgG, rAsgSub, roSetL, rBM, rBM0, roAppend, roOwn0, isa_no, isa_bl, isa_in, isa_st, isa_by, isa_ls, isa_tu, isa_di, beq_self_eq_true, Bool.or_true, Bool.true_or, Bool.or_false, Bool.false_or, Bool.or_self, Bool.not_true, Bool.not_false, Bool.and_true, Bool.true_and, Bool.and_false, Bool.false_and, String.reduceBEq, String.reduceEq, not_true_eq_false, not_false_eq_true, rSlL', roNone, roSome, roCat, D.trk, rRaise0, rRaise1, excD, rTry, rEx, wMixD, goneD, List.isEmpty_nil, if_true, List.length_singleton, Nat.reduceLeDiff, Nat.reducePow, Int.reducePow, Int.reduceLT, Int.reduceLE, Int.reduceNeg, Int.reduceToNat, S_draw, ms_law_draw]
    refine ⟨⟨by decide, by decide⟩, hn, _, _, ⟨_, _, _, rfl, hb, hb', by omega⟩, ?_, Int.emod_nonneg _ (by omega), Int.emod_lt_of_pos _ hn, rfl, rfl⟩
    exact Int.le_refl _
/-! #### _law_one -/
abbrev s_law_one : Stmt := top 15
abbrev N_law_one : List Str := ["_law_well_here", "_law_some"]
abbrev P_law_one : List Str := ["_law_well_here", "_law_some"]
abbrev ms_law_one : List Md := [.p, .b]
theorem sc_law_one : FnScope N_law_one P_law_one (defScope s_law_one) := ⟨rfl, rfl, rfl, by decide +kernel, rfl, by decide +kernel, by decide +kernel⟩
theorem ok_law_one {P : Program} {w : World} {K : PySem.W.Frag} {mg : Str → Option Value} {base : Heap} {f : Addr} {fd : FuncData} {c_FellError c_NoName c_Taken c_NoChange c_History : Addr} (G : Gs K mg c_FellError c_NoName c_Taken c_NoChange c_History) (h0 : Hs P w K mg base CX0 1 "_law_draw" P_law_draw (toSp K ms_law_draw (S_draw))) (X_NoChange : ExO P w K mg base "NoChange" c_NoChange "name") (X_NoName : ExO P w K mg base "NoName" c_NoName "name") (X_Taken : ExO P w K mg base "Taken" c_Taken "name") (K_History : ClF K mg "History" c_History) (nA_History_parents : NoAttr K c_History "parents") (F : Fun K "_law_one" "_law_one" s_law_one f fd) (mf : mg "_law_one" = some (.ref f)) :
    Hs P w K mg base CX0 2 "_law_one" P_law_one (toSp K ms_law_one (S_one)) := by
  obtain ⟨f0, fd0, F0, m0, k0, b0⟩ := h0
  refine ⟨f, fd, ?_, mf, F.kp, F.binds (ps := P_law_one) fun _ _ _ _ _ _ us hl => match us, hl with | [_, _], _ => rfl⟩
  refine F.ok sc_law_one (fun vs H Q E h => toSp_len h) (fun cdv A outer s H vs Q E hr h => ?_)
  have hu := hr.units
  refine ⟨_, pss_one (ps_ret (pe_ix ix_seq (pv 1) (pe_callS (E := (fun _ => E0)) F0 (hr.mono (by decide)) rfl m0 k0 b0 (fun _ => fun _ _ _ _ _ _ h => False.elim h) (pa_cons (pv 0) (pa_cons (pe_callB call_len rfl G.b_len (by decide +kernel) (pa_cons (pv 1) (pa_nil))) (pa_nil)))) (fun _ _ => rfl))), ?_⟩
  refine run_body0 h (by decide) (fun as => ds_ret (de_op (d2_P p2_ix) (de_var 1) (de_callS (X := W0) (ms := ms_law_draw) (S := S_draw) (fun _ _ _ _ h => False.elim h) (da_cons (de_var 0) (da_cons (de_cb (dc_F1 f1_len) (da_cons (de_var 1) (da_nil))) (da_nil)))))) (fun as hp hl => ?_)
  obtain ⟨w, d, rfl, hw, hm, hn, hn'⟩ := hp
  have hcase : (∃ ds, d = .lst ds) ∨ (∃ ds, d = .tup ds) ∨ ∃ s, d = .str s := by
    cases d <;> first | exact .inl ⟨_, rfl⟩ | exact .inr (.inl ⟨_, rfl⟩) | exact .inr (.inr ⟨_, rfl⟩) | exact absurd rfl hn
  rcases hcase with ⟨ds, rfl⟩ | ⟨ds, rfl⟩ | ⟨s, rfl⟩
  · simp (maxSteps := 3000000) only [rPar, rParM, riRange3, roI2, rLcO_L, isN_eq, notN_eq, rSlTu, riZip, riZipO, riListO, rMinDef, rFldG, rSetFG, rDGet, rDIn, rDPut, roLenD, roListD, roSortD, rAsgStar, rForK_L, rDisp1, rSortST, rMakeC_f, kD, vD, iD, keyDt, own, wr, gput, gfind, keyD, keyDt, id_eq, roSplit, roStr1, rSlSt, rSlBy, rRevL, TruD, rOrT, rAndT, rMake_g, roCatA, roRep, rMeth_f, rMeth_g, roOwnB_f, MakeQ_g, rMakeK, roIsC, isC_ins, rFld, rSetF, rXfn, rXf, lk_eq, putD, Dt.ins.injEq, Dt.exn.injEq, RleS, RMulS, RMulZ, roJoin, rRet, rRetN, rSeq, rIfS, rAsg, rVar, ofEn, rC, rOp, rUn, roP, rCB, rCons, rNil, rAndV, rOrV, rNotV, rB, rAnd, rOr, rNot, rIf, rTup, rLst, rDrop, rNext, rNever, look, frz, frzs, looks, held, roIsi, roF1, roL1, roNeg, rDNew, startE, ents, ent, csOf, unal, finds, RI0, RI, int_in, int_bl, len_ls, len_tu, len_st, len_by, at0, at1, at2, at3, ix30, ix31, ix32, eq_ii, ne_ii, eq_by, ne_by, notin_c, in_c, D.rChain, RIxA, roTupOf, RListOf, RListB, List.findSome?, List.getElem?_cons_zero, List.getElem?_cons_succ, List.getElem?_nil, List.set_cons_zero, List.set_cons_succ, List.length_cons, List.length_nil, List.map_cons, List.map_nil, List.replicate, List.nil_append, List.cons_append, List.append_nil, Option.some.injEq, exists_eq_left', exists_eq_left, exists_eq', exists_eq, true_and, and_true, Vl.d.injEq, Vl.nw.injEq, Vl.sl.injEq, Dt.int.injEq, Dt.bl.injEq, Dt.str.injEq, Dt.lst.injEq, Dt.tup.injEq, Dt.byt.injEq, Dt.ty.injEq, Dt.ref.injEq, En.val.injEq, En.mu.injEq, En.bor.injEq, List.cons.injEq, Nat.reduceLT, Nat.reduceAdd, Nat.reduceSub, Nat.zero_add, and_self, ↓reduceIte, Bool.false_eq_true, reduceCtorEq, false_and, and_false, exists_const, exists_false, or_false, false_or, Nat.reduceEqDiff, Option.map_some, Option.getD_some, Option.getD_none, and_assoc, exists_and_left, exists_and_right, rCall_f, rCall_g, f_pre, f_post, g_pre, g_post, g_exc, Prod.forall, Prod.exists, Prod.mk.injEq, exists_const, forall_const, argsD, conP, entD, remP, flagsP, flagAt, putP, aft, Ct.dt.injEq, forall_eq, forall_eq', forall_const, implies_true, false_implies, and_imp, forall_exists_index, forall_apply_eq_imp_iff, List.length_append, retD, rFor_L, asgLc, rLc_L, riList, riTup, riStr, riRange1, riRange2, riEnum, riRev, rgName, rgTup, rgCons, rgNil, wipeE, unw, rYes, rAsgG, rAsgSub, roSetL, rBM, rBM0, roAppend, roOwn0, isa_no, isa_bl, isa_in, isa_st, isa_by, isa_ls, isa_tu, isa_di, beq_self_eq_true, Bool.or_true, Bool.true_or, Bool.or_false, Bool.false_or, Bool.or_self, Bool.not_true, Bool.not_false, Bool.and_true, Bool.true_and, Bool.and_false, Bool.false_and, String.reduceBEq, String.reduceEq, not_true_eq_false, not_false_eq_true, rSlL', roNone, roSome, roCat, D.trk, rRaise0, rRaise1, excD, rTry, rEx, wMixD, goneD, List.isEmpty_nil, if_true, List.length_singleton, Nat.reduceLeDiff, Nat.reducePow, Int.reducePow, Int.reduceLT, Int.reduceLE, Int.reduceNeg, Int.reduceToNat, ms_law_one, ms_law_draw, S_draw, S_one, items]
    have h0 : 0 < ds.length := List.length_pos_iff.mpr hn
    have hn' : ds.length < 100000 := hn'
    refine ⟨hw, hm, by omega, by omega, fun a b hw' hc' h1 h2 => ?_⟩
    obtain ⟨x, e, hx⟩ := at_mem h1 h2
    exact ⟨x, e, x, b, hw', hc', hx, rfl, rfl⟩
  · simp (maxSteps := 3000000) only [rPar, rParM, riRange3, roI2, rLcO_L, isN_eq, notN_eq, rSlTu, riZip, riZipO, riListO, rMinDef, rFldG, rSetFG, rDGet, rDIn, rDPut, roLenD, roListD, roSortD, rAsgStar, rForK_L, rDisp1, rSortST, rMakeC_f, kD, vD, iD, keyDt, own, wr, gput, gfind, keyD, keyDt, id_eq, roSplit, roStr1, rSlSt, rSlBy, rRevL, TruD, rOrT, rAndT, rMake_g, roCatA, roRep, rMeth_f, rMeth_g, roOwnB_f, MakeQ_g, rMakeK, roIsC, isC_ins, rFld, rSetF, rXfn, rXf, lk_eq, putD, Dt.ins.injEq, Dt.exn.injEq, RleS, RMulS, RMulZ, roJoin, rRet, rRetN, rSeq, rIfS, rAsg, rVar, ofEn, rC, rOp, rUn, roP, rCB, rCons, rNil, rAndV, rOrV, rNotV, rB, rAnd, rOr, rNot, rIf, rTup, rLst, rDrop, rNext, rNever, look, frz, frzs, looks, held, roIsi, roF1, roL1, roNeg, rDNew, startE, ents, ent, csOf, unal, finds, RI0, RI, int_in, int_bl, len_ls, len_tu, len_st, len_by, at0, at1, at2, at3, ix30, ix31, ix32, eq_ii, ne_ii, eq_by, ne_by, notin_c, in_c, D.rChain, RIxA, roTupOf, RListOf, RListB, List.findSome?, List.getElem?_cons_zero, List.getElem?_cons_succ, List.getElem?_nil, List.set_cons_zero, List.set_cons_succ, List.length_cons, List.length_nil, List.map_cons, List.map_nil, List.replicate, List.nil_append, List.cons_append, List.append_nil, Option.some.injEq, exists_eq_left', exists_eq_left, exists_eq', exists_eq, true_and, and_true, Vl.d.injEq, Vl.nw.injEq, Vl.sl.injEq, Dt.int.injEq, Dt.bl.injEq, Dt.str.injEq, Dt.lst.injEq, Dt.tup.injEq, Dt.byt.injEq, Dt.ty.injEq, Dt.ref.injEq, En.val.injEq, En.mu.injEq, En.bor.injEq, List.cons.injEq, Nat.reduceLT, Nat.reduceAdd, Nat.reduceSub, Nat.zero_add, and_self, ↓reduceIte, Bool.false_eq_true, reduceCtorEq, false_and, and_false, exists_const, exists_false, or_false, false_or, Nat.reduceEqDiff, Option.map_some, Option.getD_some, Option.getD_none, and_assoc, exists_and_left, exists_and_right, rCall_f, rCall_g, f_pre, f_post, g_pre, g_post, g_exc, Prod.forall, Prod.exists, Prod.mk.injEq, exists_const, forall_const, argsD, conP, entD, remP, flagsP, flagAt, putP, aft, Ct.dt.injEq, forall_eq, forall_eq', forall_const, implies_true, false_implies, and_imp, forall_exists_index, forall_apply_eq_imp_iff, List.length_append, retD, rFor_L, asgLc, rLc_L, riList, riTup, riStr, riRange1, riRange2, riEnum, riRev, rgName, rgTup, rgCons, rgNil, wipeE, unw, rYes, rAsgG, rAsgSub, roSetL, rBM, rBM0, roAppend, roOwn0, isa_no, isa_bl, isa_in, isa_st, isa_by, isa_ls, isa_tu, isa_di, beq_self_eq_true, Bool.or_true, Bool.true_or, Bool.or_false, Bool.false_or, Bool.or_self, Bool.not_true, Bool.not_false, Bool.and_true, Bool.true_and, Bool.and_false, Bool.false_and, String.reduceBEq, String.reduceEq, not_true_eq_false, not_false_eq_true, rSlL', roNone, roSome, roCat, D.trk, rRaise0, rRaise1, excD, rTry, rEx, wMixD, goneD, List.isEmpty_nil, if_true, List.length_singleton, Nat.reduceLeDiff, Nat.reducePow, Int.reducePow, Int.reduceLT, Int.reduceLE, Int.reduceNeg, Int.reduceToNat, ms_law_one, ms_law_draw, S_draw, S_one, items]
    have h0 : 0 < ds.length := List.length_pos_iff.mpr hn
    have hn' : ds.length < 100000 := hn'
    refine ⟨hw, hm, by omega, by omega, fun a b hw' hc' h1 h2 => ?_⟩
    obtain ⟨x, e, hx⟩ := at_mem h1 h2
    exact ⟨x, e, x, b, hw', hc', hx, rfl, rfl⟩
  · simp (maxSteps := 3000000) only [rPar, rParM, riRange3, roI2, rLcO_L, isN_eq, notN_eq, rSlTu, riZip, riZipO, riListO, rMinDef, rFldG, rSetFG, rDGet, rDIn, rDPut, roLenD, roListD, roSortD, rAsgStar, rForK_L, rDisp1, rSortST, rMakeC_f, kD, vD, iD, keyDt, own, wr, gput, gfind, keyD, keyDt, id_eq, roSplit, roStr1, rSlSt, rSlBy, rRevL, TruD, rOrT, rAndT, rMake_g, roCatA, roRep, rMeth_f, rMeth_g, roOwnB_f, MakeQ_g, rMakeK, roIsC, isC_ins, rFld, rSetF, rXfn, rXf, lk_eq, putD, Dt.ins.injEq, Dt.exn.injEq, RleS, RMulS, RMulZ, roJoin, rRet, rRetN, rSeq, rIfS, rAsg, rVar, ofEn, rC, rOp, rUn, roP, rCB, rCons, rNil, rAndV, rOrV, rNotV, rB, rAnd, rOr, rNot, rIf, rTup, rLst, rDrop, rNext, rNever, look, frz, frzs, looks, held, roIsi, roF1, roL1, roNeg, rDNew, startE, ents, ent, csOf, unal, finds, RI0, RI, int_in, int_bl, len_ls, len_tu, len_st, len_by, at0, at1, at2, at3, ix30, ix31, ix32, eq_ii, ne_ii, eq_by, ne_by, notin_c, in_c, D.rChain, RIxA, roTupOf, RListOf, RListB, List.findSome?, List.getElem?_cons_zero, List.getElem?_cons_succ, List.getElem?_nil, List.set_cons_zero, List.set_cons_succ, List.length_cons, List.length_nil, List.map_cons, List.map_nil, List.replicate, List.nil_append, List.cons_append, List.append_nil, Option.some.injEq, exists_eq_left', exists_eq_left, exists_eq', exists_eq, true_and, and_true, Vl.d.injEq, Vl.nw.injEq, Vl.sl.injEq, Dt.int.injEq, Dt.bl.injEq, Dt.str.injEq, Dt.lst.injEq, Dt.tup.injEq, Dt.byt.injEq, Dt.ty.injEq, Dt.ref.injEq, En.val.injEq, En.mu.injEq, En.bor.injEq, List.cons.injEq, Nat.reduceLT, Nat.reduceAdd, Nat.reduceSub, Nat.zero_add, and_self, ↓reduceIte, Bool.false_eq_true, reduceCtorEq, false_and, and_false, exists_const, exists_false, or_false, false_or, Nat.reduceEqDiff, Option.map_some, Option.getD_some, Option.getD_none, and_assoc, exists_and_left, exists_and_right, rCall_f, rCall_g, f_pre, f_post, g_pre, g_post, g_exc, Prod.forall, Prod.exists, Prod.mk.injEq, exists_const, forall_const, argsD, conP, entD, remP, flagsP, flagAt, putP, aft, Ct.dt.injEq, forall_eq, forall_eq', forall_const, implies_true, false_implies, and_imp, forall_exists_index, forall_apply_eq_imp_iff, List.length_append, retD, rFor_L, asgLc, rLc_L, riList, riTup, riStr, riRange1, riRange2, riEnum, riRev, rgName, rgTup, rgCons, rgNil, wipeE, unw, rYes, rAsgG, rAsgSub, roSetL, rBM, rBM0, roAppend, roOwn0, isa_no, isa_bl, isa_in, isa_st, isa_by, isa_ls, isa_tu, isa_di, beq_self_eq_true, Bool.or_true, Bool.true_or, Bool.or_false, Bool.false_or, Bool.or_self, Bool.not_true, Bool.not_false, Bool.and_true, Bool.true_and, Bool.and_false, Bool.false_and, String.reduceBEq, String.reduceEq, not_true_eq_false, not_false_eq_true, rSlL', roNone, roSome, roCat, D.trk, rRaise0, rRaise1, excD, rTry, rEx, wMixD, goneD, List.isEmpty_nil, if_true, List.length_singleton, Nat.reduceLeDiff, Nat.reducePow, Int.reducePow, Int.reduceLT, Int.reduceLE, Int.reduceNeg, Int.reduceToNat, ms_law_one, ms_law_draw, S_draw, S_one, items]
    have h0 : 0 < (D.signs s).length := List.length_pos_iff.mpr hn
    have hn' : (D.signs s).length < 100000 := hn'
    rw [D.signs_length] at h0 hn'
    have hl : s.length = s.cps.size := rfl
    refine ⟨by omega, hw, hm, by omega, by omega, fun a b hw' hc' h1 h2 => ?_⟩
    obtain ⟨x, e, hx⟩ := at_mem (l := s.cps.toList) h1 (by rw [Array.length_toList]; omega)
    exact ⟨by omega, _, ⟨x, e, rfl⟩, _, b, hw', hc', List.mem_map.mpr ⟨x, hx, rfl⟩, rfl, rfl⟩
/-! #### _law_names -/
abbrev s_law_names : Stmt := top 16
abbrev N_law_names : List Str := ["_law_well_here", "_law_size", "_law_found", "_law_word", "_law_k"]
abbrev P_law_names : List Str := ["_law_well_here", "_law_size"]
abbrev ms_law_names : List Md := [.p, .v]
theorem sc_law_names : FnScope N_law_names P_law_names (defScope s_law_names) := ⟨rfl, rfl, rfl, by decide +kernel, rfl, by decide +kernel, by decide +kernel⟩
theorem ok_law_names {P : Program} {w : World} {K : PySem.W.Frag} {mg : Str → Option Value} {base : Heap} {f : Addr} {fd : FuncData} {c_FellError c_NoName c_Taken c_NoChange c_History : Addr} (G : Gs K mg c_FellError c_NoName c_Taken c_NoChange c_History) (h0 : Hs P w K mg base CX0 1 "_law_draw" P_law_draw (toSp K ms_law_draw (S_draw))) (X_NoChange : ExO P w K mg base "NoChange" c_NoChange "name") (X_NoName : ExO P w K mg base "NoName" c_NoName "name") (X_Taken : ExO P w K mg base "Taken" c_Taken "name") (K_History : ClF K mg "History" c_History) (nA_History_parents : NoAttr K c_History "parents") (F : Fun K "_law_names" "_law_names" s_law_names f fd) (mf : mg "_law_names" = some (.ref f)) :
    Hs P w K mg base CX0 2 "_law_names" P_law_names (toSp K ms_law_names (S_lnames 15)) := by
  obtain ⟨f0, fd0, F0, m0, k0, b0⟩ := h0
  refine ⟨f, fd, ?_, mf, F.kp, F.binds (ps := P_law_names) fun _ _ _ _ _ _ us hl => match us, hl with | [_, _], _ => rfl⟩
  refine F.ok sc_law_names (fun vs H Q E h => toSp_len h) (fun cdv A outer s H vs Q E hr h => ?_)
  have hu := hr.units
  refine ⟨_, pss_cons (ps_set (i := 2) sc_law_names.nd rfl (by first | exact Or.inl rfl | exact Or.inr rfl) (pe_lst (pa_nil))) (pss_cons (ps_while PassesOwn.never (pt_cmpR (op_lt) (pe_callB call_len rfl G.b_len (by decide +kernel) (pa_cons (pv 2) (pa_nil))) (pv 1) (nomark _)) (pss_cons (ps_set (i := 3) sc_law_names.nd rfl (by first | exact Or.inl rfl | exact Or.inr rfl) (pe_ix ix_seq (pe_str) (pe_callS (E := (fun _ => E0)) F0 (hr.mono (by decide)) rfl m0 k0 b0 (fun _ => fun _ _ _ _ _ _ h => False.elim h) (pa_cons (pv 0) (pa_cons (pe_int) (pa_nil)))) (fun _ _ => rfl))) (pss_cons (ps_for PassesOwn.never rfl (pi_range1 rfl G.b_range (pa_cons (pe_ix ix_seq (pe_lst (pa_cons (pe_int) (pa_cons (pe_int) (pa_cons (pe_int) (pa_cons (pe_int) (pa_nil)))))) (pe_callS (E := (fun _ => E0)) F0 (hr.mono (by decide)) rfl m0 k0 b0 (fun _ => fun _ _ _ _ _ _ h => False.elim h) (pa_cons (pv 0) (pa_cons (pe_int) (pa_nil)))) (fun _ _ => rfl)) (pa_nil))) (pg_name (i := 4) sc_law_names.nd rfl (by first | exact Or.inl rfl | exact Or.inr rfl | exact .inr (.inl rfl) | exact .inr (.inr rfl))) (pss_one (ps_set (i := 3) sc_law_names.nd rfl (by first | exact Or.inl rfl | exact Or.inr rfl) (pe_op op_add_str (pv 3) (pe_ix ix_seq (pe_str) (pe_callS (E := (fun _ => E0)) F0 (hr.mono (by decide)) rfl m0 k0 b0 (fun _ => fun _ _ _ _ _ _ h => False.elim h) (pa_cons (pv 0) (pa_cons (pe_int) (pa_nil)))) (fun _ _ => rfl)))))) (pss_cons (ps_if (pt_cmpR ((op_inA hu)) (pv 3) (pv 2) (by rfl)) (pss_one (ps_set (i := 3) sc_law_names.nd rfl (by first | exact Or.inl rfl | exact Or.inr rfl) (pe_op op_add_str (pe_str) (pe_ix ix_seq (pe_str) (pe_callB call_len rfl G.b_len (by decide +kernel) (pa_cons (pv 2) (pa_nil))) (fun _ _ => rfl))))) (pss_nil)) (pss_one (ps_expr (pe_bm PySem.F.plainAttrs_list PySem.F.slot_list_append PySem.F.type_list_append mt_append (pv 2) (pa_cons (pv 3) (pa_nil))))))))) (pss_one (ps_ret (pv 2)))), ?_⟩
  refine run_body0 h (by decide) (fun as => ds_seq (ds_asg (de_lst (da_nil)) 2) (ds_seq (ds_wh (dt_test (de_op (d2_P p2_ib) (de_cb (dc_F1 f1_len) (da_cons (de_var 2) (da_nil))) (de_var 1))) (ds_seq (ds_asg (de_op (d2_P p2_ix) (de_str) (de_callS (X := W0) (ms := ms_law_draw) (S := S_draw) (fun _ _ _ _ h => False.elim h) (da_cons (de_var 0) (da_cons (de_int) (da_nil))))) 3) (ds_seq (ds_for (di_range1 (da_cons (de_op (d2_P p2_ix) (de_lst (da_cons (de_int) (da_cons (de_int) (da_cons (de_int) (da_cons (de_int) (da_nil)))))) (de_callS (X := W0) (ms := ms_law_draw) (S := S_draw) (fun _ _ _ _ h => False.elim h) (da_cons (de_var 0) (da_cons (de_int) (da_nil))))) (da_nil))) (dg_name 4) (ds_asg (de_op (d2_P p2_addS) (de_var 3) (de_op (d2_P p2_ix) (de_str) (de_callS (X := W0) (ms := ms_law_draw) (S := S_draw) (fun _ _ _ _ h => False.elim h) (da_cons (de_var 0) (da_cons (de_int) (da_nil)))))) 3)) (ds_seq (ds_if (dt_test (de_op (d2_P p2_in) (de_var 3) (de_var 2))) (ds_asg (de_op (d2_P p2_addS) (de_str) (de_op (d2_P p2_ix) (de_str) (de_cb (dc_F1 f1_len) (da_cons (de_var 2) (da_nil))))) 3) (ds_next)) (ds_drop (de_bm dm_append (de_var 2) (da_cons (de_var 3) (da_nil)))))))) (ds_ret (de_var 2)))) (fun as hp hl => ?_)
  obtain ⟨w, n, rfl, hw, hc, hn⟩ := hp
  refine sg fun U1 e1 => ?_
  simp (maxSteps := 3000000) only [rPar, rParM, riRange3, roI2, rLcO_L, isN_eq, notN_eq, rSlTu, riZip, riZipO, riListO, rMinDef, rFldG, rSetFG, rDGet, rDIn, rDPut, roLenD, roListD, roSortD, rAsgStar, rForK_L, rDisp1, rSortST, rMakeC_f, kD, vD, iD, keyDt, own, wr, gput, gfind, keyD, keyDt, id_eq, roSplit, roStr1, rSlSt, rSlBy, rRevL, TruD, rOrT, rAndT, rMake_g, roCatA, roRep, rMeth_f, rMeth_g, roOwnB_f, MakeQ_g, rMakeK, roIsC, isC_ins, rFld, rSetF, rXfn, rXf, lk_eq, putD, Dt.ins.injEq, Dt.exn.injEq, RleS, RMulS, RMulZ, roJoin, rRet, rRetN, rSeq, rIfS, rAsg, rVar, ofEn, rC, rOp, rUn, roP, rCB, rCons, rNil, rAndV, rOrV, rNotV, rB, rAnd, rOr, rNot, rIf, rTup, rLst, rDrop, rNext, rNever, look, frz, frzs, looks, held, roIsi, roF1, roL1, roNeg, rDNew, startE, ents, ent, csOf, unal, finds, RI0, RI, int_in, int_bl, len_ls, len_tu, len_st, len_by, at0, at1, at2, at3, ix30, ix31, ix32, eq_ii, ne_ii, eq_by, ne_by, notin_c, in_c, D.rChain, RIxA, roTupOf, RListOf, RListB, List.findSome?, List.getElem?_cons_zero, List.getElem?_cons_succ, List.getElem?_nil, List.set_cons_zero, List.set_cons_succ, List.length_cons, List.length_nil, List.map_cons, List.map_nil, List.replicate, List.nil_append, List.cons_append, List.append_nil, Option.some.injEq, exists_eq_left', exists_eq_left, exists_eq', exists_eq, true_and, and_true, Vl.d.injEq, Vl.nw.injEq, Vl.sl.injEq, Dt.int.injEq, Dt.bl.injEq, Dt.str.injEq, Dt.lst.injEq, Dt.tup.injEq, Dt.byt.injEq, Dt.ty.injEq, Dt.ref.injEq, En.val.injEq, En.mu.injEq, En.bor.injEq, List.cons.injEq, Nat.reduceLT, Nat.reduceAdd, Nat.reduceSub, Nat.zero_add, and_self, ↓reduceIte, Bool.false_eq_true, reduceCtorEq, false_and, and_false, exists_const, exists_false, or_false, false_or, Nat.reduceEqDiff, Option.map_some, Option.getD_some, Option.getD_none, and_assoc, exists_and_left, exists_and_right, rCall_f, rCall_g, f_pre, f_post, g_pre, g_post, g_exc, Prod.forall, Prod.exists, Prod.mk.injEq, exists_const, forall_const, argsD, conP, entD, remP, flagsP, flagAt, putP, aft, Ct.dt.injEq, forall_eq, forall_eq', forall_const, implies_true, false_implies, and_imp, forall_exists_index, forall_apply_eq_imp_iff, List.length_append, retD, rFor_L, asgLc, rLc_L, riList, riTup, riStr, riRange1, riRange2, riEnum, riRev, rgName, rgTup, rgCons, rgNil, wipeE, unw, rYes, rAsgG, rAsgSub, roSetL, rBM, rBM0, roAppend, roOwn0, isa_no, isa_bl, isa_in, isa_st, isa_by, isa_ls, isa_tu, isa_di, beq_self_eq_true, Bool.or_true, Bool.true_or, Bool.or_false, Bool.false_or, Bool.or_self, Bool.not_true, Bool.not_false, Bool.and_true, Bool.true_and, Bool.and_false, Bool.false_and, String.reduceBEq, String.reduceEq, not_true_eq_false, not_false_eq_true, rSlL', roNone, roSome, roCat, D.trk, rRaise0, rRaise1, excD, rTry, rEx, wMixD, goneD, List.isEmpty_nil, if_true, List.length_singleton, Nat.reduceLeDiff, Nat.reducePow, Int.reducePow, Int.reduceLT, Int.reduceLE, Int.reduceNeg, Int.reduceToNat, S_draw, S_one, items, at4, at5, at6, S_law, rFrz, ms_law_well, ms_law_draw, ms_law_one, ms_law_names, S_lnames]
  subst e1
  refine sg fun U1 e1 => ?_
  refine lw_of (fun m η' => ∃ w' acc c3 c4, m = n - acc.length ∧ wOk w' ∧ cnt w' ≤ cnt w + 20 * (acc.length : Int) ∧ acc.length ≤ n ∧ NInv acc ∧ η' = [some (.mu (some 0) (.dt w')), some (.val (.int (n : Int))), some (.mu none (.dt (.lst (acc.map .str)))), c3, c4]) _ ⟨w, [], _, _, rfl, hw, by simp, by simp, .nil, rfl⟩ ?_
  rintro m η' ⟨w', acc, c3, c4, rfl, hw', hc', hal, hinv, rfl⟩
  simp (maxSteps := 3000000) only [rPar, rParM, riRange3, roI2, rLcO_L, isN_eq, notN_eq, rSlTu, riZip, riZipO, riListO, rMinDef, rFldG, rSetFG, rDGet, rDIn, rDPut, roLenD, roListD, roSortD, rAsgStar, rForK_L, rDisp1, rSortST, rMakeC_f, kD, vD, iD, keyDt, own, wr, gput, gfind, keyD, keyDt, id_eq, roSplit, roStr1, rSlSt, rSlBy, rRevL, TruD, rOrT, rAndT, rMake_g, roCatA, roRep, rMeth_f, rMeth_g, roOwnB_f, MakeQ_g, rMakeK, roIsC, isC_ins, rFld, rSetF, rXfn, rXf, lk_eq, putD, Dt.ins.injEq, Dt.exn.injEq, RleS, RMulS, RMulZ, roJoin, rRet, rRetN, rIfS, rAsg, rVar, ofEn, rC, rOp, rUn, roP, rCB, rCons, rNil, rAndV, rOrV, rNotV, rB, rAnd, rOr, rNot, rIf, rTup, rLst, rDrop, rNext, rNever, look, frz, frzs, looks, held, roIsi, roF1, roL1, roNeg, rDNew, startE, ents, ent, csOf, unal, finds, RI0, RI, int_in, int_bl, len_ls, len_tu, len_st, len_by, at0, at1, at2, at3, ix30, ix31, ix32, eq_ii, ne_ii, eq_by, ne_by, notin_c, in_c, D.rChain, RIxA, roTupOf, RListOf, RListB, List.findSome?, List.getElem?_cons_zero, List.getElem?_cons_succ, List.getElem?_nil, List.set_cons_zero, List.set_cons_succ, List.length_cons, List.length_nil, List.map_cons, List.map_nil, List.replicate, List.nil_append, List.cons_append, List.append_nil, Option.some.injEq, exists_eq_left', exists_eq_left, exists_eq', exists_eq, true_and, and_true, Vl.d.injEq, Vl.nw.injEq, Vl.sl.injEq, Dt.int.injEq, Dt.bl.injEq, Dt.str.injEq, Dt.lst.injEq, Dt.tup.injEq, Dt.byt.injEq, Dt.ty.injEq, Dt.ref.injEq, En.val.injEq, En.mu.injEq, En.bor.injEq, List.cons.injEq, Nat.reduceLT, Nat.reduceAdd, Nat.reduceSub, Nat.zero_add, and_self, ↓reduceIte, Bool.false_eq_true, reduceCtorEq, false_and, and_false, exists_const, exists_false, or_false, false_or, Nat.reduceEqDiff, Option.map_some, Option.getD_some, Option.getD_none, and_assoc, exists_and_left, exists_and_right, rCall_f, rCall_g, f_pre, f_post, g_pre, g_post, g_exc, Prod.forall, Prod.exists, Prod.mk.injEq, exists_const, forall_const, argsD, conP, entD, remP, flagsP, flagAt, putP, aft, Ct.dt.injEq, forall_eq, forall_eq', forall_const, implies_true, false_implies, and_imp, forall_exists_index, forall_apply_eq_imp_iff, List.length_append, retD, rFor_L, asgLc, rLc_L, riList, riTup, riStr, riRange1, riRange2, riEnum, riRev, rgName, rgTup, rgCons, rgNil, wipeE, unw, rYes, rAsgG, rAsgSub, roSetL, rBM, rBM0, roAppend, roOwn0, isa_no, isa_bl, isa_in, isa_st, isa_by, isa_ls, isa_tu, isa_di, beq_self_eq_true, Bool.or_true, Bool.true_or, Bool.or_false, Bool.false_or, Bool.or_self, Bool.not_true, Bool.not_false, Bool.and_true, Bool.true_and, Bool.and_false, Bool.false_and, String.reduceBEq, String.reduceEq, not_true_eq_false, not_false_eq_true, rSlL', roNone, roSome, roCat, D.trk, rRaise0, rRaise1, excD, rTry, rEx, wMixD, goneD, List.isEmpty_nil, if_true, List.length_singleton, Nat.reduceLeDiff, Nat.reducePow, Int.reducePow, Int.reduceLT, Int.reduceLE, Int.reduceNeg, Int.reduceToNat, S_draw, S_one, items, at4, at5, at6, S_law, rFrz, ms_law_well, ms_law_draw, ms_law_one, ms_law_names, S_lnames]
  by_cases hlt : (acc.length : Int) < n
  rotate_left
  · rw [List.length_map, if_neg (by simpa using hlt)]
    subst e1
    simp (maxSteps := 3000000) only [rPar, rParM, riRange3, roI2, rLcO_L, isN_eq, notN_eq, rSlTu, riZip, riZipO, riListO, rMinDef, rFldG, rSetFG, rDGet, rDIn, rDPut, roLenD, roListD, roSortD, rAsgStar, rForK_L, rDisp1, rSortST, rMakeC_f, kD, vD, iD, keyDt, own, wr, gput, gfind, keyD, keyDt, id_eq, roSplit, roStr1, rSlSt, rSlBy, rRevL, TruD, rOrT, rAndT, rMake_g, roCatA, roRep, rMeth_f, rMeth_g, roOwnB_f, MakeQ_g, rMakeK, roIsC, isC_ins, rFld, rSetF, rXfn, rXf, lk_eq, putD, Dt.ins.injEq, Dt.exn.injEq, RleS, RMulS, RMulZ, roJoin, rRet, rRetN, rSeq, rIfS, rAsg, rVar, ofEn, rC, rOp, rUn, roP, rCB, rCons, rNil, rAndV, rOrV, rNotV, rB, rAnd, rOr, rNot, rIf, rTup, rLst, rDrop, rNext, rNever, look, frz, frzs, looks, held, roIsi, roF1, roL1, roNeg, rDNew, startE, ents, ent, csOf, unal, finds, RI0, RI, int_in, int_bl, len_ls, len_tu, len_st, len_by, at0, at1, at2, at3, ix30, ix31, ix32, eq_ii, ne_ii, eq_by, ne_by, notin_c, in_c, D.rChain, RIxA, roTupOf, RListOf, RListB, List.findSome?, List.getElem?_cons_zero, List.getElem?_cons_succ, List.getElem?_nil, List.set_cons_zero, List.set_cons_succ, List.length_cons, List.length_nil, List.map_cons, List.map_nil, List.replicate, List.nil_append, List.cons_append, List.append_nil, Option.some.injEq, exists_eq_left', exists_eq_left, exists_eq', exists_eq, true_and, and_true, Vl.d.injEq, Vl.nw.injEq, Vl.sl.injEq, Dt.int.injEq, Dt.bl.injEq, Dt.str.injEq, Dt.lst.injEq, Dt.tup.injEq, Dt.byt.injEq, Dt.ty.injEq, Dt.ref.injEq, En.val.injEq, En.mu.injEq, En.bor.injEq, List.cons.injEq, Nat.reduceLT, Nat.reduceAdd, Nat.reduceSub, Nat.zero_add, and_self, ↓reduceIte, Bool.false_eq_true, reduceCtorEq, false_and, and_false, exists_const, exists_false, or_false, false_or, Nat.reduceEqDiff, Option.map_some, Option.getD_some, Option.getD_none, and_assoc, exists_and_left, exists_and_right, rCall_f, rCall_g, f_pre, f_post, g_pre, g_post, g_exc, Prod.forall, Prod.exists, Prod.mk.injEq, exists_const, forall_const, argsD, conP, entD, remP, flagsP, flagAt, putP, aft, Ct.dt.injEq, forall_eq, forall_eq', forall_const, implies_true, false_implies, and_imp, forall_exists_index, forall_apply_eq_imp_iff, List.length_append, retD, rFor_L, asgLc, rLc_L, riList, riTup, riStr, riRange1, riRange2, riEnum, riRev, rgName, rgTup, rgCons, rgNil, wipeE, unw, rYes, rAsgG, rAsgSub, roSetL, rBM, rBM0, roAppend, roOwn0, isa_no, isa_bl, isa_in, isa_st, isa_by, isa_ls, isa_tu, isa_di, beq_self_eq_true, Bool.or_true, Bool.true_or, Bool.or_false, Bool.false_or, Bool.or_self, Bool.not_true, Bool.not_false, Bool.and_true, Bool.true_and, Bool.and_false, Bool.false_and, String.reduceBEq, String.reduceEq, not_true_eq_false, not_false_eq_true, rSlL', roNone, roSome, roCat, D.trk, rRaise0, rRaise1, excD, rTry, rEx, wMixD, goneD, List.isEmpty_nil, if_true, List.length_singleton, Nat.reduceLeDiff, Nat.reducePow, Int.reducePow, Int.reduceLT, Int.reduceLE, Int.reduceNeg, Int.reduceToNat, S_draw, S_one, items, at4, at5, at6, S_law, rFrz, ms_law_well, ms_law_draw, ms_law_one, ms_law_names, S_lnames]
    exact ⟨acc, w', hw', by omega, by omega, hinv.nd, hinv.nm, hinv.zz, rfl, rfl⟩
  rw [List.length_map, if_pos (decide_eq_true hlt)]
  refine sg fun U2 e2 => ?_
  simp (maxSteps := 3000000) only [rPar, rParM, riRange3, roI2, rLcO_L, isN_eq, notN_eq, rSlTu, riZip, riZipO, riListO, rMinDef, rFldG, rSetFG, rDGet, rDIn, rDPut, roLenD, roListD, roSortD, rAsgStar, rForK_L, rDisp1, rSortST, rMakeC_f, kD, vD, iD, keyDt, own, wr, gput, gfind, keyD, keyDt, id_eq, roSplit, roStr1, rSlSt, rSlBy, rRevL, TruD, rOrT, rAndT, rMake_g, roCatA, roRep, rMeth_f, rMeth_g, roOwnB_f, MakeQ_g, rMakeK, roIsC, isC_ins, rFld, rSetF, rXfn, rXf, lk_eq, putD, Dt.ins.injEq, Dt.exn.injEq, RleS, RMulS, RMulZ, roJoin, rRet, rRetN, rSeq, rIfS, rAsg, rVar, ofEn, rC, rOp, rUn, roP, rCB, rCons, rNil, rAndV, rOrV, rNotV, rB, rAnd, rOr, rNot, rIf, rTup, rLst, rDrop, rNext, rNever, look, frz, frzs, looks, held, roIsi, roF1, roL1, roNeg, rDNew, startE, ents, ent, csOf, unal, finds, RI0, RI, int_in, int_bl, len_ls, len_tu, len_st, len_by, at0, at1, at2, at3, ix30, ix31, ix32, eq_ii, ne_ii, eq_by, ne_by, notin_c, in_c, D.rChain, RIxA, roTupOf, RListOf, RListB, List.findSome?, List.getElem?_cons_zero, List.getElem?_cons_succ, List.getElem?_nil, List.set_cons_zero, List.set_cons_succ, List.length_cons, List.length_nil, List.map_cons, List.map_nil, List.replicate, List.nil_append, List.cons_append, List.append_nil, Option.some.injEq, exists_eq_left', exists_eq_left, exists_eq', exists_eq, true_and, and_true, Vl.d.injEq, Vl.nw.injEq, Vl.sl.injEq, Dt.int.injEq, Dt.bl.injEq, Dt.str.injEq, Dt.lst.injEq, Dt.tup.injEq, Dt.byt.injEq, Dt.ty.injEq, Dt.ref.injEq, En.val.injEq, En.mu.injEq, En.bor.injEq, List.cons.injEq, Nat.reduceLT, Nat.reduceAdd, Nat.reduceSub, Nat.zero_add, and_self, ↓reduceIte, Bool.false_eq_true, reduceCtorEq, false_and, and_false, exists_const, exists_false, or_false, false_or, Nat.reduceEqDiff, Option.map_some, Option.getD_some, Option.getD_none, and_assoc, exists_and_left, exists_and_right, rCall_f, rCall_g, f_pre, f_post, g_pre, g_post, g_exc, Prod.forall, Prod.exists, Prod.mk.injEq, exists_const, forall_const, argsD, conP, entD, remP, flagsP, flagAt, putP, aft, Ct.dt.injEq, forall_eq, forall_eq', forall_const, implies_true, false_implies, and_imp, forall_exists_index, forall_apply_eq_imp_iff, List.length_append, retD, rFor_L, asgLc, rLc_L, riList, riTup, riStr, riRange1, riRange2, riEnum, riRev, rgName, rgTup, rgCons, rgNil, wipeE, unw, rYes, rAsgG, rAsgSub, roSetL, rBM, rBM0, roAppend, roOwn0, isa_no, isa_bl, isa_in, isa_st, isa_by, isa_ls, isa_tu, isa_di, beq_self_eq_true, Bool.or_true, Bool.true_or, Bool.or_false, Bool.false_or, Bool.or_self, Bool.not_true, Bool.not_false, Bool.and_true, Bool.true_and, Bool.and_false, Bool.false_and, String.reduceBEq, String.reduceEq, not_true_eq_false, not_false_eq_true, rSlL', roNone, roSome, roCat, D.trk, rRaise0, rRaise1, excD, rTry, rEx, wMixD, goneD, List.isEmpty_nil, if_true, List.length_singleton, Nat.reduceLeDiff, Nat.reducePow, Int.reducePow, Int.reduceLT, Int.reduceLE, Int.reduceNeg, Int.reduceToNat, S_draw, S_one, items, at4, at5, at6, S_law, rFrz, ms_law_well, ms_law_draw, ms_law_one, ms_law_names, S_lnames]
  refine ⟨hw', by omega, fun a w2 hw2 hc2 h3 h4 => ?_⟩
  obtain ⟨c0, hc0, hm0⟩ := sig_at (z := Str.ofString "abcxyz") h3 h4 rfl
  refine ⟨by decide, _, ⟨c0, hc0, rfl⟩, ?_⟩
  subst e2
  refine sg fun U2 e2 => ?_
  simp (maxSteps := 3000000) only [rPar, rParM, riRange3, roI2, rLcO_L, isN_eq, notN_eq, rSlTu, riZip, riZipO, riListO, rMinDef, rFldG, rSetFG, rDGet, rDIn, rDPut, roLenD, roListD, roSortD, rAsgStar, rForK_L, rDisp1, rSortST, rMakeC_f, kD, vD, iD, keyDt, own, wr, gput, gfind, keyD, keyDt, id_eq, roSplit, roStr1, rSlSt, rSlBy, rRevL, TruD, rOrT, rAndT, rMake_g, roCatA, roRep, rMeth_f, rMeth_g, roOwnB_f, MakeQ_g, rMakeK, roIsC, isC_ins, rFld, rSetF, rXfn, rXf, lk_eq, putD, Dt.ins.injEq, Dt.exn.injEq, RleS, RMulS, RMulZ, roJoin, rRet, rRetN, rSeq, rIfS, rAsg, rVar, ofEn, rC, rOp, rUn, roP, rCB, rCons, rNil, rAndV, rOrV, rNotV, rB, rAnd, rOr, rNot, rIf, rTup, rLst, rDrop, rNext, rNever, look, frz, frzs, looks, held, roIsi, roF1, roL1, roNeg, rDNew, startE, ents, ent, csOf, unal, finds, RI0, RI, int_in, int_bl, len_ls, len_tu, len_st, len_by, at0, at1, at2, at3, ix30, ix31, ix32, eq_ii, ne_ii, eq_by, ne_by, notin_c, in_c, D.rChain, RIxA, roTupOf, RListOf, RListB, List.findSome?, List.getElem?_cons_zero, List.getElem?_cons_succ, List.getElem?_nil, List.set_cons_zero, List.set_cons_succ, List.length_cons, List.length_nil, List.map_cons, List.map_nil, List.replicate, List.nil_append, List.cons_append, List.append_nil, Option.some.injEq, exists_eq_left', exists_eq_left, exists_eq', exists_eq, true_and, and_true, Vl.d.injEq, Vl.nw.injEq, Vl.sl.injEq, Dt.int.injEq, Dt.bl.injEq, Dt.str.injEq, Dt.lst.injEq, Dt.tup.injEq, Dt.byt.injEq, Dt.ty.injEq, Dt.ref.injEq, En.val.injEq, En.mu.injEq, En.bor.injEq, List.cons.injEq, Nat.reduceLT, Nat.reduceAdd, Nat.reduceSub, Nat.zero_add, and_self, ↓reduceIte, Bool.false_eq_true, reduceCtorEq, false_and, and_false, exists_const, exists_false, or_false, false_or, Nat.reduceEqDiff, Option.map_some, Option.getD_some, Option.getD_none, and_assoc, exists_and_left, exists_and_right, rCall_f, rCall_g, f_pre, f_post, g_pre, g_post, g_exc, Prod.forall, Prod.exists, Prod.mk.injEq, exists_const, forall_const, argsD, conP, entD, remP, flagsP, flagAt, putP, aft, Ct.dt.injEq, forall_eq, forall_eq', forall_const, implies_true, false_implies, and_imp, forall_exists_index, forall_apply_eq_imp_iff, List.length_append, retD, rFor_L, asgLc, rLc_L, riList, riTup, riStr, riRange1, riRange2, riEnum, riRev, rgName, rgTup, rgCons, rgNil, wipeE, unw, rYes, rAsgG, rAsgSub, roSetL, rBM, rBM0, roAppend, roOwn0, isa_no, isa_bl, isa_in, isa_st, isa_by, isa_ls, isa_tu, isa_di, beq_self_eq_true, Bool.or_true, Bool.true_or, Bool.or_false, Bool.false_or, Bool.or_self, Bool.not_true, Bool.not_false, Bool.and_true, Bool.true_and, Bool.and_false, Bool.false_and, String.reduceBEq, String.reduceEq, not_true_eq_false, not_false_eq_true, rSlL', roNone, roSome, roCat, D.trk, rRaise0, rRaise1, excD, rTry, rEx, wMixD, goneD, List.isEmpty_nil, if_true, List.length_singleton, Nat.reduceLeDiff, Nat.reducePow, Int.reducePow, Int.reduceLT, Int.reduceLE, Int.reduceNeg, Int.reduceToNat, S_draw, S_one, items, at4, at5, at6, S_law, rFrz, ms_law_well, ms_law_draw, ms_law_one, ms_law_names, S_lnames]
  refine ⟨hw2, by omega, fun b w3 hw3 hc3 h5 h6 => ?_⟩
  obtain ⟨j, hj, hj0, hj1⟩ : ∃ j : Int, atI [Dt.int 0, Dt.int 1, Dt.int 2, Dt.int 11] b = some (.int j) ∧ 0 ≤ j ∧ j ≤ 11 := by
    rcases (by omega : b = 0 ∨ b = 1 ∨ b = 2 ∨ b = 3) with rfl | rfl | rfl | rfl <;> exact ⟨_, rfl, by decide, by decide⟩
  obtain ⟨k, rfl⟩ := Int.eq_ofNat_of_zero_le hj0
  refine ⟨_, hj, _, rfl, by omega, by omega, ?_⟩
  refine lp_of (fun i η' => ∃ w5 z cs c4, wOk w5 ∧ cnt w5 ≤ cnt w3 + (i : Int) ∧ z.cps.toList = c0 :: cs ∧ cs.length = i ∧ (∀ c ∈ cs, c ∈ (Str.ofString "abz_").cps.toList) ∧ η' = [some (.mu (some 0) (.dt w5)), some (.val (.int (n : Int))), some (.mu none (.dt (.lst (acc.map .str)))), some (.val (.str z)), c4]) ⟨w3, ⟨#[c0]⟩, [], _, hw3, by omega, rfl, rfl, by simp, rfl⟩ ?_ ?_
  · rintro i x η' hx ⟨w5, z, cs, c4', hw5, hc5, hz, hcs, hcm, rfl⟩
    obtain ⟨hi, rfl⟩ := nums_get hx
    have hzl : z.length = i + 1 := by rw [← len_list, hz, List.length_cons, hcs]
    have hik : i < k := by omega
    simp (maxSteps := 3000000) only [rPar, rParM, riRange3, roI2, rLcO_L, isN_eq, notN_eq, rSlTu, riZip, riZipO, riListO, rMinDef, rFldG, rSetFG, rDGet, rDIn, rDPut, roLenD, roListD, roSortD, rAsgStar, rForK_L, rDisp1, rSortST, rMakeC_f, kD, vD, iD, keyDt, own, wr, gput, gfind, keyD, keyDt, id_eq, roSplit, roStr1, rSlSt, rSlBy, rRevL, TruD, rOrT, rAndT, rMake_g, roCatA, roRep, rMeth_f, rMeth_g, roOwnB_f, MakeQ_g, rMakeK, roIsC, isC_ins, rFld, rSetF, rXfn, rXf, lk_eq, putD, Dt.ins.injEq, Dt.exn.injEq, RleS, RMulS, RMulZ, roJoin, rRet, rRetN, rSeq, rIfS, rAsg, rVar, ofEn, rC, rOp, rUn, roP, rCB, rCons, rNil, rAndV, rOrV, rNotV, rB, rAnd, rOr, rNot, rIf, rTup, rLst, rDrop, rNext, rNever, look, frz, frzs, looks, held, roIsi, roF1, roL1, roNeg, rDNew, startE, ents, ent, csOf, unal, finds, RI0, RI, int_in, int_bl, len_ls, len_tu, len_st, len_by, at0, at1, at2, at3, ix30, ix31, ix32, eq_ii, ne_ii, eq_by, ne_by, notin_c, in_c, D.rChain, RIxA, roTupOf, RListOf, RListB, List.findSome?, List.getElem?_cons_zero, List.getElem?_cons_succ, List.getElem?_nil, List.set_cons_zero, List.set_cons_succ, List.length_cons, List.length_nil, List.map_cons, List.map_nil, List.replicate, List.nil_append, List.cons_append, List.append_nil, Option.some.injEq, exists_eq_left', exists_eq_left, exists_eq', exists_eq, true_and, and_true, Vl.d.injEq, Vl.nw.injEq, Vl.sl.injEq, Dt.int.injEq, Dt.bl.injEq, Dt.str.injEq, Dt.lst.injEq, Dt.tup.injEq, Dt.byt.injEq, Dt.ty.injEq, Dt.ref.injEq, En.val.injEq, En.mu.injEq, En.bor.injEq, List.cons.injEq, Nat.reduceLT, Nat.reduceAdd, Nat.reduceSub, Nat.zero_add, and_self, ↓reduceIte, Bool.false_eq_true, reduceCtorEq, false_and, and_false, exists_const, exists_false, or_false, false_or, Nat.reduceEqDiff, Option.map_some, Option.getD_some, Option.getD_none, and_assoc, exists_and_left, exists_and_right, rCall_f, rCall_g, f_pre, f_post, g_pre, g_post, g_exc, Prod.forall, Prod.exists, Prod.mk.injEq, exists_const, forall_const, argsD, conP, entD, remP, flagsP, flagAt, putP, aft, Ct.dt.injEq, forall_eq, forall_eq', forall_const, implies_true, false_implies, and_imp, forall_exists_index, forall_apply_eq_imp_iff, List.length_append, retD, rFor_L, asgLc, rLc_L, riList, riTup, riStr, riRange1, riRange2, riEnum, riRev, rgName, rgTup, rgCons, rgNil, wipeE, unw, rYes, rAsgG, rAsgSub, roSetL, rBM, rBM0, roAppend, roOwn0, isa_no, isa_bl, isa_in, isa_st, isa_by, isa_ls, isa_tu, isa_di, beq_self_eq_true, Bool.or_true, Bool.true_or, Bool.or_false, Bool.false_or, Bool.or_self, Bool.not_true, Bool.not_false, Bool.and_true, Bool.true_and, Bool.and_false, Bool.false_and, String.reduceBEq, String.reduceEq, not_true_eq_false, not_false_eq_true, rSlL', roNone, roSome, roCat, D.trk, rRaise0, rRaise1, excD, rTry, rEx, wMixD, goneD, List.isEmpty_nil, if_true, List.length_singleton, Nat.reduceLeDiff, Nat.reducePow, Int.reducePow, Int.reduceLT, Int.reduceLE, Int.reduceNeg, Int.reduceToNat, S_draw, S_one, items, at4, at5, at6, S_law, rFrz, ms_law_well, ms_law_draw, ms_law_one, ms_law_names, S_lnames, RAddS]
    refine ⟨hw5, by omega, fun a2 w6 hw6 hc6 h7 h8 => ?_⟩
    obtain ⟨c2, hc2', hm2⟩ := sig_at (z := Str.ofString "abz_") h7 h8 rfl
    refine ⟨by decide, _, ⟨c2, hc2', rfl⟩, _, ⟨_, rfl, by rw [hzl]; show i + 1 + 1 ≤ 100000; omega, rfl⟩, w6, hw6, by omega, _, cs ++ [c2], ?_, by rw [List.length_append, hcs]; rfl, fun c hc => ?_, rfl, rfl⟩
    · rw [app_cps, hz]
      rfl
    · rw [List.mem_append, List.mem_singleton] at hc
      rcases hc with hc | rfl
      · exact hcm c hc
      · exact hm2
  rintro η' ⟨w5, z, cs, c4', hw5, hc5, hz, hcs, hcm, rfl⟩
  rw [nums_length] at hc5 hcs
  have hzn : nameS (.str z) = true := name_cs hz (abx_mem hm0).1 (by omega) fun c hc => (abz_mem (hcm c hc)).1
  have hzz : z ≠ zzS := zz_ne hz fun c hc => (abz_mem (hcm c hc)).2
  have hzh : z.cps.toList.head? ≠ some 110 := by
    rw [hz]
    intro e
    exact (abx_mem hm0).2 (Option.some.inj e)
  show U2 _
  subst e2
  refine sg fun U2 e2 => ?_
  simp (maxSteps := 3000000) only [rPar, rParM, riRange3, roI2, rLcO_L, isN_eq, notN_eq, rSlTu, riZip, riZipO, riListO, rMinDef, rFldG, rSetFG, rDGet, rDIn, rDPut, roLenD, roListD, roSortD, rAsgStar, rForK_L, rDisp1, rSortST, rMakeC_f, kD, vD, iD, keyDt, own, wr, gput, gfind, keyD, keyDt, id_eq, roSplit, roStr1, rSlSt, rSlBy, rRevL, TruD, rOrT, rAndT, rMake_g, roCatA, roRep, rMeth_f, rMeth_g, roOwnB_f, MakeQ_g, rMakeK, roIsC, isC_ins, rFld, rSetF, rXfn, rXf, lk_eq, putD, Dt.ins.injEq, Dt.exn.injEq, RleS, RMulS, RMulZ, roJoin, rRet, rRetN, rSeq, rIfS, rAsg, rVar, ofEn, rC, rOp, rUn, roP, rCB, rCons, rNil, rAndV, rOrV, rNotV, rB, rAnd, rOr, rNot, rIf, rTup, rLst, rDrop, rNext, rNever, look, frz, frzs, looks, held, roIsi, roF1, roL1, roNeg, rDNew, startE, ents, ent, csOf, unal, finds, RI0, RI, int_in, int_bl, len_ls, len_tu, len_st, len_by, at0, at1, at2, at3, ix30, ix31, ix32, eq_ii, ne_ii, eq_by, ne_by, notin_c, in_c, D.rChain, RIxA, roTupOf, RListOf, RListB, List.findSome?, List.getElem?_cons_zero, List.getElem?_cons_succ, List.getElem?_nil, List.set_cons_zero, List.set_cons_succ, List.length_cons, List.length_nil, List.map_cons, List.map_nil, List.replicate, List.nil_append, List.cons_append, List.append_nil, Option.some.injEq, exists_eq_left', exists_eq_left, exists_eq', exists_eq, true_and, and_true, Vl.d.injEq, Vl.nw.injEq, Vl.sl.injEq, Dt.int.injEq, Dt.bl.injEq, Dt.str.injEq, Dt.lst.injEq, Dt.tup.injEq, Dt.byt.injEq, Dt.ty.injEq, Dt.ref.injEq, En.val.injEq, En.mu.injEq, En.bor.injEq, List.cons.injEq, Nat.reduceLT, Nat.reduceAdd, Nat.reduceSub, Nat.zero_add, and_self, ↓reduceIte, Bool.false_eq_true, reduceCtorEq, false_and, and_false, exists_const, exists_false, or_false, false_or, Nat.reduceEqDiff, Option.map_some, Option.getD_some, Option.getD_none, and_assoc, exists_and_left, exists_and_right, rCall_f, rCall_g, f_pre, f_post, g_pre, g_post, g_exc, Prod.forall, Prod.exists, Prod.mk.injEq, exists_const, forall_const, argsD, conP, entD, remP, flagsP, flagAt, putP, aft, Ct.dt.injEq, forall_eq, forall_eq', forall_const, implies_true, false_implies, and_imp, forall_exists_index, forall_apply_eq_imp_iff, List.length_append, retD, rFor_L, asgLc, rLc_L, riList, riTup, riStr, riRange1, riRange2, riEnum, riRev, rgName, rgTup, rgCons, rgNil, wipeE, unw, rYes, rAsgG, rAsgSub, roSetL, rBM, rBM0, roAppend, roOwn0, isa_no, isa_bl, isa_in, isa_st, isa_by, isa_ls, isa_tu, isa_di, beq_self_eq_true, Bool.or_true, Bool.true_or, Bool.or_false, Bool.false_or, Bool.or_self, Bool.not_true, Bool.not_false, Bool.and_true, Bool.true_and, Bool.and_false, Bool.false_and, String.reduceBEq, String.reduceEq, not_true_eq_false, not_false_eq_true, rSlL', roNone, roSome, roCat, D.trk, rRaise0, rRaise1, excD, rTry, rEx, wMixD, goneD, List.isEmpty_nil, if_true, List.length_singleton, Nat.reduceLeDiff, Nat.reducePow, Int.reducePow, Int.reduceLT, Int.reduceLE, Int.reduceNeg, Int.reduceToNat, S_draw, S_one, items, at4, at5, at6, S_law, rFrz, ms_law_well, ms_law_draw, ms_law_one, ms_law_names, S_lnames, RAddS]
  have fin : ∀ y : Str, nameS (.str y) = true → y ∉ acc → (y.cps.toList.head? ≠ some 110 ∨ y = nW acc.length) → y ≠ zzS → U2 [some (.mu (some 0) (.dt w5)), some (.val (.int (n : Int))), some (.mu none (.dt (.lst (acc.map .str)))), some (.val (.str y)), c4'] := by
    intro y h1 h2 h3 h4
    subst e2
    simp (maxSteps := 3000000) only [rPar, rParM, riRange3, roI2, rLcO_L, isN_eq, notN_eq, rSlTu, riZip, riZipO, riListO, rMinDef, rFldG, rSetFG, rDGet, rDIn, rDPut, roLenD, roListD, roSortD, rAsgStar, rForK_L, rDisp1, rSortST, rMakeC_f, kD, vD, iD, keyDt, own, wr, gput, gfind, keyD, keyDt, id_eq, roSplit, roStr1, rSlSt, rSlBy, rRevL, TruD, rOrT, rAndT, rMake_g, roCatA, roRep, rMeth_f, rMeth_g, roOwnB_f, MakeQ_g, rMakeK, roIsC, isC_ins, rFld, rSetF, rXfn, rXf, lk_eq, putD, Dt.ins.injEq, Dt.exn.injEq, RleS, RMulS, RMulZ, roJoin, rRet, rRetN, rSeq, rIfS, rAsg, rVar, ofEn, rC, rOp, rUn, roP, rCB, rCons, rNil, rAndV, rOrV, rNotV, rB, rAnd, rOr, rNot, rIf, rTup, rLst, rDrop, rNext, rNever, look, frz, frzs, looks, held, roIsi, roF1, roL1, roNeg, rDNew, startE, ents, ent, csOf, unal, finds, RI0, RI, int_in, int_bl, len_ls, len_tu, len_st, len_by, at0, at1, at2, at3, ix30, ix31, ix32, eq_ii, ne_ii, eq_by, ne_by, notin_c, in_c, D.rChain, RIxA, roTupOf, RListOf, RListB, List.findSome?, List.getElem?_cons_zero, List.getElem?_cons_succ, List.getElem?_nil, List.set_cons_zero, List.set_cons_succ, List.length_cons, List.length_nil, List.map_cons, List.map_nil, List.replicate, List.nil_append, List.cons_append, List.append_nil, Option.some.injEq, exists_eq_left', exists_eq_left, exists_eq', exists_eq, true_and, and_true, Vl.d.injEq, Vl.nw.injEq, Vl.sl.injEq, Dt.int.injEq, Dt.bl.injEq, Dt.str.injEq, Dt.lst.injEq, Dt.tup.injEq, Dt.byt.injEq, Dt.ty.injEq, Dt.ref.injEq, En.val.injEq, En.mu.injEq, En.bor.injEq, List.cons.injEq, Nat.reduceLT, Nat.reduceAdd, Nat.reduceSub, Nat.zero_add, and_self, ↓reduceIte, Bool.false_eq_true, reduceCtorEq, false_and, and_false, exists_const, exists_false, or_false, false_or, Nat.reduceEqDiff, Option.map_some, Option.getD_some, Option.getD_none, and_assoc, exists_and_left, exists_and_right, rCall_f, rCall_g, f_pre, f_post, g_pre, g_post, g_exc, Prod.forall, Prod.exists, Prod.mk.injEq, exists_const, forall_const, argsD, conP, entD, remP, flagsP, flagAt, putP, aft, Ct.dt.injEq, forall_eq, forall_eq', forall_const, implies_true, false_implies, and_imp, forall_exists_index, forall_apply_eq_imp_iff, List.length_append, retD, rFor_L, asgLc, rLc_L, riList, riTup, riStr, riRange1, riRange2, riEnum, riRev, rgName, rgTup, rgCons, rgNil, wipeE, unw, rYes, rAsgG, rAsgSub, roSetL, rBM, rBM0, roAppend, roOwn0, isa_no, isa_bl, isa_in, isa_st, isa_by, isa_ls, isa_tu, isa_di, beq_self_eq_true, Bool.or_true, Bool.true_or, Bool.or_false, Bool.false_or, Bool.or_self, Bool.not_true, Bool.not_false, Bool.and_true, Bool.true_and, Bool.and_false, Bool.false_and, String.reduceBEq, String.reduceEq, not_true_eq_false, not_false_eq_true, rSlL', roNone, roSome, roCat, D.trk, rRaise0, rRaise1, excD, rTry, rEx, wMixD, goneD, List.isEmpty_nil, if_true, List.length_singleton, Nat.reduceLeDiff, Nat.reducePow, Int.reducePow, Int.reduceLT, Int.reduceLE, Int.reduceNeg, Int.reduceToNat, S_draw, S_one, items, at4, at5, at6, S_law, rFrz, ms_law_well, ms_law_draw, ms_law_one, ms_law_names, S_lnames, RAddS]
    refine ⟨by rw [List.length_map]; omega, n - (acc.length + 1), by omega, w5, acc ++ [y], by rw [List.length_append]; rfl, hw5, ?_, by rw [List.length_append]; simp; omega, hinv.snoc h1 h2 h3 h4, _, _, by rw [List.map_append]; rfl⟩
    rw [List.length_append, List.length_singleton]
    omega
  refine ⟨_, in_strs _ _, _, rfl, ?_⟩
  by_cases hin : z ∈ acc
  · rw [if_pos (decide_eq_true hin), List.length_map]
    obtain ⟨e3, e4⟩ := nW_at (i := acc.length) (by omega)
    refine ⟨by decide, _, ⟨_, e3, rfl⟩, _, ⟨_, rfl, by show 1 + 1 ≤ 100000; decide, rfl⟩, ?_⟩
    rw [e4]
    exact fin _ (nW_name (by omega)) hinv.fresh (.inr rfl) nW_zz
  · rw [if_neg (by simpa using hin)]
    exact fin _ hzn hin (.inl hzh) hzz
/-! #### _law_plan -/
abbrev s_law_plan : Stmt := top 17
abbrev N_law_plan : List Str := ["_law_well_here", "_law_most", "_law_names_here", "_law_rows", "_law_at", "_law_name", "_law_left", "_law_parents", "_law_k", "_law_spot"]
abbrev P_law_plan : List Str := ["_law_well_here", "_law_most"]
abbrev ms_law_plan : List Md := [.p, .v]
theorem sc_law_plan : FnScope N_law_plan P_law_plan (defScope s_law_plan) := ⟨rfl, rfl, rfl, by decide +kernel, rfl, by decide +kernel, by decide +kernel⟩
theorem ok_law_plan {P : Program} {w : World} {K : PySem.W.Frag} {mg : Str → Option Value} {base : Heap} {f : Addr} {fd : FuncData} {c_FellError c_NoName c_Taken c_NoChange c_History : Addr} (G : Gs K mg c_FellError c_NoName c_Taken c_NoChange c_History) (h0 : Hs P w K mg base CX0 2 "_law_one" P_law_one (toSp K ms_law_one (S_one))) (h1 : Hs P w K mg base CX0 1 "_law_draw" P_law_draw (toSp K ms_law_draw (S_draw))) (h2 : Hs P w K mg base CX0 2 "_law_names" P_law_names (toSp K ms_law_names (S_lnames 15))) (X_NoChange : ExO P w K mg base "NoChange" c_NoChange "name") (X_NoName : ExO P w K mg base "NoName" c_NoName "name") (X_Taken : ExO P w K mg base "Taken" c_Taken "name") (K_History : ClF K mg "History" c_History) (nA_History_parents : NoAttr K c_History "parents") (F : Fun K "_law_plan" "_law_plan" s_law_plan f fd) (mf : mg "_law_plan" = some (.ref f)) :
    Hs P w K mg base CX0 3 "_law_plan" P_law_plan (toSp K ms_law_plan (S_lplan 14)) := by
  obtain ⟨f0, fd0, F0, m0, k0, b0⟩ := h0
  obtain ⟨f1, fd1, F1, m1, k1, b1⟩ := h1
  obtain ⟨f2, fd2, F2, m2, k2, b2⟩ := h2
  refine ⟨f, fd, ?_, mf, F.kp, F.binds (ps := P_law_plan) fun _ _ _ _ _ _ us hl => match us, hl with | [_, _], _ => rfl⟩
  refine F.ok sc_law_plan (fun vs H Q E h => toSp_len h) (fun cdv A outer s H vs Q E hr h => ?_)
  have hu := hr.units
  refine ⟨_, pss_cons (ps_set (i := 2) sc_law_plan.nd rfl (by first | exact Or.inl rfl | exact Or.inr rfl) (pe_callS (E := (fun _ => E0)) F2 (hr.mono (by decide)) rfl m2 k2 b2 (fun _ => fun _ _ _ _ _ _ h => False.elim h) (pa_cons (pv 0) (pa_cons (pe_op op_add (pe_int) (pe_callS (E := (fun _ => E0)) F1 (hr.mono (by decide)) rfl m1 k1 b1 (fun _ => fun _ _ _ _ _ _ h => False.elim h) (pa_cons (pv 0) (pa_cons (pv 1) (pa_nil))))) (pa_nil))))) (pss_cons (ps_set (i := 3) sc_law_plan.nd rfl (by first | exact Or.inl rfl | exact Or.inr rfl) (pe_lst (pa_nil))) (pss_cons (ps_for PassesOwn.never rfl (pi_enum rfl G.b_enumerate (pa_cons (pv 2) (pa_nil))) (pg_tup rfl (pgs_cons (pg_name (i := 4) sc_law_plan.nd rfl (by first | exact Or.inl rfl | exact Or.inr rfl | exact .inr (.inl rfl) | exact .inr (.inr rfl))) (pgs_cons (pg_name (i := 5) sc_law_plan.nd rfl (by first | exact Or.inl rfl | exact Or.inr rfl | exact .inr (.inl rfl) | exact .inr (.inr rfl))) (pgs_nil)))) (pss_cons (ps_set (i := 6) sc_law_plan.nd rfl (by first | exact Or.inl rfl | exact Or.inr rfl) (pe_slice sl_list (pv 2) (po_none) (po_some (pv 4)))) (pss_cons (ps_set (i := 7) sc_law_plan.nd rfl (by first | exact Or.inl rfl | exact Or.inr rfl) (pe_lst (pa_nil))) (pss_cons (ps_for PassesOwn.never rfl (pi_range1 rfl G.b_range (pa_cons (pe_callS (E := (fun _ => E0)) F0 (hr.mono (by decide)) rfl m0 k0 b0 (fun _ => fun _ _ _ _ _ _ h => False.elim h) (pa_cons (pv 0) (pa_cons (pe_lst (pa_cons (pe_int) (pa_cons (pe_int) (pa_cons (pe_int) (pa_cons (pe_int) (pa_cons (pe_int) (pa_cons (pe_int) (pa_cons (pe_int) (pa_nil))))))))) (pa_nil)))) (pa_nil))) (pg_name (i := 8) sc_law_plan.nd rfl (by first | exact Or.inl rfl | exact Or.inr rfl | exact .inr (.inl rfl) | exact .inr (.inr rfl))) (pss_one (ps_if (pt_cmpR ((op_neA hu)) (pv 6) (pe_lst (pa_nil)) (nomark _)) (pss_cons (ps_set (i := 9) sc_law_plan.nd rfl (by first | exact Or.inl rfl | exact Or.inr rfl) (pe_callS (E := (fun _ => E0)) F0 (hr.mono (by decide)) rfl m0 k0 b0 (fun _ => fun _ _ _ _ _ _ h => False.elim h) (pa_cons (pv 0) (pa_cons (pe_lst (pa_cons (pe_op op_sub (pe_callB call_len rfl G.b_len (by decide +kernel) (pa_cons (pv 6) (pa_nil))) (pe_int)) (pa_cons (pe_callS (E := (fun _ => E0)) F1 (hr.mono (by decide)) rfl m1 k1 b1 (fun _ => fun _ _ _ _ _ _ h => False.elim h) (pa_cons (pv 0) (pa_cons (pe_callB call_len rfl G.b_len (by decide +kernel) (pa_cons (pv 6) (pa_nil))) (pa_nil)))) (pa_nil)))) (pa_nil))))) (pss_one (ps_expr (pe_bm PySem.F.plainAttrs_list PySem.F.slot_list_append PySem.F.type_list_append mt_append (pv 7) (pa_cons (pe_bm PySem.F.plainAttrs_list PySem.F.slot_list_pop PySem.F.type_list_pop mt_popAt (pv 6) (pa_cons (pv 9) (pa_nil))) (pa_nil)))))) (pss_nil)))) (pss_one (ps_expr (pe_bm PySem.F.plainAttrs_list PySem.F.slot_list_append PySem.F.type_list_append mt_append (pv 3) (pa_cons (pe_tup (pa_cons (pv 5) (pa_cons (pv 7) (pa_nil)))) (pa_nil))))))))) (pss_one (ps_ret (pv 3))))), ?_⟩
  refine run_body0 h (by decide) (fun as => ds_seq (ds_asgG (de_callS (X := W0) (ms := ms_law_names) (S := S_lnames 15) (fun _ _ _ _ h => False.elim h) (da_cons (de_var 0) (da_cons (de_op (d2_P p2_ii) (de_int) (de_callS (X := W0) (ms := ms_law_draw) (S := S_draw) (fun _ _ _ _ h => False.elim h) (da_cons (de_var 0) (da_cons (de_var 1) (da_nil))))) (da_nil)))) (dg_name 2)) (ds_seq (ds_asg (de_lst (da_nil)) 3) (ds_seq (ds_for (di_enum (da_cons (de_var 2) (da_nil))) (dg_tup (dgs_cons (dg_name 4) (dgs_cons (dg_name 5) (dgs_nil)))) (ds_seq (ds_asg (de_slL (de_var 2) (do_none) (do_some (de_var 4))) 6) (ds_seq (ds_asg (de_lst (da_nil)) 7) (ds_seq (ds_for (di_range1 (da_cons (de_callS (X := W0) (ms := ms_law_one) (S := S_one) (fun _ _ _ _ h => False.elim h) (da_cons (de_var 0) (da_cons (de_lst (da_cons (de_int) (da_cons (de_int) (da_cons (de_int) (da_cons (de_int) (da_cons (de_int) (da_cons (de_int) (da_cons (de_int) (da_nil))))))))) (da_nil)))) (da_nil))) (dg_name 8) (ds_if (dt_test (de_op (d2_P p2_ne) (de_var 6) (de_lst (da_nil)))) (ds_seq (ds_asg (de_callS (X := W0) (ms := ms_law_one) (S := S_one) (fun _ _ _ _ h => False.elim h) (da_cons (de_var 0) (da_cons (de_lst (da_cons (de_op (d2_P p2_ii) (de_cb (dc_F1 f1_len) (da_cons (de_var 6) (da_nil))) (de_int)) (da_cons (de_callS (X := W0) (ms := ms_law_draw) (S := S_draw) (fun _ _ _ _ h => False.elim h) (da_cons (de_var 0) (da_cons (de_cb (dc_F1 f1_len) (da_cons (de_var 6) (da_nil))) (da_nil)))) (da_nil)))) (da_nil)))) 9) (ds_drop (de_bm dm_append (de_var 7) (da_cons (de_bm dm_popAt (de_var 6) (da_cons (de_var 9) (da_nil))) (da_nil))))) (ds_next))) (ds_frz1 7 (ds_drop (de_bm dm_append (de_var 3) (da_cons (de_tup (da_cons (de_var 5) (da_cons (de_var 7) (da_nil)))) (da_nil))))))))) (ds_ret (de_var 3))))) (fun as hp hl => ?_)
  obtain ⟨w, n, rfl, hw, hc, h1, hn⟩ := hp
  refine sg fun U1 e1 => ?_
  simp (maxSteps := 3000000) only [rPar, rParM, riRange3, roI2, rLcO_L, isN_eq, notN_eq, rSlTu, riZip, riZipO, riListO, rMinDef, rFldG, rSetFG, rDGet, rDIn, rDPut, roLenD, roListD, roSortD, rAsgStar, rForK_L, rDisp1, rSortST, rMakeC_f, kD, vD, iD, keyDt, own, wr, gput, gfind, keyD, keyDt, id_eq, roSplit, roStr1, rSlSt, rSlBy, rRevL, TruD, rOrT, rAndT, rMake_g, roCatA, roRep, rMeth_f, rMeth_g, roOwnB_f, MakeQ_g, rMakeK, roIsC, isC_ins, rFld, rSetF, rXfn, rXf, lk_eq, putD, Dt.ins.injEq, Dt.exn.injEq, RleS, RMulS, RMulZ, roJoin, rRet, rRetN, rSeq, rIfS, rAsg, rVar, ofEn, rC, rOp, rUn, roP, rCB, rCons, rNil, rAndV, rOrV, rNotV, rB, rAnd, rOr, rNot, rIf, rTup, rLst, rDrop, rNext, rNever, look, frz, frzs, looks, held, roIsi, roF1, roL1, roNeg, rDNew, startE, ents, ent, csOf, unal, finds, RI0, RI, int_in, int_bl, len_ls, len_tu, len_st, len_by, at0, at1, at2, at3, ix30, ix31, ix32, eq_ii, ne_ii, eq_by, ne_by, notin_c, in_c, D.rChain, RIxA, roTupOf, RListOf, RListB, List.findSome?, List.getElem?_cons_zero, List.getElem?_cons_succ, List.getElem?_nil, List.set_cons_zero, List.set_cons_succ, List.length_cons, List.length_nil, List.map_cons, List.map_nil, List.replicate, List.nil_append, List.cons_append, List.append_nil, Option.some.injEq, exists_eq_left', exists_eq_left, exists_eq', exists_eq, true_and, and_true, Vl.d.injEq, Vl.nw.injEq, Vl.sl.injEq, Dt.int.injEq, Dt.bl.injEq, Dt.str.injEq, Dt.lst.injEq, Dt.tup.injEq, Dt.byt.injEq, Dt.ty.injEq, Dt.ref.injEq, En.val.injEq, En.mu.injEq, En.bor.injEq, List.cons.injEq, Nat.reduceLT, Nat.reduceAdd, Nat.reduceSub, Nat.zero_add, and_self, ↓reduceIte, Bool.false_eq_true, reduceCtorEq, false_and, and_false, exists_const, exists_false, or_false, false_or, Nat.reduceEqDiff, Option.map_some, Option.getD_some, Option.getD_none, and_assoc, exists_and_left, exists_and_right, rCall_f, rCall_g, f_pre, f_post, g_pre, g_post, g_exc, Prod.forall, Prod.exists, Prod.mk.injEq, exists_const, forall_const, argsD, conP, entD, remP, flagsP, flagAt, putP, aft, Ct.dt.injEq, forall_eq, forall_eq', forall_const, implies_true, false_implies, and_imp, forall_exists_index, forall_apply_eq_imp_iff, List.length_append, retD, rFor_L, asgLc, rLc_L, riList, riTup, riStr, riRange1, riRange2, riEnum, riRev, rgName, rgTup, rgCons, rgNil, wipeE, unw, rYes, rAsgG, rAsgSub, roSetL, rBM, rBM0, roAppend, roOwn0, isa_no, isa_bl, isa_in, isa_st, isa_by, isa_ls, isa_tu, isa_di, beq_self_eq_true, Bool.or_true, Bool.true_or, Bool.or_false, Bool.false_or, Bool.or_self, Bool.not_true, Bool.not_false, Bool.and_true, Bool.true_and, Bool.and_false, Bool.false_and, String.reduceBEq, String.reduceEq, not_true_eq_false, not_false_eq_true, rSlL', roNone, roSome, roCat, D.trk, rRaise0, rRaise1, excD, rTry, rEx, wMixD, goneD, List.isEmpty_nil, if_true, List.length_singleton, Nat.reduceLeDiff, Nat.reducePow, Int.reducePow, Int.reduceLT, Int.reduceLE, Int.reduceNeg, Int.reduceToNat, S_draw, S_one, items, at4, at5, at6, S_law, rFrz, ms_law_well, ms_law_draw, ms_law_one, ms_law_names, ms_law_plan, S_lnames, S_lplan]
  refine ⟨hw, by omega, by omega, by omega, fun a b hwb hcb ha0 ha1 => ⟨⟨(1 + a).toNat, by omega, hwb, by omega, by omega⟩, fun ns w1 hw1 hc1 hnl hnd hnm hnz => ?_⟩⟩
  subst e1
  refine sg fun U1 e1 => ?_
  simp (maxSteps := 3000000) only [rPar, rParM, riRange3, roI2, rLcO_L, isN_eq, notN_eq, rSlTu, riZip, riZipO, riListO, rMinDef, rFldG, rSetFG, rDGet, rDIn, rDPut, roLenD, roListD, roSortD, rAsgStar, rForK_L, rDisp1, rSortST, rMakeC_f, kD, vD, iD, keyDt, own, wr, gput, gfind, keyD, keyDt, id_eq, roSplit, roStr1, rSlSt, rSlBy, rRevL, TruD, rOrT, rAndT, rMake_g, roCatA, roRep, rMeth_f, rMeth_g, roOwnB_f, MakeQ_g, rMakeK, roIsC, isC_ins, rFld, rSetF, rXfn, rXf, lk_eq, putD, Dt.ins.injEq, Dt.exn.injEq, RleS, RMulS, RMulZ, roJoin, rRet, rRetN, rSeq, rIfS, rAsg, rVar, ofEn, rC, rOp, rUn, roP, rCB, rCons, rNil, rAndV, rOrV, rNotV, rB, rAnd, rOr, rNot, rIf, rTup, rLst, rDrop, rNext, rNever, look, frz, frzs, looks, held, roIsi, roF1, roL1, roNeg, rDNew, startE, ents, ent, csOf, unal, finds, RI0, RI, int_in, int_bl, len_ls, len_tu, len_st, len_by, at0, at1, at2, at3, ix30, ix31, ix32, eq_ii, ne_ii, eq_by, ne_by, notin_c, in_c, D.rChain, RIxA, roTupOf, RListOf, RListB, List.findSome?, List.getElem?_cons_zero, List.getElem?_cons_succ, List.getElem?_nil, List.set_cons_zero, List.set_cons_succ, List.length_cons, List.length_nil, List.map_cons, List.map_nil, List.replicate, List.nil_append, List.cons_append, List.append_nil, Option.some.injEq, exists_eq_left', exists_eq_left, exists_eq', exists_eq, true_and, and_true, Vl.d.injEq, Vl.nw.injEq, Vl.sl.injEq, Dt.int.injEq, Dt.bl.injEq, Dt.str.injEq, Dt.lst.injEq, Dt.tup.injEq, Dt.byt.injEq, Dt.ty.injEq, Dt.ref.injEq, En.val.injEq, En.mu.injEq, En.bor.injEq, List.cons.injEq, Nat.reduceLT, Nat.reduceAdd, Nat.reduceSub, Nat.zero_add, and_self, ↓reduceIte, Bool.false_eq_true, reduceCtorEq, false_and, and_false, exists_const, exists_false, or_false, false_or, Nat.reduceEqDiff, Option.map_some, Option.getD_some, Option.getD_none, and_assoc, exists_and_left, exists_and_right, rCall_f, rCall_g, f_pre, f_post, g_pre, g_post, g_exc, Prod.forall, Prod.exists, Prod.mk.injEq, exists_const, forall_const, argsD, conP, entD, remP, flagsP, flagAt, putP, aft, Ct.dt.injEq, forall_eq, forall_eq', forall_const, implies_true, false_implies, and_imp, forall_exists_index, forall_apply_eq_imp_iff, List.length_append, retD, rFor_L, asgLc, rLc_L, riList, riTup, riStr, riRange1, riRange2, riEnum, riRev, rgName, rgTup, rgCons, rgNil, wipeE, unw, rYes, rAsgG, rAsgSub, roSetL, rBM, rBM0, roAppend, roOwn0, isa_no, isa_bl, isa_in, isa_st, isa_by, isa_ls, isa_tu, isa_di, beq_self_eq_true, Bool.or_true, Bool.true_or, Bool.or_false, Bool.false_or, Bool.or_self, Bool.not_true, Bool.not_false, Bool.and_true, Bool.true_and, Bool.and_false, Bool.false_and, String.reduceBEq, String.reduceEq, not_true_eq_false, not_false_eq_true, rSlL', roNone, roSome, roCat, D.trk, rRaise0, rRaise1, excD, rTry, rEx, wMixD, goneD, List.isEmpty_nil, if_true, List.length_singleton, Nat.reduceLeDiff, Nat.reducePow, Int.reducePow, Int.reduceLT, Int.reduceLE, Int.reduceNeg, Int.reduceToNat, S_draw, S_one, items, at4, at5, at6, S_law, rFrz, ms_law_well, ms_law_draw, ms_law_one, ms_law_names, ms_law_plan, S_lnames, S_lplan]
  subst e1
  refine sg fun U1 e1 => ?_
  simp (maxSteps := 3000000) only [rPar, rParM, riRange3, roI2, rLcO_L, isN_eq, notN_eq, rSlTu, riZip, riZipO, riListO, rMinDef, rFldG, rSetFG, rDGet, rDIn, rDPut, roLenD, roListD, roSortD, rAsgStar, rForK_L, rDisp1, rSortST, rMakeC_f, kD, vD, iD, keyDt, own, wr, gput, gfind, keyD, keyDt, id_eq, roSplit, roStr1, rSlSt, rSlBy, rRevL, TruD, rOrT, rAndT, rMake_g, roCatA, roRep, rMeth_f, rMeth_g, roOwnB_f, MakeQ_g, rMakeK, roIsC, isC_ins, rFld, rSetF, rXfn, rXf, lk_eq, putD, Dt.ins.injEq, Dt.exn.injEq, RleS, RMulS, RMulZ, roJoin, rRet, rRetN, rSeq, rIfS, rAsg, rVar, ofEn, rC, rOp, rUn, roP, rCB, rCons, rNil, rAndV, rOrV, rNotV, rB, rAnd, rOr, rNot, rIf, rTup, rLst, rDrop, rNext, rNever, look, frz, frzs, looks, held, roIsi, roF1, roL1, roNeg, rDNew, startE, ents, ent, csOf, unal, finds, RI0, RI, int_in, int_bl, len_ls, len_tu, len_st, len_by, at0, at1, at2, at3, ix30, ix31, ix32, eq_ii, ne_ii, eq_by, ne_by, notin_c, in_c, D.rChain, RIxA, roTupOf, RListOf, RListB, List.findSome?, List.getElem?_cons_zero, List.getElem?_cons_succ, List.getElem?_nil, List.set_cons_zero, List.set_cons_succ, List.length_cons, List.length_nil, List.map_cons, List.map_nil, List.replicate, List.nil_append, List.cons_append, List.append_nil, Option.some.injEq, exists_eq_left', exists_eq_left, exists_eq', exists_eq, true_and, and_true, Vl.d.injEq, Vl.nw.injEq, Vl.sl.injEq, Dt.int.injEq, Dt.bl.injEq, Dt.str.injEq, Dt.lst.injEq, Dt.tup.injEq, Dt.byt.injEq, Dt.ty.injEq, Dt.ref.injEq, En.val.injEq, En.mu.injEq, En.bor.injEq, List.cons.injEq, Nat.reduceLT, Nat.reduceAdd, Nat.reduceSub, Nat.zero_add, and_self, ↓reduceIte, Bool.false_eq_true, reduceCtorEq, false_and, and_false, exists_const, exists_false, or_false, false_or, Nat.reduceEqDiff, Option.map_some, Option.getD_some, Option.getD_none, and_assoc, exists_and_left, exists_and_right, rCall_f, rCall_g, f_pre, f_post, g_pre, g_post, g_exc, Prod.forall, Prod.exists, Prod.mk.injEq, exists_const, forall_const, argsD, conP, entD, remP, flagsP, flagAt, putP, aft, Ct.dt.injEq, forall_eq, forall_eq', forall_const, implies_true, false_implies, and_imp, forall_exists_index, forall_apply_eq_imp_iff, List.length_append, retD, rFor_L, asgLc, rLc_L, riList, riTup, riStr, riRange1, riRange2, riEnum, riRev, rgName, rgTup, rgCons, rgNil, wipeE, unw, rYes, rAsgG, rAsgSub, roSetL, rBM, rBM0, roAppend, roOwn0, isa_no, isa_bl, isa_in, isa_st, isa_by, isa_ls, isa_tu, isa_di, beq_self_eq_true, Bool.or_true, Bool.true_or, Bool.or_false, Bool.false_or, Bool.or_self, Bool.not_true, Bool.not_false, Bool.and_true, Bool.true_and, Bool.and_false, Bool.false_and, String.reduceBEq, String.reduceEq, not_true_eq_false, not_false_eq_true, rSlL', roNone, roSome, roCat, D.trk, rRaise0, rRaise1, excD, rTry, rEx, wMixD, goneD, List.isEmpty_nil, if_true, List.length_singleton, Nat.reduceLeDiff, Nat.reducePow, Int.reducePow, Int.reduceLT, Int.reduceLE, Int.reduceNeg, Int.reduceToNat, S_draw, S_one, items, at4, at5, at6, S_law, rFrz, ms_law_well, ms_law_draw, ms_law_one, ms_law_names, ms_law_plan, S_lnames, S_lplan]
  refine lp_of (fun i η' => ∃ w2 hs c4 c5 c6 c7 c8 c9, wOk w2 ∧ cnt w2 ≤ cnt w1 + 8 * (i : Int) ∧ hs.length = i ∧ hNames hs = ns.take i ∧ POk hs ∧ η' = [some (.mu (some 0) (.dt w2)), some (.val (.int (n : Int))), some (.val (.lst (ns.map .str))), some (.mu none (.dt (.lst (rowsD hs)))), c4, c5, c6, c7, c8, c9]) ⟨w1, [], _, _, _, _, _, _, hw1, by omega, rfl, rfl, .nil, rfl⟩ ?_ ?_
  rotate_left
  · rintro η' ⟨w2, hs, c4, c5, c6, c7, c8, c9, hw2, hc2, hhl, hhn, hpo, rfl⟩
    show U1 _
    subst e1
    simp (maxSteps := 3000000) only [rPar, rParM, riRange3, roI2, rLcO_L, isN_eq, notN_eq, rSlTu, riZip, riZipO, riListO, rMinDef, rFldG, rSetFG, rDGet, rDIn, rDPut, roLenD, roListD, roSortD, rAsgStar, rForK_L, rDisp1, rSortST, rMakeC_f, kD, vD, iD, keyDt, own, wr, gput, gfind, keyD, keyDt, id_eq, roSplit, roStr1, rSlSt, rSlBy, rRevL, TruD, rOrT, rAndT, rMake_g, roCatA, roRep, rMeth_f, rMeth_g, roOwnB_f, MakeQ_g, rMakeK, roIsC, isC_ins, rFld, rSetF, rXfn, rXf, lk_eq, putD, Dt.ins.injEq, Dt.exn.injEq, RleS, RMulS, RMulZ, roJoin, rRet, rRetN, rSeq, rIfS, rAsg, rVar, ofEn, rC, rOp, rUn, roP, rCB, rCons, rNil, rAndV, rOrV, rNotV, rB, rAnd, rOr, rNot, rIf, rTup, rLst, rDrop, rNext, rNever, look, frz, frzs, looks, held, roIsi, roF1, roL1, roNeg, rDNew, startE, ents, ent, csOf, unal, finds, RI0, RI, int_in, int_bl, len_ls, len_tu, len_st, len_by, at0, at1, at2, at3, ix30, ix31, ix32, eq_ii, ne_ii, eq_by, ne_by, notin_c, in_c, D.rChain, RIxA, roTupOf, RListOf, RListB, List.findSome?, List.getElem?_cons_zero, List.getElem?_cons_succ, List.getElem?_nil, List.set_cons_zero, List.set_cons_succ, List.length_cons, List.length_nil, List.map_cons, List.map_nil, List.replicate, List.nil_append, List.cons_append, List.append_nil, Option.some.injEq, exists_eq_left', exists_eq_left, exists_eq', exists_eq, true_and, and_true, Vl.d.injEq, Vl.nw.injEq, Vl.sl.injEq, Dt.int.injEq, Dt.bl.injEq, Dt.str.injEq, Dt.lst.injEq, Dt.tup.injEq, Dt.byt.injEq, Dt.ty.injEq, Dt.ref.injEq, En.val.injEq, En.mu.injEq, En.bor.injEq, List.cons.injEq, Nat.reduceLT, Nat.reduceAdd, Nat.reduceSub, Nat.zero_add, and_self, ↓reduceIte, Bool.false_eq_true, reduceCtorEq, false_and, and_false, exists_const, exists_false, or_false, false_or, Nat.reduceEqDiff, Option.map_some, Option.getD_some, Option.getD_none, and_assoc, exists_and_left, exists_and_right, rCall_f, rCall_g, f_pre, f_post, g_pre, g_post, g_exc, Prod.forall, Prod.exists, Prod.mk.injEq, exists_const, forall_const, argsD, conP, entD, remP, flagsP, flagAt, putP, aft, Ct.dt.injEq, forall_eq, forall_eq', forall_const, implies_true, false_implies, and_imp, forall_exists_index, forall_apply_eq_imp_iff, List.length_append, retD, rFor_L, asgLc, rLc_L, riList, riTup, riStr, riRange1, riRange2, riEnum, riRev, rgName, rgTup, rgCons, rgNil, wipeE, unw, rYes, rAsgG, rAsgSub, roSetL, rBM, rBM0, roAppend, roOwn0, isa_no, isa_bl, isa_in, isa_st, isa_by, isa_ls, isa_tu, isa_di, beq_self_eq_true, Bool.or_true, Bool.true_or, Bool.or_false, Bool.false_or, Bool.or_self, Bool.not_true, Bool.not_false, Bool.and_true, Bool.true_and, Bool.and_false, Bool.false_and, String.reduceBEq, String.reduceEq, not_true_eq_false, not_false_eq_true, rSlL', roNone, roSome, roCat, D.trk, rRaise0, rRaise1, excD, rTry, rEx, wMixD, goneD, List.isEmpty_nil, if_true, List.length_singleton, Nat.reduceLeDiff, Nat.reducePow, Int.reducePow, Int.reduceLT, Int.reduceLE, Int.reduceNeg, Int.reduceToNat, S_draw, S_one, items, at4, at5, at6, S_law, rFrz, ms_law_well, ms_law_draw, ms_law_one, ms_law_names, ms_law_plan, S_lnames, S_lplan]
    rw [enumD_length, List.length_map] at hhl hc2 hhn
    rw [List.take_length] at hhn
    exact ⟨hs, w2, hw2, by omega, fun e => by rw [e] at hhl; simp at hhl; omega, by omega, hpo, fun s h => hnz s (hhn ▸ h), rfl, rfl⟩
  rintro i x η' hx ⟨w2, hs, c4, c5, c6, c7, c8, c9, hw2, hc2, hhl, hhn, hpo, rfl⟩
  obtain ⟨y, hy, rfl⟩ := enumD_get hx
  obtain ⟨s0, hs0, rfl⟩ := map_get hy
  have hil : i < ns.length := (List.getElem?_eq_some_iff.mp hs0).1
  simp (maxSteps := 3000000) only [rPar, rParM, riRange3, roI2, rLcO_L, isN_eq, notN_eq, rSlTu, riZip, riZipO, riListO, rMinDef, rFldG, rSetFG, rDGet, rDIn, rDPut, roLenD, roListD, roSortD, rAsgStar, rForK_L, rDisp1, rSortST, rMakeC_f, kD, vD, iD, keyDt, own, wr, gput, gfind, keyD, keyDt, id_eq, roSplit, roStr1, rSlSt, rSlBy, rRevL, TruD, rOrT, rAndT, rMake_g, roCatA, roRep, rMeth_f, rMeth_g, roOwnB_f, MakeQ_g, rMakeK, roIsC, isC_ins, rFld, rSetF, rXfn, rXf, lk_eq, putD, Dt.ins.injEq, Dt.exn.injEq, RleS, RMulS, RMulZ, roJoin, rRet, rRetN, rIfS, rAsg, rVar, ofEn, rC, rOp, rUn, roP, rCB, rCons, rNil, rAndV, rOrV, rNotV, rB, rAnd, rOr, rNot, rIf, rTup, rLst, rDrop, rNext, rNever, look, frz, frzs, looks, held, roIsi, roF1, roL1, roNeg, rDNew, startE, ents, ent, csOf, unal, finds, RI0, RI, int_in, int_bl, len_ls, len_tu, len_st, len_by, at0, at1, at2, at3, ix30, ix31, ix32, eq_ii, ne_ii, eq_by, ne_by, notin_c, in_c, D.rChain, RIxA, roTupOf, RListOf, RListB, List.findSome?, List.getElem?_cons_zero, List.getElem?_cons_succ, List.getElem?_nil, List.set_cons_zero, List.set_cons_succ, List.length_cons, List.length_nil, List.map_cons, List.map_nil, List.replicate, List.nil_append, List.cons_append, List.append_nil, Option.some.injEq, exists_eq_left', exists_eq_left, exists_eq', exists_eq, true_and, and_true, Vl.d.injEq, Vl.nw.injEq, Vl.sl.injEq, Dt.int.injEq, Dt.bl.injEq, Dt.str.injEq, Dt.lst.injEq, Dt.tup.injEq, Dt.byt.injEq, Dt.ty.injEq, Dt.ref.injEq, En.val.injEq, En.mu.injEq, En.bor.injEq, List.cons.injEq, Nat.reduceLT, Nat.reduceAdd, Nat.reduceSub, Nat.zero_add, and_self, ↓reduceIte, Bool.false_eq_true, reduceCtorEq, false_and, and_false, exists_const, exists_false, or_false, false_or, Nat.reduceEqDiff, Option.map_some, Option.getD_some, Option.getD_none, and_assoc, exists_and_left, exists_and_right, rCall_f, rCall_g, f_pre, f_post, g_pre, g_post, g_exc, Prod.forall, Prod.exists, Prod.mk.injEq, exists_const, forall_const, argsD, conP, entD, remP, flagsP, flagAt, putP, aft, Ct.dt.injEq, forall_eq, forall_eq', forall_const, implies_true, false_implies, and_imp, forall_exists_index, forall_apply_eq_imp_iff, List.length_append, retD, rFor_L, asgLc, rLc_L, riList, riTup, riStr, riRange1, riRange2, riEnum, riRev, rgName, rgTup, rgCons, rgNil, wipeE, unw, rYes, rAsgG, rAsgSub, roSetL, rBM, rBM0, roAppend, roOwn0, isa_no, isa_bl, isa_in, isa_st, isa_by, isa_ls, isa_tu, isa_di, beq_self_eq_true, Bool.or_true, Bool.true_or, Bool.or_false, Bool.false_or, Bool.or_self, Bool.not_true, Bool.not_false, Bool.and_true, Bool.true_and, Bool.and_false, Bool.false_and, String.reduceBEq, String.reduceEq, not_true_eq_false, not_false_eq_true, rSlL', roNone, roSome, roCat, D.trk, rRaise0, rRaise1, excD, rTry, rEx, wMixD, goneD, List.isEmpty_nil, if_true, List.length_singleton, Nat.reduceLeDiff, Nat.reducePow, Int.reducePow, Int.reduceLT, Int.reduceLE, Int.reduceNeg, Int.reduceToNat, S_draw, S_one, items, at4, at5, at6, S_law, rFrz, ms_law_well, ms_law_draw, ms_law_one, ms_law_names, ms_law_plan, S_lnames, S_lplan]
  refine ⟨rfl, sg fun U2 e2 => ?_⟩
  simp (maxSteps := 3000000) only [rPar, rParM, riRange3, roI2, rLcO_L, isN_eq, notN_eq, rSlTu, riZip, riZipO, riListO, rMinDef, rFldG, rSetFG, rDGet, rDIn, rDPut, roLenD, roListD, roSortD, rAsgStar, rForK_L, rDisp1, rSortST, rMakeC_f, kD, vD, iD, keyDt, own, wr, gput, gfind, keyD, keyDt, id_eq, roSplit, roStr1, rSlSt, rSlBy, rRevL, TruD, rOrT, rAndT, rMake_g, roCatA, roRep, rMeth_f, rMeth_g, roOwnB_f, MakeQ_g, rMakeK, roIsC, isC_ins, rFld, rSetF, rXfn, rXf, lk_eq, putD, Dt.ins.injEq, Dt.exn.injEq, RleS, RMulS, RMulZ, roJoin, rRet, rRetN, rSeq, rIfS, rAsg, rVar, ofEn, rC, rOp, rUn, roP, rCB, rCons, rNil, rAndV, rOrV, rNotV, rB, rAnd, rOr, rNot, rIf, rTup, rLst, rDrop, rNext, rNever, look, frz, frzs, looks, held, roIsi, roF1, roL1, roNeg, rDNew, startE, ents, ent, csOf, unal, finds, RI0, RI, int_in, int_bl, len_ls, len_tu, len_st, len_by, at0, at1, at2, at3, ix30, ix31, ix32, eq_ii, ne_ii, eq_by, ne_by, notin_c, in_c, D.rChain, RIxA, roTupOf, RListOf, RListB, List.findSome?, List.getElem?_cons_zero, List.getElem?_cons_succ, List.getElem?_nil, List.set_cons_zero, List.set_cons_succ, List.length_cons, List.length_nil, List.map_cons, List.map_nil, List.replicate, List.nil_append, List.cons_append, List.append_nil, Option.some.injEq, exists_eq_left', exists_eq_left, exists_eq', exists_eq, true_and, and_true, Vl.d.injEq, Vl.nw.injEq, Vl.sl.injEq, Dt.int.injEq, Dt.bl.injEq, Dt.str.injEq, Dt.lst.injEq, Dt.tup.injEq, Dt.byt.injEq, Dt.ty.injEq, Dt.ref.injEq, En.val.injEq, En.mu.injEq, En.bor.injEq, List.cons.injEq, Nat.reduceLT, Nat.reduceAdd, Nat.reduceSub, Nat.zero_add, and_self, ↓reduceIte, Bool.false_eq_true, reduceCtorEq, false_and, and_false, exists_const, exists_false, or_false, false_or, Nat.reduceEqDiff, Option.map_some, Option.getD_some, Option.getD_none, and_assoc, exists_and_left, exists_and_right, rCall_f, rCall_g, f_pre, f_post, g_pre, g_post, g_exc, Prod.forall, Prod.exists, Prod.mk.injEq, exists_const, forall_const, argsD, conP, entD, remP, flagsP, flagAt, putP, aft, Ct.dt.injEq, forall_eq, forall_eq', forall_const, implies_true, false_implies, and_imp, forall_exists_index, forall_apply_eq_imp_iff, List.length_append, retD, rFor_L, asgLc, rLc_L, riList, riTup, riStr, riRange1, riRange2, riEnum, riRev, rgName, rgTup, rgCons, rgNil, wipeE, unw, rYes, rAsgG, rAsgSub, roSetL, rBM, rBM0, roAppend, roOwn0, isa_no, isa_bl, isa_in, isa_st, isa_by, isa_ls, isa_tu, isa_di, beq_self_eq_true, Bool.or_true, Bool.true_or, Bool.or_false, Bool.false_or, Bool.or_self, Bool.not_true, Bool.not_false, Bool.and_true, Bool.true_and, Bool.and_false, Bool.false_and, String.reduceBEq, String.reduceEq, not_true_eq_false, not_false_eq_true, rSlL', roNone, roSome, roCat, D.trk, rRaise0, rRaise1, excD, rTry, rEx, wMixD, goneD, List.isEmpty_nil, if_true, List.length_singleton, Nat.reduceLeDiff, Nat.reducePow, Int.reducePow, Int.reduceLT, Int.reduceLE, Int.reduceNeg, Int.reduceToNat, S_draw, S_one, items, at4, at5, at6, S_law, rFrz, ms_law_well, ms_law_draw, ms_law_one, ms_law_names, ms_law_plan, S_lnames, S_lplan]
  have hcl : D.cutD (ns.map .str) none (some (i : Int)) = (ns.take i).map .str := by
    rw [cut_lo _ (by omega) (by rw [List.length_map]; omega), List.map_take]
    rfl
  rw [hcl]
  subst e2
  refine sg fun U2 e2 => ?_
  simp (maxSteps := 3000000) only [rPar, rParM, riRange3, roI2, rLcO_L, isN_eq, notN_eq, rSlTu, riZip, riZipO, riListO, rMinDef, rFldG, rSetFG, rDGet, rDIn, rDPut, roLenD, roListD, roSortD, rAsgStar, rForK_L, rDisp1, rSortST, rMakeC_f, kD, vD, iD, keyDt, own, wr, gput, gfind, keyD, keyDt, id_eq, roSplit, roStr1, rSlSt, rSlBy, rRevL, TruD, rOrT, rAndT, rMake_g, roCatA, roRep, rMeth_f, rMeth_g, roOwnB_f, MakeQ_g, rMakeK, roIsC, isC_ins, rFld, rSetF, rXfn, rXf, lk_eq, putD, Dt.ins.injEq, Dt.exn.injEq, RleS, RMulS, RMulZ, roJoin, rRet, rRetN, rSeq, rIfS, rAsg, rVar, ofEn, rC, rOp, rUn, roP, rCB, rCons, rNil, rAndV, rOrV, rNotV, rB, rAnd, rOr, rNot, rIf, rTup, rLst, rDrop, rNext, rNever, look, frz, frzs, looks, held, roIsi, roF1, roL1, roNeg, rDNew, startE, ents, ent, csOf, unal, finds, RI0, RI, int_in, int_bl, len_ls, len_tu, len_st, len_by, at0, at1, at2, at3, ix30, ix31, ix32, eq_ii, ne_ii, eq_by, ne_by, notin_c, in_c, D.rChain, RIxA, roTupOf, RListOf, RListB, List.findSome?, List.getElem?_cons_zero, List.getElem?_cons_succ, List.getElem?_nil, List.set_cons_zero, List.set_cons_succ, List.length_cons, List.length_nil, List.map_cons, List.map_nil, List.replicate, List.nil_append, List.cons_append, List.append_nil, Option.some.injEq, exists_eq_left', exists_eq_left, exists_eq', exists_eq, true_and, and_true, Vl.d.injEq, Vl.nw.injEq, Vl.sl.injEq, Dt.int.injEq, Dt.bl.injEq, Dt.str.injEq, Dt.lst.injEq, Dt.tup.injEq, Dt.byt.injEq, Dt.ty.injEq, Dt.ref.injEq, En.val.injEq, En.mu.injEq, En.bor.injEq, List.cons.injEq, Nat.reduceLT, Nat.reduceAdd, Nat.reduceSub, Nat.zero_add, and_self, ↓reduceIte, Bool.false_eq_true, reduceCtorEq, false_and, and_false, exists_const, exists_false, or_false, false_or, Nat.reduceEqDiff, Option.map_some, Option.getD_some, Option.getD_none, and_assoc, exists_and_left, exists_and_right, rCall_f, rCall_g, f_pre, f_post, g_pre, g_post, g_exc, Prod.forall, Prod.exists, Prod.mk.injEq, exists_const, forall_const, argsD, conP, entD, remP, flagsP, flagAt, putP, aft, Ct.dt.injEq, forall_eq, forall_eq', forall_const, implies_true, false_implies, and_imp, forall_exists_index, forall_apply_eq_imp_iff, List.length_append, retD, rFor_L, asgLc, rLc_L, riList, riTup, riStr, riRange1, riRange2, riEnum, riRev, rgName, rgTup, rgCons, rgNil, wipeE, unw, rYes, rAsgG, rAsgSub, roSetL, rBM, rBM0, roAppend, roOwn0, isa_no, isa_bl, isa_in, isa_st, isa_by, isa_ls, isa_tu, isa_di, beq_self_eq_true, Bool.or_true, Bool.true_or, Bool.or_false, Bool.false_or, Bool.or_self, Bool.not_true, Bool.not_false, Bool.and_true, Bool.true_and, Bool.and_false, Bool.false_and, String.reduceBEq, String.reduceEq, not_true_eq_false, not_false_eq_true, rSlL', roNone, roSome, roCat, D.trk, rRaise0, rRaise1, excD, rTry, rEx, wMixD, goneD, List.isEmpty_nil, if_true, List.length_singleton, Nat.reduceLeDiff, Nat.reducePow, Int.reducePow, Int.reduceLT, Int.reduceLE, Int.reduceNeg, Int.reduceToNat, S_draw, S_one, items, at4, at5, at6, S_law, rFrz, ms_law_well, ms_law_draw, ms_law_one, ms_law_names, ms_law_plan, S_lnames, S_lplan]
  subst e2
  refine sg fun U2 e2 => ?_
  simp (maxSteps := 3000000) only [rPar, rParM, riRange3, roI2, rLcO_L, isN_eq, notN_eq, rSlTu, riZip, riZipO, riListO, rMinDef, rFldG, rSetFG, rDGet, rDIn, rDPut, roLenD, roListD, roSortD, rAsgStar, rForK_L, rDisp1, rSortST, rMakeC_f, kD, vD, iD, keyDt, own, wr, gput, gfind, keyD, keyDt, id_eq, roSplit, roStr1, rSlSt, rSlBy, rRevL, TruD, rOrT, rAndT, rMake_g, roCatA, roRep, rMeth_f, rMeth_g, roOwnB_f, MakeQ_g, rMakeK, roIsC, isC_ins, rFld, rSetF, rXfn, rXf, lk_eq, putD, Dt.ins.injEq, Dt.exn.injEq, RleS, RMulS, RMulZ, roJoin, rRet, rRetN, rSeq, rIfS, rAsg, rVar, ofEn, rC, rOp, rUn, roP, rCB, rCons, rNil, rAndV, rOrV, rNotV, rB, rAnd, rOr, rNot, rIf, rTup, rLst, rDrop, rNext, rNever, look, frz, frzs, looks, held, roIsi, roF1, roL1, roNeg, rDNew, startE, ents, ent, csOf, unal, finds, RI0, RI, int_in, int_bl, len_ls, len_tu, len_st, len_by, at0, at1, at2, at3, ix30, ix31, ix32, eq_ii, ne_ii, eq_by, ne_by, notin_c, in_c, D.rChain, RIxA, roTupOf, RListOf, RListB, List.findSome?, List.getElem?_cons_zero, List.getElem?_cons_succ, List.getElem?_nil, List.set_cons_zero, List.set_cons_succ, List.length_cons, List.length_nil, List.map_cons, List.map_nil, List.replicate, List.nil_append, List.cons_append, List.append_nil, Option.some.injEq, exists_eq_left', exists_eq_left, exists_eq', exists_eq, true_and, and_true, Vl.d.injEq, Vl.nw.injEq, Vl.sl.injEq, Dt.int.injEq, Dt.bl.injEq, Dt.str.injEq, Dt.lst.injEq, Dt.tup.injEq, Dt.byt.injEq, Dt.ty.injEq, Dt.ref.injEq, En.val.injEq, En.mu.injEq, En.bor.injEq, List.cons.injEq, Nat.reduceLT, Nat.reduceAdd, Nat.reduceSub, Nat.zero_add, and_self, ↓reduceIte, Bool.false_eq_true, reduceCtorEq, false_and, and_false, exists_const, exists_false, or_false, false_or, Nat.reduceEqDiff, Option.map_some, Option.getD_some, Option.getD_none, and_assoc, exists_and_left, exists_and_right, rCall_f, rCall_g, f_pre, f_post, g_pre, g_post, g_exc, Prod.forall, Prod.exists, Prod.mk.injEq, exists_const, forall_const, argsD, conP, entD, remP, flagsP, flagAt, putP, aft, Ct.dt.injEq, forall_eq, forall_eq', forall_const, implies_true, false_implies, and_imp, forall_exists_index, forall_apply_eq_imp_iff, List.length_append, retD, rFor_L, asgLc, rLc_L, riList, riTup, riStr, riRange1, riRange2, riEnum, riRev, rgName, rgTup, rgCons, rgNil, wipeE, unw, rYes, rAsgG, rAsgSub, roSetL, rBM, rBM0, roAppend, roOwn0, isa_no, isa_bl, isa_in, isa_st, isa_by, isa_ls, isa_tu, isa_di, beq_self_eq_true, Bool.or_true, Bool.true_or, Bool.or_false, Bool.false_or, Bool.or_self, Bool.not_true, Bool.not_false, Bool.and_true, Bool.true_and, Bool.and_false, Bool.false_and, String.reduceBEq, String.reduceEq, not_true_eq_false, not_false_eq_true, rSlL', roNone, roSome, roCat, D.trk, rRaise0, rRaise1, excD, rTry, rEx, wMixD, goneD, List.isEmpty_nil, if_true, List.length_singleton, Nat.reduceLeDiff, Nat.reducePow, Int.reducePow, Int.reduceLT, Int.reduceLE, Int.reduceNeg, Int.reduceToNat, S_draw, S_one, items, at4, at5, at6, S_law, rFrz, ms_law_well, ms_law_draw, ms_law_one, ms_law_names, ms_law_plan, S_lnames, S_lplan]
  refine ⟨hw2, by omega, by simp, fun a0 b' hwb' hcb' hm => ?_⟩
  obtain ⟨j, rfl, hj0, hj1⟩ : ∃ j : Int, a0 = .int j ∧ 0 ≤ j ∧ j ≤ 3 := by
    simp only [List.mem_cons, List.mem_nil_iff, or_false] at hm
    rcases hm with rfl | rfl | rfl | rfl | rfl | rfl | rfl <;> exact ⟨_, rfl, by decide, by decide⟩
  clear hm
  obtain ⟨k, rfl⟩ := Int.eq_ofNat_of_zero_le hj0
  refine ⟨_, rfl, by omega, by omega, ?_⟩
  have htl : (ns.take i).length ≤ 15 := by rw [List.length_take]; omega
  refine lp_of (fun t η' => ∃ w3 ls ps c8 c9, wOk w3 ∧ cnt w3 ≤ cnt b' + 2 * (t : Int) ∧ LInv (ns.take i) ls ps ∧ ps.length ≤ t ∧ η' = [some (.mu (some 0) (.dt w3)), some (.val (.int (n : Int))), some (.val (.lst (ns.map .str))), some (.mu none (.dt (.lst (rowsD hs)))), some (.val (.int (i : Int))), some (.val (.str s0)), some (.mu none (.dt (.lst (ls.map .str)))), some (.mu none (.dt (.lst (ps.map .str)))), c8, c9]) ⟨b', ns.take i, [], _, _, hwb', by omega, ⟨(List.take_sublist i ns).nodup hnd, by simp, fun _ h => h, by simp, by simp⟩, by simp, rfl⟩ ?_ ?_
  rotate_left
  · rintro η' ⟨w3, ls, ps, c8', c9', hw3, hc3, hl, hpl, rfl⟩
    rw [nums_length] at hc3 hpl
    show U2 _
    subst e2
    simp (maxSteps := 3000000) only [rPar, rParM, riRange3, roI2, rLcO_L, isN_eq, notN_eq, rSlTu, riZip, riZipO, riListO, rMinDef, rFldG, rSetFG, rDGet, rDIn, rDPut, roLenD, roListD, roSortD, rAsgStar, rForK_L, rDisp1, rSortST, rMakeC_f, kD, vD, iD, keyDt, own, wr, gput, gfind, keyD, keyDt, id_eq, roSplit, roStr1, rSlSt, rSlBy, rRevL, TruD, rOrT, rAndT, rMake_g, roCatA, roRep, rMeth_f, rMeth_g, roOwnB_f, MakeQ_g, rMakeK, roIsC, isC_ins, rFld, rSetF, rXfn, rXf, lk_eq, putD, Dt.ins.injEq, Dt.exn.injEq, RleS, RMulS, RMulZ, roJoin, rRet, rRetN, rSeq, rIfS, rAsg, rVar, ofEn, rC, rOp, rUn, roP, rCB, rCons, rNil, rAndV, rOrV, rNotV, rB, rAnd, rOr, rNot, rIf, rTup, rLst, rDrop, rNext, rNever, look, frz, frzs, looks, held, roIsi, roF1, roL1, roNeg, rDNew, startE, ents, ent, csOf, unal, finds, RI0, RI, int_in, int_bl, len_ls, len_tu, len_st, len_by, at0, at1, at2, at3, ix30, ix31, ix32, eq_ii, ne_ii, eq_by, ne_by, notin_c, in_c, D.rChain, RIxA, roTupOf, RListOf, RListB, List.findSome?, List.getElem?_cons_zero, List.getElem?_cons_succ, List.getElem?_nil, List.set_cons_zero, List.set_cons_succ, List.length_cons, List.length_nil, List.map_cons, List.map_nil, List.replicate, List.nil_append, List.cons_append, List.append_nil, Option.some.injEq, exists_eq_left', exists_eq_left, exists_eq', exists_eq, true_and, and_true, Vl.d.injEq, Vl.nw.injEq, Vl.sl.injEq, Dt.int.injEq, Dt.bl.injEq, Dt.str.injEq, Dt.lst.injEq, Dt.tup.injEq, Dt.byt.injEq, Dt.ty.injEq, Dt.ref.injEq, En.val.injEq, En.mu.injEq, En.bor.injEq, List.cons.injEq, Nat.reduceLT, Nat.reduceAdd, Nat.reduceSub, Nat.zero_add, and_self, ↓reduceIte, Bool.false_eq_true, reduceCtorEq, false_and, and_false, exists_const, exists_false, or_false, false_or, Nat.reduceEqDiff, Option.map_some, Option.getD_some, Option.getD_none, and_assoc, exists_and_left, exists_and_right, rCall_f, rCall_g, f_pre, f_post, g_pre, g_post, g_exc, Prod.forall, Prod.exists, Prod.mk.injEq, exists_const, forall_const, argsD, conP, entD, remP, flagsP, flagAt, putP, aft, Ct.dt.injEq, forall_eq, forall_eq', forall_const, implies_true, false_implies, and_imp, forall_exists_index, forall_apply_eq_imp_iff, List.length_append, retD, rFor_L, asgLc, rLc_L, riList, riTup, riStr, riRange1, riRange2, riEnum, riRev, rgName, rgTup, rgCons, rgNil, wipeE, unw, rYes, rAsgG, rAsgSub, roSetL, rBM, rBM0, roAppend, roOwn0, isa_no, isa_bl, isa_in, isa_st, isa_by, isa_ls, isa_tu, isa_di, beq_self_eq_true, Bool.or_true, Bool.true_or, Bool.or_false, Bool.false_or, Bool.or_self, Bool.not_true, Bool.not_false, Bool.and_true, Bool.true_and, Bool.and_false, Bool.false_and, String.reduceBEq, String.reduceEq, not_true_eq_false, not_false_eq_true, rSlL', roNone, roSome, roCat, D.trk, rRaise0, rRaise1, excD, rTry, rEx, wMixD, goneD, List.isEmpty_nil, if_true, List.length_singleton, Nat.reduceLeDiff, Nat.reducePow, Int.reducePow, Int.reduceLT, Int.reduceLE, Int.reduceNeg, Int.reduceToNat, S_draw, S_one, items, at4, at5, at6, S_law, rFrz, ms_law_well, ms_law_draw, ms_law_one, ms_law_names, ms_law_plan, S_lnames, S_lplan]
    refine ⟨by rw [rowsD_len]; omega, w3, hw3, by omega, hs ++ [(s0, ps)], by rw [List.length_append, hhl]; rfl, by rw [hNames_snoc, hhn, take_succ_at hs0], hpo.snoc (hnm s0 (List.mem_of_getElem? hs0)) (by rw [hhn]; exact nd_take hnd hs0) (by rw [hhn]; exact hl.mp) hl.np (by omega) (by omega), rfl, (rowsD_snoc _ _ _).symm⟩
  rintro t x η' hx2 ⟨w3, ls, ps, c8', c9', hw3, hc3, hl, hpl, rfl⟩
  obtain ⟨htk, rfl⟩ := nums_get hx2
  have hll := nd_len hl.nl hl.ml
  simp (maxSteps := 3000000) only [rPar, rParM, riRange3, roI2, rLcO_L, isN_eq, notN_eq, rSlTu, riZip, riZipO, riListO, rMinDef, rFldG, rSetFG, rDGet, rDIn, rDPut, roLenD, roListD, roSortD, rAsgStar, rForK_L, rDisp1, rSortST, rMakeC_f, kD, vD, iD, keyDt, own, wr, gput, gfind, keyD, keyDt, id_eq, roSplit, roStr1, rSlSt, rSlBy, rRevL, TruD, rOrT, rAndT, rMake_g, roCatA, roRep, rMeth_f, rMeth_g, roOwnB_f, MakeQ_g, rMakeK, roIsC, isC_ins, rFld, rSetF, rXfn, rXf, lk_eq, putD, Dt.ins.injEq, Dt.exn.injEq, RleS, RMulS, RMulZ, roJoin, rRet, rRetN, rIfS, rAsg, rVar, ofEn, rC, rOp, rUn, roP, rCB, rCons, rNil, rAndV, rOrV, rNotV, rB, rAnd, rOr, rNot, rIf, rTup, rLst, rDrop, rNext, rNever, look, frz, frzs, looks, held, roIsi, roF1, roL1, roNeg, rDNew, startE, ents, ent, csOf, unal, finds, RI0, RI, int_in, int_bl, len_ls, len_tu, len_st, len_by, at0, at1, at2, at3, ix30, ix31, ix32, eq_ii, ne_ii, eq_by, ne_by, notin_c, in_c, D.rChain, RIxA, roTupOf, RListOf, RListB, List.findSome?, List.getElem?_cons_zero, List.getElem?_cons_succ, List.getElem?_nil, List.set_cons_zero, List.set_cons_succ, List.length_cons, List.length_nil, List.map_cons, List.map_nil, List.replicate, List.nil_append, List.cons_append, List.append_nil, Option.some.injEq, exists_eq_left', exists_eq_left, exists_eq', exists_eq, true_and, and_true, Vl.d.injEq, Vl.nw.injEq, Vl.sl.injEq, Dt.int.injEq, Dt.bl.injEq, Dt.str.injEq, Dt.lst.injEq, Dt.tup.injEq, Dt.byt.injEq, Dt.ty.injEq, Dt.ref.injEq, En.val.injEq, En.mu.injEq, En.bor.injEq, List.cons.injEq, Nat.reduceLT, Nat.reduceAdd, Nat.reduceSub, Nat.zero_add, and_self, ↓reduceIte, Bool.false_eq_true, reduceCtorEq, false_and, and_false, exists_const, exists_false, or_false, false_or, Nat.reduceEqDiff, Option.map_some, Option.getD_some, Option.getD_none, and_assoc, exists_and_left, exists_and_right, rCall_f, rCall_g, f_pre, f_post, g_pre, g_post, g_exc, Prod.forall, Prod.exists, Prod.mk.injEq, exists_const, forall_const, argsD, conP, entD, remP, flagsP, flagAt, putP, aft, Ct.dt.injEq, forall_eq, forall_eq', forall_const, implies_true, false_implies, and_imp, forall_exists_index, forall_apply_eq_imp_iff, List.length_append, retD, rFor_L, asgLc, rLc_L, riList, riTup, riStr, riRange1, riRange2, riEnum, riRev, rgName, rgTup, rgCons, rgNil, wipeE, unw, rYes, rAsgG, rAsgSub, roSetL, rBM, rBM0, roAppend, roOwn0, isa_no, isa_bl, isa_in, isa_st, isa_by, isa_ls, isa_tu, isa_di, beq_self_eq_true, Bool.or_true, Bool.true_or, Bool.or_false, Bool.false_or, Bool.or_self, Bool.not_true, Bool.not_false, Bool.and_true, Bool.true_and, Bool.and_false, Bool.false_and, String.reduceBEq, String.reduceEq, not_true_eq_false, not_false_eq_true, rSlL', roNone, roSome, roCat, D.trk, rRaise0, rRaise1, excD, rTry, rEx, wMixD, goneD, List.isEmpty_nil, if_true, List.length_singleton, Nat.reduceLeDiff, Nat.reducePow, Int.reducePow, Int.reduceLT, Int.reduceLE, Int.reduceNeg, Int.reduceToNat, S_draw, S_one, items, at4, at5, at6, S_law, rFrz, ms_law_well, ms_law_draw, ms_law_one, ms_law_names, ms_law_plan, S_lnames, S_lplan]
  refine ⟨_, by rw [ne_nilP (pd_strs ls) (by decide)], _, rfl, ?_⟩
  by_cases h0 : ls = []
  · subst h0
    rw [if_neg (by simp)]
    exact ⟨w3, hw3, by omega, [], ps, hl, by omega, rfl, rfl, rfl⟩
  rw [if_pos (by simp [h0])]
  have hlp : 0 < ls.length := List.length_pos_iff.mpr h0
  refine sg fun U3 e3 => ?_
  simp (maxSteps := 3000000) only [rPar, rParM, riRange3, roI2, rLcO_L, isN_eq, notN_eq, rSlTu, riZip, riZipO, riListO, rMinDef, rFldG, rSetFG, rDGet, rDIn, rDPut, roLenD, roListD, roSortD, rAsgStar, rForK_L, rDisp1, rSortST, rMakeC_f, kD, vD, iD, keyDt, own, wr, gput, gfind, keyD, keyDt, id_eq, roSplit, roStr1, rSlSt, rSlBy, rRevL, TruD, rOrT, rAndT, rMake_g, roCatA, roRep, rMeth_f, rMeth_g, roOwnB_f, MakeQ_g, rMakeK, roIsC, isC_ins, rFld, rSetF, rXfn, rXf, lk_eq, putD, Dt.ins.injEq, Dt.exn.injEq, RleS, RMulS, RMulZ, roJoin, rRet, rRetN, rSeq, rIfS, rAsg, rVar, ofEn, rC, rOp, rUn, roP, rCB, rCons, rNil, rAndV, rOrV, rNotV, rB, rAnd, rOr, rNot, rIf, rTup, rLst, rDrop, rNext, rNever, look, frz, frzs, looks, held, roIsi, roF1, roL1, roNeg, rDNew, startE, ents, ent, csOf, unal, finds, RI0, RI, int_in, int_bl, len_ls, len_tu, len_st, len_by, at0, at1, at2, at3, ix30, ix31, ix32, eq_ii, ne_ii, eq_by, ne_by, notin_c, in_c, D.rChain, RIxA, roTupOf, RListOf, RListB, List.findSome?, List.getElem?_cons_zero, List.getElem?_cons_succ, List.getElem?_nil, List.set_cons_zero, List.set_cons_succ, List.length_cons, List.length_nil, List.map_cons, List.map_nil, List.replicate, List.nil_append, List.cons_append, List.append_nil, Option.some.injEq, exists_eq_left', exists_eq_left, exists_eq', exists_eq, true_and, and_true, Vl.d.injEq, Vl.nw.injEq, Vl.sl.injEq, Dt.int.injEq, Dt.bl.injEq, Dt.str.injEq, Dt.lst.injEq, Dt.tup.injEq, Dt.byt.injEq, Dt.ty.injEq, Dt.ref.injEq, En.val.injEq, En.mu.injEq, En.bor.injEq, List.cons.injEq, Nat.reduceLT, Nat.reduceAdd, Nat.reduceSub, Nat.zero_add, and_self, ↓reduceIte, Bool.false_eq_true, reduceCtorEq, false_and, and_false, exists_const, exists_false, or_false, false_or, Nat.reduceEqDiff, Option.map_some, Option.getD_some, Option.getD_none, and_assoc, exists_and_left, exists_and_right, rCall_f, rCall_g, f_pre, f_post, g_pre, g_post, g_exc, Prod.forall, Prod.exists, Prod.mk.injEq, exists_const, forall_const, argsD, conP, entD, remP, flagsP, flagAt, putP, aft, Ct.dt.injEq, forall_eq, forall_eq', forall_const, implies_true, false_implies, and_imp, forall_exists_index, forall_apply_eq_imp_iff, List.length_append, retD, rFor_L, asgLc, rLc_L, riList, riTup, riStr, riRange1, riRange2, riEnum, riRev, rgName, rgTup, rgCons, rgNil, wipeE, unw, rYes, rAsgG, rAsgSub, roSetL, rBM, rBM0, roAppend, roOwn0, isa_no, isa_bl, isa_in, isa_st, isa_by, isa_ls, isa_tu, isa_di, beq_self_eq_true, Bool.or_true, Bool.true_or, Bool.or_false, Bool.false_or, Bool.or_self, Bool.not_true, Bool.not_false, Bool.and_true, Bool.true_and, Bool.and_false, Bool.false_and, String.reduceBEq, String.reduceEq, not_true_eq_false, not_false_eq_true, rSlL', roNone, roSome, roCat, D.trk, rRaise0, rRaise1, excD, rTry, rEx, wMixD, goneD, List.isEmpty_nil, if_true, List.length_singleton, Nat.reduceLeDiff, Nat.reducePow, Int.reducePow, Int.reduceLT, Int.reduceLE, Int.reduceNeg, Int.reduceToNat, S_draw, S_one, items, at4, at5, at6, S_law, rFrz, ms_law_well, ms_law_draw, ms_law_one, ms_law_names, ms_law_plan, S_lnames, S_lplan]
  refine ⟨hw3, by omega, by rw [List.length_map]; omega, by rw [List.length_map]; omega, fun a2 w4 hw4 hc4 h5 h6 => ⟨hw4, by omega, by simp, fun x w5 hw5 hc5 hm => ?_⟩⟩
  rw [List.length_map] at h6 hm
  obtain ⟨q, rfl, hq⟩ : ∃ q : Nat, x = .int (q : Int) ∧ q < ls.length := by
    simp only [List.mem_cons, List.mem_nil_iff, or_false] at hm
    rcases hm with rfl | rfl
    · exact ⟨ls.length - 1, by rw [Int.ofNat_sub (by omega)]; rfl, by omega⟩
    · exact ⟨a2.toNat, by rw [Int.toNat_of_nonneg h5], by omega⟩
  clear hm
  subst e3
  simp (maxSteps := 3000000) only [rPar, rParM, riRange3, roI2, rLcO_L, isN_eq, notN_eq, rSlTu, riZip, riZipO, riListO, rMinDef, rFldG, rSetFG, rDGet, rDIn, rDPut, roLenD, roListD, roSortD, rAsgStar, rForK_L, rDisp1, rSortST, rMakeC_f, kD, vD, iD, keyDt, own, wr, gput, gfind, keyD, keyDt, id_eq, roSplit, roStr1, rSlSt, rSlBy, rRevL, TruD, rOrT, rAndT, rMake_g, roCatA, roRep, rMeth_f, rMeth_g, roOwnB_f, MakeQ_g, rMakeK, roIsC, isC_ins, rFld, rSetF, rXfn, rXf, lk_eq, putD, Dt.ins.injEq, Dt.exn.injEq, RleS, RMulS, RMulZ, roJoin, rRet, rRetN, rSeq, rIfS, rAsg, rVar, ofEn, rC, rOp, rUn, roP, rCB, rCons, rNil, rAndV, rOrV, rNotV, rB, rAnd, rOr, rNot, rIf, rTup, rLst, rDrop, rNext, rNever, look, frz, frzs, looks, held, roIsi, roF1, roL1, roNeg, rDNew, startE, ents, ent, csOf, unal, finds, RI0, RI, int_in, int_bl, len_ls, len_tu, len_st, len_by, at0, at1, at2, at3, ix30, ix31, ix32, eq_ii, ne_ii, eq_by, ne_by, notin_c, in_c, D.rChain, RIxA, roTupOf, RListOf, RListB, List.findSome?, List.getElem?_cons_zero, List.getElem?_cons_succ, List.getElem?_nil, List.set_cons_zero, List.set_cons_succ, List.length_cons, List.length_nil, List.map_cons, List.map_nil, List.replicate, List.nil_append, List.cons_append, List.append_nil, Option.some.injEq, exists_eq_left', exists_eq_left, exists_eq', exists_eq, true_and, and_true, Vl.d.injEq, Vl.nw.injEq, Vl.sl.injEq, Dt.int.injEq, Dt.bl.injEq, Dt.str.injEq, Dt.lst.injEq, Dt.tup.injEq, Dt.byt.injEq, Dt.ty.injEq, Dt.ref.injEq, En.val.injEq, En.mu.injEq, En.bor.injEq, List.cons.injEq, Nat.reduceLT, Nat.reduceAdd, Nat.reduceSub, Nat.zero_add, and_self, ↓reduceIte, Bool.false_eq_true, reduceCtorEq, false_and, and_false, exists_const, exists_false, or_false, false_or, Nat.reduceEqDiff, Option.map_some, Option.getD_some, Option.getD_none, and_assoc, exists_and_left, exists_and_right, rCall_f, rCall_g, f_pre, f_post, g_pre, g_post, g_exc, Prod.forall, Prod.exists, Prod.mk.injEq, exists_const, forall_const, argsD, conP, entD, remP, flagsP, flagAt, putP, aft, Ct.dt.injEq, forall_eq, forall_eq', forall_const, implies_true, false_implies, and_imp, forall_exists_index, forall_apply_eq_imp_iff, List.length_append, retD, rFor_L, asgLc, rLc_L, riList, riTup, riStr, riRange1, riRange2, riEnum, riRev, rgName, rgTup, rgCons, rgNil, wipeE, unw, rYes, rAsgG, rAsgSub, roSetL, rBM, rBM0, roAppend, roOwn0, isa_no, isa_bl, isa_in, isa_st, isa_by, isa_ls, isa_tu, isa_di, beq_self_eq_true, Bool.or_true, Bool.true_or, Bool.or_false, Bool.false_or, Bool.or_self, Bool.not_true, Bool.not_false, Bool.and_true, Bool.true_and, Bool.and_false, Bool.false_and, String.reduceBEq, String.reduceEq, not_true_eq_false, not_false_eq_true, rSlL', roNone, roSome, roCat, D.trk, rRaise0, rRaise1, excD, rTry, rEx, wMixD, goneD, List.isEmpty_nil, if_true, List.length_singleton, Nat.reduceLeDiff, Nat.reducePow, Int.reducePow, Int.reduceLT, Int.reduceLE, Int.reduceNeg, Int.reduceToNat, S_draw, S_one, items, at4, at5, at6, S_law, rFrz, ms_law_well, ms_law_draw, ms_law_one, ms_law_names, ms_law_plan, S_lnames, S_lplan, roPopAt]
  exact ⟨by omega, by omega, q, by rw [List.length_map]; exact seq_nat hq, .str ls[q], by rw [List.getElem?_map, List.getElem?_eq_getElem hq]; rfl, by rw [List.length_map]; omega, w5, hw5, by omega, ls.eraseIdx q, ps ++ [ls[q]], hl.pop (List.getElem?_eq_getElem hq), by rw [List.length_append]; simp; omega, rfl, map_erase _ _ _, by rw [List.map_append]; rfl⟩
/-! #### _law_history -/
abbrev s_law_history : Stmt := top 18
abbrev N_law_history : List Str := ["_law_rows", "_law_found", "_law_name", "_law_parents"]
abbrev P_law_history : List Str := ["_law_rows"]
abbrev ms_law_history : List Md := [.b]
theorem sc_law_history : FnScope N_law_history P_law_history (defScope s_law_history) := ⟨rfl, rfl, rfl, by decide +kernel, rfl, by decide +kernel, by decide +kernel⟩
theorem ok_law_history {P : Program} {w : World} {K : PySem.W.Frag} {mg : Str → Option Value} {base : Heap} {f : Addr} {fd : FuncData} {c_FellError c_NoName c_Taken c_NoChange c_History : Addr} (G : Gs K mg c_FellError c_NoName c_Taken c_NoChange c_History) (h0 : HsM P w K mg base (L2.CX P w) 4 c_History "add" P_History_add (toSp K ms_History_add (S_add c_History c_NoName c_Taken c_NoChange))) (h1 : HsI P w K mg base CX0 1 c_History P_History___init__ (toSp K ms_History___init__ (S_hinit c_History))) (X_NoChange : ExO P w K mg base "NoChange" c_NoChange "name") (X_NoName : ExO P w K mg base "NoName" c_NoName "name") (X_Taken : ExO P w K mg base "Taken" c_Taken "name") (K_History : ClF K mg "History" c_History) (nA_History_parents : NoAttr K c_History "parents") (F : Fun K "_law_history" "_law_history" s_law_history f fd) (mf : mg "_law_history" = some (.ref f)) :
    Hs P w K mg base CX0 5 "_law_history" P_law_history (toSp K ms_law_history (S_lhist c_History)) := by
  obtain ⟨f0, fd0, F0, M0, b0⟩ := h0
  obtain ⟨f1, fd1, F1, M1, b1⟩ := h1
  refine ⟨f, fd, ?_, mf, F.kp, F.binds (ps := P_law_history) fun _ _ _ _ _ _ us hl => match us, hl with | [_], _ => rfl⟩
  refine F.ok sc_law_history (fun vs H Q E h => toSp_len h) (fun cdv A outer s H vs Q E hr h => ?_)
  have hu := hr.units
  refine ⟨_, pss_cons (ps_set (i := 1) sc_law_history.nd rfl (by first | exact Or.inl rfl | exact Or.inr rfl) (pe_makeS0 (E := (fun _ => E0)) M1 F1 (hr.mono (by decide)) rfl G.x_History b1 (fun _ => fun _ _ _ _ _ _ h => False.elim h))) (pss_cons (ps_for PassesOwn.never rfl (pi_list (pv 0)) (pg_tup rfl (pgs_cons (pg_name (i := 2) sc_law_history.nd rfl (by first | exact Or.inl rfl | exact Or.inr rfl | exact .inr (.inl rfl) | exact .inr (.inr rfl))) (pgs_cons (pg_name (i := 3) sc_law_history.nd rfl (by first | exact Or.inl rfl | exact Or.inr rfl | exact .inr (.inl rfl) | exact .inr (.inr rfl))) (pgs_nil)))) (pss_one (ps_expr (pe_methS (E := (WE fun _ _ _ _ => False)) (pv 1) K_History.cl M0 F0 (hr.mono (by decide)) b0 (fun σ => passAt takes0 σ) (pa_cons (pv 2) (pa_cons (pe_callTy call_list_of rfl G.b_list (by decide +kernel) (pa_cons (pv 3) (pa_nil))) (pa_nil))))))) (pss_one (ps_ret (pv 1)))), ?_⟩
  refine run_body0 h (by decide) (fun as => ds_seq (ds_asg (de_makeC (X := W0) (E := (fun _ => E0)) (S := S_hinit c_History) (fun _ _ _ _ h => False.elim h) (da_nil)) 1) (ds_seq (ds_for (di_list (de_var 0)) (dg_tup (dgs_cons (dg_name 2) (dgs_cons (dg_name 3) (dgs_nil)))) (ds_drop (de_methS (X := W0) (E := (WE fun _ _ _ _ => False)) (S := S_add c_History c_NoName c_Taken c_NoChange) (fun _ _ _ _ h => False.elim h) (de_var 1) (da_cons (de_var 2) (da_cons (de_cb (dc_L1 l1_list) (da_cons (de_var 3) (da_nil))) (da_nil)))))) (ds_ret (de_var 1)))) (fun as hp hl => ?_)
  obtain ⟨hs, rfl, ho⟩ := hp
  refine sg fun U1 e1 => ?_
  simp (maxSteps := 3000000) only [rPar, rParM, riRange3, roI2, rLcO_L, isN_eq, notN_eq, rSlTu, riZip, riZipO, riListO, rMinDef, rFldG, rSetFG, rDGet, rDIn, rDPut, roLenD, roListD, roSortD, rAsgStar, rForK_L, rDisp1, rSortST, rMakeC_f, kD, vD, iD, keyDt, own, wr, gput, gfind, keyD, keyDt, id_eq, roSplit, roStr1, rSlSt, rSlBy, rRevL, TruD, rOrT, rAndT, rMake_g, roCatA, roRep, rMeth_f, rMeth_g, roOwnB_f, MakeQ_g, rMakeK, roIsC, isC_ins, rFld, rSetF, rXfn, rXf, lk_eq, putD, Dt.ins.injEq, Dt.exn.injEq, RleS, RMulS, RMulZ, roJoin, rRet, rRetN, rSeq, rIfS, rAsg, rVar, ofEn, rC, rOp, rUn, roP, rCB, rCons, rNil, rAndV, rOrV, rNotV, rB, rAnd, rOr, rNot, rIf, rTup, rLst, rDrop, rNext, rNever, look, frz, frzs, looks, held, roIsi, roF1, roL1, roNeg, rDNew, startE, ents, ent, csOf, unal, finds, RI0, RI, int_in, int_bl, len_ls, len_tu, len_st, len_by, at0, at1, at2, at3, ix30, ix31, ix32, eq_ii, ne_ii, eq_by, ne_by, notin_c, in_c, D.rChain, RIxA, roTupOf, RListOf, RListB, List.findSome?, List.getElem?_cons_zero, List.getElem?_cons_succ, List.getElem?_nil, List.set_cons_zero, List.set_cons_succ, List.length_cons, List.length_nil, List.map_cons, List.map_nil, List.replicate, List.nil_append, List.cons_append, List.append_nil, Option.some.injEq, exists_eq_left', exists_eq_left, exists_eq', exists_eq, true_and, and_true, Vl.d.injEq, Vl.nw.injEq, Vl.sl.injEq, Dt.int.injEq, Dt.bl.injEq, Dt.str.injEq, Dt.lst.injEq, Dt.tup.injEq, Dt.byt.injEq, Dt.ty.injEq, Dt.ref.injEq, En.val.injEq, En.mu.injEq, En.bor.injEq, List.cons.injEq, Nat.reduceLT, Nat.reduceAdd, Nat.reduceSub, Nat.zero_add, and_self, ↓reduceIte, Bool.false_eq_true, reduceCtorEq, false_and, and_false, exists_const, exists_false, or_false, false_or, Nat.reduceEqDiff, Option.map_some, Option.getD_some, Option.getD_none, and_assoc, exists_and_left, exists_and_right, rCall_f, rCall_g, f_pre, f_post, g_pre, g_post, g_exc, Prod.forall, Prod.exists, Prod.mk.injEq, exists_const, forall_const, argsD, conP, entD, remP, flagsP, flagAt, putP, aft, Ct.dt.injEq, forall_eq, forall_eq', forall_const, implies_true, false_implies, and_imp, forall_exists_index, forall_apply_eq_imp_iff, List.length_append, retD, rFor_L, asgLc, rLc_L, riList, riTup, riStr, riRange1, riRange2, riEnum, riRev, rgName, rgTup, rgCons, rgNil, wipeE, unw, rYes, rAsgG, rAsgSub, roSetL, rBM, rBM0, roAppend, roOwn0, isa_no, isa_bl, isa_in, isa_st, isa_by, isa_ls, isa_tu, isa_di, beq_self_eq_true, Bool.or_true, Bool.true_or, Bool.or_false, Bool.false_or, Bool.or_self, Bool.not_true, Bool.not_false, Bool.and_true, Bool.true_and, Bool.and_false, Bool.false_and, String.reduceBEq, String.reduceEq, not_true_eq_false, not_false_eq_true, rSlL', roNone, roSome, roCat, D.trk, rRaise0, rRaise1, excD, rTry, rEx, wMixD, goneD, List.isEmpty_nil, if_true, List.length_singleton, Nat.reduceLeDiff, Nat.reducePow, Int.reducePow, Int.reduceLT, Int.reduceLE, Int.reduceNeg, Int.reduceToNat, S_draw, S_one, items, at4, at5, at6, S_law, rFrz, ms_law_well, ms_law_draw, ms_law_one, ms_law_names, ms_law_plan, ms_law_history, S_lhist, ms_History___init__, S_hinit]
  intro p
  subst e1
  refine sg fun U1 e1 => ?_
  simp (maxSteps := 3000000) only [rPar, rParM, riRange3, roI2, rLcO_L, isN_eq, notN_eq, rSlTu, riZip, riZipO, riListO, rMinDef, rFldG, rSetFG, rDGet, rDIn, rDPut, roLenD, roListD, roSortD, rAsgStar, rForK_L, rDisp1, rSortST, rMakeC_f, kD, vD, iD, keyDt, own, wr, gput, gfind, keyD, keyDt, id_eq, roSplit, roStr1, rSlSt, rSlBy, rRevL, TruD, rOrT, rAndT, rMake_g, roCatA, roRep, rMeth_f, rMeth_g, roOwnB_f, MakeQ_g, rMakeK, roIsC, isC_ins, rFld, rSetF, rXfn, rXf, lk_eq, putD, Dt.ins.injEq, Dt.exn.injEq, RleS, RMulS, RMulZ, roJoin, rRet, rRetN, rSeq, rIfS, rAsg, rVar, ofEn, rC, rOp, rUn, roP, rCB, rCons, rNil, rAndV, rOrV, rNotV, rB, rAnd, rOr, rNot, rIf, rTup, rLst, rDrop, rNext, rNever, look, frz, frzs, looks, held, roIsi, roF1, roL1, roNeg, rDNew, startE, ents, ent, csOf, unal, finds, RI0, RI, int_in, int_bl, len_ls, len_tu, len_st, len_by, at0, at1, at2, at3, ix30, ix31, ix32, eq_ii, ne_ii, eq_by, ne_by, notin_c, in_c, D.rChain, RIxA, roTupOf, RListOf, RListB, List.findSome?, List.getElem?_cons_zero, List.getElem?_cons_succ, List.getElem?_nil, List.set_cons_zero, List.set_cons_succ, List.length_cons, List.length_nil, List.map_cons, List.map_nil, List.replicate, List.nil_append, List.cons_append, List.append_nil, Option.some.injEq, exists_eq_left', exists_eq_left, exists_eq', exists_eq, true_and, and_true, Vl.d.injEq, Vl.nw.injEq, Vl.sl.injEq, Dt.int.injEq, Dt.bl.injEq, Dt.str.injEq, Dt.lst.injEq, Dt.tup.injEq, Dt.byt.injEq, Dt.ty.injEq, Dt.ref.injEq, En.val.injEq, En.mu.injEq, En.bor.injEq, List.cons.injEq, Nat.reduceLT, Nat.reduceAdd, Nat.reduceSub, Nat.zero_add, and_self, ↓reduceIte, Bool.false_eq_true, reduceCtorEq, false_and, and_false, exists_const, exists_false, or_false, false_or, Nat.reduceEqDiff, Option.map_some, Option.getD_some, Option.getD_none, and_assoc, exists_and_left, exists_and_right, rCall_f, rCall_g, f_pre, f_post, g_pre, g_post, g_exc, Prod.forall, Prod.exists, Prod.mk.injEq, exists_const, forall_const, argsD, conP, entD, remP, flagsP, flagAt, putP, aft, Ct.dt.injEq, forall_eq, forall_eq', forall_const, implies_true, false_implies, and_imp, forall_exists_index, forall_apply_eq_imp_iff, List.length_append, retD, rFor_L, asgLc, rLc_L, riList, riTup, riStr, riRange1, riRange2, riEnum, riRev, rgName, rgTup, rgCons, rgNil, wipeE, unw, rYes, rAsgG, rAsgSub, roSetL, rBM, rBM0, roAppend, roOwn0, isa_no, isa_bl, isa_in, isa_st, isa_by, isa_ls, isa_tu, isa_di, beq_self_eq_true, Bool.or_true, Bool.true_or, Bool.or_false, Bool.false_or, Bool.or_self, Bool.not_true, Bool.not_false, Bool.and_true, Bool.true_and, Bool.and_false, Bool.false_and, String.reduceBEq, String.reduceEq, not_true_eq_false, not_false_eq_true, rSlL', roNone, roSome, roCat, D.trk, rRaise0, rRaise1, excD, rTry, rEx, wMixD, goneD, List.isEmpty_nil, if_true, List.length_singleton, Nat.reduceLeDiff, Nat.reducePow, Int.reducePow, Int.reduceLT, Int.reduceLE, Int.reduceNeg, Int.reduceToNat, S_draw, S_one, items, at4, at5, at6, S_law, rFrz, ms_law_well, ms_law_draw, ms_law_one, ms_law_names, ms_law_plan, ms_law_history, S_lhist, ms_History_add, S_add, exH, faH, exH0, keptK_hk, lkH_kept, lkH_sk, lkH_sp, lkH_add, lkH_all, lkH_has, lkH_par, gf_1, K_History.cl, nA_History_parents, histC, List.take_succ_cons, List.take_zero]
  refine lp_of (fun i η' => ∃ c2 c3, η' = [some (.bor (.lst (rowsD hs))), some (.mu none (histC c_History p (hs.take i))), c2, c3]) ⟨_, _, rfl⟩ ?_ ?_
  · rintro i x η' hx ⟨c2, c3, rfl⟩
    obtain ⟨s, ps, hq, rfl⟩ := rows_get hx
    have hno := ho.no hq
    have hnm := ho.nm s (List.mem_of_getElem? (hNames_at hq))
    have h15 := ho.l15
    have h3 := ho.p3 i s ps hq
    simp (maxSteps := 3000000) only [rPar, rParM, riRange3, roI2, rLcO_L, isN_eq, notN_eq, rSlTu, riZip, riZipO, riListO, rMinDef, rFldG, rSetFG, rDGet, rDIn, rDPut, roLenD, roListD, roSortD, rAsgStar, rForK_L, rDisp1, rSortST, rMakeC_f, kD, vD, iD, keyDt, own, wr, gput, gfind, keyD, keyDt, id_eq, roSplit, roStr1, rSlSt, rSlBy, rRevL, TruD, rOrT, rAndT, rMake_g, roCatA, roRep, rMeth_f, rMeth_g, roOwnB_f, MakeQ_g, rMakeK, roIsC, isC_ins, rFld, rSetF, rXfn, rXf, lk_eq, putD, Dt.ins.injEq, Dt.exn.injEq, RleS, RMulS, RMulZ, roJoin, rRet, rRetN, rSeq, rIfS, rAsg, rVar, ofEn, rC, rOp, rUn, roP, rCB, rCons, rNil, rAndV, rOrV, rNotV, rB, rAnd, rOr, rNot, rIf, rTup, rLst, rDrop, rNext, rNever, look, frz, frzs, looks, held, roIsi, roF1, roL1, roNeg, rDNew, startE, ents, ent, csOf, unal, finds, RI0, RI, int_in, int_bl, len_ls, len_tu, len_st, len_by, at0, at1, at2, at3, ix30, ix31, ix32, eq_ii, ne_ii, eq_by, ne_by, notin_c, in_c, D.rChain, RIxA, roTupOf, RListOf, RListB, List.findSome?, List.getElem?_cons_zero, List.getElem?_cons_succ, List.getElem?_nil, List.set_cons_zero, List.set_cons_succ, List.length_cons, List.length_nil, List.map_cons, List.map_nil, List.replicate, List.nil_append, List.cons_append, List.append_nil, Option.some.injEq, exists_eq_left', exists_eq_left, exists_eq', exists_eq, true_and, and_true, Vl.d.injEq, Vl.nw.injEq, Vl.sl.injEq, Dt.int.injEq, Dt.bl.injEq, Dt.str.injEq, Dt.lst.injEq, Dt.tup.injEq, Dt.byt.injEq, Dt.ty.injEq, Dt.ref.injEq, En.val.injEq, En.mu.injEq, En.bor.injEq, List.cons.injEq, Nat.reduceLT, Nat.reduceAdd, Nat.reduceSub, Nat.zero_add, and_self, ↓reduceIte, Bool.false_eq_true, reduceCtorEq, false_and, and_false, exists_const, exists_false, or_false, false_or, Nat.reduceEqDiff, Option.map_some, Option.getD_some, Option.getD_none, and_assoc, exists_and_left, exists_and_right, rCall_f, rCall_g, f_pre, f_post, g_pre, g_post, g_exc, Prod.forall, Prod.exists, Prod.mk.injEq, exists_const, forall_const, argsD, conP, entD, remP, flagsP, flagAt, putP, aft, Ct.dt.injEq, forall_eq, forall_eq', forall_const, implies_true, false_implies, and_imp, forall_exists_index, forall_apply_eq_imp_iff, List.length_append, retD, rFor_L, asgLc, rLc_L, riList, riTup, riStr, riRange1, riRange2, riEnum, riRev, rgName, rgTup, rgCons, rgNil, wipeE, unw, rYes, rAsgG, rAsgSub, roSetL, rBM, rBM0, roAppend, roOwn0, isa_no, isa_bl, isa_in, isa_st, isa_by, isa_ls, isa_tu, isa_di, beq_self_eq_true, Bool.or_true, Bool.true_or, Bool.or_false, Bool.false_or, Bool.or_self, Bool.not_true, Bool.not_false, Bool.and_true, Bool.true_and, Bool.and_false, Bool.false_and, String.reduceBEq, String.reduceEq, not_true_eq_false, not_false_eq_true, rSlL', roNone, roSome, roCat, D.trk, rRaise0, rRaise1, excD, rTry, rEx, wMixD, goneD, List.isEmpty_nil, if_true, List.length_singleton, Nat.reduceLeDiff, Nat.reducePow, Int.reducePow, Int.reduceLT, Int.reduceLE, Int.reduceNeg, Int.reduceToNat, S_draw, S_one, items, at4, at5, at6, S_law, rFrz, ms_law_well, ms_law_draw, ms_law_one, ms_law_names, ms_law_plan, ms_law_history, S_lhist, ms_History_add, S_add, exH, faH, exH0, keptK_hk, lkH_kept, lkH_sk, lkH_sp, lkH_add, lkH_all, lkH_has, lkH_par, gf_1, K_History.cl, nA_History_parents, histC, List.take_succ_cons, List.take_zero]
    obtain ⟨s', e, hsl⟩ := name_str hnm
    cases e
    refine ⟨rfl, rfl, by omega, ⟨rfl, fun ds e => ?_⟩, by rw [List.length_take]; omega, ?_, ?_⟩
    · cases e
      refine ⟨by rw [List.length_map]; omega, fun x hx => ?_⟩
      obtain ⟨u, _, rfl⟩ := List.mem_map.mp hx
      rfl
    · rintro a b p' hs' s' ps' e1 rfl e3 _ rfl rfl
      obtain ⟨rfl, e2⟩ := histC_inj (C := c_History) (p := p) (p' := a) (hs := hs.take i) (hs' := hs') e1
      have e4 := hk_inj e2
      subst e4
      rw [← hs_inj e3, take_succ_at hq]
    · rintro a b p' hs' d e e1 rfl rfl e4
      obtain ⟨rfl, e2⟩ := histC_inj (C := c_History) (p := p) (p' := p') (hs := hs.take i) (hs' := hs') e1
      rw [← hk_inj e2, hno] at e4
      cases e4
  rintro η' ⟨c2, c3, rfl⟩
  show U1 _
  subst e1
  simp (maxSteps := 3000000) only [rPar, rParM, riRange3, roI2, rLcO_L, isN_eq, notN_eq, rSlTu, riZip, riZipO, riListO, rMinDef, rFldG, rSetFG, rDGet, rDIn, rDPut, roLenD, roListD, roSortD, rAsgStar, rForK_L, rDisp1, rSortST, rMakeC_f, kD, vD, iD, keyDt, own, wr, gput, gfind, keyD, keyDt, id_eq, roSplit, roStr1, rSlSt, rSlBy, rRevL, TruD, rOrT, rAndT, rMake_g, roCatA, roRep, rMeth_f, rMeth_g, roOwnB_f, MakeQ_g, rMakeK, roIsC, isC_ins, rFld, rSetF, rXfn, rXf, lk_eq, putD, Dt.ins.injEq, Dt.exn.injEq, RleS, RMulS, RMulZ, roJoin, rRet, rRetN, rSeq, rIfS, rAsg, rVar, ofEn, rC, rOp, rUn, roP, rCB, rCons, rNil, rAndV, rOrV, rNotV, rB, rAnd, rOr, rNot, rIf, rTup, rLst, rDrop, rNext, rNever, look, frz, frzs, looks, held, roIsi, roF1, roL1, roNeg, rDNew, startE, ents, ent, csOf, unal, finds, RI0, RI, int_in, int_bl, len_ls, len_tu, len_st, len_by, at0, at1, at2, at3, ix30, ix31, ix32, eq_ii, ne_ii, eq_by, ne_by, notin_c, in_c, D.rChain, RIxA, roTupOf, RListOf, RListB, List.findSome?, List.getElem?_cons_zero, List.getElem?_cons_succ, List.getElem?_nil, List.set_cons_zero, List.set_cons_succ, List.length_cons, List.length_nil, List.map_cons, List.map_nil, List.replicate, List.nil_append, List.cons_append, List.append_nil, Option.some.injEq, exists_eq_left', exists_eq_left, exists_eq', exists_eq, true_and, and_true, Vl.d.injEq, Vl.nw.injEq, Vl.sl.injEq, Dt.int.injEq, Dt.bl.injEq, Dt.str.injEq, Dt.lst.injEq, Dt.tup.injEq, Dt.byt.injEq, Dt.ty.injEq, Dt.ref.injEq, En.val.injEq, En.mu.injEq, En.bor.injEq, List.cons.injEq, Nat.reduceLT, Nat.reduceAdd, Nat.reduceSub, Nat.zero_add, and_self, ↓reduceIte, Bool.false_eq_true, reduceCtorEq, false_and, and_false, exists_const, exists_false, or_false, false_or, Nat.reduceEqDiff, Option.map_some, Option.getD_some, Option.getD_none, and_assoc, exists_and_left, exists_and_right, rCall_f, rCall_g, f_pre, f_post, g_pre, g_post, g_exc, Prod.forall, Prod.exists, Prod.mk.injEq, exists_const, forall_const, argsD, conP, entD, remP, flagsP, flagAt, putP, aft, Ct.dt.injEq, forall_eq, forall_eq', forall_const, implies_true, false_implies, and_imp, forall_exists_index, forall_apply_eq_imp_iff, List.length_append, retD, rFor_L, asgLc, rLc_L, riList, riTup, riStr, riRange1, riRange2, riEnum, riRev, rgName, rgTup, rgCons, rgNil, wipeE, unw, rYes, rAsgG, rAsgSub, roSetL, rBM, rBM0, roAppend, roOwn0, isa_no, isa_bl, isa_in, isa_st, isa_by, isa_ls, isa_tu, isa_di, beq_self_eq_true, Bool.or_true, Bool.true_or, Bool.or_false, Bool.false_or, Bool.or_self, Bool.not_true, Bool.not_false, Bool.and_true, Bool.true_and, Bool.and_false, Bool.false_and, String.reduceBEq, String.reduceEq, not_true_eq_false, not_false_eq_true, rSlL', roNone, roSome, roCat, D.trk, rRaise0, rRaise1, excD, rTry, rEx, wMixD, goneD, List.isEmpty_nil, if_true, List.length_singleton, Nat.reduceLeDiff, Nat.reducePow, Int.reducePow, Int.reduceLT, Int.reduceLE, Int.reduceNeg, Int.reduceToNat, S_draw, S_one, items, at4, at5, at6, S_law, rFrz, ms_law_well, ms_law_draw, ms_law_one, ms_law_names, ms_law_plan, ms_law_history, S_lhist, ms_History_add, S_add, exH, faH, exH0, keptK_hk, lkH_kept, lkH_sk, lkH_sp, lkH_add, lkH_all, lkH_has, lkH_par, gf_1, K_History.cl, nA_History_parents, histC, List.take_succ_cons, List.take_zero]
  exact ⟨p, hs, rfl, by rw [rowsD_len, List.take_length]⟩
/-! #### _law_closures -/
abbrev s_law_closures : Stmt := top 19
abbrev N_law_closures : List Str := ["_law_rows", "_law_found", "_law_name", "_law_parents", "_law_some", "_law_parent"]
abbrev P_law_closures : List Str := ["_law_rows"]
abbrev ms_law_closures : List Md := [.b]
theorem sc_law_closures : FnScope N_law_closures P_law_closures (defScope s_law_closures) := ⟨rfl, rfl, rfl, by decide +kernel, rfl, by decide +kernel, by decide +kernel⟩
theorem ok_law_closures {P : Program} {w : World} {K : PySem.W.Frag} {mg : Str → Option Value} {base : Heap} {f : Addr} {fd : FuncData} {c_FellError c_NoName c_Taken c_NoChange c_History : Addr} (G : Gs K mg c_FellError c_NoName c_Taken c_NoChange c_History) (X_NoChange : ExO P w K mg base "NoChange" c_NoChange "name") (X_NoName : ExO P w K mg base "NoName" c_NoName "name") (X_Taken : ExO P w K mg base "Taken" c_Taken "name") (K_History : ClF K mg "History" c_History) (nA_History_parents : NoAttr K c_History "parents") (F : Fun K "_law_closures" "_law_closures" s_law_closures f fd) (mf : mg "_law_closures" = some (.ref f)) :
    Hs P w K mg base CX0 1 "_law_closures" P_law_closures (toSp K ms_law_closures (S_lclo)) := by
  refine ⟨f, fd, ?_, mf, F.kp, F.binds (ps := P_law_closures) fun _ _ _ _ _ _ us hl => match us, hl with | [_], _ => rfl⟩
  refine F.ok sc_law_closures (fun vs H Q E h => toSp_len h) (fun cdv A outer s H vs Q E hr h => ?_)
  have hu := hr.units
  refine ⟨_, pss_cons (ps_set (i := 1) sc_law_closures.nd rfl (by first | exact Or.inl rfl | exact Or.inr rfl) (pe_dnewK)) (pss_cons (ps_for PassesOwn.never rfl (pi_list (pv 0)) (pg_tup rfl (pgs_cons (pg_name (i := 2) sc_law_closures.nd rfl (by first | exact Or.inl rfl | exact Or.inr rfl | exact .inr (.inl rfl) | exact .inr (.inr rfl))) (pgs_cons (pg_name (i := 3) sc_law_closures.nd rfl (by first | exact Or.inl rfl | exact Or.inr rfl | exact .inr (.inl rfl) | exact .inr (.inr rfl))) (pgs_nil)))) (pss_cons (ps_set (i := 4) sc_law_closures.nd rfl (by first | exact Or.inl rfl | exact Or.inr rfl) (pe_lst (pa_cons (pv 2) (pa_nil)))) (pss_cons (ps_for PassesOwn.never rfl (pi_list (pv 3)) (pg_name (i := 5) sc_law_closures.nd rfl (by first | exact Or.inl rfl | exact Or.inr rfl | exact .inr (.inl rfl) | exact .inr (.inr rfl))) (pss_one (ps_set (i := 4) sc_law_closures.nd rfl (by first | exact Or.inl rfl | exact Or.inr rfl) (pe_op op_cat (pv 4) (pe_dget (hu1 hu) (pv 1) (pv 5) (fun _ _ => rfl)))))) (pss_one (ps_dput (hu1 hu) (pv 1) (pv 2) ((pe_sortST rfl rfl G.b_sorted rfl G.b_set (pv 4))) (by rfl)))))) (pss_one (ps_ret (pv 1)))), ?_⟩
  refine run_body0 h (by decide) (fun as => ds_seq (ds_asg (de_dnew) 1) (ds_seq (ds_for (di_list (de_var 0)) (dg_tup (dgs_cons (dg_name 2) (dgs_cons (dg_name 3) (dgs_nil)))) (ds_seq (ds_asg (de_lst (da_cons (de_var 2) (da_nil))) 4) (ds_seq (ds_for (di_list (de_var 3)) (dg_name 5) (ds_asg (de_op (d2_cat) (de_var 4) (de_dget (de_var 1) (de_var 5))) 4)) (ds_dput (de_var 1) (de_var 2) (de_sortST (de_var 4)))))) (ds_ret (de_var 1)))) (fun as hp hl => ?_)
  obtain ⟨hs, rfl, ho⟩ := hp
  refine sg fun U1 e1 => ?_
  simp (maxSteps := 3000000) only [rPar, rParM, riRange3, roI2, rLcO_L, isN_eq, notN_eq, rSlTu, riZip, riZipO, riListO, rMinDef, rFldG, rSetFG, rDGet, rDIn, rDPut, roLenD, roListD, roSortD, rAsgStar, rForK_L, rDisp1, rSortST, rMakeC_f, kD, vD, iD, keyDt, own, wr, gput, gfind, keyD, keyDt, id_eq, roSplit, roStr1, rSlSt, rSlBy, rRevL, TruD, rOrT, rAndT, rMake_g, roCatA, roRep, rMeth_f, rMeth_g, roOwnB_f, MakeQ_g, rMakeK, roIsC, isC_ins, rFld, rSetF, rXfn, rXf, lk_eq, putD, Dt.ins.injEq, Dt.exn.injEq, RleS, RMulS, RMulZ, roJoin, rRet, rRetN, rSeq, rIfS, rAsg, rVar, ofEn, rC, rOp, rUn, roP, rCB, rCons, rNil, rAndV, rOrV, rNotV, rB, rAnd, rOr, rNot, rIf, rTup, rLst, rDrop, rNext, rNever, look, frz, frzs, looks, held, roIsi, roF1, roL1, roNeg, rDNew, startE, ents, ent, csOf, unal, finds, RI0, RI, int_in, int_bl, len_ls, len_tu, len_st, len_by, at0, at1, at2, at3, ix30, ix31, ix32, eq_ii, ne_ii, eq_by, ne_by, notin_c, in_c, D.rChain, RIxA, roTupOf, RListOf, RListB, List.findSome?, List.getElem?_cons_zero, List.getElem?_cons_succ, List.getElem?_nil, List.set_cons_zero, List.set_cons_succ, List.length_cons, List.length_nil, List.map_cons, List.map_nil, List.replicate, List.nil_append, List.cons_append, List.append_nil, Option.some.injEq, exists_eq_left', exists_eq_left, exists_eq', exists_eq, true_and, and_true, Vl.d.injEq, Vl.nw.injEq, Vl.sl.injEq, Dt.int.injEq, Dt.bl.injEq, Dt.str.injEq, Dt.lst.injEq, Dt.tup.injEq, Dt.byt.injEq, Dt.ty.injEq, Dt.ref.injEq, En.val.injEq, En.mu.injEq, En.bor.injEq, List.cons.injEq, Nat.reduceLT, Nat.reduceAdd, Nat.reduceSub, Nat.zero_add, and_self, ↓reduceIte, Bool.false_eq_true, reduceCtorEq, false_and, and_false, exists_const, exists_false, or_false, false_or, Nat.reduceEqDiff, Option.map_some, Option.getD_some, Option.getD_none, and_assoc, exists_and_left, exists_and_right, rCall_f, rCall_g, f_pre, f_post, g_pre, g_post, g_exc, Prod.forall, Prod.exists, Prod.mk.injEq, exists_const, forall_const, argsD, conP, entD, remP, flagsP, flagAt, putP, aft, Ct.dt.injEq, forall_eq, forall_eq', forall_const, implies_true, false_implies, and_imp, forall_exists_index, forall_apply_eq_imp_iff, List.length_append, retD, rFor_L, asgLc, rLc_L, riList, riTup, riStr, riRange1, riRange2, riEnum, riRev, rgName, rgTup, rgCons, rgNil, wipeE, unw, rYes, rAsgG, rAsgSub, roSetL, rBM, rBM0, roAppend, roOwn0, isa_no, isa_bl, isa_in, isa_st, isa_by, isa_ls, isa_tu, isa_di, beq_self_eq_true, Bool.or_true, Bool.true_or, Bool.or_false, Bool.false_or, Bool.or_self, Bool.not_true, Bool.not_false, Bool.and_true, Bool.true_and, Bool.and_false, Bool.false_and, String.reduceBEq, String.reduceEq, not_true_eq_false, not_false_eq_true, rSlL', roNone, roSome, roCat, D.trk, rRaise0, rRaise1, excD, rTry, rEx, wMixD, goneD, List.isEmpty_nil, if_true, List.length_singleton, Nat.reduceLeDiff, Nat.reducePow, Int.reducePow, Int.reduceLT, Int.reduceLE, Int.reduceNeg, Int.reduceToNat, S_draw, S_one, items, at4, at5, at6, S_law, rFrz, ms_law_well, ms_law_draw, ms_law_one, ms_law_names, ms_law_plan, ms_law_history, ms_law_closures, S_lclo]
  subst e1
  refine sg fun U1 e1 => ?_
  simp (maxSteps := 3000000) only [rPar, rParM, riRange3, roI2, rLcO_L, isN_eq, notN_eq, rSlTu, riZip, riZipO, riListO, rMinDef, rFldG, rSetFG, rDGet, rDIn, rDPut, roLenD, roListD, roSortD, rAsgStar, rForK_L, rDisp1, rSortST, rMakeC_f, kD, vD, iD, keyDt, own, wr, gput, gfind, keyD, keyDt, id_eq, roSplit, roStr1, rSlSt, rSlBy, rRevL, TruD, rOrT, rAndT, rMake_g, roCatA, roRep, rMeth_f, rMeth_g, roOwnB_f, MakeQ_g, rMakeK, roIsC, isC_ins, rFld, rSetF, rXfn, rXf, lk_eq, putD, Dt.ins.injEq, Dt.exn.injEq, RleS, RMulS, RMulZ, roJoin, rRet, rRetN, rSeq, rIfS, rAsg, rVar, ofEn, rC, rOp, rUn, roP, rCB, rCons, rNil, rAndV, rOrV, rNotV, rB, rAnd, rOr, rNot, rIf, rTup, rLst, rDrop, rNext, rNever, look, frz, frzs, looks, held, roIsi, roF1, roL1, roNeg, rDNew, startE, ents, ent, csOf, unal, finds, RI0, RI, int_in, int_bl, len_ls, len_tu, len_st, len_by, at0, at1, at2, at3, ix30, ix31, ix32, eq_ii, ne_ii, eq_by, ne_by, notin_c, in_c, D.rChain, RIxA, roTupOf, RListOf, RListB, List.findSome?, List.getElem?_cons_zero, List.getElem?_cons_succ, List.getElem?_nil, List.set_cons_zero, List.set_cons_succ, List.length_cons, List.length_nil, List.map_cons, List.map_nil, List.replicate, List.nil_append, List.cons_append, List.append_nil, Option.some.injEq, exists_eq_left', exists_eq_left, exists_eq', exists_eq, true_and, and_true, Vl.d.injEq, Vl.nw.injEq, Vl.sl.injEq, Dt.int.injEq, Dt.bl.injEq, Dt.str.injEq, Dt.lst.injEq, Dt.tup.injEq, Dt.byt.injEq, Dt.ty.injEq, Dt.ref.injEq, En.val.injEq, En.mu.injEq, En.bor.injEq, List.cons.injEq, Nat.reduceLT, Nat.reduceAdd, Nat.reduceSub, Nat.zero_add, and_self, ↓reduceIte, Bool.false_eq_true, reduceCtorEq, false_and, and_false, exists_const, exists_false, or_false, false_or, Nat.reduceEqDiff, Option.map_some, Option.getD_some, Option.getD_none, and_assoc, exists_and_left, exists_and_right, rCall_f, rCall_g, f_pre, f_post, g_pre, g_post, g_exc, Prod.forall, Prod.exists, Prod.mk.injEq, exists_const, forall_const, argsD, conP, entD, remP, flagsP, flagAt, putP, aft, Ct.dt.injEq, forall_eq, forall_eq', forall_const, implies_true, false_implies, and_imp, forall_exists_index, forall_apply_eq_imp_iff, List.length_append, retD, rFor_L, asgLc, rLc_L, riList, riTup, riStr, riRange1, riRange2, riEnum, riRev, rgName, rgTup, rgCons, rgNil, wipeE, unw, rYes, rAsgG, rAsgSub, roSetL, rBM, rBM0, roAppend, roOwn0, isa_no, isa_bl, isa_in, isa_st, isa_by, isa_ls, isa_tu, isa_di, beq_self_eq_true, Bool.or_true, Bool.true_or, Bool.or_false, Bool.false_or, Bool.or_self, Bool.not_true, Bool.not_false, Bool.and_true, Bool.true_and, Bool.and_false, Bool.false_and, String.reduceBEq, String.reduceEq, not_true_eq_false, not_false_eq_true, rSlL', roNone, roSome, roCat, D.trk, rRaise0, rRaise1, excD, rTry, rEx, wMixD, goneD, List.isEmpty_nil, if_true, List.length_singleton, Nat.reduceLeDiff, Nat.reducePow, Int.reducePow, Int.reduceLT, Int.reduceLE, Int.reduceNeg, Int.reduceToNat, S_draw, S_one, items, at4, at5, at6, S_law, rFrz, ms_law_well, ms_law_draw, ms_law_one, ms_law_names, ms_law_plan, ms_law_history, ms_law_closures, S_lclo]
  refine lp_of (fun i η' => ∃ cl c2 c3 c4 c5, CloI hs cl i ∧ η' = [some (.bor (.lst (rowsD hs))), some (.mu none (.dt (.dct (hk cl)))), c2, c3, c4, c5]) ⟨[], _, _, _, _, .nil, rfl⟩ ?_ ?_
  rotate_left
  · rintro η' ⟨cl, c2, c3, c4, c5, hcl, rfl⟩
    rw [rowsD_len] at hcl
    show U1 _
    subst e1
    simp (maxSteps := 3000000) only [rPar, rParM, riRange3, roI2, rLcO_L, isN_eq, notN_eq, rSlTu, riZip, riZipO, riListO, rMinDef, rFldG, rSetFG, rDGet, rDIn, rDPut, roLenD, roListD, roSortD, rAsgStar, rForK_L, rDisp1, rSortST, rMakeC_f, kD, vD, iD, keyDt, own, wr, gput, gfind, keyD, keyDt, id_eq, roSplit, roStr1, rSlSt, rSlBy, rRevL, TruD, rOrT, rAndT, rMake_g, roCatA, roRep, rMeth_f, rMeth_g, roOwnB_f, MakeQ_g, rMakeK, roIsC, isC_ins, rFld, rSetF, rXfn, rXf, lk_eq, putD, Dt.ins.injEq, Dt.exn.injEq, RleS, RMulS, RMulZ, roJoin, rRet, rRetN, rSeq, rIfS, rAsg, rVar, ofEn, rC, rOp, rUn, roP, rCB, rCons, rNil, rAndV, rOrV, rNotV, rB, rAnd, rOr, rNot, rIf, rTup, rLst, rDrop, rNext, rNever, look, frz, frzs, looks, held, roIsi, roF1, roL1, roNeg, rDNew, startE, ents, ent, csOf, unal, finds, RI0, RI, int_in, int_bl, len_ls, len_tu, len_st, len_by, at0, at1, at2, at3, ix30, ix31, ix32, eq_ii, ne_ii, eq_by, ne_by, notin_c, in_c, D.rChain, RIxA, roTupOf, RListOf, RListB, List.findSome?, List.getElem?_cons_zero, List.getElem?_cons_succ, List.getElem?_nil, List.set_cons_zero, List.set_cons_succ, List.length_cons, List.length_nil, List.map_cons, List.map_nil, List.replicate, List.nil_append, List.cons_append, List.append_nil, Option.some.injEq, exists_eq_left', exists_eq_left, exists_eq', exists_eq, true_and, and_true, Vl.d.injEq, Vl.nw.injEq, Vl.sl.injEq, Dt.int.injEq, Dt.bl.injEq, Dt.str.injEq, Dt.lst.injEq, Dt.tup.injEq, Dt.byt.injEq, Dt.ty.injEq, Dt.ref.injEq, En.val.injEq, En.mu.injEq, En.bor.injEq, List.cons.injEq, Nat.reduceLT, Nat.reduceAdd, Nat.reduceSub, Nat.zero_add, and_self, ↓reduceIte, Bool.false_eq_true, reduceCtorEq, false_and, and_false, exists_const, exists_false, or_false, false_or, Nat.reduceEqDiff, Option.map_some, Option.getD_some, Option.getD_none, and_assoc, exists_and_left, exists_and_right, rCall_f, rCall_g, f_pre, f_post, g_pre, g_post, g_exc, Prod.forall, Prod.exists, Prod.mk.injEq, exists_const, forall_const, argsD, conP, entD, remP, flagsP, flagAt, putP, aft, Ct.dt.injEq, forall_eq, forall_eq', forall_const, implies_true, false_implies, and_imp, forall_exists_index, forall_apply_eq_imp_iff, List.length_append, retD, rFor_L, asgLc, rLc_L, riList, riTup, riStr, riRange1, riRange2, riEnum, riRev, rgName, rgTup, rgCons, rgNil, wipeE, unw, rYes, rAsgG, rAsgSub, roSetL, rBM, rBM0, roAppend, roOwn0, isa_no, isa_bl, isa_in, isa_st, isa_by, isa_ls, isa_tu, isa_di, beq_self_eq_true, Bool.or_true, Bool.true_or, Bool.or_false, Bool.false_or, Bool.or_self, Bool.not_true, Bool.not_false, Bool.and_true, Bool.true_and, Bool.and_false, Bool.false_and, String.reduceBEq, String.reduceEq, not_true_eq_false, not_false_eq_true, rSlL', roNone, roSome, roCat, D.trk, rRaise0, rRaise1, excD, rTry, rEx, wMixD, goneD, List.isEmpty_nil, if_true, List.length_singleton, Nat.reduceLeDiff, Nat.reducePow, Int.reducePow, Int.reduceLT, Int.reduceLE, Int.reduceNeg, Int.reduceToNat, S_draw, S_one, items, at4, at5, at6, S_law, rFrz, ms_law_well, ms_law_draw, ms_law_one, ms_law_names, ms_law_plan, ms_law_history, ms_law_closures, S_lclo]
    exact ⟨hs, rfl, cl, hcl, rfl⟩
  rintro i x η' hx ⟨cl, c2, c3, c4, c5, hcl, rfl⟩
  obtain ⟨s, ps, hq, rfl⟩ := rows_get hx
  simp (maxSteps := 3000000) only [rPar, rParM, riRange3, roI2, rLcO_L, isN_eq, notN_eq, rSlTu, riZip, riZipO, riListO, rMinDef, rFldG, rSetFG, rDGet, rDIn, rDPut, roLenD, roListD, roSortD, rAsgStar, rForK_L, rDisp1, rSortST, rMakeC_f, kD, vD, iD, keyDt, own, wr, gput, gfind, keyD, keyDt, id_eq, roSplit, roStr1, rSlSt, rSlBy, rRevL, TruD, rOrT, rAndT, rMake_g, roCatA, roRep, rMeth_f, rMeth_g, roOwnB_f, MakeQ_g, rMakeK, roIsC, isC_ins, rFld, rSetF, rXfn, rXf, lk_eq, putD, Dt.ins.injEq, Dt.exn.injEq, RleS, RMulS, RMulZ, roJoin, rRet, rRetN, rIfS, rAsg, rVar, ofEn, rC, rOp, rUn, roP, rCB, rCons, rNil, rAndV, rOrV, rNotV, rB, rAnd, rOr, rNot, rIf, rTup, rLst, rDrop, rNext, rNever, look, frz, frzs, looks, held, roIsi, roF1, roL1, roNeg, rDNew, startE, ents, ent, csOf, unal, finds, RI0, RI, int_in, int_bl, len_ls, len_tu, len_st, len_by, at0, at1, at2, at3, ix30, ix31, ix32, eq_ii, ne_ii, eq_by, ne_by, notin_c, in_c, D.rChain, RIxA, roTupOf, RListOf, RListB, List.findSome?, List.getElem?_cons_zero, List.getElem?_cons_succ, List.getElem?_nil, List.set_cons_zero, List.set_cons_succ, List.length_cons, List.length_nil, List.map_cons, List.map_nil, List.replicate, List.nil_append, List.cons_append, List.append_nil, Option.some.injEq, exists_eq_left', exists_eq_left, exists_eq', exists_eq, true_and, and_true, Vl.d.injEq, Vl.nw.injEq, Vl.sl.injEq, Dt.int.injEq, Dt.bl.injEq, Dt.str.injEq, Dt.lst.injEq, Dt.tup.injEq, Dt.byt.injEq, Dt.ty.injEq, Dt.ref.injEq, En.val.injEq, En.mu.injEq, En.bor.injEq, List.cons.injEq, Nat.reduceLT, Nat.reduceAdd, Nat.reduceSub, Nat.zero_add, and_self, ↓reduceIte, Bool.false_eq_true, reduceCtorEq, false_and, and_false, exists_const, exists_false, or_false, false_or, Nat.reduceEqDiff, Option.map_some, Option.getD_some, Option.getD_none, and_assoc, exists_and_left, exists_and_right, rCall_f, rCall_g, f_pre, f_post, g_pre, g_post, g_exc, Prod.forall, Prod.exists, Prod.mk.injEq, exists_const, forall_const, argsD, conP, entD, remP, flagsP, flagAt, putP, aft, Ct.dt.injEq, forall_eq, forall_eq', forall_const, implies_true, false_implies, and_imp, forall_exists_index, forall_apply_eq_imp_iff, List.length_append, retD, rFor_L, asgLc, rLc_L, riList, riTup, riStr, riRange1, riRange2, riEnum, riRev, rgName, rgTup, rgCons, rgNil, wipeE, unw, rYes, rAsgG, rAsgSub, roSetL, rBM, rBM0, roAppend, roOwn0, isa_no, isa_bl, isa_in, isa_st, isa_by, isa_ls, isa_tu, isa_di, beq_self_eq_true, Bool.or_true, Bool.true_or, Bool.or_false, Bool.false_or, Bool.or_self, Bool.not_true, Bool.not_false, Bool.and_true, Bool.true_and, Bool.and_false, Bool.false_and, String.reduceBEq, String.reduceEq, not_true_eq_false, not_false_eq_true, rSlL', roNone, roSome, roCat, D.trk, rRaise0, rRaise1, excD, rTry, rEx, wMixD, goneD, List.isEmpty_nil, if_true, List.length_singleton, Nat.reduceLeDiff, Nat.reducePow, Int.reducePow, Int.reduceLT, Int.reduceLE, Int.reduceNeg, Int.reduceToNat, S_draw, S_one, items, at4, at5, at6, S_law, rFrz, ms_law_well, ms_law_draw, ms_law_one, ms_law_names, ms_law_plan, ms_law_history, ms_law_closures, S_lclo]
  refine ⟨rfl, sg fun U2 e2 => ?_⟩
  simp (maxSteps := 3000000) only [rPar, rParM, riRange3, roI2, rLcO_L, isN_eq, notN_eq, rSlTu, riZip, riZipO, riListO, rMinDef, rFldG, rSetFG, rDGet, rDIn, rDPut, roLenD, roListD, roSortD, rAsgStar, rForK_L, rDisp1, rSortST, rMakeC_f, kD, vD, iD, keyDt, own, wr, gput, gfind, keyD, keyDt, id_eq, roSplit, roStr1, rSlSt, rSlBy, rRevL, TruD, rOrT, rAndT, rMake_g, roCatA, roRep, rMeth_f, rMeth_g, roOwnB_f, MakeQ_g, rMakeK, roIsC, isC_ins, rFld, rSetF, rXfn, rXf, lk_eq, putD, Dt.ins.injEq, Dt.exn.injEq, RleS, RMulS, RMulZ, roJoin, rRet, rRetN, rSeq, rIfS, rAsg, rVar, ofEn, rC, rOp, rUn, roP, rCB, rCons, rNil, rAndV, rOrV, rNotV, rB, rAnd, rOr, rNot, rIf, rTup, rLst, rDrop, rNext, rNever, look, frz, frzs, looks, held, roIsi, roF1, roL1, roNeg, rDNew, startE, ents, ent, csOf, unal, finds, RI0, RI, int_in, int_bl, len_ls, len_tu, len_st, len_by, at0, at1, at2, at3, ix30, ix31, ix32, eq_ii, ne_ii, eq_by, ne_by, notin_c, in_c, D.rChain, RIxA, roTupOf, RListOf, RListB, List.findSome?, List.getElem?_cons_zero, List.getElem?_cons_succ, List.getElem?_nil, List.set_cons_zero, List.set_cons_succ, List.length_cons, List.length_nil, List.map_cons, List.map_nil, List.replicate, List.nil_append, List.cons_append, List.append_nil, Option.some.injEq, exists_eq_left', exists_eq_left, exists_eq', exists_eq, true_and, and_true, Vl.d.injEq, Vl.nw.injEq, Vl.sl.injEq, Dt.int.injEq, Dt.bl.injEq, Dt.str.injEq, Dt.lst.injEq, Dt.tup.injEq, Dt.byt.injEq, Dt.ty.injEq, Dt.ref.injEq, En.val.injEq, En.mu.injEq, En.bor.injEq, List.cons.injEq, Nat.reduceLT, Nat.reduceAdd, Nat.reduceSub, Nat.zero_add, and_self, ↓reduceIte, Bool.false_eq_true, reduceCtorEq, false_and, and_false, exists_const, exists_false, or_false, false_or, Nat.reduceEqDiff, Option.map_some, Option.getD_some, Option.getD_none, and_assoc, exists_and_left, exists_and_right, rCall_f, rCall_g, f_pre, f_post, g_pre, g_post, g_exc, Prod.forall, Prod.exists, Prod.mk.injEq, exists_const, forall_const, argsD, conP, entD, remP, flagsP, flagAt, putP, aft, Ct.dt.injEq, forall_eq, forall_eq', forall_const, implies_true, false_implies, and_imp, forall_exists_index, forall_apply_eq_imp_iff, List.length_append, retD, rFor_L, asgLc, rLc_L, riList, riTup, riStr, riRange1, riRange2, riEnum, riRev, rgName, rgTup, rgCons, rgNil, wipeE, unw, rYes, rAsgG, rAsgSub, roSetL, rBM, rBM0, roAppend, roOwn0, isa_no, isa_bl, isa_in, isa_st, isa_by, isa_ls, isa_tu, isa_di, beq_self_eq_true, Bool.or_true, Bool.true_or, Bool.or_false, Bool.false_or, Bool.or_self, Bool.not_true, Bool.not_false, Bool.and_true, Bool.true_and, Bool.and_false, Bool.false_and, String.reduceBEq, String.reduceEq, not_true_eq_false, not_false_eq_true, rSlL', roNone, roSome, roCat, D.trk, rRaise0, rRaise1, excD, rTry, rEx, wMixD, goneD, List.isEmpty_nil, if_true, List.length_singleton, Nat.reduceLeDiff, Nat.reducePow, Int.reducePow, Int.reduceLT, Int.reduceLE, Int.reduceNeg, Int.reduceToNat, S_draw, S_one, items, at4, at5, at6, S_law, rFrz, ms_law_well, ms_law_draw, ms_law_one, ms_law_names, ms_law_plan, ms_law_history, ms_law_closures, S_lclo]
  subst e2
  refine sg fun U2 e2 => ?_
  simp (maxSteps := 3000000) only [rPar, rParM, riRange3, roI2, rLcO_L, isN_eq, notN_eq, rSlTu, riZip, riZipO, riListO, rMinDef, rFldG, rSetFG, rDGet, rDIn, rDPut, roLenD, roListD, roSortD, rAsgStar, rForK_L, rDisp1, rSortST, rMakeC_f, kD, vD, iD, keyDt, own, wr, gput, gfind, keyD, keyDt, id_eq, roSplit, roStr1, rSlSt, rSlBy, rRevL, TruD, rOrT, rAndT, rMake_g, roCatA, roRep, rMeth_f, rMeth_g, roOwnB_f, MakeQ_g, rMakeK, roIsC, isC_ins, rFld, rSetF, rXfn, rXf, lk_eq, putD, Dt.ins.injEq, Dt.exn.injEq, RleS, RMulS, RMulZ, roJoin, rRet, rRetN, rSeq, rIfS, rAsg, rVar, ofEn, rC, rOp, rUn, roP, rCB, rCons, rNil, rAndV, rOrV, rNotV, rB, rAnd, rOr, rNot, rIf, rTup, rLst, rDrop, rNext, rNever, look, frz, frzs, looks, held, roIsi, roF1, roL1, roNeg, rDNew, startE, ents, ent, csOf, unal, finds, RI0, RI, int_in, int_bl, len_ls, len_tu, len_st, len_by, at0, at1, at2, at3, ix30, ix31, ix32, eq_ii, ne_ii, eq_by, ne_by, notin_c, in_c, D.rChain, RIxA, roTupOf, RListOf, RListB, List.findSome?, List.getElem?_cons_zero, List.getElem?_cons_succ, List.getElem?_nil, List.set_cons_zero, List.set_cons_succ, List.length_cons, List.length_nil, List.map_cons, List.map_nil, List.replicate, List.nil_append, List.cons_append, List.append_nil, Option.some.injEq, exists_eq_left', exists_eq_left, exists_eq', exists_eq, true_and, and_true, Vl.d.injEq, Vl.nw.injEq, Vl.sl.injEq, Dt.int.injEq, Dt.bl.injEq, Dt.str.injEq, Dt.lst.injEq, Dt.tup.injEq, Dt.byt.injEq, Dt.ty.injEq, Dt.ref.injEq, En.val.injEq, En.mu.injEq, En.bor.injEq, List.cons.injEq, Nat.reduceLT, Nat.reduceAdd, Nat.reduceSub, Nat.zero_add, and_self, ↓reduceIte, Bool.false_eq_true, reduceCtorEq, false_and, and_false, exists_const, exists_false, or_false, false_or, Nat.reduceEqDiff, Option.map_some, Option.getD_some, Option.getD_none, and_assoc, exists_and_left, exists_and_right, rCall_f, rCall_g, f_pre, f_post, g_pre, g_post, g_exc, Prod.forall, Prod.exists, Prod.mk.injEq, exists_const, forall_const, argsD, conP, entD, remP, flagsP, flagAt, putP, aft, Ct.dt.injEq, forall_eq, forall_eq', forall_const, implies_true, false_implies, and_imp, forall_exists_index, forall_apply_eq_imp_iff, List.length_append, retD, rFor_L, asgLc, rLc_L, riList, riTup, riStr, riRange1, riRange2, riEnum, riRev, rgName, rgTup, rgCons, rgNil, wipeE, unw, rYes, rAsgG, rAsgSub, roSetL, rBM, rBM0, roAppend, roOwn0, isa_no, isa_bl, isa_in, isa_st, isa_by, isa_ls, isa_tu, isa_di, beq_self_eq_true, Bool.or_true, Bool.true_or, Bool.or_false, Bool.false_or, Bool.or_self, Bool.not_true, Bool.not_false, Bool.and_true, Bool.true_and, Bool.and_false, Bool.false_and, String.reduceBEq, String.reduceEq, not_true_eq_false, not_false_eq_true, rSlL', roNone, roSome, roCat, D.trk, rRaise0, rRaise1, excD, rTry, rEx, wMixD, goneD, List.isEmpty_nil, if_true, List.length_singleton, Nat.reduceLeDiff, Nat.reducePow, Int.reducePow, Int.reduceLT, Int.reduceLE, Int.reduceNeg, Int.reduceToNat, S_draw, S_one, items, at4, at5, at6, S_law, rFrz, ms_law_well, ms_law_draw, ms_law_one, ms_law_names, ms_law_plan, ms_law_history, ms_law_closures, S_lclo]
  refine lp_of (fun t η' => ∃ fs c5, Gat hs s (ps.take t) fs ∧ η' = [some (.bor (.lst (rowsD hs))), some (.mu none (.dt (.dct (hk cl)))), some (.val (.str s)), some (.val (.lst (ps.map .str))), some (.mu none (.dt (.lst (fs.map .str)))), c5]) ⟨[s], _, .start, rfl⟩ ?_ ?_
  rotate_left
  · rintro η' ⟨fs, c5', hg, rfl⟩
    rw [List.length_map, List.take_length] at hg
    have hgl := hg.len
    have h3 := ho.p3 i s ps hq
    show U2 _
    subst e2
    simp (maxSteps := 3000000) only [rPar, rParM, riRange3, roI2, rLcO_L, isN_eq, notN_eq, rSlTu, riZip, riZipO, riListO, rMinDef, rFldG, rSetFG, rDGet, rDIn, rDPut, roLenD, roListD, roSortD, rAsgStar, rForK_L, rDisp1, rSortST, rMakeC_f, kD, vD, iD, keyDt, own, wr, gput, gfind, keyD, keyDt, id_eq, roSplit, roStr1, rSlSt, rSlBy, rRevL, TruD, rOrT, rAndT, rMake_g, roCatA, roRep, rMeth_f, rMeth_g, roOwnB_f, MakeQ_g, rMakeK, roIsC, isC_ins, rFld, rSetF, rXfn, rXf, lk_eq, putD, Dt.ins.injEq, Dt.exn.injEq, RleS, RMulS, RMulZ, roJoin, rRet, rRetN, rSeq, rIfS, rAsg, rVar, ofEn, rC, rOp, rUn, roP, rCB, rCons, rNil, rAndV, rOrV, rNotV, rB, rAnd, rOr, rNot, rIf, rTup, rLst, rDrop, rNext, rNever, look, frz, frzs, looks, held, roIsi, roF1, roL1, roNeg, rDNew, startE, ents, ent, csOf, unal, finds, RI0, RI, int_in, int_bl, len_ls, len_tu, len_st, len_by, at0, at1, at2, at3, ix30, ix31, ix32, eq_ii, ne_ii, eq_by, ne_by, notin_c, in_c, D.rChain, RIxA, roTupOf, RListOf, RListB, List.findSome?, List.getElem?_cons_zero, List.getElem?_cons_succ, List.getElem?_nil, List.set_cons_zero, List.set_cons_succ, List.length_cons, List.length_nil, List.map_cons, List.map_nil, List.replicate, List.nil_append, List.cons_append, List.append_nil, Option.some.injEq, exists_eq_left', exists_eq_left, exists_eq', exists_eq, true_and, and_true, Vl.d.injEq, Vl.nw.injEq, Vl.sl.injEq, Dt.int.injEq, Dt.bl.injEq, Dt.str.injEq, Dt.lst.injEq, Dt.tup.injEq, Dt.byt.injEq, Dt.ty.injEq, Dt.ref.injEq, En.val.injEq, En.mu.injEq, En.bor.injEq, List.cons.injEq, Nat.reduceLT, Nat.reduceAdd, Nat.reduceSub, Nat.zero_add, and_self, ↓reduceIte, Bool.false_eq_true, reduceCtorEq, false_and, and_false, exists_const, exists_false, or_false, false_or, Nat.reduceEqDiff, Option.map_some, Option.getD_some, Option.getD_none, and_assoc, exists_and_left, exists_and_right, rCall_f, rCall_g, f_pre, f_post, g_pre, g_post, g_exc, Prod.forall, Prod.exists, Prod.mk.injEq, exists_const, forall_const, argsD, conP, entD, remP, flagsP, flagAt, putP, aft, Ct.dt.injEq, forall_eq, forall_eq', forall_const, implies_true, false_implies, and_imp, forall_exists_index, forall_apply_eq_imp_iff, List.length_append, retD, rFor_L, asgLc, rLc_L, riList, riTup, riStr, riRange1, riRange2, riEnum, riRev, rgName, rgTup, rgCons, rgNil, wipeE, unw, rYes, rAsgG, rAsgSub, roSetL, rBM, rBM0, roAppend, roOwn0, isa_no, isa_bl, isa_in, isa_st, isa_by, isa_ls, isa_tu, isa_di, beq_self_eq_true, Bool.or_true, Bool.true_or, Bool.or_false, Bool.false_or, Bool.or_self, Bool.not_true, Bool.not_false, Bool.and_true, Bool.true_and, Bool.and_false, Bool.false_and, String.reduceBEq, String.reduceEq, not_true_eq_false, not_false_eq_true, rSlL', roNone, roSome, roCat, D.trk, rRaise0, rRaise1, excD, rTry, rEx, wMixD, goneD, List.isEmpty_nil, if_true, List.length_singleton, Nat.reduceLeDiff, Nat.reducePow, Int.reducePow, Int.reduceLT, Int.reduceLE, Int.reduceNeg, Int.reduceToNat, S_draw, S_one, items, at4, at5, at6, S_law, rFrz, ms_law_well, ms_law_draw, ms_law_one, ms_law_names, ms_law_plan, ms_law_history, ms_law_closures, S_lclo]
    have hcll := hcl.len
    have h15 := ho.l15
    refine ⟨fs, rfl, by omega, fun ys h1 h2 h4 => ⟨_, rfl, by rw [hk_len]; omega, cl ++ [(s, ys)], hcl.snoc hq (hg.all (ho.hget_eq hq) h1 h2 h4), ?_⟩⟩
    rw [dput_hk (by rw [hcl.nm]; exact nd_take ho.nd (hNames_at hq))]
  rintro t x η' hx2 ⟨fs, c5', hg, rfl⟩
  obtain ⟨q, hqt, rfl⟩ := map_get hx2
  have hqm := ho.up i s ps hq q (List.mem_of_getElem? hqt)
  rw [hNames_take] at hqm
  obtain ⟨ys, hy, hya⟩ := hcl.get hqm
  have hdg : dget (hk cl) (.inr q) = some (.lst (ys.map .str)) := by rw [dget_hk, hy]; rfl
  have hgl := hg.len
  have h3 := ho.p3 i s ps hq
  have hyl := hya.len ho.toHOk (List.mem_of_mem_take hqm)
  have h15 := ho.l15
  rw [List.length_take] at hgl
  simp (maxSteps := 3000000) only [rPar, rParM, riRange3, roI2, rLcO_L, isN_eq, notN_eq, rSlTu, riZip, riZipO, riListO, rMinDef, rFldG, rSetFG, rDGet, rDIn, rDPut, roLenD, roListD, roSortD, rAsgStar, rForK_L, rDisp1, rSortST, rMakeC_f, kD, vD, iD, keyDt, own, wr, gput, gfind, keyD, keyDt, id_eq, roSplit, roStr1, rSlSt, rSlBy, rRevL, TruD, rOrT, rAndT, rMake_g, roCatA, roRep, rMeth_f, rMeth_g, roOwnB_f, MakeQ_g, rMakeK, roIsC, isC_ins, rFld, rSetF, rXfn, rXf, lk_eq, putD, Dt.ins.injEq, Dt.exn.injEq, RleS, RMulS, RMulZ, roJoin, rRet, rRetN, rSeq, rIfS, rAsg, rVar, ofEn, rC, rOp, rUn, roP, rCB, rCons, rNil, rAndV, rOrV, rNotV, rB, rAnd, rOr, rNot, rIf, rTup, rLst, rDrop, rNext, rNever, look, frz, frzs, looks, held, roIsi, roF1, roL1, roNeg, rDNew, startE, ents, ent, csOf, unal, finds, RI0, RI, int_in, int_bl, len_ls, len_tu, len_st, len_by, at0, at1, at2, at3, ix30, ix31, ix32, eq_ii, ne_ii, eq_by, ne_by, notin_c, in_c, D.rChain, RIxA, roTupOf, RListOf, RListB, List.findSome?, List.getElem?_cons_zero, List.getElem?_cons_succ, List.getElem?_nil, List.set_cons_zero, List.set_cons_succ, List.length_cons, List.length_nil, List.map_cons, List.map_nil, List.replicate, List.nil_append, List.cons_append, List.append_nil, Option.some.injEq, exists_eq_left', exists_eq_left, exists_eq', exists_eq, true_and, and_true, Vl.d.injEq, Vl.nw.injEq, Vl.sl.injEq, Dt.int.injEq, Dt.bl.injEq, Dt.str.injEq, Dt.lst.injEq, Dt.tup.injEq, Dt.byt.injEq, Dt.ty.injEq, Dt.ref.injEq, En.val.injEq, En.mu.injEq, En.bor.injEq, List.cons.injEq, Nat.reduceLT, Nat.reduceAdd, Nat.reduceSub, Nat.zero_add, and_self, ↓reduceIte, Bool.false_eq_true, reduceCtorEq, false_and, and_false, exists_const, exists_false, or_false, false_or, Nat.reduceEqDiff, Option.map_some, Option.getD_some, Option.getD_none, and_assoc, exists_and_left, exists_and_right, rCall_f, rCall_g, f_pre, f_post, g_pre, g_post, g_exc, Prod.forall, Prod.exists, Prod.mk.injEq, exists_const, forall_const, argsD, conP, entD, remP, flagsP, flagAt, putP, aft, Ct.dt.injEq, forall_eq, forall_eq', forall_const, implies_true, false_implies, and_imp, forall_exists_index, forall_apply_eq_imp_iff, List.length_append, retD, rFor_L, asgLc, rLc_L, riList, riTup, riStr, riRange1, riRange2, riEnum, riRev, rgName, rgTup, rgCons, rgNil, wipeE, unw, rYes, rAsgG, rAsgSub, roSetL, rBM, rBM0, roAppend, roOwn0, isa_no, isa_bl, isa_in, isa_st, isa_by, isa_ls, isa_tu, isa_di, beq_self_eq_true, Bool.or_true, Bool.true_or, Bool.or_false, Bool.false_or, Bool.or_self, Bool.not_true, Bool.not_false, Bool.and_true, Bool.true_and, Bool.and_false, Bool.false_and, String.reduceBEq, String.reduceEq, not_true_eq_false, not_false_eq_true, rSlL', roNone, roSome, roCat, D.trk, rRaise0, rRaise1, excD, rTry, rEx, wMixD, goneD, List.isEmpty_nil, if_true, List.length_singleton, Nat.reduceLeDiff, Nat.reducePow, Int.reducePow, Int.reduceLT, Int.reduceLE, Int.reduceNeg, Int.reduceToNat, S_draw, S_one, items, at4, at5, at6, S_law, rFrz, ms_law_well, ms_law_draw, ms_law_one, ms_law_names, ms_law_plan, ms_law_history, ms_law_closures, S_lclo, hdg]
  exact ⟨_, rfl, _, hdg, _, rfl, by rw [List.length_map, List.length_map]; omega, fs ++ ys, by rw [take_succ_at hqt]; exact hg.put ho hya (List.mem_of_mem_take hqm), by rw [List.map_append]⟩
/-! #### _law_told_right -/
abbrev s_law_told_right : Stmt := top 20
abbrev N_law_told_right : List Str := ["_law_history_here", "_law_due", "_law_name", "_law_found", "_law_other", "_law_told"]
abbrev P_law_told_right : List Str := ["_law_history_here", "_law_due"]
abbrev ms_law_told_right : List Md := [.p, .b]
theorem sc_law_told_right : FnScope N_law_told_right P_law_told_right (defScope s_law_told_right) := ⟨rfl, rfl, rfl, by decide +kernel, rfl, by decide +kernel, by decide +kernel⟩
theorem ok_law_told_right {P : Program} {w : World} {K : PySem.W.Frag} {mg : Str → Option Value} {base : Heap} {f : Addr} {fd : FuncData} {c_FellError c_NoName c_Taken c_NoChange c_History : Addr} (G : Gs K mg c_FellError c_NoName c_Taken c_NoChange c_History) (h0 : HsM P w K mg base (L2.CX P w) 5 c_History "has" P_History_has (toSp K ms_History_has (S_has c_History c_NoChange))) (h1 : HsM P w K mg base (L2.CX P w) 4 c_History "all_of" P_History_all_of (toSp K ms_History_all_of (S_allof c_History c_NoChange))) (X_NoChange : ExO P w K mg base "NoChange" c_NoChange "name") (X_NoName : ExO P w K mg base "NoName" c_NoName "name") (X_Taken : ExO P w K mg base "Taken" c_Taken "name") (K_History : ClF K mg "History" c_History) (nA_History_parents : NoAttr K c_History "parents") (F : Fun K "_law_told_right" "_law_told_right" s_law_told_right f fd) (mf : mg "_law_told_right" = some (.ref f)) :
    Hs P w K mg base CX0 6 "_law_told_right" P_law_told_right (toSp K ms_law_told_right (S_ltold c_History)) := by
  obtain ⟨f0, fd0, F0, M0, b0⟩ := h0
  obtain ⟨f1, fd1, F1, M1, b1⟩ := h1
  refine ⟨f, fd, ?_, mf, F.kp, F.binds (ps := P_law_told_right) fun _ _ _ _ _ _ us hl => match us, hl with | [_, _], _ => rfl⟩
  refine F.ok sc_law_told_right (fun vs H Q E h => toSp_len h) (fun cdv A outer s H vs Q E hr h => ?_)
  have hu := hr.units
  refine ⟨_, pss_cons (ps_lk (ps_for PassesOwn.never rfl (pi_keys (pv 1)) (pg_name (i := 2) sc_law_told_right.nd rfl (by first | exact Or.inl rfl | exact Or.inr rfl | exact .inr (.inl rfl) | exact .inr (.inr rfl))) (pss_cons (ps_set (i := 3) sc_law_told_right.nd rfl (by first | exact Or.inl rfl | exact Or.inr rfl) (pe_methS (E := (WE fun _ _ _ _ => False)) (pv 0) K_History.cl M1 F1 (hr.mono (by decide)) b1 (fun σ => passAt takes0 σ) (pa_cons (pv 2) (pa_nil)))) (pss_cons (ps_if (PW.pt (pw_or (pt_not (pt_val (pe_callB call_isi rfl G.b_isinstance (by decide +kernel) (pa_cons (pv 3) (pa_cons (pe_bltn (v := .ty "list") (u := .type "list") rfl G.b_list (by decide +kernel) rfl) (pa_nil)))))) (pw_or1 (pt_cmpR ((op_neA hu)) (pv 3) (pe_dget (hu1 hu) (pv 1) (pv 2) (fun _ _ => rfl)) (nomark _))))) (pss_one (ps_ret (pe_bl))) (pss_nil)) (pss_cons (ps_expr (pe_bm PySem.F.plainAttrs_list PySem.F.slot_list_append PySem.F.type_list_append mt_append (pv 3) (pa_cons (pe_str) (pa_nil)))) (pss_one (ps_lk (ps_for PassesOwn.never rfl (pi_keys (pv 1)) (pg_name (i := 4) sc_law_told_right.nd rfl (by first | exact Or.inl rfl | exact Or.inr rfl | exact .inr (.inl rfl) | exact .inr (.inr rfl))) (pss_cons (ps_set (i := 5) sc_law_told_right.nd rfl (by first | exact Or.inl rfl | exact Or.inr rfl) (pe_methS (E := (WE fun _ _ _ _ => False)) (pv 0) K_History.cl M0 F0 (hr.mono (by decide)) b0 (fun σ => passAt takes0 σ) (pa_cons (pv 2) (pa_cons (pv 4) (pa_nil))))) (pss_one (ps_if (PW.pt (pw_or (pt_not (pt_val (pe_callB call_isi rfl G.b_isinstance (by decide +kernel) (pa_cons (pv 5) (pa_cons (pe_bltn (v := .ty "bool") (u := .type "bool") rfl G.b_bool (by decide +kernel) rfl) (pa_nil)))))) (pw_or1 (pt_cmpR ((op_neA hu)) (pv 5) (pe_cmpR ((op_inA hu)) (pv 4) (pe_dget (hu1 hu) (pv 1) (pv 2) (fun _ _ => rfl)) (by rfl)) (nomark _))))) (pss_one (ps_ret (pe_bl))) (pss_nil)))))))))))) (pss_one (ps_ret (pe_bl))), ?_⟩
  refine run_body0 h (by decide) (fun as => ds_seq (ds_forK (i := 1) (dg_name 2) (ds_seq (ds_asg (de_methS (X := W0) (E := (WE fun _ _ _ _ => False)) (S := S_allof c_History c_NoChange) (fun _ _ _ _ h => False.elim h) (de_var 0) (da_cons (de_var 2) (da_nil))) 3) (ds_seq (ds_if (dt_or (dt_not (dt_B (de_cb (dc_isi) (da_cons (de_var 3) (da_cons (de_ty) (da_nil)))))) (dt_test (de_op (d2_P p2_ne) (de_var 3) (de_dget (de_var 1) (de_var 2))))) (ds_ret (de_bl)) (ds_next)) (ds_seq (ds_drop (de_bm dm_append (de_var 3) (da_cons (de_str) (da_nil)))) (ds_forK (i := 1) (dg_name 4) (ds_seq (ds_asg (de_methS (X := W0) (E := (WE fun _ _ _ _ => False)) (S := S_has c_History c_NoChange) (fun _ _ _ _ h => False.elim h) (de_var 0) (da_cons (de_var 2) (da_cons (de_var 4) (da_nil)))) 5) (ds_if (dt_or (dt_not (dt_B (de_cb (dc_isi) (da_cons (de_var 5) (da_cons (de_ty) (da_nil)))))) (dt_test (de_op (d2_P p2_ne) (de_var 5) (de_op (d2_P p2_in) (de_var 4) (de_dget (de_var 1) (de_var 2)))))) (ds_ret (de_bl)) (ds_next)))))))) (ds_ret (de_bl))) (fun as hp hl => ?_)
  obtain ⟨p, hs, cl, rfl, ho, hcl⟩ := hp
  refine sg fun U1 e1 => ?_
  simp (maxSteps := 3000000) only [rPar, rParM, riRange3, roI2, rLcO_L, isN_eq, notN_eq, rSlTu, riZip, riZipO, riListO, rMinDef, rFldG, rSetFG, rDGet, rDIn, rDPut, roLenD, roListD, roSortD, rAsgStar, rForK_L, rDisp1, rSortST, rMakeC_f, kD, vD, iD, keyDt, own, wr, gput, gfind, keyD, keyDt, id_eq, roSplit, roStr1, rSlSt, rSlBy, rRevL, TruD, rOrT, rAndT, rMake_g, roCatA, roRep, rMeth_f, rMeth_g, roOwnB_f, MakeQ_g, rMakeK, roIsC, isC_ins, rFld, rSetF, rXfn, rXf, lk_eq, putD, Dt.ins.injEq, Dt.exn.injEq, RleS, RMulS, RMulZ, roJoin, rRet, rRetN, rSeq, rIfS, rAsg, rVar, ofEn, rC, rOp, rUn, roP, rCB, rCons, rNil, rAndV, rOrV, rNotV, rB, rAnd, rOr, rNot, rIf, rTup, rLst, rDrop, rNext, rNever, look, frz, frzs, looks, held, roIsi, roF1, roL1, roNeg, rDNew, startE, ents, ent, csOf, unal, finds, RI0, RI, int_in, int_bl, len_ls, len_tu, len_st, len_by, at0, at1, at2, at3, ix30, ix31, ix32, eq_ii, ne_ii, eq_by, ne_by, notin_c, in_c, D.rChain, RIxA, roTupOf, RListOf, RListB, List.findSome?, List.getElem?_cons_zero, List.getElem?_cons_succ, List.getElem?_nil, List.set_cons_zero, List.set_cons_succ, List.length_cons, List.length_nil, List.map_cons, List.map_nil, List.replicate, List.nil_append, List.cons_append, List.append_nil, Option.some.injEq, exists_eq_left', exists_eq_left, exists_eq', exists_eq, true_and, and_true, Vl.d.injEq, Vl.nw.injEq, Vl.sl.injEq, Dt.int.injEq, Dt.bl.injEq, Dt.str.injEq, Dt.lst.injEq, Dt.tup.injEq, Dt.byt.injEq, Dt.ty.injEq, Dt.ref.injEq, En.val.injEq, En.mu.injEq, En.bor.injEq, List.cons.injEq, Nat.reduceLT, Nat.reduceAdd, Nat.reduceSub, Nat.zero_add, and_self, ↓reduceIte, Bool.false_eq_true, reduceCtorEq, false_and, and_false, exists_const, exists_false, or_false, false_or, Nat.reduceEqDiff, Option.map_some, Option.getD_some, Option.getD_none, and_assoc, exists_and_left, exists_and_right, rCall_f, rCall_g, f_pre, f_post, g_pre, g_post, g_exc, Prod.forall, Prod.exists, Prod.mk.injEq, exists_const, forall_const, argsD, conP, entD, remP, flagsP, flagAt, putP, aft, Ct.dt.injEq, forall_eq, forall_eq', forall_const, implies_true, false_implies, and_imp, forall_exists_index, forall_apply_eq_imp_iff, List.length_append, retD, rFor_L, asgLc, rLc_L, riList, riTup, riStr, riRange1, riRange2, riEnum, riRev, rgName, rgTup, rgCons, rgNil, wipeE, unw, rYes, rAsgG, rAsgSub, roSetL, rBM, rBM0, roAppend, roOwn0, isa_no, isa_bl, isa_in, isa_st, isa_by, isa_ls, isa_tu, isa_di, beq_self_eq_true, Bool.or_true, Bool.true_or, Bool.or_false, Bool.false_or, Bool.or_self, Bool.not_true, Bool.not_false, Bool.and_true, Bool.true_and, Bool.and_false, Bool.false_and, String.reduceBEq, String.reduceEq, not_true_eq_false, not_false_eq_true, rSlL', roNone, roSome, roCat, D.trk, rRaise0, rRaise1, excD, rTry, rEx, wMixD, goneD, List.isEmpty_nil, if_true, List.length_singleton, Nat.reduceLeDiff, Nat.reducePow, Int.reducePow, Int.reduceLT, Int.reduceLE, Int.reduceNeg, Int.reduceToNat, S_draw, S_one, items, at4, at5, at6, S_law, rFrz, ms_law_well, ms_law_draw, ms_law_one, ms_law_names, ms_law_plan, ms_law_history, ms_law_closures, ms_law_told_right, S_ltold]
  refine ⟨_, rfl, ?_⟩
  change Lp _ _ _ (kD (hk cl)) _
  rw [kd_hk]
  have hnm := hcl.nm'
  refine lp_of (fun i η' => ∃ c2 c3 c4 c5, η' = [some (.mu (some 0) (histC c_History p hs)), some (.bor (.dct (hk cl))), c2, c3, c4, c5]) ⟨_, _, _, _, rfl⟩ ?_ ?_
  rotate_left
  · rintro η' ⟨c2, c3, c4, c5, rfl⟩
    show U1 _
    subst e1
    simp (maxSteps := 3000000) only [rPar, rParM, riRange3, roI2, rLcO_L, isN_eq, notN_eq, rSlTu, riZip, riZipO, riListO, rMinDef, rFldG, rSetFG, rDGet, rDIn, rDPut, roLenD, roListD, roSortD, rAsgStar, rForK_L, rDisp1, rSortST, rMakeC_f, kD, vD, iD, keyDt, own, wr, gput, gfind, keyD, keyDt, id_eq, roSplit, roStr1, rSlSt, rSlBy, rRevL, TruD, rOrT, rAndT, rMake_g, roCatA, roRep, rMeth_f, rMeth_g, roOwnB_f, MakeQ_g, rMakeK, roIsC, isC_ins, rFld, rSetF, rXfn, rXf, lk_eq, putD, Dt.ins.injEq, Dt.exn.injEq, RleS, RMulS, RMulZ, roJoin, rRet, rRetN, rSeq, rIfS, rAsg, rVar, ofEn, rC, rOp, rUn, roP, rCB, rCons, rNil, rAndV, rOrV, rNotV, rB, rAnd, rOr, rNot, rIf, rTup, rLst, rDrop, rNext, rNever, look, frz, frzs, looks, held, roIsi, roF1, roL1, roNeg, rDNew, startE, ents, ent, csOf, unal, finds, RI0, RI, int_in, int_bl, len_ls, len_tu, len_st, len_by, at0, at1, at2, at3, ix30, ix31, ix32, eq_ii, ne_ii, eq_by, ne_by, notin_c, in_c, D.rChain, RIxA, roTupOf, RListOf, RListB, List.findSome?, List.getElem?_cons_zero, List.getElem?_cons_succ, List.getElem?_nil, List.set_cons_zero, List.set_cons_succ, List.length_cons, List.length_nil, List.map_cons, List.map_nil, List.replicate, List.nil_append, List.cons_append, List.append_nil, Option.some.injEq, exists_eq_left', exists_eq_left, exists_eq', exists_eq, true_and, and_true, Vl.d.injEq, Vl.nw.injEq, Vl.sl.injEq, Dt.int.injEq, Dt.bl.injEq, Dt.str.injEq, Dt.lst.injEq, Dt.tup.injEq, Dt.byt.injEq, Dt.ty.injEq, Dt.ref.injEq, En.val.injEq, En.mu.injEq, En.bor.injEq, List.cons.injEq, Nat.reduceLT, Nat.reduceAdd, Nat.reduceSub, Nat.zero_add, and_self, ↓reduceIte, Bool.false_eq_true, reduceCtorEq, false_and, and_false, exists_const, exists_false, or_false, false_or, Nat.reduceEqDiff, Option.map_some, Option.getD_some, Option.getD_none, and_assoc, exists_and_left, exists_and_right, rCall_f, rCall_g, f_pre, f_post, g_pre, g_post, g_exc, Prod.forall, Prod.exists, Prod.mk.injEq, exists_const, forall_const, argsD, conP, entD, remP, flagsP, flagAt, putP, aft, Ct.dt.injEq, forall_eq, forall_eq', forall_const, implies_true, false_implies, and_imp, forall_exists_index, forall_apply_eq_imp_iff, List.length_append, retD, rFor_L, asgLc, rLc_L, riList, riTup, riStr, riRange1, riRange2, riEnum, riRev, rgName, rgTup, rgCons, rgNil, wipeE, unw, rYes, rAsgG, rAsgSub, roSetL, rBM, rBM0, roAppend, roOwn0, isa_no, isa_bl, isa_in, isa_st, isa_by, isa_ls, isa_tu, isa_di, beq_self_eq_true, Bool.or_true, Bool.true_or, Bool.or_false, Bool.false_or, Bool.or_self, Bool.not_true, Bool.not_false, Bool.and_true, Bool.true_and, Bool.and_false, Bool.false_and, String.reduceBEq, String.reduceEq, not_true_eq_false, not_false_eq_true, rSlL', roNone, roSome, roCat, D.trk, rRaise0, rRaise1, excD, rTry, rEx, wMixD, goneD, List.isEmpty_nil, if_true, List.length_singleton, Nat.reduceLeDiff, Nat.reducePow, Int.reducePow, Int.reduceLT, Int.reduceLE, Int.reduceNeg, Int.reduceToNat, S_draw, S_one, items, at4, at5, at6, S_law, rFrz, ms_law_well, ms_law_draw, ms_law_one, ms_law_names, ms_law_plan, ms_law_history, ms_law_closures, ms_law_told_right, S_ltold]
    rfl
  rintro i x η' hx ⟨c2, c3, c4, c5, rfl⟩
  obtain ⟨s, hs0, rfl⟩ := map_get hx
  have hsm : s ∈ hNames hs := hnm ▸ List.mem_of_getElem? hs0
  obtain ⟨ys, hy, hya⟩ := CloI.get hcl (s := s) (by rw [← hcl.nm, hnm]; exact hsm)
  have hdg : dget (hk cl) (.inr s) = some (.lst (ys.map .str)) := by rw [dget_hk, hy]; rfl
  simp (maxSteps := 3000000) only [rPar, rParM, riRange3, roI2, rLcO_L, isN_eq, notN_eq, rSlTu, riZip, riZipO, riListO, rMinDef, rFldG, rSetFG, rDGet, rDIn, rDPut, roLenD, roListD, roSortD, rAsgStar, rForK_L, rDisp1, rSortST, rMakeC_f, kD, vD, iD, keyDt, own, wr, gput, gfind, keyD, keyDt, id_eq, roSplit, roStr1, rSlSt, rSlBy, rRevL, TruD, rOrT, rAndT, rMake_g, roCatA, roRep, rMeth_f, rMeth_g, roOwnB_f, MakeQ_g, rMakeK, roIsC, isC_ins, rFld, rSetF, rXfn, rXf, lk_eq, putD, Dt.ins.injEq, Dt.exn.injEq, RleS, RMulS, RMulZ, roJoin, rRet, rRetN, rIfS, rAsg, rVar, ofEn, rC, rOp, rUn, roP, rCB, rCons, rNil, rAndV, rOrV, rNotV, rB, rAnd, rOr, rNot, rIf, rTup, rLst, rDrop, rNext, rNever, look, frz, frzs, looks, held, roIsi, roF1, roL1, roNeg, rDNew, startE, ents, ent, csOf, unal, finds, RI0, RI, int_in, int_bl, len_ls, len_tu, len_st, len_by, at0, at1, at2, at3, ix30, ix31, ix32, eq_ii, ne_ii, eq_by, ne_by, notin_c, in_c, D.rChain, RIxA, roTupOf, RListOf, RListB, List.findSome?, List.getElem?_cons_zero, List.getElem?_cons_succ, List.getElem?_nil, List.set_cons_zero, List.set_cons_succ, List.length_cons, List.length_nil, List.map_cons, List.map_nil, List.replicate, List.nil_append, List.cons_append, List.append_nil, Option.some.injEq, exists_eq_left', exists_eq_left, exists_eq', exists_eq, true_and, and_true, Vl.d.injEq, Vl.nw.injEq, Vl.sl.injEq, Dt.int.injEq, Dt.bl.injEq, Dt.str.injEq, Dt.lst.injEq, Dt.tup.injEq, Dt.byt.injEq, Dt.ty.injEq, Dt.ref.injEq, En.val.injEq, En.mu.injEq, En.bor.injEq, List.cons.injEq, Nat.reduceLT, Nat.reduceAdd, Nat.reduceSub, Nat.zero_add, and_self, ↓reduceIte, Bool.false_eq_true, reduceCtorEq, false_and, and_false, exists_const, exists_false, or_false, false_or, Nat.reduceEqDiff, Option.map_some, Option.getD_some, Option.getD_none, and_assoc, exists_and_left, exists_and_right, rCall_f, rCall_g, f_pre, f_post, g_pre, g_post, g_exc, Prod.forall, Prod.exists, Prod.mk.injEq, exists_const, forall_const, argsD, conP, entD, remP, flagsP, flagAt, putP, aft, Ct.dt.injEq, forall_eq, forall_eq', forall_const, implies_true, false_implies, and_imp, forall_exists_index, forall_apply_eq_imp_iff, List.length_append, retD, rFor_L, asgLc, rLc_L, riList, riTup, riStr, riRange1, riRange2, riEnum, riRev, rgName, rgTup, rgCons, rgNil, wipeE, unw, rYes, rAsgG, rAsgSub, roSetL, rBM, rBM0, roAppend, roOwn0, isa_no, isa_bl, isa_in, isa_st, isa_by, isa_ls, isa_tu, isa_di, beq_self_eq_true, Bool.or_true, Bool.true_or, Bool.or_false, Bool.false_or, Bool.or_self, Bool.not_true, Bool.not_false, Bool.and_true, Bool.true_and, Bool.and_false, Bool.false_and, String.reduceBEq, String.reduceEq, not_true_eq_false, not_false_eq_true, rSlL', roNone, roSome, roCat, D.trk, rRaise0, rRaise1, excD, rTry, rEx, wMixD, goneD, List.isEmpty_nil, if_true, List.length_singleton, Nat.reduceLeDiff, Nat.reducePow, Int.reducePow, Int.reduceLT, Int.reduceLE, Int.reduceNeg, Int.reduceToNat, S_draw, S_one, items, at4, at5, at6, S_law, rFrz, ms_law_well, ms_law_draw, ms_law_one, ms_law_names, ms_law_plan, ms_law_history, ms_law_closures, ms_law_told_right, S_ltold]
  refine sg fun U2 e2 => ?_
  simp (maxSteps := 3000000) only [rPar, rParM, riRange3, roI2, rLcO_L, isN_eq, notN_eq, rSlTu, riZip, riZipO, riListO, rMinDef, rFldG, rSetFG, rDGet, rDIn, rDPut, roLenD, roListD, roSortD, rAsgStar, rForK_L, rDisp1, rSortST, rMakeC_f, kD, vD, iD, keyDt, own, wr, gput, gfind, keyD, keyDt, id_eq, roSplit, roStr1, rSlSt, rSlBy, rRevL, TruD, rOrT, rAndT, rMake_g, roCatA, roRep, rMeth_f, rMeth_g, roOwnB_f, MakeQ_g, rMakeK, roIsC, isC_ins, rFld, rSetF, rXfn, rXf, lk_eq, putD, Dt.ins.injEq, Dt.exn.injEq, RleS, RMulS, RMulZ, roJoin, rRet, rRetN, rSeq, rIfS, rAsg, rVar, ofEn, rC, rOp, rUn, roP, rCB, rCons, rNil, rAndV, rOrV, rNotV, rB, rAnd, rOr, rNot, rIf, rTup, rLst, rDrop, rNext, rNever, look, frz, frzs, looks, held, roIsi, roF1, roL1, roNeg, rDNew, startE, ents, ent, csOf, unal, finds, RI0, RI, int_in, int_bl, len_ls, len_tu, len_st, len_by, at0, at1, at2, at3, ix30, ix31, ix32, eq_ii, ne_ii, eq_by, ne_by, notin_c, in_c, D.rChain, RIxA, roTupOf, RListOf, RListB, List.findSome?, List.getElem?_cons_zero, List.getElem?_cons_succ, List.getElem?_nil, List.set_cons_zero, List.set_cons_succ, List.length_cons, List.length_nil, List.map_cons, List.map_nil, List.replicate, List.nil_append, List.cons_append, List.append_nil, Option.some.injEq, exists_eq_left', exists_eq_left, exists_eq', exists_eq, true_and, and_true, Vl.d.injEq, Vl.nw.injEq, Vl.sl.injEq, Dt.int.injEq, Dt.bl.injEq, Dt.str.injEq, Dt.lst.injEq, Dt.tup.injEq, Dt.byt.injEq, Dt.ty.injEq, Dt.ref.injEq, En.val.injEq, En.mu.injEq, En.bor.injEq, List.cons.injEq, Nat.reduceLT, Nat.reduceAdd, Nat.reduceSub, Nat.zero_add, and_self, ↓reduceIte, Bool.false_eq_true, reduceCtorEq, false_and, and_false, exists_const, exists_false, or_false, false_or, Nat.reduceEqDiff, Option.map_some, Option.getD_some, Option.getD_none, and_assoc, exists_and_left, exists_and_right, rCall_f, rCall_g, f_pre, f_post, g_pre, g_post, g_exc, Prod.forall, Prod.exists, Prod.mk.injEq, exists_const, forall_const, argsD, conP, entD, remP, flagsP, flagAt, putP, aft, Ct.dt.injEq, forall_eq, forall_eq', forall_const, implies_true, false_implies, and_imp, forall_exists_index, forall_apply_eq_imp_iff, List.length_append, retD, rFor_L, asgLc, rLc_L, riList, riTup, riStr, riRange1, riRange2, riEnum, riRev, rgName, rgTup, rgCons, rgNil, wipeE, unw, rYes, rAsgG, rAsgSub, roSetL, rBM, rBM0, roAppend, roOwn0, isa_no, isa_bl, isa_in, isa_st, isa_by, isa_ls, isa_tu, isa_di, beq_self_eq_true, Bool.or_true, Bool.true_or, Bool.or_false, Bool.false_or, Bool.or_self, Bool.not_true, Bool.not_false, Bool.and_true, Bool.true_and, Bool.and_false, Bool.false_and, String.reduceBEq, String.reduceEq, not_true_eq_false, not_false_eq_true, rSlL', roNone, roSome, roCat, D.trk, rRaise0, rRaise1, excD, rTry, rEx, wMixD, goneD, List.isEmpty_nil, if_true, List.length_singleton, Nat.reduceLeDiff, Nat.reducePow, Int.reducePow, Int.reduceLT, Int.reduceLE, Int.reduceNeg, Int.reduceToNat, S_draw, S_one, items, at4, at5, at6, S_law, rFrz, ms_law_well, ms_law_draw, ms_law_one, ms_law_names, ms_law_plan, ms_law_history, ms_law_closures, ms_law_told_right, S_ltold, ms_History_all_of, S_allof, exH, faH, exH0, keptK_hk, lkH_kept, lkH_sk, lkH_sp, lkH_add, lkH_all, lkH_has, lkH_par, gf_1, K_History.cl, nA_History_parents, histC, List.take_succ_cons, List.take_zero]
  refine ⟨rfl, ho.toHOk, fun ys' _ hya' => ?_, fun e => absurd e (by rw [show keptB hs (.str s) = true from decide_eq_true hsm]; decide)⟩
  obtain rfl := hya.uniq hya'
  subst e2
  refine sg fun U2 e2 => ?_
  simp (maxSteps := 3000000) only [rPar, rParM, riRange3, roI2, rLcO_L, isN_eq, notN_eq, rSlTu, riZip, riZipO, riListO, rMinDef, rFldG, rSetFG, rDGet, rDIn, rDPut, roLenD, roListD, roSortD, rAsgStar, rForK_L, rDisp1, rSortST, rMakeC_f, kD, vD, iD, keyDt, own, wr, gput, gfind, keyD, keyDt, id_eq, roSplit, roStr1, rSlSt, rSlBy, rRevL, TruD, rOrT, rAndT, rMake_g, roCatA, roRep, rMeth_f, rMeth_g, roOwnB_f, MakeQ_g, rMakeK, roIsC, isC_ins, rFld, rSetF, rXfn, rXf, lk_eq, putD, Dt.ins.injEq, Dt.exn.injEq, RleS, RMulS, RMulZ, roJoin, rRet, rRetN, rSeq, rIfS, rAsg, rVar, ofEn, rC, rOp, rUn, roP, rCB, rCons, rNil, rAndV, rOrV, rNotV, rB, rAnd, rOr, rNot, rIf, rTup, rLst, rDrop, rNext, rNever, look, frz, frzs, looks, held, roIsi, roF1, roL1, roNeg, rDNew, startE, ents, ent, csOf, unal, finds, RI0, RI, int_in, int_bl, len_ls, len_tu, len_st, len_by, at0, at1, at2, at3, ix30, ix31, ix32, eq_ii, ne_ii, eq_by, ne_by, notin_c, in_c, D.rChain, RIxA, roTupOf, RListOf, RListB, List.findSome?, List.getElem?_cons_zero, List.getElem?_cons_succ, List.getElem?_nil, List.set_cons_zero, List.set_cons_succ, List.length_cons, List.length_nil, List.map_cons, List.map_nil, List.replicate, List.nil_append, List.cons_append, List.append_nil, Option.some.injEq, exists_eq_left', exists_eq_left, exists_eq', exists_eq, true_and, and_true, Vl.d.injEq, Vl.nw.injEq, Vl.sl.injEq, Dt.int.injEq, Dt.bl.injEq, Dt.str.injEq, Dt.lst.injEq, Dt.tup.injEq, Dt.byt.injEq, Dt.ty.injEq, Dt.ref.injEq, En.val.injEq, En.mu.injEq, En.bor.injEq, List.cons.injEq, Nat.reduceLT, Nat.reduceAdd, Nat.reduceSub, Nat.zero_add, and_self, ↓reduceIte, Bool.false_eq_true, reduceCtorEq, false_and, and_false, exists_const, exists_false, or_false, false_or, Nat.reduceEqDiff, Option.map_some, Option.getD_some, Option.getD_none, and_assoc, exists_and_left, exists_and_right, rCall_f, rCall_g, f_pre, f_post, g_pre, g_post, g_exc, Prod.forall, Prod.exists, Prod.mk.injEq, exists_const, forall_const, argsD, conP, entD, remP, flagsP, flagAt, putP, aft, Ct.dt.injEq, forall_eq, forall_eq', forall_const, implies_true, false_implies, and_imp, forall_exists_index, forall_apply_eq_imp_iff, List.length_append, retD, rFor_L, asgLc, rLc_L, riList, riTup, riStr, riRange1, riRange2, riEnum, riRev, rgName, rgTup, rgCons, rgNil, wipeE, unw, rYes, rAsgG, rAsgSub, roSetL, rBM, rBM0, roAppend, roOwn0, isa_no, isa_bl, isa_in, isa_st, isa_by, isa_ls, isa_tu, isa_di, beq_self_eq_true, Bool.or_true, Bool.true_or, Bool.or_false, Bool.false_or, Bool.or_self, Bool.not_true, Bool.not_false, Bool.and_true, Bool.true_and, Bool.and_false, Bool.false_and, String.reduceBEq, String.reduceEq, not_true_eq_false, not_false_eq_true, rSlL', roNone, roSome, roCat, D.trk, rRaise0, rRaise1, excD, rTry, rEx, wMixD, goneD, List.isEmpty_nil, if_true, List.length_singleton, Nat.reduceLeDiff, Nat.reducePow, Int.reducePow, Int.reduceLT, Int.reduceLE, Int.reduceNeg, Int.reduceToNat, S_draw, S_one, items, at4, at5, at6, S_law, rFrz, ms_law_well, ms_law_draw, ms_law_one, ms_law_names, ms_law_plan, ms_law_history, ms_law_closures, ms_law_told_right, S_ltold, hdg]
  refine ⟨rfl, rfl, _, rfl, _, hdg, _, by rw [ne_selfP (pd_strs ys) (by decide)], _, rfl, ?_⟩
  rw [if_neg (by decide)]
  have hyl := hya.len ho.toHOk hsm
  have h15 := ho.l15
  subst e2
  refine sg fun U2 e2 => ?_
  simp (maxSteps := 3000000) only [rPar, rParM, riRange3, roI2, rLcO_L, isN_eq, notN_eq, rSlTu, riZip, riZipO, riListO, rMinDef, rFldG, rSetFG, rDGet, rDIn, rDPut, roLenD, roListD, roSortD, rAsgStar, rForK_L, rDisp1, rSortST, rMakeC_f, kD, vD, iD, keyDt, own, wr, gput, gfind, keyD, keyDt, id_eq, roSplit, roStr1, rSlSt, rSlBy, rRevL, TruD, rOrT, rAndT, rMake_g, roCatA, roRep, rMeth_f, rMeth_g, roOwnB_f, MakeQ_g, rMakeK, roIsC, isC_ins, rFld, rSetF, rXfn, rXf, lk_eq, putD, Dt.ins.injEq, Dt.exn.injEq, RleS, RMulS, RMulZ, roJoin, rRet, rRetN, rSeq, rIfS, rAsg, rVar, ofEn, rC, rOp, rUn, roP, rCB, rCons, rNil, rAndV, rOrV, rNotV, rB, rAnd, rOr, rNot, rIf, rTup, rLst, rDrop, rNext, rNever, look, frz, frzs, looks, held, roIsi, roF1, roL1, roNeg, rDNew, startE, ents, ent, csOf, unal, finds, RI0, RI, int_in, int_bl, len_ls, len_tu, len_st, len_by, at0, at1, at2, at3, ix30, ix31, ix32, eq_ii, ne_ii, eq_by, ne_by, notin_c, in_c, D.rChain, RIxA, roTupOf, RListOf, RListB, List.findSome?, List.getElem?_cons_zero, List.getElem?_cons_succ, List.getElem?_nil, List.set_cons_zero, List.set_cons_succ, List.length_cons, List.length_nil, List.map_cons, List.map_nil, List.replicate, List.nil_append, List.cons_append, List.append_nil, Option.some.injEq, exists_eq_left', exists_eq_left, exists_eq', exists_eq, true_and, and_true, Vl.d.injEq, Vl.nw.injEq, Vl.sl.injEq, Dt.int.injEq, Dt.bl.injEq, Dt.str.injEq, Dt.lst.injEq, Dt.tup.injEq, Dt.byt.injEq, Dt.ty.injEq, Dt.ref.injEq, En.val.injEq, En.mu.injEq, En.bor.injEq, List.cons.injEq, Nat.reduceLT, Nat.reduceAdd, Nat.reduceSub, Nat.zero_add, and_self, ↓reduceIte, Bool.false_eq_true, reduceCtorEq, false_and, and_false, exists_const, exists_false, or_false, false_or, Nat.reduceEqDiff, Option.map_some, Option.getD_some, Option.getD_none, and_assoc, exists_and_left, exists_and_right, rCall_f, rCall_g, f_pre, f_post, g_pre, g_post, g_exc, Prod.forall, Prod.exists, Prod.mk.injEq, exists_const, forall_const, argsD, conP, entD, remP, flagsP, flagAt, putP, aft, Ct.dt.injEq, forall_eq, forall_eq', forall_const, implies_true, false_implies, and_imp, forall_exists_index, forall_apply_eq_imp_iff, List.length_append, retD, rFor_L, asgLc, rLc_L, riList, riTup, riStr, riRange1, riRange2, riEnum, riRev, rgName, rgTup, rgCons, rgNil, wipeE, unw, rYes, rAsgG, rAsgSub, roSetL, rBM, rBM0, roAppend, roOwn0, isa_no, isa_bl, isa_in, isa_st, isa_by, isa_ls, isa_tu, isa_di, beq_self_eq_true, Bool.or_true, Bool.true_or, Bool.or_false, Bool.false_or, Bool.or_self, Bool.not_true, Bool.not_false, Bool.and_true, Bool.true_and, Bool.and_false, Bool.false_and, String.reduceBEq, String.reduceEq, not_true_eq_false, not_false_eq_true, rSlL', roNone, roSome, roCat, D.trk, rRaise0, rRaise1, excD, rTry, rEx, wMixD, goneD, List.isEmpty_nil, if_true, List.length_singleton, Nat.reduceLeDiff, Nat.reducePow, Int.reducePow, Int.reduceLT, Int.reduceLE, Int.reduceNeg, Int.reduceToNat, S_draw, S_one, items, at4, at5, at6, S_law, rFrz, ms_law_well, ms_law_draw, ms_law_one, ms_law_names, ms_law_plan, ms_law_history, ms_law_closures, ms_law_told_right, S_ltold]
  refine ⟨by rw [List.length_map]; omega, ?_⟩
  subst e2
  simp (maxSteps := 3000000) only [rPar, rParM, riRange3, roI2, rLcO_L, isN_eq, notN_eq, rSlTu, riZip, riZipO, riListO, rMinDef, rFldG, rSetFG, rDGet, rDIn, rDPut, roLenD, roListD, roSortD, rAsgStar, rForK_L, rDisp1, rSortST, rMakeC_f, kD, vD, iD, keyDt, own, wr, gput, gfind, keyD, keyDt, id_eq, roSplit, roStr1, rSlSt, rSlBy, rRevL, TruD, rOrT, rAndT, rMake_g, roCatA, roRep, rMeth_f, rMeth_g, roOwnB_f, MakeQ_g, rMakeK, roIsC, isC_ins, rFld, rSetF, rXfn, rXf, lk_eq, putD, Dt.ins.injEq, Dt.exn.injEq, RleS, RMulS, RMulZ, roJoin, rRet, rRetN, rSeq, rIfS, rAsg, rVar, ofEn, rC, rOp, rUn, roP, rCB, rCons, rNil, rAndV, rOrV, rNotV, rB, rAnd, rOr, rNot, rIf, rTup, rLst, rDrop, rNext, rNever, look, frz, frzs, looks, held, roIsi, roF1, roL1, roNeg, rDNew, startE, ents, ent, csOf, unal, finds, RI0, RI, int_in, int_bl, len_ls, len_tu, len_st, len_by, at0, at1, at2, at3, ix30, ix31, ix32, eq_ii, ne_ii, eq_by, ne_by, notin_c, in_c, D.rChain, RIxA, roTupOf, RListOf, RListB, List.findSome?, List.getElem?_cons_zero, List.getElem?_cons_succ, List.getElem?_nil, List.set_cons_zero, List.set_cons_succ, List.length_cons, List.length_nil, List.map_cons, List.map_nil, List.replicate, List.nil_append, List.cons_append, List.append_nil, Option.some.injEq, exists_eq_left', exists_eq_left, exists_eq', exists_eq, true_and, and_true, Vl.d.injEq, Vl.nw.injEq, Vl.sl.injEq, Dt.int.injEq, Dt.bl.injEq, Dt.str.injEq, Dt.lst.injEq, Dt.tup.injEq, Dt.byt.injEq, Dt.ty.injEq, Dt.ref.injEq, En.val.injEq, En.mu.injEq, En.bor.injEq, List.cons.injEq, Nat.reduceLT, Nat.reduceAdd, Nat.reduceSub, Nat.zero_add, and_self, ↓reduceIte, Bool.false_eq_true, reduceCtorEq, false_and, and_false, exists_const, exists_false, or_false, false_or, Nat.reduceEqDiff, Option.map_some, Option.getD_some, Option.getD_none, and_assoc, exists_and_left, exists_and_right, rCall_f, rCall_g, f_pre, f_post, g_pre, g_post, g_exc, Prod.forall, Prod.exists, Prod.mk.injEq, exists_const, forall_const, argsD, conP, entD, remP, flagsP, flagAt, putP, aft, Ct.dt.injEq, forall_eq, forall_eq', forall_const, implies_true, false_implies, and_imp, forall_exists_index, forall_apply_eq_imp_iff, List.length_append, retD, rFor_L, asgLc, rLc_L, riList, riTup, riStr, riRange1, riRange2, riEnum, riRev, rgName, rgTup, rgCons, rgNil, wipeE, unw, rYes, rAsgG, rAsgSub, roSetL, rBM, rBM0, roAppend, roOwn0, isa_no, isa_bl, isa_in, isa_st, isa_by, isa_ls, isa_tu, isa_di, beq_self_eq_true, Bool.or_true, Bool.true_or, Bool.or_false, Bool.false_or, Bool.or_self, Bool.not_true, Bool.not_false, Bool.and_true, Bool.true_and, Bool.and_false, Bool.false_and, String.reduceBEq, String.reduceEq, not_true_eq_false, not_false_eq_true, rSlL', roNone, roSome, roCat, D.trk, rRaise0, rRaise1, excD, rTry, rEx, wMixD, goneD, List.isEmpty_nil, if_true, List.length_singleton, Nat.reduceLeDiff, Nat.reducePow, Int.reducePow, Int.reduceLT, Int.reduceLE, Int.reduceNeg, Int.reduceToNat, S_draw, S_one, items, at4, at5, at6, S_law, rFrz, ms_law_well, ms_law_draw, ms_law_one, ms_law_names, ms_law_plan, ms_law_history, ms_law_closures, ms_law_told_right, S_ltold]
  refine ⟨_, rfl, ?_⟩
  change Lp _ _ _ (kD (hk cl)) _
  rw [kd_hk]
  refine lp_of (fun i η' => ∃ c4 c5, η' = [some (.mu (some 0) (histC c_History p hs)), some (.bor (.dct (hk cl))), some (.val (.str s)), some (.mu none (.dt (.lst (ys.map .str ++ [.str (Str.ofString "zz_zz")])))), c4, c5]) ⟨_, _, rfl⟩ ?_ ?_
  rotate_left
  · rintro η' ⟨c4', c5', rfl⟩
    exact ⟨_, _, _, _, rfl⟩
  rintro j x η' hx2 ⟨c4', c5', rfl⟩
  obtain ⟨t, ht0, rfl⟩ := map_get hx2
  have htm : t ∈ hNames hs := hnm ▸ List.mem_of_getElem? ht0
  simp (maxSteps := 3000000) only [rPar, rParM, riRange3, roI2, rLcO_L, isN_eq, notN_eq, rSlTu, riZip, riZipO, riListO, rMinDef, rFldG, rSetFG, rDGet, rDIn, rDPut, roLenD, roListD, roSortD, rAsgStar, rForK_L, rDisp1, rSortST, rMakeC_f, kD, vD, iD, keyDt, own, wr, gput, gfind, keyD, keyDt, id_eq, roSplit, roStr1, rSlSt, rSlBy, rRevL, TruD, rOrT, rAndT, rMake_g, roCatA, roRep, rMeth_f, rMeth_g, roOwnB_f, MakeQ_g, rMakeK, roIsC, isC_ins, rFld, rSetF, rXfn, rXf, lk_eq, putD, Dt.ins.injEq, Dt.exn.injEq, RleS, RMulS, RMulZ, roJoin, rRet, rRetN, rSeq, rIfS, rAsg, rVar, ofEn, rC, rOp, rUn, roP, rCB, rCons, rNil, rAndV, rOrV, rNotV, rB, rAnd, rOr, rNot, rIf, rTup, rLst, rDrop, rNext, rNever, look, frz, frzs, looks, held, roIsi, roF1, roL1, roNeg, rDNew, startE, ents, ent, csOf, unal, finds, RI0, RI, int_in, int_bl, len_ls, len_tu, len_st, len_by, at0, at1, at2, at3, ix30, ix31, ix32, eq_ii, ne_ii, eq_by, ne_by, notin_c, in_c, D.rChain, RIxA, roTupOf, RListOf, RListB, List.findSome?, List.getElem?_cons_zero, List.getElem?_cons_succ, List.getElem?_nil, List.set_cons_zero, List.set_cons_succ, List.length_cons, List.length_nil, List.map_cons, List.map_nil, List.replicate, List.nil_append, List.cons_append, List.append_nil, Option.some.injEq, exists_eq_left', exists_eq_left, exists_eq', exists_eq, true_and, and_true, Vl.d.injEq, Vl.nw.injEq, Vl.sl.injEq, Dt.int.injEq, Dt.bl.injEq, Dt.str.injEq, Dt.lst.injEq, Dt.tup.injEq, Dt.byt.injEq, Dt.ty.injEq, Dt.ref.injEq, En.val.injEq, En.mu.injEq, En.bor.injEq, List.cons.injEq, Nat.reduceLT, Nat.reduceAdd, Nat.reduceSub, Nat.zero_add, and_self, ↓reduceIte, Bool.false_eq_true, reduceCtorEq, false_and, and_false, exists_const, exists_false, or_false, false_or, Nat.reduceEqDiff, Option.map_some, Option.getD_some, Option.getD_none, and_assoc, exists_and_left, exists_and_right, rCall_f, rCall_g, f_pre, f_post, g_pre, g_post, g_exc, Prod.forall, Prod.exists, Prod.mk.injEq, exists_const, forall_const, argsD, conP, entD, remP, flagsP, flagAt, putP, aft, Ct.dt.injEq, forall_eq, forall_eq', forall_const, implies_true, false_implies, and_imp, forall_exists_index, forall_apply_eq_imp_iff, List.length_append, retD, rFor_L, asgLc, rLc_L, riList, riTup, riStr, riRange1, riRange2, riEnum, riRev, rgName, rgTup, rgCons, rgNil, wipeE, unw, rYes, rAsgG, rAsgSub, roSetL, rBM, rBM0, roAppend, roOwn0, isa_no, isa_bl, isa_in, isa_st, isa_by, isa_ls, isa_tu, isa_di, beq_self_eq_true, Bool.or_true, Bool.true_or, Bool.or_false, Bool.false_or, Bool.or_self, Bool.not_true, Bool.not_false, Bool.and_true, Bool.true_and, Bool.and_false, Bool.false_and, String.reduceBEq, String.reduceEq, not_true_eq_false, not_false_eq_true, rSlL', roNone, roSome, roCat, D.trk, rRaise0, rRaise1, excD, rTry, rEx, wMixD, goneD, List.isEmpty_nil, if_true, List.length_singleton, Nat.reduceLeDiff, Nat.reducePow, Int.reducePow, Int.reduceLT, Int.reduceLE, Int.reduceNeg, Int.reduceToNat, S_draw, S_one, items, at4, at5, at6, S_law, rFrz, ms_law_well, ms_law_draw, ms_law_one, ms_law_names, ms_law_plan, ms_law_history, ms_law_closures, ms_law_told_right, S_ltold, ms_History_has, S_has, hdg, exH, faH, exH0, keptK_hk, lkH_kept, lkH_sk, lkH_sp, lkH_add, lkH_all, lkH_has, lkH_par, gf_1, K_History.cl, nA_History_parents, histC, List.take_succ_cons, List.take_zero]
  refine ⟨rfl, rfl, ho.toHOk, ?_, ?_⟩
  · rintro a p' hs' s' t' e1 rfl rfl _ _ hr
    obtain ⟨rfl, e2⟩ := histC_inj (C := c_History) (p := p) (p' := p') (hs := hs) (hs' := hs') e1
    have e3 := hk_inj e2
    subst e3
    have ha : a = decide (t ∈ ys) := by rw [Bool.eq_iff_iff, hr, decide_eq_true_iff, hya.mem]
    refine ⟨rfl, rfl, _, rfl, _, hdg, _, in_strs ys _, _, by rw [ne_bb], _, rfl, ?_⟩
    rw [ha, if_neg (by simp)]
    trivial
  · rintro b p' hs' d e e1 rfl rfl h
    obtain ⟨rfl, e2⟩ := histC_inj (C := c_History) (p := p) (p' := p') (hs := hs) (hs' := hs') e1
    have e3 := hk_inj e2
    subst e3
    rcases h with ⟨h, _⟩ | ⟨_, h, _⟩
    · rw [show keptB hs (.str s) = true from decide_eq_true hsm] at h
      cases h
    · rw [show keptB hs (.str t) = true from decide_eq_true htm] at h
      cases h
/-! #### law -/
abbrev s_law : Stmt := top 21
abbrev N_law : List Str := ["_law_script", "_law_cell", "_law_well_here", "_law_rows", "_law_history_here", "_law_some"]
abbrev P_law : List Str := ["_law_script"]
abbrev ms_law : List Md := [.b]
theorem sc_law : FnScope N_law P_law (defScope s_law) := ⟨rfl, rfl, rfl, by decide +kernel, rfl, by decide +kernel, by decide +kernel⟩
theorem ok_law {P : Program} {w : World} {K : PySem.W.Frag} {mg : Str → Option Value} {base : Heap} {f : Addr} {fd : FuncData} {c_FellError c_NoName c_Taken c_NoChange c_History : Addr} (G : Gs K mg c_FellError c_NoName c_Taken c_NoChange c_History) (h0 : Hs P w K mg base CX0 1 "_law_closures" P_law_closures (toSp K ms_law_closures (S_lclo))) (h1 : Hs P w K mg base CX0 6 "_law_told_right" P_law_told_right (toSp K ms_law_told_right (S_ltold c_History))) (h2 : HsM P w K mg base (L2.CX P w) 4 c_History "add" P_History_add (toSp K ms_History_add (S_add c_History c_NoName c_Taken c_NoChange))) (h3 : Hs P w K mg base CX0 1 "_law_draw" P_law_draw (toSp K ms_law_draw (S_draw))) (h4 : Hs P w K mg base CX0 5 "_law_history" P_law_history (toSp K ms_law_history (S_lhist c_History))) (h5 : Hs P w K mg base CX0 3 "_law_plan" P_law_plan (toSp K ms_law_plan (S_lplan 14))) (h6 : Hs P w K mg base CX0 1 "_law_well" P_law_well (toSp K ms_law_well (S_well))) (X_NoChange : ExO P w K mg base "NoChange" c_NoChange "name") (X_NoName : ExO P w K mg base "NoName" c_NoName "name") (X_Taken : ExO P w K mg base "Taken" c_Taken "name") (K_History : ClF K mg "History" c_History) (nA_History_parents : NoAttr K c_History "parents") (F : Fun K "law" "law" s_law f fd) (mf : mg "law" = some (.ref f)) :
    FnOk P w K mg base CX0 7 f fd P_law (toSp K ms_law (S_law)) := by
  obtain ⟨f0, fd0, F0, m0, k0, b0⟩ := h0
  obtain ⟨f1, fd1, F1, m1, k1, b1⟩ := h1
  obtain ⟨f2, fd2, F2, M2, b2⟩ := h2
  obtain ⟨f3, fd3, F3, m3, k3, b3⟩ := h3
  obtain ⟨f4, fd4, F4, m4, k4, b4⟩ := h4
  obtain ⟨f5, fd5, F5, m5, k5, b5⟩ := h5
  obtain ⟨f6, fd6, F6, m6, k6, b6⟩ := h6
  refine F.ok sc_law (fun vs H Q E h => toSp_len h) (fun cdv A outer s H vs Q E hr h => ?_)
  have hu := hr.units
  refine ⟨_, pss_cons (ps_for PassesOwn.never rfl (pi_list (pe_op op_cat (pe_slice sl_list (pv 0) (po_none) (po_some (pe_int))) (pe_lst (pa_cons (pe_int) (pa_nil))))) (pg_name (i := 1) sc_law.nd rfl (by first | exact Or.inl rfl | exact Or.inr rfl | exact .inr (.inl rfl) | exact .inr (.inr rfl))) (pss_cons (ps_set (i := 2) sc_law.nd rfl (by first | exact Or.inl rfl | exact Or.inr rfl) (pe_callS (E := (fun _ => E0)) F6 (hr.mono (by decide)) rfl m6 k6 b6 (fun _ => fun _ _ _ _ _ _ h => False.elim h) (pa_cons (pv 1) (pa_nil)))) (pss_cons (ps_set (i := 3) sc_law.nd rfl (by first | exact Or.inl rfl | exact Or.inr rfl) (pe_callS (E := (fun _ => E0)) F5 (hr.mono (by decide)) rfl m5 k5 b5 (fun _ => fun _ _ _ _ _ _ h => False.elim h) (pa_cons (pv 2) (pa_cons (pe_int) (pa_nil))))) (pss_cons (ps_set (i := 4) sc_law.nd rfl (by first | exact Or.inl rfl | exact Or.inr rfl) (pe_callS (E := (fun _ => E0)) F4 (hr.mono (by decide)) rfl m4 k4 b4 (fun _ => fun _ _ _ _ _ _ h => False.elim h) (pa_cons (pv 3) (pa_nil)))) (pss_cons (ps_if (pt_not (pt_val (pe_callS (E := (fun _ => E0)) F1 (hr.mono (by decide)) rfl m1 k1 b1 (fun _ => fun _ _ _ _ _ _ h => False.elim h) (pa_cons (pv 4) (pa_cons (pe_callS (E := (fun _ => E0)) F0 (hr.mono (by decide)) rfl m0 k0 b0 (fun _ => fun _ _ _ _ _ _ h => False.elim h) (pa_cons (pv 3) (pa_nil))) (pa_nil)))))) (pss_one (ps_ret (pe_bl))) (pss_nil)) (pss_cons (ps_set (i := 5) sc_law.nd rfl (by first | exact Or.inl rfl | exact Or.inr rfl) (pe_lst (pa_cons (pe_ix ix_seq (pe_ix ix_seq (pv 3) (pe_callS (E := (fun _ => E0)) F3 (hr.mono (by decide)) rfl m3 k3 b3 (fun _ => fun _ _ _ _ _ _ h => False.elim h) (pa_cons (pv 2) (pa_cons (pe_callB call_len rfl G.b_len (by decide +kernel) (pa_cons (pv 3) (pa_nil))) (pa_nil)))) (fun _ _ => rfl)) (pe_int) (fun _ _ => rfl)) (pa_cons (pe_ix ix_seq (pe_ix ix_seq (pv 3) (pe_un un_neg (pe_int)) (fun _ _ => rfl)) (pe_int) (fun _ _ => rfl)) (pa_nil))))) (pss_cons (ps_set (i := 3) sc_law.nd rfl (by first | exact Or.inl rfl | exact Or.inr rfl) (pe_op op_cat (pv 3) (pe_lst (pa_cons (pe_tup (pa_cons (pe_str) (pa_cons ((pe_sortST rfl rfl G.b_sorted rfl G.b_set (pv 5))) (pa_nil)))) (pa_nil))))) (pss_cons (ps_expr (pe_methS (E := (WE fun _ _ _ _ => False)) (pv 4) K_History.cl M2 F2 (hr.mono (by decide)) b2 (fun σ => passAt takes0 σ) (pa_cons (pe_str) (pa_cons ((pe_sortST rfl rfl G.b_sorted rfl G.b_set (pv 5))) (pa_nil))))) (pss_one (ps_if (pt_not (pt_val (pe_callS (E := (fun _ => E0)) F1 (hr.mono (by decide)) rfl m1 k1 b1 (fun _ => fun _ _ _ _ _ _ h => False.elim h) (pa_cons (pv 4) (pa_cons (pe_callS (E := (fun _ => E0)) F0 (hr.mono (by decide)) rfl m0 k0 b0 (fun _ => fun _ _ _ _ _ _ h => False.elim h) (pa_cons (pv 3) (pa_nil))) (pa_nil)))))) (pss_one (ps_ret (pe_bl))) (pss_nil))))))))))) (pss_one (ps_ret (pe_bl))), ?_⟩
  refine run_body0 h (by decide) (fun as => ds_seq (ds_for (di_list (de_op (d2_cat) (de_slL (de_var 0) (do_none) (do_some (de_int))) (de_lst (da_cons (de_int) (da_nil))))) (dg_name 1) (ds_seq (ds_asg (de_callS (X := W0) (ms := ms_law_well) (S := S_well) (fun _ _ _ _ h => False.elim h) (da_cons (de_var 1) (da_nil))) 2) (ds_seq (ds_asgG (de_callS (X := W0) (ms := ms_law_plan) (S := S_lplan 14) (fun _ _ _ _ h => False.elim h) (da_cons (de_var 2) (da_cons (de_int) (da_nil)))) (dg_name 3)) (ds_seq (ds_asg (de_callS (X := W0) (ms := ms_law_history) (S := S_lhist c_History) (fun _ _ _ _ h => False.elim h) (da_cons (de_var 3) (da_nil))) 4) (ds_seq (ds_if (dt_not (dt_B (de_callS (X := W0) (ms := ms_law_told_right) (S := S_ltold c_History) (fun _ _ _ _ h => False.elim h) (da_cons (de_var 4) (da_cons (de_callS (X := W0) (ms := ms_law_closures) (S := S_lclo) (fun _ _ _ _ h => False.elim h) (da_cons (de_var 3) (da_nil))) (da_nil)))))) (ds_ret (de_bl)) (ds_next)) (ds_seq (ds_asg (de_lst (da_cons (de_op (d2_P p2_ix) (de_op (d2_P p2_ix) (de_var 3) (de_callS (X := W0) (ms := ms_law_draw) (S := S_draw) (fun _ _ _ _ h => False.elim h) (da_cons (de_var 2) (da_cons (de_cb (dc_F1 f1_len) (da_cons (de_var 3) (da_nil))) (da_nil))))) (de_int)) (da_cons (de_op (d2_P p2_ix) (de_op (d2_P p2_ix) (de_var 3) (de_un d1_neg (de_int))) (de_int)) (da_nil)))) 5) (ds_seq (ds_asgG (de_op (d2_cat) (de_var 3) (de_lst (da_cons (de_tup (da_cons (de_str) (da_cons (de_sortST (de_var 5)) (da_nil)))) (da_nil)))) (dg_name 3)) (ds_seq (ds_drop (de_methS (X := W0) (E := (WE fun _ _ _ _ => False)) (S := S_add c_History c_NoName c_Taken c_NoChange) (fun _ _ _ _ h => False.elim h) (de_var 4) (da_cons (de_str) (da_cons (de_sortST (de_var 5)) (da_nil))))) (ds_if (dt_not (dt_B (de_callS (X := W0) (ms := ms_law_told_right) (S := S_ltold c_History) (fun _ _ _ _ h => False.elim h) (da_cons (de_var 4) (da_cons (de_callS (X := W0) (ms := ms_law_closures) (S := S_lclo) (fun _ _ _ _ h => False.elim h) (da_cons (de_var 3) (da_nil))) (da_nil)))))) (ds_ret (de_bl)) (ds_next)))))))))) (ds_ret (de_bl))) (fun as hp hl => ?_)
  obtain ⟨ns, rfl, hn⟩ := hp
  refine sg fun U0 e0 => ?_
  simp (maxSteps := 3000000) only [rPar, rParM, riRange3, roI2, rLcO_L, isN_eq, notN_eq, rSlTu, riZip, riZipO, riListO, rMinDef, rFldG, rSetFG, rDGet, rDIn, rDPut, roLenD, roListD, roSortD, rAsgStar, rForK_L, rDisp1, rSortST, rMakeC_f, kD, vD, iD, keyDt, own, wr, gput, gfind, keyD, keyDt, id_eq, roSplit, roStr1, rSlSt, rSlBy, rRevL, TruD, rOrT, rAndT, rMake_g, roCatA, roRep, rMeth_f, rMeth_g, roOwnB_f, MakeQ_g, rMakeK, roIsC, isC_ins, rFld, rSetF, rXfn, rXf, lk_eq, putD, Dt.ins.injEq, Dt.exn.injEq, RleS, RMulS, RMulZ, roJoin, rRet, rRetN, rSeq, rIfS, rAsg, rVar, ofEn, rC, rOp, rUn, roP, rCB, rCons, rNil, rAndV, rOrV, rNotV, rB, rAnd, rOr, rNot, rIf, rTup, rLst, rDrop, rNext, rNever, look, frz, frzs, looks, held, roIsi, roF1, roL1, roNeg, rDNew, startE, ents, ent, csOf, unal, finds, RI0, RI, int_in, int_bl, len_ls, len_tu, len_st, len_by, at0, at1, at2, at3, ix30, ix31, ix32, eq_ii, ne_ii, eq_by, ne_by, notin_c, in_c, D.rChain, RIxA, roTupOf, RListOf, RListB, List.findSome?, List.getElem?_cons_zero, List.getElem?_cons_succ, List.getElem?_nil, List.set_cons_zero, List.set_cons_succ, List.length_cons, List.length_nil, List.map_cons, List.map_nil, List.replicate, List.nil_append, List.cons_append, List.append_nil, Option.some.injEq, exists_eq_left', exists_eq_left, exists_eq', exists_eq, true_and, and_true, Vl.d.injEq, Vl.nw.injEq, Vl.sl.injEq, Dt.int.injEq, Dt.bl.injEq, Dt.str.injEq, Dt.lst.injEq, Dt.tup.injEq, Dt.byt.injEq, Dt.ty.injEq, Dt.ref.injEq, En.val.injEq, En.mu.injEq, En.bor.injEq, List.cons.injEq, Nat.reduceLT, Nat.reduceAdd, Nat.reduceSub, Nat.zero_add, and_self, ↓reduceIte, Bool.false_eq_true, reduceCtorEq, false_and, and_false, exists_const, exists_false, or_false, false_or, Nat.reduceEqDiff, Option.map_some, Option.getD_some, Option.getD_none, and_assoc, exists_and_left, exists_and_right, rCall_f, rCall_g, f_pre, f_post, g_pre, g_post, g_exc, Prod.forall, Prod.exists, Prod.mk.injEq, exists_const, forall_const, argsD, conP, entD, remP, flagsP, flagAt, putP, aft, Ct.dt.injEq, forall_eq, forall_eq', forall_const, implies_true, false_implies, and_imp, forall_exists_index, forall_apply_eq_imp_iff, List.length_append, retD, rFor_L, asgLc, rLc_L, riList, riTup, riStr, riRange1, riRange2, riEnum, riRev, rgName, rgTup, rgCons, rgNil, wipeE, unw, rYes, rAsgG, rAsgSub, roSetL, rBM, rBM0, roAppend, roOwn0, isa_no, isa_bl, isa_in, isa_st, isa_by, isa_ls, isa_tu, isa_di, beq_self_eq_true, Bool.or_true, Bool.true_or, Bool.or_false, Bool.false_or, Bool.or_self, Bool.not_true, Bool.not_false, Bool.and_true, Bool.true_and, Bool.and_false, Bool.false_and, String.reduceBEq, String.reduceEq, not_true_eq_false, not_false_eq_true, rSlL', roNone, roSome, roCat, D.trk, rRaise0, rRaise1, excD, rTry, rEx, wMixD, goneD, List.isEmpty_nil, if_true, List.length_singleton, Nat.reduceLeDiff, Nat.reducePow, Int.reducePow, Int.reduceLT, Int.reduceLE, Int.reduceNeg, Int.reduceToNat, S_draw, S_one, items, at4, at5, at6, S_law, rFrz, ms_law_well, ms_law_draw, ms_law_one, ms_law_names, ms_law_plan, ms_law_history, ms_law_closures, ms_law_told_right, ms_law]
  refine ⟨by have := cut_len (List.map Dt.int ns) none (some 5); rw [List.length_map] at this; omega, ?_⟩
  refine lp_of (fun _ η' => ∃ c1 c2 c3 c4 c5, η' = [some (.bor (.lst (ns.map .int))), c1, c2, c3, c4, c5]) ⟨_, _, _, _, _, rfl⟩ ?_ ?_
  rotate_left
  · rintro η' ⟨c1, c2, c3, c4, c5, rfl⟩
    show U0 _
    subst e0
    simp (maxSteps := 3000000) only [rPar, rParM, riRange3, roI2, rLcO_L, isN_eq, notN_eq, rSlTu, riZip, riZipO, riListO, rMinDef, rFldG, rSetFG, rDGet, rDIn, rDPut, roLenD, roListD, roSortD, rAsgStar, rForK_L, rDisp1, rSortST, rMakeC_f, kD, vD, iD, keyDt, own, wr, gput, gfind, keyD, keyDt, id_eq, roSplit, roStr1, rSlSt, rSlBy, rRevL, TruD, rOrT, rAndT, rMake_g, roCatA, roRep, rMeth_f, rMeth_g, roOwnB_f, MakeQ_g, rMakeK, roIsC, isC_ins, rFld, rSetF, rXfn, rXf, lk_eq, putD, Dt.ins.injEq, Dt.exn.injEq, RleS, RMulS, RMulZ, roJoin, rRet, rRetN, rSeq, rIfS, rAsg, rVar, ofEn, rC, rOp, rUn, roP, rCB, rCons, rNil, rAndV, rOrV, rNotV, rB, rAnd, rOr, rNot, rIf, rTup, rLst, rDrop, rNext, rNever, look, frz, frzs, looks, held, roIsi, roF1, roL1, roNeg, rDNew, startE, ents, ent, csOf, unal, finds, RI0, RI, int_in, int_bl, len_ls, len_tu, len_st, len_by, at0, at1, at2, at3, ix30, ix31, ix32, eq_ii, ne_ii, eq_by, ne_by, notin_c, in_c, D.rChain, RIxA, roTupOf, RListOf, RListB, List.findSome?, List.getElem?_cons_zero, List.getElem?_cons_succ, List.getElem?_nil, List.set_cons_zero, List.set_cons_succ, List.length_cons, List.length_nil, List.map_cons, List.map_nil, List.replicate, List.nil_append, List.cons_append, List.append_nil, Option.some.injEq, exists_eq_left', exists_eq_left, exists_eq', exists_eq, true_and, and_true, Vl.d.injEq, Vl.nw.injEq, Vl.sl.injEq, Dt.int.injEq, Dt.bl.injEq, Dt.str.injEq, Dt.lst.injEq, Dt.tup.injEq, Dt.byt.injEq, Dt.ty.injEq, Dt.ref.injEq, En.val.injEq, En.mu.injEq, En.bor.injEq, List.cons.injEq, Nat.reduceLT, Nat.reduceAdd, Nat.reduceSub, Nat.zero_add, and_self, ↓reduceIte, Bool.false_eq_true, reduceCtorEq, false_and, and_false, exists_const, exists_false, or_false, false_or, Nat.reduceEqDiff, Option.map_some, Option.getD_some, Option.getD_none, and_assoc, exists_and_left, exists_and_right, rCall_f, rCall_g, f_pre, f_post, g_pre, g_post, g_exc, Prod.forall, Prod.exists, Prod.mk.injEq, exists_const, forall_const, argsD, conP, entD, remP, flagsP, flagAt, putP, aft, Ct.dt.injEq, forall_eq, forall_eq', forall_const, implies_true, false_implies, and_imp, forall_exists_index, forall_apply_eq_imp_iff, List.length_append, retD, rFor_L, asgLc, rLc_L, riList, riTup, riStr, riRange1, riRange2, riEnum, riRev, rgName, rgTup, rgCons, rgNil, wipeE, unw, rYes, rAsgG, rAsgSub, roSetL, rBM, rBM0, roAppend, roOwn0, isa_no, isa_bl, isa_in, isa_st, isa_by, isa_ls, isa_tu, isa_di, beq_self_eq_true, Bool.or_true, Bool.true_or, Bool.or_false, Bool.false_or, Bool.or_self, Bool.not_true, Bool.not_false, Bool.and_true, Bool.true_and, Bool.and_false, Bool.false_and, String.reduceBEq, String.reduceEq, not_true_eq_false, not_false_eq_true, rSlL', roNone, roSome, roCat, D.trk, rRaise0, rRaise1, excD, rTry, rEx, wMixD, goneD, List.isEmpty_nil, if_true, List.length_singleton, Nat.reduceLeDiff, Nat.reducePow, Int.reducePow, Int.reduceLT, Int.reduceLE, Int.reduceNeg, Int.reduceToNat, S_draw, S_one, items, at4, at5, at6, S_law, rFrz, ms_law_well, ms_law_draw, ms_law_one, ms_law_names, ms_law_plan, ms_law_history, ms_law_closures, ms_law_told_right, ms_law]
  rintro i x η' hx ⟨c1, c2, c3, c4, c5, rfl⟩
  obtain ⟨z, rfl⟩ : ∃ z, x = .int z := by
    have := List.mem_of_getElem? hx
    rw [List.mem_append] at this
    rcases this with h | h
    · obtain ⟨z, _, rfl⟩ := List.mem_map.mp (cut_mem h)
      exact ⟨z, rfl⟩
    · simp only [List.mem_cons, List.mem_nil_iff, or_false] at h
      exact ⟨_, h⟩
  clear hx
  simp (maxSteps := 3000000) only [rPar, rParM, riRange3, roI2, rLcO_L, isN_eq, notN_eq, rSlTu, riZip, riZipO, riListO, rMinDef, rFldG, rSetFG, rDGet, rDIn, rDPut, roLenD, roListD, roSortD, rAsgStar, rForK_L, rDisp1, rSortST, rMakeC_f, kD, vD, iD, keyDt, own, wr, gput, gfind, keyD, keyDt, id_eq, roSplit, roStr1, rSlSt, rSlBy, rRevL, TruD, rOrT, rAndT, rMake_g, roCatA, roRep, rMeth_f, rMeth_g, roOwnB_f, MakeQ_g, rMakeK, roIsC, isC_ins, rFld, rSetF, rXfn, rXf, lk_eq, putD, Dt.ins.injEq, Dt.exn.injEq, RleS, RMulS, RMulZ, roJoin, rRet, rRetN, rIfS, rAsg, rVar, ofEn, rC, rOp, rUn, roP, rCB, rCons, rNil, rAndV, rOrV, rNotV, rB, rAnd, rOr, rNot, rIf, rTup, rLst, rDrop, rNext, rNever, look, frz, frzs, looks, held, roIsi, roF1, roL1, roNeg, rDNew, startE, ents, ent, csOf, unal, finds, RI0, RI, int_in, int_bl, len_ls, len_tu, len_st, len_by, at0, at1, at2, at3, ix30, ix31, ix32, eq_ii, ne_ii, eq_by, ne_by, notin_c, in_c, D.rChain, RIxA, roTupOf, RListOf, RListB, List.findSome?, List.getElem?_cons_zero, List.getElem?_cons_succ, List.getElem?_nil, List.set_cons_zero, List.set_cons_succ, List.length_cons, List.length_nil, List.map_cons, List.map_nil, List.replicate, List.nil_append, List.cons_append, List.append_nil, Option.some.injEq, exists_eq_left', exists_eq_left, exists_eq', exists_eq, true_and, and_true, Vl.d.injEq, Vl.nw.injEq, Vl.sl.injEq, Dt.int.injEq, Dt.bl.injEq, Dt.str.injEq, Dt.lst.injEq, Dt.tup.injEq, Dt.byt.injEq, Dt.ty.injEq, Dt.ref.injEq, En.val.injEq, En.mu.injEq, En.bor.injEq, List.cons.injEq, Nat.reduceLT, Nat.reduceAdd, Nat.reduceSub, Nat.zero_add, and_self, ↓reduceIte, Bool.false_eq_true, reduceCtorEq, false_and, and_false, exists_const, exists_false, or_false, false_or, Nat.reduceEqDiff, Option.map_some, Option.getD_some, Option.getD_none, and_assoc, exists_and_left, exists_and_right, rCall_f, rCall_g, f_pre, f_post, g_pre, g_post, g_exc, Prod.forall, Prod.exists, Prod.mk.injEq, exists_const, forall_const, argsD, conP, entD, remP, flagsP, flagAt, putP, aft, Ct.dt.injEq, forall_eq, forall_eq', forall_const, implies_true, false_implies, and_imp, forall_exists_index, forall_apply_eq_imp_iff, List.length_append, retD, rFor_L, asgLc, rLc_L, riList, riTup, riStr, riRange1, riRange2, riEnum, riRev, rgName, rgTup, rgCons, rgNil, wipeE, unw, rYes, rAsgG, rAsgSub, roSetL, rBM, rBM0, roAppend, roOwn0, isa_no, isa_bl, isa_in, isa_st, isa_by, isa_ls, isa_tu, isa_di, beq_self_eq_true, Bool.or_true, Bool.true_or, Bool.or_false, Bool.false_or, Bool.or_self, Bool.not_true, Bool.not_false, Bool.and_true, Bool.true_and, Bool.and_false, Bool.false_and, String.reduceBEq, String.reduceEq, not_true_eq_false, not_false_eq_true, rSlL', roNone, roSome, roCat, D.trk, rRaise0, rRaise1, excD, rTry, rEx, wMixD, goneD, List.isEmpty_nil, if_true, List.length_singleton, Nat.reduceLeDiff, Nat.reducePow, Int.reducePow, Int.reduceLT, Int.reduceLE, Int.reduceNeg, Int.reduceToNat, S_draw, S_one, items, at4, at5, at6, S_law, rFrz, ms_law_well, ms_law_draw, ms_law_one, ms_law_names, ms_law_plan, ms_law_history, ms_law_closures, ms_law_told_right, ms_law]
  refine sg fun U1 e1 => ?_
  simp (maxSteps := 3000000) only [rPar, rParM, riRange3, roI2, rLcO_L, isN_eq, notN_eq, rSlTu, riZip, riZipO, riListO, rMinDef, rFldG, rSetFG, rDGet, rDIn, rDPut, roLenD, roListD, roSortD, rAsgStar, rForK_L, rDisp1, rSortST, rMakeC_f, kD, vD, iD, keyDt, own, wr, gput, gfind, keyD, keyDt, id_eq, roSplit, roStr1, rSlSt, rSlBy, rRevL, TruD, rOrT, rAndT, rMake_g, roCatA, roRep, rMeth_f, rMeth_g, roOwnB_f, MakeQ_g, rMakeK, roIsC, isC_ins, rFld, rSetF, rXfn, rXf, lk_eq, putD, Dt.ins.injEq, Dt.exn.injEq, RleS, RMulS, RMulZ, roJoin, rRet, rRetN, rSeq, rIfS, rAsg, rVar, ofEn, rC, rOp, rUn, roP, rCB, rCons, rNil, rAndV, rOrV, rNotV, rB, rAnd, rOr, rNot, rIf, rTup, rLst, rDrop, rNext, rNever, look, frz, frzs, looks, held, roIsi, roF1, roL1, roNeg, rDNew, startE, ents, ent, csOf, unal, finds, RI0, RI, int_in, int_bl, len_ls, len_tu, len_st, len_by, at0, at1, at2, at3, ix30, ix31, ix32, eq_ii, ne_ii, eq_by, ne_by, notin_c, in_c, D.rChain, RIxA, roTupOf, RListOf, RListB, List.findSome?, List.getElem?_cons_zero, List.getElem?_cons_succ, List.getElem?_nil, List.set_cons_zero, List.set_cons_succ, List.length_cons, List.length_nil, List.map_cons, List.map_nil, List.replicate, List.nil_append, List.cons_append, List.append_nil, Option.some.injEq, exists_eq_left', exists_eq_left, exists_eq', exists_eq, true_and, and_true, Vl.d.injEq, Vl.nw.injEq, Vl.sl.injEq, Dt.int.injEq, Dt.bl.injEq, Dt.str.injEq, Dt.lst.injEq, Dt.tup.injEq, Dt.byt.injEq, Dt.ty.injEq, Dt.ref.injEq, En.val.injEq, En.mu.injEq, En.bor.injEq, List.cons.injEq, Nat.reduceLT, Nat.reduceAdd, Nat.reduceSub, Nat.zero_add, and_self, ↓reduceIte, Bool.false_eq_true, reduceCtorEq, false_and, and_false, exists_const, exists_false, or_false, false_or, Nat.reduceEqDiff, Option.map_some, Option.getD_some, Option.getD_none, and_assoc, exists_and_left, exists_and_right, rCall_f, rCall_g, f_pre, f_post, g_pre, g_post, g_exc, Prod.forall, Prod.exists, Prod.mk.injEq, exists_const, forall_const, argsD, conP, entD, remP, flagsP, flagAt, putP, aft, Ct.dt.injEq, forall_eq, forall_eq', forall_const, implies_true, false_implies, and_imp, forall_exists_index, forall_apply_eq_imp_iff, List.length_append, retD, rFor_L, asgLc, rLc_L, riList, riTup, riStr, riRange1, riRange2, riEnum, riRev, rgName, rgTup, rgCons, rgNil, wipeE, unw, rYes, rAsgG, rAsgSub, roSetL, rBM, rBM0, roAppend, roOwn0, isa_no, isa_bl, isa_in, isa_st, isa_by, isa_ls, isa_tu, isa_di, beq_self_eq_true, Bool.or_true, Bool.true_or, Bool.or_false, Bool.false_or, Bool.or_self, Bool.not_true, Bool.not_false, Bool.and_true, Bool.true_and, Bool.and_false, Bool.false_and, String.reduceBEq, String.reduceEq, not_true_eq_false, not_false_eq_true, rSlL', roNone, roSome, roCat, D.trk, rRaise0, rRaise1, excD, rTry, rEx, wMixD, goneD, List.isEmpty_nil, if_true, List.length_singleton, Nat.reduceLeDiff, Nat.reducePow, Int.reducePow, Int.reduceLT, Int.reduceLE, Int.reduceNeg, Int.reduceToNat, S_draw, S_one, items, at4, at5, at6, S_law, rFrz, ms_law_well, ms_law_draw, ms_law_one, ms_law_names, ms_law_plan, ms_law_history, ms_law_closures, ms_law_told_right, ms_law, S_well]
  refine fun w hw hcw => ?_
  subst e1
  refine sg fun U1 e1 => ?_
  simp (maxSteps := 3000000) only [rPar, rParM, riRange3, roI2, rLcO_L, isN_eq, notN_eq, rSlTu, riZip, riZipO, riListO, rMinDef, rFldG, rSetFG, rDGet, rDIn, rDPut, roLenD, roListD, roSortD, rAsgStar, rForK_L, rDisp1, rSortST, rMakeC_f, kD, vD, iD, keyDt, own, wr, gput, gfind, keyD, keyDt, id_eq, roSplit, roStr1, rSlSt, rSlBy, rRevL, TruD, rOrT, rAndT, rMake_g, roCatA, roRep, rMeth_f, rMeth_g, roOwnB_f, MakeQ_g, rMakeK, roIsC, isC_ins, rFld, rSetF, rXfn, rXf, lk_eq, putD, Dt.ins.injEq, Dt.exn.injEq, RleS, RMulS, RMulZ, roJoin, rRet, rRetN, rSeq, rIfS, rAsg, rVar, ofEn, rC, rOp, rUn, roP, rCB, rCons, rNil, rAndV, rOrV, rNotV, rB, rAnd, rOr, rNot, rIf, rTup, rLst, rDrop, rNext, rNever, look, frz, frzs, looks, held, roIsi, roF1, roL1, roNeg, rDNew, startE, ents, ent, csOf, unal, finds, RI0, RI, int_in, int_bl, len_ls, len_tu, len_st, len_by, at0, at1, at2, at3, ix30, ix31, ix32, eq_ii, ne_ii, eq_by, ne_by, notin_c, in_c, D.rChain, RIxA, roTupOf, RListOf, RListB, List.findSome?, List.getElem?_cons_zero, List.getElem?_cons_succ, List.getElem?_nil, List.set_cons_zero, List.set_cons_succ, List.length_cons, List.length_nil, List.map_cons, List.map_nil, List.replicate, List.nil_append, List.cons_append, List.append_nil, Option.some.injEq, exists_eq_left', exists_eq_left, exists_eq', exists_eq, true_and, and_true, Vl.d.injEq, Vl.nw.injEq, Vl.sl.injEq, Dt.int.injEq, Dt.bl.injEq, Dt.str.injEq, Dt.lst.injEq, Dt.tup.injEq, Dt.byt.injEq, Dt.ty.injEq, Dt.ref.injEq, En.val.injEq, En.mu.injEq, En.bor.injEq, List.cons.injEq, Nat.reduceLT, Nat.reduceAdd, Nat.reduceSub, Nat.zero_add, and_self, ↓reduceIte, Bool.false_eq_true, reduceCtorEq, false_and, and_false, exists_const, exists_false, or_false, false_or, Nat.reduceEqDiff, Option.map_some, Option.getD_some, Option.getD_none, and_assoc, exists_and_left, exists_and_right, rCall_f, rCall_g, f_pre, f_post, g_pre, g_post, g_exc, Prod.forall, Prod.exists, Prod.mk.injEq, exists_const, forall_const, argsD, conP, entD, remP, flagsP, flagAt, putP, aft, Ct.dt.injEq, forall_eq, forall_eq', forall_const, implies_true, false_implies, and_imp, forall_exists_index, forall_apply_eq_imp_iff, List.length_append, retD, rFor_L, asgLc, rLc_L, riList, riTup, riStr, riRange1, riRange2, riEnum, riRev, rgName, rgTup, rgCons, rgNil, wipeE, unw, rYes, rAsgG, rAsgSub, roSetL, rBM, rBM0, roAppend, roOwn0, isa_no, isa_bl, isa_in, isa_st, isa_by, isa_ls, isa_tu, isa_di, beq_self_eq_true, Bool.or_true, Bool.true_or, Bool.or_false, Bool.false_or, Bool.or_self, Bool.not_true, Bool.not_false, Bool.and_true, Bool.true_and, Bool.and_false, Bool.false_and, String.reduceBEq, String.reduceEq, not_true_eq_false, not_false_eq_true, rSlL', roNone, roSome, roCat, D.trk, rRaise0, rRaise1, excD, rTry, rEx, wMixD, goneD, List.isEmpty_nil, if_true, List.length_singleton, Nat.reduceLeDiff, Nat.reducePow, Int.reducePow, Int.reduceLT, Int.reduceLE, Int.reduceNeg, Int.reduceToNat, S_draw, S_one, items, at4, at5, at6, S_law, rFrz, ms_law_well, ms_law_draw, ms_law_one, ms_law_names, ms_law_plan, ms_law_history, ms_law_closures, ms_law_told_right, ms_law, S_lplan]
  refine ⟨⟨14, rfl, hw, by omega, by omega, by omega⟩, fun hs b hwb hcb h0 h14 ho hzz => ?_⟩
  subst e1
  refine sg fun U1 e1 => ?_
  simp (maxSteps := 3000000) only [rPar, rParM, riRange3, roI2, rLcO_L, isN_eq, notN_eq, rSlTu, riZip, riZipO, riListO, rMinDef, rFldG, rSetFG, rDGet, rDIn, rDPut, roLenD, roListD, roSortD, rAsgStar, rForK_L, rDisp1, rSortST, rMakeC_f, kD, vD, iD, keyDt, own, wr, gput, gfind, keyD, keyDt, id_eq, roSplit, roStr1, rSlSt, rSlBy, rRevL, TruD, rOrT, rAndT, rMake_g, roCatA, roRep, rMeth_f, rMeth_g, roOwnB_f, MakeQ_g, rMakeK, roIsC, isC_ins, rFld, rSetF, rXfn, rXf, lk_eq, putD, Dt.ins.injEq, Dt.exn.injEq, RleS, RMulS, RMulZ, roJoin, rRet, rRetN, rSeq, rIfS, rAsg, rVar, ofEn, rC, rOp, rUn, roP, rCB, rCons, rNil, rAndV, rOrV, rNotV, rB, rAnd, rOr, rNot, rIf, rTup, rLst, rDrop, rNext, rNever, look, frz, frzs, looks, held, roIsi, roF1, roL1, roNeg, rDNew, startE, ents, ent, csOf, unal, finds, RI0, RI, int_in, int_bl, len_ls, len_tu, len_st, len_by, at0, at1, at2, at3, ix30, ix31, ix32, eq_ii, ne_ii, eq_by, ne_by, notin_c, in_c, D.rChain, RIxA, roTupOf, RListOf, RListB, List.findSome?, List.getElem?_cons_zero, List.getElem?_cons_succ, List.getElem?_nil, List.set_cons_zero, List.set_cons_succ, List.length_cons, List.length_nil, List.map_cons, List.map_nil, List.replicate, List.nil_append, List.cons_append, List.append_nil, Option.some.injEq, exists_eq_left', exists_eq_left, exists_eq', exists_eq, true_and, and_true, Vl.d.injEq, Vl.nw.injEq, Vl.sl.injEq, Dt.int.injEq, Dt.bl.injEq, Dt.str.injEq, Dt.lst.injEq, Dt.tup.injEq, Dt.byt.injEq, Dt.ty.injEq, Dt.ref.injEq, En.val.injEq, En.mu.injEq, En.bor.injEq, List.cons.injEq, Nat.reduceLT, Nat.reduceAdd, Nat.reduceSub, Nat.zero_add, and_self, ↓reduceIte, Bool.false_eq_true, reduceCtorEq, false_and, and_false, exists_const, exists_false, or_false, false_or, Nat.reduceEqDiff, Option.map_some, Option.getD_some, Option.getD_none, and_assoc, exists_and_left, exists_and_right, rCall_f, rCall_g, f_pre, f_post, g_pre, g_post, g_exc, Prod.forall, Prod.exists, Prod.mk.injEq, exists_const, forall_const, argsD, conP, entD, remP, flagsP, flagAt, putP, aft, Ct.dt.injEq, forall_eq, forall_eq', forall_const, implies_true, false_implies, and_imp, forall_exists_index, forall_apply_eq_imp_iff, List.length_append, retD, rFor_L, asgLc, rLc_L, riList, riTup, riStr, riRange1, riRange2, riEnum, riRev, rgName, rgTup, rgCons, rgNil, wipeE, unw, rYes, rAsgG, rAsgSub, roSetL, rBM, rBM0, roAppend, roOwn0, isa_no, isa_bl, isa_in, isa_st, isa_by, isa_ls, isa_tu, isa_di, beq_self_eq_true, Bool.or_true, Bool.true_or, Bool.or_false, Bool.false_or, Bool.or_self, Bool.not_true, Bool.not_false, Bool.and_true, Bool.true_and, Bool.and_false, Bool.false_and, String.reduceBEq, String.reduceEq, not_true_eq_false, not_false_eq_true, rSlL', roNone, roSome, roCat, D.trk, rRaise0, rRaise1, excD, rTry, rEx, wMixD, goneD, List.isEmpty_nil, if_true, List.length_singleton, Nat.reduceLeDiff, Nat.reducePow, Int.reducePow, Int.reduceLT, Int.reduceLE, Int.reduceNeg, Int.reduceToNat, S_draw, S_one, items, at4, at5, at6, S_law, rFrz, ms_law_well, ms_law_draw, ms_law_one, ms_law_names, ms_law_plan, ms_law_history, ms_law_closures, ms_law_told_right, ms_law, S_lhist]
  refine ⟨⟨hs, rfl, ho⟩, fun p hs' ehs => ?_⟩
  obtain rfl := rowsD_inj ehs
  clear ehs
  subst e1
  refine sg fun U1 e1 => ?_
  simp (maxSteps := 3000000) only [rPar, rParM, riRange3, roI2, rLcO_L, isN_eq, notN_eq, rSlTu, riZip, riZipO, riListO, rMinDef, rFldG, rSetFG, rDGet, rDIn, rDPut, roLenD, roListD, roSortD, rAsgStar, rForK_L, rDisp1, rSortST, rMakeC_f, kD, vD, iD, keyDt, own, wr, gput, gfind, keyD, keyDt, id_eq, roSplit, roStr1, rSlSt, rSlBy, rRevL, TruD, rOrT, rAndT, rMake_g, roCatA, roRep, rMeth_f, rMeth_g, roOwnB_f, MakeQ_g, rMakeK, roIsC, isC_ins, rFld, rSetF, rXfn, rXf, lk_eq, putD, Dt.ins.injEq, Dt.exn.injEq, RleS, RMulS, RMulZ, roJoin, rRet, rRetN, rSeq, rIfS, rAsg, rVar, ofEn, rC, rOp, rUn, roP, rCB, rCons, rNil, rAndV, rOrV, rNotV, rB, rAnd, rOr, rNot, rIf, rTup, rLst, rDrop, rNext, rNever, look, frz, frzs, looks, held, roIsi, roF1, roL1, roNeg, rDNew, startE, ents, ent, csOf, unal, finds, RI0, RI, int_in, int_bl, len_ls, len_tu, len_st, len_by, at0, at1, at2, at3, ix30, ix31, ix32, eq_ii, ne_ii, eq_by, ne_by, notin_c, in_c, D.rChain, RIxA, roTupOf, RListOf, RListB, List.findSome?, List.getElem?_cons_zero, List.getElem?_cons_succ, List.getElem?_nil, List.set_cons_zero, List.set_cons_succ, List.length_cons, List.length_nil, List.map_cons, List.map_nil, List.replicate, List.nil_append, List.cons_append, List.append_nil, Option.some.injEq, exists_eq_left', exists_eq_left, exists_eq', exists_eq, true_and, and_true, Vl.d.injEq, Vl.nw.injEq, Vl.sl.injEq, Dt.int.injEq, Dt.bl.injEq, Dt.str.injEq, Dt.lst.injEq, Dt.tup.injEq, Dt.byt.injEq, Dt.ty.injEq, Dt.ref.injEq, En.val.injEq, En.mu.injEq, En.bor.injEq, List.cons.injEq, Nat.reduceLT, Nat.reduceAdd, Nat.reduceSub, Nat.zero_add, and_self, ↓reduceIte, Bool.false_eq_true, reduceCtorEq, false_and, and_false, exists_const, exists_false, or_false, false_or, Nat.reduceEqDiff, Option.map_some, Option.getD_some, Option.getD_none, and_assoc, exists_and_left, exists_and_right, rCall_f, rCall_g, f_pre, f_post, g_pre, g_post, g_exc, Prod.forall, Prod.exists, Prod.mk.injEq, exists_const, forall_const, argsD, conP, entD, remP, flagsP, flagAt, putP, aft, Ct.dt.injEq, forall_eq, forall_eq', forall_const, implies_true, false_implies, and_imp, forall_exists_index, forall_apply_eq_imp_iff, List.length_append, retD, rFor_L, asgLc, rLc_L, riList, riTup, riStr, riRange1, riRange2, riEnum, riRev, rgName, rgTup, rgCons, rgNil, wipeE, unw, rYes, rAsgG, rAsgSub, roSetL, rBM, rBM0, roAppend, roOwn0, isa_no, isa_bl, isa_in, isa_st, isa_by, isa_ls, isa_tu, isa_di, beq_self_eq_true, Bool.or_true, Bool.true_or, Bool.or_false, Bool.false_or, Bool.or_self, Bool.not_true, Bool.not_false, Bool.and_true, Bool.true_and, Bool.and_false, Bool.false_and, String.reduceBEq, String.reduceEq, not_true_eq_false, not_false_eq_true, rSlL', roNone, roSome, roCat, D.trk, rRaise0, rRaise1, excD, rTry, rEx, wMixD, goneD, List.isEmpty_nil, if_true, List.length_singleton, Nat.reduceLeDiff, Nat.reducePow, Int.reducePow, Int.reduceLT, Int.reduceLE, Int.reduceNeg, Int.reduceToNat, S_draw, S_one, items, at4, at5, at6, S_law, rFrz, ms_law_well, ms_law_draw, ms_law_one, ms_law_names, ms_law_plan, ms_law_history, ms_law_closures, ms_law_told_right, ms_law, S_lclo, S_ltold]
  refine ⟨⟨hs, rfl, ho⟩, fun hs' cl ehs hcl => ?_⟩
  obtain rfl := rowsD_inj ehs
  refine ⟨⟨p, hs, rfl, cl, rfl, ho, hcl⟩, ?_⟩
  show U1 [some (.bor (.lst (ns.map .int))), some (.val (.int z)), some (.mu none (.dt b)), some (.val (.lst (rowsD hs))), some (.mu none (histC c_History p hs)), c5]
  subst e1
  refine sg fun U1 e1 => ?_
  simp (maxSteps := 3000000) only [rPar, rParM, riRange3, roI2, rLcO_L, isN_eq, notN_eq, rSlTu, riZip, riZipO, riListO, rMinDef, rFldG, rSetFG, rDGet, rDIn, rDPut, roLenD, roListD, roSortD, rAsgStar, rForK_L, rDisp1, rSortST, rMakeC_f, kD, vD, iD, keyDt, own, wr, gput, gfind, keyD, keyDt, id_eq, roSplit, roStr1, rSlSt, rSlBy, rRevL, TruD, rOrT, rAndT, rMake_g, roCatA, roRep, rMeth_f, rMeth_g, roOwnB_f, MakeQ_g, rMakeK, roIsC, isC_ins, rFld, rSetF, rXfn, rXf, lk_eq, putD, Dt.ins.injEq, Dt.exn.injEq, RleS, RMulS, RMulZ, roJoin, rRet, rRetN, rSeq, rIfS, rAsg, rVar, ofEn, rC, rOp, rUn, roP, rCB, rCons, rNil, rAndV, rOrV, rNotV, rB, rAnd, rOr, rNot, rIf, rTup, rLst, rDrop, rNext, rNever, look, frz, frzs, looks, held, roIsi, roF1, roL1, roNeg, rDNew, startE, ents, ent, csOf, unal, finds, RI0, RI, int_in, int_bl, len_ls, len_tu, len_st, len_by, at0, at1, at2, at3, ix30, ix31, ix32, eq_ii, ne_ii, eq_by, ne_by, notin_c, in_c, D.rChain, RIxA, roTupOf, RListOf, RListB, List.findSome?, List.getElem?_cons_zero, List.getElem?_cons_succ, List.getElem?_nil, List.set_cons_zero, List.set_cons_succ, List.length_cons, List.length_nil, List.map_cons, List.map_nil, List.replicate, List.nil_append, List.cons_append, List.append_nil, Option.some.injEq, exists_eq_left', exists_eq_left, exists_eq', exists_eq, true_and, and_true, Vl.d.injEq, Vl.nw.injEq, Vl.sl.injEq, Dt.int.injEq, Dt.bl.injEq, Dt.str.injEq, Dt.lst.injEq, Dt.tup.injEq, Dt.byt.injEq, Dt.ty.injEq, Dt.ref.injEq, En.val.injEq, En.mu.injEq, En.bor.injEq, List.cons.injEq, Nat.reduceLT, Nat.reduceAdd, Nat.reduceSub, Nat.zero_add, and_self, ↓reduceIte, Bool.false_eq_true, reduceCtorEq, false_and, and_false, exists_const, exists_false, or_false, false_or, Nat.reduceEqDiff, Option.map_some, Option.getD_some, Option.getD_none, and_assoc, exists_and_left, exists_and_right, rCall_f, rCall_g, f_pre, f_post, g_pre, g_post, g_exc, Prod.forall, Prod.exists, Prod.mk.injEq, exists_const, forall_const, argsD, conP, entD, remP, flagsP, flagAt, putP, aft, Ct.dt.injEq, forall_eq, forall_eq', forall_const, implies_true, false_implies, and_imp, forall_exists_index, forall_apply_eq_imp_iff, List.length_append, retD, rFor_L, asgLc, rLc_L, riList, riTup, riStr, riRange1, riRange2, riEnum, riRev, rgName, rgTup, rgCons, rgNil, wipeE, unw, rYes, rAsgG, rAsgSub, roSetL, rBM, rBM0, roAppend, roOwn0, isa_no, isa_bl, isa_in, isa_st, isa_by, isa_ls, isa_tu, isa_di, beq_self_eq_true, Bool.or_true, Bool.true_or, Bool.or_false, Bool.false_or, Bool.or_self, Bool.not_true, Bool.not_false, Bool.and_true, Bool.true_and, Bool.and_false, Bool.false_and, String.reduceBEq, String.reduceEq, not_true_eq_false, not_false_eq_true, rSlL', roNone, roSome, roCat, D.trk, rRaise0, rRaise1, excD, rTry, rEx, wMixD, goneD, List.isEmpty_nil, if_true, List.length_singleton, Nat.reduceLeDiff, Nat.reducePow, Int.reducePow, Int.reduceLT, Int.reduceLE, Int.reduceNeg, Int.reduceToNat, S_draw, S_one, items, at4, at5, at6, S_law, rFrz, ms_law_well, ms_law_draw, ms_law_one, ms_law_names, ms_law_plan, ms_law_history, ms_law_closures, ms_law_told_right, ms_law]
  have h15 := ho.l15
  have hpos : 0 < hs.length := List.length_pos_iff.mpr h0
  refine ⟨hwb, by omega, by rw [rowsD_len]; omega, by rw [rowsD_len]; omega, fun a w2 hw2 hc2 h3 h4 => ?_⟩
  obtain ⟨s1, ps1, hm1, ea1⟩ := rows_at h3 h4
  obtain ⟨s2, ps2, hm2, ea2⟩ := rows_last h0
  refine ⟨_, ea1, .str s1, .inr (.inl ⟨_, rfl, rfl⟩), _, ea2, .str s2, .inr (.inl ⟨_, rfl, rfl⟩), ?_⟩
  subst e1
  refine sg fun U1 e1 => ?_
  simp (maxSteps := 3000000) only [rPar, rParM, riRange3, roI2, rLcO_L, isN_eq, notN_eq, rSlTu, riZip, riZipO, riListO, rMinDef, rFldG, rSetFG, rDGet, rDIn, rDPut, roLenD, roListD, roSortD, rAsgStar, rForK_L, rDisp1, rSortST, rMakeC_f, kD, vD, iD, keyDt, own, wr, gput, gfind, keyD, keyDt, id_eq, roSplit, roStr1, rSlSt, rSlBy, rRevL, TruD, rOrT, rAndT, rMake_g, roCatA, roRep, rMeth_f, rMeth_g, roOwnB_f, MakeQ_g, rMakeK, roIsC, isC_ins, rFld, rSetF, rXfn, rXf, lk_eq, putD, Dt.ins.injEq, Dt.exn.injEq, RleS, RMulS, RMulZ, roJoin, rRet, rRetN, rSeq, rIfS, rAsg, rVar, ofEn, rC, rOp, rUn, roP, rCB, rCons, rNil, rAndV, rOrV, rNotV, rB, rAnd, rOr, rNot, rIf, rTup, rLst, rDrop, rNext, rNever, look, frz, frzs, looks, held, roIsi, roF1, roL1, roNeg, rDNew, startE, ents, ent, csOf, unal, finds, RI0, RI, int_in, int_bl, len_ls, len_tu, len_st, len_by, at0, at1, at2, at3, ix30, ix31, ix32, eq_ii, ne_ii, eq_by, ne_by, notin_c, in_c, D.rChain, RIxA, roTupOf, RListOf, RListB, List.findSome?, List.getElem?_cons_zero, List.getElem?_cons_succ, List.getElem?_nil, List.set_cons_zero, List.set_cons_succ, List.length_cons, List.length_nil, List.map_cons, List.map_nil, List.replicate, List.nil_append, List.cons_append, List.append_nil, Option.some.injEq, exists_eq_left', exists_eq_left, exists_eq', exists_eq, true_and, and_true, Vl.d.injEq, Vl.nw.injEq, Vl.sl.injEq, Dt.int.injEq, Dt.bl.injEq, Dt.str.injEq, Dt.lst.injEq, Dt.tup.injEq, Dt.byt.injEq, Dt.ty.injEq, Dt.ref.injEq, En.val.injEq, En.mu.injEq, En.bor.injEq, List.cons.injEq, Nat.reduceLT, Nat.reduceAdd, Nat.reduceSub, Nat.zero_add, and_self, ↓reduceIte, Bool.false_eq_true, reduceCtorEq, false_and, and_false, exists_const, exists_false, or_false, false_or, Nat.reduceEqDiff, Option.map_some, Option.getD_some, Option.getD_none, and_assoc, exists_and_left, exists_and_right, rCall_f, rCall_g, f_pre, f_post, g_pre, g_post, g_exc, Prod.forall, Prod.exists, Prod.mk.injEq, exists_const, forall_const, argsD, conP, entD, remP, flagsP, flagAt, putP, aft, Ct.dt.injEq, forall_eq, forall_eq', forall_const, implies_true, false_implies, and_imp, forall_exists_index, forall_apply_eq_imp_iff, List.length_append, retD, rFor_L, asgLc, rLc_L, riList, riTup, riStr, riRange1, riRange2, riEnum, riRev, rgName, rgTup, rgCons, rgNil, wipeE, unw, rYes, rAsgG, rAsgSub, roSetL, rBM, rBM0, roAppend, roOwn0, isa_no, isa_bl, isa_in, isa_st, isa_by, isa_ls, isa_tu, isa_di, beq_self_eq_true, Bool.or_true, Bool.true_or, Bool.or_false, Bool.false_or, Bool.or_self, Bool.not_true, Bool.not_false, Bool.and_true, Bool.true_and, Bool.and_false, Bool.false_and, String.reduceBEq, String.reduceEq, not_true_eq_false, not_false_eq_true, rSlL', roNone, roSome, roCat, D.trk, rRaise0, rRaise1, excD, rTry, rEx, wMixD, goneD, List.isEmpty_nil, if_true, List.length_singleton, Nat.reduceLeDiff, Nat.reducePow, Int.reducePow, Int.reduceLT, Int.reduceLE, Int.reduceNeg, Int.reduceToNat, S_draw, S_one, items, at4, at5, at6, S_law, rFrz, ms_law_well, ms_law_draw, ms_law_one, ms_law_names, ms_law_plan, ms_law_history, ms_law_closures, ms_law_told_right, ms_law]
  refine ⟨[s1, s2], rfl, by simp, fun ys hso hnd hmem => ⟨by rw [rowsD_len]; omega, ?_⟩⟩
  have hyl : ys.length ≤ 2 := nd_len hnd (m := [s1, s2]) fun x hx => (hmem x).mp hx
  have hfr : zzS ∉ hNames hs := fun h => hzz _ h rfl
  have hpar : ∀ q ∈ ys, q ∈ hNames hs := fun q hq => by
    have := (hmem q).mp hq
    simp only [List.mem_cons, List.mem_nil_iff, or_false] at this
    rcases this with rfl | rfl
    · exact hm1
    · exact hm2
  have hzn : nameS (.str zzS) = true := by decide +kernel
  have hpo : POk (hs ++ [(zzS, ys)]) := ho.snoc hzn hfr hpar hnd (by omega) (by omega)
  have hno : badAdd hs (.str zzS) (.lst (ys.map .str)) = none := badAdd_no hzn hfr hpar hnd
  rw [← rowsD_snoc]
  subst e1
  refine sg fun U1 e1 => ?_
  simp (maxSteps := 3000000) only [rPar, rParM, riRange3, roI2, rLcO_L, isN_eq, notN_eq, rSlTu, riZip, riZipO, riListO, rMinDef, rFldG, rSetFG, rDGet, rDIn, rDPut, roLenD, roListD, roSortD, rAsgStar, rForK_L, rDisp1, rSortST, rMakeC_f, kD, vD, iD, keyDt, own, wr, gput, gfind, keyD, keyDt, id_eq, roSplit, roStr1, rSlSt, rSlBy, rRevL, TruD, rOrT, rAndT, rMake_g, roCatA, roRep, rMeth_f, rMeth_g, roOwnB_f, MakeQ_g, rMakeK, roIsC, isC_ins, rFld, rSetF, rXfn, rXf, lk_eq, putD, Dt.ins.injEq, Dt.exn.injEq, RleS, RMulS, RMulZ, roJoin, rRet, rRetN, rSeq, rIfS, rAsg, rVar, ofEn, rC, rOp, rUn, roP, rCB, rCons, rNil, rAndV, rOrV, rNotV, rB, rAnd, rOr, rNot, rIf, rTup, rLst, rDrop, rNext, rNever, look, frz, frzs, looks, held, roIsi, roF1, roL1, roNeg, rDNew, startE, ents, ent, csOf, unal, finds, RI0, RI, int_in, int_bl, len_ls, len_tu, len_st, len_by, at0, at1, at2, at3, ix30, ix31, ix32, eq_ii, ne_ii, eq_by, ne_by, notin_c, in_c, D.rChain, RIxA, roTupOf, RListOf, RListB, List.findSome?, List.getElem?_cons_zero, List.getElem?_cons_succ, List.getElem?_nil, List.set_cons_zero, List.set_cons_succ, List.length_cons, List.length_nil, List.map_cons, List.map_nil, List.replicate, List.nil_append, List.cons_append, List.append_nil, Option.some.injEq, exists_eq_left', exists_eq_left, exists_eq', exists_eq, true_and, and_true, Vl.d.injEq, Vl.nw.injEq, Vl.sl.injEq, Dt.int.injEq, Dt.bl.injEq, Dt.str.injEq, Dt.lst.injEq, Dt.tup.injEq, Dt.byt.injEq, Dt.ty.injEq, Dt.ref.injEq, En.val.injEq, En.mu.injEq, En.bor.injEq, List.cons.injEq, Nat.reduceLT, Nat.reduceAdd, Nat.reduceSub, Nat.zero_add, and_self, ↓reduceIte, Bool.false_eq_true, reduceCtorEq, false_and, and_false, exists_const, exists_false, or_false, false_or, Nat.reduceEqDiff, Option.map_some, Option.getD_some, Option.getD_none, and_assoc, exists_and_left, exists_and_right, rCall_f, rCall_g, f_pre, f_post, g_pre, g_post, g_exc, Prod.forall, Prod.exists, Prod.mk.injEq, exists_const, forall_const, argsD, conP, entD, remP, flagsP, flagAt, putP, aft, Ct.dt.injEq, forall_eq, forall_eq', forall_const, implies_true, false_implies, and_imp, forall_exists_index, forall_apply_eq_imp_iff, List.length_append, retD, rFor_L, asgLc, rLc_L, riList, riTup, riStr, riRange1, riRange2, riEnum, riRev, rgName, rgTup, rgCons, rgNil, wipeE, unw, rYes, rAsgG, rAsgSub, roSetL, rBM, rBM0, roAppend, roOwn0, isa_no, isa_bl, isa_in, isa_st, isa_by, isa_ls, isa_tu, isa_di, beq_self_eq_true, Bool.or_true, Bool.true_or, Bool.or_false, Bool.false_or, Bool.or_self, Bool.not_true, Bool.not_false, Bool.and_true, Bool.true_and, Bool.and_false, Bool.false_and, String.reduceBEq, String.reduceEq, not_true_eq_false, not_false_eq_true, rSlL', roNone, roSome, roCat, D.trk, rRaise0, rRaise1, excD, rTry, rEx, wMixD, goneD, List.isEmpty_nil, if_true, List.length_singleton, Nat.reduceLeDiff, Nat.reducePow, Int.reducePow, Int.reduceLT, Int.reduceLE, Int.reduceNeg, Int.reduceToNat, S_draw, S_one, items, at4, at5, at6, S_law, rFrz, ms_law_well, ms_law_draw, ms_law_one, ms_law_names, ms_law_plan, ms_law_history, ms_law_closures, ms_law_told_right, ms_law, ms_History_add, S_add, exH, faH, exH0, keptK_hk, lkH_kept, lkH_sk, lkH_sp, lkH_add, lkH_all, lkH_has, lkH_par, gf_1, K_History.cl, nA_History_parents, histC, List.take_succ_cons, List.take_zero]
  refine ⟨[s1, s2], rfl, by simp, fun ys' hso' hnd' hmem' => ?_⟩
  obtain rfl := sorted_uniq hso hso' hnd hnd' fun k => (hmem k).trans (hmem' k).symm
  refine ⟨rfl, by decide, ⟨rfl, fun ds e => ?_⟩, by omega, ?_, ?_⟩
  · cases e
    refine ⟨by rw [List.length_map]; omega, fun x hx => ?_⟩
    obtain ⟨u, _, rfl⟩ := List.mem_map.mp hx
    rfl
  · rintro a' b' p' hs' s' ps' e1' rfl e3 _ rfl rfl
    obtain ⟨rfl, e2⟩ := histC_inj (C := c_History) (p := p) (p' := a') (hs := hs) (hs' := hs') e1'
    have e4 := hk_inj e2
    subst e4
    rw [← hs_inj e3]
    show U1 [some (.bor (.lst (ns.map .int))), some (.val (.int z)), some (.mu none (.dt w2)), some (.val (.lst (rowsD (hs ++ [(zzS, ys)])))), some (.mu none (histC c_History p (hs ++ [(zzS, ys)]))), some (.mu none (.dt (.lst [.str s1, .str s2])))]
    subst e1
    simp (maxSteps := 3000000) only [rPar, rParM, riRange3, roI2, rLcO_L, isN_eq, notN_eq, rSlTu, riZip, riZipO, riListO, rMinDef, rFldG, rSetFG, rDGet, rDIn, rDPut, roLenD, roListD, roSortD, rAsgStar, rForK_L, rDisp1, rSortST, rMakeC_f, kD, vD, iD, keyDt, own, wr, gput, gfind, keyD, keyDt, id_eq, roSplit, roStr1, rSlSt, rSlBy, rRevL, TruD, rOrT, rAndT, rMake_g, roCatA, roRep, rMeth_f, rMeth_g, roOwnB_f, MakeQ_g, rMakeK, roIsC, isC_ins, rFld, rSetF, rXfn, rXf, lk_eq, putD, Dt.ins.injEq, Dt.exn.injEq, RleS, RMulS, RMulZ, roJoin, rRet, rRetN, rSeq, rIfS, rAsg, rVar, ofEn, rC, rOp, rUn, roP, rCB, rCons, rNil, rAndV, rOrV, rNotV, rB, rAnd, rOr, rNot, rIf, rTup, rLst, rDrop, rNext, rNever, look, frz, frzs, looks, held, roIsi, roF1, roL1, roNeg, rDNew, startE, ents, ent, csOf, unal, finds, RI0, RI, int_in, int_bl, len_ls, len_tu, len_st, len_by, at0, at1, at2, at3, ix30, ix31, ix32, eq_ii, ne_ii, eq_by, ne_by, notin_c, in_c, D.rChain, RIxA, roTupOf, RListOf, RListB, List.findSome?, List.getElem?_cons_zero, List.getElem?_cons_succ, List.getElem?_nil, List.set_cons_zero, List.set_cons_succ, List.length_cons, List.length_nil, List.map_cons, List.map_nil, List.replicate, List.nil_append, List.cons_append, List.append_nil, Option.some.injEq, exists_eq_left', exists_eq_left, exists_eq', exists_eq, true_and, and_true, Vl.d.injEq, Vl.nw.injEq, Vl.sl.injEq, Dt.int.injEq, Dt.bl.injEq, Dt.str.injEq, Dt.lst.injEq, Dt.tup.injEq, Dt.byt.injEq, Dt.ty.injEq, Dt.ref.injEq, En.val.injEq, En.mu.injEq, En.bor.injEq, List.cons.injEq, Nat.reduceLT, Nat.reduceAdd, Nat.reduceSub, Nat.zero_add, and_self, ↓reduceIte, Bool.false_eq_true, reduceCtorEq, false_and, and_false, exists_const, exists_false, or_false, false_or, Nat.reduceEqDiff, Option.map_some, Option.getD_some, Option.getD_none, and_assoc, exists_and_left, exists_and_right, rCall_f, rCall_g, f_pre, f_post, g_pre, g_post, g_exc, Prod.forall, Prod.exists, Prod.mk.injEq, exists_const, forall_const, argsD, conP, entD, remP, flagsP, flagAt, putP, aft, Ct.dt.injEq, forall_eq, forall_eq', forall_const, implies_true, false_implies, and_imp, forall_exists_index, forall_apply_eq_imp_iff, List.length_append, retD, rFor_L, asgLc, rLc_L, riList, riTup, riStr, riRange1, riRange2, riEnum, riRev, rgName, rgTup, rgCons, rgNil, wipeE, unw, rYes, rAsgG, rAsgSub, roSetL, rBM, rBM0, roAppend, roOwn0, isa_no, isa_bl, isa_in, isa_st, isa_by, isa_ls, isa_tu, isa_di, beq_self_eq_true, Bool.or_true, Bool.true_or, Bool.or_false, Bool.false_or, Bool.or_self, Bool.not_true, Bool.not_false, Bool.and_true, Bool.true_and, Bool.and_false, Bool.false_and, String.reduceBEq, String.reduceEq, not_true_eq_false, not_false_eq_true, rSlL', roNone, roSome, roCat, D.trk, rRaise0, rRaise1, excD, rTry, rEx, wMixD, goneD, List.isEmpty_nil, if_true, List.length_singleton, Nat.reduceLeDiff, Nat.reducePow, Int.reducePow, Int.reduceLT, Int.reduceLE, Int.reduceNeg, Int.reduceToNat, S_draw, S_one, items, at4, at5, at6, S_law, rFrz, ms_law_well, ms_law_draw, ms_law_one, ms_law_names, ms_law_plan, ms_law_history, ms_law_closures, ms_law_told_right, ms_law, S_lclo, S_ltold]
    refine ⟨⟨_, rfl, hpo⟩, fun hs' cl' ehs hcl' => ?_⟩
    obtain rfl := rowsD_inj ehs
    refine ⟨⟨p, _, rfl, cl', rfl, hpo, hcl'⟩, ?_⟩
    exact ⟨_, _, _, _, _, rfl⟩
  · rintro a' b' p' hs' d e e1' rfl rfl e4
    obtain ⟨rfl, e2⟩ := histC_inj (C := c_History) (p := p) (p' := p') (hs := hs) (hs' := hs') e1'
    rw [← hk_inj e2, hno] at e4
    cases e4
theorem all_mk {l : PySem.W.OpenLaw} {w : World} {K : PySem.W.Frag} {h : Heap} {mg : Str → Option Value} {fa c_FellError c_NoName c_Taken c_NoChange c_History f_is_name f_History___init__ f_History_is_kept f_History_sure_kept f_History_sure_parents f_History_add f_History_all_of f_History_has f_law_well f_law_draw f_law_one f_law_names f_law_plan f_law_history f_law_closures f_law_told_right f_law : Addr} {od_is_name an_is_name od_History___init__ an_History___init__ od_History_is_kept an_History_is_kept od_History_sure_kept an_History_sure_kept od_History_sure_parents an_History_sure_parents od_History_add an_History_add od_History_all_of an_History_all_of od_History_has an_History_has od_law_well an_law_well od_law_draw an_law_draw od_law_one an_law_one od_law_names an_law_names od_law_plan an_law_plan od_law_history an_law_history od_law_closures an_law_closures od_law_told_right an_law_told_right od_law an_law : Option Addr} {sl_is_name sl_History___init__ sl_History_is_kept sl_History_sure_kept sl_History_sure_parents sl_History_add sl_History_all_of sl_History_has sl_law_well sl_law_draw sl_law_one sl_law_names sl_law_plan sl_law_history sl_law_closures sl_law_told_right sl_law : Array (Option Value)} {oc_is_name kV_is_name dc_is_name pm_is_name cd_is_name ct_is_name oc_History___init__ kV_History___init__ dc_History___init__ pm_History___init__ cd_History___init__ ct_History___init__ oc_History_is_kept kV_History_is_kept dc_History_is_kept pm_History_is_kept cd_History_is_kept ct_History_is_kept oc_History_sure_kept kV_History_sure_kept dc_History_sure_kept pm_History_sure_kept cd_History_sure_kept ct_History_sure_kept oc_History_sure_parents kV_History_sure_parents dc_History_sure_parents pm_History_sure_parents cd_History_sure_parents ct_History_sure_parents oc_History_add kV_History_add dc_History_add pm_History_add cd_History_add ct_History_add oc_History_all_of kV_History_all_of dc_History_all_of pm_History_all_of cd_History_all_of ct_History_all_of oc_History_has kV_History_has dc_History_has pm_History_has cd_History_has ct_History_has oc_law_well kV_law_well dc_law_well pm_law_well cd_law_well ct_law_well oc_law_draw kV_law_draw dc_law_draw pm_law_draw cd_law_draw ct_law_draw oc_law_one kV_law_one dc_law_one pm_law_one cd_law_one ct_law_one oc_law_names kV_law_names dc_law_names pm_law_names cd_law_names ct_law_names oc_law_plan kV_law_plan dc_law_plan pm_law_plan cd_law_plan ct_law_plan oc_law_history kV_law_history dc_law_history pm_law_history cd_law_history ct_law_history oc_law_closures kV_law_closures dc_law_closures pm_law_closures cd_law_closures ct_law_closures oc_law_told_right kV_law_told_right dc_law_told_right pm_law_told_right cd_law_told_right ct_law_told_right oc_law kV_law dc_law pm_law cd_law ct_law : Value} {t_LETTERS t_MOST_NAME : Tok} {nm_NoChange q_NoChange : Str} {N_NoChange f_NoChange_init : Addr} {bs_NoChange : List Value} {sn_NoChange : List Str} {sub_NoChange : List Value} {ab_NoChange : Bool} {col_NoChange : Option Bool} {dd_NoChange : Option Addr} {m0_NoChange m1_NoChange m2_NoChange m3_NoChange m5_NoChange : Option Value} {od_NoChange an_NoChange : Option Addr} {sl_NoChange : Array (Option Value)} {oc_NoChange kV_NoChange dc_NoChange pm_NoChange cd_NoChange ct_NoChange : Value} {nm_NoName q_NoName : Str} {N_NoName f_NoName_init : Addr} {bs_NoName : List Value} {sn_NoName : List Str} {sub_NoName : List Value} {ab_NoName : Bool} {col_NoName : Option Bool} {dd_NoName : Option Addr} {m0_NoName m1_NoName m2_NoName m3_NoName m5_NoName : Option Value} {od_NoName an_NoName : Option Addr} {sl_NoName : Array (Option Value)} {oc_NoName kV_NoName dc_NoName pm_NoName cd_NoName ct_NoName : Value} {nm_Taken q_Taken : Str} {N_Taken f_Taken_init : Addr} {bs_Taken : List Value} {sn_Taken : List Str} {sub_Taken : List Value} {ab_Taken : Bool} {col_Taken : Option Bool} {dd_Taken : Option Addr} {m0_Taken m1_Taken m2_Taken m3_Taken m5_Taken : Option Value} {od_Taken an_Taken : Option Addr} {sl_Taken : Array (Option Value)} {oc_Taken kV_Taken dc_Taken pm_Taken cd_Taken ct_Taken : Value} (X : K.In h) (G : h.Ns mainGlobals mg) (hfa : mg "law" = some (.ref fa))
    (aC_FellError : PySem.W.nsIn K mainGlobals "FellError" = some (some (.ref c_FellError)))
    (aC_NoName : PySem.W.nsIn K mainGlobals "NoName" = some (some (.ref c_NoName)))
    (aC_Taken : PySem.W.nsIn K mainGlobals "Taken" = some (some (.ref c_Taken)))
    (aC_NoChange : PySem.W.nsIn K mainGlobals "NoChange" = some (some (.ref c_NoChange)))
    (aC_History : PySem.W.nsIn K mainGlobals "History" = some (some (.ref c_History)))
    (z_LETTERS : PySem.W.nsIn K mainGlobals "LETTERS" = some (some (.str "abcdefghijklmnopqrstuvwxyz" t_LETTERS)))
    (z_MOST_NAME : PySem.W.nsIn K mainGlobals "MOST_NAME" = some (some (.int 12 t_MOST_NAME)))
    (z_all : PySem.W.nsIn K mainGlobals "all" = some none)
    (z_bool : PySem.W.nsIn K mainGlobals "bool" = some none)
    (z_enumerate : PySem.W.nsIn K mainGlobals "enumerate" = some none)
    (z_int : PySem.W.nsIn K mainGlobals "int" = some none)
    (z_isinstance : PySem.W.nsIn K mainGlobals "isinstance" = some none)
    (z_len : PySem.W.nsIn K mainGlobals "len" = some none)
    (z_list : PySem.W.nsIn K mainGlobals "list" = some none)
    (z_range : PySem.W.nsIn K mainGlobals "range" = some none)
    (z_set : PySem.W.nsIn K mainGlobals "set" = some none)
    (z_sorted : PySem.W.nsIn K mainGlobals "sorted" = some none)
    (z_str : PySem.W.nsIn K mainGlobals "str" = some none)
    (fr : PySem.W.readsIn K c_FellError (.type "type") = true)
    (fg : PySem.W.specialIn K (.ref c_FellError) "__getattribute__" = some (some (.builtin "type.__getattribute__")))
    (fv : PySem.W.findCls K (.ref c_FellError) (.type "type") "__init__" = some (.val (.builtin "ValueError.__init__")))
    (xL_NoChange : K.lookup c_NoChange = some (excClassObj nm_NoChange q_NoChange c_NoChange N_NoChange bs_NoChange [.ref c_FellError, .type "ValueError", .type "Exception", .type "BaseException", .type "object"] true sn_NoChange sub_NoChange ab_NoChange col_NoChange dd_NoChange m0_NoChange m1_NoChange m2_NoChange m3_NoChange m5_NoChange "ValueError.__new__"))
    (sa_NoChange : PySem.W.findIn K (.ref c_NoChange) "__setattr__" = some (some (.builtin "object.__setattr__")))
    (nf_NoChange : PySem.W.findIn K (.ref c_NoChange) "name" = some none)
    (in_NoChange : PySem.W.findIn K (.ref c_NoChange) "__init__" = some (some (.ref f_NoChange_init)))
    (ti_NoChange : PySem.W.typeIn K (.ref f_NoChange_init) = some (.type "function"))
    (l_NoChange : K.lookup f_NoChange_init = some ⟨oc_NoChange, od_NoChange, .func (PySem.W.fnOf "__init__" "NoChange.__init__" (defArgs s_NoChange_init) (defBody s_NoChange_init) (defScope s_NoChange_init) .none kV_NoChange dc_NoChange pm_NoChange an_NoChange cd_NoChange ct_NoChange), sl_NoChange⟩)
    (ki_NoChange : PySem.W.codeIn K cd_NoChange "NoChange.__init__" = true)
    (kj_NoChange : PySem.W.keepIn K (.ref f_NoChange_init) = true)
    (xL_NoName : K.lookup c_NoName = some (excClassObj nm_NoName q_NoName c_NoName N_NoName bs_NoName [.ref c_FellError, .type "ValueError", .type "Exception", .type "BaseException", .type "object"] true sn_NoName sub_NoName ab_NoName col_NoName dd_NoName m0_NoName m1_NoName m2_NoName m3_NoName m5_NoName "ValueError.__new__"))
    (sa_NoName : PySem.W.findIn K (.ref c_NoName) "__setattr__" = some (some (.builtin "object.__setattr__")))
    (nf_NoName : PySem.W.findIn K (.ref c_NoName) "name" = some none)
    (in_NoName : PySem.W.findIn K (.ref c_NoName) "__init__" = some (some (.ref f_NoName_init)))
    (ti_NoName : PySem.W.typeIn K (.ref f_NoName_init) = some (.type "function"))
    (l_NoName : K.lookup f_NoName_init = some ⟨oc_NoName, od_NoName, .func (PySem.W.fnOf "__init__" "NoName.__init__" (defArgs s_NoName_init) (defBody s_NoName_init) (defScope s_NoName_init) .none kV_NoName dc_NoName pm_NoName an_NoName cd_NoName ct_NoName), sl_NoName⟩)
    (ki_NoName : PySem.W.codeIn K cd_NoName "NoName.__init__" = true)
    (kj_NoName : PySem.W.keepIn K (.ref f_NoName_init) = true)
    (xL_Taken : K.lookup c_Taken = some (excClassObj nm_Taken q_Taken c_Taken N_Taken bs_Taken [.ref c_FellError, .type "ValueError", .type "Exception", .type "BaseException", .type "object"] true sn_Taken sub_Taken ab_Taken col_Taken dd_Taken m0_Taken m1_Taken m2_Taken m3_Taken m5_Taken "ValueError.__new__"))
    (sa_Taken : PySem.W.findIn K (.ref c_Taken) "__setattr__" = some (some (.builtin "object.__setattr__")))
    (nf_Taken : PySem.W.findIn K (.ref c_Taken) "name" = some none)
    (in_Taken : PySem.W.findIn K (.ref c_Taken) "__init__" = some (some (.ref f_Taken_init)))
    (ti_Taken : PySem.W.typeIn K (.ref f_Taken_init) = some (.type "function"))
    (l_Taken : K.lookup f_Taken_init = some ⟨oc_Taken, od_Taken, .func (PySem.W.fnOf "__init__" "Taken.__init__" (defArgs s_Taken_init) (defBody s_Taken_init) (defScope s_Taken_init) .none kV_Taken dc_Taken pm_Taken an_Taken cd_Taken ct_Taken), sl_Taken⟩)
    (ki_Taken : PySem.W.codeIn K cd_Taken "Taken.__init__" = true)
    (kj_Taken : PySem.W.keepIn K (.ref f_Taken_init) = true)
    (pg_History : PySem.W.plainGet K c_History Str.empty = true)
    (hd_History : PySem.W.hasDictIn K c_History = true)
    (po_History : PySem.W.plainOver K c_History = true)
    (sa_History : PySem.W.findIn K (.ref c_History) "__setattr__" = some (some (.builtin "object.__setattr__")))
    (mk_History : PySem.W.makesIn K c_History = true)
    (kc_History : PySem.W.keepIn K (.ref c_History) = true)
    (nA_History_parents : PySem.W.findIn K (.ref c_History) "parents" = some none)
    (kF_NoChange : PySem.W.keepIn K (.ref c_NoChange) = true)
    (bF_NoChange : PySem.W.subIn K (.ref c_NoChange) (.type "BaseException") = some true)
    (tF_NoChange : PySem.W.typeIn K (.ref c_NoChange) = some (.type "type"))
    (e1_NoChange : PySem.W.findIn K (.ref c_NoChange) "__getattribute__" = some (some (.builtin "BaseException.__getattribute__")))
    (e2_NoChange : PySem.W.findIn K (.ref c_NoChange) "__getattr__" = some none)
    (e4_NoChange : PySem.W.hasDictIn K c_NoChange = true)
    (e5_NoChange : PySem.W.findIn K (.ref c_NoChange) "__class__" = some (some (.builtin "object.__class__")))
    (e6_NoChange : PySem.W.specialIn K (.builtin "object.__class__") "__get__" = some (some (.builtin "getset_descriptor.__get__")))
    (e7_NoChange : PySem.W.takesIn K (.builtin "object.__class__") = some true)
    (e8_NoChange : PySem.W.mroIn K c_NoChange (.type "object") = some true)
    (kF_NoName : PySem.W.keepIn K (.ref c_NoName) = true)
    (bF_NoName : PySem.W.subIn K (.ref c_NoName) (.type "BaseException") = some true)
    (tF_NoName : PySem.W.typeIn K (.ref c_NoName) = some (.type "type"))
    (e1_NoName : PySem.W.findIn K (.ref c_NoName) "__getattribute__" = some (some (.builtin "BaseException.__getattribute__")))
    (e2_NoName : PySem.W.findIn K (.ref c_NoName) "__getattr__" = some none)
    (e4_NoName : PySem.W.hasDictIn K c_NoName = true)
    (e5_NoName : PySem.W.findIn K (.ref c_NoName) "__class__" = some (some (.builtin "object.__class__")))
    (e6_NoName : PySem.W.specialIn K (.builtin "object.__class__") "__get__" = some (some (.builtin "getset_descriptor.__get__")))
    (e7_NoName : PySem.W.takesIn K (.builtin "object.__class__") = some true)
    (e8_NoName : PySem.W.mroIn K c_NoName (.type "object") = some true)
    (kF_Taken : PySem.W.keepIn K (.ref c_Taken) = true)
    (bF_Taken : PySem.W.subIn K (.ref c_Taken) (.type "BaseException") = some true)
    (tF_Taken : PySem.W.typeIn K (.ref c_Taken) = some (.type "type"))
    (e1_Taken : PySem.W.findIn K (.ref c_Taken) "__getattribute__" = some (some (.builtin "BaseException.__getattribute__")))
    (e2_Taken : PySem.W.findIn K (.ref c_Taken) "__getattr__" = some none)
    (e4_Taken : PySem.W.hasDictIn K c_Taken = true)
    (e5_Taken : PySem.W.findIn K (.ref c_Taken) "__class__" = some (some (.builtin "object.__class__")))
    (e6_Taken : PySem.W.specialIn K (.builtin "object.__class__") "__get__" = some (some (.builtin "getset_descriptor.__get__")))
    (e7_Taken : PySem.W.takesIn K (.builtin "object.__class__") = some true)
    (e8_Taken : PySem.W.mroIn K c_Taken (.type "object") = some true)
    (a_is_name : PySem.W.nsIn K mainGlobals "is_name" = some (some (.ref f_is_name)))
    (l_is_name : K.lookup f_is_name = some ⟨oc_is_name, od_is_name, .func (PySem.W.fnOf "is_name" "is_name" (defArgs s_is_name) (defBody s_is_name) (defScope s_is_name) .none kV_is_name dc_is_name pm_is_name an_is_name cd_is_name ct_is_name), sl_is_name⟩)
    (k1_is_name : PySem.W.codeIn K cd_is_name "is_name" = true)
    (k2_is_name : PySem.W.keepIn K (.ref f_is_name) = true)
    (a_History___init__ : PySem.W.findIn K (.ref c_History) "__init__" = some (some (.ref f_History___init__)))
    (i_History___init__ : PySem.W.isFn K (.ref f_History___init__) = true)
    (l_History___init__ : K.lookup f_History___init__ = some ⟨oc_History___init__, od_History___init__, .func (PySem.W.fnOf "__init__" "History.__init__" (defArgs s_History___init__) (defBody s_History___init__) (defScope s_History___init__) .none kV_History___init__ dc_History___init__ pm_History___init__ an_History___init__ cd_History___init__ ct_History___init__), sl_History___init__⟩)
    (k1_History___init__ : PySem.W.codeIn K cd_History___init__ "History.__init__" = true)
    (k2_History___init__ : PySem.W.keepIn K (.ref f_History___init__) = true)
    (a_History_is_kept : PySem.W.findIn K (.ref c_History) "is_kept" = some (some (.ref f_History_is_kept)))
    (i_History_is_kept : PySem.W.isFn K (.ref f_History_is_kept) = true)
    (l_History_is_kept : K.lookup f_History_is_kept = some ⟨oc_History_is_kept, od_History_is_kept, .func (PySem.W.fnOf "is_kept" "History.is_kept" (defArgs s_History_is_kept) (defBody s_History_is_kept) (defScope s_History_is_kept) .none kV_History_is_kept dc_History_is_kept pm_History_is_kept an_History_is_kept cd_History_is_kept ct_History_is_kept), sl_History_is_kept⟩)
    (k1_History_is_kept : PySem.W.codeIn K cd_History_is_kept "History.is_kept" = true)
    (k2_History_is_kept : PySem.W.keepIn K (.ref f_History_is_kept) = true)
    (a_History_sure_kept : PySem.W.findIn K (.ref c_History) "sure_kept" = some (some (.ref f_History_sure_kept)))
    (i_History_sure_kept : PySem.W.isFn K (.ref f_History_sure_kept) = true)
    (l_History_sure_kept : K.lookup f_History_sure_kept = some ⟨oc_History_sure_kept, od_History_sure_kept, .func (PySem.W.fnOf "sure_kept" "History.sure_kept" (defArgs s_History_sure_kept) (defBody s_History_sure_kept) (defScope s_History_sure_kept) .none kV_History_sure_kept dc_History_sure_kept pm_History_sure_kept an_History_sure_kept cd_History_sure_kept ct_History_sure_kept), sl_History_sure_kept⟩)
    (k1_History_sure_kept : PySem.W.codeIn K cd_History_sure_kept "History.sure_kept" = true)
    (k2_History_sure_kept : PySem.W.keepIn K (.ref f_History_sure_kept) = true)
    (a_History_sure_parents : PySem.W.findIn K (.ref c_History) "sure_parents" = some (some (.ref f_History_sure_parents)))
    (i_History_sure_parents : PySem.W.isFn K (.ref f_History_sure_parents) = true)
    (l_History_sure_parents : K.lookup f_History_sure_parents = some ⟨oc_History_sure_parents, od_History_sure_parents, .func (PySem.W.fnOf "sure_parents" "History.sure_parents" (defArgs s_History_sure_parents) (defBody s_History_sure_parents) (defScope s_History_sure_parents) .none kV_History_sure_parents dc_History_sure_parents pm_History_sure_parents an_History_sure_parents cd_History_sure_parents ct_History_sure_parents), sl_History_sure_parents⟩)
    (k1_History_sure_parents : PySem.W.codeIn K cd_History_sure_parents "History.sure_parents" = true)
    (k2_History_sure_parents : PySem.W.keepIn K (.ref f_History_sure_parents) = true)
    (a_History_add : PySem.W.findIn K (.ref c_History) "add" = some (some (.ref f_History_add)))
    (i_History_add : PySem.W.isFn K (.ref f_History_add) = true)
    (l_History_add : K.lookup f_History_add = some ⟨oc_History_add, od_History_add, .func (PySem.W.fnOf "add" "History.add" (defArgs s_History_add) (defBody s_History_add) (defScope s_History_add) .none kV_History_add dc_History_add pm_History_add an_History_add cd_History_add ct_History_add), sl_History_add⟩)
    (k1_History_add : PySem.W.codeIn K cd_History_add "History.add" = true)
    (k2_History_add : PySem.W.keepIn K (.ref f_History_add) = true)
    (a_History_all_of : PySem.W.findIn K (.ref c_History) "all_of" = some (some (.ref f_History_all_of)))
    (i_History_all_of : PySem.W.isFn K (.ref f_History_all_of) = true)
    (l_History_all_of : K.lookup f_History_all_of = some ⟨oc_History_all_of, od_History_all_of, .func (PySem.W.fnOf "all_of" "History.all_of" (defArgs s_History_all_of) (defBody s_History_all_of) (defScope s_History_all_of) .none kV_History_all_of dc_History_all_of pm_History_all_of an_History_all_of cd_History_all_of ct_History_all_of), sl_History_all_of⟩)
    (k1_History_all_of : PySem.W.codeIn K cd_History_all_of "History.all_of" = true)
    (k2_History_all_of : PySem.W.keepIn K (.ref f_History_all_of) = true)
    (a_History_has : PySem.W.findIn K (.ref c_History) "has" = some (some (.ref f_History_has)))
    (i_History_has : PySem.W.isFn K (.ref f_History_has) = true)
    (l_History_has : K.lookup f_History_has = some ⟨oc_History_has, od_History_has, .func (PySem.W.fnOf "has" "History.has" (defArgs s_History_has) (defBody s_History_has) (defScope s_History_has) .none kV_History_has dc_History_has pm_History_has an_History_has cd_History_has ct_History_has), sl_History_has⟩)
    (k1_History_has : PySem.W.codeIn K cd_History_has "History.has" = true)
    (k2_History_has : PySem.W.keepIn K (.ref f_History_has) = true)
    (a_law_well : PySem.W.nsIn K mainGlobals "_law_well" = some (some (.ref f_law_well)))
    (l_law_well : K.lookup f_law_well = some ⟨oc_law_well, od_law_well, .func (PySem.W.fnOf "_law_well" "_law_well" (defArgs s_law_well) (defBody s_law_well) (defScope s_law_well) .none kV_law_well dc_law_well pm_law_well an_law_well cd_law_well ct_law_well), sl_law_well⟩)
    (k1_law_well : PySem.W.codeIn K cd_law_well "_law_well" = true)
    (k2_law_well : PySem.W.keepIn K (.ref f_law_well) = true)
    (a_law_draw : PySem.W.nsIn K mainGlobals "_law_draw" = some (some (.ref f_law_draw)))
    (l_law_draw : K.lookup f_law_draw = some ⟨oc_law_draw, od_law_draw, .func (PySem.W.fnOf "_law_draw" "_law_draw" (defArgs s_law_draw) (defBody s_law_draw) (defScope s_law_draw) .none kV_law_draw dc_law_draw pm_law_draw an_law_draw cd_law_draw ct_law_draw), sl_law_draw⟩)
    (k1_law_draw : PySem.W.codeIn K cd_law_draw "_law_draw" = true)
    (k2_law_draw : PySem.W.keepIn K (.ref f_law_draw) = true)
    (a_law_one : PySem.W.nsIn K mainGlobals "_law_one" = some (some (.ref f_law_one)))
    (l_law_one : K.lookup f_law_one = some ⟨oc_law_one, od_law_one, .func (PySem.W.fnOf "_law_one" "_law_one" (defArgs s_law_one) (defBody s_law_one) (defScope s_law_one) .none kV_law_one dc_law_one pm_law_one an_law_one cd_law_one ct_law_one), sl_law_one⟩)
    (k1_law_one : PySem.W.codeIn K cd_law_one "_law_one" = true)
    (k2_law_one : PySem.W.keepIn K (.ref f_law_one) = true)
    (a_law_names : PySem.W.nsIn K mainGlobals "_law_names" = some (some (.ref f_law_names)))
    (l_law_names : K.lookup f_law_names = some ⟨oc_law_names, od_law_names, .func (PySem.W.fnOf "_law_names" "_law_names" (defArgs s_law_names) (defBody s_law_names) (defScope s_law_names) .none kV_law_names dc_law_names pm_law_names an_law_names cd_law_names ct_law_names), sl_law_names⟩)
    (k1_law_names : PySem.W.codeIn K cd_law_names "_law_names" = true)
    (k2_law_names : PySem.W.keepIn K (.ref f_law_names) = true)
    (a_law_plan : PySem.W.nsIn K mainGlobals "_law_plan" = some (some (.ref f_law_plan)))
    (l_law_plan : K.lookup f_law_plan = some ⟨oc_law_plan, od_law_plan, .func (PySem.W.fnOf "_law_plan" "_law_plan" (defArgs s_law_plan) (defBody s_law_plan) (defScope s_law_plan) .none kV_law_plan dc_law_plan pm_law_plan an_law_plan cd_law_plan ct_law_plan), sl_law_plan⟩)
    (k1_law_plan : PySem.W.codeIn K cd_law_plan "_law_plan" = true)
    (k2_law_plan : PySem.W.keepIn K (.ref f_law_plan) = true)
    (a_law_history : PySem.W.nsIn K mainGlobals "_law_history" = some (some (.ref f_law_history)))
    (l_law_history : K.lookup f_law_history = some ⟨oc_law_history, od_law_history, .func (PySem.W.fnOf "_law_history" "_law_history" (defArgs s_law_history) (defBody s_law_history) (defScope s_law_history) .none kV_law_history dc_law_history pm_law_history an_law_history cd_law_history ct_law_history), sl_law_history⟩)
    (k1_law_history : PySem.W.codeIn K cd_law_history "_law_history" = true)
    (k2_law_history : PySem.W.keepIn K (.ref f_law_history) = true)
    (a_law_closures : PySem.W.nsIn K mainGlobals "_law_closures" = some (some (.ref f_law_closures)))
    (l_law_closures : K.lookup f_law_closures = some ⟨oc_law_closures, od_law_closures, .func (PySem.W.fnOf "_law_closures" "_law_closures" (defArgs s_law_closures) (defBody s_law_closures) (defScope s_law_closures) .none kV_law_closures dc_law_closures pm_law_closures an_law_closures cd_law_closures ct_law_closures), sl_law_closures⟩)
    (k1_law_closures : PySem.W.codeIn K cd_law_closures "_law_closures" = true)
    (k2_law_closures : PySem.W.keepIn K (.ref f_law_closures) = true)
    (a_law_told_right : PySem.W.nsIn K mainGlobals "_law_told_right" = some (some (.ref f_law_told_right)))
    (l_law_told_right : K.lookup f_law_told_right = some ⟨oc_law_told_right, od_law_told_right, .func (PySem.W.fnOf "_law_told_right" "_law_told_right" (defArgs s_law_told_right) (defBody s_law_told_right) (defScope s_law_told_right) .none kV_law_told_right dc_law_told_right pm_law_told_right an_law_told_right cd_law_told_right ct_law_told_right), sl_law_told_right⟩)
    (k1_law_told_right : PySem.W.codeIn K cd_law_told_right "_law_told_right" = true)
    (k2_law_told_right : PySem.W.keepIn K (.ref f_law_told_right) = true)
    (a_law : PySem.W.nsIn K mainGlobals "law" = some (some (.ref f_law)))
    (l_law : K.lookup f_law = some ⟨oc_law, od_law, .func (PySem.W.fnOf "law" "law" (defArgs s_law) (defBody s_law) (defScope s_law) .none kV_law dc_law pm_law an_law cd_law ct_law), sl_law⟩)
    (k1_law : PySem.W.codeIn K cd_law "law" = true)
    (k2_law : PySem.W.keepIn K (.ref f_law) = true)
    : ∃ fd : FuncData, (∀ (s : Shared) (v : Value), BindsTo s fd ⟨[v], []⟩ [("_law_script", v)]) ∧ ∀ base : Heap, K.In base → base.Ns mainGlobals mg → FnOk l.prog w K mg base CX0 7 fa fd ["_law_script"] (toSp K ms_law (S_law)) := by
  have e := hfa.symm.trans (PySem.W.mg_of X G a_law)
  cases e
  have GG : Gs K mg c_FellError c_NoName c_Taken c_NoChange c_History := ⟨PySem.W.mg_of X G aC_History, ⟨_, PySem.W.mg_of X G z_LETTERS⟩, ⟨_, PySem.W.mg_of X G z_MOST_NAME⟩, PySem.W.mg_none_of X G z_all, PySem.W.mg_none_of X G z_bool, PySem.W.mg_none_of X G z_enumerate, PySem.W.mg_none_of X G z_int, PySem.W.mg_none_of X G z_isinstance, PySem.W.mg_none_of X G z_len, PySem.W.mg_none_of X G z_list, PySem.W.mg_none_of X G z_range, PySem.W.mg_none_of X G z_set, PySem.W.mg_none_of X G z_sorted, PySem.W.mg_none_of X G z_str⟩
  have K_History : ClF K mg "History" c_History := ⟨PySem.W.mg_of X G aC_History, ⟨pg_History, hd_History, po_History, sa_History⟩⟩
  have F_is_name := fun_mk (st := s_is_name) l_is_name k1_is_name k2_is_name
  have F_History___init__ := fun_mk (st := s_History___init__) l_History___init__ k1_History___init__ k2_History___init__
  have F_History_is_kept := fun_mk (st := s_History_is_kept) l_History_is_kept k1_History_is_kept k2_History_is_kept
  have F_History_sure_kept := fun_mk (st := s_History_sure_kept) l_History_sure_kept k1_History_sure_kept k2_History_sure_kept
  have F_History_sure_parents := fun_mk (st := s_History_sure_parents) l_History_sure_parents k1_History_sure_parents k2_History_sure_parents
  have F_History_add := fun_mk (st := s_History_add) l_History_add k1_History_add k2_History_add
  have F_History_all_of := fun_mk (st := s_History_all_of) l_History_all_of k1_History_all_of k2_History_all_of
  have F_History_has := fun_mk (st := s_History_has) l_History_has k1_History_has k2_History_has
  have F_law_well := fun_mk (st := s_law_well) l_law_well k1_law_well k2_law_well
  have F_law_draw := fun_mk (st := s_law_draw) l_law_draw k1_law_draw k2_law_draw
  have F_law_one := fun_mk (st := s_law_one) l_law_one k1_law_one k2_law_one
  have F_law_names := fun_mk (st := s_law_names) l_law_names k1_law_names k2_law_names
  have F_law_plan := fun_mk (st := s_law_plan) l_law_plan k1_law_plan k2_law_plan
  have F_law_history := fun_mk (st := s_law_history) l_law_history k1_law_history k2_law_history
  have F_law_closures := fun_mk (st := s_law_closures) l_law_closures k1_law_closures k2_law_closures
  have F_law_told_right := fun_mk (st := s_law_told_right) l_law_told_right k1_law_told_right k2_law_told_right
  have F_law := fun_mk (st := s_law) l_law k1_law k2_law
  refine ⟨PySem.W.fnOf "law" "law" (defArgs s_law) (defBody s_law) (defScope s_law) .none kV_law dc_law pm_law an_law cd_law ct_law, fun s v => .of_eq rfl, fun base _ _ => ?_⟩
  have O_NoChange : OexC K c_NoChange := ⟨⟨_, _, _, _, _, _, _, _, _, _, _, _, _, _, _, xL_NoChange, rfl⟩, sa_NoChange, bF_NoChange, tF_NoChange, kF_NoChange⟩
  have FF_NoChange := fun_mk (st := s_NoChange_init) l_NoChange ki_NoChange kj_NoChange
  have X_NoChange : ExO l.prog w K mg base "NoChange" c_NoChange "name" := ⟨PySem.W.mg_of X G aC_NoChange, O_NoChange, nf_NoChange, ⟨e1_NoChange, e2_NoChange, bF_NoChange, e4_NoChange, e5_NoChange, e6_NoChange, e7_NoChange, e8_NoChange⟩, ⟨_, _, _, in_NoChange, ti_NoChange, ok_NoChange_init O_NoChange nf_NoChange ⟨fr, fg, fv⟩ (PySem.W.mg_of X G aC_FellError) FF_NoChange, FF_NoChange.binds (ps := ["self", "name"]) fun _ _ _ _ _ _ us hl => match us, hl with | [_, _], _ => rfl⟩⟩
  have O_NoName : OexC K c_NoName := ⟨⟨_, _, _, _, _, _, _, _, _, _, _, _, _, _, _, xL_NoName, rfl⟩, sa_NoName, bF_NoName, tF_NoName, kF_NoName⟩
  have FF_NoName := fun_mk (st := s_NoName_init) l_NoName ki_NoName kj_NoName
  have X_NoName : ExO l.prog w K mg base "NoName" c_NoName "name" := ⟨PySem.W.mg_of X G aC_NoName, O_NoName, nf_NoName, ⟨e1_NoName, e2_NoName, bF_NoName, e4_NoName, e5_NoName, e6_NoName, e7_NoName, e8_NoName⟩, ⟨_, _, _, in_NoName, ti_NoName, ok_NoName_init O_NoName nf_NoName ⟨fr, fg, fv⟩ (PySem.W.mg_of X G aC_FellError) FF_NoName, FF_NoName.binds (ps := ["self", "name"]) fun _ _ _ _ _ _ us hl => match us, hl with | [_, _], _ => rfl⟩⟩
  have O_Taken : OexC K c_Taken := ⟨⟨_, _, _, _, _, _, _, _, _, _, _, _, _, _, _, xL_Taken, rfl⟩, sa_Taken, bF_Taken, tF_Taken, kF_Taken⟩
  have FF_Taken := fun_mk (st := s_Taken_init) l_Taken ki_Taken kj_Taken
  have X_Taken : ExO l.prog w K mg base "Taken" c_Taken "name" := ⟨PySem.W.mg_of X G aC_Taken, O_Taken, nf_Taken, ⟨e1_Taken, e2_Taken, bF_Taken, e4_Taken, e5_Taken, e6_Taken, e7_Taken, e8_Taken⟩, ⟨_, _, _, in_Taken, ti_Taken, ok_Taken_init O_Taken nf_Taken ⟨fr, fg, fv⟩ (PySem.W.mg_of X G aC_FellError) FF_Taken, FF_Taken.binds (ps := ["self", "name"]) fun _ _ _ _ _ _ us hl => match us, hl with | [_, _], _ => rfl⟩⟩
  have h_is_name := ok_is_name (P := l.prog) (w := w) (base := base) GG   X_NoChange X_NoName X_Taken K_History nA_History_parents F_is_name (PySem.W.mg_of X G a_is_name)
  have h_History___init__ := ok_History___init__ (P := l.prog) (w := w) (base := base) GG   X_NoChange X_NoName X_Taken K_History nA_History_parents F_History___init__ (⟨mk_History, a_History___init__, i_History___init__, kc_History⟩)
  have h_History_is_kept := ok_History_is_kept (P := l.prog) (w := w) (base := base) GG   X_NoChange X_NoName X_Taken K_History nA_History_parents F_History_is_kept (⟨a_History_is_kept, i_History_is_kept, k2_History_is_kept⟩)
  have h_History_sure_kept := ok_History_sure_kept (P := l.prog) (w := w) (base := base) GG  h_History_is_kept X_NoChange X_NoName X_Taken K_History nA_History_parents F_History_sure_kept (⟨a_History_sure_kept, i_History_sure_kept, k2_History_sure_kept⟩)
  have h_History_sure_parents := ok_History_sure_parents (P := l.prog) (w := w) (base := base) GG  h_History_is_kept X_NoChange X_NoName X_Taken K_History nA_History_parents F_History_sure_parents (⟨a_History_sure_parents, i_History_sure_parents, k2_History_sure_parents⟩)
  have h_History_add := ok_History_add (P := l.prog) (w := w) (base := base) GG  h_History_sure_parents h_is_name X_NoChange X_NoName X_Taken K_History nA_History_parents F_History_add (⟨a_History_add, i_History_add, k2_History_add⟩)
  have h_History_all_of := ok_History_all_of (P := l.prog) (w := w) (base := base) GG  h_History_sure_kept X_NoChange X_NoName X_Taken K_History nA_History_parents F_History_all_of (⟨a_History_all_of, i_History_all_of, k2_History_all_of⟩)
  have h_History_has := ok_History_has (P := l.prog) (w := w) (base := base) GG  h_History_all_of h_History_sure_kept X_NoChange X_NoName X_Taken K_History nA_History_parents F_History_has (⟨a_History_has, i_History_has, k2_History_has⟩)
  have h_law_well := ok_law_well (P := l.prog) (w := w) (base := base) GG   X_NoChange X_NoName X_Taken K_History nA_History_parents F_law_well (PySem.W.mg_of X G a_law_well)
  have h_law_draw := ok_law_draw (P := l.prog) (w := w) (base := base) GG   X_NoChange X_NoName X_Taken K_History nA_History_parents F_law_draw (PySem.W.mg_of X G a_law_draw)
  have h_law_one := ok_law_one (P := l.prog) (w := w) (base := base) GG  h_law_draw X_NoChange X_NoName X_Taken K_History nA_History_parents F_law_one (PySem.W.mg_of X G a_law_one)
  have h_law_names := ok_law_names (P := l.prog) (w := w) (base := base) GG  h_law_draw X_NoChange X_NoName X_Taken K_History nA_History_parents F_law_names (PySem.W.mg_of X G a_law_names)
  have h_law_plan := ok_law_plan (P := l.prog) (w := w) (base := base) GG  h_law_one h_law_draw h_law_names X_NoChange X_NoName X_Taken K_History nA_History_parents F_law_plan (PySem.W.mg_of X G a_law_plan)
  have h_law_history := ok_law_history (P := l.prog) (w := w) (base := base) GG  h_History_add h_History___init__ X_NoChange X_NoName X_Taken K_History nA_History_parents F_law_history (PySem.W.mg_of X G a_law_history)
  have h_law_closures := ok_law_closures (P := l.prog) (w := w) (base := base) GG   X_NoChange X_NoName X_Taken K_History nA_History_parents F_law_closures (PySem.W.mg_of X G a_law_closures)
  have h_law_told_right := ok_law_told_right (P := l.prog) (w := w) (base := base) GG  h_History_has h_History_all_of X_NoChange X_NoName X_Taken K_History nA_History_parents F_law_told_right (PySem.W.mg_of X G a_law_told_right)
  exact ok_law (P := l.prog) (w := w) (base := base) GG  h_law_closures h_law_told_right h_History_add h_law_draw h_law_history h_law_plan h_law_well X_NoChange X_NoName X_Taken K_History nA_History_parents F_law (PySem.W.mg_of X G a_law)
theorem law_walk {l : PySem.W.OpenLaw} {q : Program} {loose : List Str} {XP : (Str → Option Value) → Heap → Prop} {YP : World → Heap → Prop} {d : DefRec} {K : Params → PySem.W.Frag} (hn : l.most = some 63) (hdf : d.params.defaults = [])
    (hY : ∀ (w : World) (h : Heap), YP w h → (K w.params).In h)
    (F : ∀ (w : World) (mg : Str → Option Value) (fa : Addr) (h : Heap), (K w.params).In h → h.Ns mainGlobals mg → mg d.name = some (.ref fa) →
      ∃ fd : FuncData, (∀ (s : Shared) (u : Value), BindsTo s fd ⟨[u], []⟩ [("_law_script", u)]) ∧ ∀ base : Heap, (K w.params).In base → base.Ns mainGlobals mg → FnOk l.prog w (K w.params) mg base CX0 7 fa fd ["_law_script"] (toSp (K w.params) ms_law (S_law))) :
    PySem.W.WalkO q loose XP YP l.row.toRowW d [] (fun f vs => PySem.call f vs) :=
  L2.walk_of (n := 63) (k := 7) (x := "_law_script") (CX := fun _ => CX0) (sp := fun w => toSp (K w.params) ms_law (S_law)) hn (by decide) hdf ⟨rfl, by decide, by decide⟩ hY F (fun w H a ns hl _ hS => sp_law ⟨ns, rfl, hl⟩ (fun _ _ _ ⟨_, _, e, _⟩ => e) (fun _ _ _ _ z => z) hS) fun _ _ _ _ _ z => z
end Q
open PySem PySem.W PyProof.Rows
set_option maxRecDepth 100000 in
set_option maxHeartbeats 0 in
theorem PySem.Challenge.cw_fellwhere_k31_what_a_change_has_holds : PySem.Challenge.rw_fellwhere_k31_what_a_change_has.Holds := by
  w_on; o_law; k_head; (case hw => w_witness2)
  k_fill
  refine Q.law_walk (l := PySem.Challenge.rw_fellwhere_k31_what_a_change_has) rfl rfl (fun w h Y => PySem.W.kIn_of Y) ?F
  case F =>
    intro w mg fa h KX G hmg
    refine' Q.all_mk KX G hmg ?aC_FellError ?aC_NoName ?aC_Taken ?aC_NoChange ?aC_History ?z_LETTERS ?z_MOST_NAME ?z_all ?z_bool ?z_enumerate ?z_int ?z_isinstance ?z_len ?z_list ?z_range ?z_set ?z_sorted ?z_str ?fr ?fg ?fv ?xL_NoChange ?sa_NoChange ?nf_NoChange ?in_NoChange ?ti_NoChange ?l_NoChange ?ki_NoChange ?kj_NoChange ?xL_NoName ?sa_NoName ?nf_NoName ?in_NoName ?ti_NoName ?l_NoName ?ki_NoName ?kj_NoName ?xL_Taken ?sa_Taken ?nf_Taken ?in_Taken ?ti_Taken ?l_Taken ?ki_Taken ?kj_Taken ?pg_History ?hd_History ?po_History ?sa_History ?mk_History ?kc_History ?nA_History_parents ?kF_NoChange ?bF_NoChange ?tF_NoChange ?e1_NoChange ?e2_NoChange ?e4_NoChange ?e5_NoChange ?e6_NoChange ?e7_NoChange ?e8_NoChange ?kF_NoName ?bF_NoName ?tF_NoName ?e1_NoName ?e2_NoName ?e4_NoName ?e5_NoName ?e6_NoName ?e7_NoName ?e8_NoName ?kF_Taken ?bF_Taken ?tF_Taken ?e1_Taken ?e2_Taken ?e4_Taken ?e5_Taken ?e6_Taken ?e7_Taken ?e8_Taken ?a_is_name ?l_is_name ?k1_is_name ?k2_is_name ?i_History___init__ ?a_History___init__ ?l_History___init__ ?k1_History___init__ ?k2_History___init__ ?i_History_is_kept ?a_History_is_kept ?l_History_is_kept ?k1_History_is_kept ?k2_History_is_kept ?i_History_sure_kept ?a_History_sure_kept ?l_History_sure_kept ?k1_History_sure_kept ?k2_History_sure_kept ?i_History_sure_parents ?a_History_sure_parents ?l_History_sure_parents ?k1_History_sure_parents ?k2_History_sure_parents ?i_History_add ?a_History_add ?l_History_add ?k1_History_add ?k2_History_add ?i_History_all_of ?a_History_all_of ?l_History_all_of ?k1_History_all_of ?k2_History_all_of ?i_History_has ?a_History_has ?l_History_has ?k1_History_has ?k2_History_has ?a_law_well ?l_law_well ?k1_law_well ?k2_law_well ?a_law_draw ?l_law_draw ?k1_law_draw ?k2_law_draw ?a_law_one ?l_law_one ?k1_law_one ?k2_law_one ?a_law_names ?l_law_names ?k1_law_names ?k2_law_names ?a_law_plan ?l_law_plan ?k1_law_plan ?k2_law_plan ?a_law_history ?l_law_history ?k1_law_history ?k2_law_history ?a_law_closures ?l_law_closures ?k1_law_closures ?k2_law_closures ?a_law_told_right ?l_law_told_right ?k1_law_told_right ?k2_law_told_right ?a_law ?l_law ?k1_law ?k2_law
    (case aC_FellError => k_is)
    (case aC_NoName => k_is)
    (case aC_Taken => k_is)
    (case aC_NoChange => k_is)
    (case aC_History => k_is)
    (case z_LETTERS => k_is)
    (case z_MOST_NAME => k_is)
    (case z_all => k_is)
    (case z_bool => k_is)
    (case z_enumerate => k_is)
    (case z_int => k_is)
    (case z_isinstance => k_is)
    (case z_len => k_is)
    (case z_list => k_is)
    (case z_range => k_is)
    (case z_set => k_is)
    (case z_sorted => k_is)
    (case z_str => k_is)
    (case fr => k_is)
    (case fg => k_is)
    (case fv => k_is)
    (case xL_NoChange => k_is)
    (case sa_NoChange => k_is)
    (case nf_NoChange => k_is)
    (case in_NoChange => k_is)
    (case ti_NoChange => k_is)
    (case l_NoChange => k_is)
    (case ki_NoChange => k_is)
    (case kj_NoChange => k_is)
    (case xL_NoName => k_is)
    (case sa_NoName => k_is)
    (case nf_NoName => k_is)
    (case in_NoName => k_is)
    (case ti_NoName => k_is)
    (case l_NoName => k_is)
    (case ki_NoName => k_is)
    (case kj_NoName => k_is)
    (case xL_Taken => k_is)
    (case sa_Taken => k_is)
    (case nf_Taken => k_is)
    (case in_Taken => k_is)
    (case ti_Taken => k_is)
    (case l_Taken => k_is)
    (case ki_Taken => k_is)
    (case kj_Taken => k_is)
    (case pg_History => k_is)
    (case hd_History => k_is)
    (case po_History => k_is)
    (case sa_History => k_is)
    (case mk_History => k_is)
    (case kc_History => k_is)
    (case nA_History_parents => k_is)
    (case kF_NoChange => k_is)
    (case bF_NoChange => k_is)
    (case tF_NoChange => k_is)
    (case e1_NoChange => k_is)
    (case e2_NoChange => k_is)
    (case e4_NoChange => k_is)
    (case e5_NoChange => k_is)
    (case e6_NoChange => k_is)
    (case e7_NoChange => k_is)
    (case e8_NoChange => k_is)
    (case kF_NoName => k_is)
    (case bF_NoName => k_is)
    (case tF_NoName => k_is)
    (case e1_NoName => k_is)
    (case e2_NoName => k_is)
    (case e4_NoName => k_is)
    (case e5_NoName => k_is)
    (case e6_NoName => k_is)
    (case e7_NoName => k_is)
    (case e8_NoName => k_is)
    (case kF_Taken => k_is)
    (case bF_Taken => k_is)
    (case tF_Taken => k_is)
    (case e1_Taken => k_is)
    (case e2_Taken => k_is)
    (case e4_Taken => k_is)
    (case e5_Taken => k_is)
    (case e6_Taken => k_is)
    (case e7_Taken => k_is)
    (case e8_Taken => k_is)
    (case a_is_name => k_is)
    (case l_is_name => k_is)
    (case k1_is_name => k_is)
    (case k2_is_name => k_is)
    (case i_History___init__ => k_is)
    (case a_History___init__ => k_is)
    (case l_History___init__ => k_is)
    (case k1_History___init__ => k_is)
    (case k2_History___init__ => k_is)
    (case i_History_is_kept => k_is)
    (case a_History_is_kept => k_is)
    (case l_History_is_kept => k_is)
    (case k1_History_is_kept => k_is)
    (case k2_History_is_kept => k_is)
    (case i_History_sure_kept => k_is)
    (case a_History_sure_kept => k_is)
    (case l_History_sure_kept => k_is)
    (case k1_History_sure_kept => k_is)
    (case k2_History_sure_kept => k_is)
    (case i_History_sure_parents => k_is)
    (case a_History_sure_parents => k_is)
    (case l_History_sure_parents => k_is)
    (case k1_History_sure_parents => k_is)
    (case k2_History_sure_parents => k_is)
    (case i_History_add => k_is)
    (case a_History_add => k_is)
    (case l_History_add => k_is)
    (case k1_History_add => k_is)
    (case k2_History_add => k_is)
    (case i_History_all_of => k_is)
    (case a_History_all_of => k_is)
    (case l_History_all_of => k_is)
    (case k1_History_all_of => k_is)
    (case k2_History_all_of => k_is)
    (case i_History_has => k_is)
    (case a_History_has => k_is)
    (case l_History_has => k_is)
    (case k1_History_has => k_is)
    (case k2_History_has => k_is)
    (case a_law_well => k_is)
    (case l_law_well => k_is)
    (case k1_law_well => k_is)
    (case k2_law_well => k_is)
    (case a_law_draw => k_is)
    (case l_law_draw => k_is)
    (case k1_law_draw => k_is)
    (case k2_law_draw => k_is)
    (case a_law_one => k_is)
    (case l_law_one => k_is)
    (case k1_law_one => k_is)
    (case k2_law_one => k_is)
    (case a_law_names => k_is)
    (case l_law_names => k_is)
    (case k1_law_names => k_is)
    (case k2_law_names => k_is)
    (case a_law_plan => k_is)
    (case l_law_plan => k_is)
    (case k1_law_plan => k_is)
    (case k2_law_plan => k_is)
    (case a_law_history => k_is)
    (case l_law_history => k_is)
    (case k1_law_history => k_is)
    (case k2_law_history => k_is)
    (case a_law_closures => k_is)
    (case l_law_closures => k_is)
    (case k1_law_closures => k_is)
    (case k2_law_closures => k_is)
    (case a_law_told_right => k_is)
    (case l_law_told_right => k_is)
    (case k1_law_told_right => k_is)
    (case k2_law_told_right => k_is)
    (case a_law => k_is)
    (case l_law => k_is)
    (case k1_law => k_is)
    (case k2_law => k_is)
#print axioms PySem.Challenge.cw_fellwhere_k31_what_a_change_has_holds

