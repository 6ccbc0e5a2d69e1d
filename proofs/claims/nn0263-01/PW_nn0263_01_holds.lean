import PyProof.Rows.All
import Wide.All
import OpenK.AllK
import Wide.FinOn
import PySem.Challenge.RW_nn0263_01
open PySem PySem.W PyProof.Rows PySem.Calls
set_option Elab.async false
set_option linter.unusedVariables false
set_option linter.unusedSimpArgs false
namespace Mine

/-! ## heaps: what is kept -/

def Sq (t : String) (h : Heap) (a : Addr) (vs : List Value) : Prop :=
  ∃ n, h.get? a = some { cls := .type t, dict := none, data := .seq vs.toArray n, slots := #[] }

/-- all made tuples, and all lists off X, stand as they stood -/
structure KS (X : Addr → Prop) (h h' : Heap) : Prop where
  tup : ∀ a vs, Sq "tuple" h a vs → Sq "tuple" h' a vs
  lst : ∀ a vs, ¬ X a → Sq "list" h a vs → Sq "list" h' a vs

theorem KS.refl (X : Addr → Prop) (h : Heap) : KS X h h := ⟨fun _ _ e => e, fun _ _ _ e => e⟩
theorem KS.trans {X : Addr → Prop} {h h₁ h₂ : Heap} (x : KS X h h₁) (y : KS X h₁ h₂) : KS X h h₂ :=
  ⟨fun a vs e => y.tup a vs (x.tup a vs e), fun a vs n e => y.lst a vs n (x.lst a vs n e)⟩
theorem KS.mono {X Y : Addr → Prop} {h h' : Heap} (x : KS X h h') (hs : ∀ a, X a → Y a) : KS Y h h' :=
  ⟨x.tup, fun a vs n e => x.lst a vs (fun q => n (hs a q)) e⟩

abbrev Ext (h h' : Heap) : Prop := ∀ b o, h.get? b = some o → h'.get? b = some o
theorem Ext.refl (h : Heap) : Ext h h := fun _ _ e => e
theorem Ext.trans {h h₁ h₂ : Heap} (x : Ext h h₁) (y : Ext h₁ h₂) : Ext h h₂ := fun b o e => y b o (x b o e)
theorem Ext.push (h : Heap) (o : Obj) : Ext h (h.push o) := fun _ _ e => Heap.get?_push_of_some _ e
theorem Sq.ext {t : String} {h h' : Heap} {a : Addr} {vs : List Value} (x : Sq t h a vs) (k : Ext h h') : Sq t h' a vs := let ⟨n, e⟩ := x; ⟨n, k _ _ e⟩
theorem Ext.ks {h h' : Heap} (x : Ext h h') (X : Addr → Prop) : KS X h h' := ⟨fun _ _ e => e.ext x, fun _ _ _ e => e.ext x⟩

theorem Sq.lt {t : String} {h : Heap} {a : Addr} {vs : List Value} (x : Sq t h a vs) : a < h.objs.size := let ⟨_, e⟩ := x; Heap.lt_size e
theorem Sq.isList {h : Heap} {a : Addr} {vs : List Value} (x : Sq "list" h a vs) : h.IsList a vs.toArray := let ⟨n, e⟩ := x; ⟨_, e, rfl, n, rfl⟩
theorem Sq.plain {h : Heap} {a : Addr} {vs : List Value} (x : Sq "list" h a vs) : h.PlainList a vs.toArray := x
theorem Sq.isTup {h : Heap} {a : Addr} {vs : List Value} (x : Sq "tuple" h a vs) : IsTup h a vs.toArray := let ⟨n, e⟩ := x; ⟨_, e, rfl, n, rfl⟩
theorem Sq.isTuple {h : Heap} {a : Addr} {vs : List Value} (x : Sq "tuple" h a vs) : h.IsTuple a vs.toArray := let ⟨n, e⟩ := x; ⟨_, e, rfl, n, rfl⟩
theorem Sq.inj {t u : String} {h : Heap} {a : Addr} {vs ws : List Value} (x : Sq t h a vs) (y : Sq u h a ws) : t = u ∧ vs = ws := by
  obtain ⟨n, e⟩ := x
  obtain ⟨k, e'⟩ := y
  rw [e] at e'
  simp only [Option.some.injEq, Obj.mk.injEq, Value.type.injEq, Data.seq.injEq] at e'
  exact ⟨e'.1, by simpa using e'.2.2.1.1⟩

/-- a change at one address that bears neither tuple nor (kept) list -/
theorem ks_sameBut {X : Addr → Prop} {h h' : Heap} {L : Addr} {o : Obj} (hs : Heap.SameBut L h h') (e : h.get? L = some o)
    (hn : ∀ xs n, o.data ≠ .seq xs n) : KS X h h' := by
  have ne : ∀ t a vs, Sq t h a vs → a ≠ L := by
    rintro t a vs ⟨n, q⟩ rfl
    rw [e] at q; cases q
    exact hn _ _ rfl
  refine ⟨fun a vs x => ?_, fun a vs _ x => ?_⟩
  · obtain ⟨n, q⟩ := id x; exact ⟨n, (hs.2 a (ne _ _ _ x)).trans q⟩
  · obtain ⟨n, q⟩ := id x; exact ⟨n, (hs.2 a (ne _ _ _ x)).trans q⟩
/-- a made list is changed: it lies in X -/
theorem ks_list {X : Addr → Prop} {h h' : Heap} {L : Addr} {vs : List Value} (hs : Heap.SameBut L h h') (e : Sq "list" h L vs) (hX : X L) : KS X h h' := by
  refine ⟨fun a us x => ?_, fun a us n x => ?_⟩
  · have hne : a ≠ L := by rintro rfl; exact absurd (x.inj e).1 (by decide)
    obtain ⟨n, q⟩ := x; exact ⟨n, (hs.2 a hne).trans q⟩
  · have hne : a ≠ L := by rintro rfl; exact n hX
    obtain ⟨n, q⟩ := x; exact ⟨n, (hs.2 a hne).trans q⟩

/-! ## relations of values to data -/

structure RV where
  p : (Addr → Prop) → Value → Heap → Prop
  st : ∀ X v h h', KS X h h' → p X v h → p X v h'
  anti : ∀ X Y v h, (∀ a, Y a → X a) → p X v h → p Y v h
  grow : ∀ X v h, p X v h → p (fun a => X a ∨ h.get? a = none) v h

def rInt (i : Int) : RV := ⟨fun _ v _ => ∃ t, v = .int i t, fun _ _ _ _ _ x => x, fun _ _ _ _ _ x => x, fun _ _ _ x => x⟩
def rBool (b : Bool) : RV := ⟨fun _ v _ => v = .bool b, fun _ _ _ _ _ x => x, fun _ _ _ _ _ x => x, fun _ _ _ x => x⟩
def rNone : RV := ⟨fun _ v _ => v = .none, fun _ _ _ _ _ x => x, fun _ _ _ _ _ x => x, fun _ _ _ x => x⟩
def rIs (w : Value) : RV := ⟨fun _ v _ => v = w, fun _ _ _ _ _ x => x, fun _ _ _ _ _ x => x, fun _ _ _ x => x⟩
def rAny : RV := ⟨fun _ _ _ => True, fun _ _ _ _ _ x => x, fun _ _ _ _ _ x => x, fun _ _ _ x => x⟩

def All2 (X : Addr → Prop) (h : Heap) : List RV → List Value → Prop
  | [], [] => True
  | R :: Rs, v :: vs => R.p X v h ∧ All2 X h Rs vs
  | _, _ => False
theorem All2.imp {X Y : Addr → Prop} {h h' : Heap} : ∀ {Rs : List RV} {vs : List Value}, (∀ R v, R ∈ Rs → RV.p R X v h → RV.p R Y v h') → All2 X h Rs vs → All2 Y h' Rs vs
  | [], [], _, _ => trivial
  | R :: Rs, v :: vs, f, x => ⟨f R v (.head _) x.1, All2.imp (fun R' v' hm => f R' v' (.tail _ hm)) x.2⟩
  | [], _ :: _, _, x => x.elim
  | _ :: _, [], _, x => x.elim
theorem All2.len {X : Addr → Prop} {h : Heap} : ∀ {Rs : List RV} {vs : List Value}, All2 X h Rs vs → vs.length = Rs.length
  | [], [], _ => rfl
  | _ :: _, _ :: _, x => congrArg (· + 1) (All2.len x.2)
  | [], _ :: _, x => x.elim
  | _ :: _, [], x => x.elim
theorem All2.get {X : Addr → Prop} {h : Heap} : ∀ {Rs : List RV} {vs : List Value} {i : Nat} {R : RV}, All2 X h Rs vs → Rs[i]? = some R → ∃ v, vs[i]? = some v ∧ R.p X v h
  | R₀ :: Rs, v :: vs, 0, R, x, e => by
    have : R₀ = R := by simpa using e
    subst this; exact ⟨v, rfl, x.1⟩
  | _ :: Rs, _ :: vs, i + 1, R, x, e => by
    obtain ⟨v, a, b⟩ := All2.get (i := i) (R := R) x.2 (by simpa using e)
    exact ⟨v, by simpa using a, b⟩
  | [], _, _, _, _, e => by simp at e
  | _ :: _, [], _, _, x, _ => x.elim
theorem All2.of_get {X : Addr → Prop} {h : Heap} : ∀ {Rs : List RV} {vs : List Value}, vs.length = Rs.length → (∀ (i : Nat) (v : Value) (R : RV), vs[i]? = some v → Rs[i]? = some R → R.p X v h) → All2 X h Rs vs
  | [], [], _, _ => trivial
  | R :: Rs, v :: vs, e, f => ⟨f 0 v R rfl rfl, All2.of_get (by simpa using e) fun i v' R' a b => f (i + 1) v' R' (by simpa using a) (by simpa using b)⟩
  | [], _ :: _, e, _ => by simp at e
  | _ :: _, [], e, _ => by simp at e
theorem All2.append {X : Addr → Prop} {h : Heap} : ∀ {Rs Ss : List RV} {vs ws : List Value}, All2 X h Rs vs → All2 X h Ss ws → All2 X h (Rs ++ Ss) (vs ++ ws)
  | [], _, [], _, _, y => y
  | _ :: _, _, _ :: _, _, x, y => ⟨x.1, All2.append x.2 y⟩
  | [], _, _ :: _, _, x, _ => x.elim
  | _ :: _, _, [], _, x, _ => x.elim
theorem All2.snoc {X : Addr → Prop} {h : Heap} {Rs : List RV} {R : RV} {vs : List Value} {v : Value} (x : All2 X h Rs vs) (y : R.p X v h) : All2 X h (Rs ++ [R]) (vs ++ [v]) := x.append ⟨y, trivial⟩
theorem All2.take {X : Addr → Prop} {h : Heap} (k : Nat) : ∀ {Rs : List RV} {vs : List Value}, All2 X h Rs vs → All2 X h (Rs.take k) (vs.take k) := by
  induction k with
  | zero => intro Rs vs _; simp [All2]
  | succ k ih =>
    intro Rs vs x
    cases Rs <;> cases vs <;> first | exact x.elim | trivial | exact ⟨x.1, ih x.2⟩
theorem All2.drop {X : Addr → Prop} {h : Heap} (k : Nat) : ∀ {Rs : List RV} {vs : List Value}, All2 X h Rs vs → All2 X h (Rs.drop k) (vs.drop k) := by
  induction k with
  | zero => intro Rs vs x; exact x
  | succ k ih =>
    intro Rs vs x
    cases Rs <;> cases vs <;> first | exact x.elim | trivial | exact ih x.2
theorem All2.reverse {X : Addr → Prop} {h : Heap} : ∀ {Rs : List RV} {vs : List Value}, All2 X h Rs vs → All2 X h Rs.reverse vs.reverse
  | [], [], _ => trivial
  | R :: Rs, v :: vs, x => by simp only [List.reverse_cons]; exact (All2.reverse x.2).snoc x.1
  | [], _ :: _, x => x.elim
  | _ :: _, [], x => x.elim
theorem All2.set {X : Addr → Prop} {h : Heap} {R : RV} {v : Value} (y : R.p X v h) : ∀ {Rs : List RV} {vs : List Value} (i : Nat), All2 X h Rs vs → All2 X h (Rs.set i R) (vs.set i v)
  | [], [], _, _ => trivial
  | _ :: _, _ :: _, 0, x => ⟨y, x.2⟩
  | _ :: _, _ :: _, i + 1, x => ⟨x.1, All2.set y i x.2⟩
  | [], _ :: _, _, x => x.elim
  | _ :: _, [], _, x => x.elim
theorem All2.replicate {X : Addr → Prop} {h : Heap} {R : RV} {v : Value} (y : R.p X v h) : ∀ n : Nat, All2 X h (List.replicate n R) (List.replicate n v)
  | 0 => trivial
  | n + 1 => ⟨y, All2.replicate y n⟩

def rTup (Rs : List RV) : RV where
  p := fun X v h => ∃ a vs, v = .ref a ∧ Sq "tuple" h a vs ∧ All2 X h Rs vs
  st := fun X v h h' k ⟨a, vs, e, q, r⟩ => ⟨a, vs, e, k.tup a vs q, r.imp fun R v _ x => R.st X v h h' k x⟩
  anti := fun X Y v h s ⟨a, vs, e, q, r⟩ => ⟨a, vs, e, q, r.imp fun R v _ x => R.anti X Y v h s x⟩
  grow := fun X v h ⟨a, vs, e, q, r⟩ => ⟨a, vs, e, q, r.imp fun R v _ x => R.grow X v h x⟩
def rList (Rs : List RV) : RV where
  p := fun X v h => ∃ a vs, v = .ref a ∧ ¬ X a ∧ Sq "list" h a vs ∧ All2 X h Rs vs
  st := fun X v h h' k ⟨a, vs, e, n, q, r⟩ => ⟨a, vs, e, n, k.lst a vs n q, r.imp fun R v _ x => R.st X v h h' k x⟩
  anti := fun X Y v h s ⟨a, vs, e, n, q, r⟩ => ⟨a, vs, e, fun y => n (s a y), q, r.imp fun R v _ x => R.anti X Y v h s x⟩
  grow := fun X v h ⟨a, vs, e, n, q, r⟩ => ⟨a, vs, e, (fun y => y.elim n fun z => by obtain ⟨k, q'⟩ := q; rw [q'] at z; cases z), q, r.imp fun R v _ x => R.grow X v h x⟩

abbrev rRat (q : Rat) : RV := rTup [rInt q.num, rInt q.den]
abbrev rVec (r : List Rat) : RV := rList (r.map rRat)
abbrev rMat (m : List (List Rat)) : RV := rList (m.map rVec)
abbrev rInts (r : List Int) : RV := rList (r.map rInt)
abbrev rGrid (g : List (List Int)) : RV := rList (g.map rInts)

theorem RV.ext {R : RV} {X : Addr → Prop} {v : Value} {h h' : Heap} (x : R.p X v h) (k : Ext h h') : R.p X v h' := R.st X v h h' (k.ks X) x



/-! ## the top -/

def FnAt (base : Heap) (mg : Str → Option Value) : Stmt → Prop
  | .FunctionDef name params body _ _ _ scope _ _ _ => ∃ a o pm code doc, mg name = some (.ref a) ∧ base.get? a = some o ∧ o.data = .func (docDef name params body scope pm code doc) ∧ base.CodeRec code name
  | _ => False

def fn (k : Nat) : Stmt := (PySem.Challenge.pw_nn0263_01.main.body[k]?).getD (.Pass ⟨0, 0, 0, 0⟩)

/-- names of built-ins that the text does not bind -/
def freeNames : List Str := ["len", "abs", "range", "enumerate", "list", "str"]

structure Gl (base : Heap) (mg mb : Str → Option Value) : Prop where
  g : base.Ns mainGlobals mg
  b : base.Ns builtinsNs mb
  nolimit : base.NoLimit
  blt : ∀ x : Str, x ≠ "__name__" → mb x = bootBuiltins x
  seer : base.NoSeer
  fn : ∀ k st, fn k = st → (match st with | .FunctionDef .. => true | _ => false) = true → FnAt base mg st
  free : ∀ x ∈ freeNames, mg x = none
  R0 : ∃ a t u, mg "R0" = some (.ref a) ∧ Sq "tuple" base a [.int 0 t, .int 1 u]
  R1 : ∃ a t u, mg "R1" = some (.ref a) ∧ Sq "tuple" base a [.int 1 t, .int 1 u]

structure Rm (A : Around) (n : Nat) : Prop where
  hh : A.handled = none
  hd : A.depth + n < recursionLimit
  hu : A.units + 10 * n < cLine
theorem Rm.deeper {A : Around} {n : Nat} (x : Rm A (n + 1)) (env : Env) : Rm (A.deeper env) n :=
  ⟨x.hh, by have := x.hd; show A.depth + 1 + n < _; omega, by have := x.hu; show A.units + 3 + 10 * n < _; omega⟩
theorem Rm.le {A : Around} {n k : Nat} (x : Rm A n) (h : k ≤ n) : Rm A k := ⟨x.hh, by have := x.hd; omega, by have := x.hu; omega⟩

/-! ## names and their values -/

/-- m' bears x as v, and else only what m bears -/
def Aset (x : Str) (v : Value) (m m' : List (Str × Value)) : Prop := ∀ p ∈ m', p = (x, v) ∨ (p ∈ m ∧ p.1 ≠ x)
theorem Aset.nil {x : Str} {v : Value} : Aset x v [] [(x, v)] := fun p hp => .inl (List.mem_singleton.mp hp)
theorem Aset.drop {x : Str} {v w : Value} {m m' : List (Str × Value)} (h : Aset x v m m') : Aset x v ((x, w) :: m) m' := fun p hp => (h p hp).imp id fun q => ⟨.tail _ q.1, q.2⟩
theorem Aset.skip {x y : Str} {v w : Value} {m m' : List (Str × Value)} (hn : x ≠ y) (h : Aset x v m m') : Aset x v ((y, w) :: m) ((y, w) :: m') := fun p hp => by
  rcases List.mem_cons.mp hp with rfl | hp
  · exact .inr ⟨.head _, fun q => hn q.symm⟩
  · exact (h p hp).imp id fun q => ⟨.tail _ q.1, q.2⟩

/-- what m bears beside the names xs -/
def Drop (xs : List Str) (m m₀ : List (Str × Value)) : Prop := ∀ p ∈ m₀, p ∈ m ∧ p.1 ∉ xs
theorem Drop.nil {xs : List Str} : Drop xs [] [] := fun _ h => nomatch h
theorem Drop.drop {xs : List Str} {p : Str × Value} {m m₀ : List (Str × Value)} (h : Drop xs m m₀) : Drop xs (p :: m) m₀ := fun q hq => ⟨.tail _ (h q hq).1, (h q hq).2⟩
theorem Drop.skip {xs : List Str} {y : Str} {w : Value} {m m₀ : List (Str × Value)} (hn : y ∉ xs) (h : Drop xs m m₀) : Drop xs ((y, w) :: m) ((y, w) :: m₀) := fun q hq => by
  rcases List.mem_cons.mp hq with rfl | hq
  · exact ⟨.head _, hn⟩
  · exact ⟨.tail _ (h q hq).1, (h q hq).2⟩
theorem Drop.aset {x : Str} {v : Value} {m m₀ : List (Str × Value)} (h : Drop [x] m m₀) : Aset x v m ((x, v) :: m₀) := fun q hq => by
  rcases List.mem_cons.mp hq with rfl | hq
  · exact .inl rfl
  · exact .inr ⟨(h q hq).1, fun e => (h q hq).2 (e ▸ List.mem_singleton.mpr rfl)⟩
theorem Drop.two₁ {x y : Str} {u : Value} {m m₀ : List (Str × Value)} (h : Drop [x, y] m m₀) : Aset y u m ((y, u) :: m₀) := fun q hq => by
  rcases List.mem_cons.mp hq with rfl | hq
  · exact .inl rfl
  · exact .inr ⟨(h q hq).1, fun e => (h q hq).2 (e ▸ .tail _ (.head _))⟩
theorem Drop.two₂ {x y : Str} {u v : Value} {m m₀ : List (Str × Value)} (h : Drop [x, y] m m₀) (hxy : y ≠ x) : Aset x v ((y, u) :: m₀) ((x, v) :: (y, u) :: m₀) := fun q hq => by
  rcases List.mem_cons.mp hq with rfl | hq
  · exact .inl rfl
  · refine .inr ⟨hq, ?_⟩
    rcases List.mem_cons.mp hq with rfl | hq
    · exact hxy
    · exact fun e => (h q hq).2 (e ▸ .head _)

structure Fm (base : Heap) (B : Addr → Option Obj) (env : Env) (O : List Str) (h : Heap) (m : List (Str × Value)) : Prop where
  ns : ∃ mL, h.Ns env.locals mL ∧ ∀ p ∈ m, env.kindOf p.1 = some .local → mL p.1 = some p.2
  cell : ∀ x c, env.cells.lookup x = some c → (∃ cv, h.IsCell c cv) ∧ ∀ v, (x, v) ∈ m → h.IsCell c (some v)
  keep : ∀ a o, B a = some o → h.get? a = some o
  low : ∀ a o, base.get? a = some o → B a = some o
  offL : B env.locals = none
  offC : ∀ x c, x ∈ O → env.cells.lookup x = some c → B c = none
  apart : ∀ x y c, env.cells.lookup x = some c → env.cells.lookup y = some c → x = y
  ck : ∀ x c, env.cells.lookup x = some c → env.kindOf x ≠ some .local

section
variable {base : Heap} {B : Addr → Option Obj} {env : Env} {O : List Str} {h h' : Heap} {m m' : List (Str × Value)}
theorem Fm.lowE (F : Fm base B env O h m) : Ext base h := fun a o e => F.keep a o (F.low a o e)
theorem Fm.ext (F : Fm base B env O h m) (k : Ext h h') : Fm base B env O h' m :=
  ⟨let ⟨mL, a, b⟩ := F.ns; ⟨mL, a.keeps k, b⟩, fun x c e => let ⟨⟨cv, y⟩, z⟩ := F.cell x c e; ⟨⟨cv, y.keeps k⟩, fun v hv => (z v hv).keeps k⟩, fun a o e => k a o (F.keep a o e), F.low, F.offL, F.offC, F.apart, F.ck⟩
theorem Fm.less (F : Fm base B env O h m) (k : ∀ p ∈ m', p ∈ m) : Fm base B env O h m' :=
  ⟨let ⟨mL, a, b⟩ := F.ns; ⟨mL, a, fun p hp => b p (k p hp)⟩, fun x c e => let ⟨y, z⟩ := F.cell x c e; ⟨y, fun v hv => z v (k _ hv)⟩, F.keep, F.low, F.offL, F.offC, F.apart, F.ck⟩
theorem Fm.neL (F : Fm base B env O h m) {x : Str} {c : Addr} (hc : env.cells.lookup x = some c) : c ≠ env.locals := by
  obtain ⟨mL, hn, _⟩ := F.ns
  obtain ⟨⟨cv, o', q, q'⟩, _⟩ := F.cell x c hc
  obtain ⟨o, es, ep, r, r', _⟩ := hn
  rintro rfl
  rw [r] at q; cases q
  rw [r'] at q'; cases q'
/-- a change at an address that is neither the frame nor a cell nor kept -/
theorem Fm.chg (F : Fm base B env O h m) {a : Addr} {o : Obj} (hs : Heap.SameBut a h h') (e : h.get? a = some o) (hd : ∀ es n, o.data ≠ .dict es n) (hc : ∀ v, o.data ≠ .cell v) (hB : B a = none) : Fm base B env O h' m := by
  refine ⟨?_, fun x c hx => ?_, fun b ob hb => ?_, F.low, F.offL, F.offC, F.apart, F.ck⟩
  · obtain ⟨mL, hn, r⟩ := F.ns
    refine ⟨mL, hn.sameBut hs ?_, r⟩
    rintro rfl
    obtain ⟨o', es, ep, q, q', _⟩ := hn
    rw [e] at q; cases q
    exact hd _ _ q'
  · have hne : c ≠ a := by
      rintro rfl
      obtain ⟨⟨cv, o', q, q'⟩, _⟩ := F.cell x c hx
      rw [e] at q; cases q
      exact hc _ q'
    obtain ⟨⟨cv, y⟩, z⟩ := F.cell x c hx
    exact ⟨⟨cv, y.sameBut hs hne⟩, fun v hv => (z v hv).sameBut hs hne⟩
  · exact (hs.2 b (by rintro rfl; rw [hB] at hb; cases hb)).trans (F.keep b ob hb)
theorem Fm.setL (F : Fm base B env O h m) {x : Str} {v : Value} {mL mL' : Str → Option Value} (hs : Heap.SameBut env.locals h h') (hn : h.Ns env.locals mL) (hr : ∀ p ∈ m, env.kindOf p.1 = some .local → mL p.1 = some p.2)
    (hn' : h'.Ns env.locals mL') (e : ∀ y, mL' y = if y = x then some v else mL y) (hx : env.kindOf x = some .local) (hm : Aset x v m m') : Fm base B env O h' m' := by
  refine ⟨⟨mL', hn', fun p hp hy => ?_⟩, fun y c hc => ?_, fun b ob hb => ?_, F.low, F.offL, F.offC, F.apart, F.ck⟩
  · rcases hm p hp with rfl | ⟨hp, hne⟩
    · rw [e, if_pos rfl]
    · rw [e, if_neg hne]; exact hr p hp hy
  · have hne := F.neL hc
    obtain ⟨⟨cv, y'⟩, z⟩ := F.cell y c hc
    refine ⟨⟨cv, y'.sameBut hs hne⟩, fun u hu => ?_⟩
    rcases hm _ hu with q | ⟨hp, _⟩
    · cases q; exact absurd hx (F.ck _ _ hc)
    · exact (z u hp).sameBut hs hne
  · exact (hs.2 b (by rintro rfl; rw [F.offL] at hb; cases hb)).trans (F.keep b ob hb)
theorem Fm.setC (F : Fm base B env O h m) {x : Str} {v : Value} {c : Addr} (hs : Heap.SameBut c h h') (hc : env.cells.lookup x = some c) (hv : h'.IsCell c (some v)) (hO : x ∈ O) (hm : Aset x v m m') :
    Fm base B env O h' m' := by
  refine ⟨?_, fun y d hd => ?_, fun b ob hb => ?_, F.low, F.offL, F.offC, F.apart, F.ck⟩
  · obtain ⟨mL, hn, r⟩ := F.ns
    refine ⟨mL, hn.sameBut hs (Ne.symm (F.neL hc)), fun p hp hy => ?_⟩
    rcases hm p hp with rfl | ⟨hp, _⟩
    · exact absurd hy (F.ck _ _ hc)
    · exact r p hp hy
  · by_cases hxy : y = x
    · subst hxy
      rw [hc] at hd; cases hd
      refine ⟨⟨_, hv⟩, fun u hu => ?_⟩
      rcases hm _ hu with q | ⟨_, q⟩
      · cases q; exact hv
      · exact absurd rfl q
    · have hdc : d ≠ c := fun q => hxy (F.apart y x c (q ▸ hd) hc)
      obtain ⟨⟨cv, y'⟩, z⟩ := F.cell y d hd
      refine ⟨⟨cv, y'.sameBut hs hdc⟩, fun u hu => ?_⟩
      rcases hm _ hu with q | ⟨hp, _⟩
      · cases q; exact absurd rfl hxy
      · exact (z u hp).sameBut hs hdc
  · have hbc : b ≠ c := fun q => by rw [q, F.offC x c hO hc] at hb; cases hb
    exact (hs.2 b hbc).trans (F.keep b ob hb)
theorem Fm.withB (F : Fm base B env O h m) {B' : Addr → Option Obj} (k : ∀ a o, B' a = some o → h.get? a = some o) (l : ∀ a o, base.get? a = some o → B' a = some o) (oL : B' env.locals = none)
    (oC : ∀ x c, x ∈ O → env.cells.lookup x = some c → B' c = none) : Fm base B' env O h m := ⟨F.ns, F.cell, k, l, oL, oC, F.apart, F.ck⟩
end

/-! ## what is known between two steps -/

structure Inv where
  O : List Str
  m : List (Str × Value)
  D : List (Value × RV)
  Mu : List (Addr × List RV)
  X : Addr → Prop
  S : Addr → Prop

abbrev dom (h : Heap) : Addr → Prop := fun a => h.get? a ≠ none
theorem dom_ext {h h' : Heap} (k : Ext h h') : ∀ a, dom h a → dom h' a := fun a x => by
  cases q : h.get? a with
  | none => exact absurd q x
  | some o => show h'.get? a ≠ none; rw [k a o q]; exact fun z => by cases z
/-- a list that is turned: its parts -/
def MuAt (X : Addr → Prop) (h : Heap) (p : Addr × List RV) : Prop := ∃ vs, Sq "list" h p.1 vs ∧ All2 X h p.2 vs
theorem MuAt.ext {X : Addr → Prop} {h h' : Heap} {p : Addr × List RV} (x : MuAt X h p) (k : Ext h h') : MuAt X h' p := let ⟨vs, a, b⟩ := x; ⟨vs, a.ext k, b.imp fun R v _ y => R.ext y k⟩

structure At (base : Heap) (B : Addr → Option Obj) (env : Env) (J : Inv) (h : Heap) : Prop where
  fm : Fm base B env J.O h J.m
  dat : ∀ d ∈ J.D, d.2.p J.X d.1 h
  mu : ∀ p ∈ J.Mu, MuAt J.X h p ∧ B p.1 = none ∧ J.X p.1
  nd : (J.Mu.map (·.1)).Nodup
  xd : ∀ a, J.X a → B a ≠ none ∨ ∃ Rs, (a, Rs) ∈ J.Mu
  sd : ∀ a, J.S a → B a ≠ none ∨ J.X a
theorem At.ext {base : Heap} {B : Addr → Option Obj} {env : Env} {J : Inv} {h h' : Heap} (x : At base B env J h) (k : Ext h h') : At base B env J h' :=
  ⟨x.fm.ext k, fun d hd => RV.ext (x.dat d hd) k, fun p hp => ⟨(x.mu p hp).1.ext k, (x.mu p hp).2⟩, x.nd, x.xd, x.sd⟩
theorem At.xdom {base : Heap} {B : Addr → Option Obj} {env : Env} {J : Inv} {h : Heap} (x : At base B env J h) : ∀ a, J.X a → dom h a := fun a q => by
  rcases x.xd a q with q | ⟨Rs, hm⟩
  · cases e : B a with
    | none => exact absurd e q
    | some o => show h.get? a ≠ none; rw [x.fm.keep a o e]; exact fun z => by cases z
  · obtain ⟨⟨vs, ⟨n, e⟩, _⟩, _⟩ := x.mu _ hm
    show h.get? a ≠ none
    rw [e]; exact fun z => by cases z
theorem At.sdom {base : Heap} {B : Addr → Option Obj} {env : Env} {J : Inv} {h : Heap} (x : At base B env J h) : ∀ a, J.S a → dom h a := fun a q => by
  rcases x.sd a q with q | q
  · cases e : B a with
    | none => exact absurd e q
    | some o => show h.get? a ≠ none; rw [x.fm.keep a o e]; exact fun z => by cases z
  · exact x.xdom a q

section
variable (prog : Program) (w : World) (base : Heap) (A : Around) (env : Env)

def EV (J : Inv) (e : Expr) (R : RV) : Prop :=
  ∀ B s (Q E : Value → Shared → Prop), At base B env J s.heap → (∀ v h' tk, Ext s.heap h' → R.p J.X v h' → Q v { s with heap := h', toks := tk }) → wpAny (model prog w) A (eval e env) Q E s

/-- as EV, and every list of what comes is new -/
def EVN (J : Inv) (e : Expr) (R : RV) : Prop :=
  ∀ B s (Q E : Value → Shared → Prop), At base B env J s.heap → (∀ v h' tk, Ext s.heap h' → R.p (dom s.heap) v h' → Q v { s with heap := h', toks := tk }) → wpAny (model prog w) A (eval e env) Q E s

def EVs (J : Inv) (es : List Expr) (Rs : List RV) : Prop :=
  ∀ B s pos (Q : List Value → Shared → Prop) (E : Value → Shared → Prop), At base B env J s.heap → (∀ vs h' tk, Ext s.heap h' → All2 J.X h' Rs vs → Q vs { s with heap := h', toks := tk }) →
    wpAny (model prog w) A (spliced (backTo pos (starEach es env))) Q E s

/-- a test -/
def ET (J : Inv) (e : Expr) (c : Bool) : Prop :=
  ∀ B s (Q : Bool → Shared → Prop) (E : Value → Shared → Prop), At base B env J s.heap → (∀ h' tk, Ext s.heap h' → Q c { s with heap := h', toks := tk }) → wpAny (model prog w) A (isTrue e env (eval e env)) Q E s

def ST (J : Inv) (sts : List Stmt) (K : (Addr → Option Obj) → Flow → Heap → Prop) : Prop :=
  ∀ B s (Q : Flow → Shared → Prop) (E : Value → Shared → Prop), At base B env J s.heap → (∀ f h' tk, K B f h' → Q f { s with heap := h', toks := tk }) → wpAny (model prog w) A (execs sts env) Q E s
end

/-- a def's contract: it changes nothing that stood, and what it hands back is made of new lists -/
def PC (prog : Program) (w : World) (base : Heap) (mg : Str → Option Value) (f : Str) (n : Nat) (Rs : List RV) (R : RV) : Prop :=
  ∃ a o fd, mg f = some (.ref a) ∧ base.get? a = some o ∧ o.data = .func fd ∧
  ∀ A, Rm A n → ∀ vs s (Q E : Value → Shared → Prop), Ext base s.heap → All2 (fun _ => False) s.heap Rs vs →
    (∀ v h' tk, Ext s.heap h' → R.p (dom s.heap) v h' → Q v { s with heap := h', toks := tk }) → wpAny (model prog w) A (call (.ref a) vs) Q E s

def retV : Flow → Value
  | .ret v => v
  | _ => .none
/-- the end of a def's body -/
def Kr (S : Addr → Prop) (R : RV) : (Addr → Option Obj) → Flow → Heap → Prop := fun B f h' => (∀ a o, B a = some o → h'.get? a = some o) ∧ R.p S (retV f) h'

section
variable {prog : Program} {w : World} {base : Heap} {mg mb : Str → Option Value} {A : Around} {env : Env} {J : Inv}

theorem EV.conv {e : Expr} {R R' : RV} (h : EV prog w base A env J e R) (hR : R = R') : EV prog w base A env J e R' := hR ▸ h
theorem EV.weak {e : Expr} {R R' : RV} (h : EV prog w base A env J e R) (hR : ∀ X v h, R.p X v h → R'.p X v h) : EV prog w base A env J e R' :=
  fun B s Q E a k => h B s Q E a fun v h' tk x y => k v h' tk x (hR _ _ _ y)
theorem EVN.ev {e : Expr} {R : RV} (h : EVN prog w base A env J e R) : EV prog w base A env J e R :=
  fun B s Q E a k => h B s Q E a fun v h' tk x y => k v h' tk x (R.anti _ _ _ _ (fun b q => a.xdom b q) y)
def RV.free (R : RV) : Prop := ∀ X Y v h, R.p X v h → R.p Y v h
theorem EV.new {e : Expr} {R : RV} (h : EV prog w base A env J e R) (f : R.free) : EVN prog w base A env J e R := fun B s Q E a k => h B s Q E a fun v h' tk x y => k v h' tk x (f _ _ _ _ y)
theorem ET.conv {e : Expr} {c c' : Bool} (h : ET prog w base A env J e c) (hR : c = c') : ET prog w base A env J e c' := hR ▸ h

/-! ### names -/
theorem EV_local {x : Str} {pos : Pos} {v : Value} {R : RV} (hm : (x, v) ∈ J.m) (hd : (v, R) ∈ J.D) (hk : env.scope.kind = .function) (hx : env.kindOf x = some .local) (hn : (x == ("__debug__" : Str)) = false := by decide) :
    EV prog w base A env J (.Name x pos) R := fun B s Q E a k => by
  obtain ⟨mL, hns, r⟩ := a.fm.ns
  refine wpAny_Name (wpAny_loadName_local hk hx hns (r _ hm hx) ?_) hn
  exact k v s.heap s.toks (Ext.refl _) (a.dat _ hd)
theorem EV_cell {x : Str} {pos : Pos} {v : Value} {R : RV} (hm : (x, v) ∈ J.m) (hd : (v, R) ∈ J.D) (hk : env.scope.kind = .function) (hx : env.kindOf x = some .cell) (hc : (env.cells.lookup x).isSome = true) (hn : (x == ("__debug__" : Str)) = false := by decide) :
    EV prog w base A env J (.Name x pos) R := fun B s Q E a k => by
  obtain ⟨c, hc⟩ := Option.isSome_iff_exists.mp hc
  refine wpAny_Name (wpAny_loadName_cell hk hx hc ((a.fm.cell x c hc).2 v hm) ?_) hn
  exact k v s.heap s.toks (Ext.refl _) (a.dat _ hd)
theorem EV_free {x : Str} {pos : Pos} {v : Value} {R : RV} (hm : (x, v) ∈ J.m) (hd : (v, R) ∈ J.D) (hk : env.scope.kind = .function) (hx : env.kindOf x = some .free) (hc : (env.cells.lookup x).isSome = true) (hn : (x == ("__debug__" : Str)) = false := by decide)
    (hn' : (x == ("__classdict__" : Str)) = false := by decide) : EV prog w base A env J (.Name x pos) R := fun B s Q E a k => by
  obtain ⟨c, hc⟩ := Option.isSome_iff_exists.mp hc
  refine wpAny_Name (wpAny_loadName_free hk hx hc ((a.fm.cell x c hc).2 v hm) ?_ hn') hn
  exact k v s.heap s.toks (Ext.refl _) (a.dat _ hd)
/-- the very value of a name -/
theorem EV_localV {x : Str} {pos : Pos} {v : Value} (hm : (x, v) ∈ J.m) (hk : env.scope.kind = .function) (hx : env.kindOf x = some .local) (hn : (x == ("__debug__" : Str)) = false := by decide) :
    EV prog w base A env J (.Name x pos) (rIs v) := fun B s Q E a k => by
  obtain ⟨mL, hns, r⟩ := a.fm.ns
  refine wpAny_Name (wpAny_loadName_local hk hx hns (r _ hm hx) ?_) hn
  exact k v s.heap s.toks (Ext.refl _) rfl
theorem EV_cellV {x : Str} {pos : Pos} {v : Value} (hm : (x, v) ∈ J.m) (hk : env.scope.kind = .function) (hx : env.kindOf x = some .cell) (hc : (env.cells.lookup x).isSome = true) (hn : (x == ("__debug__" : Str)) = false := by decide) :
    EV prog w base A env J (.Name x pos) (rIs v) := fun B s Q E a k => by
  obtain ⟨c, hc⟩ := Option.isSome_iff_exists.mp hc
  refine wpAny_Name (wpAny_loadName_cell hk hx hc ((a.fm.cell x c hc).2 v hm) ?_) hn
  exact k v s.heap s.toks (Ext.refl _) rfl

theorem eval_global (G : Gl base mg mb) {x : Str} {pos : Pos} {v : Value} {s : Shared} {Q E : Value → Shared → Prop} (hb : Ext base s.heap) (hv : mg x = some v) (hk : env.scope.kind = .function) (hx : env.kindOf x = some .globalImplicit)
    (hg : env.globals = mainGlobals) (h : Q v s) (hn : (x == ("__debug__" : Str)) = false := by decide) : wpAny (model prog w) A (eval (.Name x pos) env) Q E s :=
  Name_function_global hk hx (loadGlobal_global (env := env) (hg ▸ G.g.keeps hb) hv h) hn
theorem eval_builtin (G : Gl base mg mb) {x : Str} {pos : Pos} {v : Value} {s : Shared} {Q E : Value → Shared → Prop} (hb : Ext base s.heap) (hf : x ∈ freeNames) (hv : bootBuiltins x = some v) (hne : x ≠ "__name__")
    (hk : env.scope.kind = .function) (hx : env.kindOf x = some .globalImplicit)
    (hg : env.globals = mainGlobals) (hg' : env.builtins = builtinsNs) (h : Q v s) (hn : (x == ("__debug__" : Str)) = false := by decide) : wpAny (model prog w) A (eval (.Name x pos) env) Q E s :=
  Name_function_global hk hx (loadGlobal_builtin (env := env) (hg ▸ G.g.keeps hb) (G.free x hf) (hg' ▸ G.b.keeps hb) ((G.blt x hne).trans hv) h) hn

theorem EV_R0 (G : Gl base mg mb) {pos : Pos} (hk : env.scope.kind = .function) (hx : env.kindOf "R0" = some .globalImplicit) (hg : env.globals = mainGlobals) : EV prog w base A env J (.Name "R0" pos) (rRat 0) := fun B s Q E a k => by
  obtain ⟨b, t, u, e, q⟩ := G.R0
  refine eval_global G a.fm.lowE e hk hx hg ?_
  exact k _ s.heap s.toks (Ext.refl _) ⟨b, _, rfl, q.ext a.fm.lowE, ⟨t, rfl⟩, ⟨u, rfl⟩, trivial⟩
theorem EV_R1 (G : Gl base mg mb) {pos : Pos} (hk : env.scope.kind = .function) (hx : env.kindOf "R1" = some .globalImplicit) (hg : env.globals = mainGlobals) : EV prog w base A env J (.Name "R1" pos) (rRat 1) := fun B s Q E a k => by
  obtain ⟨b, t, u, e, q⟩ := G.R1
  refine eval_global G a.fm.lowE e hk hx hg ?_
  exact k _ s.heap s.toks (Ext.refl _) ⟨b, _, rfl, q.ext a.fm.lowE, ⟨t, rfl⟩, ⟨u, rfl⟩, trivial⟩

/-! ### constants and ints -/
theorem EV_int {i : Int} {k : Nat} {pos : Pos} : EV prog w base A env J (.Constant (.int i) k pos) (rInt i) := fun B s Q E a h =>
  wpAny_Constant_int (h _ s.heap (s.toks + 1) (Ext.refl _) ⟨_, rfl⟩)
theorem EV_str {x : Str} {k : Nat} {pos : Pos} : EV prog w base A env J (.Constant (.str x) k pos) rAny := fun B s Q E a h =>
  Constant_str (h _ s.heap (s.toks + 1) (Ext.refl _) trivial)
theorem EV_none {k : Nat} {pos : Pos} : EV prog w base A env J (.Constant .none k pos) rNone := fun B s Q E a h => lit_none _ fun v tk hv => by
  rw [hv.none]; exact h _ s.heap tk (Ext.refl _) rfl
theorem EV_bool {b : Bool} {k : Nat} {pos : Pos} : EV prog w base A env J (.Constant (.bool b) k pos) (rBool b) := fun B s Q E a h => lit_bool _ fun v tk hv => by
  rw [hv.bool]; exact h _ s.heap tk (Ext.refl _) rfl

/-- two operands, then the operation -/
theorem EV_two {l r : Expr} {op : Operator} {pos : Pos} {R S T : RV} (hl : EV prog w base A env J l R) (hr : EV prog w base A env J r S)
    (ho : ∀ B a b s (Q E : Value → Shared → Prop), At base B env J s.heap → R.p J.X a s.heap → S.p J.X b s.heap → (∀ v h' tk, Ext s.heap h' → T.p J.X v h' → Q v { s with heap := h', toks := tk }) → wpAny (model prog w) A (binaryOp op a b) Q E s) :
    EV prog w base A env J (.BinOp l op r pos) T := fun B s Q E a k =>
  wpAny_BinOp (hl B s _ E a fun v h₁ t₁ k₁ x => hr B _ _ E (a.ext k₁) fun u h₂ t₂ k₂ y =>
    ho B v u _ Q E ((a.ext k₁).ext k₂) (RV.ext x k₂) y fun z h' tk k₃ q => k z h' tk ((k₁.trans k₂).trans k₃) q)
theorem EV_add {l r : Expr} {pos : Pos} {a b : Int} (hl : EV prog w base A env J l (rInt a)) (hr : EV prog w base A env J r (rInt b)) : EV prog w base A env J (.BinOp l .Add r pos) (rInt (a + b)) :=
  EV_two hl hr fun _ _ _ s Q E _ x y k => by
    obtain ⟨t, rfl⟩ := x; obtain ⟨u, rfl⟩ := y
    exact PyProof.Rows.add_int (k _ s.heap _ (Ext.refl _) ⟨_, rfl⟩)
theorem EV_sub {l r : Expr} {pos : Pos} {a b : Int} (hl : EV prog w base A env J l (rInt a)) (hr : EV prog w base A env J r (rInt b)) : EV prog w base A env J (.BinOp l .Sub r pos) (rInt (a - b)) :=
  EV_two hl hr fun _ _ _ s Q E _ x y k => by
    obtain ⟨t, rfl⟩ := x; obtain ⟨u, rfl⟩ := y
    exact PyProof.Rows.sub_int (k _ s.heap _ (Ext.refl _) ⟨_, rfl⟩)
theorem EV_mul {l r : Expr} {pos : Pos} {a b : Int} (hl : EV prog w base A env J l (rInt a)) (hr : EV prog w base A env J r (rInt b)) (hm : IntMulOk a b) : EV prog w base A env J (.BinOp l .Mult r pos) (rInt (a * b)) :=
  EV_two hl hr fun _ _ _ s Q E _ x y k => by
    obtain ⟨t, rfl⟩ := x; obtain ⟨u, rfl⟩ := y
    exact PyProof.Rows.mul_int (k _ s.heap _ (Ext.refl _) ⟨_, rfl⟩) hm
theorem EV_mod {l r : Expr} {pos : Pos} {a b : Int} (hl : EV prog w base A env J l (rInt a)) (hr : EV prog w base A env J r (rInt b)) (hb : b ≠ 0) : EV prog w base A env J (.BinOp l .Mod r pos) (rInt (a.fmod b)) :=
  EV_two hl hr fun _ _ _ s Q E _ x y k => by
    obtain ⟨t, rfl⟩ := x; obtain ⟨u, rfl⟩ := y
    exact PyProof.Rows.mod_int' hb (k _ s.heap _ (Ext.refl _) ⟨_, rfl⟩)
theorem EV_neg {l : Expr} {pos : Pos} {a : Int} (hl : EV prog w base A env J l (rInt a)) : EV prog w base A env J (.UnaryOp .USub l pos) (rInt (-a)) := fun B s Q E x k => by
  refine PyProof.Rows.UnaryOp_ (hl B s _ E x fun v h' tk e r => ?_)
  obtain ⟨t, rfl⟩ := r
  exact PyProof.Rows.neg_int (k _ h' _ e ⟨_, rfl⟩)
theorem EV_fdiv {l r : Expr} {pos : Pos} {a b : Int} (hl : EV prog w base A env J l (rInt a)) (hr : EV prog w base A env J r (rInt b)) (hb : b ≠ 0) (hs : b.natAbs.log2 < 9000) : EV prog w base A env J (.BinOp l .FloorDiv r pos) (rInt (a.fdiv b)) :=
  EV_two hl hr fun _ _ _ s Q E _ x y k => by
    obtain ⟨t, rfl⟩ := x; obtain ⟨u, rfl⟩ := y
    exact PyProof.Rows.floordiv_int hb (k _ s.heap _ (Ext.refl _) ⟨_, rfl⟩) (.inl (PyProof.noPylong_of_log2 hs))
end


theorem rInt_free (i : Int) : (rInt i).free := fun _ _ _ _ x => x
theorem rBool_free (i : Bool) : (rBool i).free := fun _ _ _ _ x => x
theorem rNone_free : rNone.free := fun _ _ _ _ x => x
theorem rIs_free (v : Value) : (rIs v).free := fun _ _ _ _ x => x
theorem rTup_free {Rs : List RV} (f : ∀ R ∈ Rs, R.free) : (rTup Rs).free := fun X Y v h ⟨a, vs, e, q, r⟩ => ⟨a, vs, e, q, r.imp fun R v hm x => f R hm X Y v h x⟩
theorem rRat_free (q : Rat) : (rRat q).free := rTup_free fun R hm => by
  rcases List.mem_cons.mp hm with rfl | hm
  · exact rInt_free _
  · rw [List.mem_singleton.mp hm]; exact rInt_free _

section
variable {prog : Program} {w : World} {base : Heap} {mg mb : Str → Option Value} {A : Around} {env : Env} {J : Inv}

/-! ### several expressions, calls -/
theorem EVs_nil : EVs prog w base A env J [] [] := fun B s pos Q E a k => args_nil (k [] s.heap s.toks (Ext.refl _) trivial)
theorem EVs_cons {e : Expr} {rest : List Expr} {R : RV} {Rs : List RV} (he : EV prog w base A env J e R) (hr : EVs prog w base A env J rest Rs)
    (hs : starEach (e :: rest) env = (false, eval e env) :: starEach rest env := by rfl) : EVs prog w base A env J (e :: rest) (R :: Rs) := fun B s pos Q E a k =>
  args_cons (he B s _ E a fun v h₁ t₁ k₁ x => hr B _ pos _ E (a.ext k₁) fun vs h₂ t₂ k₂ y => k (v :: vs) h₂ t₂ (k₁.trans k₂) ⟨RV.ext x k₂, y⟩) hs

theorem EVN_call (G : Gl base mg mb) {f : Str} {n : Nat} {Rs : List RV} {R : RV} (hp : PC prog w base mg f n Rs R) (hR : Rm A n) {e : Expr} {rest : List Expr} {p pos : Pos}
    (ha : EVs prog w base A env J (e :: rest) Rs) (hk : env.scope.kind = .function) (hx : env.kindOf f = some .globalImplicit) (hg : env.globals = mainGlobals)
    (he : starEach (e :: rest) env = (false, eval e env) :: starEach rest env := by rfl) (hn : (f == ("__debug__" : Str)) = false := by decide) :
    EVN prog w base A env J (.Call (.Name f p) (e :: rest) [] pos) R := fun B s Q E a k => by
  obtain ⟨b, o, fd, hb, ho, hd, hc⟩ := hp
  refine Call_ (eval_global G a.fm.lowE hb hk hx hg (callWith_def hd (ha B s pos _ E a fun vs h₁ t₁ k₁ x => ⟨k₁ _ _ (a.fm.lowE _ _ ho), ?_⟩) he) hn)
  refine hc A hR vs _ Q E (Ext.trans a.fm.lowE k₁) (x.imp fun R v _ y => R.anti _ _ _ _ (fun _ q => q.elim) y) fun v h' tk k₂ y => ?_
  exact k v h' tk (k₁.trans k₂) (R.anti _ _ _ _ (dom_ext k₁) y)

/-! ### displays -/
theorem EV_tuple {es : List Expr} {k : Nat} {pos : Pos} {Rs : List RV} (h : EVs prog w base A env J es Rs) (hsz : Rs.length ≤ sizeLine := by rw [sizeLine_eq]; exact Nat.le_of_ble_eq_true rfl) : EV prog w base A env J (.Tuple es k pos) (rTup Rs) := fun B s Q E a kk =>
  Tuple_ (h B s pos _ E a fun vs h₁ t₁ k₁ x => wpAny_newObj_type (kk _ _ _ (k₁.trans (Ext.push _ _)) ⟨_, vs, rfl, ⟨_, Heap.get?_push_size _ rfl⟩, x.imp fun R v _ y => RV.ext y (Ext.push _ _)⟩)
    (by show vs.toArray.size ≤ sizeLine; rw [List.size_toArray, x.len]; exact hsz))
theorem EVN_list {es : List Expr} {pos : Pos} {Rs : List RV} (h : EVs prog w base A env J es Rs) (hf : ∀ R ∈ Rs, R.free) (hsz : Rs.length ≤ sizeLine := by rw [sizeLine_eq]; exact Nat.le_of_ble_eq_true rfl) : EVN prog w base A env J (.List es pos) (rList Rs) := fun B s Q E a kk =>
  List_ (h B s pos _ E a fun vs h₁ t₁ k₁ x => wpAny_newObj_type (kk _ _ _ (k₁.trans (Ext.push _ _)) ⟨_, vs, rfl, (fun q => by
      have : s.heap.get? h₁.objs.size = none := by
        cases e : s.heap.get? h₁.objs.size with
        | none => rfl
        | some o => exact absurd (Heap.lt_size (k₁ _ _ e)) (Nat.lt_irrefl _)
      exact q this), ⟨_, Heap.get?_push_size _ rfl⟩, x.imp fun R v hm y => hf R hm _ _ _ _ (RV.ext y (Ext.push _ _))⟩)
    (by show vs.toArray.size ≤ sizeLine; rw [List.size_toArray, x.len]; exact hsz))

/-! ### items -/
theorem EV_item {value slice : Expr} {pos : Pos} {Rs : List RV} {R : RV} {k : Int} (hv : EV prog w base A env J value (rList Rs)) (hs : EV prog w base A env J slice (rInt k)) (h0 : 0 ≤ k) (hx : Rs[k.toNat]? = some R)
    (hfit : k < 2 ^ 63) (hsb : ∀ o i, subscripted slice false o i = operate [o, i] (getItem o i) := by intros; rfl) : EV prog w base A env J (.Subscript value slice pos) R := fun B s Q E a kk => by
  refine Subscript_ (hv B s _ E a fun v h₁ t₁ k₁ x => hs B _ _ E (a.ext k₁) fun i h₂ t₂ k₂ y => ?_)
  obtain ⟨b, vs, rfl, _, q, r⟩ := RV.ext x k₂
  obtain ⟨t, rfl⟩ := y
  obtain ⟨u, hu, hru⟩ := r.get hx
  exact tail_any q.isList.typeIs slot_list_getitem.lookup (wpAny_getItem_list q.isList h0 hfit (by simpa using hu) (kk u h₂ _ (k₁.trans k₂) hru)) (hsb _ _)
theorem EV_part {value slice : Expr} {pos : Pos} {Rs : List RV} {R : RV} {k : Int} (hv : EV prog w base A env J value (rTup Rs)) (hs : EV prog w base A env J slice (rInt k)) (h0 : 0 ≤ k) (hx : Rs[k.toNat]? = some R)
    (hfit : k < 2 ^ 63 := by decide) (hsb : ∀ o i, subscripted slice false o i = operate [o, i] (getItem o i) := by intros; rfl) : EV prog w base A env J (.Subscript value slice pos) R := fun B s Q E a kk => by
  refine Subscript_ (hv B s _ E a fun v h₁ t₁ k₁ x => hs B _ _ E (a.ext k₁) fun i h₂ t₂ k₂ y => ?_)
  obtain ⟨b, vs, rfl, q, r⟩ := RV.ext x k₂
  obtain ⟨t, rfl⟩ := y
  obtain ⟨u, hu, hru⟩ := r.get hx
  have hlt : k.toNat < vs.length := by
    rcases Nat.lt_or_ge k.toNat vs.length with h | h
    · exact h
    · rw [List.getElem?_eq_none h] at hu; cases hu
  refine item_tupleT (l := vs) (j := k.toNat) q.isTup (by omega) hfit ?_ hu (kk u h₂ _ (k₁.trans k₂) hru) (hsb _ _)
  unfold seqIndex?
  first
    | (simp only [Int.not_lt.mpr h0, if_false]; simp; omega)
    | (simp; omega)
theorem EV_itemM {value slice : Expr} {pos : Pos} {b : Addr} {Rs : List RV} {R : RV} {k : Int} (hv : EV prog w base A env J value (rIs (.ref b))) (hm : (b, Rs) ∈ J.Mu) (hs : EV prog w base A env J slice (rInt k)) (h0 : 0 ≤ k) (hx : Rs[k.toNat]? = some R)
    (hfit : k < 2 ^ 63) (hsb : ∀ o i, subscripted slice false o i = operate [o, i] (getItem o i) := by intros; rfl) : EV prog w base A env J (.Subscript value slice pos) R := fun B s Q E a kk => by
  refine Subscript_ (hv B s _ E a fun v h₁ t₁ k₁ x => hs B _ _ E (a.ext k₁) fun i h₂ t₂ k₂ y => ?_)
  cases x
  obtain ⟨t, rfl⟩ := y
  obtain ⟨vs, q, r⟩ := (((a.ext k₁).ext k₂).mu _ hm).1
  obtain ⟨u, hu, hru⟩ := r.get hx
  exact tail_any q.isList.typeIs slot_list_getitem.lookup (wpAny_getItem_list q.isList h0 hfit (by simpa using hu) (kk u h₂ _ (k₁.trans k₂) hru)) (hsb _ _)

/-! ### built-ins -/
theorem EV_bcall (G : Gl base mg mb) {f : Str} {id : String} {e : Expr} {rest : List Expr} {p pos : Pos} {Rs : List RV} {R : RV} (ha : EVs prog w base A env J (e :: rest) Rs) (hf : f ∈ freeNames) (hv : bootBuiltins f = some (.builtin id)) (hne : f ≠ "__name__")
    (hc : ∀ B vs s (Q E : Value → Shared → Prop), At base B env J s.heap → All2 J.X s.heap Rs vs → (∀ v h' tk, Ext s.heap h' → R.p J.X v h' → Q v { s with heap := h', toks := tk }) → wpAny (model prog w) A (call (.builtin id) vs) Q E s)
    (hk : env.scope.kind = .function) (hx : env.kindOf f = some .globalImplicit) (hg : env.globals = mainGlobals) (hg' : env.builtins = builtinsNs)
    (he : starEach (e :: rest) env = (false, eval e env) :: starEach rest env := by rfl) (hpl : (backTo pos (starEach rest env)).any (·.1) = false := by rfl) (hn : (f == ("__debug__" : Str)) = false := by decide) :
    EV prog w base A env J (.Call (.Name f p) (e :: rest) [] pos) R := fun B s Q E a k => by
  refine Call_ (eval_builtin G a.fm.lowE hf hv hne hk hx hg hg' (callWith_builtin1 (ha B s pos _ E a fun vs h₁ t₁ k₁ x => ?_) he hpl) hn)
  exact hc B vs _ Q E (a.ext k₁) x fun v h' tk k₂ y => k v h' tk (k₁.trans k₂) y

theorem EV_abs (G : Gl base mg mb) {e : Expr} {p pos : Pos} {i : Int} (h : EV prog w base A env J e (rInt i)) (hk : env.scope.kind = .function) (hx : env.kindOf "abs" = some .globalImplicit) (hg : env.globals = mainGlobals) (hg' : env.builtins = builtinsNs)
    (he : starEach [e] env = [(false, eval e env)] := by rfl) : EV prog w base A env J (.Call (.Name "abs" p) [e] [] pos) (rInt (i.natAbs : Int)) :=
  EV_bcall G (Rs := [rInt i]) (EVs_cons h EVs_nil he) (by decide) (by boot_fast) (by decide) (fun B vs s Q E a x k => by
    match vs, x with
    | [v], x =>
      obtain ⟨⟨t, rfl⟩, _⟩ := x
      refine call_abs_int fun u tk => ?_
      have : (if i < 0 then -i else i) = (i.natAbs : Int) := by split <;> omega
      rw [this]
      exact k _ s.heap tk (Ext.refl _) ⟨_, rfl⟩) hk hx hg hg' he rfl

theorem EV_len (G : Gl base mg mb) {e : Expr} {p pos : Pos} {Rs : List RV} (h : EV prog w base A env J e (rList Rs)) (hsz : (Rs.length : Int) < 2 ^ 63) (hk : env.scope.kind = .function) (hx : env.kindOf "len" = some .globalImplicit) (hg : env.globals = mainGlobals) (hg' : env.builtins = builtinsNs)
    (he : starEach [e] env = [(false, eval e env)] := by rfl) : EV prog w base A env J (.Call (.Name "len" p) [e] [] pos) (rInt (Rs.length : Int)) :=
  EV_bcall G (Rs := [rList Rs]) (EVs_cons h EVs_nil he) (by decide) (by boot_fast) (by decide) (fun B vs s Q E a x k => by
    match vs, x with
    | [v], x =>
      obtain ⟨⟨b, us, rfl, _, q, r⟩, _⟩ := x
      refine len_list q.isList (by simpa [r.len] using hsz) ?_
      exact k _ s.heap _ (Ext.refl _) ⟨_, by simp [r.len]; rfl⟩) hk hx hg hg' he rfl
theorem EV_lenM (G : Gl base mg mb) {e : Expr} {p pos : Pos} {b : Addr} {Rs : List RV} (h : EV prog w base A env J e (rIs (.ref b))) (hm : (b, Rs) ∈ J.Mu) (hsz : (Rs.length : Int) < 2 ^ 63) (hk : env.scope.kind = .function) (hx : env.kindOf "len" = some .globalImplicit) (hg : env.globals = mainGlobals) (hg' : env.builtins = builtinsNs)
    (he : starEach [e] env = [(false, eval e env)] := by rfl) : EV prog w base A env J (.Call (.Name "len" p) [e] [] pos) (rInt (Rs.length : Int)) :=
  EV_bcall G (Rs := [rIs (.ref b)]) (EVs_cons h EVs_nil he) (by decide) (by boot_fast) (by decide) (fun B vs s Q E a x k => by
    match vs, x with
    | [v], x =>
      obtain ⟨e, _⟩ := x
      cases e
      obtain ⟨us, q, r⟩ := (a.mu _ hm).1
      refine len_list q.isList (by simpa [r.len] using hsz) ?_
      exact k _ s.heap _ (Ext.refl _) ⟨_, by simp [r.len]; rfl⟩) hk hx hg hg' he rfl

/-! ### tests -/
theorem ET_cmp {l r : Expr} {op : CmpOp} {pos : Pos} {R S : RV} {c : Bool} (hl : EV prog w base A env J l R) (hr : EV prog w base A env J r S)
    (ho : ∀ B a b s (Q E : Value → Shared → Prop), At base B env J s.heap → R.p J.X a s.heap → S.p J.X b s.heap → (∀ h' tk, Ext s.heap h' → Q (.bool c) { s with heap := h', toks := tk }) → wpAny (model prog w) A (compareOp op a b) Q E s)
    (hb : behindInMarks op r = false := by with_unfolding_all rfl) : ET prog w base A env J (.Compare l [op] [r] pos) c := fun B s Q E a k =>
  wpAny_isTrue_Compare1 (hl B s _ E a fun v h₁ t₁ k₁ x => hr B _ _ E (a.ext k₁) fun u h₂ t₂ k₂ y => ho B v u _ _ E ((a.ext k₁).ext k₂) (RV.ext x k₂) y fun h' tk k₃ => wpAny_truthy_bool (k h' tk ((k₁.trans k₂).trans k₃))) hb
theorem EV_cmp {l r : Expr} {op : CmpOp} {pos : Pos} {R S : RV} {c : Bool} (hl : EV prog w base A env J l R) (hr : EV prog w base A env J r S)
    (ho : ∀ B a b s (Q E : Value → Shared → Prop), At base B env J s.heap → R.p J.X a s.heap → S.p J.X b s.heap → (∀ h' tk, Ext s.heap h' → Q (.bool c) { s with heap := h', toks := tk }) → wpAny (model prog w) A (compareOp op a b) Q E s)
    (hb : behindInMarks op r = false := by with_unfolding_all rfl) : EV prog w base A env J (.Compare l [op] [r] pos) (rBool c) := fun B s Q E a k =>
  wpAny_Compare1 (hl B s _ E a fun v h₁ t₁ k₁ x => hr B _ _ E (a.ext k₁) fun u h₂ t₂ k₂ y => ho B v u _ _ E ((a.ext k₁).ext k₂) (RV.ext x k₂) y fun h' tk k₃ => k _ h' tk ((k₁.trans k₂).trans k₃) rfl) hb

/-- what a comparison of two values of these kinds says -/
def Cmp (prog : Program) (w : World) (A : Around) (X : Addr → Prop) (op : CmpOp) (R S : RV) (c : Bool) : Prop :=
  ∀ a b s (Q E : Value → Shared → Prop), R.p X a s.heap → S.p X b s.heap → (∀ h' tk, Ext s.heap h' → Q (.bool c) { s with heap := h', toks := tk }) → wpAny (model prog w) A (compareOp op a b) Q E s
theorem ET_of {l r : Expr} {op : CmpOp} {pos : Pos} {R S : RV} {c : Bool} (hl : EV prog w base A env J l R) (hr : EV prog w base A env J r S) (ho : Cmp prog w A J.X op R S c)
    (hb : behindInMarks op r = false := by with_unfolding_all rfl) : ET prog w base A env J (.Compare l [op] [r] pos) c := ET_cmp hl hr (fun _ a b s Q E _ x y k => ho a b s Q E x y k) hb
theorem EV_of {l r : Expr} {op : CmpOp} {pos : Pos} {R S : RV} {c : Bool} (hl : EV prog w base A env J l R) (hr : EV prog w base A env J r S) (ho : Cmp prog w A J.X op R S c)
    (hb : behindInMarks op r = false := by with_unfolding_all rfl) : EV prog w base A env J (.Compare l [op] [r] pos) (rBool c) := EV_cmp hl hr (fun _ a b s Q E _ x y k => ho a b s Q E x y k) hb
section
variable {X : Addr → Prop} {a b : Int}
theorem cmp_eq : Cmp prog w A X .Eq (rInt a) (rInt b) (decide (a = b)) := fun _ _ s Q E ⟨t, x⟩ ⟨u, y⟩ k => by
  subst x y
  refine PyProof.Rows.eq_int ?_
  rw [show (a == b) = decide (a = b) from by simp [BEq.beq]]
  exact k s.heap s.toks (Ext.refl _)
theorem cmp_ne : Cmp prog w A X .NotEq (rInt a) (rInt b) (decide (a ≠ b)) := fun _ _ s Q E ⟨t, x⟩ ⟨u, y⟩ k => by
  subst x y
  refine PyProof.Rows.ne_int ?_
  rw [show (a != b) = decide (a ≠ b) from by simp [bne, BEq.beq]]
  exact k s.heap s.toks (Ext.refl _)
theorem cmp_lt : Cmp prog w A X .Lt (rInt a) (rInt b) (decide (a < b)) := fun _ _ s Q E ⟨t, x⟩ ⟨u, y⟩ k => by
  subst x y
  exact PyProof.Rows.lt_int (k s.heap s.toks (Ext.refl _))
theorem cmp_gt : Cmp prog w A X .Gt (rInt a) (rInt b) (decide (b < a)) := fun _ _ s Q E ⟨t, x⟩ ⟨u, y⟩ k => by
  subst x y
  exact PyProof.Rows.gt_int (k s.heap s.toks (Ext.refl _))
theorem cmp_ge : Cmp prog w A X .GtE (rInt a) (rInt b) (decide (b ≤ a)) := fun _ _ s Q E ⟨t, x⟩ ⟨u, y⟩ k => by
  subst x y
  exact PyProof.Rows.ge_int (k s.heap s.toks (Ext.refl _))
end
theorem ET_or {l r : Expr} {pos : Pos} {c d : Bool} (hl : ET prog w base A env J l c) (hr : c = false → ET prog w base A env J r d) : ET prog w base A env J (.BoolOp .Or [l, r] pos) (c || d) := fun B s Q E a k =>
  isTrue_or (hl B s _ E a fun h₁ t₁ k₁ => by
    cases c with
    | true => exact k h₁ t₁ k₁
    | false => exact isTrue_or (hr rfl B _ _ E (a.ext k₁) fun h₂ t₂ k₂ => by
        cases d with
        | true => exact k h₂ t₂ (k₁.trans k₂)
        | false => exact isTrue_or_nil (k h₂ t₂ (k₁.trans k₂))))
theorem ET_and {l r : Expr} {pos : Pos} {c d : Bool} (hl : ET prog w base A env J l c) (hr : c = true → ET prog w base A env J r d) : ET prog w base A env J (.BoolOp .And [l, r] pos) (c && d) := fun B s Q E a k =>
  isTrue_and (hl B s _ E a fun h₁ t₁ k₁ => by
    cases c with
    | false => exact k h₁ t₁ k₁
    | true => exact isTrue_and (hr rfl B _ _ E (a.ext k₁) fun h₂ t₂ k₂ => by
        cases d with
        | false => exact k h₂ t₂ (k₁.trans k₂)
        | true => exact isTrue_and_nil (k h₂ t₂ (k₁.trans k₂))))
theorem ET_or3 {l m r : Expr} {pos : Pos} {c d e : Bool} (hl : ET prog w base A env J l c) (hm : c = false → ET prog w base A env J m d) (hr : c = false → d = false → ET prog w base A env J r e) : ET prog w base A env J (.BoolOp .Or [l, m, r] pos) (c || d || e) := fun B s Q E a k =>
  isTrue_or (hl B s _ E a fun h₁ t₁ k₁ => by
    cases c with
    | true => exact k h₁ t₁ k₁
    | false => exact isTrue_or (hm rfl B _ _ E (a.ext k₁) fun h₂ t₂ k₂ => by
        cases d with
        | true => exact k h₂ t₂ (k₁.trans k₂)
        | false => exact isTrue_or (hr rfl rfl B _ _ E ((a.ext k₁).ext k₂) fun h₃ t₃ k₃ => by
          cases e with
          | true => exact k h₃ t₃ ((k₁.trans k₂).trans k₃)
          | false => exact isTrue_or_nil (k h₃ t₃ ((k₁.trans k₂).trans k₃)))))
theorem EV_if {t b o : Expr} {pos : Pos} {c : Bool} {R : RV} (ht : ET prog w base A env J t c) (hb : c = true → EV prog w base A env J b R) (ho : c = false → EV prog w base A env J o R) : EV prog w base A env J (.IfExp t b o pos) R := fun B s Q E a k =>
  IfExp_ (ht B s _ E a fun h₁ t₁ k₁ => by
    cases c with
    | true => exact hb rfl B _ Q E (a.ext k₁) fun v h' tk k₂ y => k v h' tk (k₁.trans k₂) y
    | false => exact ho rfl B _ Q E (a.ext k₁) fun v h' tk k₂ y => k v h' tk (k₁.trans k₂) y)

/-! ### statements -/
theorem At.store {B : Addr → Option Obj} {s : Shared} (a : At base B env J s.heap) {x : Str} {v : Value} {m' : List (Str × Value)} (hm : Aset x v J.m m') (hk : env.scope.kind = .function)
    (hx : env.kindOf x = some .local ∨ (env.kindOf x = some .cell ∧ x ∈ J.O ∧ (env.cells.lookup x).isSome = true)) {Q : Unit → Shared → Prop} {E : Value → Shared → Prop}
    (k : ∀ h' tk, At base B env { J with m := m' } h' → KS (fun _ => False) s.heap h' → Q () { s with heap := h', toks := tk }) : wpAny (model prog w) A (storeName env x v) Q E s := by
  have fin : ∀ h', Fm base B env J.O h' m' → KS (fun _ => False) s.heap h' → At base B env { J with m := m' } h' := fun h' F K =>
    ⟨F, fun d hd => d.2.st _ _ _ _ (K.mono fun _ q => q.elim) (a.dat d hd), fun p hp => ⟨let ⟨vs, q, r⟩ := (a.mu p hp).1; ⟨vs, K.lst _ _ id q, r.imp fun R v _ y => R.st _ _ _ _ (K.mono fun _ q => q.elim) y⟩, (a.mu p hp).2⟩, a.nd, a.xd, a.sd⟩
  rcases hx with hx | ⟨hx, hO, hc⟩
  · obtain ⟨mL, hn, hr⟩ := a.fm.ns
    refine wpAny_storeName_local hx hn (fun h' hn' hs => ?_) (by rw [hk]; rfl)
    obtain ⟨o, es, ep, e, ed, _⟩ := id hn
    have K : KS (fun _ => False) s.heap h' := ks_sameBut hs e fun xs n q => by rw [ed] at q; cases q
    exact k h' _ (fin h' (a.fm.setL hs hn hr hn' (fun y => rfl) hx hm) K) K
  · obtain ⟨c, hc⟩ := Option.isSome_iff_exists.mp hc
    obtain ⟨⟨cv, hcv⟩, _⟩ := a.fm.cell x c hc
    refine wpAny_storeName_cell hk hx hc hcv fun h' hv hs => ?_
    obtain ⟨o, e, ed⟩ := hcv
    have K : KS (fun _ => False) s.heap h' := ks_sameBut hs e fun xs n q => by rw [ed] at q; cases q
    exact k h' _ (fin h' (a.fm.setC hs hc hv hO hm) K) K
theorem At.add {B : Addr → Option Obj} {h : Heap} (a : At base B env J h) {v : Value} {R : RV} (x : R.p J.X v h) : At base B env { J with D := (v, R) :: J.D } h :=
  ⟨a.fm, fun d hd => by
    rcases List.mem_cons.mp hd with rfl | hd
    · exact x
    · exact a.dat d hd, a.mu, a.nd, a.xd, a.sd⟩

theorem ST_nil {K : (Addr → Option Obj) → Flow → Heap → Prop} (h : ∀ B hp, At base B env J hp → K B .next hp) : ST prog w base A env J [] K := fun B s Q E a k => wpAny_execs_nil (k .next s.heap s.toks (h B s.heap a))
theorem ST_ret {e : Expr} {pos : Pos} {rest : List Stmt} {R : RV} {K : (Addr → Option Obj) → Flow → Heap → Prop} (he : EV prog w base A env J e R) (h : ∀ B hp v, At base B env J hp → R.p J.X v hp → K B (.ret v) hp) :
    ST prog w base A env J (.Return (some e) pos :: rest) K := fun B s Q E a k =>
  wpAny_execs_cons (wpAny_Return_some (he B s _ E a fun v h' tk k₁ x => k (.ret v) h' tk (h B h' v (a.ext k₁) x)))
theorem ST_retN {e : Expr} {pos : Pos} {rest : List Stmt} {R : RV} {S : Addr → Prop} (he : EVN prog w base A env J e R) (hS : S = J.S := by rfl) : ST prog w base A env J (.Return (some e) pos :: rest) (Kr S R) := fun B s Q E a k => by
  subst hS
  exact wpAny_execs_cons (wpAny_Return_some (he B s _ E a fun v h' tk k₁ x => k (.ret v) h' tk ⟨(a.ext k₁).fm.keep, R.anti _ _ _ _ a.sdom x⟩))
theorem ST_retF {e : Expr} {pos : Pos} {rest : List Stmt} {R R' : RV} {S : Addr → Prop} (he : EV prog w base A env J e R') (hR : R' = R) (hf : R.free) (hS : S = J.S := by rfl) : ST prog w base A env J (.Return (some e) pos :: rest) (Kr S R) := hS ▸ ST_retN ((hR ▸ he).new hf)
/-- any evaluation, then a name -/
theorem ST_set {e : Expr} {x : Str} {px pos : Pos} {rest : List Stmt} {R : RV} {K : (Addr → Option Obj) → Flow → Heap → Prop} {m₀ : List (Str × Value)} (he : EV prog w base A env J e R)
    (hm : Drop [x] J.m m₀) (hk : env.scope.kind = .function) (hx : env.kindOf x = some .local ∨ (env.kindOf x = some .cell ∧ x ∈ J.O ∧ (env.cells.lookup x).isSome = true))
    (h : ∀ v, ST prog w base A env { J with m := (x, v) :: m₀, D := (v, R) :: J.D } rest K) (hs : swapsWith e (some (.Name x px)) pos.line env = pure false := by rfl) :
    ST prog w base A env J (.Assign [.Name x px] e pos :: rest) K := fun B s Q E a k => by
  refine wpAny_execs_cons (wpAny_Assign_Name (he B s _ E a fun v h₁ t₁ k₁ r => ?_) hs)
  refine At.store (s := { s with heap := h₁, toks := t₁ }) (a.ext k₁) hm.aset hk hx fun h₂ t₂ a₂ K₂ => ?_
  exact h v B _ Q E (a₂.add (R.st _ _ _ _ (K₂.mono fun _ q => q.elim) r)) fun f h' tk y => k f h' tk y

theorem execs_append_eq (ys : List Stmt) : ∀ xs : List Stmt, execs (xs ++ ys) env = (execs xs env >>= fun f => match f with | .next => execs ys env | f => pure f)
  | [] => by rw [List.nil_append, execs_nil, pure_bind]
  | x :: xs => by
    rw [List.cons_append, execs_cons, execs_cons, bind_assoc]
    congr 1
    funext f
    cases f with
    | next => exact execs_append_eq ys xs
    | _ => rw [pure_bind]
theorem execs_if_eq {t : Expr} {b o rest : List Stmt} {pos : Pos} : execs (.If t b o pos :: rest) env = (do standAt pos; if ← isTrue t env (eval t env) then execs (b ++ rest) env else execs (o ++ rest) env) := by
  rw [execs_cons, exec_If, bind_assoc]
  congr 1
  funext _
  rw [bind_assoc]
  congr 1
  funext c
  cases c with
  | true => simp only [if_true]; rw [execs_append_eq]; congr 1
  | false => simp only [Bool.false_eq_true, if_false]; rw [execs_append_eq]; congr 1
theorem ST_if {t : Expr} {b o : List Stmt} {pos : Pos} {rest : List Stmt} {c : Bool} {K : (Addr → Option Obj) → Flow → Heap → Prop} (ht : ET prog w base A env J t c) (hb : c = true → ST prog w base A env J (b ++ rest) K)
    (ho : c = false → ST prog w base A env J (o ++ rest) K) : ST prog w base A env J (.If t b o pos :: rest) K := fun B s Q E a k => by
  rw [execs_if_eq]
  refine wpAny_bind (wpAny_standAt (wpAny_bind (ht B s _ E a fun h₁ t₁ k₁ => ?_)))
  cases c with
  | true => exact hb rfl B _ Q E (a.ext k₁) fun f h' tk y => k f h' tk y
  | false => exact ho rfl B _ Q E (a.ext k₁) fun f h' tk y => k f h' tk y
/-- an if that is not taken -/
theorem ST_skip {t : Expr} {b : List Stmt} {pos : Pos} {rest : List Stmt} {c : Bool} {K : (Addr → Option Obj) → Flow → Heap → Prop} (ht : ET prog w base A env J t c) (hc : c = false)
    (ho : ST prog w base A env J rest K) : ST prog w base A env J (.If t b [] pos :: rest) K := ST_if ht (fun h => absurd (h.symm.trans hc) (by decide)) fun _ => ho
end


/-! ### entering a def -/
theorem bindL_eq (K : Str → Option NameKind) : ∀ (l : List (Str × Value)) (m : Str → Option Value) (x : Str), bindL K l m x = if K x = some .local then (l.reverse.lookup x).or (m x) else m x
  | [], m, x => by simp [bindL]
  | (n, v) :: r, m, x => by
    rw [bindL, bindL_eq K r]
    by_cases hx : K x = some .local
    · simp only [if_pos hx, List.reverse_cons, List.lookup_append, List.lookup_cons, List.lookup_nil]
      by_cases hxn : x = n
      · subst hxn; simp [hx]
      · have hb : (x == n) = false := beq_eq_false_iff_ne.mpr hxn
        simp only [hb]
        cases List.lookup x r.reverse with
        | some u => simp
        | none => by_cases hn : K n = some .local <;> simp [hn, hxn]
    · simp only [if_neg hx]
      by_cases hn : K n = some .local
      · have hxn : ¬ x = n := fun q => hx (q ▸ hn)
        simp [hn, hxn]
      · simp [hn]
theorem bindC_eq (K : Str → Option NameKind) : ∀ (l : List (Str × Value)) (m : Str → Option Value) (x : Str), bindC K l m x = if K x = some .local then m x else (l.reverse.lookup x).or (m x)
  | [], m, x => by simp [bindC]
  | (n, v) :: r, m, x => by
    rw [bindC, bindC_eq K r]
    by_cases hx : K x = some .local
    · simp only [if_pos hx]
      by_cases hn : K n = some .local
      · simp [hn]
      · have hxn : ¬ x = n := fun q => hn (q ▸ hx)
        simp [hn, hxn]
    · simp only [if_neg hx, List.reverse_cons, List.lookup_append, List.lookup_cons, List.lookup_nil]
      by_cases hxn : x = n
      · subst hxn; simp [hx]
      · have hb : (x == n) = false := beq_eq_false_iff_ne.mpr hxn
        simp only [hb]
        cases List.lookup x r.reverse with
        | some u => simp
        | none => by_cases hn : K n = some .local <;> simp [hn, hxn]
theorem lookup_rev_mem {l : List (Str × Value)} (hn : (l.map (·.1)).Nodup) {x : Str} {v : Value} (h : (x, v) ∈ l) : l.reverse.lookup x = some v := by
  induction l with
  | nil => cases h
  | cons p r ih =>
    obtain ⟨n, u⟩ := p
    simp only [List.map_cons, List.nodup_cons] at hn
    simp only [List.reverse_cons, List.lookup_append, List.lookup_cons, List.lookup_nil]
    rcases List.mem_cons.mp h with e | h
    · cases e
      have : r.reverse.lookup x = none := by
        cases q : r.reverse.lookup x with
        | none => rfl
        | some u => exact absurd (List.mem_map.mpr ⟨_, List.mem_reverse.mp (mem_of_lookup q), rfl⟩) hn.1
      rw [this]; simp
    · rw [ih hn.2 h]; rfl

theorem cellsFrom_mem : ∀ (names : List (Str × NameKind)) (n : Nat) (acc : List (Str × Addr)) (x : Str) (c : Addr), (x, c) ∈ cellsFrom n names acc → (x, c) ∈ acc ∨ (x, NameKind.cell) ∈ names
  | [], _, _, _, _, h => .inl h
  | (y, k) :: r, n, acc, x, c, h => by
    unfold cellsFrom at h
    split at h
    · rename_i hk
      have hk' : k = .cell := beq_iff_eq.mp hk
      rcases cellsFrom_mem r _ _ x c h with q | q
      · rcases List.mem_cons.mp q with q | q
        · cases q; exact .inr (hk' ▸ List.mem_cons_self)
        · exact .inl q
      · exact .inr (.tail _ q)
    · exact (cellsFrom_mem r _ _ x c h).imp id fun q => .tail _ q
theorem lookup_of_mem' {α : Type} : ∀ {l : List (Str × α)} {x : Str} {k : α}, (l.map (·.1)).Nodup → (x, k) ∈ l → l.lookup x = some k
  | (y, u) :: r, x, k, hn, h => by
    simp only [List.map_cons, List.nodup_cons] at hn
    rw [List.lookup_cons]
    rcases List.mem_cons.mp h with e | h
    · cases e; simp
    · have : (x == y) = false := beq_eq_false_iff_ne.mpr fun q => hn.1 (List.mem_map.mpr ⟨_, h, q⟩)
      rw [this]; exact lookup_of_mem' hn.2 h

/-- what a def's entry asks of its table of names: its parameters are locals or cells -/
def paramsOk (scope : Scope) (xs : List Str) : Bool :=
  decide (scope.names.map (·.1)).Nodup && decide xs.Nodup && xs.all fun x => decide (scope.names.lookup x = some .local) || decide (scope.names.lookup x = some .cell)
def ownCells (scope : Scope) : List Str := (scope.names.filter fun p => decide (p.2 = .cell)).map (·.1)

theorem cellsFrom_has : ∀ (names : List (Str × NameKind)) (n : Nat) (acc : List (Str × Addr)) (x : Str), (x, NameKind.cell) ∈ names ∨ (acc.lookup x).isSome = true → ((cellsFrom n names acc).lookup x).isSome = true
  | [], _, _, _, h => h.elim (fun q => nomatch q) id
  | (y, k) :: r, n, acc, x, h => by
    unfold cellsFrom
    by_cases hk : (k == .cell) = true
    · rw [if_pos hk]
      refine cellsFrom_has r _ _ x ?_
      rcases h with h | h
      · rcases List.mem_cons.mp h with e | h
        · cases e; right; simp
        · exact .inl h
      · right
        rw [List.lookup_cons]
        split <;> first | rfl | exact h
    · rw [if_neg hk]
      refine cellsFrom_has r _ _ x ?_
      rcases h with h | h
      · rcases List.mem_cons.mp h with e | h
        · cases e; simp at hk
        · exact .inl h
      · exact .inr h

section
variable {prog : Program} {w : World} {base : Heap} {mg mb : Str → Option Value}

/-- the state at a def's entry -/
theorem enter_at {A : Around} {s : Shared} {Bk : Addr → Option Obj} {a : Addr} {o : Obj} {name : Str} {params : Arguments} {body : List Stmt} {scope : Scope} {pm code doc : Value} {vals : List Value} {binds : List (Str × Value)} {R : Result → Shared → Prop}
    {D : List (Value × RV)} {Mu : List (Addr × List RV)} {X S : Addr → Prop}
    (hroom : A.depth < recursionLimit) (hb : Ext base s.heap) (ho : base.get? a = some o) (hdata : o.data = .func (docDef name params body scope pm code doc)) (hlim : base.NoLimit) (hcd : base.CodeRec code name)
    (hbind : bindArgs (docDef name params body scope pm code doc) ⟨vals, []⟩ = pure binds) (hok : paramsOk scope (binds.map (·.1)) = true)
    (hBk : ∀ b ob, Bk b = some ob → s.heap.get? b = some ob) (hlow : ∀ b ob, base.get? b = some ob → Bk b = some ob)
    (hD : ∀ d ∈ D, d.2.p X d.1 s.heap) (hMu : ∀ p ∈ Mu, MuAt X s.heap p ∧ Bk p.1 = none ∧ X p.1) (hnd : (Mu.map (·.1)).Nodup) (hX : ∀ b, X b → Bk b ≠ none ∨ ∃ Rs, (b, Rs) ∈ Mu) (hS : ∀ b, S b → Bk b ≠ none ∨ X b)
    (h : ∀ s₁, (∃ h₁ tk, s₁ = { s with heap := h₁, toks := tk }) → At base Bk (callEnvC (docDef name params body scope pm code doc) s.heap.objs.size a) ⟨ownCells scope, binds, D, Mu, X, S⟩ s₁.heap →
      wpAny (model prog w) (A.deeper (callEnvC (docDef name params body scope pm code doc) s.heap.objs.size a)) (execs body (callEnvC (docDef name params body scope pm code doc) s.heap.objs.size a)) (fun f s' => R (.ok (.ret (retV f))) s')
        (fun _ _ => False) s₁)
    (hco : scope.isCoroutine = false) (hgen : scope.isGenerator = false) (hk : scope.kind = .function) :
    codeAny (model prog w) A (.call (.ref a) ⟨vals, []⟩) R s := by
  unfold paramsOk at hok
  simp only [Bool.and_eq_true, decide_eq_true_eq, List.all_eq_true, Bool.or_eq_true] at hok
  obtain ⟨⟨hn1, hn2⟩, hn3⟩ := hok
  have ck : ∀ x c, (cellsFrom (s.heap.objs.size + 1) scope.names []).lookup x = some c → scope.names.lookup x = some .cell := fun x c hc => by
    rcases cellsFrom_mem _ _ _ _ _ (mem_of_lookup hc) with q | q
    · cases q
    · exact lookup_of_mem' hn1 q
  refine codeAny_call_cells hroom (hb _ _ ho) hdata (hlim.keeps hb) (hcd.keeps hb) rfl hbind rfl (fun x hx => ?_) (fun s₁ ic => ?_) hco hgen hk
  · rcases hn3 x.1 (List.mem_map_of_mem hx) with q | q
    · exact .inl q
    · exact .inr ⟨q, cellsFrom_has _ _ _ _ (.inl (mem_of_lookup q))⟩
  · obtain ⟨h₁, tk, e, hkeep⟩ := ic.done
    have hk₁ : Ext s.heap s₁.heap := ic.toInCall.keep
    have new : ∀ c, s.heap.objs.size ≤ c → Bk c = none := fun c hc => by
      cases q : Bk c with
      | none => rfl
      | some ob => exact absurd (Heap.lt_size (hBk _ _ q)) (Nat.not_lt.mpr hc)
    refine wpAny_mono (h s₁ ⟨h₁, tk, e⟩ ⟨⟨⟨_, ic.toInCall.ns, fun p hp hl => ?_⟩, fun x c hc => ⟨⟨_, ic.cell x c hc⟩, fun v hv => ?_⟩, fun b ob q => hk₁ _ _ (hBk _ _ q), hlow, new _ (Nat.le_refl _), fun x c _ hc => new _ (Nat.le_of_lt (ic.above x c (mem_of_lookup hc))), fun x y c hx hy => name_of_addr ic.apart (mem_of_lookup hx) (mem_of_lookup hy), fun x c hc hl => ?_⟩,
      fun d hd => RV.ext (hD d hd) hk₁, fun p hp => ⟨(hMu p hp).1.ext hk₁, (hMu p hp).2⟩, hnd, hX, hS⟩) (fun f s' q => ?_) fun _ _ q => q.elim
    · rw [bindL_eq, if_pos hl, lookup_rev_mem hn2 (by exact hp)]; rfl
    · have q := ic.cell x c hc
      rw [bindC_eq, if_neg (fun q => ?_), lookup_rev_mem hn2 hv] at q
      · exact q
      · have := ck x c hc
        have q' : scope.names.lookup x = some .local := q
        rw [this] at q'; cases q'
    · have := ck x c hc
      have q' : scope.names.lookup x = some .local := hl
      rw [this] at q'; cases q'
    · cases f <;> exact q

/-- a def's block -/
abbrev fEnv (scope : Scope) (L a : Addr) (cd : Value) (q : Str) : Env := { scope := scope, locals := L, globals := mainGlobals, cells := cellsFrom (L + 1) scope.names [], qual := q, func := some a, code := cd, frame := some L, builtins := builtinsNs }
theorem PC_intro (G : Gl base mg mb) {k : Nat} {name : Str} {params : Arguments} {body : List Stmt} {ds rt tp scope ts bn ps} (hst : fn k = .FunctionDef name params body ds rt tp scope ts bn ps) {n : Nat} {Rs : List RV} {R : RV} (xs : List Str)
    (hbind : ∀ pm code doc (vs : List Value), vs.length = Rs.length → bindArgs (docDef name params body scope pm code doc) ⟨vs, []⟩ = pure (xs.zip vs)) (hl : xs.length = Rs.length) (hok : paramsOk scope xs = true)
    (h : ∀ A L a cd q vs S, Rm A n → vs.length = Rs.length → ST prog w base A (fEnv scope L a cd q) ⟨ownCells scope, xs.zip vs, vs.zip Rs, [], fun _ => False, S⟩ body (Kr S R))
    (hco : scope.isCoroutine = false) (hgen : scope.isGenerator = false) (hk : scope.kind = .function) : PC prog w base mg name (n + 1) Rs R := by
  obtain ⟨a, o, pm, code, doc, e1, e2, e3, e4⟩ := G.fn k _ hst rfl
  refine ⟨a, o, _, e1, e2, e3, fun A hA vs s Q E hb hvs hQ => ?_⟩
  have hlen : vs.length = Rs.length := hvs.len
  refine wpAny_call (enter_at (Bk := s.heap.get?) (D := vs.zip Rs) (Mu := []) (X := fun _ => False) (S := dom s.heap) (by have := hA.hd; omega) hb e2 e3 G.nolimit e4 (hbind pm code doc vs hlen) ?_ (fun _ _ q => q) hb ?_ (fun _ q => nomatch q) List.nodup_nil
    (fun _ q => q.elim) (fun _ q => .inl q) (fun s₁ ⟨h₁, tk, e⟩ at₁ => ?_) hco hgen hk)
  · rw [List.map_fst_zip (by rw [hl, hlen]; exact Nat.le_refl _)]; exact hok
  · intro d hd
    obtain ⟨i, hi⟩ := List.getElem?_of_mem hd
    rw [List.getElem?_zip_eq_some] at hi
    obtain ⟨u, hu, hR⟩ := hvs.get hi.2
    rw [hi.1] at hu; cases hu
    exact hR
  · subst e
    refine h _ _ _ code _ vs (dom s.heap) (hA.deeper _) hlen s.heap.get? _ _ _ at₁ fun f h' tk' hK => ?_
    exact hQ _ h' tk' (fun b ob q => hK.1 b ob q) hK.2

theorem PC_intro1 (G : Gl base mg mb) {k : Nat} {name : Str} {params : Arguments} {body : List Stmt} {ds rt tp scope ts bn ps} (hst : fn k = .FunctionDef name params body ds rt tp scope ts bn ps) {n : Nat} {R₁ R : RV} (x₁ : Str)
    (h : ∀ A L a cd q v₁ S, Rm A n → ST prog w base A (fEnv scope L a cd q) ⟨ownCells scope, [(x₁, v₁)], [(v₁, R₁)], [], fun _ => False, S⟩ body (Kr S R))
    (hbind : ∀ pm code doc v₁, bindArgs (docDef name params body scope pm code doc) ⟨[v₁], []⟩ = pure [(x₁, v₁)] := by intros; rfl) (hok : paramsOk scope [x₁] = true := by decide +kernel)
    (hco : scope.isCoroutine = false := by rfl) (hgen : scope.isGenerator = false := by rfl) (hk : scope.kind = .function := by rfl) : PC prog w base mg name (n + 1) [R₁] R :=
  PC_intro G hst [x₁] (fun pm code doc vs hl => by match vs, hl with | [v], _ => exact hbind pm code doc v) rfl hok (fun A L a cd q vs S hA hl => by match vs, hl with | [v], _ => exact h A L a cd q v S hA) hco hgen hk
theorem PC_intro2 (G : Gl base mg mb) {k : Nat} {name : Str} {params : Arguments} {body : List Stmt} {ds rt tp scope ts bn ps} (hst : fn k = .FunctionDef name params body ds rt tp scope ts bn ps) {n : Nat} {R₁ R₂ R : RV} (x₁ x₂ : Str)
    (h : ∀ A L a cd q v₁ v₂ S, Rm A n → ST prog w base A (fEnv scope L a cd q) ⟨ownCells scope, [(x₁, v₁), (x₂, v₂)], [(v₁, R₁), (v₂, R₂)], [], fun _ => False, S⟩ body (Kr S R))
    (hbind : ∀ pm code doc v₁ v₂, bindArgs (docDef name params body scope pm code doc) ⟨[v₁, v₂], []⟩ = pure [(x₁, v₁), (x₂, v₂)] := by intros; rfl) (hok : paramsOk scope [x₁, x₂] = true := by decide +kernel)
    (hco : scope.isCoroutine = false := by rfl) (hgen : scope.isGenerator = false := by rfl) (hk : scope.kind = .function := by rfl) : PC prog w base mg name (n + 1) [R₁, R₂] R :=
  PC_intro G hst [x₁, x₂] (fun pm code doc vs hl => by match vs, hl with | [v, u], _ => exact hbind pm code doc v u) rfl hok (fun A L a cd q vs S hA hl => by match vs, hl with | [v, u], _ => exact h A L a cd q v u S hA) hco hgen hk
end

section
variable {prog : Program} {w : World} {base : Heap} {mg mb : Str → Option Value} {A : Around} {env : Env} {J : Inv}

theorem notdom {h : Heap} {b : Addr} (n : ¬ dom h b) : h.get? b = none := Classical.byContradiction fun q => n q
abbrev Kt := (Addr → Option Obj) → Flow → Heap → Prop

theorem At.less {B : Addr → Option Obj} {h : Heap} (a : At base B env J h) {m' : List (Str × Value)} {D' : List (Value × RV)} (hm : ∀ p ∈ m', p ∈ J.m) (hD : ∀ d ∈ D', d ∈ J.D) : At base B env { J with m := m', D := D' } h :=
  ⟨a.fm.less hm, fun d hd => a.dat d (hD d hd), a.mu, a.nd, a.xd, a.sd⟩
theorem ST_less {sts : List Stmt} {K : Kt} {m' : List (Str × Value)} {D' : List (Value × RV)} (hm : ∀ p ∈ m', p ∈ J.m) (hD : ∀ d ∈ D', d ∈ J.D) (h : ST prog w base A env { J with m := m', D := D' } sts K) : ST prog w base A env J sts K :=
  fun B s Q E a k => h B s Q E (a.less hm hD) k
theorem ST_mono {sts : List Stmt} {K K' : Kt} (h : ST prog w base A env J sts K) (hK : ∀ B f hp, K B f hp → K' B f hp) : ST prog w base A env J sts K' := fun B s Q E a k => h B s Q E a fun f h' tk y => k f h' tk (hK _ _ _ y)

/-- a new list is taken into hand -/
theorem At.own {B : Addr → Option Obj} {h h' : Heap} (a : At base B env J h) (k : Ext h h') {b : Addr} {Rs : List RV} {vs : List Value} (nb : h.get? b = none) (q : Sq "list" h' b vs) (r : All2 (fun c => J.X c ∨ c = b) h' Rs vs) :
    At base B env { J with Mu := (b, Rs) :: J.Mu, X := fun c => J.X c ∨ c = b } h' := by
  have a' := a.ext k
  have nB : B b = none := by
    cases e : B b with
    | none => rfl
    | some o => rw [a.fm.keep b o e] at nb; cases nb
  have up : ∀ (R : RV) v, R.p J.X v h → R.p (fun c => J.X c ∨ c = b) v h' := fun R v x =>
    RV.ext (R.anti _ _ _ _ (fun c q => q.imp id fun e => by rw [e]; exact nb) (R.grow _ _ _ x)) k
  refine ⟨a'.fm, fun d hd => up _ _ (a.dat d hd), fun p hp => ?_, ?_, fun c q' => ?_, fun c q' => (a.sd c q').imp id .inl⟩
  · rcases List.mem_cons.mp hp with rfl | hp
    · exact ⟨⟨vs, q, r⟩, nB, .inr rfl⟩
    · obtain ⟨⟨us, q', r'⟩, z, z'⟩ := a.mu p hp
      exact ⟨⟨us, q'.ext k, r'.imp fun R v hm x => RV.ext (R.anti _ _ _ _ (fun c q => q.imp id fun e => by rw [e]; exact nb) (R.grow _ _ _ x)) k⟩, z, .inl z'⟩
  · simp only [List.map_cons, List.nodup_cons]
    refine ⟨fun hm => ?_, a.nd⟩
    obtain ⟨p, hp, e⟩ := List.mem_map.mp hm
    exact a.xdom _ (e ▸ (a.mu p hp).2.2) nb
  · rcases q' with q' | rfl
    · exact (a.xd c q').imp id fun ⟨Rs, hm⟩ => ⟨Rs, .tail _ hm⟩
    · exact .inr ⟨Rs, .head _⟩

/-- elements of a list that is no part of itself -/
def Selfless (Rs : List RV) : Prop := ∀ X h a vs, Sq "list" h a vs → All2 X h Rs vs → All2 (fun b => X b ∨ b = a) h Rs vs
theorem selfless_free {Rs : List RV} (hf : ∀ R ∈ Rs, R.free) : Selfless Rs := fun X h a vs q r => r.imp fun R v hm x => hf R hm _ _ _ _ x

theorem ST_setOwn {e : Expr} {x : Str} {px pos : Pos} {rest : List Stmt} {Rs : List RV} {K : Kt} {m₀ : List (Str × Value)} (he : EVN prog w base A env J e (rList Rs)) (hself : Selfless Rs)
    (hm : Drop [x] J.m m₀) (hk : env.scope.kind = .function) (hx : env.kindOf x = some .local ∨ (env.kindOf x = some .cell ∧ x ∈ J.O ∧ (env.cells.lookup x).isSome = true))
    (h : ∀ b, ¬ J.S b → ST prog w base A env { J with m := (x, .ref b) :: m₀, Mu := (b, Rs) :: J.Mu, X := fun c => J.X c ∨ c = b } rest K) (hs : swapsWith e (some (.Name x px)) pos.line env = pure false := by rfl) :
    ST prog w base A env J (.Assign [.Name x px] e pos :: rest) K := fun B s Q E a k => by
  refine wpAny_execs_cons (wpAny_Assign_Name (he B s _ E a fun v h₁ t₁ k₁ r => ?_) hs)
  obtain ⟨b, vs, rfl, nb, q, r⟩ := r
  have nb' : s.heap.get? b = none := notdom nb
  have a₁ := a.own k₁ nb' q ((hself _ _ _ _ q r).imp fun R v _ x => R.anti _ _ _ _ (fun c q => q.imp (a.xdom c) id) x)
  refine At.store (s := { s with heap := h₁, toks := t₁ }) a₁ hm.aset hk hx fun h₂ t₂ a₂ K₂ => ?_
  exact h b (fun q => a.sdom b q nb') B _ Q E a₂ fun f h' tk y => k f h' tk y

/-! ### two names at once, stored from behind -/
theorem wp_swap2 {x y : Str} {px py pt pv pos : Pos} {k1 k2 : Nat} {e₁ e₂ : Expr} {s : Shared} {Q : Flow → Shared → Prop} {E : Value → Shared → Prop} (hh : A.handled = none)
    (h : wpAny (model prog w) A (eval e₁ env) (fun v s₁ => wpAny (model prog w) A (eval e₂ env) (fun u s₂ => ∀ h', Ext s₂.heap h' →
      wpAny (model prog w) A (storeName env y u) (fun _ s₃ => wpAny (model prog w) A (storeName env x v) (fun _ => Q .next) E s₃) E { s₂ with heap := h' }) E s₁) E s)
    (hs : swapsWithSole [.Tuple [.Name x px, .Name y py] k1 pt] (.Tuple [e₁, e₂] k2 pv) pos.line env = pure false) (hw : swappedStores [.Tuple [.Name x px, .Name y py] k1 pt] (.Tuple [e₁, e₂] k2 pv) env = pure (some [x, y]))
    (h1 : starEach [e₁, e₂] env = (false, eval e₁ env) :: starEach [e₂] env) (h2 : starEach [e₂] env = [(false, eval e₂ env)]) :
    wpAny (model prog w) A (exec (.Assign [.Tuple [.Name x px, .Name y py] k1 pt] (.Tuple [e₁, e₂] k2 pv) pos) env) Q E s := by
  refine Assign_Tuple_swapped ?_ hs hw
  refine Tuple_ (args_cons (wpAny_mono h (fun v s₁ h₁ => args_cons (wpAny_mono h₁ (fun u s₂ h₂ => args_nil ?_) fun _ _ z => z) h2) fun _ _ z => z) h1)
  refine wpAny_newObj_type ?_ (by show 2 ≤ sizeLine; rw [sizeLine_eq]; decide)
  refine unpackItems_tuple (items := [v, u].toArray) hh ⟨_, Heap.get?_push_size _ rfl, rfl, _, rfl⟩ fun h₃ k₃ => ?_
  have k₃' : Ext s₂.heap h₃ := fun b o e => k₃ b o (by show b ≠ (s₂.heap.push _).objs.size; rw [Heap.size_push]; exact Nat.ne_of_lt (Nat.lt_succ_of_lt (Heap.lt_size e))) (Heap.get?_push_of_some _ e)
  show wpAny _ A (assignInOrder [bindName env y, bindName env x] [u, v]) _ _ _
  refine assignInOrder_cons (wpAny_bindName (wpAny_mono (h₂ h₃ k₃') (fun _ s₄ h₄ => ?_) fun _ _ z => z))
  refine assignInOrder_cons (wpAny_bindName (wpAny_mono h₄ (fun _ s₅ h₅ => assignInOrder_nil h₅) fun _ _ z => z))

theorem ST_swap2 {x y : Str} {px py pt pv pos : Pos} {k1 k2 : Nat} {e₁ e₂ : Expr} {rest : List Stmt} {R₁ R₂ : RV} {K : Kt} {m₀ : List (Str × Value)} (hh : A.handled = none)
    (he₁ : EV prog w base A env J e₁ R₁) (he₂ : EV prog w base A env J e₂ R₂) (hm : Drop [x, y] J.m m₀) (hk : env.scope.kind = .function)
    (hx : env.kindOf x = some .local) (hy : env.kindOf y = some .local) (hxy : y ≠ x)
    (h : ∀ v u, ST prog w base A env { J with m := (x, v) :: (y, u) :: m₀, D := (v, R₁) :: (u, R₂) :: J.D } rest K)
    (hs : swapsWithSole [.Tuple [.Name x px, .Name y py] k1 pt] (.Tuple [e₁, e₂] k2 pv) pos.line env = pure false := by rfl) (hw : swappedStores [.Tuple [.Name x px, .Name y py] k1 pt] (.Tuple [e₁, e₂] k2 pv) env = pure (some [x, y]) := by rfl)
    (h1 : starEach [e₁, e₂] env = (false, eval e₁ env) :: starEach [e₂] env := by rfl) (h2 : starEach [e₂] env = [(false, eval e₂ env)] := by rfl) :
    ST prog w base A env J (.Assign [.Tuple [.Name x px, .Name y py] k1 pt] (.Tuple [e₁, e₂] k2 pv) pos :: rest) K := fun B s Q E a k => by
  refine wpAny_execs_cons (wp_swap2 hh (he₁ B s _ E a fun v h₁ t₁ k₁ r₁ => he₂ B _ _ E (a.ext k₁) fun u h₂ t₂ k₂ r₂ => ?_) hs hw h1 h2)
  intro h₃ k₃
  refine At.store (s := { s with heap := h₃, toks := t₂ }) (((a.ext k₁).ext k₂).ext k₃) hm.two₁ hk (.inl hy) fun h₄ t₄ a₄ K₄ => ?_
  refine At.store (s := { s with heap := h₄, toks := t₄ }) a₄ (hm.two₂ hxy) hk (.inl hx) fun h₅ t₅ a₅ K₅ => ?_
  have K' : KS J.X h₃ h₅ := (K₄.trans K₅).mono fun _ q => q.elim
  exact h v u B _ Q E ((a₅.add (R₂.st _ _ _ _ K' (RV.ext r₂ k₃))).add (R₁.st _ _ _ _ K' (RV.ext (RV.ext r₁ k₂) k₃))) fun f h' tk z => k f h' tk z
/-- the first is a new list, taken into hand -/
theorem ST_swapOwn {x y : Str} {px py pt pv pos : Pos} {k1 k2 : Nat} {e₁ e₂ : Expr} {rest : List Stmt} {Rs : List RV} {R₂ : RV} {K : Kt} {m₀ : List (Str × Value)} (hh : A.handled = none)
    (he₁ : EVN prog w base A env J e₁ (rList Rs)) (hself : Selfless Rs) (he₂ : EVN prog w base A env J e₂ R₂) (hm : Drop [x, y] J.m m₀) (hk : env.scope.kind = .function)
    (hx : env.kindOf x = some .local) (hy : env.kindOf y = some .local) (hxy : y ≠ x)
    (h : ∀ b u, ¬ J.S b → ST prog w base A env { J with m := (x, .ref b) :: (y, u) :: m₀, D := (u, R₂) :: J.D, Mu := (b, Rs) :: J.Mu, X := fun c => J.X c ∨ c = b } rest K)
    (hs : swapsWithSole [.Tuple [.Name x px, .Name y py] k1 pt] (.Tuple [e₁, e₂] k2 pv) pos.line env = pure false := by rfl) (hw : swappedStores [.Tuple [.Name x px, .Name y py] k1 pt] (.Tuple [e₁, e₂] k2 pv) env = pure (some [x, y]) := by rfl)
    (h1 : starEach [e₁, e₂] env = (false, eval e₁ env) :: starEach [e₂] env := by rfl) (h2 : starEach [e₂] env = [(false, eval e₂ env)] := by rfl) :
    ST prog w base A env J (.Assign [.Tuple [.Name x px, .Name y py] k1 pt] (.Tuple [e₁, e₂] k2 pv) pos :: rest) K := fun B s Q E a k => by
  refine wpAny_execs_cons (wp_swap2 hh (he₁ B s _ E a fun v h₁ t₁ k₁ r₁ => he₂ B _ _ E (a.ext k₁) fun u h₂ t₂ k₂ r₂ => ?_) hs hw h1 h2)
  intro h₃ k₃
  obtain ⟨b, vs, rfl, nb, q, r⟩ := r₁
  have nb' : s.heap.get? b = none := notdom nb
  have a₃ := a.own ((k₁.trans k₂).trans k₃) nb' ((q.ext k₂).ext k₃) ((hself _ _ _ _ ((q.ext k₂).ext k₃) (r.imp fun R v _ x => RV.ext (RV.ext x k₂) k₃)).imp fun R v _ x => R.anti _ _ _ _ (fun c q => q.imp (a.xdom c) id) x)
  have a₃ := a₃.add (v := u) (R := R₂) (R₂.anti _ _ _ _ (fun c q' => by
    rcases q' with q' | rfl
    · exact (a.ext k₁).xdom c q'
    · obtain ⟨n, e⟩ := q; show h₁.get? c ≠ none; rw [e]; exact fun z => by cases z) (RV.ext r₂ k₃))
  refine At.store (s := { s with heap := h₃, toks := t₂ }) a₃ hm.two₁ hk (.inl hy) fun h₄ t₄ a₄ K₄ => ?_
  refine At.store (s := { s with heap := h₄, toks := t₄ }) a₄ (hm.two₂ hxy) hk (.inl hx) fun h₅ t₅ a₅ K₅ => ?_
  exact h b u (fun q => a.sdom b q nb') B _ Q E a₅ fun f h' tk z => k f h' tk z
/-- both are new lists, taken into hand -/
theorem ST_swapOwn2 {x y : Str} {px py pt pv pos : Pos} {k1 k2 : Nat} {e₁ e₂ : Expr} {rest : List Stmt} {Rs Ss : List RV} {K : Kt} {m₀ : List (Str × Value)} (hh : A.handled = none)
    (he₁ : EVN prog w base A env J e₁ (rList Rs)) (hself : Selfless Rs) (he₂ : EVN prog w base A env J e₂ (rList Ss)) (hself₂ : Selfless Ss) (hm : Drop [x, y] J.m m₀) (hk : env.scope.kind = .function)
    (hx : env.kindOf x = some .local) (hy : env.kindOf y = some .local) (hxy : y ≠ x)
    (h : ∀ b c, ¬ J.S b → ¬ J.S c → ST prog w base A env { J with m := (x, .ref b) :: (y, .ref c) :: m₀, Mu := (c, Ss) :: (b, Rs) :: J.Mu, X := fun d => (J.X d ∨ d = b) ∨ d = c } rest K)
    (hs : swapsWithSole [.Tuple [.Name x px, .Name y py] k1 pt] (.Tuple [e₁, e₂] k2 pv) pos.line env = pure false := by rfl) (hw : swappedStores [.Tuple [.Name x px, .Name y py] k1 pt] (.Tuple [e₁, e₂] k2 pv) env = pure (some [x, y]) := by rfl)
    (h1 : starEach [e₁, e₂] env = (false, eval e₁ env) :: starEach [e₂] env := by rfl) (h2 : starEach [e₂] env = [(false, eval e₂ env)] := by rfl) :
    ST prog w base A env J (.Assign [.Tuple [.Name x px, .Name y py] k1 pt] (.Tuple [e₁, e₂] k2 pv) pos :: rest) K := fun B s Q E a k => by
  refine wpAny_execs_cons (wp_swap2 hh (he₁ B s _ E a fun v h₁ t₁ k₁ r₁ => he₂ B _ _ E (a.ext k₁) fun u h₂ t₂ k₂ r₂ => ?_) hs hw h1 h2)
  intro h₃ k₃
  obtain ⟨b, vs, rfl, nb, q, r⟩ := r₁
  obtain ⟨c, us, rfl, nc, p, r'⟩ := r₂
  have nb' : s.heap.get? b = none := notdom nb
  have nc' : h₁.get? c = none := notdom nc
  have a₁ := a.own k₁ nb' q ((hself _ _ _ _ q r).imp fun R v _ x => R.anti _ _ _ _ (fun c q => q.imp (a.xdom c) id) x)
  have a₃ := a₁.own (k₂.trans k₃) nc' (p.ext k₃) ((hself₂ _ _ _ _ (p.ext k₃) (r'.imp fun R v _ x => RV.ext x k₃)).imp fun R v _ x => R.anti _ _ _ _ (fun d q' => by
    rcases q' with q' | rfl
    · exact .inl (a₁.xdom d q')
    · exact .inr rfl) x)
  refine At.store (s := { s with heap := h₃, toks := t₂ }) a₃ hm.two₁ hk (.inl hy) fun h₄ t₄ a₄ K₄ => ?_
  refine At.store (s := { s with heap := h₄, toks := t₄ }) a₄ (hm.two₂ hxy) hk (.inl hx) fun h₅ t₅ a₅ K₅ => ?_
  exact h b c (fun q => a.sdom b q nb') (fun q => (a.ext k₁).sdom c q nc') B _ Q E a₅ fun f h' tk z => k f h' tk z

/-! ### while -/
/-- the end of a loop's turn -/
def Kw (base : Heap) (env : Env) (Fam : Inv → Prop) (K : Kt) : Kt := fun B f h' => match f with
  | .next => ∃ J', Fam J' ∧ At base B env J' h'
  | .cont => ∃ J', Fam J' ∧ At base B env J' h'
  | .ret v => K B (.ret v) h'
  | .brk => False
theorem ST_while {t : Expr} {b : List Stmt} {pos : Pos} {rest : List Stmt} {K : Kt} (Fam : Nat → Inv → Prop) (n₀ : Nat) (h0 : Fam n₀ J)
    (turn : ∀ n J', Fam n J' → ∃ c, ET prog w base A env J' t c ∧ (c = true → ST prog w base A env J' b (Kw base env (fun J'' => ∃ k, k < n ∧ Fam k J'') K)) ∧ (c = false → ST prog w base A env J' rest K)) :
    ST prog w base A env J (.While t b [] pos :: rest) K := fun B s Q E a k => by
  refine wpAny_execs_cons (wpAny_While ?_)
  refine codeAny_whileLoop (fun n s' => ∃ J' h' tk, s' = { s with heap := h', toks := tk } ∧ Fam n J' ∧ At base B env J' h') ?_ n₀ ⟨J, s.heap, s.toks, rfl, h0, a⟩
  rintro n s' ⟨J', h', tk, rfl, hF, a'⟩
  obtain ⟨c, hc, hb, hr⟩ := turn n J' hF
  refine hc B _ _ _ a' fun h₁ t₁ k₁ => ?_
  cases c with
  | true =>
    refine hb rfl B _ _ _ (a'.ext k₁) fun f h₂ t₂ y => ?_
    cases f with
    | next => obtain ⟨J'', ⟨m, hm, hF'⟩, a''⟩ := y; exact ⟨m, hm, J'', h₂, t₂, rfl, hF', a''⟩
    | cont => obtain ⟨J'', ⟨m, hm, hF'⟩, a''⟩ := y; exact ⟨m, hm, J'', h₂, t₂, rfl, hF', a''⟩
    | ret v => exact k _ h₂ t₂ y
    | brk => exact y.elim
  | false =>
    refine wpAny_execs_nil ?_
    exact hr rfl B _ Q E (a'.ext k₁) fun f h₂ t₂ y => k f h₂ t₂ y
end


/-! ## sizes -/
def Bd (b : Nat) (q : Rat) : Prop := q.num.natAbs < 2 ^ b ∧ q.den < 2 ^ b
theorem Bd.le {b c : Nat} {q : Rat} (x : Bd b q) (h : b ≤ c) : Bd c q := ⟨Nat.lt_of_lt_of_le x.1 (Nat.pow_le_pow_right (by decide) h), Nat.lt_of_lt_of_le x.2 (Nat.pow_le_pow_right (by decide) h)⟩
theorem mulOk {a b : Int} {k l : Nat} (ha : a.natAbs < 2 ^ k) (hb : b.natAbs < 2 ^ l) (h : k + l ≤ 100000) : IntMulOk a b := by
  have h1 := intBits_le ha
  have h2 := intBits_le hb
  unfold IntMulOk Builtin.Int.intTooBig bitsLine
  simp only [Bool.and_eq_true, decide_eq_true_eq, not_and]
  intro _ h3
  refine absurd (Int.ofNat_lt.mp h3) (Nat.not_lt.mpr ?_)
  exact Nat.le_trans (Nat.add_le_add h1 h2) (Nat.le_trans h (show (100000 : Nat) ≤ 2 ^ 27 by decide))
theorem log2_le {a : Nat} {k : Nat} (h : a < 2 ^ k) (hk : k ≤ 8999) : a.log2 < 9000 := by
  by_cases h0 : a = 0
  · subst h0; decide
  · have := (Nat.log2_lt h0).mpr h; omega
theorem natAbs_mul_lt {a b : Int} {k l : Nat} (ha : a.natAbs < 2 ^ k) (hb : b.natAbs < 2 ^ l) : (a * b).natAbs < 2 ^ (k + l) := by
  rw [Int.natAbs_mul, Nat.pow_add]
  rcases Nat.eq_zero_or_pos a.natAbs with h | h
  · rw [h, Nat.zero_mul]; exact Nat.mul_pos (Nat.pow_pos (by decide)) (Nat.pow_pos (by decide))
  · exact Nat.mul_lt_mul'' ha hb
theorem natAbs_add_lt {a b : Int} {k : Nat} (ha : a.natAbs < 2 ^ k) (hb : b.natAbs < 2 ^ k) : (a + b).natAbs < 2 ^ (k + 1) := by rw [Nat.pow_succ]; omega
theorem natAbs_sub_lt {a b : Int} {k : Nat} (ha : a.natAbs < 2 ^ k) (hb : b.natAbs < 2 ^ k) : (a - b).natAbs < 2 ^ (k + 1) := by rw [Nat.pow_succ]; omega
theorem Bd.divInt {a b : Int} {k : Nat} (hb0 : b ≠ 0) (ha : a.natAbs < 2 ^ k) (hb : b.natAbs < 2 ^ k) : Bd k (Rat.divInt a b) := by
  constructor
  · rw [Rat.num_divInt]
    refine Nat.lt_of_le_of_lt (Nat.le_trans (Int.natAbs_ediv_le_natAbs _ _) ?_) ha
    rw [Int.natAbs_mul]
    rcases Int.lt_trichotomy b 0 with h | h | h
    · rw [Int.sign_eq_neg_one_of_neg h]; simp
    · subst h; simp
    · rw [Int.sign_eq_one_of_pos h]; simp
  · rw [Rat.den_divInt]
    rw [if_neg hb0]
    exact Nat.lt_of_le_of_lt (Nat.div_le_self _ _) hb

theorem divInt_parts {a b : Int} (hb : b ≠ 0) : (Rat.divInt a b).num = a.fdiv (if 0 < b then (Int.gcd a b : Int) else 0 - Int.gcd a b) ∧ ((Rat.divInt a b).den : Int) = b.fdiv (if 0 < b then (Int.gcd a b : Int) else 0 - Int.gcd a b) := by
  rw [Rat.num_divInt, Rat.den_divInt, if_neg hb, Int.gcd_comm b a]
  have hg : (0 : Int) ≤ (Int.gcd a b : Int) := Int.natCast_nonneg _
  rcases Int.lt_trichotomy b 0 with h | h | h
  · rw [if_neg (by omega), Int.sign_eq_neg_one_of_neg h]
    have e1 : a.fdiv (0 - (Int.gcd a b : Int)) = -1 * a / (Int.gcd a b : Int) := by
      rw [Int.zero_sub, ← Int.neg_neg a, Int.neg_fdiv_neg, Int.neg_neg, Int.fdiv_eq_ediv_of_nonneg _ hg, Int.neg_one_mul]
    have e2 : b.fdiv (0 - (Int.gcd a b : Int)) = (b.natAbs / Int.gcd a b : Nat) := by
      rw [Int.zero_sub, ← Int.neg_neg b, Int.neg_fdiv_neg, Int.neg_neg, Int.fdiv_eq_ediv_of_nonneg _ hg]
      rw [show -b = (b.natAbs : Int) by omega]
      simp
    exact ⟨e1.symm, e2.symm⟩
  · exact absurd h hb
  · rw [if_pos h, Int.sign_eq_one_of_pos h, Int.one_mul, Int.fdiv_eq_ediv_of_nonneg _ hg, Int.fdiv_eq_ediv_of_nonneg _ hg]
    refine ⟨rfl, ?_⟩
    have : (b.natAbs : Int) = b := by omega
    rw [Int.natCast_ediv, this]
theorem add_divInt (p q : Rat) : Rat.divInt (p.num * q.den + q.num * p.den) (p.den * q.den) = p + q := by
  rw [Rat.add_def', ← Int.natCast_mul, Rat.divInt_ofNat]
theorem sub_divInt (p q : Rat) : Rat.divInt (p.num * q.den - q.num * p.den) (p.den * q.den) = p - q := by
  rw [Rat.sub_def', ← Int.natCast_mul, Rat.divInt_ofNat]
theorem mul_divInt (p q : Rat) : Rat.divInt (p.num * q.num) (p.den * q.den) = p * q := by
  rw [Rat.mul_def', ← Int.natCast_mul, Rat.divInt_ofNat]
theorem div_divInt (p q : Rat) : Rat.divInt (p.num * q.den) (p.den * q.num) = p / q := by
  rw [Rat.div_def, Rat.inv_def, ← Rat.divInt_mul_divInt, Rat.num_divInt_den]

local macro_rules | `(tactic| walk_at "q_mem") => `(tactic| first | with_reducible exact List.mem_cons_self | ((with_reducible refine List.mem_cons_of_mem _ ?_); walk_at "q_mem"))
local macro_rules | `(tactic| walk_at "q_drop1") => `(tactic| first | with_reducible exact Drop.nil | (refine Drop.skip (m₀ := ?qm) ?qn ?qr; (case qn => decide +kernel); (case qr => walk_at "q_drop1")) | ((with_reducible refine Drop.drop ?_); walk_at "q_drop1"))
local macro_rules | `(tactic| walk_at "q_drop") => `(tactic| (dsimp only; walk_at "q_drop1"))
local macro_rules | `(tactic| walk_at "q_sub1") => `(tactic| first | exact List.forall_mem_nil _ | (refine List.forall_mem_cons.mpr ⟨?_, ?_⟩; walk_at "q_mem"; walk_at "q_sub1"))
local macro_rules | `(tactic| walk_at "q_sub") => `(tactic| (dsimp only; walk_at "q_sub1"))
local macro_rules | `(tactic| walk_at "q_kind") => `(tactic| first | exact .inl rfl | exact .inr ⟨rfl, by decide +kernel, rfl⟩)
local macro_rules | `(tactic| walk_at "q_name") => `(tactic| first
  | (refine EV_local (v := ?qv) ?q1 ?q2 ?q3 ?q4; (case q1 => (dsimp only; walk_at "q_mem")); (case q2 => (dsimp only; walk_at "q_mem")); (case q3 => rfl); (case q4 => rfl))
  | (refine EV_cell (v := ?qv) ?q1 ?q2 ?q3 ?q4 ?q5; (case q1 => (dsimp only; walk_at "q_mem")); (case q2 => (dsimp only; walk_at "q_mem")); (case q3 => rfl); (case q4 => rfl); (case q5 => rfl))
  | (refine EV_free (v := ?qv) ?q1 ?q2 ?q3 ?q4 ?q5; (case q1 => (dsimp only; walk_at "q_mem")); (case q2 => (dsimp only; walk_at "q_mem")); (case q3 => rfl); (case q4 => rfl); (case q5 => rfl)))
local macro_rules | `(tactic| walk_at "q_call") => `(tactic| fail)
local macro_rules | `(tactic| walk_at "q_mul") => `(tactic| exact mulOk (by assumption) (by assumption) (by omega))
local macro_rules | `(tactic| walk_at "q_ev") => `(tactic| first
  | ((with_reducible show EV _ _ _ _ _ _ (PySem.Expr.Constant (PySem.Const.int _) _ _) _); exact EV_int)
  | ((with_reducible show EV _ _ _ _ _ _ (PySem.Expr.Name _ _) _); walk_at "q_name")
  | ((with_reducible show EV _ _ _ _ _ _ (PySem.Expr.Call _ _ _ _) _); walk_at "q_call")
  | ((with_reducible show EV _ _ _ _ _ _ (PySem.Expr.BinOp _ PySem.Operator.Add _ _) _); refine EV_add ?_ ?_ <;> walk_at "q_ev")
  | ((with_reducible show EV _ _ _ _ _ _ (PySem.Expr.BinOp _ PySem.Operator.Sub _ _) _); refine EV_sub ?_ ?_ <;> walk_at "q_ev")
  | ((with_reducible show EV _ _ _ _ _ _ (PySem.Expr.BinOp _ PySem.Operator.Mult _ _) _); refine EV_mul ?_ ?_ ?_; walk_at "q_ev"; walk_at "q_ev"; walk_at "q_mul")
  | ((with_reducible show EV _ _ _ _ _ _ (PySem.Expr.Subscript _ _ _) _); refine EV_part (Rs := ?qR) ?q5 EV_int ?q7 ?q6; (case q5 => walk_at "q_ev"); (case q7 => decide); (case q6 => rfl))
  | ((with_reducible show EV _ _ _ _ _ _ (PySem.Expr.Tuple _ _ _) _); refine EV_tuple ?_; walk_at "q_evs"))
local macro_rules | `(tactic| walk_at "q_evs") => `(tactic| first
  | exact EVs_nil
  | (refine EVs_cons ?_ ?_; walk_at "q_ev"; walk_at "q_evs"))
section
variable {prog : Program} {w : World} {base : Heap} {mg mb : Str → Option Value}

theorem gcd_pc (G : Gl base mg mb) (a b : Int) : PC prog w base mg "gcd" 1 [rInt a, rInt b] (rInt (Int.gcd a b)) := by
  refine PC_intro2 G (k := 3) rfl "a" "b" fun A L fa cd q v₁ v₂ S hA => ?_
  refine ST_swap2 hA.hh (EV_abs G (i := a) ?_ rfl rfl rfl rfl) (EV_abs G (i := b) ?_ rfl rfl rfl rfl) (m₀ := []) ?_ rfl rfl rfl (by decide +kernel) fun v u => ?_
  · walk_at "q_name"
  · walk_at "q_name"
  · walk_at "q_drop"
  refine ST_less (m' := [("a", v), ("b", u)]) (D' := [(v, rInt a.natAbs), (u, rInt b.natAbs)]) ?_ ?_ ?_
  · walk_at "q_sub"
  · walk_at "q_sub"
  refine ST_while (fun n J => ∃ (x y : Nat) (v u : Value), n = y ∧ Nat.gcd x y = Int.gcd a b ∧ J = ⟨ownCells _, [("a", v), ("b", u)], [(v, rInt x), (u, rInt y)], [], fun _ => False, S⟩) b.natAbs ⟨_, _, v, u, rfl, rfl, rfl⟩ ?_
  rintro n J ⟨x, y, v, u, rfl, hg, rfl⟩
  refine ⟨_, ET_of (R := rInt n) (by walk_at "q_name") EV_int cmp_ne, fun hc => ?_, fun hc => ?_⟩
  · have hn : n ≠ 0 := by simpa using hc
    refine ST_swap2 hA.hh (R₁ := rInt n) (R₂ := rInt ((x : Int).fmod n)) ?_ (EV_mod ?_ ?_ (by omega)) (m₀ := []) ?_ rfl rfl rfl (by decide +kernel) fun v u => ?_
    · walk_at "q_name"
    · walk_at "q_name"
    · walk_at "q_name"
    · walk_at "q_drop"
    refine ST_nil fun B hp a' => ⟨_, ⟨x % n, Nat.mod_lt _ (Nat.pos_of_ne_zero hn), n, x % n, v, u, rfl, ?_, rfl⟩, ?_⟩
    · rw [← hg, Nat.gcd_comm x n, Nat.gcd_rec n x, Nat.gcd_comm]
    · refine At.less a' ?_ ?_
      · walk_at "q_sub"
      · rw [Int.ofNat_fmod]; walk_at "q_sub"
  · have hn : n = 0 := by simpa using hc
    subst hn
    refine ST_retF (R' := rInt x) ?_ ?_ (rInt_free _)
    · walk_at "q_name"
    · rw [← hg, Nat.gcd_zero_right]

theorem rat_sign (a b : Int) {k : Nat} (hb : b ≠ 0) (hs : b.natAbs < 2 ^ k) (hk : k ≤ 8999) : ∃ g : Int, (0 < b → g = Int.gcd a b) ∧ (¬ 0 < b → g = 0 - Int.gcd a b) ∧ g ≠ 0 ∧ g.natAbs.log2 < 9000 ∧ (Rat.divInt a b).num = a.fdiv g ∧ ((Rat.divInt a b).den : Int) = b.fdiv g := by
  have hgl : (Int.gcd a b).log2 < 9000 := log2_le (Nat.lt_of_le_of_lt (Int.gcd_le_natAbs_right a hb) hs) hk
  have hg0 : Int.gcd a b ≠ 0 := fun e => hb (Int.gcd_eq_zero_iff.mp e).2
  obtain ⟨h1, h2⟩ := divInt_parts (a := a) hb
  refine ⟨_, fun h => if_pos h, fun h => if_neg h, ?_, ?_, h1, h2⟩
  · split <;> omega
  · split
    · simpa using hgl
    · simpa using hgl
theorem rat_pc (G : Gl base mg mb) (a b : Int) {k : Nat} (hb : b ≠ 0) (hs : b.natAbs < 2 ^ k) (hk : k ≤ 8999) : PC prog w base mg "rat" 2 [rInt a, rInt b] (rRat (Rat.divInt a b)) := by
  obtain ⟨g, g1, g2, g3, g4, g5, g6⟩ := rat_sign a b hb hs hk
  refine PC_intro2 G (k := 7) rfl "top" "bottom" fun A L fa cd q v₁ v₂ S hA => ?_
  refine ST_skip (c := decide (b = 0)) (ET_of (R := rInt b) (by walk_at "q_name") EV_int cmp_eq) (by simpa using hb) ?_
  refine ST_set (R := rInt g) (m₀ := ?m₀) (EV_if (c := decide (0 < b)) ?e1 ?e2 ?e3) ?e4 rfl (.inl rfl) (fun v => ?e5)
  case e1 => exact ET_of (R := rInt b) (by walk_at "q_name") EV_int cmp_gt
  case e2 => exact fun h => EV.conv (EVN_call G (gcd_pc G a b) hA (by walk_at "q_evs") rfl rfl rfl).ev (by rw [g1 (by simpa using h)])
  case e3 => exact fun h => EV.conv (EV_sub EV_int (EVN_call G (gcd_pc G a b) hA (by walk_at "q_evs") rfl rfl rfl).ev) (by rw [g2 (by simpa using h)])
  case e4 => walk_at "q_drop"
  refine ST_retF (R' := rTup [rInt (a.fdiv g), rInt (b.fdiv g)]) (EV_tuple (EVs_cons (EV_fdiv ?_ ?_ g3 g4) (EVs_cons (EV_fdiv ?_ ?_ g3 g4) EVs_nil))) (by rw [← g5, ← g6]) (rRat_free _)
  all_goals walk_at "q_name"

section
variable (G : Gl base mg mb) (p q : Rat) (k l : Nat) (hp : Bd k p) (hq : Bd l q) (h : k + l ≤ 8999)
include G hp hq h
theorem radd_pc : PC prog w base mg "radd" 3 [rRat p, rRat q] (rRat (p + q)) := by
  refine PC_intro2 G (k := 8) rfl "a" "b" fun A L fa cd qn v₁ v₂ S hA => ?_
  obtain ⟨p1, p2⟩ := hp
  obtain ⟨q1, q2⟩ := hq
  have p3 : (p.den : Int).natAbs < 2 ^ k := p2
  have q3 : (q.den : Int).natAbs < 2 ^ l := q2
  refine ST_retN (add_divInt p q ▸ EVN_call G (rat_pc G (p.num * q.den + q.num * p.den) (p.den * q.den) (by simp [p.den_nz, q.den_nz]) (natAbs_mul_lt p3 q3) h) hA ?_ rfl rfl rfl)
  walk_at "q_evs"
theorem rsub_pc : PC prog w base mg "rsub" 3 [rRat p, rRat q] (rRat (p - q)) := by
  refine PC_intro2 G (k := 9) rfl "a" "b" fun A L fa cd qn v₁ v₂ S hA => ?_
  obtain ⟨p1, p2⟩ := hp
  obtain ⟨q1, q2⟩ := hq
  have p3 : (p.den : Int).natAbs < 2 ^ k := p2
  have q3 : (q.den : Int).natAbs < 2 ^ l := q2
  refine ST_retN (sub_divInt p q ▸ EVN_call G (rat_pc G (p.num * q.den - q.num * p.den) (p.den * q.den) (by simp [p.den_nz, q.den_nz]) (natAbs_mul_lt p3 q3) h) hA ?_ rfl rfl rfl)
  walk_at "q_evs"
theorem rmul_pc : PC prog w base mg "rmul" 3 [rRat p, rRat q] (rRat (p * q)) := by
  refine PC_intro2 G (k := 10) rfl "a" "b" fun A L fa cd qn v₁ v₂ S hA => ?_
  obtain ⟨p1, p2⟩ := hp
  obtain ⟨q1, q2⟩ := hq
  have p3 : (p.den : Int).natAbs < 2 ^ k := p2
  have q3 : (q.den : Int).natAbs < 2 ^ l := q2
  refine ST_retN (mul_divInt p q ▸ EVN_call G (rat_pc G (p.num * q.num) (p.den * q.den) (by simp [p.den_nz, q.den_nz]) (natAbs_mul_lt p3 q3) h) hA ?_ rfl rfl rfl)
  walk_at "q_evs"
theorem rdiv_pc (h0 : q ≠ 0) : PC prog w base mg "rdiv" 3 [rRat p, rRat q] (rRat (p / q)) := by
  refine PC_intro2 G (k := 11) rfl "a" "b" fun A L fa cd qn v₁ v₂ S hA => ?_
  obtain ⟨p1, p2⟩ := hp
  obtain ⟨q1, q2⟩ := hq
  have p3 : (p.den : Int).natAbs < 2 ^ k := p2
  have q3 : (q.den : Int).natAbs < 2 ^ l := q2
  refine ST_retN (div_divInt p q ▸ EVN_call G (rat_pc G (p.num * q.den) (p.den * q.num) (by simp [p.den_nz, Rat.num_eq_zero, h0]) (natAbs_mul_lt p3 q1) h) hA ?_ rfl rfl rfl)
  walk_at "q_evs"
end
theorem rneg_pc (G : Gl base mg mb) (q : Rat) : PC prog w base mg "rneg" 1 [rRat q] (rRat (-q)) := by
  refine PC_intro1 G (k := 12) rfl "a" fun A L fa cd qn v₁ S hA => ?_
  refine ST_retF (R' := rTup [rInt (0 - q.num), rInt q.den]) ?_ (by rw [Int.zero_sub]; rfl) (rRat_free _)
  walk_at "q_ev"
end


/-! ## walks -/
/-- all stands but lists of X, blocks' names and cells -/
def KA (X : Addr → Prop) (h h' : Heap) : Prop := ∀ a o, h.get? a = some o → (¬ X a ∨ o.cls ≠ .type "list") → (∀ es n, o.data ≠ .dict es n) → (∀ v, o.data ≠ .cell v) → h'.get? a = some o
theorem Ext.ka {h h' : Heap} (x : Ext h h') (X : Addr → Prop) : KA X h h' := fun a o e _ _ _ => x a o e
theorem KA.trans {X : Addr → Prop} {h h₁ h₂ : Heap} (x : KA X h h₁) (y : KA X h₁ h₂) : KA X h h₂ := fun a o e n d c => y a o (x a o e n d c) n d c
theorem ka_sameBut {X : Addr → Prop} {h h' : Heap} {L : Addr} {o : Obj} (hs : Heap.SameBut L h h') (e : h.get? L = some o) (hd : (∃ es n, o.data = .dict es n) ∨ (∃ v, o.data = .cell v)) : KA X h h' := fun a oa ea _ nd nc => by
  refine (hs.2 a ?_).trans ea
  rintro rfl
  rw [e] at ea; cases ea
  rcases hd with ⟨es, n, q⟩ | ⟨v, q⟩
  · exact nd _ _ q
  · exact nc _ q

def onNext (QN : Shared → Prop) (f : Value → Shared → Prop) : Option Value → Shared → Prop
  | none, s => QN s
  | some v, s => f v s

/-- names that may be stored -/
def StoreOk (env : Env) (O xs : List Str) : Prop := ∀ x ∈ xs, env.kindOf x = some .local ∨ (env.kindOf x = some .cell ∧ x ∈ O ∧ (env.cells.lookup x).isSome = true)

section
variable (prog : Program) (w : World) (base : Heap) (A : Around)
structure IT (target : Expr) (I : Addr) (n : Nat) (xs : List Str) (Vb : Nat → List RV) (X : Addr → Prop) (wr : List Addr) (St : Nat → Heap → Prop) : Prop where
  keep : ∀ i h h', St i h → KA X h h' → St i h'
  self : ∀ i (s : Shared) (Q : Value → Shared → Prop) (E : Value → Shared → Prop), St i s.heap → Q (.ref I) s → wpAny (model prog w) A (pyIter (.ref I)) Q E s
  step : ∀ i (s : Shared) (Q QN : Shared → Prop) (E : Value → Shared → Prop) (env : Env) (O : List Str) (B : Addr → Option Obj) (m m₀ : List (Str × Value)), i < n → St i s.heap → Fm base B env O s.heap m → (∀ b ∈ wr, B b = none) → StoreOk env O xs →
    env.scope.kind = .function → Drop xs m m₀ →
    (∀ vs h' tk, vs.length = xs.length → All2 X h' (Vb i) vs → Fm base B env O h' (xs.zip vs ++ m₀) → St (i + 1) h' → KS (fun _ => False) s.heap h' → Q { s with heap := h', toks := tk }) →
    wpAny (model prog w) A (pyNext (.ref I)) (onNext QN fun v s₁ => wpAny (model prog w) A (letOwnedTupleGo target (.ref I) v) (fun _ s₂ => wpAny (model prog w) A (assign target env v) (fun _ s₃ => Q s₃) E s₂) E s₁) E s
  done : ∀ (s : Shared) (Q : Shared → Prop) (f : Value → Shared → Prop) (E : Value → Shared → Prop) (env : Env) (O : List Str) (B : Addr → Option Obj) (m : List (Str × Value)), St n s.heap → Fm base B env O s.heap m → (∀ b ∈ wr, B b = none) →
    (∀ h' tk, Fm base B env O h' m → KS (fun _ => False) s.heap h' → Q { s with heap := h', toks := tk }) → wpAny (model prog w) A (pyNext (.ref I)) (onNext Q f) E s

def SRC (env : Env) (J : Inv) (target iter : Expr) (n : Nat) (xs : List Str) (Vb : Nat → List RV) : Prop :=
  ∀ B (s : Shared) (Q : Value → Shared → Prop) (E : Value → Shared → Prop), At base B env J s.heap →
    (∀ I wr h' tk, Ext s.heap h' → (∀ b ∈ wr, s.heap.get? b = none) → (∀ X', (∀ a, X' a → J.X a ∨ h'.get? a = none) → ∃ St, IT prog w base A target I n xs Vb X' wr St ∧ St 0 h') → Q (.ref I) { s with heap := h', toks := tk }) →
    wpAny (model prog w) A (eval iter env) (fun x s₁ => wpAny (model prog w) A (pyIter x) Q E s₁) E s
end

section
variable {prog : Program} {w : World} {base : Heap} {mg mb : Str → Option Value} {A : Around} {env : Env} {J : Inv}

/-- storing one name, by the frame alone -/
theorem Fm.store {B : Addr → Option Obj} {O : List Str} {s : Shared} {m m₀ : List (Str × Value)} (F : Fm base B env O s.heap m) {x : Str} {v : Value} (hm : Aset x v m m₀) (hk : env.scope.kind = .function)
    (hx : env.kindOf x = some .local ∨ (env.kindOf x = some .cell ∧ x ∈ O ∧ (env.cells.lookup x).isSome = true)) {Q : Unit → Shared → Prop} {E : Value → Shared → Prop}
    (k : ∀ h' tk, Fm base B env O h' m₀ → KS (fun _ => False) s.heap h' → (∀ X, KA X s.heap h') → Q () { s with heap := h', toks := tk }) : wpAny (model prog w) A (storeName env x v) Q E s := by
  rcases hx with hx | ⟨hx, hO, hc⟩
  · obtain ⟨mL, hn, hr⟩ := F.ns
    refine wpAny_storeName_local hx hn (fun h' hn' hs => ?_) (by rw [hk]; rfl)
    obtain ⟨o, es, ep, e, ed, _⟩ := id hn
    exact k h' _ (F.setL hs hn hr hn' (fun y => rfl) hx hm) (ks_sameBut hs e fun xs n q => by rw [ed] at q; cases q) (fun X => ka_sameBut hs e (.inl ⟨_, _, ed⟩))
  · obtain ⟨c, hc⟩ := Option.isSome_iff_exists.mp hc
    obtain ⟨⟨cv, hcv⟩, _⟩ := F.cell x c hc
    refine wpAny_storeName_cell hk hx hc hcv fun h' hv hs => ?_
    obtain ⟨o, e, ed⟩ := hcv
    exact k h' _ (F.setC hs hc hv hO hm) (ks_sameBut hs e fun xs n q => by rw [ed] at q; cases q) (fun X => ka_sameBut hs e (.inr ⟨_, ed⟩))

theorem KA.ks {X : Addr → Prop} {h h' : Heap} (x : KA X h h') : KS X h h' :=
  ⟨fun a vs ⟨n, e⟩ => ⟨n, x a _ e (.inr (by intro q; exact absurd (Value.type.inj q) (by decide))) (fun _ _ q => by cases q) (fun _ q => by cases q)⟩,
   fun a vs nX ⟨n, e⟩ => ⟨n, x a _ e (.inl nX) (fun _ _ q => by cases q) (fun _ q => by cases q)⟩⟩

/-- iterators go on: nothing but their own objects is turned -/
def FieldsAt (h : Heap) (a : Addr) : Prop := ∃ o vs, h.get? a = some o ∧ o.data = .fields vs
theorem ks_iter {h h' : Heap} {wr : List Addr} (hs : ∀ b o, b ∉ wr → h.get? b = some o → h'.get? b = some o) (e : ∀ a ∈ wr, FieldsAt h a) : KS (fun _ => False) h h' := by
  refine ⟨fun a us ⟨n, q⟩ => ⟨n, hs a _ (fun hm => ?_) q⟩, fun a us _ ⟨n, q⟩ => ⟨n, hs a _ (fun hm => ?_) q⟩⟩
  · obtain ⟨o, vs, e, ed⟩ := e a hm; rw [e] at q; cases q; cases ed
  · obtain ⟨o, vs, e, ed⟩ := e a hm; rw [e] at q; cases q; cases ed
theorem Fm.iter {B : Addr → Option Obj} {O : List Str} {h h' : Heap} {m : List (Str × Value)} (F : Fm base B env O h m) {wr : List Addr} (hs : ∀ b o, b ∉ wr → h.get? b = some o → h'.get? b = some o) (e : ∀ a ∈ wr, FieldsAt h a) (hB : ∀ a ∈ wr, B a = none) : Fm base B env O h' m := by
  refine ⟨?_, fun x c hx => ?_, fun b ob hb => ?_, F.low, F.offL, F.offC, F.apart, F.ck⟩
  · obtain ⟨mL, hn, r⟩ := F.ns
    refine ⟨mL, hn.at' fun o q => hs _ o (fun hm => ?_) q, r⟩
    obtain ⟨o', es, ep, q, q', _⟩ := hn
    obtain ⟨o, vs, e, ed⟩ := e _ hm
    rw [e] at q; cases q
    rw [ed] at q'; cases q'
  · have hne : c ∉ wr := fun hm => by
      obtain ⟨⟨cv, o', q, q'⟩, _⟩ := F.cell x c hx
      obtain ⟨o, vs, e, ed⟩ := e _ hm
      rw [e] at q; cases q
      rw [ed] at q'; cases q'
    obtain ⟨⟨cv, o', q, q'⟩, z⟩ := F.cell x c hx
    refine ⟨⟨cv, o', hs c _ hne q, q'⟩, fun v hv => ?_⟩
    obtain ⟨o₂, q₂, q₂'⟩ := z v hv
    exact ⟨o₂, hs c _ hne q₂, q₂'⟩
  · exact hs b ob (fun hm => by rw [hB b hm] at hb; cases hb) (F.keep b ob hb)
theorem one_but {h h' : Heap} {I : Addr} (x : Heap.ExtBut I h h') : ∀ b o, b ∉ [I] → h.get? b = some o → h'.get? b = some o := fun b o n e => x b o (fun q => n (q ▸ List.mem_singleton.mpr rfl)) e
theorem one_at {h : Heap} {I : Addr} (x : FieldsAt h I) : ∀ a ∈ [I], FieldsAt h a := fun a hm => by rw [List.mem_singleton.mp hm]; exact x

/-! ### a list -/
def StList (I ax : Addr) (X : Addr → Prop) (Rs : List RV) (i : Nat) (h : Heap) : Prop := h.IsListIter I ax i ∧ ∃ vs, Sq "list" h ax vs ∧ All2 X h Rs vs
theorem StList.keep {I ax : Addr} {X : Addr → Prop} {Rs : List RV} (hI : ¬ X I) (hax : ¬ X ax) (i : Nat) (h h' : Heap) (st : StList I ax X Rs i h) (k : KA X h h') : StList I ax X Rs i h' := by
  obtain ⟨⟨o, e, ec, ed⟩, vs, q, r⟩ := st
  exact ⟨⟨o, k I o e (.inl hI) (fun _ _ z => by rw [ed] at z; cases z) (fun _ z => by rw [ed] at z; cases z), ec, ed⟩, vs, k.ks.lst _ _ hax q, r.imp fun R v _ x => R.st _ _ _ _ k.ks x⟩

theorem it_list {x : Str} {px : Pos} {I ax : Addr} {X : Addr → Prop} {Rs : List RV} {V : Nat → RV} {n : Nat} (hh : A.handled = none) (hI : ¬ X I) (hax : ¬ X ax) (hne : ax ≠ I) (hn : Rs.length = n) (hV : ∀ i, i < n → Rs[i]? = some (V i)) :
    IT prog w base A (.Name x px) I n [x] (fun i => [V i]) X [I] (StList I ax X Rs) where
  keep := StList.keep hI hax
  self := fun i s Q E st h => wpAny_pyIter_listiter st.1 h
  step := fun i s Q QN E env O B m m₀ hi st F hB hO hk hm k => by
    obtain ⟨hit, vs, q, r⟩ := st
    obtain ⟨v, hv, hr⟩ := r.get (hV i hi)
    obtain ⟨o, e, ec, ed⟩ := id hit
    refine wpAny_pyNext_list_item hit q.isList (x := v) (by simpa using hv) fun h₁ hit₁ hs₁ => ?_
    have K₁ : KS (fun _ => False) s.heap h₁ := ks_iter (one_but hs₁.extBut) (one_at ⟨o, _, e, ed⟩)
    have F₁ : Fm base B env O h₁ m := F.iter (one_but hs₁.extBut) (one_at ⟨o, _, e, ed⟩) hB
    show wpAny _ A (pure ()) _ _ _
    refine wpAny_pure (wpAny_assign_Name (Fm.store (s := { s with heap := h₁ }) F₁ hm.aset hk (hO x (.head _)) fun h₂ tk F₂ K₂ KA₂ => ?_))
    refine k [v] h₂ tk rfl ⟨(V i).st _ _ _ _ ((K₁.trans K₂).mono fun _ z => z.elim) hr, trivial⟩ F₂ ?_ (K₁.trans K₂)
    refine StList.keep hI hax (i + 1) h₁ h₂ ⟨hit₁, vs, K₁.lst _ _ id q, r.imp fun R v _ y => R.st _ _ _ _ (K₁.mono fun _ z => z.elim) y⟩ (KA₂ X)
  done := fun s Q f E env O B m st F hB k => by
    obtain ⟨hit, vs, q, r⟩ := st
    obtain ⟨o, e, ec, ed⟩ := id hit
    refine wpAny_pyNext_list_end hh hit q.isList (by simp [r.len, hn]) fun h₁ hs₁ => ?_
    exact k h₁ _ (F.iter (one_but hs₁) (one_at ⟨o, _, e, ed⟩) hB) (ks_iter (one_but hs₁) (one_at ⟨o, _, e, ed⟩))

/-! ### a range -/
theorem it_range {x : Str} {px : Pos} {I : Addr} {X : Addr → Prop} {a : Int} {n : Nat} (hh : A.handled = none) (hI : ¬ X I) :
    IT prog w base A (.Name x px) I n [x] (fun i => [rInt (a + (i : Int))]) X [I] (fun i h => IsRangeIter h I (a + (i : Int)) ((n : Int) - (i : Int)) 1) where
  keep := fun i h h' st k => k I _ st (.inl hI) (fun _ _ z => by cases z) (fun _ z => by cases z)
  self := fun i s Q E st h => wpAny_pyIter_rangeiter st h
  step := fun i s Q QN E env O B m m₀ hi st F hB hO hk hm k => by
    refine wpAny_pyNext_range_item st (by omega) fun h₁ hit₁ hs₁ => ?_
    have K₁ : KS (fun _ => False) s.heap h₁ := ks_iter (one_but hs₁.extBut) (one_at ⟨_, _, st, rfl⟩)
    have F₁ : Fm base B env O h₁ m := F.iter (one_but hs₁.extBut) (one_at ⟨_, _, st, rfl⟩) hB
    show wpAny _ A (pure ()) _ _ _
    refine wpAny_pure (wpAny_assign_Name (Fm.store (s := { s with heap := h₁, toks := s.toks + 1 }) F₁ hm.aset hk (hO x (.head _)) fun h₂ tk F₂ K₂ KA₂ => ?_))
    refine k [_] h₂ tk rfl ⟨⟨_, rfl⟩, trivial⟩ F₂ ?_ (K₁.trans K₂)
    refine KA₂ X I _ ?_ (.inl hI) (fun _ _ z => by cases z) (fun _ z => by cases z)
    have e1 : a + ((i + 1 : Nat) : Int) = a + (i : Int) + 1 := by push_cast; omega
    have e2 : (n : Int) - ((i + 1 : Nat) : Int) = (n : Int) - (i : Int) - 1 := by push_cast; omega
    have := hit₁
    show h₁.get? I = some _
    rw [e1, e2]; exact this
  done := fun s Q f E env O B m st F hB k => by
    refine wpAny_pyNext_range_end hh st (by omega) fun h₁ hs₁ => ?_
    exact k h₁ _ (F.iter (one_but hs₁) (one_at ⟨_, _, st, rfl⟩) hB) (ks_iter (one_but hs₁) (one_at ⟨_, _, st, rfl⟩))

/-! ### two names -/
theorem two_names {x y : Str} {px py pt : Pos} {k1 : Nat} {t : Addr} {v u : Value} {O : List Str} {B : Addr → Option Obj} {m m₀ : List (Str × Value)} {s : Shared} {Q : Unit → Shared → Prop} {E : Value → Shared → Prop} (hh : A.handled = none) (ht : s.heap.IsTuple t [v, u].toArray)
    (F : Fm base B env O s.heap m) (hO : StoreOk env O [x, y]) (hk : env.scope.kind = .function) (hm : Drop [x, y] m m₀) (hxy : y ≠ x)
    (k : ∀ h' tk, Fm base B env O h' ([x, y].zip [v, u] ++ m₀) → KS (fun _ => False) s.heap h' → (∀ X, KA X s.heap h') → Q () { s with heap := h', toks := tk }) :
    wpAny (model prog w) A (assign (.Tuple [.Name x px, .Name y py] k1 pt) env (.ref t)) Q E s := by
  refine wpAny_assign_Tuple hh ht rfl rfl fun h₁ he₁ => ?_
  have k₁ : Ext s.heap h₁ := fun b o e => he₁ b o (Nat.ne_of_lt (Heap.lt_size e)) e
  show wpAny _ A (assignInOrder [assign (.Name x px) env, assign (.Name y py) env] [v, u]) _ _ _
  refine assignInOrder_cons (wpAny_assign_Name (Fm.store (s := { s with heap := h₁ }) (F.ext k₁) (m₀ := (x, v) :: m₀) (Drop.aset fun p hp => ⟨(hm p hp).1, fun q => (hm p hp).2 (List.mem_cons.mpr (.inl (List.mem_singleton.mp q)))⟩) hk (hO x (.head _)) fun h₂ t₂ F₂ K₂ A₂ => ?_))
  refine assignInOrder_cons (wpAny_assign_Name (Fm.store (s := { s with heap := h₂, toks := t₂ }) F₂ (m₀ := (x, v) :: (y, u) :: m₀) (fun p hp => ?_) hk (hO y (.tail _ (.head _))) fun h₃ t₃ F₃ K₃ A₃ => ?_))
  · rcases List.mem_cons.mp hp with rfl | hp
    · exact .inr ⟨.head _, Ne.symm hxy⟩
    · rcases List.mem_cons.mp hp with rfl | hp
      · exact .inl rfl
      · exact .inr ⟨.tail _ hp, fun q => (hm p hp).2 (q ▸ .tail _ (.head _))⟩
  · exact assignInOrder_nil (k h₃ t₃ F₃ ((Ext.ks k₁ _).trans (K₂.trans K₃)) fun X => (Ext.ka k₁ X).trans ((A₂ X).trans (A₃ X)))

/-! ### a list of pairs, and enumerate -/
theorem it_pairs {x y : Str} {px py pt : Pos} {k1 : Nat} {I ax : Addr} {X : Addr → Prop} {Rs : List RV} {V U : Nat → RV} {n : Nat} (hh : A.handled = none) (hI : ¬ X I) (hax : ¬ X ax) (hne : ax ≠ I) (hn : Rs.length = n) (hV : ∀ i, i < n → Rs[i]? = some (rTup [V i, U i])) (hxy : y ≠ x) :
    IT prog w base A (.Tuple [.Name x px, .Name y py] k1 pt) I n [x, y] (fun i => [V i, U i]) X [I] (StList I ax X Rs) where
  keep := StList.keep hI hax
  self := fun i s Q E st h => wpAny_pyIter_listiter st.1 h
  step := fun i s Q QN E env O B m m₀ hi st F hB hO hk hm k => by
    obtain ⟨hit, vs, q, r⟩ := st
    obtain ⟨v, hv, hr⟩ := r.get (hV i hi)
    obtain ⟨o, e, ec, ed⟩ := id hit
    refine wpAny_pyNext_list_item hit q.isList (x := v) (by simpa using hv) fun h₁ hit₁ hs₁ => ?_
    have K₁ : KS (fun _ => False) s.heap h₁ := ks_iter (one_but hs₁.extBut) (one_at ⟨o, _, e, ed⟩)
    have F₁ : Fm base B env O h₁ m := F.iter (one_but hs₁.extBut) (one_at ⟨o, _, e, ed⟩) hB
    have hr₁ := (rTup [V i, U i]).st _ _ _ _ (K₁.mono (Y := X) fun _ z => z.elim) hr
    obtain ⟨t, us, rfl, tq, tr⟩ := hr₁
    match us, tr with
    | [v₁, v₂], tr =>
      have hl : wpAny (model prog w) A (letOwnedTupleGo (.Tuple [.Name x px, .Name y py] k1 pt) (.ref I) (.ref t)) (fun _ s₂ => wpAny (model prog w) A (assign (.Tuple [.Name x px, .Name y py] k1 pt) env (.ref t)) (fun _ s₃ => Q s₃) E s₂) E { s with heap := h₁ } := by
        obtain ⟨⟨c₁, d₁, dt₁, sl₁⟩, e₁, ec₁, ed₁⟩ := id hit₁
        cases ec₁; cases ed₁
        unfold letOwnedTupleGo
        refine wpAny_bind (wpAny_load e₁ ?_)
        refine wpAny_pure ?_
        refine two_names (s := { s with heap := h₁ }) hh tq.isTuple F₁ hO hk hm hxy fun h₂ tk F₂ K₂ KA₂ => ?_
        refine k [v₁, v₂] h₂ tk rfl ⟨(V i).st _ _ _ _ (K₂.mono fun _ z => z.elim) tr.1, (U i).st _ _ _ _ (K₂.mono fun _ z => z.elim) tr.2.1, trivial⟩ F₂ ?_ (K₁.trans K₂)
        exact StList.keep hI hax (i + 1) h₁ h₂ ⟨hit₁, vs, K₁.lst _ _ id q, r.imp fun R v _ y => R.st _ _ _ _ (K₁.mono fun _ z => z.elim) y⟩ (KA₂ X)
      exact hl
  done := fun s Q f E env O B m st F hB k => by
    obtain ⟨hit, vs, q, r⟩ := st
    obtain ⟨o, e, ec, ed⟩ := id hit
    refine wpAny_pyNext_list_end hh hit q.isList (by simp [r.len, hn]) fun h₁ hs₁ => ?_
    exact k h₁ _ (F.iter (one_but hs₁) (one_at ⟨o, _, e, ed⟩) hB) (ks_iter (one_but hs₁) (one_at ⟨o, _, e, ed⟩))
theorem it_enum {x y : Str} {px py pt : Pos} {k1 : Nat} {I it ax : Addr} {X : Addr → Prop} {Rs : List RV} {V : Nat → RV} {n : Nat} (hh : A.handled = none) (hI : ¬ X I) (hit : ¬ X it) (hax : ¬ X ax) (hne : I ≠ it) (hn : Rs.length = n) (hV : ∀ i, i < n → Rs[i]? = some (V i)) (hxy : y ≠ x) :
    IT prog w base A (.Tuple [.Name x px, .Name y py] k1 pt) I n [x, y] (fun i => [rInt (i : Int), V i]) X [I, it] (fun i h => (∃ old, IsEnum h I it (i : Int) old) ∧ StList it ax X Rs i h) where
  keep := fun i h h' ⟨⟨old, st⟩, sl⟩ k => ⟨⟨old, k I _ st (.inl hI) (fun _ _ z => by cases z) (fun _ z => by cases z)⟩, StList.keep hit hax i h h' sl k⟩
  self := fun i s Q E st h => by obtain ⟨⟨old, st⟩, _⟩ := st; exact wpAny_pyIter_enum st h
  step := fun i s Q QN E env O B m m₀ hi st F hB hO hk hm k => by
    obtain ⟨⟨old, he⟩, hl, vs, q, r⟩ := st
    obtain ⟨v, hv, hr⟩ := r.get (hV i hi)
    obtain ⟨o, e, ec, ed⟩ := id hl
    refine wpAny_pyNext_enum_item he hl q.isList (x := v) (by simpa using hv) hne fun h₁ heo hl₁ ht₁ hz₁ hk₁ => ?_
    refine wpAny_letOwnedTupleGo_enum heo fun h₂ he₂ hs₂ => ?_
    have two : ∀ a ∈ [I, it], FieldsAt s.heap a := fun a hm => by
      rcases List.mem_cons.mp hm with rfl | hm
      · exact ⟨_, _, he, rfl⟩
      · rw [List.mem_singleton.mp hm]; exact ⟨o, _, e, ed⟩
    have but : ∀ b o, b ∉ [I, it] → s.heap.get? b = some o → h₂.get? b = some o := fun b o n e => hs₂.extBut b o (fun q => n (q ▸ .head _)) (hk₁ b o (fun q => n (q ▸ .head _)) (fun q => n (q ▸ .tail _ (.head _))) e)
    have K₂ : KS (fun _ => False) s.heap h₂ := ks_iter but two
    have F₂ : Fm base B env O h₂ m := F.iter but two hB
    have hIs : I < s.heap.objs.size := Heap.lt_size he
    have ht₂ : Sq "tuple" h₂ s.heap.objs.size [.int i s.toks, v] := ⟨_, (hs₂.2 _ (Nat.ne_of_gt hIs)).trans ht₁⟩
    refine two_names (s := { s with heap := h₂, toks := s.toks + 1 }) hh ht₂.isTuple F₂ hO hk hm hxy fun h₃ tk F₃ K₃ KA₃ => ?_
    refine k [_, v] h₃ tk rfl ⟨⟨_, rfl⟩, (V i).st _ _ _ _ ((K₂.trans K₃).mono fun _ z => z.elim) hr, trivial⟩ F₃ ?_ (K₂.trans K₃)
    have e1 : ((i + 1 : Nat) : Int) = (i : Int) + 1 := by push_cast; rfl
    refine ⟨⟨v, ?_⟩, StList.keep hit hax (i + 1) h₂ h₃ ⟨hl₁.extBut hs₂.extBut (Ne.symm hne), vs, K₂.lst _ _ id q, r.imp fun R v _ y => R.st _ _ _ _ (K₂.mono fun _ z => z.elim) y⟩ (KA₃ X)⟩
    rw [e1]
    exact KA₃ X I _ he₂ (.inl hI) (fun _ _ z => by cases z) (fun _ z => by cases z)
  done := fun s Q f E env O B m st F hB k => by
    obtain ⟨⟨old, he⟩, hl, vs, q, r⟩ := st
    obtain ⟨o, e, ec, ed⟩ := id hl
    refine wpAny_pyNext_enum_end hh he hl q.isList (by simp [r.len, hn]) fun h₁ hs₁ => ?_
    have two : ∀ a ∈ [I, it], FieldsAt s.heap a := fun a hm => by
      rcases List.mem_cons.mp hm with rfl | hm
      · exact ⟨_, _, he, rfl⟩
      · rw [List.mem_singleton.mp hm]; exact ⟨o, _, e, ed⟩
    have but : ∀ b o, b ∉ [I, it] → s.heap.get? b = some o → h₁.get? b = some o := fun b o n e => hs₁ b o (fun q => n (q ▸ .tail _ (.head _))) e
    exact k h₁ _ (F.iter but two hB) (ks_iter but two)
end

section
variable {prog : Program} {w : World} {base : Heap} {mg mb : Str → Option Value} {A : Around} {env : Env} {J : Inv}

theorem EVs.tcall (G : Gl base mg mb) {f : Str} {T : String} {e : Expr} {rest : List Expr} {p pos : Pos} {Rs : List RV} (ha : EVs prog w base A env J (e :: rest) Rs) (hf : f ∈ freeNames) (hv : bootBuiltins f = some (.type T)) (hne : f ≠ "__name__")
    (hk : env.scope.kind = .function) (hx : env.kindOf f = some .globalImplicit) (hg : env.globals = mainGlobals) (hg' : env.builtins = builtinsNs)
    (he : starEach (e :: rest) env = (false, eval e env) :: starEach rest env) (hpl : (backTo pos (starEach rest env)).any (·.1) = false) (hn : (f == ("__debug__" : Str)) = false)
    {B : Addr → Option Obj} {s : Shared} {Q E : Value → Shared → Prop} (a : At base B env J s.heap)
    (k : ∀ vs h' tk, Ext s.heap h' → All2 J.X h' Rs vs → wpAny (model prog w) A (call (.type T) vs) Q E { s with heap := h', toks := tk }) :
    wpAny (model prog w) A (eval (.Call (.Name f p) (e :: rest) [] pos) env) Q E s :=
  Call_ (eval_builtin G a.fm.lowE hf hv hne hk hx hg hg' (PyProof.Rows.callWith_type1 (ha B s pos _ E a fun vs h₁ t₁ k₁ x => k vs h₁ t₁ k₁ x) he hpl) hn)

theorem new_none {h : Heap} : h.get? h.objs.size = none := by
  cases e : h.get? h.objs.size with
  | none => rfl
  | some o => exact absurd (Heap.lt_size e) (Nat.lt_irrefl _)
theorem sub_not {X X' : Addr → Prop} {h : Heap} {a : Addr} {o : Obj} (hX : ∀ a, X' a → X a ∨ h.get? a = none) (n : ¬ X a) (e : h.get? a = some o) : ¬ X' a := fun q => (hX a q).elim n fun z => by rw [e] at z; cases z
theorem sub_up {X X' : Addr → Prop} {h : Heap} (hX : ∀ a, X' a → X a ∨ h.get? a = none) {R : RV} {v : Value} (x : R.p X v h) : R.p X' v h := R.anti _ _ _ _ hX (R.grow _ _ _ x)
theorem none_up {h h' : Heap} (k : Ext h h') {a : Addr} (n : h'.get? a = none) : h.get? a = none := by
  cases e : h.get? a with
  | none => rfl
  | some o => rw [k a o e] at n; cases n
theorem notX {B : Addr → Option Obj} {h : Heap} (a : At base B env J h) {b : Addr} (n : h.get? b = none) : ¬ J.X b := fun q => a.xdom b q n

section
variable {x y : Str} {px py pt : Pos} {k1 : Nat} {iter : Expr} {Rs : List RV} {V U : Nat → RV} {n : Nat}
theorem SRC_list (hh : A.handled = none) (he : EV prog w base A env J iter (rList Rs)) (hn : Rs.length = n) (hV : ∀ i, i < n → Rs[i]? = some (V i)) : SRC prog w base A env J (.Name x px) iter n [x] (fun i => [V i]) := fun B s Q E a k =>
  he B s _ E a fun v h₁ t₁ k₁ r => by
    obtain ⟨b, vs, rfl, nb, q, r⟩ := r
    refine wpAny_pyIter_list (s := { s with heap := h₁, toks := t₁ }) q.isList ?_
    have nn : h₁.get? h₁.objs.size = none := new_none
    refine k h₁.objs.size [h₁.objs.size] _ t₁ (k₁.trans (Ext.push _ _)) (fun c hc => ?_) fun X' hX => ?_
    · rw [List.mem_singleton.mp hc]; exact none_up k₁ nn
    · have q' := q.ext (Ext.push h₁ { cls := .type "list_iterator", data := .fields #[.ref b, rawInt 0] })
      exact ⟨_, it_list hh (sub_not hX (notX (a.ext k₁) nn) (Heap.get?_push_size _ rfl)) (let ⟨_, e⟩ := q'; sub_not hX nb e) (Nat.ne_of_lt q.lt) hn hV, ⟨_, Heap.get?_push_size _ rfl, rfl, rfl⟩, vs, q', r.imp fun R v _ z => sub_up hX (RV.ext z (Ext.push _ _))⟩
theorem SRC_pairs (hh : A.handled = none) (he : EV prog w base A env J iter (rList Rs)) (hn : Rs.length = n) (hV : ∀ i, i < n → Rs[i]? = some (rTup [V i, U i])) (hxy : y ≠ x) :
    SRC prog w base A env J (.Tuple [.Name x px, .Name y py] k1 pt) iter n [x, y] (fun i => [V i, U i]) := fun B s Q E a k =>
  he B s _ E a fun v h₁ t₁ k₁ r => by
    obtain ⟨b, vs, rfl, nb, q, r⟩ := r
    refine wpAny_pyIter_list (s := { s with heap := h₁, toks := t₁ }) q.isList ?_
    have nn : h₁.get? h₁.objs.size = none := new_none
    refine k h₁.objs.size [h₁.objs.size] _ t₁ (k₁.trans (Ext.push _ _)) (fun c hc => ?_) fun X' hX => ?_
    · rw [List.mem_singleton.mp hc]; exact none_up k₁ nn
    · have q' := q.ext (Ext.push h₁ { cls := .type "list_iterator", data := .fields #[.ref b, rawInt 0] })
      exact ⟨_, it_pairs hh (sub_not hX (notX (a.ext k₁) nn) (Heap.get?_push_size _ rfl)) (let ⟨_, e⟩ := q'; sub_not hX nb e) (Nat.ne_of_lt q.lt) hn hV hxy, ⟨_, Heap.get?_push_size _ rfl, rfl, rfl⟩, vs, q', r.imp fun R v _ z => sub_up hX (RV.ext z (Ext.push _ _))⟩
variable (G : Gl base mg mb) {e e₂ : Expr} {p pos : Pos}
include G
theorem SRC_enum (hh : A.handled = none) (he : EV prog w base A env J e (rList Rs)) (hn : Rs.length = n) (hV : ∀ i, i < n → Rs[i]? = some (V i)) (hk : env.scope.kind = .function) (hx : env.kindOf "enumerate" = some .globalImplicit) (hg : env.globals = mainGlobals) (hg' : env.builtins = builtinsNs)
    (hxy : y ≠ x) (hs : starEach [e] env = [(false, eval e env)] := by rfl) : SRC prog w base A env J (.Tuple [.Name x px, .Name y py] k1 pt) (.Call (.Name "enumerate" p) [e] [] pos) n [x, y] (fun i => [rInt (i : Int), V i]) := fun B s Q E a k =>
  (EVs_cons he EVs_nil hs).tcall G (by decide) (by boot_fast) (by decide) hk hx hg hg' hs rfl (by decide) a fun vs h₁ t₁ k₁ r => by
    match vs, r with
    | [v], r =>
      obtain ⟨⟨b, us, rfl, nb, q, r⟩, _⟩ := r
      obtain ⟨n0, q0⟩ := id q
      refine call_enumerate_1 q0 fun h₂ he hl hz hk₂ => ?_
      have hk₂ : Ext h₁ h₂ := hk₂
      have nn : h₁.get? h₁.objs.size = none := new_none
      have nn1 : h₁.get? (h₁.objs.size + 1) = none := by
        cases e : h₁.get? (h₁.objs.size + 1) with
        | none => rfl
        | some o => exact absurd (Heap.lt_size e) (Nat.not_lt.mpr (Nat.le_succ _))
      refine wpAny_pyIter_enum he ?_
      refine k _ [h₁.objs.size + 1, h₁.objs.size] h₂ t₁ (k₁.trans hk₂) (fun c hc => ?_) fun X' hX => ?_
      · rcases List.mem_cons.mp hc with rfl | hc
        · exact none_up k₁ nn1
        · rw [List.mem_singleton.mp hc]; exact none_up k₁ nn
      · have q' := q.ext hk₂
        exact ⟨_, it_enum hh (sub_not hX (notX (a.ext k₁) nn1) he) (let ⟨_, e, _⟩ := hl; sub_not hX (notX (a.ext k₁) nn) e) (let ⟨_, e⟩ := q'; sub_not hX nb e) (Nat.succ_ne_self _) hn hV hxy, ⟨_, he⟩, hl, us, q', r.imp fun R v _ z => sub_up hX (RV.ext z hk₂)⟩
theorem SRC_range {k₀ : Int} (hh : A.handled = none) (he : EV prog w base A env J e (rInt k₀)) (hb : -(2 ^ 62) ≤ k₀) (hb' : k₀ < 2 ^ 62) (hn : k₀.toNat = n) (hk : env.scope.kind = .function) (hx : env.kindOf "range" = some .globalImplicit) (hg : env.globals = mainGlobals) (hg' : env.builtins = builtinsNs)
    (hs : starEach [e] env = [(false, eval e env)] := by rfl) : SRC prog w base A env J (.Name x px) (.Call (.Name "range" p) [e] [] pos) n [x] (fun i => [rInt (i : Int)]) := fun B s Q E a k =>
  (EVs_cons he EVs_nil hs).tcall G (by decide) (by boot_fast) (by decide) hk hx hg hg' hs rfl (by decide) a fun vs h₁ t₁ k₁ r => by
    match vs, r with
    | [v], r =>
      obtain ⟨⟨t, rfl⟩, _⟩ := r
      refine call_range_1 ?_
      have hsz : Builtin.Range.rangeSize 0 k₀ 1 = (n : Int) := by rw [rangeSize_one, ← hn]; split <;> omega
      refine wpAny_pyIter_range (IsRange.new _ _ _ _ _ _ _) (small_one (by omega) (by omega) hb hb') ?_
      rw [hsz]
      have kk : Ext h₁ ((h₁.push { cls := .type "range", data := .fields #[.int 0 t₁, .int k₀ t, .int 1 (t₁ + 1)] }).push { cls := .type "range_iterator", data := .fields #[rawInt 0, rawInt n, rawInt 1] }) := (Ext.push _ _).trans (Ext.push _ _)
      have nn1 : h₁.get? (h₁.push { cls := .type "range", data := .fields #[.int 0 t₁, .int k₀ t, .int 1 (t₁ + 1)] }).objs.size = none := none_up (Ext.push _ _) new_none
      refine k _ [(h₁.push { cls := .type "range", data := .fields #[.int 0 t₁, .int k₀ t, .int 1 (t₁ + 1)] }).objs.size] _ _ (k₁.trans kk) (fun c hc => ?_) fun X' hX => ?_
      · rw [List.mem_singleton.mp hc]; exact none_up k₁ nn1
      · have it := it_range (prog := prog) (w := w) (base := base) (x := x) (px := px) (X := X') (a := 0) (n := n) hh (sub_not hX (notX (a.ext k₁) nn1) (Heap.get?_push_size _ rfl))
        simp only [Int.zero_add] at it
        refine ⟨_, it, ?_⟩
        show (Heap.push _ _).get? _ = some _
        rw [Heap.get?_push_size _ rfl]; simp
theorem SRC_range2 {k₀ k₁ : Int} (hh : A.handled = none) (he : EV prog w base A env J e (rInt k₀)) (he₂ : EV prog w base A env J e₂ (rInt k₁)) (hb : -(2 ^ 62) ≤ k₀) (hb' : k₀ < 2 ^ 62) (hc : -(2 ^ 62) ≤ k₁) (hc' : k₁ < 2 ^ 62) (hn : (k₁ - k₀).toNat = n)
    (hk : env.scope.kind = .function) (hx : env.kindOf "range" = some .globalImplicit) (hg : env.globals = mainGlobals) (hg' : env.builtins = builtinsNs)
    (hs : starEach [e, e₂] env = (false, eval e env) :: starEach [e₂] env := by rfl) (hs₂ : starEach [e₂] env = [(false, eval e₂ env)] := by rfl) : SRC prog w base A env J (.Name x px) (.Call (.Name "range" p) [e, e₂] [] pos) n [x] (fun i => [rInt (k₀ + (i : Int))]) := fun B s Q E a k =>
  (EVs_cons he (EVs_cons he₂ EVs_nil hs₂) hs).tcall G (by decide) (by boot_fast) (by decide) hk hx hg hg' hs (by rw [hs₂]; rfl) (by decide) a fun vs h₁ t₁ kx r => by
    match vs, r with
    | [v, u], r =>
      obtain ⟨⟨t, rfl⟩, ⟨t', rfl⟩, _⟩ := r
      refine call_range_2 ?_
      have hsz : Builtin.Range.rangeSize k₀ k₁ 1 = (n : Int) := by rw [rangeSize_one, ← hn]; split <;> omega
      refine wpAny_pyIter_range (IsRange.new _ _ _ _ _ _ _) (small_one hb hb' hc hc') ?_
      rw [hsz]
      have kk : Ext h₁ ((h₁.push { cls := .type "range", data := .fields #[.int k₀ t, .int k₁ t', .int 1 t₁] }).push { cls := .type "range_iterator", data := .fields #[rawInt k₀, rawInt n, rawInt 1] }) := (Ext.push _ _).trans (Ext.push _ _)
      have nn1 : h₁.get? (h₁.push { cls := .type "range", data := .fields #[.int k₀ t, .int k₁ t', .int 1 t₁] }).objs.size = none := none_up (Ext.push _ _) new_none
      refine k _ [(h₁.push { cls := .type "range", data := .fields #[.int k₀ t, .int k₁ t', .int 1 t₁] }).objs.size] _ _ (kx.trans kk) (fun c hc => ?_) fun X' hX => ?_
      · rw [List.mem_singleton.mp hc]; exact none_up kx nn1
      · have it := it_range (prog := prog) (w := w) (base := base) (x := x) (px := px) (X := X') (a := k₀) (n := n) hh (sub_not hX (notX (a.ext kx) nn1) (Heap.get?_push_size _ rfl))
        refine ⟨_, it, ?_⟩
        show (Heap.push _ _).get? _ = some _
        rw [Heap.get?_push_size _ rfl]; simp
end

/-! ### for -/
open Classical in
/-- everything that a turn may not change -/
noncomputable def keepAll (Mu : List (Addr × List RV)) (env : Env) (O : List Str) (h : Heap) : Addr → Option Obj := fun a => if (∃ Rs, (a, Rs) ∈ Mu) ∨ a = env.locals ∨ (∃ x ∈ O, env.cells.lookup x = some a) then none else h.get? a
theorem keepAll_some {Mu : List (Addr × List RV)} {O : List Str} {h : Heap} {a : Addr} {o : Obj} (e : keepAll Mu env O h a = some o) : h.get? a = some o := by
  unfold keepAll at e
  split at e
  · cases e
  · exact e
theorem keepAll_none {Mu : List (Addr × List RV)} {O : List Str} {h : Heap} {a : Addr} (c : (∃ Rs, (a, Rs) ∈ Mu) ∨ a = env.locals ∨ (∃ x ∈ O, env.cells.lookup x = some a)) : keepAll Mu env O h a = none := if_pos c
theorem keepAll_get {Mu : List (Addr × List RV)} {O : List Str} {h : Heap} {a : Addr} (c : ¬ ((∃ Rs, (a, Rs) ∈ Mu) ∨ a = env.locals ∨ (∃ x ∈ O, env.cells.lookup x = some a))) : keepAll Mu env O h a = h.get? a := if_neg c
theorem At.off {B : Addr → Option Obj} {h : Heap} (x : At base B env J h) {a : Addr} {o : Obj} (e : B a = some o) : ¬ ((∃ Rs, (a, Rs) ∈ J.Mu) ∨ a = env.locals ∨ (∃ x ∈ J.O, env.cells.lookup x = some a)) := by
  rintro (⟨Rs, hm⟩ | rfl | ⟨y, hy, hc⟩)
  · rw [(x.mu _ hm).2.1] at e; cases e
  · rw [x.fm.offL] at e; cases e
  · rw [x.fm.offC y a hy hc] at e; cases e
theorem At.max {B : Addr → Option Obj} {h : Heap} (x : At base B env J h) : At base (keepAll J.Mu env J.O h) env J h where
  fm := x.fm.withB (fun a o e => keepAll_some e) (fun a o e => (keepAll_get (x.off (x.fm.low a o e))).trans (x.fm.lowE a o e)) (keepAll_none (.inr (.inl rfl))) (fun y c hy hc => keepAll_none (.inr (.inr ⟨y, hy, hc⟩)))
  dat := x.dat
  mu := fun p hp => ⟨(x.mu p hp).1, keepAll_none (.inl ⟨p.2, hp⟩), (x.mu p hp).2.2⟩
  nd := x.nd
  xd := fun a q => (x.xd a q).imp (fun q => by
    cases e : B a with
    | none => exact absurd e q
    | some o => rw [keepAll_get (x.off e), x.fm.keep a o e]; exact fun z => by cases z) id
  sd := fun a q => (x.sd a q).imp (fun q => by
    cases e : B a with
    | none => exact absurd e q
    | some o => rw [keepAll_get (x.off e), x.fm.keep a o e]; exact fun z => by cases z) id
theorem At.back {B : Addr → Option Obj} {h h' : Heap} (x : At base B env J h) {J' : Inv} (y : At base (keepAll J.Mu env J.O h) env J' h') (hO : J'.O = J.O) (hX : J'.X = J.X) (hS : J'.S = J.S) (hMu : J'.Mu.map (·.1) = J.Mu.map (·.1)) : At base B env J' h' where
  fm := y.fm.withB (fun a o e => y.fm.keep a o ((keepAll_get (x.off e)).trans (x.fm.keep a o e))) x.fm.low x.fm.offL (hO ▸ x.fm.offC)
  dat := y.dat
  mu := fun p hp => ⟨(y.mu p hp).1, by
    have : p.1 ∈ J.Mu.map (·.1) := hMu ▸ List.mem_map_of_mem hp
    obtain ⟨q, hq, e⟩ := List.mem_map.mp this
    rw [← e]; exact (x.mu q hq).2.1, (y.mu p hp).2.2⟩
  nd := y.nd
  xd := fun a q => (x.xd a (hX ▸ q)).imp id fun ⟨Rs, hm⟩ => by
    have : a ∈ J'.Mu.map (·.1) := hMu ▸ List.mem_map_of_mem hm
    obtain ⟨q, hq, e⟩ := List.mem_map.mp this
    exact ⟨q.2, e ▸ hq⟩
  sd := fun a q => (x.sd a (hS ▸ q)).imp id fun z => hX ▸ z
theorem At.kept {B : Addr → Option Obj} {h h' : Heap} (x : At base B env J h) (k : ∀ a o, keepAll J.Mu env J.O h a = some o → h'.get? a = some o) : KA J.X h h' := fun a o e nX nd nc => by
  refine k a o ((keepAll_get ?_).trans e)
  rintro (⟨Rs, hm⟩ | rfl | ⟨y, hy, hc⟩)
  · obtain ⟨⟨vs, ⟨n, q⟩, _⟩, _, hX⟩ := x.mu _ hm
    rw [e] at q; cases q
    exact nX.elim (fun z => z hX) fun z => z rfl
  · obtain ⟨mL, ⟨o', es, ep, q, q', _⟩, _⟩ := x.fm.ns
    rw [e] at q; cases q
    exact nd _ _ q'
  · obtain ⟨⟨cv, o', q, q'⟩, _⟩ := x.fm.cell y a hc
    rw [e] at q; cases q
    exact nc _ q'

/-- what a loop's turns leave as it is: which lists are in hand, which names are the block's cells -/
def SameHand (J J' : Inv) : Prop := J'.O = J.O ∧ J'.X = J.X ∧ J'.S = J.S ∧ J'.Mu.map (·.1) = J.Mu.map (·.1)

/-- how a loop's body may end -/
def bodyEnd (R : Result → Shared → Prop) (M : Shared → Prop) : Flow → Shared → Prop
  | .next, s => M s
  | .cont, s => M s
  | .brk, s => R (.ok .next) s
  | .ret v, s => R (.ok (.ret v)) s
theorem for_loop {R : Result → Shared → Prop} {target : Expr} {it : Value} {body : List Stmt} (I : Nat → Shared → Prop) {s : Shared}
    (turn : ∀ n s, I n s → wpAny (model prog w) A (pyNext it) (onNext (fun s₁ => wpAny (model prog w) A (execs [] env) (fun f s₃ => R (.ok f) s₃) (notedBy (model prog w) A env fun e s' => R (.error e) s') s₁)
      fun v s₁ => wpAny (model prog w) A (letOwnedTupleGo target it v) (fun _ s₂ => wpAny (model prog w) A (assign target env v) (fun _ s₃ => wpAny (model prog w) A (execs body env) (bodyEnd R fun s₄ => ∃ m, m < n ∧ I m s₄) (notedBy (model prog w) A env fun e s' => R (.error e) s') s₃) (notedBy (model prog w) A env fun e s' => R (.error e) s') s₂) (notedBy (model prog w) A env fun e s' => R (.error e) s') s₁)
      (notedBy (model prog w) A env fun e s' => R (.error e) s') s)
    (n : Nat) (h : I n s) : codeAny (model prog w) A (.forLoop target it body [] env) R s :=
  codeAny_forLoop_any I (fun n s hI => wpAny_mono (turn n s hI) (fun r s₁ hr => by
    cases r with
    | none => exact hr
    | some v => exact wpAny_mono hr (fun _ s₂ h₂ => wpAny_mono h₂ (fun _ s₃ h₃ => wpAny_mono h₃ (fun f s₄ h₄ => by cases f <;> exact h₄) fun _ _ z => z) fun _ _ z => z) fun _ _ z => z) fun _ _ z => z) n h

theorem At.turn {B : Addr → Option Obj} {h h' : Heap} (a : At base B env J h) {m' : List (Str × Value)} (F : Fm base B env J.O h' m') (k : KS (fun _ => False) h h') : At base B env { J with m := m' } h' :=
  ⟨F, fun d hd => d.2.st _ _ _ _ (k.mono fun _ q => q.elim) (a.dat d hd), fun p hp => ⟨let ⟨vs, q, r⟩ := (a.mu p hp).1; ⟨vs, k.lst _ _ id q, r.imp fun R v _ y => R.st _ _ _ _ (k.mono fun _ q => q.elim) y⟩, (a.mu p hp).2⟩, a.nd, a.xd, a.sd⟩
theorem At.addAll {B : Addr → Option Obj} {h : Heap} (a : At base B env J h) {vs : List Value} {Rs : List RV} (r : All2 J.X h Rs vs) : At base B env { J with D := vs.zip Rs ++ J.D } h :=
  ⟨a.fm, fun d hd => by
    rcases List.mem_append.mp hd with hd | hd
    · obtain ⟨j, hj⟩ := List.getElem?_of_mem hd
      rw [List.getElem?_zip_eq_some] at hj
      obtain ⟨u, hu, hR⟩ := r.get hj.2
      rw [hj.1] at hu; cases hu
      exact hR
    · exact a.dat d hd, a.mu, a.nd, a.xd, a.sd⟩

theorem ST_for {target iter : Expr} {body rest : List Stmt} {pos : Pos} {K : Kt} {n : Nat} {xs : List Str} {Vb : Nat → List RV} (hsrc : SRC prog w base A env J target iter n xs Vb) (Fam : Nat → Inv → Prop) (h0 : Fam 0 J)
    (hF : ∀ i J', Fam i J' → SameHand J J') (hk : env.scope.kind = .function)
    (turn : ∀ i J', i < n → Fam i J' → ∃ m₀, Drop xs J'.m m₀ ∧ StoreOk env J.O xs ∧ ∀ vs : List Value, vs.length = xs.length → ST prog w base A env { J' with m := xs.zip vs ++ m₀, D := vs.zip (Vb i) ++ J'.D } body (Kw base env (Fam (i + 1)) K))
    (hK : ∀ B B' v h, (∀ a o, B a = some o → B' a = some o) → K B' (.ret v) h → K B (.ret v) h)
    (fin : ∀ J', Fam n J' → ST prog w base A env J' rest K)
    (hs : ∀ x, foldedSetIterable iter env x = pure x := by intro _; rfl) :
    ST prog w base A env J (.For target iter body [] pos :: rest) K := fun B s Q E a k => by
  refine wpAny_execs_cons (wpAny_For (hsrc B s _ E a fun I wr h₁ t₁ k₁ hwr hit => ?_) hs)
  obtain ⟨St, it, st⟩ := hit J.X fun a q => .inl q
  have hB : ∀ b ∈ wr, B b = none := fun b hb => by
    cases e : B b with
    | none => rfl
    | some o => have := a.fm.keep b o e; rw [hwr b hb] at this; cases this
  refine for_loop (fun j s' => ∃ i J' h' tk, s' = { s with heap := h', toks := tk } ∧ i ≤ n ∧ j = n + 1 - i ∧ Fam i J' ∧ At base B env J' h' ∧ St i h') ?_ (n + 1) ⟨0, J, h₁, t₁, rfl, Nat.zero_le _, rfl, h0, a.ext k₁, st⟩
  rintro j s' ⟨i, J', h', tk, rfl, hi, rfl, hFi, a', sti⟩
  obtain ⟨hO, hX, hS, hMu⟩ := hF i J' hFi
  by_cases hlt : i < n
  · obtain ⟨m₀, hm, hok, ht⟩ := turn i J' hlt hFi
    refine it.step i { s with heap := h', toks := tk } _ _ _ env J'.O B J'.m m₀ hlt sti a'.fm hB (hO ▸ hok) hk hm fun vs h₂ t₂ hl hv F₂ st₂ K₂ => ?_
    have a₂ : At base B env { J' with m := xs.zip vs ++ m₀, D := vs.zip (Vb i) ++ J'.D } h₂ := (a'.turn F₂ K₂).addAll (hX ▸ hv)
    refine ht vs hl _ _ _ _ a₂.max fun f h₃ t₃ y => ?_
    have st₃ : ∀ J₃, At base (keepAll J'.Mu env J'.O h₂) env J₃ h₃ → St (i + 1) h₃ := fun J₃ y => it.keep (i + 1) h₂ h₃ st₂ (hX ▸ a₂.kept y.fm.keep)
    have back : ∀ J₃, Fam (i + 1) J₃ → At base (keepAll J'.Mu env J'.O h₂) env J₃ h₃ → At base B env J₃ h₃ := fun J₃ hf y =>
      let ⟨hO', hX', hS', hMu'⟩ := hF (i + 1) J₃ hf
      a₂.back y (hO'.trans hO.symm) (hX'.trans hX.symm) (hS'.trans hS.symm) (hMu'.trans hMu.symm)
    cases f with
    | next => obtain ⟨J₃, hf, y⟩ := y; exact ⟨n + 1 - (i + 1), by omega, i + 1, J₃, h₃, t₃, rfl, hlt, rfl, hf, back J₃ hf y, st₃ J₃ y⟩
    | cont => obtain ⟨J₃, hf, y⟩ := y; exact ⟨n + 1 - (i + 1), by omega, i + 1, J₃, h₃, t₃, rfl, hlt, rfl, hf, back J₃ hf y, st₃ J₃ y⟩
    | brk => exact y.elim
    | ret v => exact k _ h₃ t₃ (hK _ _ _ _ (fun b o e => (keepAll_get (a₂.off e)).trans (a₂.fm.keep b o e)) y)
  · have hin : i = n := Nat.le_antisymm hi (Nat.not_lt.mp hlt)
    subst hin
    refine it.done { s with heap := h', toks := tk } _ _ _ env J'.O B J'.m sti a'.fm hB fun h₂ t₂ F₂ K₂ => ?_
    refine wpAny_execs_nil ?_
    exact fin J' hFi B _ Q E (a'.turn F₂ K₂) fun f h₃ t₃ y => k f h₃ t₃ y
end


/-! ## comprehensions -/
def closOf (cells : List (Str × Addr)) : List (Str × NameKind) → List (Str × Addr) → List (Str × Addr)
  | [], acc => acc
  | (n, k) :: r, acc => if (k == .free) = true then closOf cells r ((n, (cells.lookup n).getD 0) :: acc) else closOf cells r acc
def closOk (cells : List (Str × Addr)) (names : List (Str × NameKind)) : Bool := names.all fun p => !(p.2 == .free) || (cells.lookup p.1).isSome
theorem closureFor_go {env : Env} (f : Str × NameKind → List (Str × Addr) → Sem (ForInStep (List (Str × Addr))))
    (hf : ∀ n k cs, f (n, k) cs = if (k == .free) = true then (do let a ← cellOf env n; pure (.yield ((n, a) :: cs))) else pure (.yield cs)) :
    ∀ (names : List (Str × NameKind)) (acc : List (Str × Addr)), closOk env.cells names = true → forIn names acc f = pure (closOf env.cells names acc)
  | [], acc, _ => rfl
  | (n, k) :: r, acc, h => by
    unfold closOk at h
    simp only [List.all_cons, Bool.and_eq_true] at h
    rw [List.forIn_cons, hf]
    unfold closOf
    by_cases hk : (k == NameKind.free) = true
    · rw [if_pos hk, if_pos hk]
      have h1 := h.1
      rw [hk] at h1
      obtain ⟨c, hc⟩ := Option.isSome_iff_exists.mp (show (env.cells.lookup n).isSome = true from h1)
      have : cellOf env n = pure c := by unfold cellOf; rw [hc]
      rw [this, hc]
      simp only [pure_bind, Option.getD_some]
      exact closureFor_go f hf r _ h.2
    · rw [if_neg hk, if_neg hk]
      simp only [pure_bind]
      exact closureFor_go f hf r _ h.2
theorem closureFor_eq {scope : Scope} {env : Env} (h : closOk env.cells scope.names = true) : closureFor scope env = pure (closOf env.cells scope.names []) := by
  unfold closureFor
  simp only
  rw [closureFor_go (env := env) _ (fun n k cs => ?_) scope.names [] h]
  · simp
  · cases hk : k == NameKind.free <;> simp [hk]
theorem closOf_mem {cells : List (Str × Addr)} : ∀ (names : List (Str × NameKind)) (acc : List (Str × Addr)) (x : Str) (c : Addr), closOk cells names = true → (x, c) ∈ closOf cells names acc → (x, c) ∈ acc ∨ (cells.lookup x = some c ∧ (x, NameKind.free) ∈ names)
  | [], _, _, _, _, h => .inl h
  | (n, k) :: r, acc, x, c, ok, h => by
    unfold closOk at ok
    simp only [List.all_cons, Bool.and_eq_true] at ok
    unfold closOf at h
    by_cases hk : (k == NameKind.free) = true
    · rw [if_pos hk] at h
      have ok1 := ok.1
      rw [hk] at ok1
      obtain ⟨d, hd⟩ := Option.isSome_iff_exists.mp (show (cells.lookup n).isSome = true from ok1)
      rw [hd] at h
      rcases closOf_mem r _ x c ok.2 h with q | ⟨q, q'⟩
      · rcases List.mem_cons.mp q with q | q
        · cases q; exact .inr ⟨hd, by rw [beq_iff_eq.mp hk]; exact .head _⟩
        · exact .inl q
      · exact .inr ⟨q, .tail _ q'⟩
    · rw [if_neg hk] at h
      rcases closOf_mem r _ x c ok.2 h with q | ⟨q, q'⟩
      · exact .inl q
      · exact .inr ⟨q, .tail _ q'⟩

/-- a comprehension's own block -/
def cEnv (scope : Scope) (env : Env) (C : Addr) (k : Nat) : Env := compEnvC scope (cellsFrom k scope.names (closOf env.cells scope.names [])) C env

theorem comp_newEnv {prog : Program} {w : World} {A : Around} {E : Value → Shared → Prop} {scope : Scope} {env : Env} {s : Shared} {Q : Env → Shared → Prop} {cl : List (Str × Addr)}
    (h : Q { newEnv scope s.heap.objs.size env.globals (cellsFrom (s.heap.objs.size + 1) scope.names cl) env.qual none .none (some env) builtinsNs with cells := cellsFrom (s.heap.objs.size + 1) scope.names cl }
      { s with heap := pushCells (s.heap.push { cls := .type "dict", data := .dict #[] }) scope.names }) :
    wpAny (model prog w) A (newFunctionEnv scope env.globals cl [] env.qual none .none (some env)) Q E s := by
  simp only [newFunctionEnv, Option.isSome_some, if_true]
  refine wpAny_bind (wpAny_alloc ?_)
  refine wpAny_bind (wpAny_layCells _ (fun name kind cells => by cases hkc : kind == NameKind.cell <;> simp [hkc]) _ _ _ _ ?_)
  rw [show ({ s with heap := s.heap.push { cls := .type "dict", data := .dict #[] } } : Shared).heap.objs.size = s.heap.objs.size + 1 from Heap.size_push ..]
  simp only [List.forIn_nil, pure_bind]
  exact wpAny_pure h

section
variable {prog : Program} {w : World} {base : Heap} {mg mb : Str → Option Value} {A : Around} {env : Env} {J : Inv}

def rl (env : Env) : Str × NameKind → Str × NameKind := fun (n, k) => if (k == NameKind.free && env.scope.kind == ScopeKind.function && env.kindOf n == some NameKind.cell) then (n, NameKind.cell) else (n, k)
theorem rl_fst (x : Str × NameKind) : (rl env x).1 = x.1 := by unfold rl; split <;> (split <;> rfl)
theorem kind_relabel {names : List (Str × NameKind)} (hn : (names.map (·.1)).Nodup) {x : Str} {k : NameKind} (h : (x, k) ∈ names) : (names.map (rl env)).lookup x = some k ∨ (k = .free ∧ (names.map (rl env)).lookup x = some .cell) := by
  have hn' : ((names.map (rl env)).map (·.1)).Nodup := by
    rw [List.map_map]
    have : ((fun x : Str × NameKind => x.1) ∘ rl env) = fun x => x.1 := funext fun y => rl_fst y
    rw [this]; exact hn
  have hm := List.mem_map_of_mem (f := rl env) h
  by_cases c : (k == NameKind.free && env.scope.kind == ScopeKind.function && env.kindOf x == some NameKind.cell) = true
  · have e : rl env (x, k) = (x, NameKind.cell) := if_pos c
    rw [e] at hm
    simp only [Bool.and_eq_true] at c
    exact .inr ⟨beq_iff_eq.mp c.1.1, lookup_of_mem' hn' hm⟩
  · have e : rl env (x, k) = (x, k) := if_neg c
    rw [e] at hm
    exact .inl (lookup_of_mem' hn' hm)
theorem cellsFrom_iff : ∀ (names : List (Str × NameKind)) (k : Nat) (acc : List (Str × Addr)) (p : Str × Addr), p ∈ cellsFrom k names acc ↔ p ∈ acc ∨ p ∈ cellsFrom k names []
  | [], _, _, _ => by simp [cellsFrom]
  | (y, kd) :: r, k, acc, p => by
    unfold cellsFrom
    by_cases hk : (kd == NameKind.cell) = true
    · rw [if_pos hk, if_pos hk, cellsFrom_iff r (k + 1) ((y, k) :: acc), cellsFrom_iff r (k + 1) [(y, k)]]
      simp only [List.mem_cons, List.not_mem_nil, or_false]
      constructor
      · rintro ((h | h) | h)
        · exact .inr (.inl h)
        · exact .inl h
        · exact .inr (.inr h)
      · rintro (h | h | h)
        · exact .inl (.inr h)
        · exact .inl (.inl h)
        · exact .inr h
    · rw [if_neg hk, if_neg hk]; exact cellsFrom_iff r k acc p

/-- the names of the block around that a comprehension sees -/
def Cap (scope : Scope) (m m₀ : List (Str × Value)) : Prop := ∀ p ∈ m₀, p ∈ m ∧ scope.names.lookup p.1 = some .free
theorem Cap.nil {scope : Scope} : Cap scope [] [] := fun _ h => nomatch h
theorem Cap.drop {scope : Scope} {p : Str × Value} {m m₀ : List (Str × Value)} (h : Cap scope m m₀) : Cap scope (p :: m) m₀ := fun q hq => ⟨.tail _ (h q hq).1, (h q hq).2⟩
theorem Cap.skip {scope : Scope} {y : Str} {v : Value} {m m₀ : List (Str × Value)} (hn : scope.names.lookup y = some .free) (h : Cap scope m m₀) : Cap scope ((y, v) :: m) ((y, v) :: m₀) := fun q hq => by
  rcases List.mem_cons.mp hq with rfl | hq
  · exact ⟨.head _, hn⟩
  · exact ⟨.tail _ (h q hq).1, (h q hq).2⟩

/-- the block at a comprehension's start -/
theorem Fm.comp {B : Addr → Option Obj} {h h₁ : Heap} (F : Fm base B env J.O h J.m) {scope : Scope} {m₀ : List (Str × Value)} (hn : (scope.names.map (·.1)).Nodup) (hok : closOk env.cells scope.names = true) (hcap : Cap scope J.m m₀)
    (kd : Ext h h₁) (hsz : ∀ b o, h.get? b = some o → b < h₁.objs.size) {B' : Addr → Option Obj} (hk : ∀ a o, B' a = some o → h.get? a = some o) (hl : ∀ a o, base.get? a = some o → B' a = some o) :
    Fm base B' (cEnv scope env h₁.objs.size (h₁.objs.size + 1)) (ownCells scope) (pushCells (h₁.push { cls := .type "dict", data := .dict #[] }) scope.names) m₀ := by
  have hp : (h₁.push { cls := .type "dict", data := .dict #[] }).objs.size = h₁.objs.size + 1 := Heap.size_push ..
  have k₂ : Ext h₁ (pushCells (h₁.push { cls := .type "dict", data := .dict #[] }) scope.names) := fun b o e => pushCells_keeps _ _ b o (Heap.get?_push_of_some _ e)
  have k : Ext h (pushCells (h₁.push { cls := .type "dict", data := .dict #[] }) scope.names) := kd.trans k₂
  have ok : CellsOk (pushCells (h₁.push { cls := .type "dict", data := .dict #[] }) scope.names) (h₁.objs.size + 1) (cellsFrom (h₁.objs.size + 1) scope.names []) := by
    have ok := cellsFrom_ok scope.names (h₁.push { cls := .type "dict", data := .dict #[] }) (h₁.objs.size + 1) [] ⟨fun _ _ hm => (nomatch hm), List.Pairwise.nil⟩ (by rw [hp]; exact Nat.le_refl _)
    rwa [hp] at ok
  have two : ∀ x c, (cEnv scope env h₁.objs.size (h₁.objs.size + 1)).cells.lookup x = some c → ((x, c) ∈ cellsFrom (h₁.objs.size + 1) scope.names [] ∧ (x, NameKind.cell) ∈ scope.names) ∨ (env.cells.lookup x = some c ∧ (x, NameKind.free) ∈ scope.names) := fun x c hc => by
    rcases (cellsFrom_iff _ _ _ _).mp (mem_of_lookup hc) with q | q
    · rcases closOf_mem _ _ _ _ hok q with q | q
      · cases q
      · exact .inr q
    · refine .inl ⟨q, ?_⟩
      rcases cellsFrom_mem _ _ _ _ _ q with q | q
      · cases q
      · exact q
  have lt : ∀ x c, env.cells.lookup x = some c → c < h₁.objs.size := fun x c hc => by
    obtain ⟨⟨cv, o, e, _⟩, _⟩ := F.cell x c hc
    exact hsz _ _ e
  have uniq : ∀ x k₁ k₂, (x, k₁) ∈ scope.names → (x, k₂) ∈ scope.names → k₁ = k₂ := fun x k₁ k₂ h₁ h₂ => by
    have e1 := lookup_of_mem' hn h₁
    have e2 := lookup_of_mem' hn h₂
    rw [e1] at e2; exact Option.some.inj e2
  have new : ∀ c, h₁.objs.size ≤ c → B' c = none := fun c hc => by
    cases q : B' c with
    | none => rfl
    | some ob => exact absurd (hsz _ _ (hk _ _ q)) (Nat.not_lt.mpr hc)
  refine ⟨⟨_, (Heap.Ns.new h₁ (.type "dict")).keeps (pushCells_keeps _ _), fun p hp hl => ?_⟩, fun x c hc => ?_, fun a o e => k a o (hk a o e), hl, new _ (Nat.le_refl _), fun x c hx hc => ?_, fun x y c hx hy => ?_, fun x c hc hl => ?_⟩
  · rcases kind_relabel (env := env) hn (mem_of_lookup (hcap p hp).2) with q | q
    · have hl' : (scope.names.map (rl env)).lookup p.1 = some .local := hl
      rw [q] at hl'; cases hl'
    · have hl' : (scope.names.map (rl env)).lookup p.1 = some .local := hl
      rw [q.2] at hl'; cases hl'
  · rcases two x c hc with ⟨q, q'⟩ | ⟨q, q'⟩
    · exact ⟨⟨_, (ok.empty x c q).1⟩, fun v hv => absurd (uniq _ _ _ q' (mem_of_lookup (hcap _ hv).2)) (by decide)⟩
    · obtain ⟨⟨cv, y⟩, z⟩ := F.cell x c q
      exact ⟨⟨cv, y.keeps k⟩, fun v hv => (z v (hcap _ hv).1).keeps k⟩
  · rcases two x c hc with ⟨q, q'⟩ | ⟨q, q'⟩
    · exact new c (Nat.le_of_succ_le (ok.empty x c q).2)
    · obtain ⟨p, hp, rfl⟩ := List.mem_map.mp hx
      obtain ⟨hp, hc'⟩ := List.mem_filter.mp hp
      obtain ⟨n, kd⟩ := p
      have : kd = .cell := by simpa using hc'
      exact absurd (uniq _ _ _ q' (this ▸ hp)) (by decide)
  · rcases two x c hx with ⟨q, q'⟩ | ⟨q, q'⟩ <;> rcases two y c hy with ⟨r, r'⟩ | ⟨r, r'⟩
    · exact name_of_addr ok.apart q r
    · exact absurd (lt _ _ r) (Nat.not_lt.mpr (Nat.le_of_succ_le (ok.empty x c q).2))
    · exact absurd (lt _ _ q) (Nat.not_lt.mpr (Nat.le_of_succ_le (ok.empty y c r).2))
    · exact F.apart x y c q r
  · have hl' : (scope.names.map (rl env)).lookup x = some .local := hl
    rcases two x c hc with ⟨q, q'⟩ | ⟨q, q'⟩
    · rcases kind_relabel (env := env) hn q' with e | e
      · rw [e] at hl'; cases hl'
      · rw [e.2] at hl'; cases hl'
    · rcases kind_relabel (env := env) hn q' with e | e
      · rw [e] at hl'; cases hl'
      · rw [e.2] at hl'; cases hl'

theorem comp_loop {R : Result → Shared → Prop} {elt target iter : Expr} {ifs : List Expr} {scope : Scope} {pos : Pos} {it acc : Value} (I : Nat → Shared → Prop) {s : Shared}
    (turn : ∀ n s, I n s → wpAny (model prog w) A (pyNext it) (onNext (fun s₁ => R (.ok .next) s₁) fun v s₁ =>
      wpAny (model prog w) A (letOwnedTupleGo target it v) (fun _ s₂ => wpAny (model prog w) A (assign target env v) (fun _ s₃ =>
        wpAny (model prog w) A (forIn ifs true fun c r => if r = true then do let ok ← isTrue c env (eval c env); pure (ForInStep.yield ok) else pure (ForInStep.yield r)) (fun ok s₄ =>
          if ok = true then wpAny (model prog w) A (eval elt env) (fun x s₅ => wpAny (model prog w) A (call (.builtin "list.append") [acc, x]) (fun _ s₆ => ∃ m, m < n ∧ I m s₆) (notedBy (model prog w) A env fun e s' => R (.error e) s') s₅) (notedBy (model prog w) A env fun e s' => R (.error e) s') s₄
          else ∃ m, m < n ∧ I m s₄) (notedBy (model prog w) A env fun e s' => R (.error e) s') s₃) (notedBy (model prog w) A env fun e s' => R (.error e) s') s₂) (notedBy (model prog w) A env fun e s' => R (.error e) s') s₁)
      (notedBy (model prog w) A env fun e s' => R (.error e) s') s)
    (n : Nat) (h : I n s) : codeAny (model prog w) A (.compLoop (.ListComp elt [⟨target, iter, ifs, 0⟩] scope pos) 0 it acc env) R s := by
  refine codeAny_loop rfl I (fun n s hI => ?_) n h
  show wpAny _ A ((compTurn (.ListComp elt [⟨target, iter, ifs, 0⟩] scope pos) 0 it acc env).onRaise (fun x => do noteFrame x env; theTreesLotGoes x)) _ _ s
  refine wpAny_noted ?_
  rw [compTurn_list]
  refine wpAny_bind (wpAny_standAt (wpAny_bind (wpAny_mono (turn n s hI) (fun r s₁ h₁ => ?_) fun _ _ h' => h')))
  cases r with
  | none => exact wpAny_pure h₁
  | some v =>
    refine wpAny_bind (wpAny_mono h₁ (fun _ s₁' h₁' => ?_) fun _ _ h' => h')
    refine wpAny_bind (wpAny_mono h₁' (fun _ s₂ h₂ => wpAny_bind (wpAny_mono h₂ (fun ok s₃ h₃ => ?_) fun _ _ h' => h')) fun _ _ h' => h')
    cases ok with
    | false => exact wpAny_pure ⟨rfl, h₃⟩
    | true => exact wpAny_bind (wpAny_bind (wpAny_mono h₃ (fun x s₄ h₄ => wpAny_bind (wpAny_mono h₄ (fun _ s₅ h₅ => wpAny_pure (wpAny_pure ⟨rfl, h₅⟩)) fun _ _ h' => h')) fun _ _ h' => h'))

variable (prog w base A env) in
/-- the tests of a clause -/
def ETs (J : Inv) (ifs : List Expr) (c : Bool) : Prop :=
  ∀ B s (Q : Bool → Shared → Prop) (E : Value → Shared → Prop), At base B env J s.heap → (∀ h' tk, Ext s.heap h' → Q c { s with heap := h', toks := tk }) →
    wpAny (model prog w) A (forIn ifs true fun c r => if r = true then do let ok ← isTrue c env (eval c env); pure (ForInStep.yield ok) else pure (ForInStep.yield r)) Q E s
theorem ETs_nil : ETs prog w base A env J [] true := fun B s Q E a k => wpAny_tests_nil (k s.heap s.toks (Ext.refl _))
theorem ETs_one {e : Expr} {c : Bool} (h : ET prog w base A env J e c) : ETs prog w base A env J [e] c := fun B s Q E a k => wpAny_tests_one (h B s Q E a k)

open Classical in
noncomputable def offMu (Mu : List (Addr × List RV)) (h : Heap) : Addr → Option Obj := fun a => if (∃ Rs, (a, Rs) ∈ Mu) then none else h.get? a
theorem offMu_some {Mu : List (Addr × List RV)} {h : Heap} {a : Addr} {o : Obj} (e : offMu Mu h a = some o) : h.get? a = some o := by
  unfold offMu at e
  split at e
  · cases e
  · exact e
theorem At.offMu {B : Addr → Option Obj} {h : Heap} (x : At base B env J h) {a : Addr} {o : Obj} (e : B a = some o) : offMu J.Mu h a = some o := by
  unfold Mine.offMu
  rw [if_neg fun ⟨Rs, hm⟩ => by rw [(x.mu _ hm).2.1] at e; cases e]
  exact x.fm.keep a o e
theorem At.inner {B : Addr → Option Obj} {h h' : Heap} (a : At base B env J h) {env' : Env} {O : List Str} {m : List (Str × Value)} (F : Fm base h.get? env' O h' m) : At base (Mine.offMu J.Mu h) env' ⟨O, m, J.D, J.Mu, J.X, J.S⟩ h' where
  fm := F.withB (fun b o e => F.keep b o (offMu_some e)) (fun b o e => a.offMu (a.fm.low b o e)) (by
      cases e : Mine.offMu J.Mu h env'.locals with
      | none => rfl
      | some o => have := offMu_some e; rw [F.offL] at this; cases this) (fun x c hx hc => by
      cases e : Mine.offMu J.Mu h c with
      | none => rfl
      | some o => have := offMu_some e; rw [F.offC x c hx hc] at this; cases this)
  dat := fun d hd => RV.ext (a.dat d hd) F.keep
  mu := fun p hp => ⟨(a.mu p hp).1.ext F.keep, if_pos ⟨p.2, hp⟩, (a.mu p hp).2.2⟩
  nd := a.nd
  xd := fun b q => (a.xd b q).imp (fun q => by
    cases e : B b with
    | none => exact absurd e q
    | some o => rw [a.offMu e]; exact fun z => by cases z) id
  sd := fun b q => (a.sd b q).imp (fun q => by
    cases e : B b with
    | none => exact absurd e q
    | some o => rw [a.offMu e]; exact fun z => by cases z) id

def compOk (cells : List (Str × Addr)) (scope : Scope) (xs : List Str) : Bool :=
  decide (scope.names.map (·.1)).Nodup && closOk cells scope.names && xs.all fun x => decide (scope.names.lookup x = some .local) || decide (scope.names.lookup x = some .cell)
theorem compOk_store {scope : Scope} {xs : List Str} (hok : compOk env.cells scope xs = true) (C : Addr) (k : Nat) : StoreOk (cEnv scope env C k) (ownCells scope) xs := fun x hx => by
  unfold compOk at hok
  simp only [Bool.and_eq_true, decide_eq_true_eq, List.all_eq_true, Bool.or_eq_true] at hok
  rcases hok.2 x hx with q | q
  · rcases kind_relabel (env := env) hok.1.1 (mem_of_lookup q) with e | e
    · exact .inl e
    · cases e.1
  · rcases kind_relabel (env := env) hok.1.1 (mem_of_lookup q) with e | e
    · exact .inr ⟨e, List.mem_map.mpr ⟨(x, .cell), List.mem_filter.mpr ⟨mem_of_lookup q, by simp⟩, rfl⟩, cellsFrom_has _ _ _ _ (.inl (mem_of_lookup q))⟩
    · cases e.1
theorem compOk_drop {cells : List (Str × Addr)} {scope : Scope} {xs : List Str} (hok : compOk cells scope xs = true) {m m₀ : List (Str × Value)} (hcap : Cap scope m m₀) : Drop xs m₀ m₀ := fun p hp => ⟨hp, fun hx => by
  unfold compOk at hok
  simp only [Bool.and_eq_true, decide_eq_true_eq, List.all_eq_true, Bool.or_eq_true] at hok
  have := (hcap p hp).2
  rcases hok.2 _ hx with q | q <;> (rw [q] at this; cases this)⟩

theorem thousand : 1000 ≤ sizeLine := by rw [sizeLine_eq]; decide
theorem ka_list {X : Addr → Prop} {h h' : Heap} {D : Addr} {vs : List Value} (hs : Heap.SameBut D h h') (e : Sq "list" h D vs) (hX : X D) : KA X h h' := fun b o eb n nd nc => by
  refine (hs.2 b ?_).trans eb
  rintro rfl
  obtain ⟨k, e⟩ := e
  rw [e] at eb; cases eb
  exact n.elim (fun z => z hX) fun z => z rfl
theorem sq_fm {h h' : Heap} {B : Addr → Option Obj} {O : List Str} {m : List (Str × Value)} (F : Fm base B env O h m) {D : Addr} {vs : List Value} (hs : Heap.SameBut D h h') (e : Sq "list" h D vs) (hB : B D = none) : Fm base B env O h' m := by
  obtain ⟨k, e⟩ := e
  exact F.chg hs e (fun _ _ q => by cases q) (fun _ q => by cases q) hB

theorem comp_core {elt iter target : Expr} {ifs : List Expr} {scope : Scope} {pos cpos : Pos} {n : Nat} {xs : List Str} {Vb : Nat → List RV} {m₀ : List (Str × Value)} (c : Nat → Bool) (Re : Nat → RV)
    (hsrc : SRC prog w base A env J target iter n xs Vb) (hn : n ≤ 1000) (hok : compOk env.cells scope xs = true) (hcap : Cap scope J.m m₀)
    (tests : ∀ C k i vs, i < n → vs.length = xs.length → ETs prog w base A (cEnv scope env C k) ⟨ownCells scope, xs.zip vs ++ m₀, vs.zip (Vb i) ++ J.D, J.Mu, J.X, J.S⟩ ifs (c i))
    (elts : ∀ C k i vs, i < n → c i = true → vs.length = xs.length → EVN prog w base A (cEnv scope env C k) ⟨ownCells scope, xs.zip vs ++ m₀, vs.zip (Vb i) ++ J.D, J.Mu, J.X, J.S⟩ elt (Re i))
    (hkind : scope.kind = .function) (hs : ∀ x, foldedSetIterable iter env x = pure x) {use : Option (Value → Sem Unit)} {B : Addr → Option Obj} {s : Shared} {Q E : Value → Shared → Prop} (a : At base B env J s.heap)
    (fin : ∀ D C ys h tk, Ext s.heap h → s.heap.get? D = none → s.heap.get? C = none → D ≠ C → (∃ mL, h.Ns C mL) → Sq "list" h D ys → All2 (fun b => dom s.heap b ∨ b = D) h (((List.range n).filter c).map Re) ys → compPost (model prog w) A E use Q (.ref D) C (.ok .next) { s with heap := h, toks := tk }) :
    wpAny (model prog w) A (comprehension (.ListComp elt [⟨target, iter, ifs, 0⟩] scope pos) scope env cpos (newList []) false (eval iter env) use) Q E s := by
  have hok' := hok
  unfold compOk at hok'
  simp only [Bool.and_eq_true, decide_eq_true_eq] at hok'
  refine wpAny_comprehension_free rfl hs (closureFor_eq hok'.1.2) hkind (fun x hx hl => lookup_of_mem' hok'.1.1 (hl ▸ hx)) (hsrc B s _ E a fun I wr h₁ t₁ k₁ hwr hit => ?_)
  refine wpAny_newObj_type (comp_newEnv ?_)
  have nD : h₁.get? h₁.objs.size = none := new_none
  obtain ⟨St, it, st⟩ := hit (fun b => J.X b ∨ b = h₁.objs.size) fun b q => q.imp id fun e => by rw [e]; exact nD
  dsimp only
  generalize hH : h₁.push { cls := .type "list", dict := none, data := .seq ([] : List Value).toArray } = H
  have hC : H.objs.size = h₁.objs.size + 1 := by rw [← hH, Heap.size_push]
  have kH : Ext h₁ H := hH ▸ Ext.push _ _
  have sqD : Sq "list" H h₁.objs.size [] := hH ▸ ⟨_, Heap.get?_push_size _ rfl⟩
  have ltH : ∀ b o, s.heap.get? b = some o → b < H.objs.size := fun b o e => by have := Heap.lt_size (k₁ b o e); rw [hC]; exact Nat.lt_succ_of_lt this
  have low : ∀ b o, base.get? b = some o → s.heap.get? b = some o := a.fm.lowE
  have F₀ := a.fm.comp hok'.1.1 hok'.1.2 hcap (k₁.trans kH) ltH (B' := s.heap.get?) (fun _ _ e => e) low
  generalize hd : h₁.objs.size = D at *
  have nDs : s.heap.get? D = none := none_up k₁ nD
  have hDC : D ≠ H.objs.size := by rw [hC]; exact Nat.ne_of_lt (Nat.lt_succ_self _)
  have nC : s.heap.get? H.objs.size = none := none_up (k₁.trans kH) new_none
  have kP : Ext H (pushCells (H.push { cls := .type "dict", data := .dict #[] }) scope.names) := fun b o e => pushCells_keeps _ _ b o (Heap.get?_push_of_some _ e)
  have loop : codeAny (model prog w) A (.compLoop (.ListComp elt [⟨target, iter, ifs, 0⟩] scope pos) 0 (.ref I) (.ref D) (cEnv scope env H.objs.size (H.objs.size + 1))) (compPost (model prog w) A E use Q (.ref D) H.objs.size)
      { s with heap := pushCells (H.push { cls := .type "dict", data := .dict #[] }) scope.names, toks := t₁ } := by
    refine comp_loop (fun j s' => ∃ i h tk ys, s' = { s with heap := h, toks := tk } ∧ i ≤ n ∧ j = n + 1 - i ∧ Fm base s.heap.get? (cEnv scope env H.objs.size (H.objs.size + 1)) (ownCells scope) h m₀ ∧ St i h ∧
      Sq "list" h D ys ∧ All2 (fun b => dom s.heap b ∨ b = D) h (((List.range i).filter c).map Re) ys) ?_ (n + 1)
      ⟨0, _, _, [], rfl, Nat.zero_le _, rfl, F₀, it.keep 0 _ _ st ((kH.trans kP).ka _), sqD.ext kP, trivial⟩
    rintro j s' ⟨i, h, tk, ys, rfl, hi, rfl, F, sti, sq, el⟩
    by_cases hlt : i < n
    · have hBw : ∀ b ∈ wr, s.heap.get? b = none := hwr
      refine it.step i { s with heap := h, toks := tk } _ _ _ (cEnv scope env H.objs.size (H.objs.size + 1)) (ownCells scope) s.heap.get? m₀ m₀ hlt sti F hBw (compOk_store hok _ _) hkind (compOk_drop hok hcap) fun vs h₂ t₂ hl hv F₂ st₂ K₂ => ?_
      have a₂ := (a.inner F₂).addAll (hv.imp fun R v _ x => R.anti _ _ _ _ (fun b q => .inl q) x)
      have sq₂ := K₂.lst _ _ id sq
      have el₂ := el.imp fun R v _ x => R.st _ _ _ _ (K₂.mono (Y := fun b => dom s.heap b ∨ b = D) fun _ z => z.elim) x
      refine tests _ _ i vs hlt hl _ _ _ _ a₂ fun h₃ t₃ k₃ => ?_
      cases hc : c i with
      | false =>
        rw [if_neg (by decide)]
        refine ⟨n + 1 - (i + 1), by omega, i + 1, h₃, t₃, ys, rfl, hlt, rfl, (F₂.less fun p hp => List.mem_append_right _ hp).ext k₃, it.keep (i + 1) _ _ st₂ (k₃.ka _), sq₂.ext k₃, ?_⟩
        rw [List.range_succ, List.filter_append]
        simp only [List.filter_cons, List.filter_nil, hc, Bool.false_eq_true, if_false, List.append_nil]
        exact el₂.imp fun R v _ x => RV.ext x k₃
      | true =>
        rw [if_pos rfl]
        refine elts _ _ i vs hlt hc hl _ _ _ _ (a₂.ext k₃) fun v h₄ t₄ k₄ r₄ => ?_
        have sq₄ := (sq₂.ext k₃).ext k₄
        have len : ys.length ≤ i := by
          rw [el.len, List.length_map]
          exact Nat.le_trans (List.length_filter_le _ _) (Nat.le_of_eq List.length_range)
        refine wpAny_list_append_plain (hsz := by rw [List.size_toArray]; exact Nat.le_trans len (Nat.le_trans hi (Nat.le_trans hn thousand))) sq₄.plain fun h₅ hl₅ hs₅ => ?_
        have K₅ := ks_list (X := fun b => dom s.heap b ∨ b = D) hs₅ sq₄ (.inr rfl)
        refine ⟨n + 1 - (i + 1), by omega, i + 1, h₅, t₄, ys ++ [v], rfl, hlt, rfl, sq_fm (((F₂.less fun p hp => List.mem_append_right _ hp).ext k₃).ext k₄) hs₅ sq₄ nDs,
          it.keep (i + 1) _ _ st₂ (((k₃.trans k₄).ka _).trans (ka_list hs₅ sq₄ (.inr rfl))), by obtain ⟨m, e⟩ := hl₅; exact ⟨m, by simpa using e⟩, ?_⟩
        rw [List.range_succ, List.filter_append]
        simp only [List.filter_cons, List.filter_nil, hc, if_true, List.map_append, List.map_cons, List.map_nil]
        refine (el₂.imp fun R v _ x => R.st _ _ _ _ K₅ (RV.ext (RV.ext x k₃) k₄)).snoc ?_
        refine (Re i).st _ _ _ _ K₅ ((Re i).anti _ _ _ _ (fun b q => ?_) r₄)
        rcases q with q | rfl
        · exact dom_ext k₃ b (dom_ext F₂.keep b q)
        · obtain ⟨m, e⟩ := sq₂.ext k₃; show h₃.get? _ ≠ none; rw [e]; exact fun z => by cases z
    · have hin : i = n := Nat.le_antisymm hi (Nat.not_lt.mp hlt)
      subst hin
      refine it.done { s with heap := h, toks := tk } _ _ _ (cEnv scope env H.objs.size (H.objs.size + 1)) (ownCells scope) s.heap.get? m₀ sti F hwr fun h₂ t₂ F₂ K₂ => ?_
      obtain ⟨mL, hns, _⟩ := F₂.ns
      exact fin D H.objs.size ys h₂ t₂ F₂.keep nDs nC hDC ⟨mL, hns⟩ (K₂.lst _ _ id sq) (el.imp fun R v _ x => R.st _ _ _ _ (K₂.mono (Y := fun b => dom s.heap b ∨ b = D) fun _ z => z.elim) x)
  exact codeAny_compStart_list loop (it.self 0 _ _ _ (it.keep 0 _ _ st ((kH.trans kP).ka _)) loop)

theorem EVN_comp {elt iter target : Expr} {ifs : List Expr} {scope : Scope} {pos : Pos} {n : Nat} {xs : List Str} {Vb : Nat → List RV} {m₀ : List (Str × Value)} (c : Nat → Bool) (Re : Nat → RV)
    (hsrc : SRC prog w base A env J target iter n xs Vb) (hn : n ≤ 1000) (hok : compOk env.cells scope xs = true) (hcap : Cap scope J.m m₀)
    (tests : ∀ C k i vs, i < n → vs.length = xs.length → ETs prog w base A (cEnv scope env C k) ⟨ownCells scope, xs.zip vs ++ m₀, vs.zip (Vb i) ++ J.D, J.Mu, J.X, J.S⟩ ifs (c i))
    (elts : ∀ C k i vs, i < n → c i = true → vs.length = xs.length → EVN prog w base A (cEnv scope env C k) ⟨ownCells scope, xs.zip vs ++ m₀, vs.zip (Vb i) ++ J.D, J.Mu, J.X, J.S⟩ elt (Re i))
    (hkind : scope.kind = .function := by rfl) (hs : ∀ x, foldedSetIterable iter env x = pure x := by intro _; rfl) :
    EVN prog w base A env J (.ListComp elt [⟨target, iter, ifs, 0⟩] scope pos) (rList (((List.range n).filter c).map Re)) := fun B s Q E a k => by
  rw [eval_ListComp]
  refine comp_core c Re hsrc hn hok hcap tests elts hkind hs (use := none) a fun D C ys h tk k₁ nDs nC hDC hns sq el => ?_
  obtain ⟨mL, hns⟩ := hns
  refine ⟨mL, hns, fun h' hs' => ?_⟩
  obtain ⟨o, es, ep, e, ed, _⟩ := id hns
  have K' := ks_sameBut (X := fun b => dom s.heap b ∨ b = D) hs' e fun xs n q => by rw [ed] at q; cases q
  refine k (.ref D) h' tk (fun b o eb => (hs'.2 b (fun q => by rw [q, nC] at eb; cases eb)).trans (k₁ b o eb)) ⟨D, ys, rfl, fun q => q nDs, ?_, ?_⟩
  · obtain ⟨m, e⟩ := sq
    exact ⟨m, (hs'.2 D hDC).trans e⟩
  · exact el.imp fun R v _ x => R.anti _ _ _ _ (fun b q => .inl q) (R.st _ _ _ _ K' x)

/-- a store leaves what is newer than the block -/
theorem At.storeC {B : Addr → Option Obj} {h₀ : Heap} {s : Shared} (a₀ : At base B env J h₀) (k₀ : Ext h₀ s.heap) {x : Str} {v : Value} {m' : List (Str × Value)} (hm : Aset x v J.m m') (hk : env.scope.kind = .function)
    (hx : env.kindOf x = some .local ∨ (env.kindOf x = some .cell ∧ x ∈ J.O ∧ (env.cells.lookup x).isSome = true)) {Q : Unit → Shared → Prop} {E : Value → Shared → Prop}
    (k : ∀ h' tk, At base B env { J with m := m' } h' → KS (fun _ => False) s.heap h' → (∀ c, h₀.get? c = none → h'.get? c = s.heap.get? c) → Q () { s with heap := h', toks := tk }) : wpAny (model prog w) A (storeName env x v) Q E s := by
  have a := a₀.ext k₀
  have fin : ∀ h', Fm base B env J.O h' m' → KS (fun _ => False) s.heap h' → At base B env { J with m := m' } h' := fun h' F K =>
    ⟨F, fun d hd => d.2.st _ _ _ _ (K.mono fun _ q => q.elim) (a.dat d hd), fun p hp => ⟨let ⟨vs, q, r⟩ := (a.mu p hp).1; ⟨vs, K.lst _ _ id q, r.imp fun R v _ y => R.st _ _ _ _ (K.mono fun _ q => q.elim) y⟩, (a.mu p hp).2⟩, a.nd, a.xd, a.sd⟩
  rcases hx with hx | ⟨hx, hO, hc⟩
  · obtain ⟨mL, hn, hr⟩ := a.fm.ns
    refine wpAny_storeName_local hx hn (fun h' hn' hs => ?_) (by rw [hk]; rfl)
    obtain ⟨o, es, ep, e, ed, _⟩ := id hn
    have K : KS (fun _ => False) s.heap h' := ks_sameBut hs e fun xs n q => by rw [ed] at q; cases q
    refine k h' _ (fin h' (a.fm.setL hs hn hr hn' (fun y => rfl) hx hm) K) K fun c hc => hs.2 c ?_
    rintro rfl
    obtain ⟨mL₀, ⟨o₀, _, _, e₀, _⟩, _⟩ := a₀.fm.ns
    rw [hc] at e₀; cases e₀
  · obtain ⟨c, hc⟩ := Option.isSome_iff_exists.mp hc
    obtain ⟨⟨cv, hcv⟩, _⟩ := a.fm.cell x c hc
    refine wpAny_storeName_cell hk hx hc hcv fun h' hv hs => ?_
    obtain ⟨o, e, ed⟩ := hcv
    have K : KS (fun _ => False) s.heap h' := ks_sameBut hs e fun xs n q => by rw [ed] at q; cases q
    refine k h' _ (fin h' (a.fm.setC hs hc hv hO hm) K) K fun d hd => hs.2 d ?_
    rintro rfl
    obtain ⟨⟨cv₀, o₀, e₀, _⟩, _⟩ := a₀.fm.cell x _ hc
    rw [hd] at e₀; cases e₀
/-- a change at an address newer than the block -/
theorem At.newer {B : Addr → Option Obj} {h₀ h h' : Heap} (a₀ : At base B env J h₀) {m' : List (Str × Value)} {D' : List (Value × RV)} (a : At base B env { J with m := m', D := D' } h) {C : Addr} {o : Obj} (hs : Heap.SameBut C h h') (nC : h₀.get? C = none) (e : h.get? C = some o) (hd : ∀ xs n, o.data ≠ .seq xs n) : At base B env { J with m := m', D := D' } h' := by
  have K : KS (fun _ => False) h h' := ks_sameBut hs e hd
  refine At.turn (J := { J with m := m', D := D' }) a ⟨?_, fun x c hx => ?_, fun b ob hb => (hs.2 b ?_).trans (a.fm.keep b ob hb), a.fm.low, a.fm.offL, a.fm.offC, a.fm.apart, a.fm.ck⟩ K
  · obtain ⟨mL, hn, r⟩ := a.fm.ns
    refine ⟨mL, hn.sameBut hs ?_, r⟩
    rintro rfl
    obtain ⟨mL₀, ⟨o₀, _, _, e₀, _⟩, _⟩ := a₀.fm.ns
    rw [nC] at e₀; cases e₀
  · have hne : c ≠ C := by
      rintro rfl
      obtain ⟨⟨cv₀, o₀, e₀, _⟩, _⟩ := a₀.fm.cell x _ hx
      rw [nC] at e₀; cases e₀
    obtain ⟨⟨cv, y⟩, z⟩ := a.fm.cell x c hx
    exact ⟨⟨cv, y.sameBut hs hne⟩, fun v hv => (z v hv).sameBut hs hne⟩
  · rintro rfl
    have := a₀.fm.keep _ _ hb
    rw [nC] at this; cases this

/-- `x = [...]` where the name is stored before the block goes -/
theorem ST_setComp {elt iter target : Expr} {ifs : List Expr} {scope : Scope} {pos spos py : Pos} {y : Str} {n : Nat} {xs : List Str} {Vb : Nat → List RV} {m₀ m₁ : List (Str × Value)} {rest : List Stmt} {K : Kt} (c : Nat → Bool) (Re : Nat → RV)
    (hsrc : SRC prog w base A env J target iter n xs Vb) (hn : n ≤ 1000) (hcap : Cap scope J.m m₀)
    (tests : ∀ C k i vs, i < n → vs.length = xs.length → ETs prog w base A (cEnv scope env C k) ⟨ownCells scope, xs.zip vs ++ m₀, vs.zip (Vb i) ++ J.D, J.Mu, J.X, J.S⟩ ifs (c i))
    (elts : ∀ C k i vs, i < n → c i = true → vs.length = xs.length → EVN prog w base A (cEnv scope env C k) ⟨ownCells scope, xs.zip vs ++ m₀, vs.zip (Vb i) ++ J.D, J.Mu, J.X, J.S⟩ elt (Re i))
    (hm : Drop [y] J.m m₁) (hk : env.scope.kind = .function) (hy : env.kindOf y = some .local ∨ (env.kindOf y = some .cell ∧ y ∈ J.O ∧ (env.cells.lookup y).isSome = true))
    (h : ∀ v, ST prog w base A env { J with m := (y, v) :: m₁, D := (v, rList (((List.range n).filter c).map Re)) :: J.D } rest K)
    (hok : compOk env.cells scope xs = true := by rfl) (hsw : swapsWith (.ListComp elt [⟨target, iter, ifs, 0⟩] scope pos) (some (.Name y py)) spos.line env = pure true := by rfl)
    (hkind : scope.kind = .function := by rfl) (hs : ∀ x, foldedSetIterable iter env x = pure x := by intro _; rfl) :
    ST prog w base A env J (.Assign [.Name y py] (.ListComp elt [⟨target, iter, ifs, 0⟩] scope pos) spos :: rest) K := fun B s Q E a kk => by
  refine wpAny_execs_cons ?_
  rw [exec_Assign_Name_used _ _ _ _ hsw]
  refine wpAny_bind (wpAny_standAt (wpAny_bind ?_))
  show wpAny _ A (do let _ ← comprehension (.ListComp elt [⟨target, iter, ifs, 0⟩] scope pos) scope env _ (newList []) false (eval iter env) (some (assign (.Name y py) env))) _ _ s
  refine wpAny_bind (wpAny_mono (comp_core c Re hsrc hn hok hcap tests elts hkind hs (use := some (assign (.Name y py) env)) (Q := fun _ s' => wpAny (model prog w) A (execs rest env) Q E s') a fun D C ys h₁ tk k₁ nDs nC hDC hns sq el => ?_) (fun _ s' hq => wpAny_pure (wpAny_pure hq)) fun _ _ e => e)
  show wpAny _ A (assign (.Name y py) env (.ref D)) _ _ _
  refine wpAny_assign_Name (At.storeC (s := { s with heap := h₁, toks := tk }) a k₁ hm.aset hk hy fun h₂ t₂ a₂ K₂ hC => ?_)
  obtain ⟨mL, o, es, ep, e, ed, r⟩ := hns
  have e₂ : h₂.get? C = some o := (hC C nC).trans e
  refine ⟨mL, ⟨o, es, ep, e₂, ed, r⟩, fun h₃ hs₃ => ?_⟩
  have a₃ := a.newer a₂ hs₃ nC e₂ fun xs n q => by rw [ed] at q; cases q
  have K₃ : KS (fun _ => False) h₂ h₃ := ks_sameBut hs₃ e₂ fun xs n q => by rw [ed] at q; cases q
  refine h (.ref D) B _ Q E (a₃.add ⟨D, ys, rfl, notX a nDs, (K₂.trans K₃).lst _ _ id sq, ?_⟩) fun f h' tk y => kk f h' tk y
  exact el.imp fun R v _ x => R.anti _ _ _ _ (fun b q => .inl (a.xdom b q)) (R.st _ _ _ _ ((K₂.trans K₃).mono (Y := fun b => dom s.heap b ∨ b = D) fun _ q => q.elim) x)
end


/-! ## comparisons by data -/
structure Rd (R : RV) (d : PyData) : Prop where
  ok : d.canLay0 = true
  rd : ∀ X v h, R.p X v h → ∃ as, Reads h v d as
def RdAll : List RV → List PyData → Prop
  | [], [] => True
  | R :: Rs, d :: ds => Rd R d ∧ RdAll Rs ds
  | _, _ => False
theorem Rd_int (i : Int) : Rd (rInt i) (.int i) := ⟨rfl, fun X v h ⟨t, e⟩ => e ▸ ⟨_, .int i t⟩⟩
theorem Rd_bool (b : Bool) : Rd (rBool b) (.bool b) := ⟨rfl, fun X v h e => (show v = .bool b from e) ▸ ⟨_, .bool b⟩⟩
theorem RdAll.ok : ∀ {Rs : List RV} {ds : List PyData}, RdAll Rs ds → PyData.canLayAll0 ds = true
  | [], [], _ => rfl
  | _ :: _, _ :: _, x => by unfold PyData.canLayAll0; rw [x.1.ok, RdAll.ok x.2]; rfl
  | [], _ :: _, x => x.elim
  | _ :: _, [], x => x.elim
theorem RdAll.rd {X : Addr → Prop} {h : Heap} : ∀ {Rs : List RV} {ds : List PyData} {vs : List Value}, RdAll Rs ds → All2 X h Rs vs → ∃ as, ReadsAll h vs ds as
  | [], [], [], _, _ => ⟨_, .nil⟩
  | _ :: _, _ :: _, _ :: _, x, y => let ⟨_, p⟩ := x.1.rd _ _ _ y.1; let ⟨_, q⟩ := RdAll.rd x.2 y.2; ⟨_, .cons p q⟩
  | [], _ :: _, _, x, _ => x.elim
  | _ :: _, [], _, x, _ => x.elim
  | [], [], _ :: _, _, y => y.elim
  | _ :: _, _ :: _, [], _, y => y.elim
theorem Rd_tup {Rs : List RV} {ds : List PyData} (x : RdAll Rs ds) : Rd (rTup Rs) (.tuple ds) := ⟨x.ok, fun X v h ⟨a, vs, e, ⟨n, q⟩, r⟩ => let ⟨_, p⟩ := x.rd r; e ▸ ⟨_, .tuple q rfl rfl (by simpa using p)⟩⟩
theorem Rd_list {Rs : List RV} {ds : List PyData} (x : RdAll Rs ds) : Rd (rList Rs) (.list ds) := ⟨x.ok, fun X v h ⟨a, vs, e, _, ⟨n, q⟩, r⟩ => let ⟨_, p⟩ := x.rd r; e ▸ ⟨_, .list q rfl rfl (by simpa using p)⟩⟩
theorem RdAll.map {α : Type} {f : α → RV} {g : α → PyData} : ∀ {l : List α}, (∀ x, x ∈ l → Rd (f x) (g x)) → RdAll (l.map f) (l.map g)
  | [], _ => trivial
  | _ :: _, h => ⟨h _ (.head _), RdAll.map fun x hx => h x (.tail _ hx)⟩
theorem Rd_rat (q : Rat) : Rd (rRat q) (.tuple [.int q.num, .int q.den]) := Rd_tup ⟨Rd_int _, Rd_int _, trivial⟩

theorem eqv_rat (p q : Rat) : PyData.eqv (.tuple [.int p.num, .int p.den]) (.tuple [.int q.num, .int q.den]) = decide (p = q) := by
  simp only [PyData.eqv, PyData.eqvAll, Bool.and_true]
  by_cases e : p = q
  · subst e; simp
  · rw [decide_eq_false e]
    by_cases h : p.num = q.num
    · have : ¬ (p.den : Int) = (q.den : Int) := fun h' => e (Rat.ext h (by omega))
      simp [h, this]
    · simp [h]
theorem eqvAll_map {α β : Type} {f : α → PyData} {g : β → PyData} {c : α → β → Bool} (hc : ∀ a b, PyData.eqv (f a) (g b) = c a b) : ∀ (l : List α) (l' : List β), PyData.eqvAll (l.map f) (l'.map g) = (decide (l.length = l'.length) && (l.zip l').all fun p => c p.1 p.2)
  | [], [] => rfl
  | [], _ :: _ => by simp [PyData.eqvAll]
  | _ :: _, [] => by simp [PyData.eqvAll]
  | a :: l, b :: l' => by
    simp only [List.map_cons, PyData.eqvAll, hc, eqvAll_map hc l l', List.zip_cons_cons, List.all_cons, List.length_cons, Nat.add_right_cancel_iff]
    cases c a b <;> simp
theorem eqvAll_map_eq {α : Type} [DecidableEq α] {f : α → PyData} (hc : ∀ a b, PyData.eqv (f a) (f b) = decide (a = b)) : ∀ (l l' : List α), PyData.eqvAll (l.map f) (l'.map f) = decide (l = l')
  | [], [] => rfl
  | [], _ :: _ => by simp [PyData.eqvAll]
  | _ :: _, [] => by simp [PyData.eqvAll]
  | a :: l, b :: l' => by
    simp only [List.map_cons, PyData.eqvAll, hc, eqvAll_map_eq hc l l', List.cons.injEq]
    by_cases h1 : a = b <;> by_cases h2 : l = l' <;> simp [h1, h2]

theorem depthAll_le {n : Nat} : ∀ {ds : List PyData}, (∀ d, d ∈ ds → d.depth ≤ n) → PyData.depthAll ds ≤ n
  | [], _ => Nat.zero_le _
  | d :: ds, h => by
    unfold PyData.depthAll
    exact Nat.max_le.mpr ⟨h d (.head _), depthAll_le fun d hd => h d (.tail _ hd)⟩

section
variable {prog : Program} {w : World} {base : Heap} {mg mb : Str → Option Value} {A : Around} {env : Env} {J : Inv} {X : Addr → Prop}

theorem cmp_eqD {R S : RV} {d e : PyData} (hR : Rd R d) (hS : Rd S e) (hu : A.units + 9 < cLine) (hd : min d.depth e.depth ≤ 9) : Cmp prog w A X .Eq R S (PyData.eqv d e) := fun a b s Q E x y k =>
  let ⟨_, ra⟩ := hR.rd _ _ _ x
  let ⟨_, rb⟩ := hS.rd _ _ _ y
  PySem.SeqAt.rcAt_reads ra rb hR.ok hS.ok (by omega) prog w E Q (k s.heap s.toks (Ext.refl _))
theorem cmp_neD {R S : RV} {d e : PyData} (hR : Rd R d) (hS : Rd S e) (hu : A.units + 9 < cLine) (hd : min d.depth e.depth ≤ 9) : Cmp prog w A X .NotEq R S (!PyData.eqv d e) := fun a b s Q E x y k =>
  let ⟨_, ra⟩ := hR.rd _ _ _ x
  let ⟨_, rb⟩ := hS.rd _ _ _ y
  PySem.SeqAt.rcNeAt_reads ra rb hR.ok hS.ok (by omega) prog w E Q (k s.heap s.toks (Ext.refl _))
theorem cmp_eqR {p q : Rat} (hu : A.units + 9 < cLine) : Cmp prog w A X .Eq (rRat p) (rRat q) (decide (p = q)) := eqv_rat p q ▸ cmp_eqD (Rd_rat p) (Rd_rat q) hu (by simp [PyData.depth, PyData.depthAll])
theorem cmp_neR {p q : Rat} (hu : A.units + 9 < cLine) : Cmp prog w A X .NotEq (rRat p) (rRat q) (decide (p ≠ q)) := by
  have := cmp_neD (prog := prog) (w := w) (A := A) (X := X) (Rd_rat p) (Rd_rat q) hu (by simp [PyData.depth, PyData.depthAll])
  rw [eqv_rat] at this
  simpa using this
theorem cmp_isNot_none : Cmp prog w A X .IsNot rNone rNone false := fun a b s Q E x y k => by
  cases x; cases y
  exact isNot_none (k s.heap s.toks (Ext.refl _))
theorem cmp_isNot_list {Rs : List RV} : Cmp prog w A X .IsNot (rList Rs) rNone true := fun a b s Q E x y k => by
  obtain ⟨b, vs, rfl, _⟩ := x
  cases y
  exact isNot_none (k s.heap s.toks (Ext.refl _))
theorem cmp_in {ns : List Int} {k : Int} : Cmp prog w A X .In (rInt k) (rInts ns) (ns.contains k) := fun a b s Q E x y kk => by
  obtain ⟨t, rfl⟩ := x
  obtain ⟨b, vs, rfl, _, q, r⟩ := y
  have hi : ∀ (ns : List Int) (vs : List Value), All2 X s.heap (ns.map rInt) vs → vs.any (fun v => match v with | .int i _ => i == k | _ => false) = ns.contains k ∧ ∀ y ∈ vs, ∃ i u, y = .int i u := by
    intro ns
    induction ns with
    | nil => intro vs r; match vs, r with | [], _ => exact ⟨rfl, fun _ h => nomatch h⟩
    | cons n ns ih =>
      intro vs r
      match vs, r with
      | v :: vs, r =>
        obtain ⟨⟨u, rfl⟩, r⟩ := r
        obtain ⟨h1, h2⟩ := ih vs r
        refine ⟨?_, fun y hy => ?_⟩
        · rw [List.any_cons, h1, List.contains_cons]
          congr 1
          exact Bool.beq_comm ..
        · rcases List.mem_cons.mp hy with rfl | hy
          · exact ⟨_, _, rfl⟩
          · exact h2 y hy
  obtain ⟨h1, h2⟩ := hi ns vs r
  refine PySem.SeqAt.in_listAt (fun v => match v with | .int i _ => i == k | _ => false) q.isList (fun y hy => ?_) ?_
  · obtain ⟨i, u, rfl⟩ := h2 y (by simpa using hy)
    exact (PySem.MeetsSeq.EqGives.int i k u t).at _ _
  · rw [List.any_toArray, h1]
    exact kk s.heap s.toks (Ext.refl _)

theorem ET_not {x : Expr} {pos : Pos} {c : Bool} (h : ET prog w base A env J x c) : ET prog w base A env J (.UnaryOp .Not x pos) (!c) := fun B s Q E a k => isTrue_not (h B s _ E a fun h' tk k₁ => k h' tk k₁)
theorem ET_name {x : Str} {pos : Pos} {c : Bool} (h : EV prog w base A env J (.Name x pos) (rBool c)) : ET prog w base A env J (.Name x pos) c := fun B s Q E a k =>
  wpAny_isTrue_value (h B s _ E a fun v h' tk k₁ e => by cases e; exact wpAny_truthy_bool (k h' tk k₁))

/-! ## new lists whose parts may stand already -/
variable (prog w base A env) in
def EVL (J : Inv) (e : Expr) (Rs : List RV) : Prop :=
  ∀ B s (Q E : Value → Shared → Prop), At base B env J s.heap → (∀ b vs h' tk, Ext s.heap h' → s.heap.get? b = none → Sq "list" h' b vs → All2 J.X h' Rs vs → Q (.ref b) { s with heap := h', toks := tk }) → wpAny (model prog w) A (eval e env) Q E s
theorem EVL.ev {e : Expr} {Rs : List RV} (h : EVL prog w base A env J e Rs) : EV prog w base A env J e (rList Rs) := fun B s Q E a k => h B s Q E a fun b vs h' tk k₁ nb q r => k _ h' tk k₁ ⟨b, vs, rfl, notX a nb, q, r⟩
theorem EVL.evn {e : Expr} {Rs : List RV} (h : EVL prog w base A env J e Rs) (hf : ∀ R ∈ Rs, R.free) : EVN prog w base A env J e (rList Rs) := fun B s Q E a k => h B s Q E a fun b vs h' tk k₁ nb q r => k _ h' tk k₁ ⟨b, vs, rfl, fun z => z nb, q, r.imp fun R v hm x => hf R hm _ _ _ _ x⟩
theorem EVL.conv {e : Expr} {Rs Ss : List RV} (h : EVL prog w base A env J e Rs) (hR : Rs = Ss) : EVL prog w base A env J e Ss := hR ▸ h

theorem EVL_list (G : Gl base mg mb) {e : Expr} {p pos : Pos} {Rs : List RV} (h : EV prog w base A env J e (rList Rs)) (hz : Rs.length ≤ 1000) (hk : env.scope.kind = .function) (hx : env.kindOf "list" = some .globalImplicit) (hg : env.globals = mainGlobals) (hg' : env.builtins = builtinsNs)
    (hs : starEach [e] env = [(false, eval e env)] := by rfl) : EVL prog w base A env J (.Call (.Name "list" p) [e] [] pos) Rs := fun B s Q E a k =>
  (EVs_cons h EVs_nil hs).tcall G (by decide) (by boot_fast) (by decide) hk hx hg hg' hs rfl (by decide) a fun vs h₁ t₁ k₁ r => by
    match vs, r with
    | [v], r =>
      obtain ⟨⟨b, us, rfl, nb, ⟨n, q⟩, r⟩, _⟩ := r
      refine call_list_seq (s := { s with heap := h₁, toks := t₁ }) b (.inl rfl) q rfl rfl (fun h₂ c' hk₂ hl => ?_) (hsz := by rw [List.size_toArray, r.len]; exact Nat.le_trans hz thousand)
      exact k h₁.objs.size us h₂ t₁ (k₁.trans hk₂) (none_up k₁ new_none) ⟨_, hl⟩ (r.imp fun R v _ x => RV.ext x hk₂)

theorem evalPart_is {x : Option Expr} {B : Addr → Option Obj} {s : Shared} {Q E : Value → Shared → Prop} {lo : Option Int} (hx : match x, lo with | none, none => True | some e, some i => EV prog w base A env J e (rInt i) | _, _ => False)
    (a : At base B env J s.heap) (k : ∀ v h' tk, Ext s.heap h' → IsPart v lo → Q v { s with heap := h', toks := tk }) : wpAny (model prog w) A (evalPart x env) Q E s := by
  cases x with
  | none =>
    cases lo with
    | none => rw [evalPart_none]; exact wpAny_pure (k _ s.heap s.toks (Ext.refl _) .none)
    | some i => exact hx.elim
  | some e =>
    cases lo with
    | none => exact hx.elim
    | some i =>
      rw [evalPart_some]
      exact hx B s Q E a fun v h' tk k₁ ⟨t, e⟩ => k v h' tk k₁ (e ▸ .int i t)
theorem EVL_slice {value : Expr} {l u : Option Expr} {p pos : Pos} {Rs Ss : List RV} {lo hi : Option Int} (hv : EV prog w base A env J value (rList Rs))
    (hl : match l, lo with | none, none => True | some e, some i => EV prog w base A env J e (rInt i) | _, _ => False) (hu : match u, hi with | none, none => True | some e, some i => EV prog w base A env J e (rInt i) | _, _ => False) (hz : Rs.length ≤ 1000)
    (hS : ∀ X h vs, All2 X h Rs vs → All2 X h Ss (slicePick vs.toArray lo hi none).toList)
    (ht : ∀ o r, letTemporaryGo value o r = pure () := by intro _ _; rfl) : EVL prog w base A env J (.Subscript value (.Slice l u none p) pos) Ss := fun B s Q E a k => by
  refine wpAny_Subscript_list_slice (hv B s _ E a fun v h₁ t₁ k₁ x => evalPart_is hl (a.ext k₁) fun vl h₂ t₂ k₂ pl => evalPart_is hu ((a.ext k₁).ext k₂) fun vu h₃ t₃ k₃ pu => ?_) ht
  obtain ⟨b, vs, rfl, nb, q, r⟩ := x
  have kp : Ext h₃ ((h₃.push { cls := .type "slice", data := .fields #[vl, vu, .none] }).push { cls := .type "list", data := .seq (slicePick vs.toArray lo hi none) }) := (Ext.push _ _).trans (Ext.push _ _)
  refine ⟨b, vs.toArray, lo, hi, rfl, ((q.ext k₂).ext k₃).isList, by rw [List.size_toArray, r.len]; exact Nat.le_trans hz thousand, pl, pu, ?_⟩
  refine k (h₃.objs.size + 1) (slicePick vs.toArray lo hi none).toList _ t₃ (((k₁.trans k₂).trans k₃).trans kp) (none_up ((k₁.trans k₂).trans k₃) ?_) ⟨0, ?_⟩ (hS _ _ _ (r.imp fun R v _ x => RV.ext (RV.ext (RV.ext x k₂) k₃) kp))
  · cases e : h₃.get? (h₃.objs.size + 1) with
    | none => rfl
    | some o => exact absurd (Heap.lt_size e) (Nat.not_lt.mpr (Nat.le_succ _))
  · have e := Heap.get?_push_size (h₃.push { cls := .type "slice", data := .fields #[vl, vu, .none] }) (o := { cls := .type "list", data := .seq (slicePick vs.toArray lo hi none) }) rfl
    rw [Heap.size_push] at e
    simpa using e
theorem EVL_upto {value e : Expr} {p pos : Pos} {Rs : List RV} {k : Nat} (hv : EV prog w base A env J value (rList Rs)) (hs : EV prog w base A env J e (rInt k)) (hz : Rs.length ≤ 1000) (ht : ∀ o r, letTemporaryGo value o r = pure () := by intro _ _; rfl) :
    EVL prog w base A env J (.Subscript value (.Slice none (some e) none p) pos) (Rs.take k) :=
  EVL_slice (lo := none) (hi := some k) hv trivial hs hz (fun X h vs r => by rw [slicePick_upto']; exact r.take k) ht
theorem EVL_from {value e : Expr} {p pos : Pos} {Rs : List RV} {k : Nat} (hv : EV prog w base A env J value (rList Rs)) (hs : EV prog w base A env J e (rInt k)) (hz : Rs.length ≤ 1000) (ht : ∀ o r, letTemporaryGo value o r = pure () := by intro _ _; rfl) :
    EVL prog w base A env J (.Subscript value (.Slice (some e) none none p) pos) (Rs.drop k) :=
  EVL_slice (lo := some k) (hi := none) hv hs trivial hz (fun X h vs r => by rw [slicePick_from']; exact r.drop k) ht
theorem EVL_rev {value st : Expr} {p pos : Pos} {Rs : List RV} (hv : EV prog w base A env J value (rList Rs)) (hs : EV prog w base A env J st (rInt (-1))) (hz : Rs.length ≤ 1000) (ht : ∀ o r, letTemporaryGo value o r = pure () := by intro _ _; rfl) :
    EVL prog w base A env J (.Subscript value (.Slice none none (some st) p) pos) Rs.reverse := fun B s Q E a k => by
  refine wpAny_Subscript_Slice_step (T := "list") list_getitem_lookup (hv B s _ E a fun v h₁ t₁ k₁ x => ?_) ht
  refine wpAny_Slice ?_
  rw [evalPart_none]
  refine wpAny_pure (wpAny_pure ?_)
  rw [evalPart_some]
  refine hs B _ _ E (a.ext k₁) fun u h₂ t₂ k₂ y => ?_
  obtain ⟨b, vs, rfl, nb, q, r⟩ := x
  obtain ⟨t, rfl⟩ := y
  have q₂ := (q.ext k₂).ext (Ext.push _ { cls := .type "slice", data := .fields #[.none, .none, .int (-1) t] })
  refine ⟨q₂.isList.typeIs, wpAny_getItem_list_slice q₂.isList (Heap.IsSliceOf.new ..) .none .none (.int _ _) (by decide) ?_ (hsz := by rw [List.size_toArray, r.len]; exact Nat.le_trans hz thousand)⟩
  rw [Heap.size_push]
  have kp : Ext h₂ ((h₂.push { cls := .type "slice", data := .fields #[.none, .none, .int (-1) t] }).push { cls := .type "list", data := .seq (slicePick vs.toArray none none (some (-1))) }) := (Ext.push _ _).trans (Ext.push _ _)
  refine k (h₂.objs.size + 1) vs.reverse _ t₂ ((k₁.trans k₂).trans kp) (none_up (k₁.trans k₂) ?_) ⟨0, ?_⟩ (r.reverse.imp fun R v _ x => RV.ext (RV.ext x k₂) kp)
  · cases e : h₂.get? (h₂.objs.size + 1) with
    | none => rfl
    | some o => exact absurd (Heap.lt_size e) (Nat.not_lt.mpr (Nat.le_succ _))
  · have e := Heap.get?_push_size (h₂.push { cls := .type "slice", data := .fields #[.none, .none, .int (-1) t] }) (o := { cls := .type "list", data := .seq (slicePick vs.toArray none none (some (-1))) }) rfl
    rw [Heap.size_push] at e
    rw [krv_pick] at e ⊢
    simpa using e

/-- two operands, then an operation that hands back a new list -/
theorem EVL_two {l r : Expr} {op : Operator} {pos : Pos} {R S : RV} {Ts : List RV} (hl : EV prog w base A env J l R) (hr : EV prog w base A env J r S)
    (ho : ∀ B a b s (Q E : Value → Shared → Prop), At base B env J s.heap → R.p J.X a s.heap → S.p J.X b s.heap → (∀ c vs h' tk, Ext s.heap h' → s.heap.get? c = none → Sq "list" h' c vs → All2 J.X h' Ts vs → Q (.ref c) { s with heap := h', toks := tk }) → wpAny (model prog w) A (binaryOp op a b) Q E s) :
    EVL prog w base A env J (.BinOp l op r pos) Ts := fun B s Q E a k =>
  wpAny_BinOp (hl B s _ E a fun v h₁ t₁ k₁ x => hr B _ _ E (a.ext k₁) fun u h₂ t₂ k₂ y =>
    ho B v u _ Q E ((a.ext k₁).ext k₂) (RV.ext x k₂) y fun c vs h' tk k₃ nc q r => k c vs h' tk ((k₁.trans k₂).trans k₃) (none_up (k₁.trans k₂) nc) q r)
theorem EVL_add {l r : Expr} {pos : Pos} {Rs Ss : List RV} (hl : EV prog w base A env J l (rList Rs)) (hr : EV prog w base A env J r (rList Ss)) (hz : Rs.length + Ss.length ≤ 1000) : EVL prog w base A env J (.BinOp l .Add r pos) (Rs ++ Ss) :=
  EVL_two hl hr fun B _ _ s Q E a x y k => by
    obtain ⟨b, vs, rfl, _, ⟨n, q⟩, r⟩ := x
    obtain ⟨c, us, rfl, _, ⟨n', q'⟩, r'⟩ := y
    refine PySem.P.add_list q q' ?_ (by rw [List.size_toArray, List.size_toArray, r.len, r'.len]; exact Nat.le_trans hz thousand)
    refine k _ (vs ++ us) _ _ (Ext.push _ _) new_none ⟨0, ?_⟩ ((r.append r').imp fun R v _ x => RV.ext x (Ext.push _ _))
    rw [Heap.get?_push_size _ rfl]; simp
theorem foldl_one (v : Value) : ∀ (n : Nat) (acc : Array Value), List.foldl (fun x1 x2 => x1 ++ x2) acc (List.replicate n #[v]) = acc ++ (List.replicate n v).toArray
  | 0, acc => by simp
  | n + 1, acc => by
    rw [List.replicate_succ, List.foldl_cons, foldl_one v n, List.replicate_succ]
    apply Array.toList_inj.mp; simp
theorem EVL_mul {l r : Expr} {pos : Pos} {R : RV} {k : Int} (hl : EV prog w base A env J l (rList [R])) (hr : EV prog w base A env J r (rInt k)) (hk : k ≤ 1000) (hk' : -1000 ≤ k) : EVL prog w base A env J (.BinOp l .Mult r pos) (List.replicate k.toNat R) :=
  EVL_two hl hr fun B _ _ s Q E a x y kk => by
    obtain ⟨b, vs, rfl, _, ⟨n, q⟩, r⟩ := x
    obtain ⟨u, rfl⟩ := y
    match vs, r with
    | [v], r =>
      have r1 := r.1
      refine wpAny_binaryOp_repeat_ref (T := "list") (U := "int") (by decide) ⟨_, q, rfl⟩ (fun s' => typeIs_int s' k u) noFill_list_mul F.fills_int_mul F.slot_int_rmul repeat_list F.slot_int_index.lookup
        (call_meets F.slot_int_rmul (typeIs_int s k u) F.entry_int_rmul (F.args_int_rmul_2 _ _) (int___rmul___int_list k u b _ n)
          ⟨q, rfl, ⟨_, q, rfl⟩, call_meets F.slot_list_mul ⟨_, q, rfl⟩ F.entry_list_mul (F.args_list_mul_2 _ _)
            (AutoListH.list___mul___list_int_3 b _ n k u (by simp [Builtin.List.listFitsIndex]; omega) (by have e : #[v].size * k.toNat = k.toNat := Nat.one_mul _; rw [e]; omega) (by have e : #[v].size * k.toNat = k.toNat := Nat.one_mul _; rw [e]; simp [Builtin.List.listTooLong, sizeLine]; omega))
            ⟨q, ?_⟩⟩)
      refine kk _ (List.replicate k.toNat v) _ _ (Ext.push _ _) new_none ⟨0, ?_⟩ ((All2.replicate r1 _).imp fun R v _ x => RV.ext x (Ext.push _ _))
      rw [Heap.get?_push_size _ rfl]
      simp only [List.isEmpty_toArray, List.isEmpty_cons, Bool.false_eq_true, if_false]
      rw [foldl_one]; simp
end


/-- as R, and every list of it lies off S too -/
def rNew (S : Addr → Prop) (R : RV) : RV where
  p := fun X v h => R.p (fun a => X a ∨ S a) v h
  st := fun X v h h' k x => R.st _ v h h' (k.mono fun _ q => .inl q) x
  anti := fun X Y v h s x => R.anti _ _ v h (fun a q => q.imp (s a) id) x
  grow := fun X v h x => R.anti _ _ v h (fun a q => by
    rcases q with (q | q) | q
    · exact .inl (.inl q)
    · exact .inr q
    · exact .inl (.inr q)) (R.grow _ v h x)
theorem rNew_p {S X : Addr → Prop} {R : RV} {v : Value} {h : Heap} (x : (rNew S R).p X v h) : R.p X v h := R.anti _ _ _ _ (fun _ q => .inl q) x
theorem rNew_s {S X : Addr → Prop} {R : RV} {v : Value} {h : Heap} (x : (rNew S R).p X v h) : R.p S v h := R.anti _ _ _ _ (fun _ q => .inr q) x

section
variable {prog : Program} {w : World} {base : Heap} {mg mb : Str → Option Value} {A : Around} {env : Env} {J : Inv}

theorem EVN.new {e : Expr} {R : RV} {S : Addr → Prop} (h : EVN prog w base A env J e R) (hS : ∀ a, S a → J.S a) : EV prog w base A env J e (rNew S R) := fun B s Q E a k =>
  h B s Q E a fun v h' tk k₁ x => k v h' tk k₁ (R.anti _ _ _ _ (fun b q => q.elim (a.xdom b) fun q => a.sdom b (hS b q)) x)
theorem EV.old {e : Expr} {R : RV} {S : Addr → Prop} (h : EV prog w base A env J e (rNew S R)) : EV prog w base A env J e R := h.weak fun X v h x => rNew_p x

/-! ## arguments -/
variable (prog w base A env) in
/-- as EV, for a value that is only read: a list in hand counts too -/
def EA (J : Inv) (e : Expr) (R : RV) : Prop :=
  ∀ B s (Q E : Value → Shared → Prop), At base B env J s.heap → (∀ v h' tk, Ext s.heap h' → R.p (fun _ => False) v h' → Q v { s with heap := h', toks := tk }) → wpAny (model prog w) A (eval e env) Q E s
variable (prog w base A env) in
def EAs (J : Inv) (es : List Expr) (Rs : List RV) : Prop :=
  ∀ B s pos (Q : List Value → Shared → Prop) (E : Value → Shared → Prop), At base B env J s.heap → (∀ vs h' tk, Ext s.heap h' → All2 (fun _ => False) h' Rs vs → Q vs { s with heap := h', toks := tk }) →
    wpAny (model prog w) A (spliced (backTo pos (starEach es env))) Q E s
theorem EV.arg {e : Expr} {R : RV} (h : EV prog w base A env J e R) : EA prog w base A env J e R := fun B s Q E a k => h B s Q E a fun v h' tk k₁ x => k v h' tk k₁ (R.anti _ _ _ _ (fun _ q => q.elim) x)
theorem EA_mu {e : Expr} {b : Addr} {Rs : List RV} (h : EV prog w base A env J e (rIs (.ref b))) (hm : (b, Rs) ∈ J.Mu) : EA prog w base A env J e (rList Rs) := fun B s Q E a k => h B s Q E a fun v h' tk k₁ x => by
  cases x
  obtain ⟨⟨vs, q, r⟩, _⟩ := (a.ext k₁).mu _ hm
  exact k _ h' tk k₁ ⟨b, vs, rfl, id, q, r.imp fun R v _ y => R.anti _ _ _ _ (fun _ q => q.elim) y⟩
theorem EAs_nil : EAs prog w base A env J [] [] := fun B s pos Q E a k => args_nil (k [] s.heap s.toks (Ext.refl _) trivial)
theorem EAs_cons {e : Expr} {rest : List Expr} {R : RV} {Rs : List RV} (he : EA prog w base A env J e R) (hr : EAs prog w base A env J rest Rs)
    (hs : starEach (e :: rest) env = (false, eval e env) :: starEach rest env := by rfl) : EAs prog w base A env J (e :: rest) (R :: Rs) := fun B s pos Q E a k =>
  args_cons (he B s _ E a fun v h₁ t₁ k₁ x => hr B _ pos _ E (a.ext k₁) fun vs h₂ t₂ k₂ y => k (v :: vs) h₂ t₂ (k₁.trans k₂) ⟨RV.ext x k₂, y⟩) hs
theorem EVN_callA (G : Gl base mg mb) {f : Str} {n : Nat} {Rs : List RV} {R : RV} (hp : PC prog w base mg f n Rs R) (hR : Rm A n) {e : Expr} {rest : List Expr} {p pos : Pos}
    (ha : EAs prog w base A env J (e :: rest) Rs) (hk : env.scope.kind = .function) (hx : env.kindOf f = some .globalImplicit) (hg : env.globals = mainGlobals)
    (he : starEach (e :: rest) env = (false, eval e env) :: starEach rest env := by rfl) (hn : (f == ("__debug__" : Str)) = false := by decide) :
    EVN prog w base A env J (.Call (.Name f p) (e :: rest) [] pos) R := fun B s Q E a k => by
  obtain ⟨b, o, fd, hb, ho, hd, hc⟩ := hp
  refine Call_ (eval_global G a.fm.lowE hb hk hx hg (callWith_def hd (ha B s pos _ E a fun vs h₁ t₁ k₁ x => ⟨k₁ _ _ (a.fm.lowE _ _ ho), ?_⟩) he) hn)
  refine hc A hR vs _ Q E (Ext.trans a.fm.lowE k₁) x fun v h' tk k₂ y => ?_
  exact k v h' tk (k₁.trans k₂) (R.anti _ _ _ _ (dom_ext k₁) y)

/-! ## lists in hand -/
theorem Fm.seqs {B : Addr → Option Obj} {O : List Str} {h h' : Heap} {m : List (Str × Value)} (F : Fm base B env O h m) {wr : List Addr} (hs : ∀ b o, b ∉ wr → h.get? b = some o → h'.get? b = some o) (e : ∀ a ∈ wr, ∃ vs, Sq "list" h a vs) (hB : ∀ a ∈ wr, B a = none) : Fm base B env O h' m := by
  refine ⟨?_, fun x c hx => ?_, fun b ob hb => ?_, F.low, F.offL, F.offC, F.apart, F.ck⟩
  · obtain ⟨mL, hn, r⟩ := F.ns
    refine ⟨mL, hn.at' fun o q => hs _ o (fun hm => ?_) q, r⟩
    obtain ⟨o', es, ep, q, q', _⟩ := hn
    obtain ⟨vs, n, e⟩ := e _ hm
    rw [e] at q; cases q
    cases q'
  · have hne : c ∉ wr := fun hm => by
      obtain ⟨⟨cv, o', q, q'⟩, _⟩ := F.cell x c hx
      obtain ⟨vs, n, e⟩ := e _ hm
      rw [e] at q; cases q
      cases q'
    obtain ⟨⟨cv, o', q, q'⟩, z⟩ := F.cell x c hx
    refine ⟨⟨cv, o', hs c _ hne q, q'⟩, fun v hv => ?_⟩
    obtain ⟨o₂, q₂, q₂'⟩ := z v hv
    exact ⟨o₂, hs c _ hne q₂, q₂'⟩
  · exact hs b ob (fun hm => by rw [hB b hm] at hb; cases hb) (F.keep b ob hb)

def PutMu (pre post M M' : List (Addr × List RV)) : Prop := ∃ M₁ M₂, M = M₁ ++ (pre ++ M₂) ∧ M' = M₁ ++ (post ++ M₂)
theorem PutMu.all {M M' : List (Addr × List RV)} : PutMu M M' M M' := ⟨[], [], by simp, by simp⟩
theorem PutMu.hd {p p' : Addr × List RV} {M : List (Addr × List RV)} : PutMu [p] [p'] (p :: M) (p' :: M) := ⟨[], M, rfl, rfl⟩
theorem PutMu.tl {pre post M M' : List (Addr × List RV)} {q : Addr × List RV} (h : PutMu pre post M M') : PutMu pre post (q :: M) (q :: M') := by
  obtain ⟨M₁, M₂, rfl, rfl⟩ := h
  exact ⟨q :: M₁, M₂, rfl, rfl⟩
theorem PutMu.sub {pre post M M' : List (Addr × List RV)} (h : PutMu pre post M M') : ∀ p ∈ pre, p ∈ M := by
  obtain ⟨M₁, M₂, rfl, rfl⟩ := h
  exact fun p hp => by simp [hp]
theorem PutMu.fst {pre post M M' : List (Addr × List RV)} (h : PutMu pre post M M') (hp : post.map (·.1) = pre.map (·.1)) : M'.map (·.1) = M.map (·.1) := by
  obtain ⟨M₁, M₂, rfl, rfl⟩ := h
  simp [hp]
theorem PutMu.back {pre post M M' : List (Addr × List RV)} (h : PutMu pre post M M') : ∀ p ∈ M', p ∈ post ∨ ∃ M₁ M₂, M = M₁ ++ (pre ++ M₂) ∧ (p ∈ M₁ ∨ p ∈ M₂) := by
  obtain ⟨M₁, M₂, rfl, rfl⟩ := h
  intro p hp
  rcases List.mem_append.mp hp with hp | hp
  · exact .inr ⟨M₁, M₂, rfl, .inl hp⟩
  · exact (List.mem_append.mp hp).imp id fun q => ⟨M₁, M₂, rfl, .inr q⟩

theorem At.put {B : Addr → Option Obj} {h h' : Heap} (a : At base B env J h) {pre post M' : List (Addr × List RV)} (hM : PutMu pre post J.Mu M') (hp : post.map (·.1) = pre.map (·.1))
    (keep : ∀ b o, b ∉ pre.map (·.1) → h.get? b = some o → h'.get? b = some o) (hpost : ∀ p ∈ post, MuAt J.X h' p) : At base B env { J with Mu := M' } h' := by
  have ks : KS J.X h h' := by
    refine ⟨fun b vs ⟨n, e⟩ => ⟨n, keep b _ (fun hm => ?_) e⟩, fun b vs nX ⟨n, e⟩ => ⟨n, keep b _ (fun hm => ?_) e⟩⟩
    · obtain ⟨p, hp, rfl⟩ := List.mem_map.mp hm
      obtain ⟨⟨us, q, _⟩, _⟩ := a.mu p (hM.sub p hp)
      exact absurd ((show Sq "tuple" h p.1 vs from ⟨n, e⟩).inj q).1 (by decide)
    · obtain ⟨p, hp, rfl⟩ := List.mem_map.mp hm
      exact nX (a.mu p (hM.sub p hp)).2.2
  refine ⟨a.fm.seqs keep (fun b hm => ?_) (fun b hm => ?_), fun d hd => d.2.st _ _ _ _ ks (a.dat d hd), fun p hm => ?_, by rw [hM.fst hp]; exact a.nd, fun b q => (a.xd b q).imp id fun ⟨Rs, hm⟩ => ?_, a.sd⟩
  · obtain ⟨p, hp, rfl⟩ := List.mem_map.mp hm
    obtain ⟨⟨us, q, _⟩, _⟩ := a.mu p (hM.sub p hp)
    exact ⟨us, q⟩
  · obtain ⟨p, hp, rfl⟩ := List.mem_map.mp hm
    exact (a.mu p (hM.sub p hp)).2.1
  · have hm' : p.1 ∈ J.Mu.map (·.1) := hM.fst hp ▸ List.mem_map_of_mem hm
    obtain ⟨q, hq, e⟩ := List.mem_map.mp hm'
    refine ⟨?_, e ▸ (a.mu q hq).2⟩
    rcases hM.back p hm with z | ⟨M₁, M₂, eM, z⟩
    · exact hpost p z
    · have hpM : p ∈ J.Mu := by rw [eM]; rcases z with z | z <;> simp [z]
      obtain ⟨⟨vs, ⟨n, e'⟩, r⟩, _⟩ := a.mu p hpM
      refine ⟨vs, ⟨n, keep _ _ (fun hm => ?_) e'⟩, r.imp fun R v _ x => R.st _ _ _ _ ks x⟩
      have nd := a.nd
      rw [eM] at nd
      simp only [List.map_append] at nd
      rw [List.nodup_append] at nd
      obtain ⟨_, nd2, nd3⟩ := nd
      rw [List.nodup_append] at nd2
      rcases z with z | z
      · exact nd3 _ (List.mem_map_of_mem z) _ (List.mem_append_left _ hm) rfl
      · exact nd2.2.2 _ hm _ (List.mem_map_of_mem z) rfl
  · have hm' : b ∈ M'.map (·.1) := by rw [hM.fst hp]; exact List.mem_map_of_mem hm
    obtain ⟨q, hq, e⟩ := List.mem_map.mp hm'
    exact ⟨q.2, e ▸ hq⟩

/-- one list in hand is changed in its place -/
theorem At.chg {B : Addr → Option Obj} {h : Heap} (a : At base B env J h) {b : Addr} {Rs Rs' : List RV} {M' : List (Addr × List RV)} (hM : PutMu [(b, Rs)] [(b, Rs')] J.Mu M') {us : List Value} {k : Nat}
    {f : Array Value → Array Value} (e : IsL h b us.toArray k) (r : All2 J.X h Rs' (f us.toArray).toList) : At base B env { J with Mu := M' } (h.update b (Obj.mapSeq f)) := by
  have sb : Heap.SameBut b h (h.update b (Obj.mapSeq f)) := Heap.SameBut.update ..
  have hb : J.X b := (a.mu _ (hM.sub _ (.head _))).2.2
  have ks : KS J.X h (h.update b (Obj.mapSeq f)) := ks_list sb ⟨k, e⟩ hb
  refine a.put hM rfl (fun c o hc q => (sb.2 c (fun z => hc (by simp [z]))).trans q) fun p hp => ?_
  obtain rfl := List.mem_singleton.mp hp
  have q := e.update f
  rw [← Array.toArray_toList (xs := f us.toArray)] at q
  exact ⟨(f us.toArray).toList, ⟨_, q⟩, r.imp fun R v _ x => R.st _ _ _ _ ks x⟩
theorem At.muAt {B : Addr → Option Obj} {h : Heap} (a : At base B env J h) {b : Addr} {Rs : List RV} (hm : (b, Rs) ∈ J.Mu) : ∃ us k, IsL h b us.toArray k ∧ All2 J.X h Rs us ∧ us.length = Rs.length := by
  obtain ⟨us, ⟨k, q⟩, r⟩ := (a.mu _ hm).1
  exact ⟨us, k, q, r, r.len⟩

/-! ## statements -/
theorem ST_expr {e : Expr} {pos : Pos} {rest : List Stmt} {R : RV} {K : Kt} (he : EV prog w base A env J e R) (h : ST prog w base A env J rest K) (hi : interactive env = false := by rfl) (hs : swapsWith e none pos.line env = pure false := by rfl) :
    ST prog w base A env J (.Expr e pos :: rest) K := fun B s Q E a k =>
  wpAny_execs_cons (wpAny_Expr_any (he B s _ E a fun v h₁ t₁ k₁ x => h B _ Q E (a.ext k₁) fun f h' tk y => k f h' tk y) hi hs)

section
variable {o e : Expr} {apos pos epos : Pos} {rest : List Stmt} {b : Addr} {Rs : List RV} {K : Kt} {M' : List (Addr × List RV)}
theorem ST_append {R : RV} (ho : EV prog w base A env J o (rIs (.ref b))) (hM : PutMu [(b, Rs)] [(b, Rs ++ [R])] J.Mu M') (he : EV prog w base A env J e R) (hz : Rs.length ≤ 1000) (h : ST prog w base A env { J with Mu := M' } rest K)
    (hbase : attributeBase o "append" env (eval o env) = eval o env := by rfl) (hse : starEach [e] env = [(false, eval e env)] := by rfl) (hline : (apos.endLine == pos.line) = true := by rfl)
    (hi : interactive env = false := by rfl) (hs : swapsWith (.Call (.Attribute o "append" apos) [e] [] pos) none epos.line env = pure false := by rfl) : ST prog w base A env J (.Expr (.Call (.Attribute o "append" apos) [e] [] pos) epos :: rest) K := fun B s Q E a k => by
  refine wpAny_execs_cons (wpAny_Expr_any (Call_method1 hbase hse hline (ho B s _ E a fun v h₁ t₁ k₁ x => ?_)) hi hs)
  cases x
  obtain ⟨us, n, q, r, hl⟩ := (a.ext k₁).muAt (hM.sub _ (.head _))
  refine ⟨"list", "list.append", F.plainAttrs_list, F.slot_list_append, F.type_list_append, ⟨_, q, rfl⟩, fun c hc => by cases hc; exact ⟨_, q, rfl⟩, PySem.P.append_list (he B _ _ E (a.ext k₁) fun v h₂ t₂ k₂ x => ?_)⟩
  refine ⟨us.toArray, n, by rw [List.size_toArray, hl]; exact Nat.le_trans hz thousand, k₂ _ _ q, ?_⟩
  exact h B _ Q E (((a.ext k₁).ext k₂).chg (f := fun xs => xs.push v) hM (k₂ _ _ q) (by simpa using (r.imp fun R v _ x => RV.ext x k₂).snoc x)) fun f h' tk y => k f h' tk y
theorem ST_extend {Ss : List RV} (ho : EV prog w base A env J o (rIs (.ref b))) (hM : PutMu [(b, Rs)] [(b, Rs ++ Ss)] J.Mu M') (he : EV prog w base A env J e (rList Ss)) (hz : Rs.length + Ss.length ≤ 1000) (h : ST prog w base A env { J with Mu := M' } rest K)
    (hbase : attributeBase o "extend" env (eval o env) = eval o env := by rfl) (hse : starEach [e] env = [(false, eval e env)] := by rfl) (hline : (apos.endLine == pos.line) = true := by rfl)
    (hi : interactive env = false := by rfl) (hs : swapsWith (.Call (.Attribute o "extend" apos) [e] [] pos) none epos.line env = pure false := by rfl) : ST prog w base A env J (.Expr (.Call (.Attribute o "extend" apos) [e] [] pos) epos :: rest) K := fun B s Q E a k => by
  refine wpAny_execs_cons (wpAny_Expr_any (Call_method1 hbase hse hline (ho B s _ E a fun v h₁ t₁ k₁ x => ?_)) hi hs)
  cases x
  obtain ⟨us, n, q, r, hl⟩ := (a.ext k₁).muAt (hM.sub _ (.head _))
  refine ⟨"list", "list.extend", F.plainAttrs_list, F.slot_list_extend, F.type_list_extend, ⟨_, q, rfl⟩, fun c hc => by cases hc; exact ⟨_, q, rfl⟩, PySem.P.extend_list (he B _ _ E (a.ext k₁) fun v h₂ t₂ k₂ x => ?_)⟩
  obtain ⟨c, ws, rfl, nc, ⟨n₂, q₂⟩, r₂⟩ := x
  refine ⟨c, us.toArray, ws.toArray, n, n₂, by rw [List.size_toArray, hl]; exact Nat.le_trans (by omega) thousand, by rw [List.size_toArray, List.size_toArray, hl, r₂.len]; exact Nat.le_trans hz (Nat.le_succ_of_le thousand), ?_, rfl, k₂ _ _ q, q₂, ?_⟩
  · rw [List.size_toArray, List.size_toArray, hl, r₂.len]
    have : Builtin.List.listTooLong (Rs.length + Ss.length) = false := by have := thousand; simp [Builtin.List.listTooLong]; omega
    rw [this]; simp
  · exact h B _ Q E (((a.ext k₁).ext k₂).chg (f := fun xs => xs ++ ws.toArray) hM (k₂ _ _ q) (by simpa using (r.imp fun R v _ x => RV.ext x k₂).append r₂)) fun f h' tk y => k f h' tk y
theorem ST_reverse (ho : EV prog w base A env J o (rIs (.ref b))) (hM : PutMu [(b, Rs)] [(b, Rs.reverse)] J.Mu M') (hz : Rs.length ≤ 1000) (h : ST prog w base A env { J with Mu := M' } rest K)
    (hbase : attributeBase o "reverse" env (eval o env) = eval o env := by rfl) (hline : (apos.endLine == pos.line) = true := by rfl)
    (hi : interactive env = false := by rfl) (hs : swapsWith (.Call (.Attribute o "reverse" apos) [] [] pos) none epos.line env = pure false := by rfl) : ST prog w base A env J (.Expr (.Call (.Attribute o "reverse" apos) [] [] pos) epos :: rest) K := fun B s Q E a k => by
  refine wpAny_execs_cons (wpAny_Expr_any (Call_method0 hbase hline (ho B s _ E a fun v h₁ t₁ k₁ x => ?_)) hi hs)
  cases x
  obtain ⟨us, n, q, r, hl⟩ := (a.ext k₁).muAt (hM.sub _ (.head _))
  refine ⟨"list", "list.reverse", F.plainAttrs_list, F.slot_list_reverse, F.type_list_reverse, ⟨_, q, rfl⟩, fun c hc => by cases hc; exact ⟨_, q, rfl⟩, PySem.P.reverse_list q ?_ (by rw [List.size_toArray, hl]; exact Nat.le_trans hz thousand)⟩
  exact h B _ Q E ((a.ext k₁).chg (f := fun xs => xs.reverse) hM q (by simpa using r.reverse)) fun f h' tk y => k f h' tk y
theorem ST_pop (ho : EV prog w base A env J o (rIs (.ref b))) (hM : PutMu [(b, Rs)] [(b, Rs.dropLast)] J.Mu M') (h0 : Rs ≠ []) (hz : Rs.length ≤ 1000) (h : ST prog w base A env { J with Mu := M' } rest K)
    (hbase : attributeBase o "pop" env (eval o env) = eval o env := by rfl) (hline : (apos.endLine == pos.line) = true := by rfl)
    (hi : interactive env = false := by rfl) (hs : swapsWith (.Call (.Attribute o "pop" apos) [] [] pos) none epos.line env = pure false := by rfl) : ST prog w base A env J (.Expr (.Call (.Attribute o "pop" apos) [] [] pos) epos :: rest) K := fun B s Q E a k => by
  refine wpAny_execs_cons (wpAny_Expr_any (Call_method0 hbase hline (ho B s _ E a fun v h₁ t₁ k₁ x => ?_)) hi hs)
  cases x
  obtain ⟨us, n, q, r, hl⟩ := (a.ext k₁).muAt (hM.sub _ (.head _))
  have hpos : 0 < us.length := by rw [hl]; exact List.length_pos_iff.mpr h0
  refine ⟨"list", "list.pop", F.plainAttrs_list, F.slot_list_pop, F.type_list_pop, ⟨_, q, rfl⟩, fun c hc => by cases hc; exact ⟨_, q, rfl⟩, PySem.P.pop_list (y := us[us.length - 1]) q (by simp) ?_ (by rw [List.size_toArray, hl]; exact Nat.le_trans hz thousand)⟩
  refine h B _ Q E ((a.ext k₁).chg (f := fun xs => xs.eraseIdxIfInBounds (us.toArray.size - 1)) hM q ?_) fun f h' tk y => k f h' tk y
  have : (us.toArray.eraseIdxIfInBounds (us.toArray.size - 1)).toList = us.dropLast := by
    simp [Array.eraseIdxIfInBounds_eq]
    rw [if_pos (by omega)]
  rw [this, List.dropLast_eq_take, List.dropLast_eq_take, hl]
  exact r.take _
end
end

section
variable {prog : Program} {w : World} {base : Heap} {mg mb : Str → Option Value} {A : Around} {env : Env} {J : Inv}

/-- `x[i] = e` for a list in hand -/
theorem ST_store {o i e : Expr} {pos' pos : Pos} {rest : List Stmt} {b : Addr} {Rs : List RV} {R : RV} {j : Nat} {K : Kt} {M' : List (Addr × List RV)} (he : EV prog w base A env J e R) (ho : EV prog w base A env J o (rIs (.ref b)))
    (hi : EV prog w base A env J i (rInt j)) (hj : j < Rs.length) (hz : Rs.length ≤ 1000) (hM : PutMu [(b, Rs)] [(b, Rs.set j R)] J.Mu M') (h : ST prog w base A env { J with Mu := M' } rest K) (hs : swapsWith e (some (.Subscript o i pos')) pos.line env = pure false := by rfl) :
    ST prog w base A env J (.Assign [.Subscript o i pos'] e pos :: rest) K := fun B s Q E a k => by
  refine wpAny_execs_cons (wpAny_Assign_Subscript (he B s _ E a fun v h₁ t₁ k₁ x => ho B _ _ E (a.ext k₁) fun u h₂ t₂ k₂ y => hi B _ _ E ((a.ext k₁).ext k₂) fun z h₃ t₃ k₃ q => ?_) hs)
  cases y
  obtain ⟨t, rfl⟩ := q
  have a₃ := ((a.ext k₁).ext k₂).ext k₃
  obtain ⟨us, n, q, r, hl⟩ := a₃.muAt (hM.sub _ (.head _))
  refine ki_setAt q (by omega) (by omega) (by rw [List.size_toArray, hl]; omega) ?_
  refine h B _ Q E (a₃.chg (f := fun xs => xs.setIfInBounds (j : Int).toNat v) hM q ?_) fun f h' tk y => k f h' tk y
  rw [Array.toList_setIfInBounds, Int.toNat_natCast]
  exact r.set (RV.ext (RV.ext x k₂) k₃) j

theorem Drop.head {x : Str} {xs : List Str} {m m₀ : List (Str × Value)} (h : Drop (x :: xs) m m₀) : Drop [x] m m₀ := fun p hp => ⟨(h p hp).1, fun q => (h p hp).2 (List.mem_cons.mpr (.inl (List.mem_singleton.mp q)))⟩

/-- `x, y = e` where e hands back a pair -/
theorem ST_unpack {x y : Str} {px py pt pos : Pos} {k1 : Nat} {e : Expr} {rest : List Stmt} {R₁ R₂ : RV} {K : Kt} {m₀ : List (Str × Value)} (hh : A.handled = none) (he : EV prog w base A env J e (rTup [R₁, R₂]))
    (hm : Drop [x, y] J.m m₀) (hk : env.scope.kind = .function) (hO : StoreOk env J.O [x, y]) (hxy : y ≠ x)
    (h : ∀ v u, ST prog w base A env { J with m := (x, v) :: (y, u) :: m₀, D := (v, R₁) :: (u, R₂) :: J.D } rest K)
    (hs : swapsWithSole [.Tuple [.Name x px, .Name y py] k1 pt] e pos.line env = pure false := by rfl) (hw : swappedStores [.Tuple [.Name x px, .Name y py] k1 pt] e env = pure none := by rfl) :
    ST prog w base A env J (.Assign [.Tuple [.Name x px, .Name y py] k1 pt] e pos :: rest) K := fun B s Q E a k => by
  refine wpAny_execs_cons (Assign_Tuple (he B s _ E a fun v h₁ t₁ k₁ r => ?_) hs hw)
  obtain ⟨b, vs, rfl, q, r⟩ := r
  match vs, r with
  | [v, u], r =>
    refine two_names (s := { s with heap := h₁, toks := t₁ }) hh q.isTuple (a.fm.ext k₁) hO hk hm hxy fun h₂ t₂ F₂ K₂ _ => ?_
    exact h v u B _ Q E ((((a.ext k₁).turn F₂ K₂).add (R₂.st _ _ _ _ (K₂.mono fun _ q => q.elim) r.2.1)).add (R₁.st _ _ _ _ (K₂.mono fun _ q => q.elim) r.1)) fun f h' tk z => k f h' tk z

/-- a new value is stored, and it is known to be new -/
theorem ST_setN {e : Expr} {x : Str} {px pos : Pos} {rest : List Stmt} {R : RV} {K : Kt} {m₀ : List (Str × Value)} (he : EVN prog w base A env J e R)
    (hm : Drop [x] J.m m₀) (hk : env.scope.kind = .function) (hx : env.kindOf x = some .local ∨ (env.kindOf x = some .cell ∧ x ∈ J.O ∧ (env.cells.lookup x).isSome = true))
    (h : ∀ v, ST prog w base A env { J with m := (x, v) :: m₀, D := (v, R) :: (v, rNew J.S R) :: J.D } rest K) (hs : swapsWith e (some (.Name x px)) pos.line env = pure false := by rfl) :
    ST prog w base A env J (.Assign [.Name x px] e pos :: rest) K := ST_set (he.new fun _ q => q) hm hk hx (fun v B s Q E a k => h v B s Q E (a.add (v := v) (R := R) (rNew_p (a.dat _ (.head _)))) k) hs

theorem ST_retNew {e : Expr} {pos : Pos} {rest : List Stmt} {R : RV} {S : Addr → Prop} (he : EV prog w base A env J e (rNew S R)) : ST prog w base A env J (.Return (some e) pos :: rest) (Kr S R) :=
  ST_ret he fun B hp v a x => ⟨a.fm.keep, rNew_s x⟩
/-- a list in hand is handed back -/
theorem ST_retMu {e : Expr} {pos : Pos} {rest : List Stmt} {b : Addr} {Rs Rs' : List RV} {S : Addr → Prop} (he : EV prog w base A env J e (rIs (.ref b))) (hm : (b, Rs) ∈ J.Mu) (nS : ¬ S b) (hR : ∀ h vs, All2 J.X h Rs vs → All2 S h Rs' vs) :
    ST prog w base A env J (.Return (some e) pos :: rest) (Kr S (rList Rs')) :=
  ST_ret he fun B hp v a x => by
    cases x
    obtain ⟨⟨vs, q, r⟩, _⟩ := a.mu _ hm
    exact ⟨a.fm.keep, b, vs, rfl, nS, q, hR _ _ r⟩
theorem all2_free {X Y : Addr → Prop} {h : Heap} {Rs : List RV} (hf : ∀ R ∈ Rs, R.free) : ∀ vs, All2 X h Rs vs → All2 Y h Rs vs := fun vs r => r.imp fun R v hm x => hf R hm _ _ _ _ x
theorem all2_new {X S : Addr → Prop} {h : Heap} : ∀ (Rs : List RV) (vs : List Value), All2 X h (Rs.map (rNew S)) vs → All2 S h Rs vs
  | [], [], _ => trivial
  | R :: Rs, v :: vs, x => ⟨rNew_s x.1, all2_new Rs vs x.2⟩
  | [], _ :: _, x => x.elim
  | _ :: _, [], x => x.elim

/-! ## calls that change lists in hand -/
def Km (S X : Addr → Prop) (post : List (Addr × List RV)) (R : RV) : Kt := fun B f h' => (∀ a o, B a = some o → h'.get? a = some o) ∧ (∀ p ∈ post, MuAt X h' p) ∧ R.p S (retV f) h'
variable (prog w base mg) in
/-- a def's contract: of what stood it changes the lists of pre alone; S are addresses that the caller holds for old -/
def PM (f : Str) (n : Nat) (S : Addr → Prop) (pre : List (Addr × List RV)) (Rs : List RV) (post : List (Addr × List RV)) (R : RV) : Prop :=
  ∃ a o fd, mg f = some (.ref a) ∧ base.get? a = some o ∧ o.data = .func fd ∧
  ∀ A, Rm A n → ∀ vs s (Q E : Value → Shared → Prop) X, Ext base s.heap → (∀ p ∈ pre, MuAt X s.heap p ∧ X p.1 ∧ base.get? p.1 = none) → (pre.map (·.1)).Nodup → (∀ b, X b → dom s.heap b) → (∀ b, S b → dom s.heap b) → All2 X s.heap Rs vs →
    (∀ v h' tk, (∀ b o, b ∉ pre.map (·.1) → s.heap.get? b = some o → h'.get? b = some o) → (∀ p ∈ post, MuAt X h' p) → R.p (dom s.heap) v h' → Q v { s with heap := h', toks := tk }) → wpAny (model prog w) A (call (.ref a) vs) Q E s

theorem PM_intro (G : Gl base mg mb) {k : Nat} {name : Str} {params : Arguments} {body : List Stmt} {ds rt tp scope ts bn ps} (hst : fn k = .FunctionDef name params body ds rt tp scope ts bn ps) {n : Nat} {S : Addr → Prop} {pre post : List (Addr × List RV)} {Rs : List RV} {R : RV} (xs : List Str)
    (hbind : ∀ pm code doc (vs : List Value), vs.length = Rs.length → bindArgs (docDef name params body scope pm code doc) ⟨vs, []⟩ = pure (xs.zip vs)) (hl : xs.length = Rs.length) (hok : paramsOk scope xs = true)
    (h : ∀ A L a cd q vs X S', Rm A n → vs.length = Rs.length → (∀ b, S b → S' b) → ST prog w base A (fEnv scope L a cd q) ⟨ownCells scope, xs.zip vs, vs.zip Rs, pre, X, S'⟩ body (Km S' X post R))
    (hco : scope.isCoroutine = false) (hgen : scope.isGenerator = false) (hk : scope.kind = .function) : PM prog w base mg name (n + 1) S pre Rs post R := by
  obtain ⟨a, o, pm, code, doc, e1, e2, e3, e4⟩ := G.fn k _ hst rfl
  refine ⟨a, o, _, e1, e2, e3, fun A hA vs s Q E X hb hpre hnd hX hS hvs hQ => ?_⟩
  have hlen : vs.length = Rs.length := hvs.len
  have off : ∀ b ob, s.heap.get? b = some ob → b ∉ pre.map (·.1) → offMu pre s.heap b = some ob := fun b ob e hn => by
    unfold offMu
    rw [if_neg fun ⟨Rs, hm⟩ => hn (List.mem_map_of_mem hm)]
    exact e
  have lift : ∀ b, dom s.heap b → offMu pre s.heap b ≠ none ∨ ∃ Rs, (b, Rs) ∈ pre := fun b q => by
    by_cases hm : ∃ Rs, (b, Rs) ∈ pre
    · exact .inr hm
    · left; unfold offMu; rw [if_neg hm]; exact q
  refine wpAny_call (enter_at (Bk := offMu pre s.heap) (D := vs.zip Rs) (Mu := pre) (X := X) (S := dom s.heap) (by have := hA.hd; omega) hb e2 e3 G.nolimit e4 (hbind pm code doc vs hlen) ?_ (fun _ _ q => offMu_some q) (fun b ob q => off b ob (hb b ob q) fun hm => ?_) ?_
    (fun p hp => ⟨(hpre p hp).1, if_pos ⟨p.2, hp⟩, (hpre p hp).2.1⟩) hnd (fun b q => lift b (hX b q)) (fun b q => (lift b q).imp id fun ⟨Rs, hm⟩ => (hpre _ hm).2.1) (fun s₁ ⟨h₁, tk, e⟩ at₁ => ?_) hco hgen hk)
  · rw [List.map_fst_zip (by rw [hl, hlen]; exact Nat.le_refl _)]; exact hok
  · obtain ⟨p, hp, rfl⟩ := List.mem_map.mp hm
    rw [(hpre p hp).2.2] at q; cases q
  · intro d hd
    obtain ⟨i, hi⟩ := List.getElem?_of_mem hd
    rw [List.getElem?_zip_eq_some] at hi
    obtain ⟨u, hu, hR⟩ := hvs.get hi.2
    rw [hi.1] at hu; cases hu
    exact hR
  · subst e
    refine h _ _ _ code _ vs X (dom s.heap) (hA.deeper _) hlen hS (offMu pre s.heap) _ _ _ at₁ fun f h' tk' hK => ?_
    exact hQ _ h' tk' (fun b ob hn q => hK.1 b ob (off b ob q hn)) hK.2.1 hK.2.2

variable (prog w base A env) in
/-- an evaluation that changes lists in hand -/
def EM (J : Inv) (e : Expr) (M' : List (Addr × List RV)) (R : RV) : Prop :=
  ∀ B s (Q E : Value → Shared → Prop), At base B env J s.heap → (∀ v h' tk, At base B env { J with Mu := M' } h' → R.p J.X v h' → Q v { s with heap := h', toks := tk }) → wpAny (model prog w) A (eval e env) Q E s
theorem EV.em {e : Expr} {R : RV} (h : EV prog w base A env J e R) : EM prog w base A env J e J.Mu R := fun B s Q E a k => h B s Q E a fun v h' tk k₁ x => k v h' tk (a.ext k₁) x

theorem EM_callN (G : Gl base mg mb) {f : Str} {n : Nat} {S : Addr → Prop} {pre post M' : List (Addr × List RV)} {Rs : List RV} {R : RV} (hp : PM prog w base mg f n S pre Rs post R) (hM : PutMu pre post J.Mu M') (hpp : post.map (·.1) = pre.map (·.1)) (hS : ∀ b, S b → J.S b) (hR : Rm A n)
    {e : Expr} {rest : List Expr} {p pos : Pos}
    (ha : EVs prog w base A env J (e :: rest) Rs) (hk : env.scope.kind = .function) (hx : env.kindOf f = some .globalImplicit) (hg : env.globals = mainGlobals)
    (he : starEach (e :: rest) env = (false, eval e env) :: starEach rest env := by rfl) (hn : (f == ("__debug__" : Str)) = false := by decide) :
    EM prog w base A env J (.Call (.Name f p) (e :: rest) [] pos) M' (rNew J.S R) := fun B s Q E a k => by
  obtain ⟨b, o, fd, hb, ho, hd, hc⟩ := hp
  refine Call_ (eval_global G a.fm.lowE hb hk hx hg (callWith_def hd (ha B s pos _ E a fun vs h₁ t₁ k₁ x => ⟨k₁ _ _ (a.fm.lowE _ _ ho), ?_⟩) he) hn)
  have a₁ := a.ext k₁
  refine hc A hR vs _ Q E J.X a₁.fm.lowE (fun p hp => ⟨(a₁.mu p (hM.sub p hp)).1, (a₁.mu p (hM.sub p hp)).2.2, ?_⟩) ?_ a₁.xdom (fun b q => a₁.sdom b (hS b q)) x fun v h' tk keep hpost y => ?_
  · cases e : base.get? p.1 with
    | none => rfl
    | some o => have := a₁.fm.low _ _ e; rw [(a₁.mu p (hM.sub p hp)).2.1] at this; cases this
  · have nd := a.nd
    obtain ⟨M₁, M₂, e, _⟩ := hM
    rw [e] at nd
    simp only [List.map_append] at nd
    rw [List.nodup_append] at nd
    have nd2 := nd.2.1
    rw [List.nodup_append] at nd2
    exact nd2.1
  · refine k v h' tk (a₁.put hM hpp keep hpost) (R.anti _ _ _ _ (fun b q => q.elim (a₁.xdom b) (a₁.sdom b)) y)
theorem EM.old {e : Expr} {M' : List (Addr × List RV)} {R : RV} {S : Addr → Prop} (h : EM prog w base A env J e M' (rNew S R)) : EM prog w base A env J e M' R := fun B s Q E a k => h B s Q E a fun v h' tk a' x => k v h' tk a' (rNew_p x)
theorem ST_exprM {e : Expr} {pos : Pos} {rest : List Stmt} {R : RV} {K : Kt} {M' : List (Addr × List RV)} (he : EM prog w base A env J e M' R) (h : ST prog w base A env { J with Mu := M' } rest K) (hi : interactive env = false := by rfl) (hs : swapsWith e none pos.line env = pure false := by rfl) :
    ST prog w base A env J (.Expr e pos :: rest) K := fun B s Q E a k =>
  wpAny_execs_cons (wpAny_Expr_any (he B s _ E a fun v h₁ t₁ a₁ x => h B _ Q E a₁ fun f h' tk y => k f h' tk y) hi hs)
theorem ST_setM {e : Expr} {x : Str} {px pos : Pos} {rest : List Stmt} {R : RV} {K : Kt} {m₀ : List (Str × Value)} {M' : List (Addr × List RV)} (he : EM prog w base A env J e M' R)
    (hm : Drop [x] J.m m₀) (hk : env.scope.kind = .function) (hx : env.kindOf x = some .local ∨ (env.kindOf x = some .cell ∧ x ∈ J.O ∧ (env.cells.lookup x).isSome = true))
    (h : ∀ v, ST prog w base A env { J with m := (x, v) :: m₀, D := (v, R) :: J.D, Mu := M' } rest K) (hs : swapsWith e (some (.Name x px)) pos.line env = pure false := by rfl) :
    ST prog w base A env J (.Assign [.Name x px] e pos :: rest) K := fun B s Q E a k => by
  refine wpAny_execs_cons (wpAny_Assign_Name (he B s _ E a fun v h₁ t₁ a₁ r => ?_) hs)
  refine At.store (s := { s with heap := h₁, toks := t₁ }) a₁ hm.aset hk hx fun h₂ t₂ a₂ K₂ => ?_
  exact h v B _ Q E (a₂.add (R.st _ _ _ _ (K₂.mono fun _ q => q.elim) r)) fun f h' tk y => k f h' tk y
end


/-! ## vectors and matrices by their entries -/
abbrev rL (n : Nat) (g : Nat → RV) : RV := rList ((List.range n).map g)
abbrev rV (n : Nat) (f : Nat → Rat) : RV := rL n fun i => rRat (f i)
abbrev rM (r c : Nat) (f : Nat → Nat → Rat) : RV := rL r fun i => rV c (f i)
abbrev rVI (n : Nat) (f : Nat → Int) : RV := rL n fun i => rInt (f i)
abbrev rMI (r c : Nat) (f : Nat → Nat → Int) : RV := rL r fun i => rVI c (f i)
theorem rl_get {α : Type} {n i : Nat} {g : Nat → α} (h : i < n) : ((List.range n).map g)[i]? = some (g i) := by simp [h]
theorem rl_len {α : Type} {n : Nat} {g : Nat → α} : ((List.range n).map g).length = n := by simp
theorem rl_congr {α : Type} {n : Nat} {g g' : Nat → α} (h : ∀ i, i < n → g i = g' i) : (List.range n).map g = (List.range n).map g' := List.map_congr_left fun i hi => h i (List.mem_range.mp hi)
theorem rL_congr {n : Nat} {g g' : Nat → RV} (h : ∀ i, i < n → g i = g' i) : rL n g = rL n g' := congrArg rList (rl_congr h)
theorem filter_all (n : Nat) : (List.range n).filter (fun _ => true) = List.range n := List.filter_eq_self.mpr fun _ _ => rfl
def Sm (q : Rat) : Prop := Bd 4499 q

local macro_rules | `(tactic| walk_at "q_kind") => `(tactic| first | exact .inl rfl | exact .inr ⟨rfl, by show _ ∈ ownCells _; decide +kernel, rfl⟩)
local macro_rules | `(tactic| walk_at "q_cap1") => `(tactic| first | with_reducible exact Cap.nil | (refine Cap.skip (m₀ := ?qm) ?qn ?qr; (case qn => rfl); (case qr => walk_at "q_cap1")) | ((with_reducible refine Cap.drop ?_); walk_at "q_cap1"))
local macro_rules | `(tactic| walk_at "q_cap") => `(tactic| (dsimp only; walk_at "q_cap1"))
section
variable {prog : Program} {w : World} {base : Heap} {mg mb : Str → Option Value}

section
variable {A : Around} {env : Env} {J : Inv}
theorem EV_lenL (G : Gl base mg mb) {e : Expr} {p pos : Pos} {n : Nat} {g : Nat → RV} (h : EV prog w base A env J e (rL n g)) (hsz : n ≤ 1000) (hk : env.scope.kind = .function) (hx : env.kindOf "len" = some .globalImplicit) (hg : env.globals = mainGlobals) (hg' : env.builtins = builtinsNs)
    (he : starEach [e] env = [(false, eval e env)] := by rfl) : EV prog w base A env J (.Call (.Name "len" p) [e] [] pos) (rInt (n : Int)) :=
  (EV_len G h (by rw [rl_len]; omega) hk hx hg hg' he).conv (by rw [rl_len])
theorem EV_itemL {value slice : Expr} {pos : Pos} {n : Nat} {g : Nat → RV} {k : Nat} (hv : EV prog w base A env J value (rL n g)) (hs : EV prog w base A env J slice (rInt (k : Int))) (hx : k < n) (hn : n ≤ 1000)
    (hsb : ∀ o i, subscripted slice false o i = operate [o, i] (getItem o i) := by intros; rfl) : EV prog w base A env J (.Subscript value slice pos) (g k) :=
  EV_item hv hs (by omega) (by rw [Int.toNat_natCast]; exact rl_get hx) (by omega) hsb
theorem EV_itemK {value : Expr} {pos pp : Pos} {kk : Nat} {n : Nat} {g : Nat → RV} {i : Int} (hv : EV prog w base A env J value (rL n g)) (h0 : 0 ≤ i) (hx : i.toNat < n) (hn : n ≤ 1000)
    (hsb : ∀ o j, subscripted (.Constant (.int i) kk pp) false o j = operate [o, j] (getItem o j) := by intros; rfl) : EV prog w base A env J (.Subscript value (.Constant (.int i) kk pp) pos) (g i.toNat) :=
  EV_item hv EV_int h0 (rl_get hx) (by omega) hsb
/-- comprehensions over one name, and over two -/
theorem EVN_comp1 {elt iter target : Expr} {scope : Scope} {pos : Pos} {n : Nat} {x : Str} {V : Nat → RV} {m₀ : List (Str × Value)} (Re : Nat → RV)
    (hsrc : SRC prog w base A env J target iter n [x] (fun i => [V i])) (hn : n ≤ 1000) (hcap : Cap scope J.m m₀)
    (elts : ∀ C k i v, i < n → EVN prog w base A (cEnv scope env C k) ⟨ownCells scope, (x, v) :: m₀, (v, V i) :: J.D, J.Mu, J.X, J.S⟩ elt (Re i))
    (hok : compOk env.cells scope [x] = true := by rfl) (hkind : scope.kind = .function := by rfl) (hs : ∀ x, foldedSetIterable iter env x = pure x := by intro _; rfl) :
    EVN prog w base A env J (.ListComp elt [⟨target, iter, [], 0⟩] scope pos) (rL n Re) := by
  have := EVN_comp (pos := pos) (fun _ => true) Re hsrc hn hok hcap (fun _ _ _ _ _ _ => ETs_nil) (fun C k i vs hi _ hl => by match vs, hl with | [v], _ => exact elts C k i v hi) hkind hs
  rwa [filter_all] at this
theorem EVN_comp2 {elt iter target : Expr} {scope : Scope} {pos : Pos} {n : Nat} {x y : Str} {V U : Nat → RV} {m₀ : List (Str × Value)} (Re : Nat → RV)
    (hsrc : SRC prog w base A env J target iter n [x, y] (fun i => [V i, U i])) (hn : n ≤ 1000) (hcap : Cap scope J.m m₀)
    (elts : ∀ C k i v u, i < n → EVN prog w base A (cEnv scope env C k) ⟨ownCells scope, (x, v) :: (y, u) :: m₀, (v, V i) :: (u, U i) :: J.D, J.Mu, J.X, J.S⟩ elt (Re i))
    (hok : compOk env.cells scope [x, y] = true := by rfl) (hkind : scope.kind = .function := by rfl) (hs : ∀ x, foldedSetIterable iter env x = pure x := by intro _; rfl) :
    EVN prog w base A env J (.ListComp elt [⟨target, iter, [], 0⟩] scope pos) (rL n Re) := by
  have := EVN_comp (pos := pos) (fun _ => true) Re hsrc hn hok hcap (fun _ _ _ _ _ _ => ETs_nil) (fun C k i vs hi _ hl => by match vs, hl with | [v, u], _ => exact elts C k i v u hi) hkind hs
  rwa [filter_all] at this
end

theorem shape_pc (G : Gl base mg mb) (r c : Nat) (g : Nat → Nat → RV) (h0 : 0 < r) (hr : r ≤ 1000) (hc : c ≤ 1000) : PC prog w base mg "shape" 1 [rL r fun i => rL c (g i)] (rTup [rInt r, rInt c]) := by
  refine PC_intro1 G (k := 14) rfl "a" fun A L fa cd q v S hA => ?_
  refine ST_retF (EV_tuple (EVs_cons (EV_lenL G (n := r) (g := fun i => rL c (g i)) ?_ hr rfl rfl rfl rfl) (EVs_cons (EV_if (c := true) ?_ (fun _ => EV_lenL G (n := c) (g := g 0) (EV_itemK (i := 0) (g := fun i => rL c (g i)) ?_ (by decide) h0 hr) hc rfl rfl rfl rfl) (fun h => nomatch h)) EVs_nil))) rfl ?_
  · walk_at "q_name"
  · exact (ET_of (R := rInt r) (EV_lenL G (n := r) (g := fun i => rL c (g i)) (by walk_at "q_name") hr rfl rfl rfl rfl) EV_int cmp_gt).conv (by simp; omega)
  · walk_at "q_name"
  · exact rTup_free fun R hm => by
      rcases List.mem_cons.mp hm with rfl | hm
      · exact rInt_free _
      · rw [List.mem_singleton.mp hm]; exact rInt_free _
theorem need_shape_pc (G : Gl base mg mb) : PC prog w base mg "need_shape" 1 [rBool true, rAny] rNone := by
  refine PC_intro2 G (k := 15) rfl "is_right" "text" fun A L fa cd q v u S hA => ?_
  refine ST_skip (c := !true) (ET_not (ET_name ?_)) rfl (ST_nil fun B hp a => ⟨a.fm.keep, rfl⟩)
  walk_at "q_name"
theorem copied_pc (G : Gl base mg mb) (r c : Nat) (f : Nat → Nat → Rat) (hr : r ≤ 1000) (hc : c ≤ 1000) : PC prog w base mg "copied" 1 [rM r c f] (rM r c f) := by
  refine PC_intro1 G (k := 16) rfl "a" fun A L fa cd q v S hA => ?_
  refine ST_retN (EVN_comp1 (m₀ := ?m) (fun i => rV c (f i)) (SRC_list (V := fun i => rV c (f i)) hA.hh ?s rl_len fun i hi => rl_get hi) hr ?cap fun C k i v hi => ?e)
  case s => walk_at "q_name"
  case cap => walk_at "q_cap"
  case e =>
      refine (EVL_list G ?_ (by rw [rl_len]; exact hc) rfl rfl rfl rfl).evn fun R hm => ?_
      · walk_at "q_name"
      · obtain ⟨i, _, rfl⟩ := List.mem_map.mp hm; exact rRat_free _
theorem from_whole_pc (G : Gl base mg mb) (r c : Nat) (f : Nat → Nat → Int) (hr : r ≤ 1000) (hc : c ≤ 1000) : PC prog w base mg "from_whole" 1 [rMI r c f] (rM r c fun i j => ((f i j : Int) : Rat)) := by
  refine PC_intro1 G (k := 17) rfl "a" fun A L fa cd q v S hA => ?_
  refine ST_retN (EVN_comp1 (m₀ := ?m) (fun i => rV c fun j => ((f i j : Int) : Rat)) (SRC_list (V := fun i => rVI c (f i)) hA.hh ?s rl_len fun i hi => rl_get hi) hr ?cap fun C k i v hi => ?e)
  case s => walk_at "q_name"
  case cap => walk_at "q_cap"
  case e =>
      refine EVN_comp1 (m₀ := ?m2) (fun j => rRat ((f i j : Int) : Rat)) (SRC_list (V := fun j => rInt (f i j)) hA.hh ?s2 rl_len fun i hi => rl_get hi) hc ?cap2 fun C2 k2 j u hj => ?e2
      case s2 => walk_at "q_name"
      case cap2 => walk_at "q_cap"
      case e2 =>
          refine (EV.conv (R := rTup [rInt (f i j), rInt 1]) (R' := rRat ((f i j : Int) : Rat)) ?_ rfl).new (rRat_free _)
          walk_at "q_ev"
theorem unit_matrix_pc (G : Gl base mg mb) (n : Nat) (hn : n ≤ 1000) : PC prog w base mg "unit_matrix" 1 [rInt n] (rM n n fun i j => if i = j then 1 else 0) := by
  refine PC_intro1 G (k := 18) rfl "n" fun A L fa cd q v S hA => ?_
  refine ST_retN (EVN_comp1 (m₀ := ?m) (fun i => rV n fun j => if i = j then 1 else 0) (SRC_range G (k₀ := n) hA.hh ?s (by omega) (by omega) (by omega) rfl rfl rfl rfl) hn ?cap fun C k i v hi => ?e)
  case s => walk_at "q_name"
  case cap => walk_at "q_cap"
  case e =>
      refine EVN_comp1 (m₀ := ?m2) (fun j => rRat (if i = j then 1 else 0)) (SRC_range G (k₀ := n) hA.hh ?s2 (by omega) (by omega) (by omega) rfl rfl rfl rfl) hn ?cap2 fun C2 k2 j u hj => ?e2
      case s2 => walk_at "q_name"
      case cap2 => walk_at "q_cap"
      case e2 =>
          refine (EV_if (c := decide (i = j)) ?_ (fun h => ?_) (fun h => ?_)).new (rRat_free _)
          · refine (ET_of (R := rInt i) (S := rInt j) ?_ ?_ cmp_eq).conv (by rw [decide_eq_decide]; omega)
            · walk_at "q_name"
            · walk_at "q_name"
          · rw [if_pos (by simpa using h)]; exact EV_R1 G rfl rfl rfl
          · rw [if_neg (by simpa using h)]; exact EV_R0 G rfl rfl rfl
end

def sumN : Nat → (Nat → Rat) → Rat
  | 0, _ => 0
  | n + 1, f => sumN n f + f n

section
variable {prog : Program} {w : World} {base : Heap} {mg mb : Str → Option Value} {A : Around} {env : Env} {J : Inv}
def KtMono (K : Kt) : Prop := ∀ B B' v h, (∀ a o, B a = some o → B' a = some o) → K B' (.ret v) h → K B (.ret v) h
theorem kr_mono {S : Addr → Prop} {R : RV} : KtMono (Kr S R) := fun B B' f h hs x => ⟨fun a o e => x.1 a o (hs a o e), x.2⟩
theorem km_mono {S X : Addr → Prop} {post : List (Addr × List RV)} {R : RV} : KtMono (Km S X post R) := fun B B' f h hs x => ⟨fun a o e => x.1 a o (hs a o e), x.2⟩
theorem kw_mono {Fam : Inv → Prop} {K : Kt} (h : KtMono K) : KtMono (Kw base env Fam K) := fun B B' v hp hs x => h B B' v hp hs x
section
variable {target iter : Expr} {body rest : List Stmt} {pos : Pos} {K : Kt} {n : Nat} {x y : Str} {V U : Nat → RV}
theorem ST_for1 (hsrc : SRC prog w base A env J target iter n [x] fun i => [V i]) (Fam : Nat → Inv → Prop) (h0 : Fam 0 J)
    (hF : ∀ i J', Fam i J' → SameHand J J') (hK : KtMono K) (hk : env.scope.kind = .function) (hO : StoreOk env J.O [x])
    (turn : ∀ i J', i < n → Fam i J' → ∃ m₀, Drop [x] J'.m m₀ ∧ ∀ v, ST prog w base A env { J' with m := (x, v) :: m₀, D := (v, V i) :: J'.D } body (Kw base env (Fam (i + 1)) K))
    (fin : ∀ J', Fam n J' → ST prog w base A env J' rest K)
    (hs : ∀ x, foldedSetIterable iter env x = pure x := by intro _; rfl) : ST prog w base A env J (.For target iter body [] pos :: rest) K :=
  ST_for hsrc Fam h0 hF hk (fun i J' hi hFi => let ⟨m₀, hd, ht⟩ := turn i J' hi hFi; ⟨m₀, hd, hO, fun vs hl => by match vs, hl with | [v], _ => exact ht v⟩) hK fin hs
theorem ST_for2 (hsrc : SRC prog w base A env J target iter n [x, y] fun i => [V i, U i]) (Fam : Nat → Inv → Prop) (h0 : Fam 0 J)
    (hF : ∀ i J', Fam i J' → SameHand J J') (hK : KtMono K) (hk : env.scope.kind = .function) (hO : StoreOk env J.O [x, y])
    (turn : ∀ i J', i < n → Fam i J' → ∃ m₀, Drop [x, y] J'.m m₀ ∧ ∀ v u, ST prog w base A env { J' with m := (x, v) :: (y, u) :: m₀, D := (v, V i) :: (u, U i) :: J'.D } body (Kw base env (Fam (i + 1)) K))
    (fin : ∀ J', Fam n J' → ST prog w base A env J' rest K)
    (hs : ∀ x, foldedSetIterable iter env x = pure x := by intro _; rfl) : ST prog w base A env J (.For target iter body [] pos :: rest) K :=
  ST_for hsrc Fam h0 hF hk (fun i J' hi hFi => let ⟨m₀, hd, ht⟩ := turn i J' hi hFi; ⟨m₀, hd, hO, fun vs hl => by match vs, hl with | [v, u], _ => exact ht v u⟩) hK fin hs
end
theorem SRC_listL (n : Nat) (g : Nat → RV) {x : Str} {px : Pos} {iter : Expr} (hh : A.handled = none) (he : EV prog w base A env J iter (rL n g)) : SRC prog w base A env J (.Name x px) iter n [x] (fun i => [g i]) := SRC_list hh he rl_len fun i hi => rl_get hi
theorem SRC_enumL (G : Gl base mg mb) (n : Nat) (g : Nat → RV) {x y : Str} {px py pt p pos : Pos} {k1 : Nat} {e : Expr} (hh : A.handled = none) (he : EV prog w base A env J e (rL n g)) (hk : env.scope.kind = .function) (hx : env.kindOf "enumerate" = some .globalImplicit) (hg : env.globals = mainGlobals) (hg' : env.builtins = builtinsNs)
    (hxy : y ≠ x := by decide) (hs : starEach [e] env = [(false, eval e env)] := by rfl) : SRC prog w base A env J (.Tuple [.Name x px, .Name y py] k1 pt) (.Call (.Name "enumerate" p) [e] [] pos) n [x, y] (fun i => [rInt (i : Int), g i]) := SRC_enum G hh he rl_len (fun i hi => rl_get hi) hk hx hg hg' hxy hs
theorem SRC_rangeL (G : Gl base mg mb) (n : Nat) {x : Str} {px p pos : Pos} {e : Expr} (hh : A.handled = none) (he : EV prog w base A env J e (rInt (n : Int))) (hn : n ≤ 1000) (hk : env.scope.kind = .function) (hx : env.kindOf "range" = some .globalImplicit) (hg : env.globals = mainGlobals) (hg' : env.builtins = builtinsNs)
    (hs : starEach [e] env = [(false, eval e env)] := by rfl) : SRC prog w base A env J (.Name x px) (.Call (.Name "range" p) [e] [] pos) n [x] (fun i => [rInt (i : Int)]) := SRC_range G hh he (by omega) (by omega) (by omega) hk hx hg hg' hs
theorem store1 {O : List Str} {x : Str} (h : env.kindOf x = some .local ∨ (env.kindOf x = some .cell ∧ x ∈ O ∧ (env.cells.lookup x).isSome = true)) : StoreOk env O [x] := fun y hy => by rw [List.mem_singleton.mp hy]; exact h
theorem store2 {O : List Str} {x y : Str} (h : env.kindOf x = some .local ∨ (env.kindOf x = some .cell ∧ x ∈ O ∧ (env.cells.lookup x).isSome = true)) (h' : env.kindOf y = some .local ∨ (env.kindOf y = some .cell ∧ y ∈ O ∧ (env.cells.lookup y).isSome = true)) : StoreOk env O [x, y] := fun z hz => by
  rcases List.mem_cons.mp hz with rfl | hz
  · exact h
  · rw [List.mem_singleton.mp hz]; exact h'
end

section
variable {prog : Program} {w : World} {base : Heap} {mg mb : Str → Option Value}
theorem transposed_pc (G : Gl base mg mb) (r c : Nat) (f : Nat → Nat → Rat) (h0 : 0 < r) (hr : r ≤ 1000) (hc : c ≤ 1000) : PC prog w base mg "transposed" 2 [rM r c f] (rM c r fun j i => f i j) := by
  refine PC_intro1 G (k := 19) rfl "a" fun A L fa cd q v S hA => ?_
  refine ST_retN (EVN_comp1 (m₀ := ?m) (fun j => rV r fun i => f i j) (SRC_rangeL G c hA.hh (EV_part (EVN_call G (shape_pc G r c (fun i j => rRat (f i j)) h0 hr hc) hA (EVs_cons ?s EVs_nil) rfl rfl rfl).ev EV_int (by decide) rfl) hc rfl rfl rfl rfl) hc ?cap fun C k j v hj => ?e)
  case s => walk_at "q_name"
  case cap => walk_at "q_cap"
  case e =>
    refine EVN_comp1 (m₀ := ?m2) (fun i => rRat (f i j)) (SRC_listL r (fun i => rV c (f i)) hA.hh ?s2) hr ?cap2 fun C2 k2 i u hi => ?e2
    case s2 => walk_at "q_name"
    case cap2 => walk_at "q_cap"
    case e2 =>
      refine (EV_itemL (n := c) (g := fun j => rRat (f i j)) (k := j) ?_ ?_ hj hc).new (rRat_free _)
      · walk_at "q_name"
      · walk_at "q_name"

def DotOk (n : Nat) (f g : Nat → Rat) : Prop := ∀ k, k < n → Sm (f k) ∧ Sm (g k) ∧ Sm (f k * g k) ∧ Sm (sumN k fun k => f k * g k)
theorem dot_pc (G : Gl base mg mb) (n : Nat) (f g : Nat → Rat) (hn : n ≤ 1000) (ok : DotOk n f g) : PC prog w base mg "dot" 4 [rV n f, rV n g] (rRat (sumN n fun k => f k * g k)) := by
  refine PC_intro2 G (k := 20) rfl "one" "other" fun A L fa cd q v u S hA => ?_
  refine ST_set (EV_R0 G rfl rfl rfl) (m₀ := ?m) ?cap rfl (.inl rfl) fun z => ?_
  case cap => walk_at "q_drop"
  refine ST_for2 (SRC_enumL G n (fun i => rRat (f i)) hA.hh ?s rfl rfl rfl rfl) (fun i J => ∃ z, J = ⟨ownCells _, [("found", z), ("one", v), ("other", u)], [(z, rRat (sumN i fun k => f k * g k)), (v, rV n f), (u, rV n g)], [], fun _ => False, S⟩) ⟨z, rfl⟩ (fun i J' ⟨z, e⟩ => e ▸ ⟨rfl, rfl, rfl, rfl⟩) kr_mono rfl (store2 (.inl rfl) (.inl rfl)) ?turn ?fin
  case s => walk_at "q_name"
  case turn =>
    rintro i _ hi ⟨z, rfl⟩
    refine ⟨?w, ?d, fun p l => ?b⟩
    case d => walk_at "q_drop"
    case b =>
      obtain ⟨o1, o2, o3, o4⟩ := ok i hi
      refine ST_set (EV.conv (R' := rRat (sumN (i + 1) fun k => f k * g k)) (EVN_call G (radd_pc G _ _ 4499 4499 o4 o3 (by omega)) hA (EVs_cons ?a1 (EVs_cons (EVN_call G (rmul_pc G _ _ 4499 4499 o1 o2 (by omega)) hA (EVs_cons ?a2 (EVs_cons (EV_itemL (n := n) (g := fun i => rRat (g i)) (k := i) ?a3 ?a4 hi hn) EVs_nil)) rfl rfl rfl).ev EVs_nil)) rfl rfl rfl).ev rfl) (m₀ := ?m2) ?cap2 rfl (.inl rfl) fun z => ?_
      case a1 => walk_at "q_name"
      case a2 => walk_at "q_name"
      case a3 => walk_at "q_name"
      case a4 => walk_at "q_name"
      case cap2 => walk_at "q_drop"
      refine ST_nil fun B hp a' => ⟨_, ⟨z, rfl⟩, ?_⟩
      refine At.less a' ?_ ?_
      · walk_at "q_sub"
      · walk_at "q_sub"
  case fin =>
    rintro _ ⟨z, rfl⟩
    refine ST_retF (R' := rRat (sumN n fun k => f k * g k)) ?_ rfl (rRat_free _)
    walk_at "q_name"
end

section
variable {A : Around} {n : Nat}
theorem Rm.cmp (h : Rm A (n + 1)) : A.units + 9 < cLine := by have := h.hu; omega
end
section
variable {prog : Program} {w : World} {base : Heap} {mg mb : Str → Option Value}
theorem eqv_ints2 (a b : Int) : PyData.eqv (.tuple [.int a, .int b]) (.tuple [.int a, .int b]) = true := by simp [PyData.eqv, PyData.eqvAll]
theorem Rd_pair (a b : Int) : Rd (rTup [rInt a, rInt b]) (.tuple [.int a, .int b]) := Rd_tup ⟨Rd_int _, Rd_int _, trivial⟩
theorem mat_add_pc (G : Gl base mg mb) (r c : Nat) (f g : Nat → Nat → Rat) (h0 : 0 < r) (hr : r ≤ 1000) (hc : c ≤ 1000) (ok : ∀ i j, i < r → j < c → Sm (f i j) ∧ Sm (g i j)) : PC prog w base mg "mat_add" 4 [rM r c f, rM r c g] (rM r c fun i j => f i j + g i j) := by
  refine PC_intro2 G (k := 21) rfl "a" "b" fun A L fa cd q v u S hA => ?_
  refine ST_expr (EVN_call G (need_shape_pc G) (hA.le (by decide)) (EVs_cons (EV.conv (R' := rBool true) (EV_of (EVN_call G (shape_pc G r c (fun i j => rRat (f i j)) h0 hr hc) (hA.le (by decide)) (EVs_cons ?s1 EVs_nil) rfl rfl rfl).ev (EVN_call G (shape_pc G r c (fun i j => rRat (g i j)) h0 hr hc) (hA.le (by decide)) (EVs_cons ?s2 EVs_nil) rfl rfl rfl).ev
    (cmp_eqD (Rd_pair _ _) (Rd_pair _ _) hA.cmp (by simp [PyData.depth, PyData.depthAll]))) (by rw [eqv_ints2])) (EVs_cons EV_str EVs_nil)) rfl rfl rfl).ev ?rest
  case s1 => walk_at "q_name"
  case s2 => walk_at "q_name"
  case rest =>
  refine ST_retN (EVN_comp2 (m₀ := ?m) (fun i => rV c fun j => f i j + g i j) (SRC_enumL G r (fun i => rV c (f i)) hA.hh ?s rfl rfl rfl rfl) hr ?cap fun C k i x y hi => ?e)
  case s => walk_at "q_name"
  case cap => walk_at "q_cap"
  case e =>
    refine EVN_comp2 (m₀ := ?m2) (fun j => rRat (f i j + g i j)) (SRC_enumL G c (fun j => rRat (f i j)) hA.hh ?s2 rfl rfl rfl rfl) hc ?cap2 fun C2 k2 j z t hj => ?e2
    case s2 => walk_at "q_name"
    case cap2 => walk_at "q_cap"
    case e2 =>
      obtain ⟨o1, o2⟩ := ok i j hi hj
      refine EVN_call G (radd_pc G _ _ 4499 4499 o1 o2 (by omega)) hA (EVs_cons ?a1 (EVs_cons (EV_itemL (n := c) (g := fun j => rRat (g i j)) (k := j) (EV_itemL (n := r) (g := fun i => rV c (g i)) (k := i) ?a2 ?a3 hi hr) ?a4 hj hc) EVs_nil)) rfl rfl rfl
      case a1 => walk_at "q_name"
      case a2 => walk_at "q_name"
      case a3 => walk_at "q_name"
      case a4 => walk_at "q_name"
theorem mat_scale_pc (G : Gl base mg mb) (r c : Nat) (f : Nat → Nat → Rat) (p : Rat) (hr : r ≤ 1000) (hc : c ≤ 1000) (hp : Sm p) (ok : ∀ i j, i < r → j < c → Sm (f i j)) : PC prog w base mg "mat_scale" 4 [rM r c f, rRat p] (rM r c fun i j => f i j * p) := by
  refine PC_intro2 G (k := 22) rfl "a" "number" fun A L fa cd q v u S hA => ?_
  refine ST_retN (EVN_comp1 (m₀ := ?m) (fun i => rV c fun j => f i j * p) (SRC_listL r (fun i => rV c (f i)) hA.hh ?s) hr ?cap fun C k i x hi => ?e)
  case s => walk_at "q_name"
  case cap => walk_at "q_cap"
  case e =>
    refine EVN_comp1 (m₀ := ?m2) (fun j => rRat (f i j * p)) (SRC_listL c (fun j => rRat (f i j)) hA.hh ?s2) hc ?cap2 fun C2 k2 j z hj => ?e2
    case s2 => walk_at "q_name"
    case cap2 => walk_at "q_cap"
    case e2 =>
      refine EVN_call G (rmul_pc G _ _ 4499 4499 (ok i j hi hj) hp (by omega)) hA (EVs_cons ?a1 (EVs_cons ?a2 EVs_nil)) rfl rfl rfl
      case a1 => walk_at "q_name"
      case a2 => walk_at "q_name"
theorem mat_mul_pc (G : Gl base mg mb) (r n c : Nat) (f g : Nat → Nat → Rat) (h0 : 0 < r) (h1 : 0 < n) (hr : r ≤ 1000) (hn : n ≤ 1000) (hc : c ≤ 1000) (ok : ∀ i j, i < r → j < c → DotOk n (f i) (fun k => g k j)) :
    PC prog w base mg "mat_mul" 5 [rM r n f, rM n c g] (rM r c fun i j => sumN n fun k => f i k * g k j) := by
  refine PC_intro2 G (k := 23) rfl "a" "b" fun A L fa cd q v u S hA => ?_
  refine ST_expr (EVN_call G (need_shape_pc G) (hA.le (by decide)) (EVs_cons (EV.conv (R' := rBool true) (EV_of (EV_part (EVN_call G (shape_pc G r n (fun i j => rRat (f i j)) h0 hr hn) (hA.le (by decide)) (EVs_cons ?s1 EVs_nil) rfl rfl rfl).ev EV_int (by decide) rfl) (EV_lenL G (n := n) (g := fun i => rV c (g i)) ?s2 hn rfl rfl rfl rfl) cmp_eq) (by simp)) (EVs_cons EV_str EVs_nil)) rfl rfl rfl).ev ?rest
  case s1 => walk_at "q_name"
  case s2 => walk_at "q_name"
  case rest =>
  refine ST_set (EVN_call G (transposed_pc G n c g h1 hn hc) (hA.le (by decide)) (EVs_cons ?s3 EVs_nil) rfl rfl rfl).ev (m₀ := ?m3) ?cap3 rfl (.inr ⟨rfl, by show _ ∈ ownCells _; decide +kernel, rfl⟩) fun z => ?rest2
  case s3 => walk_at "q_name"
  case cap3 => walk_at "q_drop"
  case rest2 =>
  refine ST_retN (EVN_comp1 (m₀ := ?m) (fun i => rV c fun j => sumN n fun k => f i k * g k j) (SRC_listL r (fun i => rV n (f i)) hA.hh ?s) hr ?cap fun C k i x hi => ?e)
  case s => walk_at "q_name"
  case cap => walk_at "q_cap"
  case e =>
    refine EVN_comp1 (m₀ := ?m2) (fun j => rRat (sumN n fun k => f i k * g k j)) (SRC_listL c (fun j => rV n fun k => g k j) hA.hh ?s2) hc ?cap2 fun C2 k2 j z hj => ?e2
    case s2 => walk_at "q_name"
    case cap2 => walk_at "q_cap"
    case e2 =>
      refine EVN_call G (dot_pc G n (f i) (fun k => g k j) hn (ok i j hi hj)) hA (EVs_cons ?a1 (EVs_cons ?a2 EVs_nil)) rfl rfl rfl
      case a1 => walk_at "q_name"
      case a2 => walk_at "q_name"
theorem trace_pc (G : Gl base mg mb) (n : Nat) (f : Nat → Nat → Rat) (hn : n ≤ 1000) (ok : ∀ i, i < n → Sm (f i i) ∧ Sm (sumN i fun k => f k k)) : PC prog w base mg "trace" 4 [rM n n f] (rRat (sumN n fun k => f k k)) := by
  refine PC_intro1 G (k := 24) rfl "a" fun A L fa cd q v S hA => ?_
  refine ST_set (EV_R0 G rfl rfl rfl) (m₀ := ?m) ?cap rfl (.inl rfl) fun z => ?_
  case cap => walk_at "q_drop"
  refine ST_for1 (SRC_rangeL G n hA.hh (EV_lenL G (n := n) (g := fun i => rV n (f i)) ?s hn rfl rfl rfl rfl) hn rfl rfl rfl rfl) (fun i J => ∃ z, J = ⟨ownCells _, [("found", z), ("a", v)], [(z, rRat (sumN i fun k => f k k)), (v, rM n n f)], [], fun _ => False, S⟩) ⟨z, rfl⟩ (fun i J' ⟨z, e⟩ => e ▸ ⟨rfl, rfl, rfl, rfl⟩) kr_mono rfl (store1 (.inl rfl)) ?turn ?fin
  case s => walk_at "q_name"
  case turn =>
    rintro i _ hi ⟨z, rfl⟩
    refine ⟨?w, ?d, fun p => ?b⟩
    case d => walk_at "q_drop"
    case b =>
      obtain ⟨o1, o2⟩ := ok i hi
      refine ST_set (EV.conv (R' := rRat (sumN (i + 1) fun k => f k k)) (EVN_call G (radd_pc G _ _ 4499 4499 o2 o1 (by omega)) hA (EVs_cons ?a1 (EVs_cons (EV_itemL (n := n) (g := fun j => rRat (f i j)) (k := i) (EV_itemL (n := n) (g := fun i => rV n (f i)) (k := i) ?a2 ?a3 hi hn) ?a4 hi hn) EVs_nil)) rfl rfl rfl).ev rfl) (m₀ := ?m2) ?cap2 rfl (.inl rfl) fun z => ?_
      case a1 => walk_at "q_name"
      case a2 => walk_at "q_name"
      case a3 => walk_at "q_name"
      case a4 => walk_at "q_name"
      case cap2 => walk_at "q_drop"
      refine ST_nil fun B hp a' => ⟨_, ⟨z, rfl⟩, ?_⟩
      refine At.less a' ?_ ?_
      · walk_at "q_sub"
      · walk_at "q_sub"
  case fin =>
    rintro _ ⟨z, rfl⟩
    refine ST_retF (R' := rRat (sumN n fun k => f k k)) ?_ rfl (rRat_free _)
    walk_at "q_name"
end

theorem EVN.conv {prog : Program} {w : World} {base : Heap} {A : Around} {env : Env} {J : Inv} {e : Expr} {R R' : RV} (h : EVN prog w base A env J e R) (hR : R = R') : EVN prog w base A env J e R' := hR ▸ h

/-! ## what charpoly and poly_of_matrix compute -/
def un (r c : Nat) : Rat := if r = c then 1 else 0
mutual
def flP (f : Nat → Nat → Rat) (n : Nat) : Nat → Nat → Nat → Rat
  | 0, r, c => un r c
  | i + 1, r, c => (sumN n fun k => f r k * flP f n i k c) + un r c * flN f n i
def flN (f : Nat → Nat → Rat) (n : Nat) : Nat → Rat
  | i => -((sumN n fun k => sumN n fun l => f k l * flP f n i l k) / ((i + 1 : Nat) : Rat))
end
def flM (f : Nat → Nat → Rat) (n i r c : Nat) : Rat := sumN n fun k => f r k * flP f n i k c
theorem flP_zero (f : Nat → Nat → Rat) (n r c : Nat) : flP f n 0 r c = un r c := by rw [flP]
theorem flP_succ (f : Nat → Nat → Rat) (n i r c : Nat) : flP f n (i + 1) r c = flM f n i r c + un r c * flN f n i := by rw [flP]; rfl
theorem flN_eq (f : Nat → Nat → Rat) (n i : Nat) : flN f n i = -((sumN n fun k => flM f n i k k) / ((i + 1 : Nat) : Rat)) := by rw [flN]; rfl
/-- the polynomial, from its constant part on -/
def cpAt (f : Nat → Nat → Rat) (n i : Nat) : Rat := if i = n then 1 else flN f n (n - 1 - i)
def hor (f : Nat → Nat → Rat) (n : Nat) (p : Nat → Rat) (d : Nat) : Nat → Nat → Nat → Rat
  | 0, r, c => un r c * 0
  | i + 1, r, c => (sumN n fun k => hor f n p d i r k * f k c) + un r c * p (d - 1 - i)

structure CpOk (f : Nat → Nat → Rat) (n : Nat) : Prop where
  mul : ∀ i, i < n → ∀ r c, r < n → c < n → DotOk n (f r) (fun k => flP f n i k c)
  tr : ∀ i, i < n → ∀ k, k < n → Sm (flM f n i k k) ∧ Sm (sumN k fun l => flM f n i l l)
  div : ∀ i, i < n → Sm (sumN n fun k => flM f n i k k) ∧ Sm ((i + 1 : Nat) : Rat)
  num : ∀ i, i < n → Sm (flN f n i)
  un : ∀ r c, Sm (un r c)
  add : ∀ i, i < n → ∀ r c, r < n → c < n → Sm (flM f n i r c) ∧ Sm (Mine.un r c * flN f n i)
structure HorOk (f : Nat → Nat → Rat) (n : Nat) (p : Nat → Rat) (d : Nat) : Prop where
  zero : Sm 0
  un : ∀ r c, Sm (un r c)
  mul : ∀ i, i < d → ∀ r c, r < n → c < n → DotOk n (hor f n p d i r) (fun k => f k c)
  num : ∀ i, i < d → Sm (p (d - 1 - i))
  add : ∀ i, i < d → ∀ r c, r < n → c < n → Sm (sumN n fun k => hor f n p d i r k * f k c) ∧ Sm (Mine.un r c * p (d - 1 - i))

theorem range_rev {α : Type} (n : Nat) (g : Nat → α) : ((List.range n).map g).reverse = (List.range n).map fun i => g (n - 1 - i) := by
  apply List.ext_getElem
  · simp
  · intro i h1 h2; simp
theorem range_snoc {α : Type} (n : Nat) (g : Nat → α) : (List.range n).map g ++ [g n] = (List.range (n + 1)).map g := by rw [List.range_succ, List.map_append]; rfl
theorem range_add {α : Type} (a b : Nat) (g : Nat → α) : (List.range a).map g ++ (List.range b).map (fun j => g (a + j)) = (List.range (a + b)).map g := by
  rw [List.range_add, List.map_append, List.map_map]; rfl

section
variable {prog : Program} {w : World} {base : Heap} {mg mb : Str → Option Value}
theorem flat_pc (G : Gl base mg mb) (r c : Nat) (f : Nat → Nat → Rat) (hr : r ≤ 1000) (hc : c ≤ 1000) (hrc : r * c ≤ 1000) : PC prog w base mg "flat" 1 [rM r c f] (rL (r * c) fun k => rRat (f (k / c) (k % c))) := by
  refine PC_intro1 G (k := 31) rfl "a" fun A L fa cd q v S hA => ?_
  refine ST_setOwn (EVN_list EVs_nil (fun R hm => nomatch hm)) (selfless_free fun R hm => nomatch hm) (m₀ := ?m) ?cap rfl (.inl rfl) fun b nb => ?_
  case cap => walk_at "q_drop"
  refine ST_for1 (SRC_listL r (fun i => rV c (f i)) hA.hh ?s) (fun i J => J = ⟨ownCells _, [("found", .ref b), ("a", v)], [(v, rM r c f)], [(b, (List.range (i * c)).map fun k => rRat (f (k / c) (k % c)))], fun d => False ∨ d = b, S⟩) (by simp) (fun i J' e => e ▸ ⟨rfl, rfl, rfl, rfl⟩) kr_mono rfl (store1 (.inl rfl)) ?turn ?fin
  case s => walk_at "q_name"
  case turn =>
    rintro i _ hi rfl
    refine ⟨?w, ?d, fun p => ?b⟩
    case d => walk_at "q_drop"
    case b =>
      have hic : (i + 1) * c ≤ r * c := Nat.mul_le_mul_right c hi
      have e1 : (i + 1) * c = i * c + c := Nat.succ_mul i c
      refine ST_extend (b := b) (EV_localV ?a1 rfl rfl) PutMu.hd (Ss := (List.range c).map fun j => rRat (f i j)) ?a2 (by rw [rl_len, rl_len]; omega) (ST_nil fun B hp a' => ?_)
      case a1 => (dsimp only; walk_at "q_mem")
      case a2 => walk_at "q_name"
      have e2 : (List.range (i * c)).map (fun k => rRat (f (k / c) (k % c))) ++ (List.range c).map (fun j => rRat (f i j)) = (List.range ((i + 1) * c)).map (fun k => rRat (f (k / c) (k % c))) := by
        rw [e1, ← range_add]
        congr 1
        refine rl_congr fun j hj => ?_
        have h0 : 0 < c := by omega
        rw [show (i * c + j) / c = i by rw [Nat.mul_comm, Nat.mul_add_div h0, Nat.div_eq_of_lt hj]; rfl, show (i * c + j) % c = j by rw [Nat.mul_comm, Nat.mul_add_mod, Nat.mod_eq_of_lt hj]]
      rw [e2] at a'
      refine ⟨_, rfl, At.less a' ?_ ?_⟩
      · walk_at "q_sub"
      · walk_at "q_sub"
  case fin =>
    rintro _ rfl
    refine ST_retMu (EV_localV (v := .ref b) ?a1 rfl rfl) (.head _) nb fun h vs r => all2_free (fun R hm => ?_) vs r
    case a1 => (dsimp only; walk_at "q_mem")
    obtain ⟨i, _, rfl⟩ := List.mem_map.mp hm; exact rRat_free _
theorem poly_of_matrix_pc (G : Gl base mg mb) (n d : Nat) (f : Nat → Nat → Rat) (p : Nat → Rat) (h0 : 0 < n) (hn : n ≤ 1000) (hd : d ≤ 1000) (ok : HorOk f n p d) : PC prog w base mg "poly_of_matrix" 6 [rL d fun i => rRat (p i), rM n n f] (rM n n (hor f n p d d)) := by
  refine PC_intro2 G (k := 30) rfl "polynomial" "a" fun A L fa cd q v u S hA => ?_
  refine ST_setN (EVN.conv (R' := rM n n (hor f n p d 0)) (EVN_call G (mat_scale_pc G n n un 0 hn hn ok.zero fun i j _ _ => ok.un i j) (hA.le (by decide)) (EVs_cons (EVN_call G (unit_matrix_pc G n hn) (hA.le (by decide)) (EVs_cons (EV_lenL G (n := n) (g := fun i => rV n (f i)) ?s1 hn rfl rfl rfl rfl) EVs_nil) rfl rfl rfl).ev (EVs_cons (EV_R0 G rfl rfl rfl) EVs_nil)) rfl rfl rfl) rfl) (m₀ := ?m) ?cap rfl (.inl rfl) fun z => ?_
  case s1 => walk_at "q_name"
  case cap => walk_at "q_drop"
  refine ST_less (m' := [("found", z), ("polynomial", v), ("a", u)]) (D' := [(z, rM n n (hor f n p d 0)), (z, rNew S (rM n n (hor f n p d 0))), (v, rL d fun i => rRat (p i)), (u, rM n n f)]) ?l1 ?l2 ?_
  case l1 => walk_at "q_sub"
  case l2 => walk_at "q_sub"
  refine ST_for1 (SRC_listL d (fun i => rRat (p (d - 1 - i))) hA.hh ((EVL_rev (Rs := (List.range d).map fun i => rRat (p i)) ?s2 (EV_neg EV_int) (by rw [rl_len]; exact hd)).conv (range_rev d _)).ev)
    (fun i J => ∃ z, J = ⟨ownCells _, [("found", z), ("polynomial", v), ("a", u)], [(z, rM n n (hor f n p d i)), (z, rNew S (rM n n (hor f n p d i))), (v, rL d fun i => rRat (p i)), (u, rM n n f)], [], fun _ => False, S⟩) ⟨z, rfl⟩ (fun i J' ⟨z, e⟩ => e ▸ ⟨rfl, rfl, rfl, rfl⟩) kr_mono rfl (store1 (.inl rfl)) ?turn ?fin
  case s2 => walk_at "q_name"
  case turn =>
    rintro i _ hi ⟨z, rfl⟩
    refine ⟨?w, ?d, fun l => ?b⟩
    case d => walk_at "q_drop"
    case b =>
      refine ST_setN (EVN.conv (R' := rM n n (hor f n p d (i + 1))) (EVN_call G (mat_add_pc G n n (fun r c => sumN n fun k => hor f n p d i r k * f k c) (fun r c => un r c * p (d - 1 - i)) h0 hn hn (ok.add i hi)) (hA.le (by decide)) (EVs_cons (EVN_call G (mat_mul_pc G n n n (hor f n p d i) f h0 h0 hn hn hn (ok.mul i hi)) hA (EVs_cons ?a1 (EVs_cons ?a2 EVs_nil)) rfl rfl rfl).ev
        (EVs_cons (EVN_call G (mat_scale_pc G n n un (p (d - 1 - i)) hn hn (ok.num i hi) fun i j _ _ => ok.un i j) (hA.le (by decide)) (EVs_cons (EVN_call G (unit_matrix_pc G n hn) (hA.le (by decide)) (EVs_cons (EV_lenL G (n := n) (g := fun i => rV n (f i)) ?a3 hn rfl rfl rfl rfl) EVs_nil) rfl rfl rfl).ev (EVs_cons ?a4 EVs_nil)) rfl rfl rfl).ev EVs_nil)) rfl rfl rfl) rfl) (m₀ := ?m2) ?cap2 rfl (.inl rfl) fun z => ?_
      case a1 => walk_at "q_name"
      case a2 => walk_at "q_name"
      case a3 => walk_at "q_name"
      case a4 => walk_at "q_name"
      case cap2 => walk_at "q_drop"
      refine ST_nil fun B hp a' => ⟨_, ⟨z, rfl⟩, ?_⟩
      refine At.less a' ?_ ?_
      · walk_at "q_sub"
      · walk_at "q_sub"
  case fin =>
    rintro _ ⟨z, rfl⟩
    refine ST_retNew (R := rM n n (hor f n p d d)) ?_
    walk_at "q_name"
theorem charpoly_pc (G : Gl base mg mb) (n : Nat) (f : Nat → Nat → Rat) (h0 : 0 < n) (hn : n ≤ 999) (ok : CpOk f n) : PC prog w base mg "charpoly" 6 [rM n n f] (rL (n + 1) fun i => rRat (cpAt f n i)) := by
  refine PC_intro1 G (k := 29) rfl "a" fun A L fa cd q v S hA => ?_
  have hn' : n ≤ 1000 := by omega
  refine ST_set (EV_lenL G (n := n) (g := fun i => rV n (f i)) ?s1 hn' rfl rfl rfl rfl) (m₀ := ?m) ?cap rfl (.inl rfl) fun x => ?_
  case s1 => walk_at "q_name"
  case cap => walk_at "q_drop"
  refine ST_expr (EVN_call G (need_shape_pc G) (hA.le (by decide)) (EVs_cons (EV.conv (R' := rBool true) (EV_of (R := rInt n) ?a1 (EV_part (EVN_call G (shape_pc G n n (fun i j => rRat (f i j)) h0 hn' hn') (hA.le (by decide)) (EVs_cons ?a2 EVs_nil) rfl rfl rfl).ev EV_int (by decide) rfl) cmp_eq) (by simp)) (EVs_cons EV_str EVs_nil)) rfl rfl rfl).ev ?_
  case a1 => walk_at "q_name"
  case a2 => walk_at "q_name"
  refine ST_swapOwn hA.hh (EVN_list (Rs := [rRat 1]) (EVs_cons (EV_R1 G rfl rfl rfl) EVs_nil) ?f1) (selfless_free ?f2) (EVN.conv (R' := rM n n (flP f n 0)) (EVN_call G (unit_matrix_pc G n hn') (hA.le (by decide)) (EVs_cons ?a3 EVs_nil) rfl rfl rfl) ?c0) (m₀ := ?m2) ?cap2 rfl rfl rfl (by decide +kernel) fun b u nb => ?_
  case f1 => intro R hm; rw [List.mem_singleton.mp hm]; exact rRat_free _
  case f2 => intro R hm; rw [List.mem_singleton.mp hm]; exact rRat_free _
  case a3 => walk_at "q_name"
  case c0 => exact rL_congr fun i _ => rL_congr fun j _ => by rw [flP_zero]; rfl
  case cap2 => walk_at "q_drop"
  refine ST_less (m' := [("found", .ref b), ("power", u), ("n", x), ("a", v)]) (D' := [(u, rM n n (flP f n 0)), (x, rInt n), (v, rM n n f)]) ?l1 ?l2 ?_
  case l1 => walk_at "q_sub"
  case l2 => walk_at "q_sub"
  refine ST_for1 (SRC_range2 G (n := n) hA.hh EV_int (EV_add (a := n) (b := 1) ?a4 EV_int) (by decide) (by decide) (by omega) (by omega) (by omega) rfl rfl rfl rfl) (fun i J => ∃ u, J = ⟨ownCells _, [("found", .ref b), ("power", u), ("n", x), ("a", v)], [(u, rM n n (flP f n i)), (x, rInt n), (v, rM n n f)], [(b, rRat 1 :: (List.range i).map fun k => rRat (flN f n k))], fun d => False ∨ d = b, S⟩)
    ⟨u, rfl⟩ (fun i J' ⟨z, e⟩ => e ▸ ⟨rfl, rfl, rfl, rfl⟩) kr_mono rfl (store1 (.inl rfl)) ?turn ?fin
  case a4 => walk_at "q_name"
  case turn =>
    rintro i _ hi ⟨u, rfl⟩
    refine ⟨?w, ?d, fun l => ?b⟩
    case d => walk_at "q_drop"
    case b =>
      refine ST_set (EV.conv (R' := rM n n (flM f n i)) (EVN_call G (mat_mul_pc G n n n f (flP f n i) h0 h0 hn' hn' hn' (ok.mul i hi)) hA (EVs_cons ?b1 (EVs_cons ?b2 EVs_nil)) rfl rfl rfl).ev rfl) (m₀ := ?m3) ?cap3 rfl (.inl rfl) fun u' => ?_
      case b1 => walk_at "q_name"
      case b2 => walk_at "q_name"
      case cap3 => walk_at "q_drop"
      have hi0 : ((i + 1 : Nat) : Rat) ≠ 0 := by exact_mod_cast Nat.succ_ne_zero i
      refine ST_set (EV.conv (R' := rRat (flN f n i)) (EVN_call G (rneg_pc G ((sumN n fun k => flM f n i k k) / ((i + 1 : Nat) : Rat))) (hA.le (by decide)) (EVs_cons (EVN_call G (rdiv_pc G (sumN n fun k => flM f n i k k) ((i + 1 : Nat) : Rat) 4499 4499 (ok.div i hi).1 (ok.div i hi).2 (by omega) hi0) (hA.le (by decide))
        (EVs_cons (EVN_call G (trace_pc G n (flM f n i) hn' (ok.tr i hi)) (hA.le (by decide)) (EVs_cons ?b3 EVs_nil) rfl rfl rfl).ev (EVs_cons (EV.conv (R := rTup [rInt (1 + (i : Int)), rInt 1]) (EV_tuple (EVs_cons ?b4 (EVs_cons EV_int EVs_nil))) ?c1) EVs_nil)) rfl rfl rfl).ev EVs_nil) rfl rfl rfl).ev (by rw [flN_eq])) (m₀ := ?m4) ?cap4 rfl (.inl rfl) fun y => ?_
      case b3 => walk_at "q_name"
      case b4 => walk_at "q_name"
      case c1 => rw [show (1 + (i : Int)) = ((i + 1 : Nat) : Int) by omega]; rfl
      case cap4 => walk_at "q_drop"
      refine ST_append (b := b) (R := rRat (flN f n i)) (EV_localV ?b5 rfl rfl) PutMu.hd ?b6 (by simp; omega) ?_
      case b5 => (dsimp only; walk_at "q_mem")
      case b6 => walk_at "q_name"
      refine ST_set (EV.conv (R' := rM n n (flP f n (i + 1))) (EVN_call G (mat_add_pc G n n (flM f n i) (fun r c => un r c * flN f n i) h0 hn' hn' (ok.add i hi)) (hA.le (by decide)) (EVs_cons ?b7 (EVs_cons (EVN_call G (mat_scale_pc G n n un (flN f n i) hn' hn' (ok.num i hi) fun i j _ _ => ok.un i j) (hA.le (by decide))
        (EVs_cons (EVN_call G (unit_matrix_pc G n hn') (hA.le (by decide)) (EVs_cons ?b8 EVs_nil) rfl rfl rfl).ev (EVs_cons ?b9 EVs_nil)) rfl rfl rfl).ev EVs_nil)) rfl rfl rfl).ev ?c2) (m₀ := ?m5) ?cap5 rfl (.inl rfl) fun u'' => ?_
      case b7 => walk_at "q_name"
      case b8 => walk_at "q_name"
      case b9 => walk_at "q_name"
      case c2 => exact rL_congr fun r _ => rL_congr fun c _ => by rw [flP_succ]
      case cap5 => walk_at "q_drop"
      refine ST_nil fun B hp a' => ⟨_, ⟨u'', rfl⟩, ?_⟩
      rw [← range_snoc]
      refine At.less a' ?_ ?_
      · walk_at "q_sub"
      · walk_at "q_sub"
  case fin =>
    rintro _ ⟨u, rfl⟩
    refine ST_reverse (b := b) (EV_localV ?b1 rfl rfl) PutMu.hd (by simp; omega) ?_
    case b1 => (dsimp only; walk_at "q_mem")
    refine ST_retMu (EV_localV (v := .ref b) ?b2 rfl rfl) (.head _) nb fun h vs r => ?_
    case b2 => (dsimp only; walk_at "q_mem")
    have e : (rRat 1 :: (List.range n).map fun k => rRat (flN f n k)).reverse = (List.range (n + 1)).map fun i => rRat (cpAt f n i) := by
      rw [List.reverse_cons, range_rev, ← range_snoc]
      congr 1
      · refine rl_congr fun i hi => ?_
        unfold cpAt; rw [if_neg (by omega)]
      · unfold cpAt; rw [if_pos rfl]
    rw [e] at r
    refine all2_free (fun R hm => ?_) vs r
    obtain ⟨i, _, rfl⟩ := List.mem_map.mp hm; exact rRat_free _
end

section
variable {prog : Program} {w : World} {base : Heap} {mg mb : Str → Option Value} {A : Around} {env : Env} {J : Inv}

theorem ST_cont {pos : Pos} {rest : List Stmt} {K : Kt} (h : ∀ B hp, At base B env J hp → K B .cont hp) : ST prog w base A env J (.Continue pos :: rest) K := fun B s Q E a k =>
  wpAny_execs_cons (wpAny_Continue (k .cont s.heap s.toks (h B s.heap a)))
theorem ET_true {k : Nat} {pos : Pos} : ET prog w base A env J (.Constant (.bool true) k pos) true := fun B s Q E a kk => by
  refine wpAny_isTrue_value (lit_bool _ fun v tk hv => ?_)
  rw [hv.bool]
  exact wpAny_truthy_bool (kk s.heap tk (Ext.refl _))
theorem wp_assign_sub {o i : Expr} {pos : Pos} {v : Value} {s : Shared} {Q : Unit → Shared → Prop} {E : Value → Shared → Prop}
    (h : wpAny (model prog w) A (eval o env) (fun ov s₁ => wpAny (model prog w) A (eval i env) (fun iv s₂ => wpAny (model prog w) A (setItem ov iv v) (fun _ s₃ => Q () s₃) E s₂) E s₁) E s) : wpAny (model prog w) A (assign (.Subscript o i pos) env v) Q E s := by
  rw [assign_Subscript]
  exact wpAny_bind (wpAny_holding (wpAny_mono h (fun ov s₁ h₁ => wpAny_bind (wpAny_holding (wpAny_mono h₁ (fun iv s₂ h₂ => wpAny_bind (wpAny_standAt (wpAny_bind (wpAny_holding (wpAny_mono h₂ (fun _ s₃ h₃ => wpAny_release' h₃) fun _ _ x => x))))) fun _ _ x => x))) fun _ _ x => x))

theorem EV.get {e : Expr} {v : Value} {R : RV} (h : EV prog w base A env J e R) {B : Addr → Option Obj} {s : Shared} {Q E : Value → Shared → Prop} (a : At base B env J s.heap) (k : ∀ v h' tk, Ext s.heap h' → R.p J.X v h' → Q v { s with heap := h', toks := tk }) : wpAny (model prog w) A (eval e env) Q E s := h B s Q E a k

/-- `x[i], x[j] = x[j], x[i]` -/
theorem ST_swapItems {o₁ o₂ i₁ i₂ e₁ e₂ : Expr} {p₁ p₂ pt pv pos : Pos} {k1 k2 : Nat} {rest : List Stmt} {b : Addr} {Rs : List RV} {R₁ R₂ : RV} {i j : Nat} {K : Kt} {M₁ M₂ : List (Addr × List RV)} (hh : A.handled = none)
    (he₁ : EV prog w base A env J e₁ R₁) (he₂ : EV prog w base A env J e₂ R₂) (ho₁ : ∀ M, EV prog w base A env { J with Mu := M } o₁ (rIs (.ref b))) (ho₂ : ∀ M, EV prog w base A env { J with Mu := M } o₂ (rIs (.ref b)))
    (hi₁ : ∀ M, EV prog w base A env { J with Mu := M } i₁ (rInt i)) (hi₂ : ∀ M, EV prog w base A env { J with Mu := M } i₂ (rInt j)) (hi : i < Rs.length) (hj : j < Rs.length) (hz : Rs.length ≤ 1000)
    (hM₁ : PutMu [(b, Rs)] [(b, Rs.set i R₁)] J.Mu M₁) (hM₂ : PutMu [(b, Rs.set i R₁)] [(b, (Rs.set i R₁).set j R₂)] M₁ M₂) (h : ST prog w base A env { J with Mu := M₂ } rest K)
    (hs : swapsWithSole [.Tuple [.Subscript o₁ i₁ p₁, .Subscript o₂ i₂ p₂] k1 pt] (.Tuple [e₁, e₂] k2 pv) pos.line env = pure false := by rfl) (hw : swappedStores [.Tuple [.Subscript o₁ i₁ p₁, .Subscript o₂ i₂ p₂] k1 pt] (.Tuple [e₁, e₂] k2 pv) env = pure none := by rfl)
    (h1 : starEach [e₁, e₂] env = (false, eval e₁ env) :: starEach [e₂] env := by rfl) (h2 : starEach [e₂] env = [(false, eval e₂ env)] := by rfl) :
    ST prog w base A env J (.Assign [.Tuple [.Subscript o₁ i₁ p₁, .Subscript o₂ i₂ p₂] k1 pt] (.Tuple [e₁, e₂] k2 pv) pos :: rest) K := fun B s Q E a k => by
  refine wpAny_execs_cons (Assign_Tuple ((EV_tuple (EVs_cons he₁ (EVs_cons he₂ EVs_nil h2) h1)) B s _ E a fun v h₁ t₁ k₁ r => ?_) hs hw)
  obtain ⟨t, vs, rfl, q, r⟩ := r
  match vs, r with
  | [v, u], r =>
    refine wpAny_assign_Tuple (s := { s with heap := h₁, toks := t₁ }) hh q.isTuple rfl rfl fun h₂ he₂ => ?_
    have k₂ : Ext h₁ h₂ := fun b o e => he₂ b o (Nat.ne_of_lt (Heap.lt_size e)) e
    have a₂ := (a.ext k₁).ext k₂
    show wpAny _ A (assignInOrder [assign (.Subscript o₁ i₁ p₁) env, assign (.Subscript o₂ i₂ p₂) env] [v, u]) _ _ _
    refine assignInOrder_cons (wp_assign_sub (ho₁ J.Mu B _ _ E a₂ fun ov h₃ t₃ k₃ x => hi₁ J.Mu B _ _ E (a₂.ext k₃) fun iv h₄ t₄ k₄ y => ?_))
    cases x
    obtain ⟨ti, rfl⟩ := y
    have a₄ := (a₂.ext k₃).ext k₄
    have up : ∀ (R : RV) v, R.p J.X v h₁ → R.p J.X v h₄ := fun R v x => RV.ext (RV.ext (RV.ext x k₂) k₃) k₄
    obtain ⟨us, n, q₄, r₄, hl⟩ := a₄.muAt (hM₁.sub _ (.head _))
    refine ki_setAt q₄ (by omega) (by omega) (by rw [List.size_toArray, hl]; omega) ?_
    have a₅ := a₄.chg (f := fun xs => xs.setIfInBounds (i : Int).toNat v) hM₁ q₄ (by rw [Array.toList_setIfInBounds, Int.toNat_natCast]; exact r₄.set (up _ _ r.1) i)
    have ks : KS J.X h₄ _ := ks_list (Heap.SameBut.update h₄ b (Obj.mapSeq fun xs => xs.setIfInBounds (i : Int).toNat v)) ⟨n, q₄⟩ (a₄.mu _ (hM₁.sub _ (.head _))).2.2
    have r₅ : R₂.p J.X u (h₄.update b (Obj.mapSeq fun xs => xs.setIfInBounds (i : Int).toNat v)) := R₂.st _ _ _ _ ks (up _ _ r.2.1)
    refine assignInOrder_cons (wp_assign_sub (ho₂ M₁ B _ _ E a₅ fun ov h₆ t₆ k₆ x => hi₂ M₁ B _ _ E (a₅.ext k₆) fun iv h₇ t₇ k₇ y => ?_))
    cases x
    obtain ⟨tj, rfl⟩ := y
    have a₇ := (a₅.ext k₆).ext k₇
    obtain ⟨ws, n', q₇, r₇, hl'⟩ := a₇.muAt (hM₂.sub _ (.head _))
    refine ki_setAt q₇ (by omega) (by omega) (by rw [List.size_toArray, hl', List.length_set]; omega) ?_
    refine assignInOrder_nil ?_
    exact h B _ Q E (a₇.chg (f := fun xs => xs.setIfInBounds (j : Int).toNat u) hM₂ q₇ (by rw [Array.toList_setIfInBounds, Int.toNat_natCast]; exact r₇.set (RV.ext (RV.ext r₅ k₆) k₇) j)) fun f h' tk y => k f h' tk y

/-- both parts of the pair are new lists, taken into hand; the names are stored in their order -/
theorem ST_unpackOwn2 {x y : Str} {px py pt pv pos : Pos} {k1 k2 : Nat} {e₁ e₂ : Expr} {rest : List Stmt} {Rs Ss : List RV} {K : Kt} {m₀ : List (Str × Value)} (hh : A.handled = none)
    (he₁ : EVN prog w base A env J e₁ (rList Rs)) (hself : Selfless Rs) (he₂ : EVN prog w base A env J e₂ (rList Ss)) (hself₂ : Selfless Ss) (hm : Drop [x, y] J.m m₀) (hk : env.scope.kind = .function)
    (hO : StoreOk env J.O [x, y]) (hxy : y ≠ x)
    (h : ∀ b c, ¬ J.S b → ¬ J.S c → ST prog w base A env { J with m := (x, .ref b) :: (y, .ref c) :: m₀, Mu := (c, Ss) :: (b, Rs) :: J.Mu, X := fun d => (J.X d ∨ d = b) ∨ d = c } rest K)
    (hs : swapsWithSole [.Tuple [.Name x px, .Name y py] k1 pt] (.Tuple [e₁, e₂] k2 pv) pos.line env = pure false := by rfl) (hw : swappedStores [.Tuple [.Name x px, .Name y py] k1 pt] (.Tuple [e₁, e₂] k2 pv) env = pure none := by rfl)
    (h1 : starEach [e₁, e₂] env = (false, eval e₁ env) :: starEach [e₂] env := by rfl) (h2 : starEach [e₂] env = [(false, eval e₂ env)] := by rfl) :
    ST prog w base A env J (.Assign [.Tuple [.Name x px, .Name y py] k1 pt] (.Tuple [e₁, e₂] k2 pv) pos :: rest) K := fun B s Q E a k => by
  refine wpAny_execs_cons (Assign_Tuple (Tuple_ (args_cons (he₁ B s _ E a fun v h₁ t₁ k₁ r₁ => args_cons (he₂ B _ _ E (a.ext k₁) fun u h₂ t₂ k₂ r₂ => args_nil ?_) h2) h1)) hs hw)
  refine wpAny_newObj_type ?_ (by show 2 ≤ sizeLine; rw [sizeLine_eq]; decide)
  obtain ⟨b, vs, rfl, nb, q, r⟩ := r₁
  obtain ⟨c, us, rfl, nc, p, r'⟩ := r₂
  have nb' : s.heap.get? b = none := notdom nb
  have nc' : h₁.get? c = none := notdom nc
  have a₁ := a.own k₁ nb' q ((hself _ _ _ _ q r).imp fun R v _ x => R.anti _ _ _ _ (fun c q => q.imp (a.xdom c) id) x)
  have a₂ := a₁.own k₂ nc' p ((hself₂ _ _ _ _ p r').imp fun R v _ x => R.anti _ _ _ _ (fun d q' => by
    rcases q' with q' | rfl
    · exact .inl (a₁.xdom d q')
    · exact .inr rfl) x)
  have kt : Ext h₂ (h₂.push { cls := .type "tuple", data := .seq [.ref b, .ref c].toArray }) := Ext.push _ _
  refine two_names (s := { s with heap := h₂.push { cls := .type "tuple", data := .seq [.ref b, .ref c].toArray }, toks := t₂ }) hh (Sq.isTuple ⟨0, Heap.get?_push_size _ rfl⟩) (a₂.ext kt).fm hO hk hm hxy fun h₃ t₃ F₃ K₃ _ => ?_
  exact h b c (fun q => a.sdom b q nb') (fun q => (a.ext k₁).sdom c q nc') B _ Q E ((a₂.ext kt).turn F₃ K₃) fun f h' tk z => k f h' tk z

theorem EV_freeV {x : Str} {pos : Pos} {v : Value} (hm : (x, v) ∈ J.m) (hk : env.scope.kind = .function) (hx : env.kindOf x = some .free) (hc : (env.cells.lookup x).isSome = true) (hn : (x == ("__debug__" : Str)) = false := by decide)
    (hn' : (x == ("__classdict__" : Str)) = false := by decide) : EV prog w base A env J (.Name x pos) (rIs v) := fun B s Q E a k => by
  obtain ⟨c, hc⟩ := Option.isSome_iff_exists.mp hc
  refine wpAny_Name (wpAny_loadName_free hk hx hc ((a.fm.cell x c hc).2 v hm) ?_ hn') hn
  exact k v s.heap s.toks (Ext.refl _) rfl
end

section
variable {prog : Program} {w : World} {base : Heap} {mg mb : Str → Option Value} {S : Addr → Prop} {pre post : List (Addr × List RV)}
theorem PM_intro1 (G : Gl base mg mb) {k : Nat} {name : Str} {params : Arguments} {body : List Stmt} {ds rt tp scope ts bn ps} (hst : fn k = .FunctionDef name params body ds rt tp scope ts bn ps) {n : Nat} {R₁ R : RV} (x₁ : Str)
    (h : ∀ A L a cd q v₁ X S', Rm A n → (∀ b, S b → S' b) → ST prog w base A (fEnv scope L a cd q) ⟨ownCells scope, [(x₁, v₁)], [(v₁, R₁)], pre, X, S'⟩ body (Km S' X post R))
    (hbind : ∀ pm code doc v₁, bindArgs (docDef name params body scope pm code doc) ⟨[v₁], []⟩ = pure [(x₁, v₁)] := by intros; rfl) (hok : paramsOk scope [x₁] = true := by decide +kernel)
    (hco : scope.isCoroutine = false := by rfl) (hgen : scope.isGenerator = false := by rfl) (hk : scope.kind = .function := by rfl) : PM prog w base mg name (n + 1) S pre [R₁] post R :=
  PM_intro G hst [x₁] (fun pm code doc vs hl => by match vs, hl with | [v], _ => exact hbind pm code doc v) rfl hok (fun A L a cd q vs X S' hA hl hS => by match vs, hl with | [v], _ => exact h A L a cd q v X S' hA hS) hco hgen hk
theorem PM_intro2 (G : Gl base mg mb) {k : Nat} {name : Str} {params : Arguments} {body : List Stmt} {ds rt tp scope ts bn ps} (hst : fn k = .FunctionDef name params body ds rt tp scope ts bn ps) {n : Nat} {R₁ R₂ R : RV} (x₁ x₂ : Str)
    (h : ∀ A L a cd q v₁ v₂ X S', Rm A n → (∀ b, S b → S' b) → ST prog w base A (fEnv scope L a cd q) ⟨ownCells scope, [(x₁, v₁), (x₂, v₂)], [(v₁, R₁), (v₂, R₂)], pre, X, S'⟩ body (Km S' X post R))
    (hbind : ∀ pm code doc v₁ v₂, bindArgs (docDef name params body scope pm code doc) ⟨[v₁, v₂], []⟩ = pure [(x₁, v₁), (x₂, v₂)] := by intros; rfl) (hok : paramsOk scope [x₁, x₂] = true := by decide +kernel)
    (hco : scope.isCoroutine = false := by rfl) (hgen : scope.isGenerator = false := by rfl) (hk : scope.kind = .function := by rfl) : PM prog w base mg name (n + 1) S pre [R₁, R₂] post R :=
  PM_intro G hst [x₁, x₂] (fun pm code doc vs hl => by match vs, hl with | [v, u], _ => exact hbind pm code doc v u) rfl hok (fun A L a cd q vs X S' hA hl hS => by match vs, hl with | [v, u], _ => exact h A L a cd q v u X S' hA hS) hco hgen hk
theorem PM_intro3 (G : Gl base mg mb) {k : Nat} {name : Str} {params : Arguments} {body : List Stmt} {ds rt tp scope ts bn ps} (hst : fn k = .FunctionDef name params body ds rt tp scope ts bn ps) {n : Nat} {R₁ R₂ R₃ R : RV} (x₁ x₂ x₃ : Str)
    (h : ∀ A L a cd q v₁ v₂ v₃ X S', Rm A n → (∀ b, S b → S' b) → ST prog w base A (fEnv scope L a cd q) ⟨ownCells scope, [(x₁, v₁), (x₂, v₂), (x₃, v₃)], [(v₁, R₁), (v₂, R₂), (v₃, R₃)], pre, X, S'⟩ body (Km S' X post R))
    (hbind : ∀ pm code doc v₁ v₂ v₃, bindArgs (docDef name params body scope pm code doc) ⟨[v₁, v₂, v₃], []⟩ = pure [(x₁, v₁), (x₂, v₂), (x₃, v₃)] := by intros; rfl) (hok : paramsOk scope [x₁, x₂, x₃] = true := by decide +kernel)
    (hco : scope.isCoroutine = false := by rfl) (hgen : scope.isGenerator = false := by rfl) (hk : scope.kind = .function := by rfl) : PM prog w base mg name (n + 1) S pre [R₁, R₂, R₃] post R :=
  PM_intro G hst [x₁, x₂, x₃] (fun pm code doc vs hl => by match vs, hl with | [v, u, z], _ => exact hbind pm code doc v u z) rfl hok (fun A L a cd q vs X S' hA hl hS => by match vs, hl with | [v, u, z], _ => exact h A L a cd q v u z X S' hA hS) hco hgen hk
theorem PM_intro4 (G : Gl base mg mb) {k : Nat} {name : Str} {params : Arguments} {body : List Stmt} {ds rt tp scope ts bn ps} (hst : fn k = .FunctionDef name params body ds rt tp scope ts bn ps) {n : Nat} {R₁ R₂ R₃ R₄ R : RV} (x₁ x₂ x₃ x₄ : Str)
    (h : ∀ A L a cd q v₁ v₂ v₃ v₄ X S', Rm A n → (∀ b, S b → S' b) → ST prog w base A (fEnv scope L a cd q) ⟨ownCells scope, [(x₁, v₁), (x₂, v₂), (x₃, v₃), (x₄, v₄)], [(v₁, R₁), (v₂, R₂), (v₃, R₃), (v₄, R₄)], pre, X, S'⟩ body (Km S' X post R))
    (hbind : ∀ pm code doc v₁ v₂ v₃ v₄, bindArgs (docDef name params body scope pm code doc) ⟨[v₁, v₂, v₃, v₄], []⟩ = pure [(x₁, v₁), (x₂, v₂), (x₃, v₃), (x₄, v₄)] := by intros; rfl) (hok : paramsOk scope [x₁, x₂, x₃, x₄] = true := by decide +kernel)
    (hco : scope.isCoroutine = false := by rfl) (hgen : scope.isGenerator = false := by rfl) (hk : scope.kind = .function := by rfl) : PM prog w base mg name (n + 1) S pre [R₁, R₂, R₃, R₄] post R :=
  PM_intro G hst [x₁, x₂, x₃, x₄] (fun pm code doc vs hl => by match vs, hl with | [v, u, z, y], _ => exact hbind pm code doc v u z y) rfl hok (fun A L a cd q vs X S' hA hl hS => by match vs, hl with | [v, u, z, y], _ => exact h A L a cd q v u z y X S' hA hS) hco hgen hk
end

local macro_rules | `(tactic| walk_at "q_val") => `(tactic| first
  | (refine EV_localV ?q1 ?q3 ?q4; (case q1 => (dsimp only; walk_at "q_mem")); (case q3 => rfl); (case q4 => rfl))
  | (refine EV_cellV ?q1 ?q3 ?q4 ?q5; (case q1 => (dsimp only; walk_at "q_mem")); (case q3 => rfl); (case q4 => rfl); (case q5 => rfl))
  | (refine EV_freeV ?q1 ?q3 ?q4 ?q5; (case q1 => (dsimp only; walk_at "q_mem")); (case q3 => rfl); (case q4 => rfl); (case q5 => rfl)))
section
variable {prog : Program} {w : World} {base : Heap} {mg mb : Str → Option Value}
theorem km_end {env : Env} {J : Inv} {S X : Addr → Prop} {post : List (Addr × List RV)} (hX : J.X = X) (hp : J.Mu = post) : ∀ B hp, At base B env J hp → Km S X post rNone B .next hp := fun B h a => ⟨a.fm.keep, fun p hp' => hX ▸ (a.mu p (hp ▸ hp')).1, rfl⟩
theorem range_set {α : Type} (n i : Nat) (g : Nat → α) (x : α) : ((List.range n).map g).set i x = (List.range n).map fun k => if k = i then x else g k := by
  apply List.ext_getElem
  · simp
  · intro k h1 h2
    simp only [List.length_set, List.length_map, List.length_range] at h1
    simp only [List.getElem_set, List.getElem_map, List.getElem_range]
    by_cases h : i = k
    · rw [if_pos h, if_pos h.symm]
    · rw [if_neg h, if_neg (Ne.symm h)]
theorem EV_itemML {A : Around} {env : Env} {J : Inv} {value slice : Expr} {pos : Pos} {b : Addr} {n k : Nat} {g : Nat → RV} (hv : EV prog w base A env J value (rIs (.ref b))) (hm : (b, (List.range n).map g) ∈ J.Mu) (hs : EV prog w base A env J slice (rInt (k : Int))) (hk : k < n) (hn : n ≤ 1000)
    (hsb : ∀ o i, subscripted slice false o i = operate [o, i] (getItem o i) := by intros; rfl) : EV prog w base A env J (.Subscript value slice pos) (g k) := EV_itemM hv hm hs (by omega) (by rw [Int.toNat_natCast]; exact rl_get hk) (by omega) hsb
theorem swap_rows_pm (G : Gl base mg mb) (S : Addr → Prop) (b : Addr) (n : Nat) (g : Nat → RV) (i j : Nat) (hi : i < n) (hj : j < n) (hn : n ≤ 1000) :
    PM prog w base mg "swap_rows" 1 S [(b, (List.range n).map g)] [rIs (.ref b), rInt i, rInt j] [(b, (List.range n).map fun k => if k = j then g i else if k = i then g j else g k)] rNone := by
  refine PM_intro3 G (k := 25) rfl "a" "one" "other" fun A L fa cd q v₁ v₂ v₃ X S' hA hS => ?_
  refine ST_swapItems (b := b) (Rs := (List.range n).map g) (i := i) (j := j) hA.hh (EV_itemML (n := n) (g := g) (k := j) ?a1 (.head _) ?a2 hj hn) (EV_itemML (n := n) (g := g) (k := i) ?a3 (.head _) ?a4 hi hn) (fun M => ?a5) (fun M => ?a6) (fun M => ?a7) (fun M => ?a8) (by rw [rl_len]; exact hi) (by rw [rl_len]; exact hj) (by rw [rl_len]; exact hn) .hd .hd (ST_nil (km_end rfl ?e))
  case a1 => walk_at "q_name"
  case a2 => walk_at "q_name"
  case a3 => walk_at "q_name"
  case a4 => walk_at "q_name"
  case a5 => walk_at "q_name"
  case a6 => walk_at "q_name"
  case a7 => walk_at "q_name"
  case a8 => walk_at "q_name"
  case e => rw [range_set, range_set]
def offRow (g : Nat → Nat → Rat) (row source : Nat) (p : Rat) : Nat → Nat → Rat := fun i j => if i = row then g row j - p * g source j else g i j
theorem take_off_pm (G : Gl base mg mb) (S : Addr → Prop) (b : Addr) (r c : Nat) (g : Nat → Nat → Rat) (row source : Nat) (p : Rat) (hi : row < r) (hsr : source < r) (hr : r ≤ 1000) (hc : c ≤ 1000) (ok : ∀ j, j < c → Sm (g row j) ∧ Sm p ∧ Sm (g source j) ∧ Sm (p * g source j)) :
    PM prog w base mg "take_off" 4 S [(b, (List.range r).map fun i => rNew S (rV c (g i)))] [rIs (.ref b), rInt row, rInt source, rRat p] [(b, (List.range r).map fun i => rNew S (rV c (offRow g row source p i)))] rNone := by
  refine PM_intro4 G (k := 26) rfl "a" "row" "source" "number" fun A L fa cd q v₁ v₂ v₃ v₄ X S' hA hS => ?_
  refine ST_store (b := b) (j := row) (R := rNew S (rV c fun j => g row j - p * g source j)) (EVN.new (EVN_comp2 (m₀ := ?m) (fun j => rRat (g row j - p * g source j)) (SRC_enumL G c (fun j => rRat (g row j)) hA.hh (EV_itemML (n := r) (g := fun i => rNew S (rV c (g i))) (k := row) ?a1 (.head _) ?a2 hi hr).old rfl rfl rfl rfl) hc ?cap fun C k j x y hj => ?e) hS) ?a3 ?a4 (by rw [rl_len]; exact hi) (by rw [rl_len]; exact hr) .hd (ST_nil (km_end rfl ?e2))
  case a1 => walk_at "q_name"
  case a2 => walk_at "q_name"
  case a3 => walk_at "q_name"
  case a4 => walk_at "q_name"
  case cap => walk_at "q_cap"
  case e =>
    obtain ⟨o1, o2, o3, o4⟩ := ok j hj
    refine EVN_call G (rsub_pc G _ _ 4499 4499 o1 o4 (by omega)) hA (EVs_cons ?b1 (EVs_cons (EVN_call G (rmul_pc G _ _ 4499 4499 o2 o3 (by omega)) hA (EVs_cons ?b2 (EVs_cons (EV_itemL (n := c) (g := fun j => rRat (g source j)) (k := j) (EV_itemML (b := b) (n := r) (g := fun i => rNew S (rV c (g i))) (k := source) ?b3 (.head _) ?b4 hsr hr).old ?b5 hj hc) EVs_nil)) rfl rfl rfl).ev EVs_nil)) rfl rfl rfl
    case b1 => walk_at "q_name"
    case b2 => walk_at "q_name"
    case b3 => walk_at "q_name"
    case b4 => walk_at "q_name"
    case b5 => walk_at "q_name"
  case e2 =>
    rw [range_set]
    refine congrArg (fun x => [(b, x)]) (rl_congr fun i _ => ?_)
    unfold offRow
    by_cases h : i = row
    · rw [if_pos h]; exact congrArg (rNew S) (rL_congr fun j _ => congrArg rRat (if_pos h).symm)
    · rw [if_neg h]; exact congrArg (rNew S) (rL_congr fun j _ => congrArg rRat (if_neg h).symm)
end


/-! ## what echelon computes -/
abbrev Mt := Nat → Nat → Rat
def eSwap (g : Mt) (row s : Nat) : Mt := fun i j => if i = s then g row j else if i = row then g s j else g i j
def eScale (g : Mt) (row col : Nat) : Mt := fun i j => if i = row then g row j / g row col else g i j
def eElim (g : Mt) (row col m : Nat) : Mt := fun i j => if i ≠ row ∧ i < m then g i j - g i col * g row j else g i j
def eFind (r : Nat) (g : Mt) (row col : Nat) : List Nat := (List.range (r - row)).filter fun i => decide (g (row + i) col ≠ 0)
def eNew (r : Nat) (g : Mt) (row col s : Nat) : Mt := eElim (eScale (eSwap g row (row + s)) row col) row col r
def eStep (r : Nat) (st : Mt × List Nat) (col : Nat) : Mt × List Nat := match eFind r st.1 st.2.length col with
  | [] => st
  | s :: _ => (eNew r st.1 st.2.length col s, st.2 ++ [col])
def ech (r : Nat) (f : Mt) : Nat → Mt × List Nat
  | 0 => (f, [])
  | c + 1 => eStep r (ech r f c) c
theorem eFind_mem {r row col : Nat} {g : Mt} {s : Nat} {l : List Nat} (h : eFind r g row col = s :: l) : row + s < r ∧ g (row + s) col ≠ 0 := by
  have hm : s ∈ eFind r g row col := by rw [h]; exact .head _
  obtain ⟨h1, h2⟩ := List.mem_filter.mp hm
  have := List.mem_range.mp h1
  exact ⟨by omega, by simpa using h2⟩

/-! ## sizes -/
theorem bd_mul {k l : Nat} {p q : Rat} (hp : Bd k p) (hq : Bd l q) : Bd (k + l) (p * q) := by
  rw [← mul_divInt]
  refine Bd.divInt (by simp [p.den_nz, q.den_nz]) (natAbs_mul_lt hp.1 hq.1) (natAbs_mul_lt (a := (p.den : Int)) (b := (q.den : Int)) ?_ ?_)
  · exact hp.2
  · exact hq.2
theorem bd_div {k l : Nat} {p q : Rat} (hp : Bd k p) (hq : Bd l q) (h0 : q ≠ 0) : Bd (k + l) (p / q) := by
  rw [← div_divInt]
  exact Bd.divInt (by simp [p.den_nz, Rat.num_eq_zero, h0]) (natAbs_mul_lt (b := (q.den : Int)) hp.1 hq.2) (natAbs_mul_lt (a := (p.den : Int)) hp.2 hq.1)
theorem bd_sub {k l : Nat} {p q : Rat} (hp : Bd k p) (hq : Bd l q) : Bd (k + l + 1) (p - q) := by
  rw [← sub_divInt]
  refine Bd.divInt (by simp [p.den_nz, q.den_nz]) (natAbs_sub_lt (natAbs_mul_lt (b := (q.den : Int)) hp.1 hq.2) ?_) (Nat.lt_of_lt_of_le (natAbs_mul_lt (a := (p.den : Int)) (b := (q.den : Int)) hp.2 hq.2) (Nat.pow_le_pow_right (by decide) (by omega)))
  rw [Nat.add_comm k l]
  exact natAbs_mul_lt (b := (p.den : Int)) hq.1 hp.2
def EBd (b r c : Nat) (g : Mt) : Prop := ∀ i j, i < r → j < c → Bd b (g i j)
theorem EBd.step {b r c : Nat} {st : Mt × List Nat} {col : Nat} (h : EBd b r c st.1) (hc : col < c) : EBd (4 * b + 1) r c (eStep r st col).1 := by
  unfold eStep
  split
  · exact fun i j hi hj => (h i j hi hj).le (by omega)
  · rename_i s l e
    obtain ⟨h1, h2⟩ := eFind_mem e
    have hr : st.2.length < r := by omega
    have sw : EBd b r c (eSwap st.1 st.2.length (st.2.length + s)) := fun i j hi hj => by
      unfold eSwap
      split
      · exact h _ _ hr hj
      · split
        · exact h _ _ h1 hj
        · exact h _ _ hi hj
    have n0 : eSwap st.1 st.2.length (st.2.length + s) st.2.length col ≠ 0 := by
      unfold eSwap
      split
      · rename_i e; rw [← e] at h2; exact h2
      · rw [if_pos rfl]; exact h2
    have sc : ∀ i j, i < r → j < c → Bd (if i = st.2.length then 2 * b else b) (eScale (eSwap st.1 st.2.length (st.2.length + s)) st.2.length col i j) := fun i j hi hj => by
      unfold eScale
      by_cases e : i = st.2.length
      · rw [if_pos e, if_pos e, Nat.two_mul]; exact bd_div (sw _ _ hr hj) (sw _ _ hr hc) n0
      · rw [if_neg e, if_neg e]; exact sw _ _ hi hj
    intro i j hi hj
    show Bd _ (eElim _ _ _ _ i j)
    unfold eElim
    split
    · rename_i e
      have a1 := sc i j hi hj
      have a2 := sc i col hi hc
      have a3 := sc _ j hr hj
      rw [if_neg e.1] at a1 a2
      rw [if_pos rfl] at a3
      exact (bd_sub a1 (bd_mul a2 a3)).le (by omega)
    · exact (sc i j hi hj).le (by split <;> omega)
def eB : Nat → Nat
  | 0 => 20
  | c + 1 => 4 * eB c + 1
theorem ech_bd {r c : Nat} {f : Mt} (h : EBd 20 r c f) : ∀ col, col ≤ c → EBd (eB col) r c (ech r f col).1
  | 0, _ => h
  | col + 1, hc => (ech_bd h col (by omega)).step hc
theorem eB_le {col : Nat} (h : col < 4) : eB col ≤ 1301 := by
  match col, h with
  | 0, _ => decide
  | 1, _ => decide
  | 2, _ => decide
  | 3, _ => decide
theorem ech_len {r : Nat} {f : Mt} : ∀ c, (ech r f c).2.length ≤ c
  | 0 => Nat.le_refl _
  | c + 1 => by
    have := ech_len (r := r) (f := f) c
    show (eStep r (ech r f c) c).2.length ≤ c + 1
    unfold eStep
    split
    · omega
    · simp; omega

/-! ## rows are no part of themselves -/
theorem selfless_rows {r c : Nat} {g : Mt} {S : Addr → Prop} : Selfless ((List.range r).map fun i => rNew S (rV c (g i))) := fun X h a vs q x => by
  refine x.imp fun R v hm y => ?_
  obtain ⟨i, hi, rfl⟩ := List.mem_map.mp hm
  obtain ⟨d, us, rfl, nd, sq, el⟩ := y
  have hne : d ≠ a := by
    rintro rfl
    obtain ⟨_, rfl⟩ := sq.inj q
    have hr : 0 < r := Nat.lt_of_le_of_lt (Nat.zero_le _) (List.mem_range.mp hi)
    have l1 := x.len
    have l2 := el.len
    simp only [List.length_map, List.length_range] at l1 l2
    obtain ⟨v₀, e₀, p₀⟩ := x.get (i := 0) (rl_get (g := fun i => rNew S (rV c (g i))) hr)
    obtain ⟨v₁, e₁, p₁⟩ := el.get (i := 0) (rl_get (g := fun j => rRat (g i j)) (show 0 < c by omega))
    rw [e₀] at e₁; cases e₁
    obtain ⟨d₀, us₀, rfl, _, sq₀, _⟩ := p₀
    obtain ⟨d₁, us₁, e, sq₁, _⟩ := p₁
    cases e
    exact absurd (sq₀.inj sq₁).1 (by decide)
  exact ⟨d, us, rfl, fun q' => by
    rcases q' with (q' | q') | q'
    · exact nd (.inl q')
    · exact hne q'
    · exact nd (.inr q'), sq, el.imp fun R v hm x => by
      obtain ⟨j, _, rfl⟩ := List.mem_map.mp hm
      exact rRat_free _ _ _ _ _ x⟩
section
variable {prog : Program} {w : World} {base : Heap} {A : Around} {env : Env} {J : Inv}
theorem EVN.elts {e : Expr} {Rs : List RV} {S : Addr → Prop} (h : EVN prog w base A env J e (rList Rs)) (hS : ∀ a, S a → J.S a) : EVN prog w base A env J e (rList (Rs.map (rNew S))) := fun B s Q E a k =>
  h B s Q E a fun v h' tk k₁ ⟨b, vs, e, nb, q, r⟩ => k v h' tk k₁ ⟨b, vs, e, nb, q, by
    have : ∀ (Rs : List RV) (vs : List Value), All2 (dom s.heap) h' Rs vs → All2 (dom s.heap) h' (Rs.map (rNew S)) vs := by
      intro Rs
      induction Rs with
      | nil => intro vs r; exact r
      | cons R Rs ih =>
        intro vs r
        match vs, r with
        | v :: vs, r => exact ⟨R.anti _ _ _ _ (fun b q => q.elim id fun q => a.sdom b (hS b q)) r.1, ih vs r.2⟩
    exact this Rs vs r⟩
end

local macro_rules | `(tactic| walk_at "q_mu") => `(tactic| (dsimp only; walk_at "q_mem"))
section
variable {prog : Program} {w : World} {base : Heap} {mg mb : Str → Option Value}
theorem EV_lenML {A : Around} {env : Env} {J : Inv} (G : Gl base mg mb) {e : Expr} {p pos : Pos} {b : Addr} {n : Nat} {g : Nat → RV} (h : EV prog w base A env J e (rIs (.ref b))) (hm : (b, (List.range n).map g) ∈ J.Mu) (hsz : n ≤ 1000) (hk : env.scope.kind = .function) (hx : env.kindOf "len" = some .globalImplicit) (hg : env.globals = mainGlobals) (hg' : env.builtins = builtinsNs)
    (he : starEach [e] env = [(false, eval e env)] := by rfl) : EV prog w base A env J (.Call (.Name "len" p) [e] [] pos) (rInt (n : Int)) :=
  (EV_lenM G h hm (by rw [rl_len]; omega) hk hx hg hg' he).conv (by rw [rl_len])
theorem EVN_comp1T {A : Around} {env : Env} {J : Inv} {elt iter target t : Expr} {scope : Scope} {pos : Pos} {n : Nat} {x : Str} {V : Nat → RV} {m₀ : List (Str × Value)} (c : Nat → Bool) (Re : Nat → RV)
    (hsrc : SRC prog w base A env J target iter n [x] (fun i => [V i])) (hn : n ≤ 1000) (hcap : Cap scope J.m m₀)
    (tests : ∀ C k i v, i < n → ET prog w base A (cEnv scope env C k) ⟨ownCells scope, (x, v) :: m₀, (v, V i) :: J.D, J.Mu, J.X, J.S⟩ t (c i))
    (elts : ∀ C k i v, i < n → c i = true → EVN prog w base A (cEnv scope env C k) ⟨ownCells scope, (x, v) :: m₀, (v, V i) :: J.D, J.Mu, J.X, J.S⟩ elt (Re i))
    (hok : compOk env.cells scope [x] = true := by rfl) (hkind : scope.kind = .function := by rfl) (hs : ∀ x, foldedSetIterable iter env x = pure x := by intro _; rfl) :
    EVN prog w base A env J (.ListComp elt [⟨target, iter, [t], 0⟩] scope pos) (rList (((List.range n).filter c).map Re)) :=
  EVN_comp (pos := pos) c Re hsrc hn hok hcap (fun C k i vs hi hl => by match vs, hl with | [v], _ => exact ETs_one (tests C k i v hi)) (fun C k i vs hi hc hl => by match vs, hl with | [v], _ => exact elts C k i v hi hc) hkind hs
theorem ST_setComp1T {A : Around} {env : Env} {J : Inv} {elt iter target t : Expr} {scope : Scope} {pos spos py : Pos} {y : Str} {n : Nat} {x : Str} {V : Nat → RV} {m₀ m₁ : List (Str × Value)} {rest : List Stmt} {K : Kt} (c : Nat → Bool) (Re : Nat → RV)
    (hsrc : SRC prog w base A env J target iter n [x] (fun i => [V i])) (hn : n ≤ 1000) (hcap : Cap scope J.m m₀)
    (tests : ∀ C k i v, i < n → ET prog w base A (cEnv scope env C k) ⟨ownCells scope, (x, v) :: m₀, (v, V i) :: J.D, J.Mu, J.X, J.S⟩ t (c i))
    (elts : ∀ C k i v, i < n → c i = true → EVN prog w base A (cEnv scope env C k) ⟨ownCells scope, (x, v) :: m₀, (v, V i) :: J.D, J.Mu, J.X, J.S⟩ elt (Re i))
    (hm : Drop [y] J.m m₁) (hk : env.scope.kind = .function) (hy : env.kindOf y = some .local ∨ (env.kindOf y = some .cell ∧ y ∈ J.O ∧ (env.cells.lookup y).isSome = true))
    (h : ∀ v, ST prog w base A env { J with m := (y, v) :: m₁, D := (v, rList (((List.range n).filter c).map Re)) :: J.D } rest K)
    (hok : compOk env.cells scope [x] = true := by rfl) (hsw : swapsWith (.ListComp elt [⟨target, iter, [t], 0⟩] scope pos) (some (.Name y py)) spos.line env = pure true := by rfl)
    (hkind : scope.kind = .function := by rfl) (hs : ∀ x, foldedSetIterable iter env x = pure x := by intro _; rfl) :
    ST prog w base A env J (.Assign [.Name y py] (.ListComp elt [⟨target, iter, [t], 0⟩] scope pos) spos :: rest) K :=
  ST_setComp c Re hsrc hn hcap (fun C k i vs hi hl => by match vs, hl with | [v], _ => exact ETs_one (tests C k i v hi)) (fun C k i vs hi hc hl => by match vs, hl with | [v], _ => exact elts C k i v hi hc) hm hk hy h hok hsw hkind hs
theorem rows_congr {S : Addr → Prop} {r c : Nat} {g g' : Mt} (h : ∀ i j, i < r → j < c → g i j = g' i j) : (List.map (fun i => rNew S (rV c (g i))) (List.range r)) = (List.map (fun i => rNew S (rV c (g' i))) (List.range r)) := rl_congr fun i hi => congrArg (rNew S) (rL_congr fun j hj => congrArg rRat (h i j hi hj))

theorem swap_bd {b r c : Nat} {g : Mt} {row s : Nat} (h : EBd b r c g) (hr : row < r) (hs : s < r) : EBd b r c (eSwap g row s) := fun i j hi hj => by
  unfold eSwap
  split
  · exact h _ _ hr hj
  · split
    · exact h _ _ hs hj
    · exact h _ _ hi hj
theorem swap_row {g : Mt} {row s : Nat} (j : Nat) : eSwap g row s row j = g s j := by
  unfold eSwap
  split
  · rename_i e; rw [e]
  · rw [if_pos rfl]
theorem scale_bd {b r c : Nat} {g : Mt} {row col : Nat} (h : EBd b r c g) (hr : row < r) (hc : col < c) (n0 : g row col ≠ 0) (i j : Nat) (hi : i < r) (hj : j < c) : Bd (if i = row then b + b else b) (eScale g row col i j) := by
  unfold eScale
  by_cases e : i = row
  · rw [if_pos e, if_pos e]; exact bd_div (h _ _ hr hj) (h _ _ hr hc) n0
  · rw [if_neg e, if_neg e]; exact h _ _ hi hj
theorem elim_zero {g : Mt} {row col : Nat} (i j : Nat) : eElim g row col 0 i j = g i j := by unfold eElim; rw [if_neg (by omega)]
theorem elim_row {g : Mt} {row col m : Nat} (j : Nat) : eElim g row col m row j = g row j := by unfold eElim; rw [if_neg (by omega)]
theorem elim_at {g : Mt} {row col m : Nat} (j : Nat) : eElim g row col m m j = g m j := by unfold eElim; rw [if_neg (by omega)]
theorem elim_off {g : Mt} {row col m : Nat} (hm : m ≠ row) (i j : Nat) : offRow (eElim g row col m) m row (eElim g row col m m col) i j = eElim g row col (m + 1) i j := by
  unfold offRow
  by_cases e : i = m
  · subst e
    rw [if_pos rfl, elim_at, elim_at, elim_row]
    unfold eElim; rw [if_pos ⟨hm, by omega⟩]
  · rw [if_neg e]
    unfold eElim
    by_cases h : i ≠ row ∧ i < m
    · rw [if_pos h, if_pos ⟨h.1, by omega⟩]
    · rw [if_neg h, if_neg (by omega)]
theorem elim_skip {g : Mt} {row col m : Nat} (hm : m = row ∨ g m col = 0) (i j : Nat) : eElim g row col m i j = eElim g row col (m + 1) i j := by
  unfold eElim
  by_cases e : i = m
  · subst e
    rw [if_neg (by omega)]
    rcases hm with rfl | hm
    · rw [if_neg (by omega)]
    · split
      · rw [hm, Rat.zero_mul, Rat.sub_eq_add_neg, Rat.neg_zero, Rat.add_zero]
      · rfl
  · by_cases h : i ≠ row ∧ i < m
    · rw [if_pos h, if_pos ⟨h.1, by omega⟩]
    · rw [if_neg h, if_neg (by omega)]

theorem echelon_pc (G : Gl base mg mb) (r c : Nat) (f : Mt) (h0 : 0 < r) (hr : r ≤ 1000) (hc : c ≤ 4) (hb : EBd 20 r c f) :
    PC prog w base mg "echelon" 5 [rM r c f] (rTup [rM r c (ech r f c).1, rInts ((ech r f c).2.map fun k => ((k : Nat) : Int))]) := by
  refine PC_intro1 G (k := 27) rfl "a" fun A L fa cd q v S hA => ?_
  have hc' : c ≤ 1000 := by omega
  refine ST_unpackOwn2 hA.hh (EVN.elts (EVN_call G (copied_pc G r c f hr hc') (hA.le (by decide)) (EVs_cons ?a1 EVs_nil) rfl rfl rfl) fun _ q => q) (by rw [List.map_map]; exact selfless_rows (g := f)) (EVN_list EVs_nil (fun R hm => nomatch hm)) (selfless_free fun R hm => nomatch hm) (m₀ := ?m) ?cap rfl (store2 ?k1 ?k2) (by decide +kernel) fun b p nb np => ?_
  case a1 => walk_at "q_name"
  case cap => walk_at "q_drop"
  case k1 => walk_at "q_kind"
  case k2 => walk_at "q_kind"
  rw [List.map_map]
  refine ST_for1 (SRC_rangeL G c hA.hh (EV_part (EVN_call G (shape_pc G r c (fun i j => rRat (f i j)) h0 hr hc') (hA.le (by decide)) (EVs_cons ?a2 EVs_nil) rfl rfl rfl).ev EV_int (by decide) rfl) hc' rfl rfl rfl rfl)
    (fun col J => J = ⟨ownCells _, [("found", .ref b), ("pivots", .ref p), ("a", v)], [(v, rM r c f)], [(p, ((ech r f col).2.map fun k => ((k : Nat) : Int)).map rInt), (b, (List.map (fun i => rNew S (rV c ((ech r f col).1 i))) (List.range r)))], fun d => (False ∨ d = b) ∨ d = p, S⟩) rfl (fun i J' e => e ▸ ⟨rfl, rfl, rfl, rfl⟩) kr_mono rfl (store1 ?k3) ?turn ?fin
  case a2 => walk_at "q_name"
  case k3 => walk_at "q_kind"
  case fin =>
    rintro _ rfl
    refine ST_ret (R := rTup [rIs (.ref b), rIs (.ref p)]) (EV_tuple (EVs_cons ?b1 (EVs_cons ?b2 EVs_nil))) fun B hp t a x => ?_
    case b1 => walk_at "q_val"
    case b2 => walk_at "q_val"
    obtain ⟨t, vs, rfl, qt, r'⟩ := x
    obtain ⟨⟨us, qb, rb⟩, _⟩ := a.mu _ (.tail _ (.head _))
    obtain ⟨⟨ws, qp, rp⟩, _⟩ := a.mu _ (.head _)
    match vs, r' with
    | [x, y], r' =>
      obtain ⟨e1, e2, _⟩ := r'
      cases e1; cases e2
      refine ⟨a.fm.keep, t, _, rfl, qt, ⟨b, us, rfl, nb, qb, ?_⟩, ⟨p, ws, rfl, np, qp, ?_⟩, trivial⟩
      · refine all2_new (X := fun d => (False ∨ d = b) ∨ d = p) _ _ ?_
        rw [List.map_map]
        exact rb
      · exact all2_free (fun R hm => by obtain ⟨i, _, rfl⟩ := List.mem_map.mp hm; exact rInt_free _) _ rp
  case turn =>
    rintro col _ hcol rfl
    refine ⟨?w, ?d, fun vc => ?b⟩
    case d => walk_at "q_drop"
    case b =>
      generalize hst : ech r f col = st
      have hstep : ech r f (col + 1) = eStep r st col := by rw [← hst]; rfl
      have hbd : EBd (eB col) r c st.1 := hst ▸ ech_bd hb col (by omega)
      have heb := eB_le (show col < 4 by omega)
      have hlen : st.2.length ≤ col := hst ▸ ech_len col
      obtain ⟨g, P⟩ := st
      simp only at hbd hlen ⊢
      refine ST_set (R := rInt P.length) (EV.conv (EV_lenM G (b := p) (Rs := (P.map fun k => ((k : Nat) : Int)).map rInt) ?c1 ?c2 ?c3 rfl rfl rfl rfl) ?c4) (m₀ := ?m2) ?cap2 rfl ?k4 fun vr => ?_
      case c1 => walk_at "q_val"
      case c2 => walk_at "q_mu"
      case c3 => simp; omega
      case c4 => simp
      case cap2 => walk_at "q_drop"
      case k4 => walk_at "q_kind"
      refine ST_setComp1T (n := r - P.length) (V := fun i => rInt ((P.length : Int) + (i : Int))) (m₀ := ?m3) (m₁ := ?m4) (fun i => decide (g (P.length + i) col ≠ 0)) (fun i => rInt ((P.length : Int) + (i : Int))) (SRC_range2 G (k₀ := P.length) (k₁ := r) hA.hh ?d1 (EV_lenML G (b := b) (n := r) (g := fun i => rNew S (rV c (g i))) ?d2 ?d3 hr rfl rfl rfl rfl) (by omega) (by omega) (by omega) (by omega) (by omega) rfl rfl rfl rfl) (by omega) ?cap3
        (fun C k i x hi => ?test) (fun C k i x hi _ => ?elt) ?cap4 rfl ?k5 fun vs => ?_
      case d1 => walk_at "q_name"
      case d2 => walk_at "q_val"
      case d3 => walk_at "q_mu"
      case cap3 => walk_at "q_cap"
      case cap4 => walk_at "q_drop"
      case k5 => walk_at "q_kind"
      case test =>
        refine ET_of (R := rRat (g (P.length + i) col)) (EV_itemL (n := c) (g := fun j => rRat (g (P.length + i) j)) (k := col) (EV_itemML (b := b) (n := r) (g := fun i => rNew S (rV c (g i))) (k := P.length + i) ?e1 ?e2 (EV.conv (R := rInt ((P.length : Int) + (i : Int))) ?e3 rfl) (by omega) hr).old ?e4 hcol hc') (EV_R0 G rfl rfl rfl) (cmp_neR hA.cmp)
        case e1 => walk_at "q_val"
        case e2 => walk_at "q_mu"
        case e3 => walk_at "q_name"
        case e4 => walk_at "q_name"
      case elt =>
        refine EV.new ?_ (rInt_free _)
        walk_at "q_name"
      show ST _ _ _ _ _ ⟨_, _, (vs, rList ((eFind r g P.length col).map fun i : Nat => rInt ((P.length : Int) + (i : Int)))) :: _, _, _, _⟩ _ _
      cases hf : eFind r g P.length col with
      | nil =>
        refine ST_if (c := true) ((ET_of (R := rInt 0) ((EV_len G (Rs := ([] : List Nat).map fun i : Nat => rInt ((P.length : Int) + (i : Int))) ?f1 (by simp) rfl rfl rfl rfl).conv rfl) EV_int cmp_eq).conv (by decide)) (fun _ => ST_cont fun B hp a' => ?f2) (fun h => nomatch h)
        case f1 => walk_at "q_name"
        case f2 =>
          refine ⟨_, rfl, ?_⟩
          have e : eStep r (g, P) col = (g, P) := by unfold eStep; simp only; rw [hf]
          rw [hstep, e]
          refine At.less a' ?_ ?_
          · walk_at "q_sub"
          · walk_at "q_sub"
      | cons s l =>
        obtain ⟨hs1, hs2⟩ := eFind_mem hf
        have hrow : P.length < r := by omega
        refine ST_if (c := false) ((ET_of (R := rInt (((s :: l).map fun i : Nat => rInt ((P.length : Int) + (i : Int))).length : Int)) (EV_len G (Rs := (s :: l).map fun i : Nat => rInt ((P.length : Int) + (i : Int))) ?f1 ?f3 rfl rfl rfl rfl) EV_int cmp_eq).conv (by simp; omega)) (fun h => nomatch h) (fun _ => ?f2)
        case f1 => walk_at "q_name"
        case f3 =>
          have h1 : (eFind r g P.length col).length ≤ r - P.length := by
            unfold eFind
            refine Nat.le_trans (List.length_filter_le _ _) ?_
            rw [List.length_range]
            exact Nat.le_refl _
          rw [hf] at h1
          rw [List.length_map]
          omega
        case f2 =>
          refine ST_exprM (EM_callN G (swap_rows_pm G S b r (fun i => rNew S (rV c (g i))) P.length (P.length + s) hrow hs1 hr) (.tl .hd) rfl (fun _ q => q) (hA.le (by decide)) (EVs_cons ?g1 (EVs_cons ?g2 (EVs_cons (EV.conv (R := rInt ((P.length : Int) + (s : Int))) (EV_item (Rs := (s :: l).map fun i : Nat => rInt ((P.length : Int) + (i : Int))) (k := 0) ?g3 EV_int (by decide) rfl (by decide)) rfl) EVs_nil))) rfl rfl rfl) ?_
          case g1 => walk_at "q_val"
          case g2 => walk_at "q_name"
          case g3 => walk_at "q_name"
          have e1 : ((List.range r).map fun k => if k = P.length + s then rNew S (rV c (g P.length)) else if k = P.length then rNew S (rV c (g (P.length + s))) else rNew S (rV c (g k))) = (List.map (fun i => rNew S (rV c ((eSwap g P.length (P.length + s)) i))) (List.range r)) := rl_congr fun i _ => by
            unfold eSwap
            by_cases q1 : i = P.length + s
            · rw [if_pos q1]; exact congrArg (rNew S) (rL_congr fun j _ => congrArg rRat (if_pos q1).symm)
            · rw [if_neg q1]
              by_cases q2 : i = P.length
              · rw [if_pos q2]; exact congrArg (rNew S) (rL_congr fun j _ => congrArg rRat ((if_neg q1).trans (if_pos q2)).symm)
              · rw [if_neg q2]; exact congrArg (rNew S) (rL_congr fun j _ => congrArg rRat ((if_neg q1).trans (if_neg q2)).symm)
          rw [e1]
          have b1 := swap_bd hbd hrow hs1
          have n1 : eSwap g P.length (P.length + s) P.length col ≠ 0 := by rw [swap_row]; exact hs2
          have enew : eStep r (g, P) col = (eElim (eScale (eSwap g P.length (P.length + s)) P.length col) P.length col r, P ++ [col]) := by
            unfold eStep; simp only; rw [hf]; rfl
          generalize eSwap g P.length (P.length + s) = g1 at b1 n1 enew ⊢
          refine ST_set (EV_itemL (n := c) (g := fun j => rRat (g1 P.length j)) (k := col) (EV_itemML (b := b) (n := r) (g := fun i => rNew S (rV c (g1 i))) (k := P.length) ?h1 ?h2 ?h3 hrow hr).old ?h4 hcol hc') (m₀ := ?m5) ?cap5 rfl ?k6 fun vl => ?_
          case h1 => walk_at "q_val"
          case h2 => walk_at "q_mu"
          case h3 => walk_at "q_name"
          case h4 => walk_at "q_name"
          case cap5 => walk_at "q_drop"
          case k6 => walk_at "q_kind"
          refine ST_store (b := b) (j := P.length) (R := rNew S (rV c fun j => g1 P.length j / g1 P.length col)) (EVN.new (EVN_comp1 (m₀ := ?m6) (fun j => rRat (g1 P.length j / g1 P.length col)) (SRC_listL c (fun j => rRat (g1 P.length j)) hA.hh (EV_itemML (b := b) (n := r) (g := fun i => rNew S (rV c (g1 i))) (k := P.length) ?i1 ?i2 ?i3 hrow hr).old) hc' ?cap6 fun C k j x hj => ?i4) fun _ q => q) ?i5 ?i6 (by rw [rl_len]; exact hrow) (by rw [rl_len]; exact hr) (.tl .hd) ?_
          case i1 => walk_at "q_val"
          case i2 => walk_at "q_mu"
          case i3 => walk_at "q_name"
          case cap6 => walk_at "q_cap"
          case i5 => walk_at "q_val"
          case i6 => walk_at "q_name"
          case i4 =>
            refine EVN_call G (rdiv_pc G _ _ 4499 4499 ((b1 _ _ hrow hj).le (by omega)) ((b1 _ _ hrow hcol).le (by omega)) (by omega) n1) (hA.le (by decide)) (EVs_cons ?j1 (EVs_cons ?j2 EVs_nil)) rfl rfl rfl
            case j1 => walk_at "q_name"
            case j2 => walk_at "q_name"
          have e2 : ((List.map (fun i => rNew S (rV c (g1 i))) (List.range r))).set P.length (rNew S (rV c fun j => g1 P.length j / g1 P.length col)) = (List.map (fun i => rNew S (rV c ((eElim (eScale g1 P.length col) P.length col 0) i))) (List.range r)) := by
            rw [range_set]
            refine rl_congr fun i _ => ?_
            by_cases q1 : i = P.length
            · rw [if_pos q1]; exact congrArg (rNew S) (rL_congr fun j _ => congrArg rRat (by rw [elim_zero]; unfold eScale; rw [if_pos q1]))
            · rw [if_neg q1]; exact congrArg (rNew S) (rL_congr fun j _ => congrArg rRat (by rw [elim_zero]; unfold eScale; rw [if_neg q1]))
          rw [e2]
          have b2 := scale_bd b1 hrow hcol n1
          generalize eScale g1 P.length col = g2 at b2 enew ⊢
          refine ST_less (m' := [("row", vr), ("column", vc), ("found", .ref b), ("pivots", .ref p), ("a", v)]) (D' := [(vr, rInt P.length), (vc, rInt col), (v, rM r c f)]) ?l1 ?l2 ?_
          case l1 => walk_at "q_sub"
          case l2 => walk_at "q_sub"
          refine ST_for1 (SRC_rangeL G r hA.hh (EV_lenML G (b := b) (n := r) (g := fun i => rNew S (rV c (eElim g2 P.length col 0 i))) ?o1 ?o2 hr rfl rfl rfl rfl) hr rfl rfl rfl rfl)
            (fun m J => J = ⟨ownCells _, [("row", vr), ("column", vc), ("found", .ref b), ("pivots", .ref p), ("a", v)], [(vr, rInt P.length), (vc, rInt col), (v, rM r c f)], [(p, (P.map fun k => ((k : Nat) : Int)).map rInt), (b, (List.map (fun i => rNew S (rV c ((eElim g2 P.length col m) i))) (List.range r)))], fun d => (False ∨ d = b) ∨ d = p, S⟩) rfl (by rintro i J' rfl; exact ⟨rfl, rfl, rfl, by simp only [List.map_cons, List.map_nil]⟩) (kw_mono kr_mono) rfl (store1 ?o3) ?turn2 ?fin2
          case o1 => walk_at "q_val"
          case o2 => walk_at "q_mu"
          case o3 => walk_at "q_kind"
          case turn2 =>
            rintro m _ hm rfl
            refine ⟨?w2, ?d2, fun vo => ?b2⟩
            case d2 => walk_at "q_drop"
            case b2 =>
              refine ST_if (c := decide ((m : Int) ≠ (P.length : Int)) && decide (eElim g2 P.length col m m col ≠ 0)) (ET_and (ET_of (R := rInt m) ?u1 ?u2 cmp_ne) fun _ => ET_of (R := rRat (eElim g2 P.length col m m col)) (EV_itemL (n := c) (g := fun j => rRat (eElim g2 P.length col m m j)) (k := col) (EV_itemML (b := b) (n := r) (g := fun i => rNew S (rV c (eElim g2 P.length col m i))) (k := m) ?u3 ?u4 ?u5 hm hr).old ?u6 hcol hc') (EV_R0 G rfl rfl rfl) (cmp_neR hA.cmp)) (fun hy => ?yes) (fun hn => ?no)
              case u1 => walk_at "q_name"
              case u2 => walk_at "q_name"
              case u3 => walk_at "q_val"
              case u4 => walk_at "q_mu"
              case u5 => walk_at "q_name"
              case u6 => walk_at "q_name"
              case yes =>
                have hy' : m ≠ P.length := by
                  have := (Bool.and_eq_true_iff.mp hy).1
                  simp at this; omega
                refine ST_exprM (EM_callN G (take_off_pm G S b r c (eElim g2 P.length col m) m P.length (eElim g2 P.length col m m col) hm hrow hr hc' fun j hj => ?z0) (.tl .hd) (by simp only [List.map_cons, List.map_nil]) (fun _ q => q) (hA.le (by decide)) (EVs_cons ?z1 (EVs_cons ?z2 (EVs_cons ?z3 (EVs_cons (EV_itemL (n := c) (g := fun j => rRat (eElim g2 P.length col m m j)) (k := col) (EV_itemML (b := b) (n := r) (g := fun i => rNew S (rV c (eElim g2 P.length col m i))) (k := m) ?z4 ?z5 ?z6 hm hr).old ?z7 hcol hc') EVs_nil)))) rfl rfl rfl) (ST_nil fun B hp a' => ⟨_, rfl, ?z8⟩)
                case z0 =>
                  rw [elim_at, elim_at, elim_row]
                  have q1 := b2 m j hm hj
                  have q2 := b2 m col hm hcol
                  have q3 := b2 _ j hrow hj
                  rw [if_neg hy'] at q1 q2
                  rw [if_pos rfl] at q3
                  exact ⟨q1.le (by omega), q2.le (by omega), q3.le (by omega), (bd_mul q2 q3).le (by omega)⟩
                case z1 => walk_at "q_val"
                case z2 => walk_at "q_name"
                case z3 => walk_at "q_name"
                case z4 => walk_at "q_val"
                case z5 => walk_at "q_mu"
                case z6 => walk_at "q_name"
                case z7 => walk_at "q_name"
                case z8 =>
                  rw [rows_congr (g := offRow (eElim g2 P.length col m) m P.length (eElim g2 P.length col m m col)) fun i j _ _ => elim_off hy' i j] at a'
                  refine At.less a' ?_ ?_
                  · walk_at "q_sub"
                  · walk_at "q_sub"
              case no =>
                refine ST_nil fun B hp a' => ⟨_, rfl, ?_⟩
                rw [rows_congr fun i j _ _ => elim_skip (m := m) ?hk i j] at a'
                case hk =>
                  by_cases q : m = P.length
                  · exact .inl q
                  · right
                    have q' : ¬ ((m : Int) = (P.length : Int)) := by omega
                    rw [elim_at] at hn
                    simpa [q'] using hn
                refine At.less a' ?_ ?_
                · walk_at "q_sub"
                · walk_at "q_sub"
          case fin2 =>
            rintro _ rfl
            refine ST_append (b := p) (R := rInt col) ?y1 .hd ?y2 (by simp; omega) (ST_nil fun B hp a' => ⟨_, rfl, ?_⟩)
            case y1 => walk_at "q_val"
            case y2 => walk_at "q_name"
            rw [hstep, enew]
            have e3 : (P.map fun k => ((k : Nat) : Int)).map rInt ++ [rInt col] = ((P ++ [col]).map fun k => ((k : Nat) : Int)).map rInt := by simp
            rw [e3] at a'
            refine At.less a' ?_ ?_
            · walk_at "q_sub"
            · walk_at "q_sub"
end

def depAt (g : Mt) (last i j : Nat) : Rat := if j < i then -(g j last) else if j = last then 1 else 0
def pw (f : Mt) (n : Nat) : Nat → Mt
  | 0 => un
  | k + 1 => fun r c => sumN n fun l => pw f n k r l * f l c
/-- the powers, one to a column -/
def pm (f : Mt) (n : Nat) : Mt := fun i j => pw f n j (i / n) (i % n)
structure MinOk (f : Mt) (n d : Nat) : Prop where
  d3 : d ≤ 3
  dN : d ≤ n * n
  none : ∀ k, k < d → k ∈ (ech (n * n) (pm f n) (k + 1)).2
  some : (ech (n * n) (pm f n) (d + 1)).2 = List.range d
  bd : EBd 20 (n * n) 4 (pm f n)
  mul : ∀ k, k < d → ∀ r c, r < n → c < n → DotOk n (pw f n k r) (fun l => f l c)
section
variable {prog : Program} {w : World} {base : Heap} {mg mb : Str → Option Value}
theorem ints_contains (P : List Nat) (k : Nat) : (P.map fun j => ((j : Nat) : Int)).contains (k : Int) = decide (k ∈ P) := by
  rw [List.contains_eq_mem, decide_eq_decide, List.mem_map]
  constructor
  · rintro ⟨a, h, e⟩; rw [show k = a by omega]; exact h
  · intro h; exact ⟨k, h, rfl⟩
section
variable (G : Gl base mg mb) (k N : Nat) (v : Mt) (hk : 0 < k) (hk4 : k ≤ 4) (hN : 0 < N) (hN' : N ≤ 1000) (hb : EBd 20 N k fun i j => v j i)
include G hk hk4 hN hN' hb
theorem dep_none_pc (hP : k - 1 ∈ (ech N (fun i j => v j i) k).2) : PC prog w base mg "dependence" 6 [rM k N v] rNone := by
  refine PC_intro1 G (k := 33) rfl "rows" fun A L fa cd q vr S hA => ?_
  refine ST_unpack hA.hh (EVN_call G (echelon_pc G N k (fun i j => v j i) hN hN' hk4 hb) hA (EVs_cons (EVN_call G (transposed_pc G k N v hk (by omega) hN') (hA.le (by decide)) (EVs_cons ?a1 EVs_nil) rfl rfl rfl).ev EVs_nil) rfl rfl rfl).ev (m₀ := ?m) ?cap rfl (store2 ?k1 ?k2) (by decide) fun x y => ?_
  case a1 => walk_at "q_name"
  case cap => walk_at "q_drop"
  case k1 => walk_at "q_kind"
  case k2 => walk_at "q_kind"
  refine ST_set (R := rInt ((k - 1 : Nat) : Int)) (EV.conv (EV_sub (EV_lenL G (n := k) (g := fun i => rV N (v i)) ?a2 (by omega) rfl rfl rfl rfl) EV_int) (congrArg rInt (by omega))) (m₀ := ?m2) ?cap2 rfl ?k3 fun z => ?_
  case a2 => walk_at "q_name"
  case cap2 => walk_at "q_drop"
  case k3 => walk_at "q_kind"
  refine ST_if (c := true) (ET.conv (ET_of (R := rInt ((k - 1 : Nat) : Int)) (S := rInts ((ech N (fun i j => v j i) k).2.map fun j => ((j : Nat) : Int))) ?a3 ?a4 cmp_in) (by rw [ints_contains]; simpa using hP)) (fun _ => ST_retF EV_none rfl rNone_free) (fun h => nomatch h)
  case a3 => walk_at "q_name"
  case a4 => walk_at "q_name"
theorem dep_some_pc (hP : (ech N (fun i j => v j i) k).2 = List.range (k - 1)) (hl : k - 1 ≤ N) : PC prog w base mg "dependence" 6 [rM k N v] (rL k fun j => rRat (depAt (ech N (fun i j => v j i) k).1 (k - 1) (k - 1) j)) := by
  refine PC_intro1 G (k := 33) rfl "rows" fun A L fa cd q vr S hA => ?_
  refine ST_unpack hA.hh (EVN_call G (echelon_pc G N k (fun i j => v j i) hN hN' hk4 hb) hA (EVs_cons (EVN_call G (transposed_pc G k N v hk (by omega) hN') (hA.le (by decide)) (EVs_cons ?a1 EVs_nil) rfl rfl rfl).ev EVs_nil) rfl rfl rfl).ev (m₀ := ?m) ?cap rfl (store2 ?k1 ?k2) (by decide) fun x y => ?_
  case a1 => walk_at "q_name"
  case cap => walk_at "q_drop"
  case k1 => walk_at "q_kind"
  case k2 => walk_at "q_kind"
  rw [hP]
  generalize (ech N (fun i j => v j i) k).1 = g
  refine ST_set (R := rInt ((k - 1 : Nat) : Int)) (EV.conv (EV_sub (EV_lenL G (n := k) (g := fun i => rV N (v i)) ?a2 (by omega) rfl rfl rfl rfl) EV_int) (congrArg rInt (by omega))) (m₀ := ?m2) ?cap2 rfl ?k3 fun z => ?_
  case a2 => walk_at "q_name"
  case cap2 => walk_at "q_drop"
  case k3 => walk_at "q_kind"
  obtain ⟨last, rfl⟩ : ∃ last, k = last + 1 := ⟨k - 1, by omega⟩
  simp only [Nat.add_sub_cancel] at hl ⊢
  refine ST_if (c := false) (ET.conv (ET_of (R := rInt (last : Int)) (S := rInts ((List.range last).map fun j => ((j : Nat) : Int))) ?a3 ?a4 cmp_in) (by rw [ints_contains]; simp)) (fun h => nomatch h) (fun _ => ?_)
  case a3 => walk_at "q_name"
  case a4 => walk_at "q_name"
  refine ST_setOwn (Rs := (List.range (last + 1)).map fun j => rRat (depAt g last 0 j)) (EVN.conv (EVL.evn (EVL_add (EVL_mul (k := (last : Int)) (EVN_list (Rs := [rRat 0]) (EVs_cons (EV_R0 G rfl rfl rfl) EVs_nil) ?f1).ev ?a5 ?n1 ?n2).ev (EVN_list (Rs := [rRat 1]) (EVs_cons (EV_R1 G rfl rfl rfl) EVs_nil) ?f2).ev ?n3) ?f3) ?c1) (selfless_free ?f4) (m₀ := ?m3) ?cap3 rfl ?k4 fun b nb => ?_
  case f1 => intro R hm; rw [List.mem_singleton.mp hm]; exact rRat_free _
  case f2 => intro R hm; rw [List.mem_singleton.mp hm]; exact rRat_free _
  case f3 =>
    intro R hm
    rcases List.mem_append.mp hm with hm | hm
    · rw [List.eq_of_mem_replicate hm]; exact rRat_free _
    · rw [List.mem_singleton.mp hm]; exact rRat_free _
  case f4 =>
    intro R hm
    obtain ⟨i, _, rfl⟩ := List.mem_map.mp hm
    exact rRat_free _
  case a5 => exact EV.conv (R := rInt (last : Int)) (by walk_at "q_name") rfl
  case n1 => omega
  case n2 => omega
  case n3 => simp; omega
  case c1 =>
    refine congrArg rList ?_
    rw [← range_snoc, Int.toNat_natCast]
    congr 1
    · apply List.ext_getElem
      · simp
      · intro i h1 h2
        simp at h1
        simp only [List.getElem_replicate, List.getElem_map, List.getElem_range]
        unfold depAt
        rw [if_neg (by omega), if_neg (by omega)]
    · unfold depAt
      rw [if_neg (by omega), if_pos rfl]
  case cap3 => walk_at "q_drop"
  case k4 => walk_at "q_kind"
  refine ST_less (m' := [("found", .ref b), ("last", z), ("reduced", x), ("pivots", y)]) (D' := [(z, rInt (last : Int)), (x, rM N (last + 1) g), (y, rInts ((List.range last).map fun j => ((j : Nat) : Int)))]) ?l1 ?l2 ?_
  case l1 => walk_at "q_sub"
  case l2 => walk_at "q_sub"
  refine ST_for2 (SRC_enumL G last (fun i => rInt i) hA.hh (EV.conv (R := rInts ((List.range last).map fun j => ((j : Nat) : Int))) ?a6 (congrArg rList (by rw [List.map_map]; rfl))) rfl rfl rfl rfl)
    (fun i J => J = ⟨ownCells _, [("found", .ref b), ("last", z), ("reduced", x), ("pivots", y)], [(z, rInt (last : Int)), (x, rM N (last + 1) g), (y, rInts ((List.range last).map fun j => ((j : Nat) : Int)))], [(b, (List.range (last + 1)).map fun j => rRat (depAt g last i j))], fun d => False ∨ d = b, S⟩) rfl (by rintro i J' rfl; exact ⟨rfl, rfl, rfl, by simp only [List.map_cons, List.map_nil]⟩) kr_mono rfl (store2 ?k5 ?k6) ?turn ?fin
  case a6 => walk_at "q_name"
  case k5 => walk_at "q_kind"
  case k6 => walk_at "q_kind"
  case turn =>
    rintro i _ hi rfl
    refine ⟨?w, ?d, fun va vc => ?b⟩
    case d => walk_at "q_drop"
    case b =>
      refine ST_store (b := b) (j := i) (R := rRat (-(g i last))) (EVN_call G (rneg_pc G (g i last)) (hA.le (by decide)) (EVs_cons (EV_itemL (n := last + 1) (g := fun j => rRat (g i j)) (k := last) (EV_itemL (n := N) (g := fun i => rV (last + 1) (g i)) (k := i) ?b1 ?b2 (by omega) hN') ?b3 (by omega) (by omega)) EVs_nil) rfl rfl rfl).ev ?b4 ?b5 (by simp; omega) (by simp; omega) .hd (ST_nil fun B hp a' => ⟨_, rfl, ?b6⟩)
      case b1 => walk_at "q_name"
      case b2 => walk_at "q_name"
      case b3 => walk_at "q_name"
      case b4 => walk_at "q_val"
      case b5 => walk_at "q_name"
      case b6 =>
        have e : ((List.range (last + 1)).map fun j => rRat (depAt g last i j)).set i (rRat (-(g i last))) = (List.range (last + 1)).map fun j => rRat (depAt g last (i + 1) j) := by
          rw [range_set]
          refine rl_congr fun j hj => ?_
          unfold depAt
          by_cases q : j = i
          · subst q; rw [if_pos rfl, if_pos (by omega)]
          · rw [if_neg q]
            by_cases q2 : j < i
            · rw [if_pos q2, if_pos (by omega)]
            · rw [if_neg q2, if_neg (show ¬ j < i + 1 by omega)]
        rw [e] at a'
        refine At.less a' ?_ ?_
        · walk_at "q_sub"
        · walk_at "q_sub"
  case fin =>
    rintro _ rfl
    refine ST_retMu (EV_localV (v := .ref b) ?b1 rfl rfl) (.head _) nb fun h vs r => all2_free (fun R hm => ?_) vs r
    case b1 => walk_at "q_mu"
    obtain ⟨i, _, rfl⟩ := List.mem_map.mp hm; exact rRat_free _
end

theorem minpoly_pc (G : Gl base mg mb) (n d : Nat) (f : Mt) (h0 : 0 < n) (hn : n ≤ 3) (ok : MinOk f n d) : PC prog w base mg "minpoly" 7 [rM n n f] (rL (d + 1) fun j => rRat (depAt (ech (n * n) (pm f n) (d + 1)).1 d d j)) := by
  have hn' : n ≤ 1000 := by omega
  have hN : 0 < n * n := Nat.mul_pos h0 h0
  have hN9 : n * n ≤ 3 * 3 := Nat.mul_le_mul hn hn
  have hd := ok.d3
  have bdk : ∀ k, k ≤ 4 → EBd 20 (n * n) k (fun i j => (fun j i => pm f n i j) j i) := fun k hk i j hi hj => ok.bd i j hi (by omega)
  refine PC_intro1 G (k := 32) rfl "a" fun A L fa cd q v S hA => ?_
  refine ST_swapOwn hA.hh (EVN_list EVs_nil (fun R hm => nomatch hm)) (selfless_free fun R hm => nomatch hm) (EVN.conv (R' := rM n n (pw f n 0)) (EVN_call G (unit_matrix_pc G n hn') (hA.le (by decide)) (EVs_cons (EV_lenL G (n := n) (g := fun i => rV n (f i)) ?a1 hn' rfl rfl rfl rfl) EVs_nil) rfl rfl rfl) ?c0) (m₀ := ?m) ?cap rfl rfl rfl (by decide +kernel) fun b u nb => ?_
  case a1 => walk_at "q_name"
  case c0 => rfl
  case cap => walk_at "q_drop"
  refine ST_less (m' := [("rows", .ref b), ("power", u), ("a", v)]) (D' := [(u, rM n n (pw f n 0)), (v, rM n n f)]) ?l1 ?l2 ?_
  case l1 => walk_at "q_sub"
  case l2 => walk_at "q_sub"
  refine ST_while (fun m J => ∃ k u, m = d - k ∧ k ≤ d ∧ J = ⟨ownCells _, [("rows", .ref b), ("power", u), ("a", v)], [(u, rM n n (pw f n k)), (v, rM n n f)], [(b, (List.range k).map fun j => rV (n * n) fun i => pm f n i j)], fun d => False ∨ d = b, S⟩) d ⟨0, u, rfl, Nat.zero_le _, rfl⟩ ?_
  rintro m _ ⟨k, u, rfl, hk, rfl⟩
  refine ⟨true, ET_true, fun _ => ?_, fun h => nomatch h⟩
  refine ST_append (b := b) (Rs := (List.range k).map fun j => rV (n * n) fun i => pm f n i j) (R := rV (n * n) fun i => pm f n i k) (M' := [(b, (List.range (k + 1)).map fun j => rV (n * n) fun i => pm f n i j)]) (EV_localV ?b1 rfl rfl) ?b0 (EV.conv (EVN_call G (flat_pc G n n (pw f n k) hn' hn' (by omega)) (hA.le (by decide)) (EVs_cons ?b2 EVs_nil) rfl rfl rfl).ev rfl) (by rw [rl_len]; omega) ?_
  case b0 =>
    dsimp only
    rw [← range_snoc k (fun j => rV (n * n) fun i => pm f n i j)]
    exact .hd
  case b1 => walk_at "q_mu"
  case b2 => walk_at "q_name"
  by_cases hkd : k < d
  · refine ST_set (EVN_callA G (dep_none_pc G (k + 1) (n * n) (fun j i => pm f n i j) (by omega) (by omega) hN (by omega) (bdk _ (by omega)) (ok.none k hkd)) hA (EAs_cons (EA_mu (b := b) ?c1 ?c2) EAs_nil) rfl rfl rfl).ev (m₀ := ?m2) ?cap2 rfl ?k1 fun t => ?_
    case c1 => walk_at "q_val"
    case c2 => walk_at "q_mu"
    case cap2 => walk_at "q_drop"
    case k1 => walk_at "q_kind"
    refine ST_skip (c := false) (ET_of (R := rNone) ?c3 EV_none cmp_isNot_none) rfl ?_
    case c3 => walk_at "q_name"
    refine ST_set (EV.conv (R' := rM n n (pw f n (k + 1))) (EVN_call G (mat_mul_pc G n n n (pw f n k) f h0 h0 hn' hn' hn' (ok.mul k hkd)) (hA.le (by decide)) (EVs_cons ?c4 (EVs_cons ?c5 EVs_nil)) rfl rfl rfl).ev rfl) (m₀ := ?m3) ?cap3 rfl ?k2 fun u' => ?_
    case c4 => walk_at "q_name"
    case c5 => walk_at "q_name"
    case cap3 => walk_at "q_drop"
    case k2 => walk_at "q_kind"
    refine ST_nil fun B hp a' => ⟨_, ⟨d - (k + 1), by omega, k + 1, u', rfl, by omega, rfl⟩, ?_⟩
    refine At.less a' ?_ ?_
    · walk_at "q_sub"
    · walk_at "q_sub"
  · obtain rfl : k = d := by omega
    refine ST_setN (EVN.conv (R' := rL (k + 1) fun j => rRat (depAt (ech (n * n) (pm f n) (k + 1)).1 k k j)) (EVN_callA G (dep_some_pc G (k + 1) (n * n) (fun j i => pm f n i j) (by omega) (by omega) hN (by omega) (bdk _ (by omega)) ok.some ok.dN) hA (EAs_cons (EA_mu (b := b) ?c1 ?c2) EAs_nil) rfl rfl rfl) rfl) (m₀ := ?m2) ?cap2 rfl ?k1 fun t => ?_
    case c1 => walk_at "q_val"
    case c2 => walk_at "q_mu"
    case cap2 => walk_at "q_drop"
    case k1 => walk_at "q_kind"
    refine ST_if (c := true) (ET_of (R := rL (k + 1) fun j => rRat (depAt (ech (n * n) (pm f n) (k + 1)).1 k k j)) ?c3 EV_none cmp_isNot_list) (fun _ => ST_ret (R := rNew S (rL (k + 1) fun j => rRat (depAt (ech (n * n) (pm f n) (k + 1)).1 k k j))) ?c4 fun B hp v a x => ⟨a.fm.keep, rNew_s x⟩) (fun h => nomatch h)
    case c3 => walk_at "q_name"
    case c4 => walk_at "q_name"
end


/-! ## the box of numbers -/
abbrev Bx := List Int × Int
def takeV (st : Bx) (w : Int) : Int := match st.1 with
  | a :: _ => a.fmod w
  | [] => (((st.2 * 48271 + 11).fmod 2147483647).fdiv 97).fmod w
def takeS (st : Bx) : Bx := match st.1 with
  | _ :: t => (t, st.2)
  | [] => ([], (st.2 * 48271 + 11).fmod 2147483647)
abbrev bx (x y : Addr) (st : Bx) : List (Addr × List RV) := [(x, [rIs (.ref y), rInt st.2]), (y, st.1.map rInt)]
structure BxOk (st : Bx) : Prop where
  lo : 0 ≤ st.2
  hi : st.2 < 2147483647
  len : st.1.length ≤ 1000
theorem BxOk.next {st : Bx} (h : BxOk st) : BxOk (takeS st) := by
  obtain ⟨l, z⟩ := st
  cases l with
  | nil => exact ⟨Int.fmod_nonneg_of_pos _ (by decide), Int.fmod_lt_of_pos _ (by decide), h.len⟩
  | cons a t => exact ⟨h.lo, h.hi, by have := h.len; simp [takeS] at this ⊢; omega⟩
theorem takeV_rng {st : Bx} {w : Int} (hw : 0 < w) : 0 ≤ takeV st w ∧ takeV st w < w := by
  unfold takeV
  split
  · exact ⟨Int.fmod_nonneg_of_pos _ hw, Int.fmod_lt_of_pos _ hw⟩
  · exact ⟨Int.fmod_nonneg_of_pos _ hw, Int.fmod_lt_of_pos _ hw⟩

section
variable {prog : Program} {w : World} {base : Heap} {mg mb : Str → Option Value} {A : Around} {env : Env} {J : Inv}
/-! ## displays of new things -/
variable (prog w base A env) in
def ENs (J : Inv) (es : List Expr) (Rs : List RV) : Prop :=
  ∀ B s pos (Q : List Value → Shared → Prop) (E : Value → Shared → Prop), At base B env J s.heap → (∀ vs h' tk, Ext s.heap h' → All2 (dom s.heap) h' Rs vs → Q vs { s with heap := h', toks := tk }) →
    wpAny (model prog w) A (spliced (backTo pos (starEach es env))) Q E s
theorem ENs_nil : ENs prog w base A env J [] [] := fun B s pos Q E a k => args_nil (k [] s.heap s.toks (Ext.refl _) trivial)
theorem ENs_cons {e : Expr} {rest : List Expr} {R : RV} {Rs : List RV} (he : EVN prog w base A env J e R) (hr : ENs prog w base A env J rest Rs)
    (hs : starEach (e :: rest) env = (false, eval e env) :: starEach rest env := by rfl) : ENs prog w base A env J (e :: rest) (R :: Rs) := fun B s pos Q E a k =>
  args_cons (he B s _ E a fun v h₁ t₁ k₁ x => hr B _ pos _ E (a.ext k₁) fun vs h₂ t₂ k₂ y => k (v :: vs) h₂ t₂ (k₁.trans k₂) ⟨RV.ext x k₂, y.imp fun R v _ z => R.anti _ _ _ _ (dom_ext k₁) z⟩) hs
theorem EVN_listN {es : List Expr} {pos : Pos} {Rs : List RV} (h : ENs prog w base A env J es Rs) (hsz : Rs.length ≤ sizeLine := by rw [sizeLine_eq]; exact Nat.le_of_ble_eq_true rfl) : EVN prog w base A env J (.List es pos) (rList Rs) := fun B s Q E a kk =>
  List_ (h B s pos _ E a fun vs h₁ t₁ k₁ x => wpAny_newObj_type (kk _ _ _ (k₁.trans (Ext.push _ _)) ⟨_, vs, rfl, (fun q => q (none_up k₁ new_none)), ⟨_, Heap.get?_push_size _ rfl⟩, x.imp fun R v _ z => RV.ext z (Ext.push _ _)⟩) (by show vs.toArray.size ≤ _; rw [List.size_toArray, x.len]; exact hsz))

/-! ## evaluations that change lists in hand -/
theorem EM_mod {l r : Expr} {pos : Pos} {a b : Int} {M' : List (Addr × List RV)} (hl : EM prog w base A env J l M' (rInt a)) (hr : EV prog w base A env { J with Mu := M' } r (rInt b)) (hb : b ≠ 0) : EM prog w base A env J (.BinOp l .Mod r pos) M' (rInt (a.fmod b)) := fun B s Q E a' k =>
  wpAny_BinOp (hl B s _ E a' fun v h₁ t₁ a₁ x => hr B _ _ E a₁ fun u h₂ t₂ k₂ y => by
    obtain ⟨t, rfl⟩ := x; obtain ⟨u, rfl⟩ := y
    exact PyProof.Rows.mod_int' hb (k _ h₂ _ (a₁.ext k₂) ⟨_, rfl⟩))
theorem EM_add {l r : Expr} {pos : Pos} {a b : Int} {M' : List (Addr × List RV)} (hl : EV prog w base A env J l (rInt a)) (hr : EM prog w base A env J r M' (rInt b)) : EM prog w base A env J (.BinOp l .Add r pos) M' (rInt (a + b)) := fun B s Q E a' k =>
  wpAny_BinOp (hl B s _ E a' fun v h₁ t₁ k₁ x => hr B _ _ E (a'.ext k₁) fun u h₂ t₂ a₂ y => by
    obtain ⟨t, rfl⟩ := x; obtain ⟨u, rfl⟩ := y
    exact PyProof.Rows.add_int (k _ h₂ _ a₂ ⟨_, rfl⟩))
/-- `xs[e]` where the evaluation of e changes lists in hand, none of them xs -/
theorem EM_item {value slice : Expr} {pos : Pos} {Rs : List RV} {R : RV} {k : Int} {M' : List (Addr × List RV)} (hv : EV prog w base A env J value (rList Rs)) (hs : ∀ v, EM prog w base A env { J with D := (v, rList Rs) :: J.D } slice M' (rInt k)) (h0 : 0 ≤ k) (hx : Rs[k.toNat]? = some R) (hfit : k < 2 ^ 63)
    (hsb : ∀ o i, subscripted slice false o i = operate [o, i] (getItem o i) := by intros; rfl) : EM prog w base A env J (.Subscript value slice pos) M' R := fun B s Q E a kk => by
  refine Subscript_ (hv B s _ E a fun v h₁ t₁ k₁ x => hs v B _ _ E ((a.ext k₁).add x) fun i h₂ t₂ a₂ y => ?_)
  obtain ⟨b, vs, rfl, nb, q, r⟩ := a₂.dat (v, rList Rs) (.head _)
  obtain ⟨t, rfl⟩ := y
  obtain ⟨u, hu, hru⟩ := r.get hx
  exact tail_any q.isList.typeIs slot_list_getitem.lookup (wpAny_getItem_list q.isList h0 hfit (by simpa using hu) (kk u h₂ _ (a₂.less (fun p hp => hp) fun d hd => .tail _ hd) hru)) (hsb _ _)
variable (prog w base A env) in
/-- a test that changes lists in hand -/
def EMT (J : Inv) (e : Expr) (M' : List (Addr × List RV)) (c : Bool) : Prop :=
  ∀ B s (Q : Bool → Shared → Prop) (E : Value → Shared → Prop), At base B env J s.heap → (∀ h' tk, At base B env { J with Mu := M' } h' → Q c { s with heap := h', toks := tk }) → wpAny (model prog w) A (isTrue e env (eval e env)) Q E s
theorem EMT_of {l r : Expr} {op : CmpOp} {pos : Pos} {a b : Int} {c : Bool} {M' : List (Addr × List RV)} (hl : EM prog w base A env J l M' (rInt a)) (hr : EV prog w base A env { J with Mu := M' } r (rInt b)) (ho : Cmp prog w A J.X op (rInt a) (rInt b) c)
    (hb : behindInMarks op r = false := by with_unfolding_all rfl) : EMT prog w base A env J (.Compare l [op] [r] pos) M' c := fun B s Q E a' k =>
  wpAny_isTrue_Compare1 (hl B s _ E a' fun v h₁ t₁ a₁ x => hr B _ _ E a₁ fun u h₂ t₂ k₂ y => ho v u _ _ E (RV.ext x k₂) y fun h' tk k₃ => wpAny_truthy_bool (k h' tk ((a₁.ext k₂).ext k₃))) hb
theorem EMT_and {l r : Expr} {pos : Pos} {c d : Bool} {M' : List (Addr × List RV)} (hl : ET prog w base A env J l c) (hr : c = true → EMT prog w base A env J r M' d) : EMT prog w base A env J (.BoolOp .And [l, r] pos) (if c then M' else J.Mu) (c && d) := fun B s Q E a k =>
  isTrue_and (hl B s _ E a fun h₁ t₁ k₁ => by
    cases c with
    | false => exact k h₁ t₁ (a.ext k₁)
    | true => exact isTrue_and (hr rfl B _ _ E (a.ext k₁) fun h₂ t₂ a₂ => by
        cases d with
        | false => exact k h₂ t₂ a₂
        | true => exact isTrue_and_nil (k h₂ t₂ a₂)))
theorem ST_ifM {t : Expr} {b o : List Stmt} {pos : Pos} {rest : List Stmt} {c : Bool} {K : Kt} {M' : List (Addr × List RV)} (ht : EMT prog w base A env J t M' c) (hb : c = true → ST prog w base A env { J with Mu := M' } (b ++ rest) K)
    (ho : c = false → ST prog w base A env { J with Mu := M' } (o ++ rest) K) : ST prog w base A env J (.If t b o pos :: rest) K := fun B s Q E a k => by
  rw [execs_if_eq]
  refine wpAny_bind (wpAny_standAt (wpAny_bind (ht B s _ E a fun h₁ t₁ a₁ => ?_)))
  cases c with
  | true => exact hb rfl B _ Q E a₁ fun f h' tk y => k f h' tk y
  | false => exact ho rfl B _ Q E a₁ fun f h' tk y => k f h' tk y
theorem ST_retM {e : Expr} {pos : Pos} {rest : List Stmt} {R : RV} {S X : Addr → Prop} {post : List (Addr × List RV)} (he : EM prog w base A env J e post R) (hf : R.free) (hX : J.X = X := by rfl) : ST prog w base A env J (.Return (some e) pos :: rest) (Km S X post R) := fun B s Q E a k =>
  wpAny_execs_cons (wpAny_Return_some (he B s _ E a fun v h' tk a' x => k (.ret v) h' tk ⟨a'.fm.keep, fun p hp => hX ▸ (a'.mu p hp).1, hf _ _ _ _ x⟩))
/-- `o.pop(0)` -/
theorem EM_pop0 {o : Expr} {apos pos pe : Pos} {k0 : Nat} {b : Addr} {R : RV} {Rs : List RV} {M' : List (Addr × List RV)} (ho : EV prog w base A env J o (rIs (.ref b))) (hM : PutMu [(b, R :: Rs)] [(b, Rs)] J.Mu M') (hf : R.free) (hz : Rs.length ≤ 999)
    (hbase : attributeBase o "pop" env (eval o env) = eval o env := by rfl) (hse : starEach [.Constant (.int 0) k0 pe] env = [(false, eval (.Constant (.int 0) k0 pe) env)] := by rfl) (hline : (apos.endLine == pos.line) = true := by rfl) :
    EM prog w base A env J (.Call (.Attribute o "pop" apos) [.Constant (.int 0) k0 pe] [] pos) M' R := fun B s Q E a k => by
  refine Call_method1 hbase hse hline (ho B s _ E a fun v h₁ t₁ k₁ x => ?_)
  cases x
  obtain ⟨us, n, q, r, hl⟩ := (a.ext k₁).muAt (hM.sub _ (.head _))
  match us, r, hl with
  | u :: us, r, hl =>
    refine ⟨"list", "list.pop", F.plainAttrs_list, F.slot_list_pop, F.type_list_pop, ⟨_, q, rfl⟩, fun c hc => by cases hc; exact ⟨_, q, rfl⟩, PySem.P.pop_at_list (wpAny_Constant_int ?_)⟩
    refine ⟨(u :: us).toArray, n, 0, _, 0, u, by rw [List.size_toArray, hl, List.length_cons]; exact Nat.le_trans (by omega) thousand, rfl, q, by rfl, ?_, by simp, ?_⟩
    · unfold seqIndex?; simp
    · have e : ((u :: us).toArray.eraseIdxIfInBounds 0).toList = us := by simp [Array.eraseIdxIfInBounds_eq]
      refine k u _ _ ((a.ext k₁).chg (f := fun xs => xs.eraseIdxIfInBounds 0) hM q (by rw [e]; exact r.2)) (R.st J.X _ _ _ (ks_list (Heap.SameBut.update h₁ b (Obj.mapSeq fun xs => xs.eraseIdxIfInBounds 0)) ⟨n, q⟩ (a.mu _ (hM.sub _ (.head _))).2.2) r.1)
end

section
variable {prog : Program} {w : World} {base : Heap} {mg mb : Str → Option Value}
theorem take_pm (G : Gl base mg mb) (S : Addr → Prop) (x y : Addr) (st : Bx) (wd : Int) (hw : 0 < wd) (ok : BxOk st) :
    PM prog w base mg "_law_take" 1 S (bx x y st) [rIs (.ref x), rInt wd] (bx x y (takeS st)) (rInt (takeV st wd)) := by
  refine PM_intro2 G (k := 35) rfl "box" "wide" fun A L fa cd q v₁ v₂ X S' hA hS => ?_
  obtain ⟨ns, z⟩ := st
  have hz1 : 0 ≤ z := ok.lo
  have hz2 : z < 2147483647 := ok.hi
  have hlen : ns.length ≤ 1000 := ok.len
  refine ST_if (c := decide (0 < (ns.length : Int))) (ET_of (R := rInt (ns.length : Int)) (EV.conv (EV_lenM G (b := y) (Rs := ns.map rInt) (EV_itemM (b := x) (Rs := [rIs (.ref y), rInt z]) ?a1 (.head _) EV_int (by decide) rfl (by decide)) (.tail _ (.head _)) (by simp; omega) rfl rfl rfl rfl) (by simp)) EV_int cmp_gt) (fun h => ?yes) (fun h => ?no)
  case a1 => walk_at "q_name"
  case yes =>
    cases ns with
    | nil => exact absurd h (by simp)
    | cons a ns =>
      refine ST_retM (EM_mod (EM_pop0 (b := y) (R := rInt a) (Rs := ns.map rInt) (EV_itemM (b := x) (Rs := [rIs (.ref y), rInt z]) ?b1 (.head _) EV_int (by decide) rfl (by decide)) (.tl .hd) (rInt_free _) (by simp at hlen ⊢; omega)) ?b2 (by omega)) (rInt_free _)
      case b1 => walk_at "q_name"
      case b2 => walk_at "q_name"
  case no =>
    cases ns with
    | cons a ns => exact absurd h (by simp)
    | nil =>
      have hz3 : z.natAbs < 2 ^ 31 := by omega
      refine ST_store (b := x) (j := 1) (R := rInt ((z * 48271 + 11).fmod 2147483647)) (EV_mod (EV_add (EV_mul (EV_itemM (b := x) (Rs := [rIs (.ref y), rInt z]) ?b1 (.head _) EV_int (by decide) rfl (by decide)) EV_int (mulOk (k := 31) (l := 16) hz3 (by decide) (by decide))) EV_int) EV_int (by decide)) ?b2 EV_int (by simp) (by simp) .hd ?_
      case b1 => walk_at "q_name"
      case b2 => walk_at "q_name"
      refine ST_retM (EV.em (EV_mod (EV_fdiv (EV_itemM (b := x) (Rs := [rIs (.ref y), rInt ((z * 48271 + 11).fmod 2147483647)]) ?b3 (.head _) EV_int (by decide) rfl (by decide)) EV_int (by decide) (by decide)) ?b4 (by omega))) (rInt_free _)
      case b3 => walk_at "q_name"
      case b4 => walk_at "q_name"
def wholes : List Int := [0, 1, -1, 2, -2, 3, -3, 4, 0, 1, 6, -5]
def wholeV (st : Bx) : Int := wholes.getD (takeV st 12).toNat 0
theorem whole_pm (G : Gl base mg mb) (S : Addr → Prop) (x y : Addr) (st : Bx) (ok : BxOk st) :
    PM prog w base mg "_law_whole" 2 S (bx x y st) [rIs (.ref x)] (bx x y (takeS st)) (rInt (wholeV st)) := by
  refine PM_intro1 G (k := 37) rfl "box" fun A L fa cd q v₁ X S' hA hS => ?_
  obtain ⟨t0, t1⟩ := takeV_rng (st := st) (w := 12) (by decide)
  refine ST_retM (EM_item (Rs := wholes.map rInt) (k := takeV st 12) (EVN_list (Rs := wholes.map rInt) ?l ?f).ev (fun v => (EM_callN G (take_pm G S x y st 12 (by decide) ok) .all rfl hS hA (EVs_cons ?a1 (EVs_cons EV_int EVs_nil)) rfl rfl rfl).old) t0 ?g (by omega)) (rInt_free _)
  case l =>
    refine EVs_cons EV_int (EVs_cons EV_int (EVs_cons (EV_neg EV_int) (EVs_cons EV_int (EVs_cons (EV_neg EV_int) (EVs_cons EV_int (EVs_cons (EV_neg EV_int) (EVs_cons EV_int (EVs_cons EV_int (EVs_cons EV_int (EVs_cons EV_int (EVs_cons (EV_neg EV_int) EVs_nil)))))))))))
  case f => intro R hm; obtain ⟨i, _, rfl⟩ := List.mem_map.mp hm; exact rInt_free _
  case a1 => walk_at "q_name"
  case g =>
    have h : (takeV st 12).toNat < wholes.length := by show _ < 12; omega
    unfold wholeV
    rw [List.getElem?_map, List.getD_eq_getElem?_getD, List.getElem?_eq_getElem h]
    rfl
end

section
variable {prog : Program} {w : World} {base : Heap} {mg mb : Str → Option Value} {A : Around} {env : Env} {J : Inv}

/-- the block of a comprehension, its own list in hand -/
theorem At.innerM {B : Addr → Option Obj} {h h' : Heap} (a : At base B env J h) {env' : Env} {O : List Str} {m : List (Str × Value)} {D : Addr} (F : Fm base h.get? env' O h' m) (nD : h.get? D = none) (sq : Sq "list" h' D []) :
    At base (Mine.offMu J.Mu h) env' ⟨O, m, J.D, (D, []) :: J.Mu, fun b => J.X b ∨ b = D, J.S⟩ h' := by
  have i := a.inner F
  have up : ∀ (R : RV) v, R.p J.X v h → R.p (fun c => J.X c ∨ c = D) v h' := fun R v x => RV.ext (R.anti _ _ _ _ (fun c q => q.imp id fun e => by rw [e]; exact nD) (R.grow _ _ _ x)) F.keep
  refine ⟨i.fm, fun d hd => up _ _ (a.dat d hd), fun p hp => ?_, ?_, fun c q => ?_, fun c q => (i.sd c q).imp id .inl⟩
  · rcases List.mem_cons.mp hp with rfl | hp
    · refine ⟨⟨[], sq, trivial⟩, ?_, .inr rfl⟩
      cases e : Mine.offMu J.Mu h D with
      | none => rfl
      | some o => have := offMu_some e; rw [nD] at this; cases this
    · obtain ⟨⟨us, q, r⟩, z, z'⟩ := a.mu p hp
      exact ⟨⟨us, q.ext F.keep, r.imp fun R v _ x => up R v x⟩, (i.mu p hp).2.1, .inl z'⟩
  · simp only [List.map_cons, List.nodup_cons]
    refine ⟨fun hm => ?_, a.nd⟩
    obtain ⟨p, hp, e⟩ := List.mem_map.mp hm
    exact a.xdom _ (e ▸ (a.mu p hp).2.2) nD
  · rcases q with q | rfl
    · exact (i.xd c q).imp id fun ⟨Rs, hm⟩ => ⟨Rs, .tail _ hm⟩
    · exact .inr ⟨_, .head _⟩

theorem comp_coreM {elt iter target : Expr} {scope : Scope} {pos cpos : Pos} {n : Nat} {x : Str} {V : Nat → RV} {m₀ : List (Str × Value)} (Re : Nat → RV) (Mu : Nat → List (Addr × List RV))
    (hsrc : SRC prog w base A env J target iter n [x] fun i => [V i]) (hn : n ≤ 1000) (hok : compOk env.cells scope [x] = true) (hcap : Cap scope J.m m₀) (h0 : Mu 0 = J.Mu) (hMu : ∀ i, (Mu i).map (·.1) = J.Mu.map (·.1))
    (elts : ∀ C k D Rs i v, i < n → EM prog w base A (cEnv scope env C k) ⟨ownCells scope, (x, v) :: m₀, (v, V i) :: J.D, (D, Rs) :: Mu i, fun b => J.X b ∨ b = D, J.S⟩ elt ((D, Rs) :: Mu (i + 1)) (Re i))
    (hkind : scope.kind = .function) (hs : ∀ x, foldedSetIterable iter env x = pure x) {use : Option (Value → Sem Unit)} {B : Addr → Option Obj} {s : Shared} {Q E : Value → Shared → Prop} (a : At base B env J s.heap)
    (fin : ∀ D C ys h tk, s.heap.get? D = none → s.heap.get? C = none → D ≠ C → (∃ mL, h.Ns C mL) → At base B env { J with Mu := Mu n } h → (∀ b o, b ∉ J.Mu.map (·.1) → s.heap.get? b = some o → h.get? b = some o) → Sq "list" h D ys → All2 (fun b => J.X b ∨ b = D) h ((List.range n).map Re) ys → (∀ p ∈ Mu n, MuAt (fun b => J.X b ∨ b = D) h p) → compPost (model prog w) A E use Q (.ref D) C (.ok .next) { s with heap := h, toks := tk }) :
    wpAny (model prog w) A (comprehension (.ListComp elt [⟨target, iter, [], 0⟩] scope pos) scope env cpos (newList []) false (eval iter env) use) Q E s := by
  have hok' := hok
  unfold compOk at hok'
  simp only [Bool.and_eq_true, decide_eq_true_eq] at hok'
  refine wpAny_comprehension_free rfl hs (closureFor_eq hok'.1.2) hkind (fun x hx hl => lookup_of_mem' hok'.1.1 (hl ▸ hx)) (hsrc B s _ E a fun I wr h₁ t₁ k₁ hwr hit => ?_)
  refine wpAny_newObj_type (comp_newEnv ?_)
  have nD : h₁.get? h₁.objs.size = none := new_none
  obtain ⟨St, it, st⟩ := hit (fun b => J.X b ∨ b = h₁.objs.size) fun b q => q.imp id fun e => by rw [e]; exact nD
  dsimp only
  generalize hH : h₁.push { cls := .type "list", dict := none, data := .seq ([] : List Value).toArray } = H
  have hC : H.objs.size = h₁.objs.size + 1 := by rw [← hH, Heap.size_push]
  have kH : Ext h₁ H := hH ▸ Ext.push _ _
  have sqD : Sq "list" H h₁.objs.size [] := hH ▸ ⟨_, Heap.get?_push_size _ rfl⟩
  have ltH : ∀ b o, s.heap.get? b = some o → b < H.objs.size := fun b o e => by have := Heap.lt_size (k₁ b o e); rw [hC]; exact Nat.lt_succ_of_lt this
  have low : ∀ b o, base.get? b = some o → s.heap.get? b = some o := a.fm.lowE
  have F₀ := a.fm.comp hok'.1.1 hok'.1.2 hcap (k₁.trans kH) ltH (B' := s.heap.get?) (fun _ _ e => e) low
  generalize hd : h₁.objs.size = D at *
  have nDs : s.heap.get? D = none := none_up k₁ nD
  have hDC : D ≠ H.objs.size := by rw [hC]; exact Nat.ne_of_lt (Nat.lt_succ_self _)
  have nC : s.heap.get? H.objs.size = none := none_up (k₁.trans kH) new_none
  have kP : Ext H (pushCells (H.push { cls := .type "dict", data := .dict #[] }) scope.names) := fun b o e => pushCells_keeps _ _ b o (Heap.get?_push_of_some _ e)
  have a₀ := a.innerM F₀ nDs (sqD.ext kP)
  have loop : codeAny (model prog w) A (.compLoop (.ListComp elt [⟨target, iter, [], 0⟩] scope pos) 0 (.ref I) (.ref D) (cEnv scope env H.objs.size (H.objs.size + 1))) (compPost (model prog w) A E use Q (.ref D) H.objs.size)
      { s with heap := pushCells (H.push { cls := .type "dict", data := .dict #[] }) scope.names, toks := t₁ } := by
    refine comp_loop (fun j s' => ∃ i h tk, s' = { s with heap := h, toks := tk } ∧ i ≤ n ∧ j = n + 1 - i ∧
      At base (offMu J.Mu s.heap) (cEnv scope env H.objs.size (H.objs.size + 1)) ⟨ownCells scope, m₀, J.D, (D, (List.range i).map Re) :: Mu i, fun b => J.X b ∨ b = D, J.S⟩ h ∧ St i h) ?_ (n + 1)
      ⟨0, _, _, rfl, Nat.zero_le _, rfl, h0 ▸ a₀, it.keep 0 _ _ st ((kH.trans kP).ka _)⟩
    rintro j s' ⟨i, h, tk, rfl, hi, rfl, ai, sti⟩
    have hBw : ∀ b ∈ wr, offMu J.Mu s.heap b = none := fun b hb => by
      cases e : offMu J.Mu s.heap b with
      | none => rfl
      | some o => have := offMu_some e; rw [hwr b hb] at this; cases this
    by_cases hlt : i < n
    · refine it.step i { s with heap := h, toks := tk } _ _ _ (cEnv scope env H.objs.size (H.objs.size + 1)) (ownCells scope) (offMu J.Mu s.heap) m₀ m₀ hlt sti ai.fm hBw (compOk_store hok _ _) hkind (compOk_drop hok hcap) fun vs h₂ t₂ hl hv F₂ st₂ K₂ => ?_
      match vs, hl with
      | [v], _ =>
        have a₂ : At base (offMu J.Mu s.heap) (cEnv scope env H.objs.size (H.objs.size + 1)) ⟨ownCells scope, (x, v) :: m₀, (v, V i) :: J.D, (D, (List.range i).map Re) :: Mu i, fun b => J.X b ∨ b = D, J.S⟩ h₂ := (ai.turn F₂ K₂).addAll hv
        refine wpAny_tests_nil ?_
        rw [if_pos rfl]
        refine elts _ _ D ((List.range i).map Re) i v hlt _ _ _ _ a₂.max fun y h₃ t₃ a₃ r₃ => ?_
        have back : At base (offMu J.Mu s.heap) (cEnv scope env H.objs.size (H.objs.size + 1)) ⟨ownCells scope, (x, v) :: m₀, (v, V i) :: J.D, (D, (List.range i).map Re) :: Mu (i + 1), fun b => J.X b ∨ b = D, J.S⟩ h₃ := a₂.back a₃ rfl rfl rfl (by simp only [List.map_cons]; rw [hMu, hMu])
        have st₃ := it.keep (i + 1) h₂ h₃ st₂ (a₂.kept a₃.fm.keep)
        obtain ⟨us, k, q, r, hlen⟩ := back.muAt (b := D) (.head _)
        refine wpAny_list_append_plain (hsz := by rw [List.size_toArray, hlen, rl_len]; exact Nat.le_trans hi (Nat.le_trans hn thousand)) ⟨k, q⟩ fun h₄ hl₄ hs₄ => ?_
        have sq₃ : Sq "list" h₃ D us := ⟨k, q⟩
        have K₄ := ks_list (X := fun b => J.X b ∨ b = D) hs₄ sq₃ (.inr rfl)
        refine ⟨n + 1 - (i + 1), by omega, i + 1, h₄, t₃, rfl, hlt, rfl, ?_, it.keep (i + 1) _ _ st₃ (ka_list hs₄ sq₃ (.inr rfl))⟩
        refine (back.put (pre := [(D, (List.range i).map Re)]) (post := [(D, (List.range (i + 1)).map Re)]) .hd rfl (fun b o hb e => (hs₄.2 b fun z => hb (by simp [z])).trans e) fun p hp => ?_).less (fun p hp => .tail _ hp) (fun d hd => .tail _ hd)
        obtain rfl := List.mem_singleton.mp hp
        refine ⟨us ++ [y], by obtain ⟨m, e⟩ := hl₄; exact ⟨m, by simpa using e⟩, ?_⟩
        rw [← range_snoc]
        exact (r.imp fun R v _ x => R.st _ _ _ _ K₄ x).snoc ((Re i).st _ _ _ _ K₄ r₃)
    · have hin : i = n := Nat.le_antisymm hi (Nat.not_lt.mp hlt)
      subst hin
      refine it.done { s with heap := h, toks := tk } _ _ _ (cEnv scope env H.objs.size (H.objs.size + 1)) (ownCells scope) (offMu J.Mu s.heap) m₀ sti ai.fm hBw fun h₂ t₂ F₂ K₂ => ?_
      have a₂ := ai.turn F₂ K₂
      obtain ⟨mL, hns, _⟩ := F₂.ns
      obtain ⟨⟨us, sq, el⟩, _⟩ := a₂.mu _ (.head _)
      have keep : ∀ b o, b ∉ J.Mu.map (·.1) → s.heap.get? b = some o → h₂.get? b = some o := fun b o hb e => F₂.keep b o (by
        unfold offMu; rw [if_neg fun ⟨Rs, hm⟩ => hb (List.mem_map_of_mem hm)]; exact e)
      refine fin D H.objs.size us h₂ t₂ nDs nC hDC ⟨mL, hns⟩ (a.put (.all) (hMu i) keep fun p hp => ?_) keep sq el fun p hp => (a₂.mu p (.tail _ hp)).1
      obtain ⟨⟨ws, q, r⟩, _⟩ := a₂.mu p (.tail _ hp)
      exact ⟨ws, q, r.imp fun R v _ x => R.anti _ _ _ _ (fun b q => .inl q) x⟩
  exact codeAny_compStart_list loop (it.self 0 _ _ _ (it.keep 0 _ _ st ((kH.trans kP).ka _)) loop)
end

section
variable {prog : Program} {w : World} {base : Heap} {mg mb : Str → Option Value} {A : Around} {env : Env} {J : Inv}

theorem At.putKS {B : Addr → Option Obj} {h h' : Heap} (a : At base B env J h) (keep : ∀ b o, b ∉ J.Mu.map (·.1) → h.get? b = some o → h'.get? b = some o) : KS J.X h h' := by
  refine ⟨fun b vs ⟨n, e⟩ => ⟨n, keep b _ (fun hm => ?_) e⟩, fun b vs nX ⟨n, e⟩ => ⟨n, keep b _ (fun hm => ?_) e⟩⟩
  · obtain ⟨p, hp, rfl⟩ := List.mem_map.mp hm
    obtain ⟨⟨us, q, _⟩, _⟩ := a.mu p hp
    exact absurd ((show Sq "tuple" h p.1 vs from ⟨n, e⟩).inj q).1 (by decide)
  · obtain ⟨p, hp, rfl⟩ := List.mem_map.mp hm
    exact nX (a.mu p hp).2.2
theorem At.ownPut {B : Addr → Option Obj} {h h' : Heap} (a : At base B env J h) {M' : List (Addr × List RV)} (hp : M'.map (·.1) = J.Mu.map (·.1)) {D : Addr} {Rs : List RV} (nD : h.get? D = none)
    (keep : ∀ b o, b ∉ J.Mu.map (·.1) → h.get? b = some o → h'.get? b = some o) (hpost : ∀ p ∈ (D, Rs) :: M', MuAt (fun b => J.X b ∨ b = D) h' p) : At base B env { J with Mu := (D, Rs) :: M', X := fun b => J.X b ∨ b = D } h' := by
  have a' : At base B env { J with Mu := M' } h' := a.put .all hp keep fun p hm => let ⟨vs, q, r⟩ := hpost p (.tail _ hm); ⟨vs, q, r.imp fun R v _ x => R.anti _ _ _ _ (fun b q => .inl q) x⟩
  have ks := a.putKS keep
  have nB : B D = none := by
    cases e : B D with
    | none => rfl
    | some o => rw [a.fm.keep D o e] at nD; cases nD
  refine ⟨a'.fm, fun d hd => ?_, fun p hm => ?_, ?_, fun c q => ?_, fun c q => (a.sd c q).imp id .inl⟩
  · exact d.2.st _ _ _ _ (ks.mono fun _ q => .inl q) (d.2.anti _ _ _ _ (fun c q => q.imp id fun e => by rw [e]; exact nD) (d.2.grow _ _ _ (a.dat d hd)))
  · refine ⟨hpost p hm, ?_⟩
    rcases List.mem_cons.mp hm with rfl | hm
    · exact ⟨nB, .inr rfl⟩
    · exact ⟨(a'.mu p hm).2.1, .inl (a'.mu p hm).2.2⟩
  · simp only [List.map_cons, List.nodup_cons]
    refine ⟨fun hm => ?_, a'.nd⟩
    rw [hp] at hm
    obtain ⟨p, hp, e⟩ := List.mem_map.mp hm
    exact a.xdom _ (e ▸ (a.mu p hp).2.2) nD
  · rcases q with q | rfl
    · exact (a'.xd c q).imp id fun ⟨Rs, hm⟩ => ⟨Rs, .tail _ hm⟩
    · exact .inr ⟨_, .head _⟩
/-- a change at an address newer than the block -/
theorem At.newer2 {B : Addr → Option Obj} {h₀ h h' : Heap} (a₀ : At base B env J h₀) {J₂ : Inv} (a : At base B env J₂ h) {C : Addr} {o : Obj} (hs : Heap.SameBut C h h') (nC : h₀.get? C = none) (e : h.get? C = some o) (hd : ∀ xs n, o.data ≠ .seq xs n) : At base B env J₂ h' := by
  have K : KS (fun _ => False) h h' := ks_sameBut hs e hd
  refine At.turn a ⟨?_, fun x c hx => ?_, fun b ob hb => (hs.2 b ?_).trans (a.fm.keep b ob hb), a.fm.low, a.fm.offL, a.fm.offC, a.fm.apart, a.fm.ck⟩ K
  · obtain ⟨mL, hn, r⟩ := a.fm.ns
    refine ⟨mL, hn.sameBut hs ?_, r⟩
    rintro rfl
    obtain ⟨mL₀, ⟨o₀, _, _, e₀, _⟩, _⟩ := a₀.fm.ns
    rw [nC] at e₀; cases e₀
  · have hne : c ≠ C := by
      rintro rfl
      obtain ⟨⟨cv₀, o₀, e₀, _⟩, _⟩ := a₀.fm.cell x _ hx
      rw [nC] at e₀; cases e₀
    obtain ⟨⟨cv, y⟩, z⟩ := a.fm.cell x c hx
    exact ⟨⟨cv, y.sameBut hs hne⟩, fun v hv => (z v hv).sameBut hs hne⟩
  · rintro rfl
    have := a₀.fm.keep _ _ hb
    rw [nC] at this; cases this
/-- the same, of a store after a change of lists -/
theorem At.storeC2 {B : Addr → Option Obj} {h₀ : Heap} {s : Shared} (a₀ : At base B env J h₀) {J₂ : Inv} (a : At base B env J₂ s.heap) {x : Str} {v : Value} {m' : List (Str × Value)} (hm : Aset x v J₂.m m') (hk : env.scope.kind = .function)
    (hx : env.kindOf x = some .local ∨ (env.kindOf x = some .cell ∧ x ∈ J₂.O ∧ (env.cells.lookup x).isSome = true)) {Q : Unit → Shared → Prop} {E : Value → Shared → Prop}
    (k : ∀ h' tk, At base B env { J₂ with m := m' } h' → KS (fun _ => False) s.heap h' → (∀ c, h₀.get? c = none → h'.get? c = s.heap.get? c) → Q () { s with heap := h', toks := tk }) : wpAny (model prog w) A (storeName env x v) Q E s := by
  have fin : ∀ h', Fm base B env J₂.O h' m' → KS (fun _ => False) s.heap h' → At base B env { J₂ with m := m' } h' := fun h' F K => At.turn a F K
  rcases hx with hx | ⟨hx, hO, hc⟩
  · obtain ⟨mL, hn, hr⟩ := a.fm.ns
    refine wpAny_storeName_local hx hn (fun h' hn' hs => ?_) (by rw [hk]; rfl)
    obtain ⟨o, es, ep, e, ed, _⟩ := id hn
    have K : KS (fun _ => False) s.heap h' := ks_sameBut hs e fun xs n q => by rw [ed] at q; cases q
    refine k h' _ (fin h' (a.fm.setL hs hn hr hn' (fun y => rfl) hx hm) K) K fun c hc => hs.2 c ?_
    rintro rfl
    obtain ⟨mL₀, ⟨o₀, _, _, e₀, _⟩, _⟩ := a₀.fm.ns
    rw [hc] at e₀; cases e₀
  · obtain ⟨c, hc⟩ := Option.isSome_iff_exists.mp hc
    obtain ⟨⟨cv, hcv⟩, _⟩ := a.fm.cell x c hc
    refine wpAny_storeName_cell hk hx hc hcv fun h' hv hs => ?_
    obtain ⟨o, e, ed⟩ := hcv
    have K : KS (fun _ => False) s.heap h' := ks_sameBut hs e fun xs n q => by rw [ed] at q; cases q
    refine k h' _ (fin h' (a.fm.setC hs hc hv hO hm) K) K fun d hd => hs.2 d ?_
    rintro rfl
    obtain ⟨⟨cv₀, o₀, e₀, _⟩, _⟩ := a₀.fm.cell x _ hc
    rw [hd] at e₀; cases e₀

theorem EM.conv {e : Expr} {M M' : List (Addr × List RV)} {R R' : RV} (h : EM prog w base A env J e M R) (hM : M = M') (hR : R = R') : EM prog w base A env J e M' R' := hM ▸ hR ▸ h
theorem EMT_andT {l r : Expr} {pos : Pos} {d : Bool} {M' : List (Addr × List RV)} (hl : ET prog w base A env J l true) (hr : EMT prog w base A env J r M' d) : EMT prog w base A env J (.BoolOp .And [l, r] pos) M' d := fun B s Q E a k =>
  isTrue_and (hl B s _ E a fun h₁ t₁ k₁ => isTrue_and (hr B _ _ E (a.ext k₁) fun h₂ t₂ a₂ => by
    cases d with
    | false => exact k h₂ t₂ a₂
    | true => exact isTrue_and_nil (k h₂ t₂ a₂)))
theorem EMT_andF {l r : Expr} {pos : Pos} (hl : ET prog w base A env J l false) : EMT prog w base A env J (.BoolOp .And [l, r] pos) J.Mu false := fun B s Q E a k =>
  isTrue_and (hl B s _ E a fun h₁ t₁ k₁ => k h₁ t₁ (a.ext k₁))
theorem EMT.conv {e : Expr} {M' : List (Addr × List RV)} {c c' : Bool} (h : EMT prog w base A env J e M' c) (hc : c = c') : EMT prog w base A env J e M' c' := hc ▸ h
theorem ST_retMuM {e : Expr} {pos : Pos} {rest : List Stmt} {b : Addr} {Rs Rs' : List RV} {S X : Addr → Prop} {post : List (Addr × List RV)} (he : EV prog w base A env J e (rIs (.ref b))) (hm : (b, Rs) ∈ J.Mu) (nS : ¬ S b) (hR : ∀ h vs, All2 J.X h Rs vs → All2 S h Rs' vs)
    (hpost : ∀ p ∈ post, p ∈ J.Mu) (hX : ∀ b, X b → J.X b) : ST prog w base A env J (.Return (some e) pos :: rest) (Km S X post (rList Rs')) :=
  ST_ret he fun B hp v a x => by
    cases x
    obtain ⟨⟨vs, q, r⟩, _⟩ := a.mu _ hm
    refine ⟨a.fm.keep, fun p hp' => ?_, b, vs, rfl, nS, q, hR _ _ r⟩
    obtain ⟨⟨ws, q', r'⟩, _⟩ := a.mu p (hpost p hp')
    exact ⟨ws, q', r'.imp fun R v _ x => R.anti _ _ _ _ hX x⟩
/-- no list of it lies in S, whatever X is -/
def SClosed (S : Addr → Prop) (R : RV) : Prop := ∀ X v h, R.p X v h → R.p (fun b => X b ∨ S b) v h
theorem sc_free {S : Addr → Prop} {R : RV} (h : R.free) : SClosed S R := fun X v hp x => h _ _ _ _ x
theorem sc_new {S : Addr → Prop} {R : RV} : SClosed S (rNew S R) := fun X v h x => R.anti _ _ _ _ (fun a q => by
  rcases q with (q | q) | q
  · exact .inl q
  · exact .inr q
  · exact .inr q) x

theorem EM_comp {elt iter target : Expr} {scope : Scope} {pos : Pos} {n : Nat} {x : Str} {V : Nat → RV} {m₀ : List (Str × Value)} (Re : Nat → RV) (Mu : Nat → List (Addr × List RV))
    (hsrc : SRC prog w base A env J target iter n [x] fun i => [V i]) (hn : n ≤ 1000) (hcap : Cap scope J.m m₀) (h0 : Mu 0 = J.Mu) (hMu : ∀ i, (Mu i).map (·.1) = J.Mu.map (·.1))
    (elts : ∀ C k D Rs i v, i < n → EM prog w base A (cEnv scope env C k) ⟨ownCells scope, (x, v) :: m₀, (v, V i) :: J.D, (D, Rs) :: Mu i, fun b => J.X b ∨ b = D, J.S⟩ elt ((D, Rs) :: Mu (i + 1)) (Re i))
    (hRe : ∀ i, SClosed J.S (Re i)) (hok : compOk env.cells scope [x] = true := by rfl) (hkind : scope.kind = .function := by rfl) (hs : ∀ x, foldedSetIterable iter env x = pure x := by intro _; rfl) :
    EM prog w base A env J (.ListComp elt [⟨target, iter, [], 0⟩] scope pos) (Mu n) (rNew J.S (rL n Re)) := fun B s Q E a k => by
  rw [eval_ListComp]
  refine comp_coreM Re Mu hsrc hn hok hcap h0 hMu elts hkind hs (use := none) a fun D C ys h tk nDs nC hDC hns a' keep sq el _ => ?_
  obtain ⟨mL, hns⟩ := hns
  refine ⟨mL, hns, fun h' hs' => ?_⟩
  obtain ⟨o, es, ep, e, ed, _⟩ := id hns
  have hd : ∀ xs n, o.data ≠ .seq xs n := fun xs n q => by rw [ed] at q; cases q
  have K' := ks_sameBut (X := fun b => J.X b ∨ b = D) hs' e hd
  refine k (.ref D) h' tk (a.newer2 a' hs' nC e hd) ⟨D, ys, rfl, fun q => q.elim (fun q => a.xdom D q nDs) fun q => a.sdom D q nDs, ?_, ?_⟩
  · obtain ⟨m, e⟩ := sq
    exact ⟨m, (hs'.2 D hDC).trans e⟩
  · refine el.imp fun R v hm x => ?_
    obtain ⟨i, _, rfl⟩ := List.mem_map.mp hm
    exact hRe i _ _ _ ((Re i).anti _ _ _ _ (fun b q => .inl q) ((Re i).st _ _ _ _ K' x))

/-- `y = [...]` where the name is stored before the block goes; the list is taken into hand -/
theorem ST_setCompM {elt iter target : Expr} {scope : Scope} {pos spos py : Pos} {y : Str} {n : Nat} {x : Str} {V : Nat → RV} {m₀ m₁ : List (Str × Value)} {rest : List Stmt} {K : Kt} (Re : Nat → RV) (Mu : Nat → List (Addr × List RV))
    (hsrc : SRC prog w base A env J target iter n [x] fun i => [V i]) (hn : n ≤ 1000) (hcap : Cap scope J.m m₀) (h0 : Mu 0 = J.Mu) (hMu : ∀ i, (Mu i).map (·.1) = J.Mu.map (·.1))
    (elts : ∀ C k D Rs i v, i < n → EM prog w base A (cEnv scope env C k) ⟨ownCells scope, (x, v) :: m₀, (v, V i) :: J.D, (D, Rs) :: Mu i, fun b => J.X b ∨ b = D, J.S⟩ elt ((D, Rs) :: Mu (i + 1)) (Re i))
    (hm : Drop [y] J.m m₁) (hk : env.scope.kind = .function) (hy : env.kindOf y = some .local ∨ (env.kindOf y = some .cell ∧ y ∈ J.O ∧ (env.cells.lookup y).isSome = true))
    (h : ∀ D, ¬ J.S D → ST prog w base A env { J with m := (y, .ref D) :: m₁, Mu := (D, (List.range n).map Re) :: Mu n, X := fun b => J.X b ∨ b = D } rest K)
    (hok : compOk env.cells scope [x] = true := by rfl) (hsw : swapsWith (.ListComp elt [⟨target, iter, [], 0⟩] scope pos) (some (.Name y py)) spos.line env = pure true := by rfl)
    (hkind : scope.kind = .function := by rfl) (hs : ∀ x, foldedSetIterable iter env x = pure x := by intro _; rfl) :
    ST prog w base A env J (.Assign [.Name y py] (.ListComp elt [⟨target, iter, [], 0⟩] scope pos) spos :: rest) K := fun B s Q E a kk => by
  refine wpAny_execs_cons ?_
  rw [exec_Assign_Name_used _ _ _ _ hsw]
  refine wpAny_bind (wpAny_standAt (wpAny_bind ?_))
  show wpAny _ A (do let _ ← comprehension (.ListComp elt [⟨target, iter, [], 0⟩] scope pos) scope env _ (newList []) false (eval iter env) (some (assign (.Name y py) env))) _ _ s
  refine wpAny_bind (wpAny_mono (comp_coreM Re Mu hsrc hn hok hcap h0 hMu elts hkind hs (use := some (assign (.Name y py) env)) (Q := fun _ s' => wpAny (model prog w) A (execs rest env) Q E s') a fun D C ys h₁ tk nDs nC hDC hns a₁ keep sq el hmu => ?_) (fun _ s' hq => wpAny_pure (wpAny_pure hq)) fun _ _ e => e)
  show wpAny _ A (assign (.Name y py) env (.ref D)) _ _ _
  have a₁' := a.ownPut (Rs := (List.range n).map Re) (hMu n) nDs keep fun p hp => by
    rcases List.mem_cons.mp hp with rfl | hp
    · exact ⟨ys, sq, el⟩
    · exact hmu p hp
  refine wpAny_assign_Name (At.storeC2 (s := { s with heap := h₁, toks := tk }) a a₁' hm.aset hk hy fun h₂ t₂ a₂ K₂ hC => ?_)
  obtain ⟨mL, o, es, ep, e, ed, r⟩ := hns
  have e₂ : h₂.get? C = some o := (hC C nC).trans e
  refine ⟨mL, ⟨o, es, ep, e₂, ed, r⟩, fun h₃ hs₃ => ?_⟩
  exact h D (fun q => a.sdom D q nDs) B _ Q E (a.newer2 a₂ hs₃ nC e₂ fun xs n q => by rw [ed] at q; cases q) fun f h' tk y => kk f h' tk y
end


/-! ## _law_grid -/
def stAt : Nat → Bx → Bx
  | 0, st => st
  | k + 1, st => takeS (stAt k st)
theorem stAt_ok {st : Bx} (h : BxOk st) : ∀ k, BxOk (stAt k st)
  | 0 => h
  | k + 1 => (stAt_ok h k).next
theorem stAt_succ (k : Nat) (st : Bx) : stAt (k + 1) st = takeS (stAt k st) := rfl
theorem stAt_add (j : Nat) (st : Bx) : ∀ k, stAt (j + k) st = stAt k (stAt j st)
  | 0 => rfl
  | k + 1 => congrArg takeS (stAt_add j st k)
/-- the numbers first drawn -/
def g0 (st : Bx) (wide : Nat) (i j : Nat) : Int := wholeV (stAt (i * wide + j) st)
/-- whether the last row is a multiple of the one before, and the box after the question -/
def gAsk (st : Bx) (n : Nat) : Bool := decide (1 < n) && decide (takeV (stAt (n * n) st) 3 = 0)
def gridV (st : Bx) (n : Nat) : Nat → Nat → Int := if gAsk st n then fun i j => if i = n - 1 then wholeV (stAt (n * n + 1) st) * g0 st n (n - 2) j else g0 st n i j else g0 st n
def gridS (st : Bx) (n : Nat) : Bx := if 1 < n then (if takeV (stAt (n * n) st) 3 = 0 then stAt (n * n + 2) st else stAt (n * n + 1) st) else stAt (n * n) st
theorem whole_le (st : Bx) : (wholeV st).natAbs ≤ 6 := by
  obtain ⟨t0, t1⟩ := takeV_rng (st := st) (w := 12) (by decide)
  have h : (takeV st 12).toNat < 12 := by omega
  have : ∀ k : Nat, k < 12 → (wholes.getD k 0).natAbs ≤ 6 := by decide
  exact this _ h
section
variable {prog : Program} {w : World} {base : Heap} {mg mb : Str → Option Value}
theorem grid_pm (G : Gl base mg mb) (S : Addr → Prop) (x y : Addr) (st : Bx) (n : Nat) (h0 : 0 < n) (hn : n ≤ 3) (ok : BxOk st) :
    PM prog w base mg "_law_grid" 3 S (bx x y st) [rIs (.ref x), rInt n, rInt n] (bx x y (gridS st n)) (rMI n n (gridV st n)) := by
  refine PM_intro3 G (k := 38) rfl "box" "high" "wide" fun A L fa cd q v₁ v₂ v₃ X S' hA hS => ?_
  refine ST_setCompM (y := "grid") (x := "line") (m₀ := ?m0) (m₁ := ?m1) (fun i => rNew S' (rVI n (g0 st n i))) (fun i => bx x y (stAt (i * n) st)) (SRC_rangeL G n hA.hh ?a1 (by omega) rfl rfl rfl rfl) (by omega) ?cap (by simp [stAt]) (fun i => rfl)
    (fun C k D Rs i v hi => ?elt) ?drop rfl ?kind fun D nD => ?_
  case a1 => walk_at "q_name"
  case cap => walk_at "q_cap"
  case drop => walk_at "q_drop"
  case kind => walk_at "q_kind"
  case elt =>
    refine EM.conv (EM_comp (m₀ := ?m2) (fun j => rInt (g0 st n i j)) (fun j => (D, Rs) :: bx x y (stAt (i * n + j) st)) (SRC_rangeL G n hA.hh ?b1 (by omega) rfl rfl rfl rfl) (by omega) ?cap2 rfl (fun j => rfl) (fun C2 k2 D2 Rs2 j u hj => ?e2) (fun j => sc_free (rInt_free _))) (by rw [Nat.succ_mul]) rfl
    case b1 => walk_at "q_name"
    case cap2 => walk_at "q_cap"
    case e2 =>
      refine (EM_callN G (whole_pm G S' x y (stAt (i * n + j) st) (stAt_ok ok _)) (.tl (.tl .all)) rfl (fun _ q => q) hA (EVs_cons ?c1 EVs_nil) rfl rfl rfl).old
      case c1 => walk_at "q_name"
  have fin : ∀ (g : Nat → Nat → Int) h vs, All2 (fun b => X b ∨ b = D) h ((List.range n).map fun i => rNew S' (rVI n (g i))) vs → All2 S' h ((List.range n).map fun i => rVI n (g i)) vs := fun g h vs r => by
    refine all2_new (X := fun b => X b ∨ b = D) _ _ ?_
    rw [List.map_map]; exact r
  by_cases h1 : 1 < n
  · have e1 : gAsk st n = decide (takeV (stAt (n * n) st) 3 = 0) := by unfold gAsk; rw [decide_eq_true h1, Bool.true_and]
    refine ST_ifM (M' := (D, (List.range n).map fun i => rNew S' (rVI n (g0 st n i))) :: bx x y (stAt (n * n + 1) st)) (c := decide (takeV (stAt (n * n) st) 3 = 0)) (EMT_andT (ET.conv (ET_of (R := rInt n) ?c1 EV_int cmp_gt) (by simp; omega)) (EMT_of (EM_callN G (take_pm G S' x y (stAt (n * n) st) 3 (by decide) (stAt_ok ok _)) (.tl .all) rfl (fun _ q => q) (hA.le (by decide)) (EVs_cons ?c2 (EVs_cons EV_int EVs_nil)) rfl rfl rfl).old EV_int cmp_eq)) (fun hc => ?yes) (fun hc => ?no)
    case c1 => walk_at "q_name"
    case c2 => walk_at "q_name"
    case yes =>
      have e2 : gridV st n = fun i j => if i = n - 1 then wholeV (stAt (n * n + 1) st) * g0 st n (n - 2) j else g0 st n i j := by unfold gridV; rw [e1, hc, if_pos rfl]
      have e3 : gridS st n = stAt (n * n + 2) st := by unfold gridS; rw [if_pos h1, if_pos (of_decide_eq_true hc)]
      rw [e2, e3]
      refine ST_setM (EM_callN G (whole_pm G S' x y (stAt (n * n + 1) st) (stAt_ok ok _)) (.tl .all) rfl (fun _ q => q) hA (EVs_cons ?d1 EVs_nil) rfl rfl rfl).old (m₀ := ?m3) ?d2 rfl ?d3 fun vm => ?_
      case d1 => walk_at "q_name"
      case d2 => walk_at "q_drop"
      case d3 => walk_at "q_kind"
      refine ST_store (b := D) (j := n - 1) (R := rNew S' (rVI n fun j => wholeV (stAt (n * n + 1) st) * g0 st n (n - 2) j)) (EVN.new (EVN_comp1 (m₀ := ?m4) (fun j => rInt (wholeV (stAt (n * n + 1) st) * g0 st n (n - 2) j)) (SRC_listL n (fun j => rInt (g0 st n (n - 2) j)) hA.hh (EV_itemML (b := D) (n := n) (g := fun i => rNew S' (rVI n (g0 st n i))) (k := n - 2) ?f1 ?f2 (EV.conv (EV_sub (a := n) (b := 2) ?f3 EV_int) (congrArg rInt (by omega))) (by omega) (by omega)).old) (by omega) ?f4 fun C k j v hj => ?f5) fun _ q => q) ?f6 (EV.conv (EV_sub (a := n) (b := 1) ?f7 EV_int) (congrArg rInt (by omega))) (by rw [rl_len]; omega) (by rw [rl_len]; omega) .hd ?_
      case f1 => walk_at "q_val"
      case f2 => walk_at "q_mu"
      case f3 => walk_at "q_name"
      case f4 => walk_at "q_cap"
      case f6 => walk_at "q_val"
      case f7 => walk_at "q_name"
      case f5 =>
        refine (EV_mul ?g1 ?g2 (mulOk (k := 3) (l := 3) ?g3 ?g4 (by decide))).new (rInt_free _)
        case g1 => walk_at "q_name"
        case g2 => walk_at "q_name"
        case g3 => have := whole_le (stAt (n * n + 1) st); omega
        case g4 => have := whole_le (stAt ((n - 2) * n + j) st); unfold g0; omega
      refine ST_retMuM (b := D) (Rs := (List.range n).map fun i => rNew S' (rVI n fun j => if i = n - 1 then wholeV (stAt (n * n + 1) st) * g0 st n (n - 2) j else g0 st n i j)) ?h1 ?h2 nD (fin _) (fun p hp => .tail _ hp) (fun b q => .inl q)
      case h1 => walk_at "q_val"
      case h2 =>
        have e4 : ((List.range n).map fun i => rNew S' (rVI n (g0 st n i))).set (n - 1) (rNew S' (rVI n fun j => wholeV (stAt (n * n + 1) st) * g0 st n (n - 2) j)) = (List.range n).map fun i => rNew S' (rVI n fun j => if i = n - 1 then wholeV (stAt (n * n + 1) st) * g0 st n (n - 2) j else g0 st n i j) := by
          rw [range_set]
          refine rl_congr fun i _ => ?_
          by_cases q : i = n - 1
          · rw [if_pos q]; exact congrArg (rNew S') (rL_congr fun j _ => congrArg rInt (if_pos q).symm)
          · rw [if_neg q]; exact congrArg (rNew S') (rL_congr fun j _ => congrArg rInt (if_neg q).symm)
        rw [← e4]
        exact .head _
    case no =>
      have e2 : gridV st n = g0 st n := by unfold gridV; rw [e1, hc, if_neg (by decide)]
      have e3 : gridS st n = stAt (n * n + 1) st := by unfold gridS; rw [if_pos h1, if_neg (of_decide_eq_false hc)]
      rw [e2, e3]
      refine ST_retMuM (b := D) ?h1 (.head _) nD (fin _) (fun p hp => .tail _ hp) (fun b q => .inl q)
      case h1 => walk_at "q_val"
  · have e2 : gridV st n = g0 st n := by unfold gridV gAsk; rw [decide_eq_false h1, Bool.false_and, if_neg (by decide)]
    have e3 : gridS st n = stAt (n * n) st := by unfold gridS; rw [if_neg h1]
    rw [e2, e3]
    refine ST_ifM (c := false) (EMT_andF (ET.conv (ET_of (R := rInt n) ?c1 EV_int cmp_gt) (by simp; omega))) (fun h => nomatch h) (fun _ => ?_)
    case c1 => walk_at "q_name"
    refine ST_retMuM (b := D) ?h1 (.head _) nD (fin _) (fun p hp => .tail _ hp) (fun b q => .inl q)
    case h1 => walk_at "q_val"
end

def stir (f : Nat → Int) : Nat → Int
  | 0 => 83
  | i + 1 => (stir f i * 31 + f i).fmod 2147483647
theorem stir_rng (f : Nat → Int) : ∀ i, 0 ≤ stir f i ∧ stir f i < 2147483647
  | 0 => ⟨by unfold stir; decide, by unfold stir; decide⟩
  | i + 1 => ⟨Int.fmod_nonneg_of_pos _ (by decide), Int.fmod_lt_of_pos _ (by decide)⟩
def sumI : Nat → (Nat → Int) → Int
  | 0, _ => 0
  | n + 1, f => sumI n f + f n
def minorI (g : Nat → Nat → Int) (s : Nat) : Nat → Nat → Int := fun i j => g (i + 1) (if j < s then j else j + 1)
def sgn (s : Nat) : Int := 1 - 2 * (s : Int).fmod 2
def detV : Nat → (Nat → Nat → Int) → Int
  | 0, _ => 1
  | n + 1, g => sumI (n + 1) fun s => sgn s * g 0 s * detV n (minorI g s)
theorem sgn_abs (s : Nat) : (sgn s).natAbs < 2 ^ 2 := by
  unfold sgn
  have h1 := Int.fmod_nonneg_of_pos (s : Int) (b := 2) (by decide)
  have h2 := Int.fmod_lt_of_pos (s : Int) (b := 2) (by decide)
  omega
theorem sumI_le (f : Nat → Int) (M : Nat) : ∀ n, (∀ i, i < n → (f i).natAbs ≤ M) → (sumI n f).natAbs ≤ n * M
  | 0, _ => by simp [sumI]
  | n + 1, h => by
    have h1 := sumI_le f M n fun i hi => h i (by omega)
    have h2 := h n (by omega)
    have e : (n + 1) * M = n * M + M := Nat.succ_mul n M
    show (sumI n f + f n).natAbs ≤ _
    omega
theorem detV_bd : ∀ (n : Nat) (g : Nat → Nat → Int), n ≤ 3 → (∀ i j, i < n → j < n → (g i j).natAbs < 2 ^ 20) → (detV n g).natAbs < 2 ^ (26 * n + 1)
  | 0, g, _, _ => by unfold detV; decide
  | n + 1, g, hn, h => by
    have ih : ∀ s, s < n + 1 → (detV n (minorI g s)).natAbs < 2 ^ (26 * n + 1) := fun s hs => detV_bd n _ (by omega) fun i j hi hj => by
      unfold minorI; split
      · exact h _ _ (by omega) (by omega)
      · exact h _ _ (by omega) (by omega)
    have ht : ∀ s, s < n + 1 → (sgn s * g 0 s * detV n (minorI g s)).natAbs ≤ 2 ^ (2 + 20 + (26 * n + 1)) := fun s hs =>
      Nat.le_of_lt (natAbs_mul_lt (natAbs_mul_lt (sgn_abs s) (h 0 s (by omega) hs)) (ih s hs))
    have := sumI_le (fun s => sgn s * g 0 s * detV n (minorI g s)) _ (n + 1) ht
    show (sumI (n + 1) _).natAbs < _
    refine Nat.lt_of_le_of_lt this (Nat.lt_of_lt_of_le (m := 2 ^ 3 * 2 ^ (2 + 20 + (26 * n + 1))) (Nat.mul_lt_mul_of_pos_right (by omega) (Nat.pow_pos (by decide))) ?_)
    rw [← Nat.pow_add]
    exact Nat.pow_le_pow_right (by decide) (by omega)
def atV (p : Nat → Rat) (d : Nat) (x : Int) : Nat → Int
  | 0 => 0
  | i + 1 => atV p d x i * x + (p (d - 1 - i)).num
theorem range_take {α : Type} (n k : Nat) (g : Nat → α) : ((List.range n).map g).take k = (List.range (min k n)).map g := by
  rw [← List.map_take, List.take_range]
theorem range_drop1 {α : Type} (n : Nat) (g : Nat → α) : ((List.range (n + 1)).map g).drop 1 = (List.range n).map fun i => g (i + 1) := by
  rw [List.range_succ_eq_map]; simp [List.map_map, Function.comp_def]
theorem range_cut {α : Type} (n s : Nat) (hs : s < n + 1) (g : Nat → α) : ((List.range (n + 1)).map g).take s ++ ((List.range (n + 1)).map g).drop (s + 1) = (List.range n).map fun j => g (if j < s then j else j + 1) := by
  apply List.ext_getElem
  · simp; omega
  · intro i h1 h2
    simp at h2
    rw [List.getElem_append]
    split
    · rename_i h
      simp only [List.length_take, List.length_map, List.length_range] at h
      simp only [List.getElem_take, List.getElem_map, List.getElem_range]
      rw [if_pos (by omega)]
    · rename_i h
      simp at h
      simp only [List.getElem_drop, List.getElem_map, List.getElem_range, List.length_take, List.length_map, List.length_range]
      have hm : min s (n + 1) = s := Nat.min_eq_left (by omega)
      rw [if_neg (by omega)]
      congr 1
      omega
section
variable {prog : Program} {w : World} {base : Heap} {A : Around} {env : Env} {J : Inv}
theorem ST_setComp1 {elt iter target : Expr} {scope : Scope} {pos spos py : Pos} {y : Str} {n : Nat} {x : Str} {V : Nat → RV} {m₀ m₁ : List (Str × Value)} {rest : List Stmt} {K : Kt} (Re : Nat → RV)
    (hsrc : SRC prog w base A env J target iter n [x] (fun i => [V i])) (hn : n ≤ 1000) (hcap : Cap scope J.m m₀)
    (elts : ∀ C k i v, i < n → EVN prog w base A (cEnv scope env C k) ⟨ownCells scope, (x, v) :: m₀, (v, V i) :: J.D, J.Mu, J.X, J.S⟩ elt (Re i))
    (hm : Drop [y] J.m m₁) (hk : env.scope.kind = .function) (hy : env.kindOf y = some .local ∨ (env.kindOf y = some .cell ∧ y ∈ J.O ∧ (env.cells.lookup y).isSome = true))
    (h : ∀ v, ST prog w base A env { J with m := (y, v) :: m₁, D := (v, rL n Re) :: J.D } rest K)
    (hok : compOk env.cells scope [x] = true := by rfl) (hsw : swapsWith (.ListComp elt [⟨target, iter, [], 0⟩] scope pos) (some (.Name y py)) spos.line env = pure true := by rfl)
    (hkind : scope.kind = .function := by rfl) (hs : ∀ x, foldedSetIterable iter env x = pure x := by intro _; rfl) :
    ST prog w base A env J (.Assign [.Name y py] (.ListComp elt [⟨target, iter, [], 0⟩] scope pos) spos :: rest) K :=
  ST_setComp (fun _ => true) Re hsrc hn hcap (fun _ _ _ _ _ _ => ETs_nil) (fun C k i vs hi _ hl => by match vs, hl with | [v], _ => exact elts C k i v hi) hm hk hy (fun v => by rw [filter_all]; exact h v) hok hsw hkind hs
theorem ST_setComp2 {elt iter target : Expr} {scope : Scope} {pos spos py : Pos} {y : Str} {n : Nat} {x x' : Str} {V U : Nat → RV} {m₀ m₁ : List (Str × Value)} {rest : List Stmt} {K : Kt} (Re : Nat → RV)
    (hsrc : SRC prog w base A env J target iter n [x, x'] (fun i => [V i, U i])) (hn : n ≤ 1000) (hcap : Cap scope J.m m₀)
    (elts : ∀ C k i v u, i < n → EVN prog w base A (cEnv scope env C k) ⟨ownCells scope, (x, v) :: (x', u) :: m₀, (v, V i) :: (u, U i) :: J.D, J.Mu, J.X, J.S⟩ elt (Re i))
    (hm : Drop [y] J.m m₁) (hk : env.scope.kind = .function) (hy : env.kindOf y = some .local ∨ (env.kindOf y = some .cell ∧ y ∈ J.O ∧ (env.cells.lookup y).isSome = true))
    (h : ∀ v, ST prog w base A env { J with m := (y, v) :: m₁, D := (v, rL n Re) :: J.D } rest K)
    (hok : compOk env.cells scope [x, x'] = true := by rfl) (hsw : swapsWith (.ListComp elt [⟨target, iter, [], 0⟩] scope pos) (some (.Name y py)) spos.line env = pure true := by rfl)
    (hkind : scope.kind = .function := by rfl) (hs : ∀ x, foldedSetIterable iter env x = pure x := by intro _; rfl) :
    ST prog w base A env J (.Assign [.Name y py] (.ListComp elt [⟨target, iter, [], 0⟩] scope pos) spos :: rest) K :=
  ST_setComp (fun _ => true) Re hsrc hn hcap (fun _ _ _ _ _ _ => ETs_nil) (fun C k i vs hi _ hl => by match vs, hl with | [v, u], _ => exact elts C k i v u hi) hm hk hy (fun v => by rw [filter_all]; exact h v) hok hsw hkind hs
end
section
variable {prog : Program} {w : World} {base : Heap} {mg mb : Str → Option Value}
theorem box_pc (G : Gl base mg mb) (m : Nat) (f : Nat → Int) (hm : m ≤ 1000) : PC prog w base mg "_law_box" 1 [rVI m f] (rList [rVI (min 24 m) f, rInt (stir f (min 24 m))]) := by
  refine PC_intro1 G (k := 36) rfl "script" fun A L fa cd q v S hA => ?_
  refine ST_set (R := rInt 83) EV_int (m₀ := ?m) ?cap rfl ?kind fun z => ?_
  case cap => walk_at "q_drop"
  case kind => walk_at "q_kind"
  have h24 : ((24 : Nat) : Int) = 24 := rfl
  refine ST_for1 (SRC_listL (min 24 m) (fun i => rInt (f i)) hA.hh (EVL.conv (EVL_upto (Rs := (List.range m).map fun i => rInt (f i)) (k := 24) ?a1 EV_int (by rw [rl_len]; exact hm)) (range_take m 24 _)).ev)
    (fun i J => ∃ z, J = ⟨ownCells _, [("stirred", z), ("script", v)], [(z, rInt (stir f i)), (v, rVI m f)], [], fun _ => False, S⟩) ⟨z, rfl⟩ (by rintro i J' ⟨z, rfl⟩; exact ⟨rfl, rfl, rfl, rfl⟩) kr_mono rfl (store1 ?k2) ?turn ?fin
  case a1 => walk_at "q_name"
  case k2 => walk_at "q_kind"
  case turn =>
    rintro i _ hi ⟨z, rfl⟩
    refine ⟨?w, ?d, fun p => ?b⟩
    case d => walk_at "q_drop"
    case b =>
      have hz := stir_rng f i
      refine ST_set (R := rInt (stir f (i + 1))) (EV_mod (EV_add (EV_mul (a := stir f i) ?b1 EV_int (mulOk (k := 31) (l := 5) (by omega) (by decide) (by decide))) ?b2) EV_int (by decide)) (m₀ := ?m2) ?b3 rfl ?b4 fun z' => ?_
      case b1 => walk_at "q_name"
      case b2 => walk_at "q_name"
      case b3 => walk_at "q_drop"
      case b4 => walk_at "q_kind"
      refine ST_nil fun B hp a' => ⟨_, ⟨z', rfl⟩, ?_⟩
      refine At.less a' ?_ ?_
      · walk_at "q_sub"
      · walk_at "q_sub"
  case fin =>
    rintro _ ⟨z, rfl⟩
    refine ST_retN (EVN_listN (ENs_cons (EVL.evn (EVL_list G (Rs := (List.range (min 24 m)).map fun i => rInt (f i)) (EVL.conv (EVL_upto (Rs := (List.range m).map fun i => rInt (f i)) (k := 24) ?b1 EV_int (by rw [rl_len]; exact hm)) (range_take m 24 _)).ev (by rw [rl_len]; omega) rfl rfl rfl rfl) ?b2) (ENs_cons (EV.new ?b3 (rInt_free _)) ENs_nil)))
    case b1 => walk_at "q_name"
    case b2 => intro R hm; obtain ⟨i, _, rfl⟩ := List.mem_map.mp hm; exact rInt_free _
    case b3 => walk_at "q_name"
theorem at_pc (G : Gl base mg mb) (d : Nat) (p : Nat → Rat) (x : Int) (hd : d ≤ 1000) (ok : ∀ i, i < d → (atV p d x i).natAbs < 2 ^ 1000) (hx : x.natAbs < 2 ^ 1000) : PC prog w base mg "_law_at" 1 [rL d fun i => rRat (p i), rInt x] (rInt (atV p d x d)) := by
  refine PC_intro2 G (k := 40) rfl "polynomial" "number" fun A L fa cd q v u S hA => ?_
  refine ST_set (R := rInt 0) EV_int (m₀ := ?m) ?cap rfl ?kind fun z => ?_
  case cap => walk_at "q_drop"
  case kind => walk_at "q_kind"
  refine ST_less (m' := [("worth", z), ("polynomial", v), ("number", u)]) (D' := [(z, rInt 0), (v, rL d fun i => rRat (p i)), (u, rInt x)]) ?l1 ?l2 ?_
  case l1 => walk_at "q_sub"
  case l2 => walk_at "q_sub"
  refine ST_for2 (SRC_pairs (V := fun i => rInt (p (d - 1 - i)).num) (U := fun i => rInt (p (d - 1 - i)).den) hA.hh ((EVL_rev (Rs := (List.range d).map fun i => rRat (p i)) ?s2 (EV_neg EV_int) (by rw [rl_len]; exact hd)).conv (range_rev d _)).ev rl_len (fun i hi => rl_get hi) (by decide))
    (fun i J => ∃ z, J = ⟨ownCells _, [("worth", z), ("polynomial", v), ("number", u)], [(z, rInt (atV p d x i)), (v, rL d fun i => rRat (p i)), (u, rInt x)], [], fun _ => False, S⟩) ⟨z, rfl⟩ (by rintro i J' ⟨z, rfl⟩; exact ⟨rfl, rfl, rfl, rfl⟩) kr_mono rfl (store2 ?k2 ?k3) ?turn ?fin
  case s2 => walk_at "q_name"
  case k2 => walk_at "q_kind"
  case k3 => walk_at "q_kind"
  case turn =>
    rintro i _ hi ⟨z, rfl⟩
    refine ⟨?w, ?d, fun y y' => ?b⟩
    case d => walk_at "q_drop"
    case b =>
      refine ST_set (R := rInt (atV p d x (i + 1))) (EV_add (EV_mul (a := atV p d x i) (b := x) ?b1 ?b2 (mulOk (ok i hi) hx (by decide))) ?b3) (m₀ := ?m2) ?b4 rfl ?b5 fun z' => ?_
      case b1 => walk_at "q_name"
      case b2 => walk_at "q_name"
      case b3 => walk_at "q_name"
      case b4 => walk_at "q_drop"
      case b5 => walk_at "q_kind"
      refine ST_nil fun B hp a' => ⟨_, ⟨z', rfl⟩, ?_⟩
      refine At.less a' ?_ ?_
      · walk_at "q_sub"
      · walk_at "q_sub"
  case fin =>
    rintro _ ⟨z, rfl⟩
    refine ST_retF (R' := rInt (atV p d x d)) ?_ rfl (rInt_free _)
    walk_at "q_name"

theorem eqv_nil {n : Nat} {d : Nat → PyData} : PyData.eqv (.list ((List.range n).map d)) (.list []) = decide (n = 0) := by
  cases n with
  | zero => rfl
  | succ n => rw [List.range_succ_eq_map]; simp [PyData.eqv, PyData.eqvAll]
theorem Rd_grid (r c : Nat) (g : Nat → Nat → Int) : Rd (rMI r c g) (.list ((List.range r).map fun i => .list ((List.range c).map fun j => .int (g i j)))) := Rd_list (RdAll.map fun i _ => Rd_list (RdAll.map fun j _ => Rd_int _))
theorem det_pc (G : Gl base mg mb) : ∀ (n : Nat) (g : Nat → Nat → Int), n ≤ 3 → (∀ i j, i < n → j < n → (g i j).natAbs < 2 ^ 20) → PC prog w base mg "_law_det" (n + 2) [rMI n n g] (rInt (detV n g))
  | 0, g, _, _ => by
    refine PC_intro1 G (k := 39) rfl "grid" fun A L fa cd q v S hA => ?_
    refine ST_if (c := true) (ET.conv (ET_of (R := rMI 0 0 g) ?a1 (EVN_list (Rs := []) EVs_nil (fun R hm => nomatch hm)).ev (cmp_eqD (Rd_grid 0 0 g) (Rd_list (Rs := []) (ds := []) trivial) hA.cmp (by simp [PyData.depth, PyData.depthAll]))) eqv_nil) (fun _ => ST_retF EV_int rfl (rInt_free _)) (fun h => nomatch h)
    case a1 => walk_at "q_name"
  | n + 1, g, hn, hg => by
    refine PC_intro1 G (k := 39) rfl "grid" fun A L fa cd q v S hA => ?_
    refine ST_skip (c := false) (ET.conv (ET_of (R := rMI (n + 1) (n + 1) g) ?a1 (EVN_list (Rs := []) EVs_nil (fun R hm => nomatch hm)).ev (cmp_eqD (Rd_grid _ _ g) (Rd_list (Rs := []) (ds := []) trivial) hA.cmp (by simp [PyData.depth, PyData.depthAll]))) (eqv_nil.trans (by simp))) rfl ?_
    case a1 => walk_at "q_name"
    refine ST_set (R := rInt 0) EV_int (m₀ := ?m) ?cap rfl ?kind fun z => ?_
    case cap => walk_at "q_drop"
    case kind => walk_at "q_kind"
    refine ST_less (m' := [("worth", z), ("grid", v)]) (D' := [(z, rInt 0), (v, rMI (n + 1) (n + 1) g)]) ?l1 ?l2 ?_
    case l1 => walk_at "q_sub"
    case l2 => walk_at "q_sub"
    refine ST_for2 (SRC_enumL G (n + 1) (fun j => rInt (g 0 j)) hA.hh (EV_itemK (i := 0) (g := fun i => rVI (n + 1) (g i)) (n := n + 1) ?a2 (by decide) (by simp) (by omega)) rfl rfl rfl rfl)
      (fun i J => ∃ z, J = ⟨ownCells _, [("worth", z), ("grid", v)], [(z, rInt (sumI i fun s => sgn s * g 0 s * detV n (minorI g s))), (v, rMI (n + 1) (n + 1) g)], [], fun _ => False, S⟩) ⟨z, rfl⟩ (by rintro i J' ⟨z, rfl⟩; exact ⟨rfl, rfl, rfl, rfl⟩) kr_mono rfl (store2 ?k2 ?k3) ?turn ?fin
    case a2 => walk_at "q_name"
    case k2 => walk_at "q_kind"
    case k3 => walk_at "q_kind"
    case turn =>
      rintro s _ hs ⟨z, rfl⟩
      refine ⟨?w, ?d, fun y y' => ?b⟩
      case d => walk_at "q_drop"
      case b =>
        refine ST_if (c := decide (g 0 s ≠ 0)) (ET_of (R := rInt (g 0 s)) ?b1 EV_int cmp_ne) (fun _ => ?yes) (fun h => ?no)
        case b1 => walk_at "q_name"
        case no =>
          refine ST_nil fun B hp a' => ⟨_, ⟨z, rfl⟩, ?_⟩
          have e : (sumI (s + 1) fun s => sgn s * g 0 s * detV n (minorI g s)) = sumI s fun s => sgn s * g 0 s * detV n (minorI g s) := by
            have h0 : g 0 s = 0 := by simpa using h
            show sumI s _ + sgn s * g 0 s * detV n (minorI g s) = _
            rw [h0]; simp
          rw [e]
          refine At.less a' ?_ ?_
          · walk_at "q_sub"
          · walk_at "q_sub"
        case yes =>
          have hmin : ∀ i j, i < n → j < n → (minorI g s i j).natAbs < 2 ^ 20 := fun i j hi hj => by
            unfold minorI; split
            · exact hg _ _ (by omega) (by omega)
            · exact hg _ _ (by omega) (by omega)
          refine ST_setComp1 (y := "rest") (m₀ := ?m2) (m₁ := ?m3) (fun i => rVI n (minorI g s i)) (SRC_listL n (fun i => rVI (n + 1) (g (i + 1))) hA.hh (EVL.conv (EVL_from (Rs := (List.range (n + 1)).map fun i => rVI (n + 1) (g i)) (k := 1) ?c1 EV_int (by rw [rl_len]; omega)) (range_drop1 n _)).ev) (by omega) ?c2 (fun C k i x hi => ?c3) ?c4 rfl ?c5 fun r => ?_
          case c1 => walk_at "q_name"
          case c2 => walk_at "q_cap"
          case c4 => walk_at "q_drop"
          case c5 => walk_at "q_kind"
          case c3 =>
            refine EVN.conv (EVL.evn (EVL_add (EVL_upto (Rs := (List.range (n + 1)).map fun j => rInt (g (i + 1) j)) (k := s) ?d1 ?d2 (by rw [rl_len]; omega)).ev (EVL_from (Rs := (List.range (n + 1)).map fun j => rInt (g (i + 1) j)) (k := s + 1) ?d3 (EV.conv (EV_add (a := s) (b := 1) ?d4 EV_int) rfl) (by rw [rl_len]; omega)).ev (by simp; omega)) ?d5) (congrArg rList (range_cut n s hs _))
            case d1 => walk_at "q_name"
            case d2 => walk_at "q_name"
            case d3 => walk_at "q_name"
            case d4 => walk_at "q_name"
            case d5 =>
              rw [range_cut n s hs]
              intro R hm; obtain ⟨j, _, rfl⟩ := List.mem_map.mp hm; exact rInt_free _
          have hsa := sgn_abs s
          have hga := hg 0 s (by omega) hs
          have hda := detV_bd n (minorI g s) (by omega) hmin
          refine ST_set (R := rInt (sumI (s + 1) fun s => sgn s * g 0 s * detV n (minorI g s))) (EV_add (a := sumI s fun s => sgn s * g 0 s * detV n (minorI g s)) ?f1 (EV_mul (EV_mul (a := sgn s) (EV_sub (a := 1) EV_int (EV_mul EV_int (EV_mod (a := (s : Int)) (b := 2) ?f2 EV_int (by decide)) ?f3)) ?f4 (mulOk (k := 2) (l := 20) hsa hga (by decide))) (EVN_call G (det_pc G n (minorI g s) (by omega) hmin) hA (EVs_cons ?f5 EVs_nil) rfl rfl rfl).ev (mulOk (natAbs_mul_lt hsa hga) hda (by omega)))) (m₀ := ?m4) ?f6 rfl ?f7 fun z' => ?_
          case f1 => walk_at "q_name"
          case f2 => walk_at "q_name"
          case f3 =>
            have h1 := Int.fmod_nonneg_of_pos (s : Int) (b := 2) (by decide)
            have h2 := Int.fmod_lt_of_pos (s : Int) (b := 2) (by decide)
            exact mulOk (k := 2) (l := 2) (by decide) (by omega) (by decide)
          case f4 => walk_at "q_name"
          case f5 => walk_at "q_name"
          case f6 => walk_at "q_drop"
          case f7 => walk_at "q_kind"
          refine ST_nil fun B hp a' => ⟨_, ⟨z', rfl⟩, ?_⟩
          refine At.less a' ?_ ?_
          · walk_at "q_sub"
          · walk_at "q_sub"
    case fin =>
      rintro _ ⟨z, rfl⟩
      refine ST_retF (R' := rInt (sumI (n + 1) fun s => sgn s * g 0 s * detV n (minorI g s))) ?_ rfl (rInt_free _)
      walk_at "q_name"
end

def restN (q : Nat) (t : Nat → Int) (k : Nat) (g : Nat → Int) : Nat → Int := fun i => if k ≤ i then g i - g (q - 1 + k) * t (i - k) else g i
def restF (q : Nat) (t : Nat → Int) : Nat → (Nat → Int) → (Nat → Int)
  | 0, g => g
  | k + 1, g => restF q t k (restN q t k g)
def RestOk (q : Nat) (t : Nat → Int) : Nat → (Nat → Int) → Prop
  | 0, _ => True
  | k + 1, g => (g (q - 1 + k)).natAbs < 2 ^ 1000 ∧ RestOk q t k (restN q t k g)
def prodF (f t : Nat → Int) (q : Nat) : Nat → Nat → Int
  | 0, _ => 0
  | a + 1, i => if a ≤ i ∧ i < a + q then prodF f t q a i + f a * t (i - a) else prodF f t q a i
section
variable {prog : Program} {w : World} {base : Heap} {mg mb : Str → Option Value}
theorem EV_lenML' {A : Around} {env : Env} {J : Inv} (G : Gl base mg mb) {e : Expr} {p pos : Pos} {b : Addr} {n : Nat} {g : Nat → RV} (h : EV prog w base A env J e (rIs (.ref b))) (hm : (b, (List.range n).map g) ∈ J.Mu) (hsz : n ≤ 1000) (hk : env.scope.kind = .function) (hx : env.kindOf "len" = some .globalImplicit) (hg : env.globals = mainGlobals) (hg' : env.builtins = builtinsNs)
    (he : starEach [e] env = [(false, eval e env)] := by rfl) : EV prog w base A env J (.Call (.Name "len" p) [e] [] pos) (rInt (n : Int)) :=
  (EV_lenM G h hm (by rw [rl_len]; omega) hk hx hg hg' he).conv (by rw [rl_len])
theorem ints_free {n : Nat} {g : Nat → Int} : ∀ R ∈ (List.range n).map fun i => rInt (g i), R.free := fun R hm => by
  obtain ⟨i, _, rfl⟩ := List.mem_map.mp hm; exact rInt_free _
theorem product_pc (G : Gl base mg mb) (p q : Nat) (f t : Nat → Int) (hp : 0 < p) (hq : 0 < q) (hpq : p + q ≤ 1000) (hf : ∀ i, i < p → (f i).natAbs < 2 ^ 1000) (ht : ∀ i, i < q → (t i).natAbs < 2 ^ 1000) :
    PC prog w base mg "_law_product" 1 [rVI p f, rVI q t] (rVI (p + q - 1) (prodF f t q p)) := by
  refine PC_intro2 G (k := 42) rfl "one" "two" fun A L fa cd qn v u S hA => ?_
  refine ST_setOwn (Rs := (List.range (p + q - 1)).map fun i => rInt (prodF f t q 0 i)) (EVN.conv (EVL.evn (EVL_mul (k := ((p + q - 1 : Nat) : Int)) (EVN_list (Rs := [rInt 0]) (EVs_cons EV_int EVs_nil) ?f1).ev (EV.conv (EV_sub (a := (p : Int) + q) (b := 1) (EV_add (EV_lenL G (n := p) (g := fun i => rInt (f i)) ?a1 (by omega) rfl rfl rfl rfl) (EV_lenL G (n := q) (g := fun i => rInt (t i)) ?a2 (by omega) rfl rfl rfl rfl)) EV_int) (congrArg rInt (by omega))) (by omega) (by omega)) ?f2) ?c1) (selfless_free ints_free) (m₀ := ?m) ?cap rfl ?kind fun b nb => ?_
  case f1 => intro R hm; rw [List.mem_singleton.mp hm]; exact rInt_free _
  case f2 => intro R hm; rw [List.eq_of_mem_replicate hm]; exact rInt_free _
  case a1 => walk_at "q_name"
  case a2 => walk_at "q_name"
  case c1 =>
    refine congrArg rList ?_
    rw [Int.toNat_natCast]
    apply List.ext_getElem
    · simp
    · intro i h1 h2
      simp [prodF]
  case cap => walk_at "q_drop"
  case kind => walk_at "q_kind"
  refine ST_less (m' := [("worth", .ref b), ("one", v), ("two", u)]) (D' := [(v, rVI p f), (u, rVI q t)]) ?l1 ?l2 ?_
  case l1 => walk_at "q_sub"
  case l2 => walk_at "q_sub"
  refine ST_for2 (SRC_enumL G p (fun i => rInt (f i)) hA.hh ?s rfl rfl rfl rfl)
    (fun i J => J = ⟨ownCells _, [("worth", .ref b), ("one", v), ("two", u)], [(v, rVI p f), (u, rVI q t)], [(b, (List.range (p + q - 1)).map fun j => rInt (prodF f t q i j))], fun d => False ∨ d = b, S⟩) rfl (by rintro i J' rfl; exact ⟨rfl, rfl, rfl, by simp only [List.map_cons, List.map_nil]⟩) kr_mono rfl (store2 ?k2 ?k3) ?turn ?fin
  case s => walk_at "q_name"
  case k2 => walk_at "q_kind"
  case k3 => walk_at "q_kind"
  case fin =>
    rintro _ rfl
    refine ST_retMu (EV_localV (v := .ref b) ?b1 rfl rfl) (.head _) nb fun h vs r => all2_free ints_free vs r
    case b1 => walk_at "q_mu"
  case turn =>
    rintro a _ ha rfl
    refine ⟨?w, ?d, fun va vl => ?b⟩
    case d => walk_at "q_drop"
    case b =>
      refine ST_less (m' := [("at", va), ("left", vl), ("worth", .ref b), ("one", v), ("two", u)]) (D' := [(va, rInt (a : Int)), (vl, rInt (f a)), (v, rVI p f), (u, rVI q t)]) ?l1 ?l2 ?_
      case l1 => walk_at "q_sub"
      case l2 => walk_at "q_sub"
      have e0 : ((List.range (p + q - 1)).map fun j => rInt (prodF f t q a j)) = (List.range (p + q - 1)).map fun j => rInt (if a ≤ j ∧ j < a + 0 then prodF f t q a j + f a * t (j - a) else prodF f t q a j) := rl_congr fun j _ => by rw [if_neg (by omega)]
      rw [e0]
      refine ST_for2 (SRC_enumL G q (fun i => rInt (t i)) hA.hh ?s rfl rfl rfl rfl)
        (fun m J => J = ⟨ownCells _, [("at", va), ("left", vl), ("worth", .ref b), ("one", v), ("two", u)], [(va, rInt (a : Int)), (vl, rInt (f a)), (v, rVI p f), (u, rVI q t)], [(b, (List.range (p + q - 1)).map fun j => rInt (if a ≤ j ∧ j < a + m then prodF f t q a j + f a * t (j - a) else prodF f t q a j))], fun d => False ∨ d = b, S⟩)
        rfl (by rintro i J' rfl; exact ⟨rfl, rfl, rfl, by simp only [List.map_cons, List.map_nil]⟩) (kw_mono kr_mono) rfl (store2 ?k2 ?k3) ?turn ?fin
      case s => walk_at "q_name"
      case k2 => walk_at "q_kind"
      case k3 => walk_at "q_kind"
      case fin =>
        rintro _ rfl
        refine ST_nil fun B hp a' => ⟨_, rfl, ?_⟩
        refine At.less a' ?_ ?_
        · walk_at "q_sub"
        · walk_at "q_sub"
      case turn =>
        rintro m _ hm rfl
        refine ⟨?w2, ?d2, fun vs vr => ?b2⟩
        case d2 => walk_at "q_drop"
        case b2 =>
          have hlt : a + m < p + q - 1 := by omega
          refine ST_store (b := b) (j := a + m) (R := rInt (prodF f t q a (a + m) + f a * t m)) (EV_add (a := prodF f t q a (a + m)) (EV.conv (EV_itemML (b := b) (n := p + q - 1) (g := fun j => rInt (if a ≤ j ∧ j < a + m then prodF f t q a j + f a * t (j - a) else prodF f t q a j)) (k := a + m) ?c1 ?c2 (EV.conv (EV_add (a := a) (b := m) ?c3 ?c4) rfl) hlt (by omega)) ?c5) (EV_mul (a := f a) (b := t m) ?c6 ?c7 (mulOk (hf a ha) (ht m hm) (by decide)))) ?c8 (EV.conv (EV_add (a := a) (b := m) ?c9 ?c10) rfl) (by rw [rl_len]; exact hlt) (by rw [rl_len]; omega) .hd (ST_nil fun B hp a' => ⟨_, rfl, ?c11⟩)
          case c1 => walk_at "q_val"
          case c2 => walk_at "q_mu"
          case c3 => walk_at "q_name"
          case c4 => walk_at "q_name"
          case c5 => exact congrArg rInt (if_neg (by omega))
          case c6 => walk_at "q_name"
          case c7 => walk_at "q_name"
          case c8 => walk_at "q_val"
          case c9 => walk_at "q_name"
          case c10 => walk_at "q_name"
          case c11 =>
            have e : ((List.range (p + q - 1)).map fun j => rInt (if a ≤ j ∧ j < a + m then prodF f t q a j + f a * t (j - a) else prodF f t q a j)).set (a + m) (rInt (prodF f t q a (a + m) + f a * t m)) = (List.range (p + q - 1)).map fun j => rInt (if a ≤ j ∧ j < a + (m + 1) then prodF f t q a j + f a * t (j - a) else prodF f t q a j) := by
              rw [range_set]
              refine rl_congr fun j _ => ?_
              by_cases h : j = a + m
              · subst h
                rw [if_pos rfl, if_pos ⟨by omega, by omega⟩, show a + m - a = m by omega]
              · rw [if_neg h]
                by_cases h2 : a ≤ j ∧ j < a + m
                · rw [if_pos h2, if_pos ⟨h2.1, by omega⟩]
                · rw [if_neg h2, if_neg (show ¬ (a ≤ j ∧ j < a + (m + 1)) by omega)]
            rw [e] at a'
            refine At.less a' ?_ ?_
            · walk_at "q_sub"
            · walk_at "q_sub"
theorem rest_pc (G : Gl base mg mb) (p q : Nat) (f t : Nat → Int) (hq : 0 < q) (hp : q ≤ p + 1) (hz : p + q ≤ 900) (ok : RestOk q t (p + 1 - q) f) (ht : ∀ i, i < q → (t i).natAbs < 2 ^ 1000) :
    PC prog w base mg "_law_rest" 1 [rVI p f, rVI q t] (rVI (q - 1) (restF q t (p + 1 - q) f)) := by
  refine PC_intro2 G (k := 41) rfl "one" "two" fun A L fa cd qn v u S hA => ?_
  refine ST_setOwn (Rs := (List.range (q - 1 + (p + 1 - q))).map fun i => rInt (f i)) (EVN.conv (EVL.evn (EVL_list G (Rs := (List.range p).map fun i => rInt (f i)) ?a1 (by rw [rl_len]; omega) rfl rfl rfl rfl) ints_free) (by rw [show q - 1 + (p + 1 - q) = p by omega])) (selfless_free ints_free) (m₀ := ?m) ?cap rfl ?kind fun b nb => ?_
  case a1 => walk_at "q_name"
  case cap => walk_at "q_drop"
  case kind => walk_at "q_kind"
  refine ST_less (m' := [("rest", .ref b), ("two", u)]) (D' := [(u, rVI q t)]) ?l1 ?l2 ?_
  case l1 => walk_at "q_sub"
  case l2 => walk_at "q_sub"
  refine ST_while (fun k J => ∃ g, k ≤ p + 1 - q ∧ restF q t k g = restF q t (p + 1 - q) f ∧ RestOk q t k g ∧ J = ⟨ownCells _, [("rest", .ref b), ("two", u)], [(u, rVI q t)], [(b, (List.range (q - 1 + k)).map fun i => rInt (g i))], fun d => False ∨ d = b, S⟩) (p + 1 - q) ⟨f, Nat.le_refl _, rfl, ok, rfl⟩ ?_
  rintro k _ ⟨g, hk, hF, hok, rfl⟩
  refine ⟨decide (0 < k), ET.conv (ET_of (R := rInt ((q - 1 + k : Nat) : Int)) (S := rInt (q : Int)) (EV_lenML' G (b := b) (n := q - 1 + k) (g := fun i => rInt (g i)) ?a1 ?a2 (by omega) rfl rfl rfl rfl) (EV_lenL G (n := q) (g := fun i => rInt (t i)) ?a3 (by omega) rfl rfl rfl rfl) cmp_ge) (by rw [decide_eq_decide]; omega), fun h => ?yes, fun h => ?no⟩
  case a1 => walk_at "q_val"
  case a2 => walk_at "q_mu"
  case a3 => walk_at "q_name"
  case no =>
    obtain rfl : k = 0 := by simpa using h
    refine ST_retMu (EV_localV (v := .ref b) ?b1 rfl rfl) (.head _) nb fun h vs r => ?_
    case b1 => walk_at "q_mu"
    rw [← hF]
    exact all2_free ints_free vs r
  case yes =>
    obtain ⟨k, rfl⟩ : ∃ k', k = k' + 1 := ⟨k - 1, by have := of_decide_eq_true h; omega⟩
    obtain ⟨o1, o2⟩ := hok
    have hl : q - 1 + (k + 1) = q + k := by omega
    rw [hl]
    refine ST_set (R := rInt (g (q - 1 + k))) (EV_itemML (b := b) (n := q + k) (g := fun i => rInt (g i)) (k := q - 1 + k) ?b1 ?b2 (EV.conv (EV_sub (a := ((q + k : Nat) : Int)) (b := 1) (EV_lenML' G (b := b) (n := q + k) (g := fun i => rInt (g i)) ?b3 ?b4 (by omega) rfl rfl rfl rfl) EV_int) (congrArg rInt (by omega))) (by omega) (by omega)) (m₀ := ?m2) ?b5 rfl ?b6 fun vf => ?_
    case b1 => walk_at "q_val"
    case b2 => walk_at "q_mu"
    case b3 => walk_at "q_val"
    case b4 => walk_at "q_mu"
    case b5 => walk_at "q_drop"
    case b6 => walk_at "q_kind"
    have e0 : ((List.range (q + k)).map fun j => rInt (g j)) = (List.range (q + k)).map fun j => rInt (if k ≤ j ∧ j < k + 0 then g j - g (q - 1 + k) * t (j - k) else g j) := rl_congr fun j _ => by rw [if_neg (by omega)]
    rw [e0]
    refine ST_less (m' := [("front", vf), ("rest", .ref b), ("two", u)]) (D' := [(vf, rInt (g (q - 1 + k))), (u, rVI q t)]) ?l3 ?l4 ?_
    case l3 => walk_at "q_sub"
    case l4 => walk_at "q_sub"
    refine ST_for2 (SRC_enumL G q (fun i => rInt (t i)) hA.hh ?s rfl rfl rfl rfl)
      (fun m J => J = ⟨ownCells _, [("front", vf), ("rest", .ref b), ("two", u)], [(vf, rInt (g (q - 1 + k))), (u, rVI q t)], [(b, (List.range (q + k)).map fun j => rInt (if k ≤ j ∧ j < k + m then g j - g (q - 1 + k) * t (j - k) else g j))], fun d => False ∨ d = b, S⟩)
      rfl (by rintro i J' rfl; exact ⟨rfl, rfl, rfl, by simp only [List.map_cons, List.map_nil]⟩) (kw_mono kr_mono) rfl (store2 ?k2 ?k3) ?turn ?fin
    case s => walk_at "q_name"
    case k2 => walk_at "q_kind"
    case k3 => walk_at "q_kind"
    case fin =>
      rintro _ rfl
      refine ST_pop (b := b) (Rs := (List.range (q + k)).map fun j => rInt (if k ≤ j ∧ j < k + q then g j - g (q - 1 + k) * t (j - k) else g j)) ?c1 .hd ?c2 (by rw [rl_len]; omega) (ST_nil fun B hp a' => ⟨_, ⟨k, by omega, restN q t k g, by omega, hF, o2, rfl⟩, ?c3⟩)
      case c1 => walk_at "q_val"
      case c2 => exact fun h => by have := congrArg List.length h; rw [rl_len] at this; simp at this; omega
      case c3 =>
        have e : ((List.range (q + k)).map fun j => rInt (if k ≤ j ∧ j < k + q then g j - g (q - 1 + k) * t (j - k) else g j)).dropLast = (List.range (q - 1 + k)).map fun i => rInt (restN q t k g i) := by
          rw [List.dropLast_eq_take, rl_len, range_take, show min (q + k - 1) (q + k) = q - 1 + k by omega]
          refine rl_congr fun j hj => ?_
          unfold restN
          by_cases h : k ≤ j
          · rw [if_pos h, if_pos ⟨h, by omega⟩]
          · rw [if_neg h, if_neg (by omega)]
        rw [e] at a'
        refine At.less a' ?_ ?_
        · walk_at "q_sub"
        · walk_at "q_sub"
    case turn =>
      rintro m _ hm rfl
      refine ⟨?w, ?d, fun va vt => ?b⟩
      case d => walk_at "q_drop"
      case b =>
        have hlt : k + m < q + k := by omega
        refine ST_store (b := b) (j := k + m) (R := rInt (g (k + m) - g (q - 1 + k) * t m)) (EV_sub (a := g (k + m)) (EV.conv (EV_itemML (b := b) (n := q + k) (g := fun j => rInt (if k ≤ j ∧ j < k + m then g j - g (q - 1 + k) * t (j - k) else g j)) (k := k + m) ?c1 ?c2 (EV.conv (EV_add (a := ((q + k : Nat) : Int) - q) (b := m) (EV_sub (EV_lenML' G (b := b) (n := q + k) (g := fun j => rInt (if k ≤ j ∧ j < k + m then g j - g (q - 1 + k) * t (j - k) else g j)) ?c3 ?c4 (by omega) rfl rfl rfl rfl) (EV_lenL G (n := q) (g := fun i => rInt (t i)) ?c5 (by omega) rfl rfl rfl rfl)) ?c6) (congrArg rInt (by omega))) hlt (by omega)) ?c7) (EV_mul (a := g (q - 1 + k)) (b := t m) ?c8 ?c9 (mulOk o1 (ht m hm) (by decide)))) ?c10
          (EV.conv (EV_add (a := ((q + k : Nat) : Int) - q) (b := m) (EV_sub (EV_lenML' G (b := b) (n := q + k) (g := fun j => rInt (if k ≤ j ∧ j < k + m then g j - g (q - 1 + k) * t (j - k) else g j)) ?c11 ?c12 (by omega) rfl rfl rfl rfl) (EV_lenL G (n := q) (g := fun i => rInt (t i)) ?c13 (by omega) rfl rfl rfl rfl)) ?c14) (congrArg rInt (by omega))) (by rw [rl_len]; exact hlt) (by rw [rl_len]; omega) .hd (ST_nil fun B hp a' => ⟨_, rfl, ?c15⟩)
        case c1 => walk_at "q_val"
        case c2 => walk_at "q_mu"
        case c3 => walk_at "q_val"
        case c4 => walk_at "q_mu"
        case c5 => walk_at "q_name"
        case c6 => walk_at "q_name"
        case c7 => exact congrArg rInt (if_neg (by omega))
        case c8 => walk_at "q_name"
        case c9 => walk_at "q_name"
        case c10 => walk_at "q_val"
        case c11 => walk_at "q_val"
        case c12 => walk_at "q_mu"
        case c13 => walk_at "q_name"
        case c14 => walk_at "q_name"
        case c15 =>
          have e : ((List.range (q + k)).map fun j => rInt (if k ≤ j ∧ j < k + m then g j - g (q - 1 + k) * t (j - k) else g j)).set (k + m) (rInt (g (k + m) - g (q - 1 + k) * t m)) = (List.range (q + k)).map fun j => rInt (if k ≤ j ∧ j < k + (m + 1) then g j - g (q - 1 + k) * t (j - k) else g j) := by
            rw [range_set]
            refine rl_congr fun j _ => ?_
            by_cases h : j = k + m
            · subst h
              rw [if_pos rfl, if_pos ⟨by omega, by omega⟩, show k + m - k = m by omega]
            · rw [if_neg h]
              by_cases h2 : k ≤ j ∧ j < k + m
              · rw [if_pos h2, if_pos ⟨h2.1, by omega⟩]
              · rw [if_neg h2, if_neg (show ¬ (k ≤ j ∧ j < k + (m + 1)) by omega)]
          rw [e] at a'
          refine At.less a' ?_ ?_
          · walk_at "q_sub"
          · walk_at "q_sub"
end

section
variable {prog : Program} {w : World} {base : Heap} {mg mb : Str → Option Value} {A : Around} {env : Env} {J : Inv}

theorem At.own2 {B : Addr → Option Obj} {h h' : Heap} (a : At base B env J h) (k : Ext h h') {b c : Addr} {Rs Ss : List RV} {vs us : List Value} (nb : h.get? b = none) (nc : h.get? c = none) (hbc : b ≠ c) (q : Sq "list" h' b vs) (r : All2 (fun d => (J.X d ∨ d = c) ∨ d = b) h' Rs vs)
    (q₂ : Sq "list" h' c us) (r₂ : All2 (fun d => (J.X d ∨ d = c) ∨ d = b) h' Ss us) : At base B env { J with Mu := (b, Rs) :: (c, Ss) :: J.Mu, X := fun d => (J.X d ∨ d = c) ∨ d = b } h' := by
  have a' := a.ext k
  have nB : ∀ d, h.get? d = none → B d = none := fun d nd => by
    cases e : B d with
    | none => rfl
    | some o => rw [a.fm.keep d o e] at nd; cases nd
  have up : ∀ (R : RV) v, R.p J.X v h → R.p (fun d => (J.X d ∨ d = c) ∨ d = b) v h' := fun R v x =>
    RV.ext (R.anti _ _ _ _ (fun d q => by
      rcases q with (q | rfl) | rfl
      · exact .inl q
      · exact .inr nc
      · exact .inr nb) (R.grow _ _ _ x)) k
  refine ⟨a'.fm, fun d hd => up _ _ (a.dat d hd), fun p hp => ?_, ?_, fun d q' => ?_, fun d q' => (a.sd d q').imp id fun z => .inl (.inl z)⟩
  · rcases List.mem_cons.mp hp with rfl | hp
    · exact ⟨⟨vs, q, r⟩, nB _ nb, .inr rfl⟩
    · rcases List.mem_cons.mp hp with rfl | hp
      · exact ⟨⟨us, q₂, r₂⟩, nB _ nc, .inl (.inr rfl)⟩
      · obtain ⟨⟨ws, q', r'⟩, z, z'⟩ := a.mu p hp
        exact ⟨⟨ws, q'.ext k, r'.imp fun R v hm x => up R v x⟩, z, .inl (.inl z')⟩
  · have off : ∀ d, h.get? d = none → d ∉ J.Mu.map (·.1) := fun d nd hm => by
      obtain ⟨p, hp, e⟩ := List.mem_map.mp hm
      exact a.xdom _ (e ▸ (a.mu p hp).2.2) nd
    simp only [List.map_cons, List.nodup_cons]
    refine ⟨fun hm => ?_, off c nc, a.nd⟩
    rcases List.mem_cons.mp hm with e | hm
    · exact hbc e
    · exact off b nb hm
  · rcases q' with (q' | rfl) | rfl
    · exact (a.xd d q').imp id fun ⟨Rs, hm⟩ => ⟨Rs, .tail _ (.tail _ hm)⟩
    · exact .inr ⟨Ss, .tail _ (.head _)⟩
    · exact .inr ⟨Rs, .head _⟩

theorem ST_setBox {e : Expr} {nm : Str} {px pos : Pos} {rest : List Stmt} {l : List Int} {z : Int} {K : Kt} {m₀ : List (Str × Value)} (he : EVN prog w base A env J e (rList [rList (l.map rInt), rInt z])) (h0 : J.Mu = [])
    (hm : Drop [nm] J.m m₀) (hk : env.scope.kind = .function) (hx : env.kindOf nm = some .local ∨ (env.kindOf nm = some .cell ∧ nm ∈ J.O ∧ (env.cells.lookup nm).isSome = true))
    (h : ∀ x y, ST prog w base A env { J with m := (nm, .ref x) :: m₀, Mu := bx x y (l, z), X := fun d => (J.X d ∨ d = y) ∨ d = x } rest K) (hs : swapsWith e (some (.Name nm px)) pos.line env = pure false := by rfl) :
    ST prog w base A env J (.Assign [.Name nm px] e pos :: rest) K := fun B s Q E a k => by
  refine wpAny_execs_cons (wpAny_Assign_Name (he B s _ E a fun v h₁ t₁ k₁ r => ?_) hs)
  obtain ⟨b, vs, rfl, nb, q, r⟩ := r
  match vs, r with
  | [v, u], r =>
    obtain ⟨⟨c, us, rfl, nc, q₂, r₂⟩, ⟨t, rfl⟩, _⟩ := r
    have hbc : b ≠ c := by
      rintro rfl
      obtain ⟨_, e⟩ := q.inj q₂
      rw [← e] at r₂
      match l, r₂ with
      | i :: l, r₂ => obtain ⟨⟨_, e⟩, _⟩ := r₂; cases e
    have hf : ∀ R ∈ l.map rInt, R.free := fun R hm => by obtain ⟨i, _, rfl⟩ := List.mem_map.mp hm; exact rInt_free _
    have a₁ := a.own2 k₁ (notdom nb) (notdom nc) hbc (Rs := [rIs (.ref c), rInt z]) (Ss := l.map rInt) q ⟨rfl, ⟨t, rfl⟩, trivial⟩ q₂ (all2_free hf _ r₂)
    rw [h0] at a₁
    refine At.store (s := { s with heap := h₁, toks := t₁ }) a₁ hm.aset hk hx fun h₂ t₂ a₂ K₂ => ?_
    exact h b c B _ Q E a₂ fun f h' tk y => k f h' tk y

/-- what comes after a part -/
def Kq (base : Heap) (env : Env) (Fam : Inv → Prop) : Kt := fun B f h' => f = .next ∧ ∃ J', Fam J' ∧ At base B env J' h'
theorem ST_join {xs ys : List Stmt} {K : Kt} {Fam : Inv → Prop} (h : ST prog w base A env J xs (Kq base env Fam)) (ht : ∀ J', Fam J' → ST prog w base A env J' ys K) : ST prog w base A env J (xs ++ ys) K := fun B s Q E a k => by
  rw [execs_append_eq]
  refine wpAny_bind (h B s _ E a fun f h₁ t₁ y => ?_)
  obtain ⟨rfl, J', hf, a'⟩ := y
  exact ht J' hf B _ Q E a' fun f h' tk y => k f h' tk y
theorem ST_ifJoin {t : Expr} {b : List Stmt} {pos : Pos} {rest : List Stmt} {c : Bool} {K : Kt} {M' : List (Addr × List RV)} (Fam : Inv → Prop) (ht : EMT prog w base A env J t M' c) (hb : c = true → ST prog w base A env { J with Mu := M' } b (Kq base env Fam))
    (ho : c = false → Fam { J with Mu := M' }) (hr : ∀ J', Fam J' → ST prog w base A env J' rest K) : ST prog w base A env J (.If t b [] pos :: rest) K :=
  ST_ifM ht (fun h => ST_join (hb h) hr) fun h => hr _ (ho h)
end

/-! ## what the law looks at -/
abbrev qM (g : Nat → Nat → Int) : Mt := fun i j => ((g i j : Int) : Rat)
abbrev cpA (g : Nat → Nat → Int) (n : Nat) : Nat → Rat := cpAt (qM g) n
abbrev lpA (g : Nat → Nat → Int) (n d : Nat) : Nat → Rat := fun j => depAt (ech (n * n) (pm (qM g) n) (d + 1)).1 d d j
abbrev bigA (g : Nat → Nat → Int) (n : Nat) : Nat → Int := fun i => (cpA g n i).num
abbrev smlA (g : Nat → Nat → Int) (n d : Nat) : Nat → Int := fun i => (lpA g n d i).num
def shI (g : Nat → Nat → Int) (x : Int) : Nat → Nat → Int := fun i j => (if i = j then x else 0) - g i j
def ppow (t : Nat → Int) (d : Nat) : Nat → Nat → Int
  | 0 => fun _ => 1
  | k + 1 => prodF (ppow t d k) t (d + 1) (1 + k * d)
structure LawOk (g : Nat → Nat → Int) (n d : Nat) : Prop where
  n0 : 0 < n
  n3 : n ≤ 3
  d0 : 0 < d
  dn : d ≤ n
  gb : ∀ i j, i < n → j < n → (g i j).natAbs ≤ 36
  cp : CpOk (qM g) n
  mn : MinOk (qM g) n d
  cden : ∀ i, i ≤ n → (cpA g n i).den = 1
  lden : ∀ j, j ≤ d → (lpA g n d j).den = 1
  atOk : ∀ x : Int, x.natAbs ≤ 5 → ∀ i, i < n + 1 → (atV (cpA g n) (n + 1) x i).natAbs < 2 ^ 1000
  atDet : ∀ x : Int, x.natAbs ≤ 5 → atV (cpA g n) (n + 1) x (n + 1) = detV n (shI g x)
  hc : HorOk (qM g) n (cpA g n) (n + 1)
  hl : HorOk (qM g) n (lpA g n d) (d + 1)
  hc0 : ∀ i j, i < n → j < n → hor (qM g) n (cpA g n) (n + 1) (n + 1) i j = 0
  hl0 : ∀ i j, i < n → j < n → hor (qM g) n (lpA g n d) (d + 1) (d + 1) i j = 0
  one : smlA g n d d = 1
  bigB : ∀ i, i ≤ n → (bigA g n i).natAbs < 2 ^ 1000
  smlB : ∀ i, i ≤ d → (smlA g n d i).natAbs < 2 ^ 1000
  div1 : ∀ i, i < d → restF (d + 1) (smlA g n d) (n + 1 + 1 - (d + 1)) (bigA g n) i = 0
  div1ok : RestOk (d + 1) (smlA g n d) (n + 1 + 1 - (d + 1)) (bigA g n)
  powB : ∀ k, k < n → ∀ i, i < 1 + k * d → (ppow (smlA g n d) d k i).natAbs < 2 ^ 1000
  div2 : ∀ i, i < n → restF (n + 1) (bigA g n) (1 + n * d + 1 - (n + 1)) (ppow (smlA g n d) d n) i = 0
  div2ok : RestOk (n + 1) (bigA g n) (1 + n * d + 1 - (n + 1)) (ppow (smlA g n d) d n)
  ev : d = 1 ↔ ∀ i, i < n → ∀ j, j < n → g i j = if i = j then g 0 0 else 0

theorem Rd_mat (r c : Nat) (f : Mt) : Rd (rM r c f) (.list ((List.range r).map fun i => .list ((List.range c).map fun j => .tuple [.int (f i j).num, .int (f i j).den]))) := Rd_list (RdAll.map fun i _ => Rd_list (RdAll.map fun j _ => Rd_rat _))
theorem eqvAll_self : ∀ {l : List PyData}, (∀ d ∈ l, PyData.eqv d d = true) → PyData.eqvAll l l = true
  | [], _ => rfl
  | d :: l, h => by unfold PyData.eqvAll; rw [h d (.head _), eqvAll_self fun d hd => h d (.tail _ hd)]; rfl
theorem eqv_mat (r c : Nat) (f : Mt) : PyData.eqv (.list ((List.range r).map fun i => .list ((List.range c).map fun j => .tuple [.int (f i j).num, .int (f i j).den]))) (.list ((List.range r).map fun i => .list ((List.range c).map fun j => .tuple [.int (f i j).num, .int (f i j).den]))) = true := by
  rw [PyData.eqv]
  refine eqvAll_self fun d hd => ?_
  obtain ⟨i, _, rfl⟩ := List.mem_map.mp hd
  rw [PyData.eqv]
  refine eqvAll_self fun d hd => ?_
  obtain ⟨j, _, rfl⟩ := List.mem_map.mp hd
  rw [eqv_rat]; simp
theorem depth_mat (r c : Nat) (f : Mt) : PyData.depth (.list ((List.range r).map fun i => .list ((List.range c).map fun j => .tuple [.int (f i j).num, .int (f i j).den]))) ≤ 9 := by
  have h1 : ∀ i, PyData.depth (.list ((List.range c).map fun j => .tuple [.int (f i j).num, .int (f i j).den])) ≤ 8 := fun i => by
    rw [PyData.depth]
    have := depthAll_le (n := 7) (ds := (List.range c).map fun j => .tuple [.int (f i j).num, .int (f i j).den]) fun d hd => by
      obtain ⟨j, _, rfl⟩ := List.mem_map.mp hd; simp [PyData.depth, PyData.depthAll]
    omega
  rw [PyData.depth]
  have := depthAll_le (n := 8) (ds := (List.range r).map fun i => .list ((List.range c).map fun j => .tuple [.int (f i j).num, .int (f i j).den])) fun d hd => by
    obtain ⟨i, _, rfl⟩ := List.mem_map.mp hd; exact h1 i
  omega
theorem depth_grid (r c : Nat) (g : Nat → Nat → Int) : PyData.depth (.list ((List.range r).map fun i => .list ((List.range c).map fun j => .int (g i j)))) ≤ 9 := by
  have h1 : ∀ i, PyData.depth (.list ((List.range c).map fun j => .int (g i j))) ≤ 8 := fun i => by
    rw [PyData.depth]
    have := depthAll_le (n := 7) (ds := (List.range c).map fun j => .int (g i j)) fun d hd => by
      obtain ⟨j, _, rfl⟩ := List.mem_map.mp hd; simp [PyData.depth]
    omega
  rw [PyData.depth]
  have := depthAll_le (n := 8) (ds := (List.range r).map fun i => .list ((List.range c).map fun j => .int (g i j))) fun d hd => by
    obtain ⟨i, _, rfl⟩ := List.mem_map.mp hd; exact h1 i
  omega
theorem eqvAll_range {f g : Nat → PyData} (n : Nat) : PyData.eqvAll ((List.range n).map f) ((List.range n).map g) = decide (∀ i, i < n → PyData.eqv (f i) (g i) = true) := by
  have : ∀ (l : List Nat), PyData.eqvAll (l.map f) (l.map g) = decide (∀ i, i ∈ l → PyData.eqv (f i) (g i) = true) := by
    intro l
    induction l with
    | nil => simp [PyData.eqvAll]
    | cons a l ih =>
      simp only [List.map_cons, PyData.eqvAll, ih, List.mem_cons, forall_eq_or_imp]
      cases PyData.eqv (f a) (g a) <;> simp
  rw [this, decide_eq_decide]
  simp [List.mem_range]
theorem eqv_grid (n : Nat) (g g' : Nat → Nat → Int) : PyData.eqv (.list ((List.range n).map fun i => .list ((List.range n).map fun j => .int (g i j)))) (.list ((List.range n).map fun i => .list ((List.range n).map fun j => .int (g' i j)))) = decide (∀ i, i < n → ∀ j, j < n → g i j = g' i j) := by
  rw [PyData.eqv, eqvAll_range, decide_eq_decide]
  constructor
  · intro h i hi j hj
    have := h i hi
    rw [PyData.eqv, eqvAll_range, decide_eq_true_eq] at this
    have := this j hj
    simpa [PyData.eqv] using this
  · intro h i hi
    rw [PyData.eqv, eqvAll_range, decide_eq_true_eq]
    intro j hj
    simpa [PyData.eqv] using h i hi j hj

section
variable {prog : Program} {w : World} {base : Heap} {mg mb : Str → Option Value}
def GridOk (g : Nat → Nat → Int) (n : Nat) : Prop := ∀ i j, i < n → j < n → (g i j).natAbs ≤ 36
theorem cmp_neNil {A : Around} {X : Addr → Prop} (hu : A.units + 9 < cLine) : Cmp prog w A X .NotEq (rList []) (rList []) false := cmp_neD (Rd_list (Rs := []) (ds := []) trivial) (Rd_list (Rs := []) (ds := []) trivial) hu (by simp [PyData.depth, PyData.depthAll])
theorem EVN_none1T {A : Around} {env : Env} {J : Inv} {elt iter target t : Expr} {scope : Scope} {pos : Pos} {n : Nat} {x : Str} {V : Nat → RV} {m₀ : List (Str × Value)} 
    (hsrc : SRC prog w base A env J target iter n [x] (fun i => [V i])) (hn : n ≤ 1000) (hcap : Cap scope J.m m₀)
    (tests : ∀ C k i v, i < n → ET prog w base A (cEnv scope env C k) ⟨ownCells scope, (x, v) :: m₀, (v, V i) :: J.D, J.Mu, J.X, J.S⟩ t false)
    (hok : compOk env.cells scope [x] = true := by rfl) (hkind : scope.kind = .function := by rfl) (hs : ∀ x, foldedSetIterable iter env x = pure x := by intro _; rfl) :
    EVN prog w base A env J (.ListComp elt [⟨target, iter, [t], 0⟩] scope pos) (rList []) := by
  have := EVN_comp1T (pos := pos) (elt := elt) (fun _ => false) (fun _ => rNone) hsrc hn hcap tests (fun C k i v _ h => nomatch h) hok hkind hs
  rwa [List.filter_eq_nil_iff.mpr (fun _ _ => by decide)] at this
theorem replicate_range {α : Type} (n : Nat) (a : α) : List.replicate n a = (List.range n).map fun _ => a := by
  apply List.ext_getElem
  · simp
  · intro i h1 h2; simp
theorem five_lt {a : Nat} (h : a ≤ 5) : a < 2 ^ 1000 := Nat.lt_of_le_of_lt h (Nat.lt_of_lt_of_le (show 5 < 2 ^ 3 by decide) (Nat.pow_le_pow_right (by decide) (by decide)))
theorem gridV_ok (st : Bx) (n : Nat) : GridOk (gridV st n) n := fun i j _ _ => by
  have h0 : ∀ i j, (g0 st n i j).natAbs ≤ 6 := fun i j => whole_le _
  unfold gridV
  split
  · show (if i = n - 1 then _ else _ : Int).natAbs ≤ 36
    split
    · rw [Int.natAbs_mul]
      exact Nat.mul_le_mul (whole_le _) (h0 _ _)
    · exact Nat.le_trans (h0 _ _) (by decide)
  · exact Nat.le_trans (h0 _ _) (by decide)
set_option maxHeartbeats 1000000
theorem law_pc (G : Gl base mg mb) (m : Nat) (f : Nat → Int) (hm : m ≤ 1000) (all : ∀ g n, 0 < n → n ≤ 3 → GridOk g n → ∃ d, LawOk g n d) : PC prog w base mg "law" 9 [rVI m f] (rBool true) := by
  refine PC_intro1 G (k := 43) rfl "script" fun A L fa cd q v S hA => ?_
  refine ST_setBox (l := (List.range (min 24 m)).map f) (z := stir f (min 24 m)) (EVN.conv (EVN_call G (box_pc G m f hm) (hA.le (by decide)) (EVs_cons ?a1 EVs_nil) rfl rfl rfl) ?a2) rfl (m₀ := ?m) ?cap rfl ?kind fun x y => ?_
  case a1 => walk_at "q_name"
  case a2 => rw [List.map_map]; rfl
  case cap => walk_at "q_drop"
  case kind => walk_at "q_kind"
  have ok0 : BxOk ((List.range (min 24 m)).map f, stir f (min 24 m)) := ⟨(stir_rng f _).1, (stir_rng f _).2, by simp; omega⟩
  generalize hst : (((List.range (min 24 m)).map f, stir f (min 24 m)) : Bx) = st at ok0 ⊢
  obtain ⟨t0, t1⟩ := takeV_rng (st := st) (w := 3) (by decide)
  obtain ⟨n, hn⟩ : ∃ n : Nat, (n : Int) = 1 + takeV st 3 := ⟨(1 + takeV st 3).toNat, by omega⟩
  have n0 : 0 < n := by omega
  have n3 : n ≤ 3 := by omega
  have n3' : n ≤ 1000 := by omega
  refine ST_setM (R := rInt n) (EM.conv (EM_add EV_int (EM_callN G (take_pm G S x y st 3 (by decide) ok0) .all rfl (fun _ q => q) (hA.le (by decide)) (EVs_cons ?a3 (EVs_cons EV_int EVs_nil)) rfl rfl rfl).old) rfl (congrArg rInt hn.symm)) (m₀ := ?m2) ?cap2 rfl ?kind2 fun vn => ?_
  case a3 => walk_at "q_val"
  case cap2 => walk_at "q_drop"
  case kind2 => walk_at "q_kind"
  have ok1 := ok0.next
  generalize takeS st = st1 at ok1 ⊢
  refine ST_setM (EM_callN G (grid_pm G S x y st1 n n0 n3 ok1) .all rfl (fun _ q => q) (hA.le (by decide)) (EVs_cons ?a4 (EVs_cons ?a5 (EVs_cons ?a6 EVs_nil))) rfl rfl rfl).old (m₀ := ?m3) ?cap3 rfl ?kind3 fun vg => ?_
  case a4 => walk_at "q_val"
  case a5 => walk_at "q_name"
  case a6 => walk_at "q_name"
  case cap3 => walk_at "q_drop"
  case kind3 => walk_at "q_kind"
  have ok2 : BxOk (gridS st1 n) := by
    unfold gridS
    split
    · split <;> exact stAt_ok ok1 _
    · exact stAt_ok ok1 _
  have gok := gridV_ok st1 n
  generalize gridS st1 n = st2 at ok2 ⊢
  generalize gridV st1 n = g at gok ⊢
  refine ST_less (m' := [("grid", vg), ("size", vn), ("box", .ref x)]) (D' := [(vg, rMI n n g), (vn, rInt n)]) ?l1 ?l2 ?_
  case l1 => walk_at "q_sub"
  case l2 => walk_at "q_sub"
  refine ST_ifJoin (M' := bx x y (takeS st2)) (c := decide (takeV st2 3 = 0)) (fun J => ∃ g vg, GridOk g n ∧ J = ⟨ownCells _, [("grid", vg), ("size", vn), ("box", .ref x)], [(vg, rMI n n g), (vn, rInt n)], bx x y (takeS st2), fun d => (False ∨ d = y) ∨ d = x, S⟩)
    (EMT_of (EM_callN G (take_pm G S x y st2 3 (by decide) ok2) .all rfl (fun _ q => q) (hA.le (by decide)) (EVs_cons ?b1 (EVs_cons EV_int EVs_nil)) rfl rfl rfl).old EV_int cmp_eq) (fun _ => ?b2) (fun _ => ⟨g, vg, gok, rfl⟩) ?b3
  case b1 => walk_at "q_val"
  case b2 =>
    refine ST_set (R := rMI n n fun i j => if j = i then g i j else 0) (EVN_comp2 (m₀ := ?m4) (fun i => rVI n fun j => if j = i then g i j else 0) (SRC_enumL G n (fun i => rVI n (g i)) hA.hh ?s rfl rfl rfl rfl) n3' ?cap4 fun C k i z1 z2 hi => ?e).ev (m₀ := ?m5) ?cap5 rfl ?kind5 fun vg' => ?_
    case s => walk_at "q_name"
    case cap4 => walk_at "q_cap"
    case cap5 => walk_at "q_drop"
    case kind5 => walk_at "q_kind"
    case e =>
      refine EVN_comp2 (m₀ := ?m6) (fun j => rInt (if j = i then g i j else 0)) (SRC_enumL G n (fun j => rInt (g i j)) hA.hh ?s2 rfl rfl rfl rfl) n3' ?cap6 fun C2 k2 j z3 z4 hj => ?e2
      case s2 => walk_at "q_name"
      case cap6 => walk_at "q_cap"
      case e2 =>
        refine (EV_if (c := decide (j = i)) ?_ (fun h => ?_) (fun h => ?_)).new (rInt_free _)
        · refine (ET_of (R := rInt j) (S := rInt i) ?_ ?_ cmp_eq).conv (by rw [decide_eq_decide]; omega)
          · walk_at "q_name"
          · walk_at "q_name"
        · rw [if_pos (by simpa using h)]; walk_at "q_name"
        · rw [if_neg (by simpa using h)]; exact EV_int
    have hg' : GridOk (fun i j => if j = i then g i j else 0) n := fun i j hi hj => by
      show (if j = i then g i j else 0 : Int).natAbs ≤ 36
      split
      · exact gok i j hi hj
      · decide
    refine ST_nil fun B hp a' => ⟨rfl, _, ⟨_, vg', hg', rfl⟩, ?_⟩
    refine At.less a' ?_ ?_
    · walk_at "q_sub"
    · walk_at "q_sub"
  case b3 =>
    rintro _ ⟨g, vg, gok, rfl⟩
    have ok3 := ok2.next
    generalize takeS st2 = st3 at ok3 ⊢
    refine ST_ifJoin (M' := bx x y (takeS st3)) (c := decide (takeV st3 4 = 0)) (fun J => ∃ g vg, GridOk g n ∧ J = ⟨ownCells _, [("grid", vg), ("size", vn), ("box", .ref x)], [(vg, rMI n n g), (vn, rInt n)], bx x y (takeS st3), fun d => (False ∨ d = y) ∨ d = x, S⟩)
      (EMT_of (EM_callN G (take_pm G S x y st3 4 (by decide) ok3) .all rfl (fun _ q => q) (hA.le (by decide)) (EVs_cons ?zb1 (EVs_cons EV_int EVs_nil)) rfl rfl rfl).old EV_int cmp_eq) (fun _ => ?c2) (fun _ => ⟨g, vg, gok, rfl⟩) ?c3
    case zb1 => walk_at "q_val"
    case c2 =>
      refine ST_set (R := rMI n n fun i j => if j = i then g 0 0 else 0) (EVN_comp1 (m₀ := ?zm4) (fun i => rVI n fun j => if j = i then g 0 0 else 0) (SRC_rangeL G n hA.hh ?zs n3' rfl rfl rfl rfl) n3' ?zcap4 fun C k i z1 hi => ?ze).ev (m₀ := ?zm5) ?zcap5 rfl ?zkind5 fun vg' => ?_
      case zs => walk_at "q_name"
      case zcap4 => walk_at "q_cap"
      case zcap5 => walk_at "q_drop"
      case zkind5 => walk_at "q_kind"
      case ze =>
        refine EVN_comp1 (m₀ := ?zm6) (fun j => rInt (if j = i then g 0 0 else 0)) (SRC_rangeL G n hA.hh ?zs2 n3' rfl rfl rfl rfl) n3' ?zcap6 fun C2 k2 j z3 hj => ?ze2
        case zs2 => walk_at "q_name"
        case zcap6 => walk_at "q_cap"
        case ze2 =>
          refine (EV_if (c := decide (j = i)) ?_ (fun h => ?_) (fun h => ?_)).new (rInt_free _)
          · refine (ET_of (R := rInt j) (S := rInt i) ?_ ?_ cmp_eq).conv (by rw [decide_eq_decide]; omega)
            · walk_at "q_name"
            · walk_at "q_name"
          · rw [if_pos (by simpa using h)]
            refine EV_itemK (i := 0) (n := n) (g := fun j => rInt (g 0 j)) (EV_itemK (i := 0) (n := n) (g := fun i => rVI n (g i)) ?_ (by decide) n0 n3') (by decide) n0 n3'
            walk_at "q_name"
          · rw [if_neg (by simpa using h)]; exact EV_int
      have hg' : GridOk (fun i j => if j = i then g 0 0 else 0) n := fun i j hi hj => by
        show (if j = i then g 0 0 else 0 : Int).natAbs ≤ 36
        split
        · exact gok 0 0 n0 n0
        · decide
      refine ST_nil fun B hp a' => ⟨rfl, _, ⟨_, vg', hg', rfl⟩, ?_⟩
      refine At.less a' ?_ ?_
      · walk_at "q_sub"
      · walk_at "q_sub"
    case c3 =>
      rintro _ ⟨g, vg, gok, rfl⟩
      generalize bx x y (takeS st3) = M
      generalize (fun d => (False ∨ d = y) ∨ d = x : Addr → Prop) = X
      obtain ⟨d, ok⟩ := all g n n0 n3 gok
      have hdn := ok.dn
      have hd0 := ok.d0
      have d3 : d ≤ 3 := by omega
      refine ST_swap2 (R₁ := rL (n + 1) fun i => rRat (cpA g n i)) (R₂ := rL (d + 1) fun j => rRat (lpA g n d j)) hA.hh
        (EVN_call G (charpoly_pc G n (qM g) n0 (by omega) ok.cp) (hA.le (by decide)) (EVs_cons (EVN_call G (from_whole_pc G n n g n3' n3') (hA.le (by decide)) (EVs_cons ?ta1 EVs_nil) rfl rfl rfl).ev EVs_nil) rfl rfl rfl).ev
        (EVN_call G (minpoly_pc G n d (qM g) n0 n3 ok.mn) (hA.le (by decide)) (EVs_cons (EVN_call G (from_whole_pc G n n g n3' n3') (hA.le (by decide)) (EVs_cons ?ta2 EVs_nil) rfl rfl rfl).ev EVs_nil) rfl rfl rfl).ev
        (m₀ := ?ta4) ?ta3 rfl rfl rfl (by decide) fun vw vl => ?_
      case ta1 => walk_at "q_name"
      case ta2 => walk_at "q_name"
      case ta3 => walk_at "q_drop"
      refine ST_less (m' := [("whole", vw), ("least", vl), ("grid", vg), ("size", vn)]) (D' := [(vw, rL (n + 1) fun i => rRat (cpA g n i)), (vl, rL (d + 1) fun j => rRat (lpA g n d j)), (vg, rMI n n g), (vn, rInt n)]) ?tb1 ?tb2 ?_
      case tb1 => walk_at "q_sub"
      case tb2 => walk_at "q_sub"
      refine ST_skip (c := false || false || false) (ET_or3 (c := false) (d := false) (e := false) ?tc1 (fun _ => ?tc2) (fun _ _ => ?tc3)) rfl ?_
      case tc1 =>
        refine ET.conv (ET_of (EV_lenL G (n := n + 1) (g := fun i => rRat (cpA g n i)) ?td1 (by omega) rfl rfl rfl rfl) (EV_add (a := n) (b := 1) ?td2 EV_int) cmp_ne) (by simp)
        case td1 => walk_at "q_name"
        case td2 => walk_at "q_name"
      case tc2 =>
        refine ET.conv (ET_of (R := rRat (cpA g n n)) (EV_itemL (n := n + 1) (g := fun i => rRat (cpA g n i)) (k := n) ?te1 ?te2 (by omega) (by omega)) (EV.conv (R := rTup [rInt 1, rInt 1]) (R' := rRat 1) (EV_tuple (EVs_cons EV_int (EVs_cons EV_int EVs_nil))) rfl) (cmp_neR hA.cmp)) ?te3
        case te1 => walk_at "q_name"
        case te2 => walk_at "q_name"
        case te3 => rw [decide_eq_false]; exact fun h => h (if_pos rfl)
      case tc3 =>
        have hz : ∀ i, i < n + 1 + (d + 1) → (if i < n + 1 then cpA g n i else lpA g n d (i - (n + 1))).den = 1 := fun i hi => by
          split
          · exact ok.cden i (by omega)
          · exact ok.lden _ (by omega)
        have e1 : ((List.range (n + 1)).map fun i => rRat (cpA g n i)) ++ ((List.range (d + 1)).map fun j => rRat (lpA g n d j)) = (List.range (n + 1 + (d + 1))).map fun i => rRat (if i < n + 1 then cpA g n i else lpA g n d (i - (n + 1))) := by
          rw [← range_add (n + 1) (d + 1)]
          congr 1
          · exact rl_congr fun i hi => congrArg rRat (if_pos hi).symm
          · exact rl_congr fun j hj => congrArg rRat (by rw [if_neg (by omega), Nat.add_sub_cancel_left])
        refine ET_of (EVN_none1T (m₀ := ?tf4) (SRC_listL (n + 1 + (d + 1)) (fun i => rRat (if i < n + 1 then cpA g n i else lpA g n d (i - (n + 1)))) hA.hh (EVL.conv (EVL_add (Rs := (List.range (n + 1)).map fun i => rRat (cpA g n i)) (Ss := (List.range (d + 1)).map fun j => rRat (lpA g n d j)) ?tf1 ?tf2 (by simp; omega)) e1).ev) (by omega) ?tf3 fun C k i z hi => ?tf5).ev (EVN_list (Rs := []) EVs_nil (fun R hm => nomatch hm)).ev (cmp_neNil hA.cmp)
        case tf1 => walk_at "q_name"
        case tf2 => walk_at "q_name"
        case tf3 => walk_at "q_cap"
        case tf5 =>
          have := hz i hi
          generalize (if i < n + 1 then cpA g n i else lpA g n d (i - (n + 1))) = z' at this
          refine ET.conv (ET_of (R := rInt (z'.den : Int)) (EV_part (Rs := [rInt z'.num, rInt z'.den]) (k := 1) ?tg1 EV_int (by decide) rfl) EV_int cmp_ne) (by rw [this]; rfl)
          case tg1 => walk_at "q_name"
      refine ST_for1 (SRC_range2 G (k₀ := -1) (k₁ := n) (n := n + 1) hA.hh (EV_neg EV_int) ?th1 (by decide) (by decide) (by omega) (by omega) (by omega) rfl rfl rfl rfl)
        (fun _ J => J = ⟨ownCells _, [("whole", vw), ("least", vl), ("grid", vg), ("size", vn)], [(vw, rL (n + 1) fun i => rRat (cpA g n i)), (vl, rL (d + 1) fun j => rRat (lpA g n d j)), (vg, rMI n n g), (vn, rInt n)], M, X, S⟩) rfl (by rintro i J' rfl; exact ⟨rfl, rfl, rfl, rfl⟩) kr_mono rfl (store1 ?th2) ?turn ?fin
      case th1 => walk_at "q_name"
      case th2 => walk_at "q_kind"
      case turn =>
        rintro i _ hi rfl
        refine ⟨?ti1, ?ti2, fun vx => ?ti3⟩
        case ti2 => walk_at "q_drop"
        case ti3 =>
          have hx : (-1 + (i : Int)).natAbs ≤ 5 := by omega
          generalize (-1 + (i : Int)) = x at hx ⊢
          refine ST_setComp2 (y := "shifted") (m₀ := ?tj1) (m₁ := ?tj2) (fun i => rVI n (shI g x i)) (SRC_enumL G n (fun i => rVI n (g i)) hA.hh ?tj3 rfl rfl rfl rfl) n3' ?tj4 (fun C k i z1 z2 hi => ?tj5) ?tj6 rfl ?tj7 fun vs => ?_
          case tj3 => walk_at "q_name"
          case tj4 => walk_at "q_cap"
          case tj6 => walk_at "q_drop"
          case tj7 => walk_at "q_kind"
          case tj5 =>
            refine EVN_comp2 (m₀ := ?tk1) (fun j => rInt (shI g x i j)) (SRC_enumL G n (fun j => rInt (g i j)) hA.hh ?tk2 rfl rfl rfl rfl) n3' ?tk3 fun C2 k2 j z3 z4 hj => ?tk4
            case tk2 => walk_at "q_name"
            case tk3 => walk_at "q_cap"
            case tk4 =>
              refine (EV_sub (a := if i = j then x else 0) (b := g i j) (EV_if (c := decide (i = j)) ?tl1 (fun h => ?tl2) (fun h => ?tl3)) ?tl4).new (rInt_free _)
              case tl1 =>
                refine (ET_of (R := rInt j) (S := rInt i) ?tn1 ?tn2 cmp_eq).conv (by rw [decide_eq_decide]; omega)
                case tn1 => walk_at "q_name"
                case tn2 => walk_at "q_name"
              case tl2 => rw [if_pos (by simpa using h)]; walk_at "q_name"
              case tl3 => rw [if_neg (by simpa using h)]; exact EV_int
              case tl4 => walk_at "q_name"
          have hsh : ∀ i j, i < n → j < n → (shI g x i j).natAbs < 2 ^ 20 := fun i j hi hj => by
            have := ok.gb i j hi hj
            unfold shI
            split <;> omega
          refine ST_skip (c := false) (ET.conv (ET_of (EVN_call G (at_pc G (n + 1) (cpA g n) x (by omega) (ok.atOk x hx) (five_lt hx)) (hA.le (by decide)) (EVs_cons ?to1 (EVs_cons ?to2 EVs_nil)) rfl rfl rfl).ev (EVN_call G (det_pc G n (shI g x) n3 hsh) (hA.le (by omega)) (EVs_cons ?to3 EVs_nil) rfl rfl rfl).ev cmp_ne) (by rw [ok.atDet x hx]; simp)) rfl (ST_nil fun B hp a' => ⟨_, rfl, ?to4⟩)
          case to1 => walk_at "q_name"
          case to2 => walk_at "q_name"
          case to3 => walk_at "q_name"
          case to4 =>
            refine At.less a' ?_ ?_
            · walk_at "q_sub"
            · walk_at "q_sub"
      case fin =>
        rintro _ rfl
        refine ST_setComp1 (y := "nothing") (m₀ := ?ua1) (m₁ := ?ua2) (fun i => rV n fun _ => 0) (SRC_rangeL G n hA.hh ?ua3 n3' rfl rfl rfl rfl) n3' ?ua4 (fun C k i z hi => ?ua5) ?ua6 rfl ?ua7 fun vno => ?_
        case ua3 => walk_at "q_name"
        case ua4 => walk_at "q_cap"
        case ua6 => walk_at "q_drop"
        case ua7 => walk_at "q_kind"
        case ua5 =>
          refine EVN.conv (EVL.evn (EVL_mul (k := (n : Int)) (EVN_list (Rs := [rRat 0]) (EVs_cons (EV.conv (R := rTup [rInt 0, rInt 1]) (R' := rRat 0) (EV_tuple (EVs_cons EV_int (EVs_cons EV_int EVs_nil))) rfl) EVs_nil) ?ub1).ev ?ub2 (by omega) (by omega)) ?ub3) ?ub4
          case ub1 => intro R hm; rw [List.mem_singleton.mp hm]; exact rRat_free _
          case ub2 => walk_at "q_name"
          case ub3 => intro R hm; rw [List.eq_of_mem_replicate hm]; exact rRat_free _
          case ub4 => rw [Int.toNat_natCast, replicate_range]
        refine ST_skip (c := false || false) (ET_or (c := false) (d := false) ?uc1 (fun _ => ?uc2)) rfl ?_
        case uc1 =>
          refine ET.conv (ET_of (EV.conv (R' := rM n n fun _ _ => 0) (EVN_call G (poly_of_matrix_pc G n (n + 1) (qM g) (cpA g n) n0 n3' (by omega) ok.hc) (hA.le (by decide)) (EVs_cons ?ud1 (EVs_cons (EVN_call G (from_whole_pc G n n g n3' n3') (hA.le (by decide)) (EVs_cons ?ud2 EVs_nil) rfl rfl rfl).ev EVs_nil)) rfl rfl rfl).ev (rL_congr fun i hi => rL_congr fun j hj => congrArg rRat (ok.hc0 i j hi hj))) (S := rM n n fun _ _ => 0) ?ud3 (cmp_neD (Rd_mat n n fun _ _ => 0) (Rd_mat n n fun _ _ => 0) hA.cmp (Nat.le_trans (Nat.min_le_left _ _) (depth_mat _ _ _)))) (by rw [eqv_mat]; rfl)
          case ud1 => walk_at "q_name"
          case ud2 => walk_at "q_name"
          case ud3 => walk_at "q_name"
        case uc2 =>
          refine ET.conv (ET_of (EV.conv (R' := rM n n fun _ _ => 0) (EVN_call G (poly_of_matrix_pc G n (d + 1) (qM g) (lpA g n d) n0 n3' (by omega) ok.hl) (hA.le (by decide)) (EVs_cons ?ue1 (EVs_cons (EVN_call G (from_whole_pc G n n g n3' n3') (hA.le (by decide)) (EVs_cons ?ue2 EVs_nil) rfl rfl rfl).ev EVs_nil)) rfl rfl rfl).ev (rL_congr fun i hi => rL_congr fun j hj => congrArg rRat (ok.hl0 i j hi hj))) (S := rM n n fun _ _ => 0) ?ue3 (cmp_neD (Rd_mat n n fun _ _ => 0) (Rd_mat n n fun _ _ => 0) hA.cmp (Nat.le_trans (Nat.min_le_left _ _) (depth_mat _ _ _)))) (by rw [eqv_mat]; rfl)
          case ue1 => walk_at "q_name"
          case ue2 => walk_at "q_name"
          case ue3 => walk_at "q_name"
        refine ST_swap2 (R₁ := rVI (n + 1) (bigA g n)) (R₂ := rVI (d + 1) (smlA g n d)) hA.hh
          (EVN_comp1 (m₀ := ?uf1) (fun i => rInt (bigA g n i)) (SRC_listL (n + 1) (fun i => rRat (cpA g n i)) hA.hh ?uf2) (by omega) ?uf3 fun C k i z hi => ?uf4).ev
          (EVN_comp1 (m₀ := ?uf5) (fun i => rInt (smlA g n d i)) (SRC_listL (d + 1) (fun i => rRat (lpA g n d i)) hA.hh ?uf6) (by omega) ?uf7 fun C k i z hi => ?uf8).ev (m₀ := ?uf9) ?ug1 rfl rfl rfl (by decide) fun vb vs => ?_
        case uf2 => walk_at "q_name"
        case uf3 => walk_at "q_cap"
        case uf4 =>
          refine (EV_part (Rs := [rInt (cpA g n i).num, rInt (cpA g n i).den]) (k := 0) ?uh1 EV_int (by decide) rfl).new (rInt_free _)
          case uh1 => walk_at "q_name"
        case uf6 => walk_at "q_name"
        case uf7 => walk_at "q_cap"
        case uf8 =>
          refine (EV_part (Rs := [rInt (lpA g n d i).num, rInt (lpA g n d i).den]) (k := 0) ?uh2 EV_int (by decide) rfl).new (rInt_free _)
          case uh2 => walk_at "q_name"
        case ug1 => walk_at "q_drop"
        refine ST_less (m' := [("big", vb), ("small", vs), ("least", vl), ("grid", vg), ("size", vn)]) (D' := [(vb, rVI (n + 1) (bigA g n)), (vs, rVI (d + 1) (smlA g n d)), (vl, rL (d + 1) fun j => rRat (lpA g n d j)), (vg, rMI n n g), (vn, rInt n)]) ?ui1 ?ui2 ?_
        case ui1 => walk_at "q_sub"
        case ui2 => walk_at "q_sub"
        refine ST_skip (c := false || false) (ET_or (c := false) (d := false) ?uj1 (fun _ => ?uj2)) rfl ?_
        case uj1 =>
          refine ET.conv (ET_of (R := rInt (smlA g n d d)) (EV_itemL (n := d + 1) (g := fun i => rInt (smlA g n d i)) (k := d) ?uk1 (EV.conv (EV_sub (a := ((d + 1 : Nat) : Int)) (b := 1) (EV_lenL G (n := d + 1) (g := fun i => rInt (smlA g n d i)) ?uk2 (by omega) rfl rfl rfl rfl) EV_int) (congrArg rInt (by omega))) (by omega) (by omega)) EV_int cmp_ne) (by rw [ok.one]; rfl)
          case uk1 => walk_at "q_name"
          case uk2 => walk_at "q_name"
        case uj2 =>
          refine ET_of (EVN_none1T (m₀ := ?ul1) (SRC_listL d (fun i => rInt (restF (d + 1) (smlA g n d) (n + 1 + 1 - (d + 1)) (bigA g n) i)) hA.hh (EVN_call G (rest_pc G (n + 1) (d + 1) (bigA g n) (smlA g n d) (by omega) (by omega) (by omega) ok.div1ok fun i hi => ok.smlB i (by omega)) (hA.le (by decide)) (EVs_cons ?ul2 (EVs_cons ?ul3 EVs_nil)) rfl rfl rfl).ev) (by omega) ?ul4 fun C k i z hi => ?ul5).ev (EVN_list (Rs := []) EVs_nil (fun R hm => nomatch hm)).ev (cmp_neNil hA.cmp)
          case ul2 => walk_at "q_name"
          case ul3 => walk_at "q_name"
          case ul4 => walk_at "q_cap"
          case ul5 =>
            have := ok.div1 i hi
            generalize restF (d + 1) (smlA g n d) (n + 1 + 1 - (d + 1)) (bigA g n) i = zz at this
            refine ET.conv (ET_of (R := rInt zz) ?um1 EV_int cmp_ne) (by rw [this]; rfl)
            case um1 => walk_at "q_name"
        refine ST_set (R := rVI (1 + 0 * d) (ppow (smlA g n d) d 0)) (EV.conv (EVN_list (Rs := [rInt 1]) (EVs_cons EV_int EVs_nil) ?un1).ev ?un2) (m₀ := ?un3) ?un4 rfl ?un5 fun vp => ?_
        case un1 => intro R hm; rw [List.mem_singleton.mp hm]; exact rInt_free _
        case un2 => rw [Nat.zero_mul]; rfl
        case un4 => walk_at "q_drop"
        case un5 => walk_at "q_kind"
        have hnd : ∀ k, k ≤ n → k * d ≤ 3 * 3 := fun k hk => Nat.mul_le_mul (by omega) d3
        refine ST_for1 (SRC_rangeL G n hA.hh ?uo1 n3' rfl rfl rfl rfl) (fun k J => k ≤ n ∧ ∃ vp, J = ⟨ownCells _, [("power", vp), ("big", vb), ("small", vs), ("least", vl), ("grid", vg), ("size", vn)], [(vp, rVI (1 + k * d) (ppow (smlA g n d) d k)), (vb, rVI (n + 1) (bigA g n)), (vs, rVI (d + 1) (smlA g n d)), (vl, rL (d + 1) fun j => rRat (lpA g n d j)), (vg, rMI n n g), (vn, rInt n)], M, X, S⟩)
          ⟨Nat.zero_le _, vp, rfl⟩ (by rintro i J' ⟨_, vp, rfl⟩; exact ⟨rfl, rfl, rfl, rfl⟩) kr_mono rfl (store1 ?uo2) ?turn2 ?fin2
        case uo1 => walk_at "q_name"
        case uo2 => walk_at "q_kind"
        case turn2 =>
          rintro k _ hk ⟨_, vp, rfl⟩
          refine ⟨?up1, ?up2, fun vt => ?up3⟩
          case up2 => walk_at "q_drop"
          case up3 =>
            have := hnd k (by omega)
            refine ST_set (R := rVI (1 + (k + 1) * d) (ppow (smlA g n d) d (k + 1))) (EV.conv (EVN_call G (product_pc G (1 + k * d) (d + 1) (ppow (smlA g n d) d k) (smlA g n d) (by omega) (by omega) (by omega) (ok.powB k hk) fun i hi => ok.smlB i (by omega)) (hA.le (by decide)) (EVs_cons ?uq1 (EVs_cons ?uq2 EVs_nil)) rfl rfl rfl).ev ?uq3) (m₀ := ?uq4) ?uq5 rfl ?uq6 fun vp' => ?_
            case uq1 => walk_at "q_name"
            case uq2 => walk_at "q_name"
            case uq3 => rw [show 1 + k * d + (d + 1) - 1 = 1 + (k + 1) * d by rw [Nat.succ_mul]; omega]; rfl
            case uq5 => walk_at "q_drop"
            case uq6 => walk_at "q_kind"
            refine ST_nil fun B hp a' => ⟨_, ⟨hk, vp', rfl⟩, ?_⟩
            refine At.less a' ?_ ?_
            · walk_at "q_sub"
            · walk_at "q_sub"
        case fin2 =>
          rintro _ ⟨_, vp, rfl⟩
          have h1 := hnd n (Nat.le_refl _)
          have h2 : n ≤ n * d := Nat.le_mul_of_pos_right n hd0
          refine ST_skip (c := false) (ET_of (EVN_none1T (m₀ := ?ur1) (SRC_listL n (fun i => rInt (restF (n + 1) (bigA g n) (1 + n * d + 1 - (n + 1)) (ppow (smlA g n d) d n) i)) hA.hh (EVN_call G (rest_pc G (1 + n * d) (n + 1) (ppow (smlA g n d) d n) (bigA g n) (by omega) (by omega) (by omega) ok.div2ok fun i hi => ok.bigB i (by omega)) (hA.le (by decide)) (EVs_cons ?ur2 (EVs_cons ?ur3 EVs_nil)) rfl rfl rfl).ev) n3' ?ur4 fun C k i z hi => ?ur5).ev (EVN_list (Rs := []) EVs_nil (fun R hm => nomatch hm)).ev (cmp_neNil hA.cmp)) rfl ?_
          case ur2 => walk_at "q_name"
          case ur3 => walk_at "q_name"
          case ur4 => walk_at "q_cap"
          case ur5 =>
            have := ok.div2 i hi
            generalize restF (n + 1) (bigA g n) (1 + n * d + 1 - (n + 1)) (ppow (smlA g n d) d n) i = zz at this
            refine ET.conv (ET_of (R := rInt zz) ?us1 EV_int cmp_ne) (by rw [this]; rfl)
            case us1 => walk_at "q_name"
          refine ST_set (R := rBool (decide (∀ i, i < n → ∀ j, j < n → g i j = if i = j then g 0 0 else 0))) (EV.conv (EV_of (R := rMI n n g) (S := rMI n n fun i j => if i = j then g 0 0 else 0) ?ut1 (EVN_comp1 (m₀ := ?ut2) (fun i => rVI n fun j => if i = j then g 0 0 else 0) (SRC_rangeL G n hA.hh ?ut3 n3' rfl rfl rfl rfl) n3' ?ut4 fun C k i z1 hi => ?ut5).ev (cmp_eqD (Rd_grid n n g) (Rd_grid n n fun i j => if i = j then g 0 0 else 0) hA.cmp (Nat.le_trans (Nat.min_le_left _ _) (depth_grid _ _ _)))) (by rw [eqv_grid])) (m₀ := ?ut6) ?ut7 rfl ?ut8 fun ve => ?_
          case ut1 => walk_at "q_name"
          case ut3 => walk_at "q_name"
          case ut4 => walk_at "q_cap"
          case ut7 => walk_at "q_drop"
          case ut8 => walk_at "q_kind"
          case ut5 =>
            refine EVN_comp1 (m₀ := ?uu1) (fun j => rInt (if i = j then g 0 0 else 0)) (SRC_rangeL G n hA.hh ?uu2 n3' rfl rfl rfl rfl) n3' ?uu3 fun C2 k2 j z3 hj => ?uu4
            case uu2 => walk_at "q_name"
            case uu3 => walk_at "q_cap"
            case uu4 =>
              refine (EV_if (c := decide (i = j)) ?_ (fun h => ?_) (fun h => ?_)).new (rInt_free _)
              · refine (ET_of (R := rInt j) (S := rInt i) ?_ ?_ cmp_eq).conv (by rw [decide_eq_decide]; omega)
                · walk_at "q_name"
                · walk_at "q_name"
              · rw [if_pos (by simpa using h)]
                refine EV_itemK (i := 0) (n := n) (g := fun j => rInt (g 0 j)) (EV_itemK (i := 0) (n := n) (g := fun i => rVI n (g i)) ?_ (by decide) n0 n3') (by decide) n0 n3'
                walk_at "q_name"
              · rw [if_neg (by simpa using h)]; exact EV_int
          refine ST_retF (R' := rBool (PyData.eqv (.bool (decide (((d + 1 : Nat) : Int) = 2))) (.bool (decide (∀ i, i < n → ∀ j, j < n → g i j = if i = j then g 0 0 else 0))))) (EV_of (R := rBool (decide (((d + 1 : Nat) : Int) = 2))) (EV_of (EV_lenL G (n := d + 1) (g := fun j => rRat (lpA g n d j)) ?uv1 (by omega) rfl rfl rfl rfl) EV_int cmp_eq) (S := rBool (decide (∀ i, i < n → ∀ j, j < n → g i j = if i = j then g 0 0 else 0))) ?uv2 (cmp_eqD (Rd_bool _) (Rd_bool _) hA.cmp (by simp [PyData.depth]))) ?uv3 (rBool_free _)
          case uv1 => walk_at "q_name"
          case uv2 => walk_at "q_name"
          case uv3 =>
            have e : decide (((d + 1 : Nat) : Int) = 2) = decide (∀ i, i < n → ∀ j, j < n → g i j = if i = j then g 0 0 else 0) := by
              rw [decide_eq_decide, ← ok.ev]; omega
            rw [e, PyData.eqv]; simp
end


/-! ## sums -/
theorem sumN_congr {f g : Nat → Rat} : ∀ {n : Nat}, (∀ i, i < n → f i = g i) → sumN n f = sumN n g
  | 0, _ => rfl
  | n + 1, h => by
    show sumN n f + f n = sumN n g + g n
    rw [sumN_congr (n := n) fun i hi => h i (by omega), h n (by omega)]
theorem sumN_lin (f g : Nat → Rat) (c : Rat) : ∀ n, sumN n (fun j => f j - c * g j) = sumN n f - c * sumN n g
  | 0 => by simp only [sumN]; grind
  | n + 1 => by simp only [sumN, sumN_lin f g c n]; grind
theorem sumN_mulr (f : Nat → Rat) (c : Rat) : ∀ n, sumN n (fun j => f j * c) = sumN n f * c
  | 0 => by simp only [sumN]; grind
  | n + 1 => by simp only [sumN, sumN_mulr f c n]; grind
theorem sumN_add (f g : Nat → Rat) : ∀ n, sumN n (fun j => f j + g j) = sumN n f + sumN n g
  | 0 => by simp only [sumN]; grind
  | n + 1 => by simp only [sumN, sumN_add f g n]; grind
theorem sumN_zero : ∀ n, sumN n (fun _ => 0) = 0
  | 0 => rfl
  | n + 1 => by simp only [sumN, sumN_zero n]; grind
theorem sumN_comm (f : Nat → Nat → Rat) (m : Nat) : ∀ n, sumN n (fun i => sumN m fun j => f i j) = sumN m (fun j => sumN n fun i => f i j)
  | 0 => by simp only [sumN]; exact (sumN_zero m).symm
  | n + 1 => by simp only [sumN, sumN_comm f m n]; exact (sumN_add _ _ m).symm
theorem sumN_delta {x : Nat → Rat} {i : Nat} : ∀ m, sumN m (fun j => (if i = j then 1 else 0) * x j) = if i < m then x i else 0
  | 0 => by simp [sumN]
  | m + 1 => by
    simp only [sumN, sumN_delta m]
    by_cases h : i = m
    · subst h; rw [if_neg (by omega), if_pos rfl, if_pos (by omega)]; grind
    · rw [if_neg h]
      by_cases h' : i < m
      · rw [if_pos h', if_pos (by omega)]; grind
      · rw [if_neg h', if_neg (by omega)]; grind

/-! ## what a step keeps -/
def Ker (r m : Nat) (g : Mt) (x : Nat → Rat) : Prop := ∀ i, i < r → sumN m (fun j => g i j * x j) = 0
theorem ker_swap {r m : Nat} {g : Mt} {x : Nat → Rat} {a b : Nat} (ha : a < r) (hb : b < r) : Ker r m (eSwap g a b) x ↔ Ker r m g x := by
  have e : ∀ i, eSwap g a b i = if i = b then g a else if i = a then g b else g i := fun i => by
    funext j; unfold eSwap; split
    · rfl
    · split <;> rfl
  constructor
  · intro h i hi
    by_cases h1 : i = a
    · have := h b hb; rw [e, if_pos rfl] at this; rw [h1]; exact this
    · by_cases h2 : i = b
      · have := h a ha; rw [e] at this
        rw [h2]
        by_cases h3 : a = b
        · rw [if_pos h3] at this; rw [← h3]; exact this
        · rw [if_neg h3, if_pos rfl] at this; exact this
      · have := h i hi; rw [e, if_neg h2, if_neg h1] at this; exact this
  · intro h i hi
    rw [e]
    split
    · exact h a ha
    · split
      · exact h b hb
      · exact h i hi
theorem ker_scale {r m : Nat} {g : Mt} {x : Nat → Rat} {row col : Nat} (h0 : g row col ≠ 0) : Ker r m (eScale g row col) x ↔ Ker r m g x := by
  have e : ∀ i, sumN m (fun j => eScale g row col i j * x j) = if i = row then sumN m (fun j => g row j * x j) * (g row col)⁻¹ else sumN m (fun j => g i j * x j) := fun i => by
    split
    · rename_i h
      rw [← sumN_mulr]
      exact sumN_congr fun j _ => by unfold eScale; rw [if_pos h]; grind
    · rename_i h
      exact sumN_congr fun j _ => by unfold eScale; rw [if_neg h]
  constructor
  · intro h i hi
    have := h i hi
    rw [e] at this
    by_cases h1 : i = row
    · rw [if_pos h1] at this; rw [h1]; grind
    · rw [if_neg h1] at this; exact this
  · intro h i hi
    rw [e]
    split
    · rename_i h1; rw [← h1, h i hi]; grind
    · exact h i hi
theorem ker_elim {r m k : Nat} {g : Mt} {x : Nat → Rat} {row col : Nat} (hr : row < r) : Ker r m (eElim g row col k) x ↔ Ker r m g x := by
  have e : ∀ i, sumN m (fun j => eElim g row col k i j * x j) = if i ≠ row ∧ i < k then sumN m (fun j => g i j * x j) - g i col * sumN m (fun j => g row j * x j) else sumN m (fun j => g i j * x j) := fun i => by
    split
    · rename_i h
      rw [← sumN_lin]
      exact sumN_congr fun j _ => by unfold eElim; rw [if_pos h]; grind
    · rename_i h
      exact sumN_congr fun j _ => by unfold eElim; rw [if_neg h]
  constructor
  · intro h i hi
    have h1 := h row hr
    rw [e, if_neg (by omega)] at h1
    have := h i hi
    rw [e] at this
    split at this
    · rw [h1] at this; grind
    · exact this
  · intro h i hi
    rw [e]
    split
    · rw [h i hi, h row hr]; grind
    · exact h i hi
theorem ker_ech {r m : Nat} {f : Mt} {x : Nat → Rat} : ∀ c, Ker r m (ech r f c).1 x ↔ Ker r m f x
  | 0 => Iff.rfl
  | c + 1 => by
    refine Iff.trans ?_ (ker_ech c)
    show Ker r m (eStep r (ech r f c) c).1 x ↔ _
    unfold eStep
    split
    · exact Iff.rfl
    · rename_i s l h
      obtain ⟨h1, h2⟩ := eFind_mem h
      show Ker r m (eNew _ _ _ _ _) x ↔ _
      unfold eNew
      rw [ker_elim (by omega), ker_scale (by rw [swap_row]; exact h2), ker_swap (by omega) h1]

/-! ## unit columns -/
def Un (r c : Nat) (g : Mt) : Prop := ∀ i, i < r → ∀ j, j < c → g i j = if i = j then 1 else 0
theorem un_new {r c s : Nat} {g : Mt} (h : Un r c g) (hs : c + s < r) (h0 : g (c + s) c ≠ 0) : Un r (c + 1) (eNew r g c c s) := by
  have u1 : Un r c (eSwap g c (c + s)) := fun i hi j hj => by
    unfold eSwap
    by_cases e1 : i = c + s
    · rw [if_pos e1, h c (by omega) j hj, if_neg (by omega), if_neg (by omega)]
    · rw [if_neg e1]
      by_cases e2 : i = c
      · rw [if_pos e2, h (c + s) hs j hj, if_neg (by omega), if_neg (by omega)]
      · rw [if_neg e2, h i hi j hj]
  have n1 : eSwap g c (c + s) c c ≠ 0 := by rw [swap_row]; exact h0
  unfold eNew
  generalize eSwap g c (c + s) = g1 at u1 n1
  have u2 : Un r c (eScale g1 c c) := fun i hi j hj => by
    unfold eScale
    by_cases e : i = c
    · rw [if_pos e, u1 c (by omega) j hj, if_neg (by omega), if_neg (by omega)]; grind
    · rw [if_neg e, u1 i hi j hj]
  have n2 : eScale g1 c c c c = 1 := by unfold eScale; rw [if_pos rfl]; grind
  generalize eScale g1 c c = g2 at u2 n2
  intro i hi j hj
  unfold eElim
  by_cases ej : j = c
  · subst ej
    rw [n2]
    by_cases e : i = j
    · rw [if_neg (by omega), if_pos e, e, n2]
    · rw [if_pos ⟨e, hi⟩, if_neg e]; grind
  · have hj' : j < c := by omega
    rw [u2 c (by omega) j hj', if_neg (show ¬ c = j by omega)]
    by_cases e : i = c
    · rw [if_neg (by omega), u2 i hi j hj']
    · rw [if_pos ⟨e, hi⟩, u2 i hi j hj']; grind
theorem ech_piv {r : Nat} {f : Mt} : ∀ c, (∀ k, k < c → k ∈ (ech r f (k + 1)).2) → (ech r f c).2 = List.range c ∧ Un r c (ech r f c).1 ∧ c ≤ r
  | 0, _ => ⟨rfl, fun _ _ _ hj => absurd hj (Nat.not_lt_zero _), Nat.zero_le _⟩
  | c + 1, h => by
    obtain ⟨e, u, hr⟩ := ech_piv c fun k hk => h k (by omega)
    have hc := h c (by omega)
    change c ∈ (eStep r (ech r f c) c).2 at hc
    show (eStep r (ech r f c) c).2 = _ ∧ Un r (c + 1) (eStep r (ech r f c) c).1 ∧ _
    unfold eStep at hc ⊢
    rw [e, List.length_range] at hc ⊢
    split at hc
    · simp [e] at hc
    · rename_i s l hf
      obtain ⟨h1, h2⟩ := eFind_mem hf
      simp only
      exact ⟨(List.range_succ).symm, un_new u h1 h2, by omega⟩
theorem ech_stop {r : Nat} {f : Mt} {c : Nat} (h : ∀ k, k < c → k ∈ (ech r f (k + 1)).2) (hc : c ∉ (ech r f (c + 1)).2) :
    ech r f (c + 1) = ech r f c ∧ ∀ i, i < r → c ≤ i → (ech r f c).1 i c = 0 := by
  obtain ⟨e, u, hr⟩ := ech_piv c h
  change c ∉ (eStep r (ech r f c) c).2 at hc
  show eStep r (ech r f c) c = _ ∧ _
  unfold eStep at hc ⊢
  rw [e, List.length_range] at hc ⊢
  split at hc
  · rename_i hf
    simp only
    refine ⟨trivial, fun i hi hci => ?_⟩
    unfold eFind at hf
    rw [List.filter_eq_nil_iff] at hf
    have := hf (i - c) (List.mem_range.mpr (by omega))
    simpa [show c + (i - c) = i by omega] using this
  · rename_i s l hf
    exact absurd (List.mem_append_right _ (List.mem_singleton.mpr rfl)) hc

/-- least dependence -/
structure Dep (r : Nat) (f : Mt) (d : Nat) : Prop where
  none : ∀ k, k < d → k ∈ (ech r f (k + 1)).2
  some : (ech r f (d + 1)).2 = List.range d
  ind : ∀ x, Ker r d f x → ∀ j, j < d → x j = 0
  ker : Ker r (d + 1) f (fun j => depAt (ech r f (d + 1)).1 d d j)
theorem un_row {r c m : Nat} {g : Mt} {x : Nat → Rat} (u : Un r c g) (hm : m ≤ c) {i : Nat} (hi : i < r) : sumN m (fun j => g i j * x j) = if i < m then x i else 0 := by
  rw [← sumN_delta]
  exact sumN_congr fun j hj => by rw [u i hi j (by omega)]
theorem dep_of {r : Nat} {f : Mt} {d : Nat} (h : ∀ k, k < d → k ∈ (ech r f (k + 1)).2) (hd : d ∉ (ech r f (d + 1)).2) : Dep r f d := by
  obtain ⟨e, u, hr⟩ := ech_piv d h
  obtain ⟨e', z⟩ := ech_stop h hd
  refine ⟨h, by rw [e', e], fun x k j hj => ?_, ?_⟩
  · have := (ker_ech d).mpr k j (by omega)
    rw [un_row u (Nat.le_refl _) (by omega), if_pos hj] at this
    exact this
  · rw [e']
    refine (ker_ech d).mp fun i hi => ?_
    show sumN d _ + _ = 0
    have e1 : sumN d (fun j => (ech r f d).1 i j * depAt (ech r f d).1 d d j) = if i < d then -((ech r f d).1 i d) else 0 := by
      rw [← sumN_delta (x := fun i => -((ech r f d).1 i d)) d]
      exact sumN_congr fun j hj => by rw [u i hi j (by omega)]; unfold depAt; rw [if_pos hj]
    have e2 : depAt (ech r f d).1 d d d = 1 := by unfold depAt; rw [if_neg (by omega), if_pos rfl]
    rw [e1]
    show _ + (ech r f d).1 i d * depAt (ech r f d).1 d d d = 0
    rw [e2]
    by_cases q : i < d
    · rw [if_pos q]; grind
    · rw [if_neg q, z i hi (by omega)]; grind
theorem dep_exists {r : Nat} {f : Mt} {n : Nat} {x : Nat → Rat} (hx : Ker r (n + 1) f x) (h1 : x n = 1) : ∃ d, d ≤ n ∧ Dep r f d := by
  have main : ∀ c, c ≤ n + 1 → (∀ k, k < c → k ∈ (ech r f (k + 1)).2) ∨ ∃ d, d < c ∧ Dep r f d := by
    intro c
    induction c with
    | zero => intro _; exact .inl fun k hk => absurd hk (Nat.not_lt_zero _)
    | succ c ih =>
      intro hc
      rcases ih (by omega) with h | ⟨d, hd, q⟩
      · by_cases q : c ∈ (ech r f (c + 1)).2
        · refine .inl fun k hk => ?_
          by_cases e : k = c
          · rw [e]; exact q
          · exact h k (by omega)
        · exact .inr ⟨c, by omega, dep_of h q⟩
      · exact .inr ⟨d, by omega, q⟩
  rcases main (n + 1) (Nat.le_refl _) with h | ⟨d, hd, q⟩
  · obtain ⟨e, u, hr⟩ := ech_piv (n + 1) h
    have := (ker_ech (n + 1)).mpr hx n (by omega)
    rw [un_row u (Nat.le_refl _) (by omega), if_pos (by omega), h1] at this
    exact absurd this (by decide)
  · exact ⟨d, by omega, q⟩


/-! ## whole numbers with a bound -/
def IB (M : Nat) (q : Rat) : Prop := ∃ z : Int, q = (z : Rat) ∧ z.natAbs ≤ M
theorem IB.mono {M N : Nat} {q : Rat} (h : IB M q) (hMN : M ≤ N) : IB N q := let ⟨z, e, b⟩ := h; ⟨z, e, Nat.le_trans b hMN⟩
theorem IB.int {M : Nat} {z : Int} (h : z.natAbs ≤ M) : IB M (z : Rat) := ⟨z, rfl, h⟩
theorem IB.zero {M : Nat} : IB M 0 := ⟨0, by norm_cast, Nat.zero_le _⟩
theorem IB.one : IB 1 1 := ⟨1, by norm_cast, Nat.le_refl _⟩
theorem IB.mul {M N : Nat} {p q : Rat} (h : IB M p) (k : IB N q) : IB (M * N) (p * q) := by
  obtain ⟨x, rfl, hx⟩ := h
  obtain ⟨y, rfl, hy⟩ := k
  exact ⟨x * y, by push_cast; rfl, by rw [Int.natAbs_mul]; exact Nat.mul_le_mul hx hy⟩
theorem IB.add {M N : Nat} {p q : Rat} (h : IB M p) (k : IB N q) : IB (M + N) (p + q) := by
  obtain ⟨x, rfl, hx⟩ := h
  obtain ⟨y, rfl, hy⟩ := k
  exact ⟨x + y, by push_cast; rfl, by omega⟩
theorem IB.neg {M : Nat} {p : Rat} (h : IB M p) : IB M (-p) := by
  obtain ⟨x, rfl, hx⟩ := h
  exact ⟨-x, by push_cast; rfl, by omega⟩
theorem IB.sum {M : Nat} {f : Nat → Rat} : ∀ {n : Nat}, (∀ k, k < n → IB M (f k)) → IB (n * M) (sumN n f)
  | 0, _ => IB.zero
  | n + 1, h => by
    rw [Nat.succ_mul]
    exact (IB.sum fun k hk => h k (by omega)).add (h n (by omega))
theorem IB.num {M : Nat} {q : Rat} (h : IB M q) : q = (q.num : Rat) ∧ q.num.natAbs ≤ M ∧ q.den = 1 := by
  obtain ⟨z, rfl, hz⟩ := h
  exact ⟨by rw [Rat.num_intCast], by rw [Rat.num_intCast]; exact hz, Rat.den_intCast _⟩
theorem pow_lt {M a b : Nat} (h : M < 2 ^ a) (hab : a ≤ b) : M < 2 ^ b := Nat.lt_of_lt_of_le h (Nat.pow_le_pow_right (by decide) hab)
theorem IB.bdd {M b : Nat} {q : Rat} (h : IB M q) (hM : M < 2 ^ b) (hb : 0 < b) : Bd b q := by
  obtain ⟨_, h1, h2⟩ := h.num
  exact ⟨Nat.lt_of_le_of_lt h1 hM, by rw [h2]; exact Nat.one_lt_two_pow (by omega)⟩
theorem IB.sm {M : Nat} {q : Rat} (h : IB M q) (hM : M < 2 ^ 200) : Sm q := h.bdd (pow_lt hM (by decide)) (by decide)
theorem IB.dot {n M N : Nat} {f g : Nat → Rat} (hf : ∀ k, k < n → IB M (f k)) (hg : ∀ k, k < n → IB N (g k)) (hn : n ≤ 3) : IB (3 * (M * N)) (sumN n fun k => f k * g k) :=
  (IB.sum (M := M * N) fun k hk => (hf k hk).mul (hg k hk)).mono (Nat.mul_le_mul_right _ hn)
theorem dotI {n M N : Nat} {f g : Nat → Rat} (hn : n ≤ 3) (hf : ∀ k, k < n → IB M (f k)) (hg : ∀ k, k < n → IB N (g k)) (h1 : M < 2 ^ 200) (h2 : N < 2 ^ 200) (h3 : 3 * (M * N) < 2 ^ 200) : DotOk n f g := fun k hk =>
  ⟨(hf k hk).sm h1, (hg k hk).sm h2, ((hf k hk).mul (hg k hk)).sm (by omega), (IB.dot (fun i hi => hf i (by omega)) (fun i hi => hg i (by omega)) (by omega)).sm h3⟩
theorem IB.un (r c : Nat) : IB 1 (un r c) := by
  unfold Mine.un
  split
  · exact IB.one
  · exact IB.zero

section
variable {g : Nat → Nat → Int} {n : Nat} (gb : GridOk g n) (hn : n ≤ 3)
theorem grid_ib (gb : GridOk g n) {i j : Nat} (hi : i < n) (hj : j < n) : IB 36 (qM g i j) := IB.int (gb i j hi hj)

/-! ## the sizes in poly_of_matrix -/
include gb hn
theorem hor_ib {p : Nat → Rat} {d K : Nat} (hp : ∀ j, IB K (p j)) : ∀ i, ∀ r c, r < n → c < n → IB (109 ^ i * K) (hor (qM g) n p d i r c)
  | 0, r, c, _, _ => by unfold hor; rw [Rat.mul_zero]; exact IB.zero
  | i + 1, r, c, hr, hc => by
    have h1 := IB.dot (fun k hk => hor_ib hp (d := d) i r k hr hk) (fun k hk => grid_ib gb hk hc) hn
    have h2 := (IB.un r c).mul (hp (d - 1 - i))
    refine (h1.add h2).mono ?_
    have e : 109 ^ (i + 1) * K = 109 * (109 ^ i * K) := by rw [Nat.pow_succ]; ac_rfl
    have l : 1 * K ≤ 109 ^ i * K := Nat.mul_le_mul_right K (Nat.one_le_pow _ _ (by decide))
    omega
theorem horOk_of {p : Nat → Rat} {d : Nat} (hd : d ≤ 4) (hp : ∀ j, IB (2 ^ 24) (p j)) : HorOk (qM g) n p d := by
  have pw4 : ∀ i, i < d → 109 ^ i * 2 ^ 24 ≤ 2 ^ 52 := fun i hi =>
    Nat.le_trans (Nat.mul_le_mul_right _ (Nat.pow_le_pow_right (by decide) (show i ≤ 4 by omega))) (by decide)
  refine ⟨(IB.zero (M := 0)).sm (by decide), fun r c => (IB.un r c).sm (by decide), fun i hi r c hr hc => ?_, fun i hi => (hp _).sm (by decide), fun i hi r c hr hc => ⟨?_, ?_⟩⟩
  · exact dotI hn (fun k hk => (hor_ib gb hn hp i r k hr hk).mono (pw4 i hi)) (fun k hk => grid_ib gb hk hc) (by decide) (by decide) (by decide)
  · exact (IB.dot (fun k hk => (hor_ib gb hn hp i r k hr hk).mono (pw4 i hi)) (fun k hk => grid_ib gb hk hc) hn).sm (by decide)
  · exact ((IB.un r c).mul (hp _)).sm (by decide)

/-! ## the sizes in charpoly -/
theorem cpOk_of (hN : ∀ i, i < n → IB 279936 (flN (qM g) n i)) : CpOk (qM g) n := by
  have step : ∀ i, i < n → ∀ M, (∀ r c, r < n → c < n → IB M (flP (qM g) n i r c)) → ∀ r c, r < n → c < n → IB (3 * (36 * M)) (flM (qM g) n i r c) := fun i hi M h r c hr hc =>
    IB.dot (fun k hk => grid_ib gb hr hk) (fun k hk => h k c hk hc) hn
  have pb : ∀ i, i < n → ∀ r c, r < n → c < n → IB 40000000 (flP (qM g) n i r c) := by
    have p0 : ∀ r c, r < n → c < n → IB 1 (flP (qM g) n 0 r c) := fun r c _ _ => by rw [flP_zero]; exact IB.un r c
    have p1 : 0 < n → ∀ r c, r < n → c < n → IB 280044 (flP (qM g) n 1 r c) := fun h0 r c hr hc => by
      rw [flP_succ]
      exact ((step 0 h0 1 p0 r c hr hc).add ((IB.un r c).mul (hN 0 h0))).mono (by decide)
    intro i hi r c hr hc
    rcases (show i = 0 ∨ i = 1 ∨ i = 2 by omega) with rfl | rfl | rfl
    · exact (p0 r c hr hc).mono (by decide)
    · exact (p1 (by omega) r c hr hc).mono (by decide)
    · rw [flP_succ]
      exact ((step 1 (by omega) _ (p1 (by omega)) r c hr hc).add ((IB.un r c).mul (hN 1 (by omega)))).mono (by decide)
  have mb : ∀ i, i < n → ∀ r c, r < n → c < n → IB (3 * (36 * 40000000)) (flM (qM g) n i r c) := fun i hi => step i hi _ (pb i hi)
  refine ⟨fun i hi r c hr hc => ?_, fun i hi k hk => ⟨?_, ?_⟩, fun i hi => ⟨?_, ?_⟩, fun i hi => (hN i hi).sm (by decide), fun r c => (IB.un r c).sm (by decide), fun i hi r c hr hc => ⟨?_, ?_⟩⟩
  · exact dotI hn (fun k hk => grid_ib gb hr hk) (fun k hk => pb i hi k c hk hc) (by decide) (by decide) (by decide)
  · exact (mb i hi k k hk hk).sm (by decide)
  · exact ((IB.sum fun l hl => mb i hi l l (by omega) (by omega)).mono (Nat.mul_le_mul_right _ (show k ≤ 3 by omega))).sm (by decide)
  · exact ((IB.sum fun l hl => mb i hi l l (by omega) (by omega)).mono (Nat.mul_le_mul_right _ (show n ≤ 3 by omega))).sm (by decide)
  · exact (show IB 3 ((i + 1 : Nat) : Rat) from ⟨((i + 1 : Nat) : Int), by push_cast; rfl, by omega⟩).sm (by decide)
  · exact (mb i hi r c hr hc).sm (by decide)
  · exact ((IB.un r c).mul (hN i hi)).sm (by decide)

/-! ## the powers -/
omit gb hn in
theorem pw_one {f : Mt} {r c : Nat} (hr : r < n) : pw f n 1 r c = f r c := by
  show sumN n (fun l => Mine.un r l * f l c) = _
  have := sumN_delta (x := fun l => f l c) (i := r) n
  rw [if_pos hr] at this
  exact this
theorem pw_ib : ∀ k, k ≤ 3 → ∀ r c, r < n → c < n → IB 419904 (pw (qM g) n k r c) := by
  have p1 : ∀ r c, r < n → c < n → IB 36 (pw (qM g) n 1 r c) := fun r c hr hc => by rw [pw_one hr]; exact grid_ib gb hr hc
  have p2 : ∀ r c, r < n → c < n → IB 3888 (pw (qM g) n 2 r c) := fun r c hr hc => IB.dot (fun k hk => p1 r k hr hk) (fun k hk => grid_ib gb hk hc) hn
  intro k hk r c hr hc
  match k, hk with
  | 0, _ => exact (IB.un r c).mono (by decide)
  | 1, _ => exact (p1 r c hr hc).mono (by decide)
  | 2, _ => exact (p2 r c hr hc).mono (by decide)
  | 3, _ => exact IB.dot (fun k hk => p2 r k hr hk) (fun k hk => grid_ib gb hk hc) hn
theorem minOk_of {d : Nat} (hd : d ≤ n) (D : Dep (n * n) (pm (qM g) n) d) : MinOk (qM g) n d where
  d3 := by omega
  dN := Nat.le_trans hd (Nat.le_mul_self n)
  none := D.none
  some := D.some
  bd := fun i j hi hj => by
    have h0 : 0 < n := by
      rcases Nat.eq_zero_or_pos n with e | e
      · subst e; simp at hi
      · exact e
    exact (pw_ib gb hn j (by omega) _ _ (Nat.div_lt_of_lt_mul hi) (Nat.mod_lt _ h0)).bdd (by decide) (by decide)
  mul := fun k hk r c hr hc => dotI hn (fun l hl => pw_ib gb hn k (by omega) r l hr hl) (fun l hl => grid_ib gb hl hc) (by decide) (by decide) (by decide)
end

/-! ## the kernel, by the powers -/
theorem ker_pm {f : Mt} {n m : Nat} {x : Nat → Rat} : Ker (n * n) m (pm f n) x ↔ ∀ r c, r < n → c < n → sumN m (fun j => pw f n j r c * x j) = 0 := by
  constructor
  · intro h r c hr hc
    have h0 : 0 < n := by omega
    have hi : r * n + c < n * n := by
      have : (r + 1) * n ≤ n * n := Nat.mul_le_mul_right n hr
      rw [Nat.succ_mul] at this
      omega
    have := h (r * n + c) hi
    simp only [pm] at this
    rw [show (r * n + c) / n = r by rw [Nat.mul_comm, Nat.mul_add_div h0, Nat.div_eq_of_lt hc]; rfl, show (r * n + c) % n = c by rw [Nat.mul_comm, Nat.mul_add_mod, Nat.mod_eq_of_lt hc]] at this
    exact this
  · intro h i hi
    have h0 : 0 < n := by
      rcases Nat.eq_zero_or_pos n with e | e
      · subst e; simp at hi
      · exact e
    exact h (i / n) (i % n) (Nat.div_lt_of_lt_mul hi) (Nat.mod_lt _ h0)
theorem sumN_succ' (f : Nat → Rat) : ∀ n, sumN (n + 1) f = f 0 + sumN n (fun j => f (j + 1))
  | 0 => by simp only [sumN]; grind
  | n + 1 => by rw [sumN, sumN_succ' f n]; simp only [sumN]; grind
theorem hor_sum {f : Mt} {n d : Nat} {p : Nat → Rat} : ∀ i, i ≤ d → ∀ r c, hor f n p d i r c = sumN i (fun j => pw f n j r c * p (d - i + j))
  | 0, _, r, c => by unfold hor; rw [Rat.mul_zero]; rfl
  | i + 1, hi, r, c => by
    rw [hor, sumN_succ']
    have e : sumN n (fun k => hor f n p d i r k * f k c) = sumN i (fun j => pw f n (j + 1) r c * p (d - (i + 1) + (j + 1))) := by
      have e1 : sumN n (fun k => hor f n p d i r k * f k c) = sumN n (fun k => sumN i fun j => pw f n j r k * p (d - i + j) * f k c) := sumN_congr fun k _ => by rw [hor_sum i (by omega), ← sumN_mulr]
      rw [e1, sumN_comm]
      refine sumN_congr fun j hj => ?_
      rw [show d - (i + 1) + (j + 1) = d - i + j by omega]
      show _ = (sumN n fun l => pw f n j r l * f l c) * _
      rw [← sumN_mulr]
      exact sumN_congr fun k _ => by grind
    rw [e, show d - (i + 1) + 0 = d - 1 - i by omega]
    show _ + Mine.un r c * _ = Mine.un r c * _ + _
    exact Rat.add_comm _ _
theorem hor_full {f : Mt} {n d : Nat} {p : Nat → Rat} (r c : Nat) : hor f n p d d r c = sumN d (fun j => pw f n j r c * p j) := by
  rw [hor_sum d (Nat.le_refl _)]
  exact sumN_congr fun j _ => by rw [Nat.sub_self, Nat.zero_add]
/-- a dependence of powers, one higher -/
theorem ker_up {f : Mt} {n m : Nat} {x : Nat → Rat} (h : ∀ r c, r < n → c < n → sumN m (fun j => pw f n j r c * x j) = 0) : ∀ r c, r < n → c < n → sumN m (fun j => pw f n (j + 1) r c * x j) = 0 := fun r c hr hc => by
  have e : sumN m (fun j => pw f n (j + 1) r c * x j) = sumN n (fun l => sumN m (fun j => pw f n j r l * x j) * f l c) := by
    have e1 : sumN m (fun j => pw f n (j + 1) r c * x j) = sumN m (fun j => sumN n fun l => pw f n j r l * x j * f l c) := sumN_congr fun j _ => by
      show (sumN n fun l => pw f n j r l * f l c) * _ = _
      rw [← sumN_mulr]
      exact sumN_congr fun k _ => by grind
    rw [e1, sumN_comm]
    exact sumN_congr fun l _ => sumN_mulr _ _ _
  rw [e, ← sumN_zero n]
  exact sumN_congr fun l hl => by rw [h r l hr hl, Rat.zero_mul]


/-! ## the polynomial, worked out -/
theorem un_ne {r c : Nat} (h : r ≠ c) : Mine.un r c = 0 := if_neg h
theorem un_eq (r : Nat) : Mine.un r r = 1 := if_pos rfl
theorem flN_11 (f : Mt) : flN f 1 0 = -f 0 0 := by
  rw [flN_eq]; simp only [sumN, flM, flP_zero, un_eq]; push_cast; grind
theorem flN_21 (f : Mt) : flN f 2 0 = -(f 0 0 + f 1 1) := by
  rw [flN_eq]; simp only [sumN, flM, flP_zero, un_eq, un_ne (show 0 ≠ 1 by decide), un_ne (show 1 ≠ 0 by decide)]; push_cast; grind
theorem flN_22 (f : Mt) : flN f 2 1 = f 0 0 * f 1 1 - f 0 1 * f 1 0 := by
  rw [flN_eq]; simp only [sumN, flM, flP_succ, flP_zero, flN_21, un_eq, un_ne (show 0 ≠ 1 by decide), un_ne (show 1 ≠ 0 by decide)]; push_cast; grind
theorem flN_31 (f : Mt) : flN f 3 0 = -(f 0 0 + f 1 1 + f 2 2) := by
  rw [flN_eq]; simp only [sumN, flM, flP_zero, un_eq, un_ne (show 0 ≠ 1 by decide), un_ne (show 1 ≠ 0 by decide), un_ne (show 0 ≠ 2 by decide), un_ne (show 2 ≠ 0 by decide), un_ne (show 1 ≠ 2 by decide), un_ne (show 2 ≠ 1 by decide)]; push_cast; grind
theorem flN_32 (f : Mt) : flN f 3 1 = f 0 0 * f 1 1 - f 0 1 * f 1 0 + (f 0 0 * f 2 2 - f 0 2 * f 2 0) + (f 1 1 * f 2 2 - f 1 2 * f 2 1) := by
  rw [flN_eq]; simp only [sumN, flM, flP_succ, flP_zero, flN_31, un_eq, un_ne (show 0 ≠ 1 by decide), un_ne (show 1 ≠ 0 by decide), un_ne (show 0 ≠ 2 by decide), un_ne (show 2 ≠ 0 by decide), un_ne (show 1 ≠ 2 by decide), un_ne (show 2 ≠ 1 by decide)]; push_cast; grind
theorem flN_33 (f : Mt) : flN f 3 2 = -(f 0 0 * (f 1 1 * f 2 2 - f 1 2 * f 2 1) - f 0 1 * (f 1 0 * f 2 2 - f 1 2 * f 2 0) + f 0 2 * (f 1 0 * f 2 1 - f 1 1 * f 2 0)) := by
  rw [flN_eq]; simp only [sumN, flM, flP_succ, flP_zero, flN_31, flN_32, un_eq, un_ne (show 0 ≠ 1 by decide), un_ne (show 1 ≠ 0 by decide), un_ne (show 0 ≠ 2 by decide), un_ne (show 2 ≠ 0 by decide), un_ne (show 1 ≠ 2 by decide), un_ne (show 2 ≠ 1 by decide)]; push_cast; grind

theorem pw_zero (f : Mt) (n r c : Nat) : pw f n 0 r c = Mine.un r c := rfl
theorem pw_succ (f : Mt) (n k r c : Nat) : pw f n (k + 1) r c = sumN n (fun l => pw f n k r l * f l c) := rfl
theorem ch1 (f : Mt) : ∀ r c, r < 1 → c < 1 → sumN 2 (fun j => pw f 1 j r c * cpAt f 1 j) = 0 := by
  intro r c hr hc
  obtain rfl : r = 0 := by omega
  obtain rfl : c = 0 := by omega
  have e0 : cpAt f 1 0 = -f 0 0 := flN_11 f
  have e1 : cpAt f 1 1 = 1 := rfl
  simp only [sumN, e0, e1, pw_succ, pw_zero, un_eq]; grind
theorem ch2 (f : Mt) : ∀ r c, r < 2 → c < 2 → sumN 3 (fun j => pw f 2 j r c * cpAt f 2 j) = 0 := by
  intro r c hr hc
  have e0 : cpAt f 2 0 = f 0 0 * f 1 1 - f 0 1 * f 1 0 := flN_22 f
  have e1 : cpAt f 2 1 = -(f 0 0 + f 1 1) := flN_21 f
  have e2 : cpAt f 2 2 = 1 := rfl
  simp only [sumN, e0, e1, e2, pw_succ, pw_zero]
  rcases (show r = 0 ∨ r = 1 by omega) with rfl | rfl <;> rcases (show c = 0 ∨ c = 1 by omega) with rfl | rfl <;>
    (simp only [un_eq, un_ne (show 0 ≠ 1 by decide), un_ne (show 1 ≠ 0 by decide)]; grind)
theorem ch3 (f : Mt) : ∀ r c, r < 3 → c < 3 → sumN 4 (fun j => pw f 3 j r c * cpAt f 3 j) = 0 := by
  intro r c hr hc
  have e0 : cpAt f 3 0 = _ := flN_33 f
  have e1 : cpAt f 3 1 = _ := flN_32 f
  have e2 : cpAt f 3 2 = _ := flN_31 f
  have e3 : cpAt f 3 3 = 1 := rfl
  have p1 : ∀ r c, r < 3 → pw f 3 1 r c = f r c := fun r c hr => pw_one hr
  have p2 : ∀ r c, r < 3 → pw f 3 2 r c = f r 0 * f 0 c + f r 1 * f 1 c + f r 2 * f 2 c := fun r c hr => by
    rw [pw_succ]; simp only [sumN, p1 r _ hr]; grind
  have p3 : ∀ r c, r < 3 → pw f 3 3 r c = pw f 3 2 r 0 * f 0 c + pw f 3 2 r 1 * f 1 c + pw f 3 2 r 2 * f 2 c := fun r c hr => by
    rw [pw_succ]; simp only [sumN]; grind
  simp only [sumN, e0, e1, e2, e3, p3 r _ hr, p2 r _ hr, p1 r _ hr, pw_zero]
  rcases (show r = 0 ∨ r = 1 ∨ r = 2 by omega) with rfl | rfl | rfl <;> rcases (show c = 0 ∨ c = 1 ∨ c = 2 by omega) with rfl | rfl | rfl <;>
    (simp only [un_eq, un_ne (show 0 ≠ 1 by decide), un_ne (show 1 ≠ 0 by decide), un_ne (show 0 ≠ 2 by decide), un_ne (show 2 ≠ 0 by decide), un_ne (show 1 ≠ 2 by decide), un_ne (show 2 ≠ 1 by decide)]; grind)
theorem ch_all (f : Mt) {n : Nat} (h0 : 0 < n) (hn : n ≤ 3) : ∀ r c, r < n → c < n → sumN (n + 1) (fun j => pw f n j r c * cpAt f n j) = 0 := by
  rcases (show n = 1 ∨ n = 2 ∨ n = 3 by omega) with rfl | rfl | rfl
  · exact ch1 f
  · exact ch2 f
  · exact ch3 f


/-! ## products and rests -/
theorem prodF_out {f t : Nat → Int} {q : Nat} : ∀ a i, q + a ≤ i + 1 → prodF f t q a i = 0
  | 0, i, _ => rfl
  | a + 1, i, h => by
    rw [prodF, if_neg (by omega)]
    exact prodF_out a i (by omega)
theorem prodF_congr {f f' t t' : Nat → Int} {q : Nat} (ht : ∀ j, j < q → t j = t' j) : ∀ a i, (∀ j, j < a → f j = f' j) → prodF f t q a i = prodF f' t' q a i
  | 0, i, _ => rfl
  | a + 1, i, h => by
    rw [prodF, prodF, prodF_congr ht a i fun j hj => h j (by omega), h a (by omega)]
    split
    · rw [ht (i - a) (by omega)]
    · rfl
theorem rest_zero {q : Nat} {t Q : Nat → Int} (hq : 0 < q) (ht : t (q - 1) = 1) : ∀ k (g : Nat → Int), (∀ i, i < q - 1 + k → g i = prodF Q t q k i) → ∀ i, i < q - 1 → restF q t k g i = 0
  | 0, g, h, i, hi => h i (by omega)
  | k + 1, g, h, i, hi => by
    refine rest_zero (Q := Q) hq ht k (restN q t k g) (fun j hj => ?_) i hi
    have top : g (q - 1 + k) = Q k := by
      rw [h _ (by omega), prodF, if_pos (by omega), prodF_out k _ (by omega), show q - 1 + k - k = q - 1 by omega, ht]
      omega
    unfold restN
    rw [top, h j (by omega), prodF]
    by_cases e : k ≤ j
    · rw [if_pos e, if_pos (by omega)]; omega
    · rw [if_neg e, if_neg (by omega)]
theorem prodF_le {f t : Nat → Int} {q F T : Nat} (hf : ∀ i, (f i).natAbs ≤ F) (ht : ∀ i, (t i).natAbs ≤ T) : ∀ a i, (prodF f t q a i).natAbs ≤ a * (F * T)
  | 0, i => by simp [prodF]
  | a + 1, i => by
    have h1 := prodF_le (q := q) hf ht a i
    have h2 : (f a * t (i - a)).natAbs ≤ F * T := by rw [Int.natAbs_mul]; exact Nat.mul_le_mul (hf _) (ht _)
    rw [prodF, Nat.succ_mul]
    split <;> omega
theorem ppow_le {t : Nat → Int} {d T : Nat} (hd : d ≤ 3) (ht : ∀ i, (t i).natAbs ≤ T) : ∀ k, k ≤ 3 → ∀ i, (ppow t d k i).natAbs ≤ (10 * T) ^ k
  | 0, _, i => by simp [ppow]
  | k + 1, hk, i => by
    have h := prodF_le (q := d + 1) (ppow_le hd ht k (by omega)) ht (1 + k * d) i
    refine Nat.le_trans h ?_
    have hkd : k * d ≤ 3 * 3 := Nat.mul_le_mul (by omega) hd
    rw [Nat.pow_succ, ← Nat.mul_assoc, Nat.mul_comm ((10 * T) ^ k) (10 * T), Nat.mul_assoc 10 T, Nat.mul_comm T, ← Nat.mul_assoc, Nat.mul_assoc]
    rw [Nat.mul_assoc 10]
    exact Nat.mul_le_mul_right _ (by omega)
theorem restN_le {q : Nat} {t g : Nat → Int} {k B T : Nat} (hg : ∀ i, (g i).natAbs ≤ B) (ht : ∀ i, (t i).natAbs ≤ T) (i : Nat) : (restN q t k g i).natAbs ≤ B * (T + 1) := by
  have h2 : (g (q - 1 + k) * t (i - k)).natAbs ≤ B * T := by rw [Int.natAbs_mul]; exact Nat.mul_le_mul (hg _) (ht _)
  have h1 := hg i
  rw [Nat.mul_succ]
  unfold restN
  split <;> omega
theorem restOk_of {q : Nat} {t : Nat → Int} {T : Nat} (ht : ∀ i, (t i).natAbs ≤ T) : ∀ k (g : Nat → Int) (B : Nat), (∀ i, (g i).natAbs ≤ B) → B * (T + 1) ^ k < 2 ^ 1000 → RestOk q t k g
  | 0, g, B, hg, h => trivial
  | k + 1, g, B, hg, h => by
    refine ⟨Nat.lt_of_le_of_lt (hg _) (Nat.lt_of_le_of_lt (Nat.le_mul_of_pos_right B (Nat.pow_pos (Nat.succ_pos T))) h), ?_⟩
    refine restOk_of ht k _ (B * (T + 1)) (restN_le hg ht) ?_
    rw [Nat.mul_assoc, Nat.mul_comm (T + 1), ← Nat.pow_succ]
    exact h
theorem atV_le {p : Nat → Rat} {K : Nat} (hp : ∀ j, (p j).num.natAbs ≤ K) {x : Int} (hx : x.natAbs ≤ 5) {d : Nat} : ∀ i, (atV p d x i).natAbs ≤ K * 6 ^ i
  | 0 => by simp [atV]
  | i + 1 => by
    have h1 := atV_le hp hx (d := d) i
    have h2 : (atV p d x i * x).natAbs ≤ K * 6 ^ i * 5 := by rw [Int.natAbs_mul]; exact Nat.mul_le_mul h1 hx
    have h3 := hp (d - 1 - i)
    have h4 : K * 1 ≤ K * 6 ^ i := Nat.mul_le_mul_left K (Nat.one_le_pow _ _ (by decide))
    have e : K * 6 ^ (i + 1) = K * 6 ^ i * 6 := by rw [Nat.pow_succ, Nat.mul_assoc]
    rw [atV, e]
    omega

/-! ## the least polynomial and the whole one -/
def Rel (n d : Nat) (P S : Nat → Int) : Prop :=
  (d = n ∧ ∀ j, j ≤ n → S j = P j) ∨
  (d = 1 ∧ n = 2 ∧ ∃ a, S 0 = -a ∧ S 1 = 1 ∧ P 0 = a * a ∧ P 1 = -2 * a ∧ P 2 = 1) ∨
  (d = 1 ∧ n = 3 ∧ ∃ a, S 0 = -a ∧ S 1 = 1 ∧ P 0 = -(a * a * a) ∧ P 1 = 3 * (a * a) ∧ P 2 = -3 * a ∧ P 3 = 1) ∨
  (d = 2 ∧ n = 3 ∧ ∃ r s, S 0 = -(r * s) ∧ S 1 = s - r ∧ S 2 = 1 ∧ P 0 = r * r * s ∧ P 1 = r * r - 2 * (r * s) ∧ P 2 = s - 2 * r ∧ P 3 = 1)
theorem rel_div1 {n d : Nat} {P S : Nat → Int} (hn : 0 < n) (h : Rel n d P S) : ∃ Q : Nat → Int, ∀ i, i < n + 1 → P i = prodF Q S (d + 1) (n + 1 + 1 - (d + 1)) i := by
  rcases h with ⟨rfl, h⟩ | ⟨rfl, rfl, a, s0, s1, p0, p1, p2⟩ | ⟨rfl, rfl, a, s0, s1, p0, p1, p2, p3⟩ | ⟨rfl, rfl, r, s, s0, s1, s2, p0, p1, p2, p3⟩
  · refine ⟨fun _ => 1, fun i hi => ?_⟩
    rw [show d + 1 + 1 - (d + 1) = 0 + 1 by omega, prodF, if_pos (by omega), prodF, ← h i (by omega), Nat.sub_zero]
    omega
  · refine ⟨fun i => if i = 0 then -a else 1, fun i hi => ?_⟩
    rcases (show i = 0 ∨ i = 1 ∨ i = 2 by omega) with rfl | rfl | rfl <;> (simp [prodF, s0, s1, p0, p1, p2]; try grind)
  · refine ⟨fun i => if i = 0 then a * a else if i = 1 then -2 * a else 1, fun i hi => ?_⟩
    rcases (show i = 0 ∨ i = 1 ∨ i = 2 ∨ i = 3 by omega) with rfl | rfl | rfl | rfl <;> (simp [prodF, s0, s1, p0, p1, p2, p3]; try grind)
  · refine ⟨fun i => if i = 0 then -r else 1, fun i hi => ?_⟩
    rcases (show i = 0 ∨ i = 1 ∨ i = 2 ∨ i = 3 by omega) with rfl | rfl | rfl | rfl <;> (simp [prodF, s0, s1, s2, p0, p1, p2, p3]; try grind)
theorem rel_div2 {n d : Nat} {P S : Nat → Int} (hn : 0 < n) (h : Rel n d P S) : ∃ Q : Nat → Int, ∀ i, i < 1 + n * d → ppow S d n i = prodF Q P (n + 1) (1 + n * d + 1 - (n + 1)) i := by
  rcases h with ⟨rfl, h⟩ | ⟨rfl, rfl, a, s0, s1, p0, p1, p2⟩ | ⟨rfl, rfl, a, s0, s1, p0, p1, p2, p3⟩ | ⟨rfl, rfl, r, s, s0, s1, s2, p0, p1, p2, p3⟩
  · obtain ⟨m, rfl⟩ : ∃ m, d = m + 1 := ⟨d - 1, by omega⟩
    refine ⟨ppow S (m + 1) m, fun i hi => ?_⟩
    have e : 1 + (m + 1) * (m + 1) + 1 - (m + 1 + 1) = 1 + m * (m + 1) := by rw [Nat.succ_mul m]; omega
    rw [e]
    exact prodF_congr (fun j hj => h j (by omega)) _ _ fun _ _ => rfl
  · refine ⟨fun _ => 1, fun i hi => ?_⟩
    rcases (show i = 0 ∨ i = 1 ∨ i = 2 by omega) with rfl | rfl | rfl <;> (simp [prodF, ppow, s0, s1, p0, p1, p2]; try grind)
  · refine ⟨fun _ => 1, fun i hi => ?_⟩
    rcases (show i = 0 ∨ i = 1 ∨ i = 2 ∨ i = 3 by omega) with rfl | rfl | rfl | rfl <;> (simp [prodF, ppow, s0, s1, p0, p1, p2, p3]; try grind)
  · refine ⟨fun i => if i = 0 then -(r * s * s) else if i = 1 then s * s - 2 * (r * s) else if i = 2 then 2 * s - r else 1, fun i hi => ?_⟩
    rcases (show i = 0 ∨ i = 1 ∨ i = 2 ∨ i = 3 ∨ i = 4 ∨ i = 5 ∨ i = 6 by omega) with rfl | rfl | rfl | rfl | rfl | rfl | rfl <;> (simp [prodF, ppow, s0, s1, s2, p0, p1, p2, p3]; try grind)

/-! ## a root that is a fraction is whole -/
theorem root_int {x : Rat} {a b c : Int} (h : x * x * x + a * (x * x) + b * x + c = 0) : ∃ z : Int, x = z := by
  have hd : (x.den : Rat) ≠ 0 := by exact_mod_cast x.den_nz
  have e : x = (x.num : Rat) / (x.den : Rat) := by
    rw [← Rat.mkRat_eq_div]; exact (Rat.mkRat_self x).symm
  have h2 : ((x.num * x.num * x.num + (x.den : Int) * (a * x.num * x.num + b * x.num * x.den + c * x.den * x.den) : Int) : Rat) = 0 := by
    push_cast
    generalize (x.num : Rat) = u at e ⊢
    generalize (x.den : Rat) = v at e hd ⊢
    have e' : u = x * v := by rw [e]; grind
    rw [e']
    grind
  have h3 : x.num * x.num * x.num + (x.den : Int) * (a * x.num * x.num + b * x.num * x.den + c * x.den * x.den) = 0 := by exact_mod_cast h2
  have h4 : (x.den : Int) ∣ x.num * x.num * x.num := ⟨-(a * x.num * x.num + b * x.num * x.den + c * x.den * x.den), by grind⟩
  have h5 : x.den ∣ x.num.natAbs * x.num.natAbs * x.num.natAbs := by
    have := Int.natAbs_dvd_natAbs.mpr h4
    rwa [Int.natAbs_natCast, Int.natAbs_mul, Int.natAbs_mul] at this
  have hc : Nat.Coprime x.den x.num.natAbs := x.reduced.symm
  have h6 : x.den ∣ 1 := by
    have q1 := hc.dvd_of_dvd_mul_right h5
    have q2 := hc.dvd_of_dvd_mul_right q1
    exact Nat.dvd_one.mpr (hc.eq_one_of_dvd q2)
  refine ⟨x.num, ?_⟩
  have h7 : x.den = 1 := Nat.dvd_one.mp h6
  generalize (x.num : Rat) = u at e ⊢
  rw [h7] at e
  rw [e]; push_cast; grind
theorem root_le {r a b c : Int} (h : r * r * r + a * (r * r) + b * r + c = 0) (ha : a.natAbs ≤ 108) (hb : b.natAbs ≤ 7776) (hc : c.natAbs ≤ 279936) : r.natAbs ≤ 1000 := by
  have e : (r * r * r).natAbs = (a * (r * r) + b * r + c).natAbs := by
    have : r * r * r = -(a * (r * r) + b * r + c) := by omega
    rw [this, Int.natAbs_neg]
  rw [Int.natAbs_mul, Int.natAbs_mul] at e
  have h1 : (a * (r * r)).natAbs ≤ 108 * (r.natAbs * r.natAbs) := by rw [Int.natAbs_mul, Int.natAbs_mul]; exact Nat.mul_le_mul_right _ ha
  have h2 : (b * r).natAbs ≤ 7776 * r.natAbs := by rw [Int.natAbs_mul]; exact Nat.mul_le_mul_right _ hb
  generalize r.natAbs = R at *
  refine Nat.le_of_not_lt fun hR => ?_
  have l1 : 1000 * R ≤ R * R := Nat.mul_le_mul_right R (by omega)
  have l2 : R * R * 1000 ≤ R * R * R := Nat.mul_le_mul_left (R * R) (by omega)
  omega

theorem IB.sub {M N : Nat} {p q : Rat} (h : IB M p) (k : IB N q) : IB (M + N) (p - q) := by
  rw [Rat.sub_eq_add_neg]; exact h.add k.neg
theorem num_of {q : Rat} {z : Int} (h : q = (z : Rat)) : q.num = z := by rw [h, Rat.num_intCast]
theorem lt1000 {M a : Nat} (h : M < 2 ^ 250) (ha : a ≤ M) : a < 2 ^ 1000 := pow_lt (Nat.lt_of_le_of_lt ha h) (by decide)

/-! ## the whole polynomial -/
theorem big_10 (g : Nat → Nat → Int) : bigA g 1 0 = -g 0 0 := num_of (by rw [show cpA g 1 0 = _ from flN_11 _]; push_cast; rfl)
theorem big_20 (g : Nat → Nat → Int) : bigA g 2 0 = g 0 0 * g 1 1 - g 0 1 * g 1 0 := num_of (by rw [show cpA g 2 0 = _ from flN_22 _]; push_cast; rfl)
theorem big_21 (g : Nat → Nat → Int) : bigA g 2 1 = -(g 0 0 + g 1 1) := num_of (by rw [show cpA g 2 1 = _ from flN_21 _]; push_cast; rfl)
theorem big_30 (g : Nat → Nat → Int) : bigA g 3 0 = -(g 0 0 * (g 1 1 * g 2 2 - g 1 2 * g 2 1) - g 0 1 * (g 1 0 * g 2 2 - g 1 2 * g 2 0) + g 0 2 * (g 1 0 * g 2 1 - g 1 1 * g 2 0)) := num_of (by rw [show cpA g 3 0 = _ from flN_33 _]; push_cast; rfl)
theorem big_31 (g : Nat → Nat → Int) : bigA g 3 1 = g 0 0 * g 1 1 - g 0 1 * g 1 0 + (g 0 0 * g 2 2 - g 0 2 * g 2 0) + (g 1 1 * g 2 2 - g 1 2 * g 2 1) := num_of (by rw [show cpA g 3 1 = _ from flN_32 _]; push_cast; rfl)
theorem big_32 (g : Nat → Nat → Int) : bigA g 3 2 = -(g 0 0 + g 1 1 + g 2 2) := num_of (by rw [show cpA g 3 2 = _ from flN_31 _]; push_cast; rfl)
theorem cp_top (g : Nat → Nat → Int) (n : Nat) : cpA g n n = 1 := if_pos rfl
theorem big_top (g : Nat → Nat → Int) (n : Nat) : bigA g n n = 1 := num_of (by rw [cp_top]; rfl)

section
variable {g : Nat → Nat → Int} {n : Nat} (gb : GridOk g n)
include gb
theorem flN_ib (hn : n ≤ 3) : ∀ i, i < n → IB 279936 (flN (qM g) n i) ∧ (n = 3 → i = 0 → IB 108 (flN (qM g) n i)) ∧ (n = 3 → i = 1 → IB 7776 (flN (qM g) n i)) := by
  intro i hi
  have G : ∀ i j, i < n → j < n → IB 36 (qM g i j) := fun i j hi hj => grid_ib gb hi hj
  rcases (show (n = 1 ∧ i = 0) ∨ (n = 2 ∧ i = 0) ∨ (n = 2 ∧ i = 1) ∨ (n = 3 ∧ i = 0) ∨ (n = 3 ∧ i = 1) ∨ (n = 3 ∧ i = 2) by omega) with ⟨rfl, rfl⟩ | ⟨rfl, rfl⟩ | ⟨rfl, rfl⟩ | ⟨rfl, rfl⟩ | ⟨rfl, rfl⟩ | ⟨rfl, rfl⟩
  · exact ⟨by rw [flN_11]; exact (G 0 0 (by omega) (by omega)).neg.mono (by decide), fun h => by omega, fun h => by omega⟩
  · exact ⟨by rw [flN_21]; exact ((G 0 0 (by omega) (by omega)).add (G 1 1 (by omega) (by omega))).neg.mono (by decide), fun h => by omega, fun h => by omega⟩
  · exact ⟨by rw [flN_22]; exact (((G 0 0 (by omega) (by omega)).mul (G 1 1 (by omega) (by omega))).sub ((G 0 1 (by omega) (by omega)).mul (G 1 0 (by omega) (by omega)))).mono (by decide), fun h => by omega, fun h => by omega⟩
  · have : IB 108 (flN (qM g) 3 0) := by
      rw [flN_31]; exact (((G 0 0 (by omega) (by omega)).add (G 1 1 (by omega) (by omega))).add (G 2 2 (by omega) (by omega))).neg
    exact ⟨this.mono (by decide), fun _ _ => this, fun _ h => by omega⟩
  · have : IB 7776 (flN (qM g) 3 1) := by
      rw [flN_32]
      have m : ∀ a b, a < 3 → b < 3 → IB (36 * 36 + 36 * 36) (qM g a a * qM g b b - qM g a b * qM g b a) := fun a b ha hb => ((G a a ha ha).mul (G b b hb hb)).sub ((G a b ha hb).mul (G b a hb ha))
      exact ((m 0 1 (by omega) (by omega)).add (m 0 2 (by omega) (by omega))).add (m 1 2 (by omega) (by omega))
    exact ⟨this.mono (by decide), fun _ h => by omega, fun _ _ => this⟩
  · refine ⟨?_, fun _ h => by omega, fun _ h => by omega⟩
    rw [flN_33]
    have m : ∀ a b c d e, a < 3 → b < 3 → c < 3 → d < 3 → e < 3 → IB (36 * (36 * 36 + 36 * 36)) (qM g 0 a * (qM g 1 b * qM g 2 c - qM g 1 d * qM g 2 e)) := fun a b c d e ha hb hc hd he => (G 0 a (by omega) ha).mul (((G 1 b (by omega) hb).mul (G 2 c (by omega) hc)).sub ((G 1 d (by omega) hd).mul (G 2 e (by omega) he)))
    exact (((m 0 1 2 2 1 (by omega) (by omega) (by omega) (by omega) (by omega)).sub (m 1 0 2 2 0 (by omega) (by omega) (by omega) (by omega) (by omega))).add (m 2 0 1 1 0 (by omega) (by omega) (by omega) (by omega) (by omega))).neg
theorem cp_ib (h0 : 0 < n) (hn : n ≤ 3) (i : Nat) : IB 279936 (cpA g n i) := by
  show IB _ (cpAt _ _ _)
  unfold cpAt
  split
  · exact IB.one.mono (by decide)
  · exact (flN_ib gb hn _ (by omega)).1
theorem cp_big (h0 : 0 < n) (hn : n ≤ 3) (i : Nat) : cpA g n i = (bigA g n i : Rat) := (cp_ib gb h0 hn i).num.1
end

/-! ## the values -/
theorem at_det (g : Nat → Nat → Int) (x : Int) {n : Nat} (h0 : 0 < n) (hn : n ≤ 3) : atV (cpA g n) (n + 1) x (n + 1) = detV n (shI g x) := by
  have s0 : sgn 0 = 1 := by decide
  have s1 : sgn 1 = -1 := by decide
  have s2 : sgn 2 = 1 := by decide
  have e : ∀ i, (cpA g n i).num = bigA g n i := fun _ => rfl
  rcases (show n = 1 ∨ n = 2 ∨ n = 3 by omega) with rfl | rfl | rfl
  · simp only [atV, e, Nat.add_sub_cancel, Nat.sub_zero, Nat.sub_self, big_10, big_top]
    simp [detV, sumI, minorI, shI, s0]
    try grind
  · simp only [atV, e, show 2 + 1 - 1 - 0 = 2 by rfl, show 2 + 1 - 1 - 1 = 1 by rfl, show 2 + 1 - 1 - 2 = 0 by rfl, big_20, big_21, big_top]
    simp [detV, sumI, minorI, shI, s0, s1]
    try grind
  · simp only [atV, e, show 3 + 1 - 1 - 0 = 3 by rfl, show 3 + 1 - 1 - 1 = 2 by rfl, show 3 + 1 - 1 - 2 = 1 by rfl, show 3 + 1 - 1 - 3 = 0 by rfl, big_30, big_31, big_32, big_top]
    simp [detV, sumI, minorI, shI, s0, s1, s2]
    try grind

section
variable {g : Nat → Nat → Int} {n d : Nat} (gb : GridOk g n) (h0 : 0 < n) (hn : n ≤ 3) (hd : d ≤ n) (D : Dep (n * n) (pm (qM g) n) d)
theorem lp_top : lpA g n d d = 1 := by
  show depAt _ d d d = 1
  unfold depAt
  rw [if_neg (Nat.lt_irrefl d), if_pos rfl]
theorem lp_out {j : Nat} (h : d < j) : lpA g n d j = 0 := by
  show depAt _ d d j = 0
  unfold depAt
  rw [if_neg (by omega), if_neg (by omega)]
include D in
theorem lp_ker : ∀ r c, r < n → c < n → sumN (d + 1) (fun j => pw (qM g) n j r c * lpA g n d j) = 0 := ker_pm.mp D.ker
include D h0 in
theorem d_pos : 0 < d := by
  rcases Nat.eq_zero_or_pos d with rfl | h
  · have := lp_ker D 0 0 h0 h0
    simp only [sumN, pw_zero, un_eq, lp_top] at this
    grind
  · exact h
/-- a matrix of one number -/
def Scal (g : Nat → Nat → Int) (n : Nat) : Prop := ∀ i, i < n → ∀ j, j < n → g i j = if i = j then g 0 0 else 0
include D h0 in
theorem scal_of (e : d = 1) : Scal g n ∧ lpA g n d 0 = -((g 0 0 : Int) : Rat) := by
  subst e
  have k : ∀ r c, r < n → c < n → Mine.un r c * lpA g n 1 0 + qM g r c = 0 := fun r c hr hc => by
    have := lp_ker D r c hr hc
    have e1 : pw (qM g) n (0 + 1) r c = qM g r c := pw_one hr
    simp only [sumN, pw_zero, e1, lp_top] at this
    grind
  have k0 := k 0 0 h0 h0
  rw [un_eq] at k0
  have e0 : lpA g n 1 0 = -((g 0 0 : Int) : Rat) := by grind
  refine ⟨fun i hi j hj => ?_, e0⟩
  have k1 := k i j hi hj
  rw [e0] at k1
  by_cases q : i = j
  · subst q
    rw [un_eq] at k1
    rw [if_pos rfl]
    have : ((g i i : Int) : Rat) = ((g 0 0 : Int) : Rat) := by grind
    exact_mod_cast this
  · rw [un_ne q] at k1
    rw [if_neg q]
    have : ((g i j : Int) : Rat) = ((0 : Int) : Rat) := by push_cast; grind
    exact_mod_cast this
include D h0 hn hd in
theorem of_scal (h : Scal g n) : d = 1 := by
  have hp := d_pos h0 D
  refine Nat.le_antisymm (Nat.le_of_not_lt fun h2 => ?_) hp
  have n1 : n ≠ 1 := by omega
  have k : Ker (n * n) d (pm (qM g) n) (fun j => if j = 0 then -((g 0 0 : Int) : Rat) else if j = 1 then 1 else 0) := ker_pm.mpr fun r c hr hc => by
    have e1 : pw (qM g) n (0 + 1) r c = if r = c then ((g 0 0 : Int) : Rat) else 0 := by
      rw [pw_one hr]
      show ((g r c : Int) : Rat) = _
      rw [h r hr c hc]
      split <;> push_cast <;> rfl
    have e2 : Mine.un r c = if r = c then 1 else 0 := rfl
    rcases (show d = 2 ∨ d = 3 by omega) with rfl | rfl
    · simp only [sumN, pw_zero, e1, e2]
      by_cases q : r = c <;> simp [q] <;> grind
    · simp only [sumN, pw_zero, e1, e2]
      by_cases q : r = c <;> simp [q] <;> grind
  have := D.ind _ k 1 h2
  simp at this
include D gb h0 hn hd in
theorem rel_of : ∃ S : Nat → Int, (∀ j, lpA g n d j = (S j : Rat)) ∧ (∀ j, (S j).natAbs ≤ 2 ^ 22) ∧ Rel n d (bigA g n) S := by
  have hp := d_pos h0 D
  have bb : ∀ j, (bigA g n j).natAbs ≤ 279936 := fun j => (cp_ib gb h0 hn j).num.2.1
  have ch := ch_all (qM g) h0 hn
  have kl := lp_ker D
  rcases (show d = n ∨ (d = 1 ∧ n = 2) ∨ (d = 1 ∧ n = 3) ∨ (d = 2 ∧ n = 3) by omega) with rfl | ⟨rfl, rfl⟩ | ⟨rfl, rfl⟩ | ⟨rfl, rfl⟩
  · have e : ∀ j, j ≤ d → lpA g d d j = cpA g d j := fun j hj => by
      rcases Nat.lt_or_eq_of_le hj with hj | rfl
      · have k : Ker (d * d) d (pm (qM g) d) (fun j => lpA g d d j - cpA g d j) := ker_pm.mpr fun r c hr hc => by
          have a := kl r c hr hc
          have b := ch r c hr hc
          change sumN d _ + _ * lpA g d d d = 0 at a
          change sumN d _ + _ * cpA g d d = 0 at b
          rw [lp_top] at a
          rw [cp_top] at b
          have e1 := sumN_lin (fun j => pw (qM g) d j r c * lpA g d d j) (fun j => pw (qM g) d j r c * cpA g d j) 1 d
          have e2 : sumN d (fun j => pw (qM g) d j r c * (lpA g d d j - cpA g d j)) = sumN d (fun j => pw (qM g) d j r c * lpA g d d j - 1 * (pw (qM g) d j r c * cpA g d j)) := sumN_congr fun j _ => by grind
          rw [e2, e1]
          change sumN d (fun j => pw (qM g) d j r c * cpA g d j) + _ = 0 at b
          grind
        have := D.ind _ k j hj
        grind
      · rw [lp_top, cp_top]
    refine ⟨fun j => if j ≤ d then bigA g d j else 0, fun j => ?_, fun j => ?_, .inl ⟨rfl, fun j hj => if_pos hj⟩⟩
    · by_cases q : j ≤ d
      · simp only [if_pos q]
        rw [e j q, cp_big gb h0 hn]
      · simp only [if_neg q]
        rw [lp_out (by omega)]; rfl
    · simp only
      split
      · exact Nat.le_trans (bb j) (by decide)
      · decide
  · obtain ⟨hs, e0⟩ := scal_of h0 D rfl
    have hg := gb 0 0 h0 h0
    refine ⟨fun j => if j = 0 then -g 0 0 else if j = 1 then 1 else 0, fun j => ?_, fun j => ?_, .inr (.inl ⟨rfl, rfl, g 0 0, rfl, rfl, ?_, ?_, ?_⟩)⟩
    · by_cases q : j = 0
      · subst q; rw [e0]; simp
      · by_cases q' : j = 1
        · subst q'; rw [lp_top]; rfl
        · simp only [if_neg q, if_neg q']; rw [lp_out (by omega)]; rfl
    · simp only
      split
      · omega
      · split <;> decide
    · rw [big_20, hs 1 (by omega) 1 (by omega), hs 0 (by omega) 1 (by omega), if_pos rfl, if_neg (by decide)]; grind
    · rw [big_21, hs 1 (by omega) 1 (by omega), if_pos rfl]; grind
    · exact big_top g 2
  · obtain ⟨hs, e0⟩ := scal_of h0 D rfl
    have hg := gb 0 0 h0 h0
    have h1 := hs 1 (by omega) 1 (by omega)
    have h2 := hs 2 (by omega) 2 (by omega)
    have h3 := hs 0 (by omega) 1 (by omega)
    have h4 := hs 0 (by omega) 2 (by omega)
    have h5 := hs 1 (by omega) 2 (by omega)
    rw [if_pos rfl] at h1 h2
    rw [if_neg (by decide)] at h3 h4 h5
    refine ⟨fun j => if j = 0 then -g 0 0 else if j = 1 then 1 else 0, fun j => ?_, fun j => ?_, .inr (.inr (.inl ⟨rfl, rfl, g 0 0, rfl, rfl, ?_, ?_, ?_, ?_⟩))⟩
    · by_cases q : j = 0
      · subst q; rw [e0]; simp
      · by_cases q' : j = 1
        · subst q'; rw [lp_top]; rfl
        · simp only [if_neg q, if_neg q']; rw [lp_out (by omega)]; rfl
    · simp only
      split
      · omega
      · split <;> decide
    · rw [big_30, h1, h2, h3, h4, h5]; grind
    · rw [big_31, h1, h2, h3, h4, h5]; grind
    · rw [big_32, h1, h2]; grind
    · exact big_top g 3
  · have l2 : lpA g 3 2 2 = 1 := lp_top
    have p3 : cpA g 3 3 = 1 := cp_top g 3
    have up := ker_up kl
    have k : Ker (3 * 3) 2 (pm (qM g) 3) (fun j => if j = 0 then cpA g 3 0 - (cpA g 3 2 - lpA g 3 2 1) * lpA g 3 2 0 else cpA g 3 1 - lpA g 3 2 0 - (cpA g 3 2 - lpA g 3 2 1) * lpA g 3 2 1) := ker_pm.mpr fun r c hr hc => by
      have a := kl r c hr hc
      have b := ch r c hr hc
      have u := up r c hr hc
      change sumN 4 (fun j => pw (qM g) 3 j r c * cpA g 3 j) = 0 at b
      simp only [sumN, l2, p3, Nat.zero_add, Nat.reduceAdd, Nat.one_ne_zero, if_true, if_false] at a b u ⊢
      generalize pw (qM g) 3 0 r c = a0 at *
      generalize pw (qM g) 3 1 r c = a1 at *
      generalize pw (qM g) 3 2 r c = a2 at *
      generalize pw (qM g) 3 3 r c = a3 at *
      grind
    have i0 := D.ind _ k 0 (by decide)
    have i1 := D.ind _ k 1 (by decide)
    simp only [Nat.one_ne_zero, if_true, if_false] at i0 i1
    have q0 := cp_big gb h0 hn 0
    have q1 := cp_big gb h0 hn 1
    have q2 := cp_big gb h0 hn 2
    have b1 : (bigA g 3 1).natAbs ≤ 7776 := ((flN_ib gb hn 1 (by omega)).2.2 rfl rfl).num.2.1
    have b2 : (bigA g 3 2).natAbs ≤ 108 := ((flN_ib gb hn 0 (by omega)).2.1 rfl rfl).num.2.1
    have b0 := bb 0
    have tr : 3 * lpA g 3 2 0 + lpA g 3 2 1 * (qM g 0 0 + qM g 1 1 + qM g 2 2) + (cpA g 3 2 * cpA g 3 2 - 2 * cpA g 3 1) = 0 := by
      have t0 := kl 0 0 (by omega) (by omega)
      have t1 := kl 1 1 (by omega) (by omega)
      have t2 := kl 2 2 (by omega) (by omega)
      have e1 : ∀ r c, r < 3 → pw (qM g) 3 1 r c = qM g r c := fun r c hr => pw_one hr
      have e2 : ∀ r c, r < 3 → pw (qM g) 3 2 r c = qM g r 0 * qM g 0 c + qM g r 1 * qM g 1 c + qM g r 2 * qM g 2 c := fun r c hr => by
        rw [pw_succ]; simp only [sumN, e1 r _ hr]; grind
      simp only [sumN, pw_zero, un_eq, Nat.zero_add, Nat.reduceAdd, l2, e1 _ _ (show 0 < 3 by decide), e1 _ _ (show 1 < 3 by decide), e1 _ _ (show 2 < 3 by decide), e2 _ _ (show 0 < 3 by decide), e2 _ _ (show 1 < 3 by decide), e2 _ _ (show 2 < 3 by decide)] at t0 t1 t2
      rw [show cpA g 3 2 = _ from flN_31 _, show cpA g 3 1 = _ from flN_32 _]
      grind
    have tr2 : qM g 0 0 + qM g 1 1 + qM g 2 2 = -cpA g 3 2 := by rw [show cpA g 3 2 = _ from flN_31 _]; grind
    rw [tr2] at tr
    have rt : (lpA g 3 2 1 - cpA g 3 2) * (lpA g 3 2 1 - cpA g 3 2) * (lpA g 3 2 1 - cpA g 3 2) + (bigA g 3 2 : Rat) * ((lpA g 3 2 1 - cpA g 3 2) * (lpA g 3 2 1 - cpA g 3 2)) + (bigA g 3 1 : Rat) * (lpA g 3 2 1 - cpA g 3 2) + (bigA g 3 0 : Rat) = 0 := by
      rw [← q0, ← q1, ← q2]
      generalize lpA g 3 2 0 = c0 at *
      generalize lpA g 3 2 1 = c1 at *
      generalize cpA g 3 0 = p0 at *
      generalize cpA g 3 1 = p1 at *
      generalize cpA g 3 2 = p2 at *
      grind
    obtain ⟨r, hr⟩ := root_int rt
    have rt' : r * r * r + bigA g 3 2 * (r * r) + bigA g 3 1 * r + bigA g 3 0 = 0 := by
      rw [hr] at rt
      exact_mod_cast rt
    have br := root_le rt' b2 b1 b0
    have eb : lpA g 3 2 1 = ((bigA g 3 2 + r : Int) : Rat) := by push_cast; rw [← hr, ← q2]; grind
    have ec : lpA g 3 2 0 = ((-(r * (bigA g 3 2 + 2 * r)) : Int) : Rat) := by
      push_cast
      rw [← hr, ← q2]
      generalize lpA g 3 2 0 = c0 at *
      generalize lpA g 3 2 1 = c1 at *
      generalize cpA g 3 0 = p0 at *
      generalize cpA g 3 1 = p1 at *
      generalize cpA g 3 2 = p2 at *
      grind
    have e1 : bigA g 3 1 = r * r - 2 * (r * (bigA g 3 2 + 2 * r)) := by
      have : (bigA g 3 1 : Rat) = ((r * r - 2 * (r * (bigA g 3 2 + 2 * r)) : Int) : Rat) := by
        rw [ec, eb, q1, q2] at i1
        push_cast at i1 ⊢
        grind
      exact_mod_cast this
    have e0 : bigA g 3 0 = r * r * (bigA g 3 2 + 2 * r) := by
      have : (bigA g 3 0 : Rat) = ((r * r * (bigA g 3 2 + 2 * r) : Int) : Rat) := by
        rw [ec, eb, q0, q2] at i0
        push_cast at i0 ⊢
        grind
      exact_mod_cast this
    have bs : (bigA g 3 2 + 2 * r).natAbs ≤ 2108 := by omega
    have brs : (r * (bigA g 3 2 + 2 * r)).natAbs ≤ 1000 * 2108 := by rw [Int.natAbs_mul]; exact Nat.mul_le_mul br bs
    refine ⟨fun j => if j = 0 then -(r * (bigA g 3 2 + 2 * r)) else if j = 1 then bigA g 3 2 + r else if j = 2 then 1 else 0, fun j => ?_, fun j => ?_, .inr (.inr (.inr ⟨rfl, rfl, r, bigA g 3 2 + 2 * r, rfl, ?_, rfl, e0, e1, ?_, big_top g 3⟩))⟩
    · by_cases a : j = 0
      · subst a; exact ec
      · by_cases b : j = 1
        · subst b; exact eb
        · by_cases c : j = 2
          · subst c; rw [l2]; rfl
          · simp only [if_neg a, if_neg b, if_neg c]; rw [lp_out (by omega)]; rfl
    · simp only
      split
      · omega
      · split
        · omega
        · split <;> decide
    · simp only [Nat.one_ne_zero, if_false, if_true]; omega
    · omega
end

theorem all_ok (g : Nat → Nat → Int) (n : Nat) (h0 : 0 < n) (hn : n ≤ 3) (gb : GridOk g n) : ∃ d, LawOk g n d := by
  have ch := ch_all (qM g) h0 hn
  obtain ⟨d, hd, D⟩ := dep_exists (ker_pm.mpr ch) (cp_top g n)
  have hp := d_pos h0 D
  obtain ⟨S, hS, bS, rel⟩ := rel_of gb h0 hn hd D
  have eS : smlA g n d = S := funext fun j => num_of (hS j)
  have bB : ∀ j, (bigA g n j).natAbs ≤ 279936 := fun j => (cp_ib gb h0 hn j).num.2.1
  have big0 : bigA g n n = 1 := big_top g n
  have sml0 : S d = 1 := by rw [← eS]; exact num_of (by rw [lp_top]; rfl)
  have hnd : n * d ≤ 3 * 3 := Nat.mul_le_mul hn (by omega)
  have pB : ∀ k, k ≤ 3 → ∀ i, (ppow S d k i).natAbs ≤ (10 * 2 ^ 22) ^ 3 := fun k hk i =>
    Nat.le_trans (ppow_le (by omega) bS k hk i) (Nat.pow_le_pow_right (by decide) hk)
  refine ⟨d, ?_⟩
  constructor
  case n0 => exact h0
  case n3 => exact hn
  case d0 => exact hp
  case dn => exact hd
  case gb => exact gb
  case cp => exact cpOk_of gb hn fun i hi => (flN_ib gb hn i hi).1
  case mn => exact minOk_of gb hn hd D
  case cden => exact fun i _ => (cp_ib gb h0 hn i).num.2.2
  case lden => exact fun j _ => by rw [hS j]; exact Rat.den_intCast _
  case atOk =>
    intro x hx i hi
    have h1 := atV_le (p := cpA g n) (fun j => bB j) hx (d := n + 1) i
    refine lt1000 (M := 279936 * 6 ^ 4) (by decide) (Nat.le_trans h1 (Nat.mul_le_mul_left _ (Nat.pow_le_pow_right (by decide) (by omega))))
  case atDet => exact fun x _ => at_det g x h0 hn
  case hc => exact horOk_of gb hn (by omega) fun j => (cp_ib gb h0 hn j).mono (by decide)
  case hl => exact horOk_of gb hn (by omega) fun j => ⟨S j, hS j, Nat.le_trans (bS j) (by decide)⟩
  case hc0 => exact fun i j hi hj => by rw [hor_full]; exact ch i j hi hj
  case hl0 => exact fun i j hi hj => by rw [hor_full]; exact lp_ker D i j hi hj
  case one => rw [eS]; exact sml0
  case bigB => exact fun i _ => lt1000 (by decide) (bB i)
  case smlB => exact fun i _ => by rw [eS]; exact lt1000 (by decide) (bS i)
  case div1 =>
    obtain ⟨Q, hQ⟩ := rel_div1 h0 rel
    intro i hi
    rw [eS]
    exact rest_zero (Q := Q) (by omega) (by rw [Nat.add_sub_cancel]; exact sml0) _ _ (fun j hj => hQ j (by omega)) i (by omega)
  case div1ok =>
    rw [eS]
    refine restOk_of bS _ _ 279936 bB (lt1000 (M := 279936 * (2 ^ 22 + 1) ^ 3) (by decide) ?_)
    exact Nat.mul_le_mul_left _ (Nat.pow_le_pow_right (by decide) (by omega))
  case powB =>
    intro k hk i _
    rw [eS]
    exact lt1000 (M := (10 * 2 ^ 22) ^ 3) (by decide) (pB k (by omega) i)
  case div2 =>
    obtain ⟨Q, hQ⟩ := rel_div2 h0 rel
    intro i hi
    rw [eS]
    have l : n ≤ n * d := Nat.le_mul_of_pos_right n hp
    exact rest_zero (Q := Q) (by omega) (by rw [Nat.add_sub_cancel]; exact big0) _ _ (fun j hj => hQ j (by omega)) i (by omega)
  case div2ok =>
    rw [eS]
    have hnd' : n * d ≤ n * 3 := Nat.mul_le_mul_left n (by omega)
    refine restOk_of bB _ _ ((10 * 2 ^ 22) ^ 3) (pB n hn) (lt1000 (M := (10 * 2 ^ 22) ^ 3 * (279936 + 1) ^ 7) (by decide) ?_)
    exact Nat.mul_le_mul_left _ (Nat.pow_le_pow_right (by decide) (by omega))
  case ev => exact ⟨fun e => (scal_of h0 D e).1, fun h => of_scal h0 hn hd D h⟩


/-! ## the top: what is looked at when it has run -/
def isDunder : Stmt → Bool
  | .Assign [.Name x _] _ _ => x == "__name__"
  | _ => false
/-- the text without its rows that name the file -/
def vw : Program := { PySem.Challenge.pw_nn0263_01 with main := { PySem.Challenge.pw_nn0263_01.main with body := PySem.Challenge.pw_nn0263_01.main.body.filter fun st => !isDunder st } }
def tupO (i j : Int) (t u : Nat) : Obj := { cls := .type "tuple", data := .seq #[Value.int i t, Value.int j u] }
def nsAt (o : Obj) (x : Str) : Option Value := match o.data with
  | .dict es _ => nsFind es x
  | _ => none
def rHook : Hook where
  α := (Option Obj × Option Obj) × (Option Value × Option Value)
  obs s := ((s.heap.get? 42, s.heap.get? 43), (s.heap.nsMap mainGlobals "R0", s.heap.nsMap mainGlobals "R1"))
  val w := ((some (tupO 0 1 232 233), some (tupO 1 1 235 236)), (some (.ref 42), some (.ref 43)))
  says w h := h.get? 42 = some (tupO 0 1 232 233) ∧ h.get? 43 = some (tupO 1 1 235 236) ∧ ∃ o, h.get? mainGlobals = some o ∧ nsAt o "R0" = some (.ref 42) ∧ nsAt o "R1" = some (.ref 43)
  of w s e := by
    simp only [Prod.mk.injEq] at e
    obtain ⟨⟨e1, e2⟩, e3, e4⟩ := e
    refine ⟨e1, e2, ?_⟩
    unfold Heap.nsMap at e3 e4
    cases q : s.heap.get? mainGlobals with
    | none => rw [q] at e3; cases e3
    | some o => rw [q] at e3 e4; exact ⟨o, rfl, e3, e4⟩
  keeps w h h' x k := let ⟨a, b, o, c, d⟩ := x; ⟨k _ _ a, k _ _ b, o, k _ _ c, d⟩
def seenX (s : Shared) : Bool := xlAt vw [] s && recOk (RowW.records PySem.Challenge.rw_nn0263_01.row.toRowW) s
theorem opens : opening PySem.Challenge.pw_nn0263_01 = plainProg PySem.Challenge.pw_nn0263_01.main.scope.names := by kernel_rfl
theorem fenced (s : Shared) : fenceModules? PySem.Challenge.pw_nn0263_01 s = some s := by kernel_rfl
def fdRec : Stmt → Option DefRec
  | .FunctionDef name params body _ _ _ scope _ _ pos => some ⟨name, params, body, scope, pos⟩
  | _ => none
def noRec : DefRec := ⟨"", { posonlyargs := [], args := [], vararg := none, kwonlyargs := [], kw_defaults := [], kwarg := none, defaults := [] }, [], { kind := .function, names := [], isGenerator := false, isCoroutine := false, more := [] }, ⟨0, 0, 0, 0⟩⟩
/-- a def of the text; and the one in its class -/
def fd (k : Nat) : DefRec := (fdRec (fn k)).getD noRec
def fdI : DefRec := (match fn 1 with | .ClassDef _ _ _ (s :: _) .. => fdRec s | _ => none).getD noRec

/-! ## the objects that the top makes, written out by wip/gen/objs.lean; a def's parts are named, not written -/
noncomputable def ob43 (P : Params) : Obj := (@PySem.Obj.mk (@PySem.Value.type "tuple") none (@PySem.Data.seq (List.toArray []) 0) (List.toArray []))
noncomputable def ob44 (P : Params) : Obj := (@PySem.Obj.mk PySem.Value.none none (@PySem.Data.fields (List.toArray [])) (List.toArray []))
noncomputable def ob45 (P : Params) : Obj := (@PySem.Obj.mk (@PySem.Value.type "code") none (@PySem.Data.fields (List.toArray [(@PySem.Value.str (Str.ofString "<module>") 182), (@PySem.Value.str (Str.ofString "<module>") 183), (@PySem.Value.str (Str.ofString "/claim/cut.py") 184), (@PySem.Value.int (1 : Int) 0), (@PySem.Value.int (0 : Int) 0), (@PySem.Value.int (0 : Int) 0), (@PySem.Value.int (0 : Int) 0), (@PySem.Value.int (0 : Int) 0), (@PySem.Value.ref 11), (@PySem.Value.bool Bool.false), (@PySem.Value.int (181 : Int) 0), (@PySem.Value.ref 12), PySem.Value.none, PySem.Value.none, PySem.Value.none, PySem.Value.none, (@PySem.Value.int (185 : Int) 0), (@PySem.Value.int (1 : Int) 0), (@PySem.Value.str (Str.ofString "/claim/cut.py") 186)])) (List.toArray []))
noncomputable def ob46 (P : Params) : Obj := (@PySem.Obj.mk (@PySem.Value.type "frame") none PySem.Data.plain (List.toArray [(some (@PySem.Value.ref 13)), (some (@PySem.Value.ref 3)), (some (@PySem.Value.ref 3)), none, (some (@PySem.Value.str (Str.ofString "__main__") 164)), none, (some (@PySem.Value.ref 0))]))
noncomputable def ob49 (P : Params) : Obj := (@PySem.Obj.mk PySem.Value.none none (@PySem.Data.dict (List.toArray [(@PySem.DictEntry.mk (@PySem.PyData.keyHash P (Str.ofString "type.__subclasses__.Exception.0")) (@PySem.Value.str (Str.ofString "type.__subclasses__.Exception.0") 216) (@PySem.Value.int (31 : Int) 0)), (@PySem.DictEntry.mk (@PySem.PyData.keyHash P (Str.ofString "type.__subclasses__.Exception.n")) (@PySem.Value.str (Str.ofString "type.__subclasses__.Exception.n") 217) (@PySem.Value.int (1 : Int) 0))]) 2) (List.toArray []))
noncomputable def ob50 (P : Params) : Obj := (@PySem.Obj.mk (@PySem.Value.type "dict") none (@PySem.Data.dict (List.toArray [(@PySem.DictEntry.mk (@PySem.PyData.keyHash P (Str.ofString "__name__")) (@PySem.Value.str (Str.ofString "__name__") 165) (@PySem.Value.str (Str.ofString "cas.rats") 230)), (@PySem.DictEntry.mk (@PySem.PyData.keyHash P (Str.ofString "__doc__")) (@PySem.Value.str (Str.ofString "__doc__") 166) PySem.Value.none), (@PySem.DictEntry.mk (@PySem.PyData.keyHash P (Str.ofString "__package__")) (@PySem.Value.str (Str.ofString "__package__") 167) PySem.Value.none), (@PySem.DictEntry.mk (@PySem.PyData.keyHash P (Str.ofString "__loader__")) (@PySem.Value.str (Str.ofString "__loader__") 168) (@PySem.Value.builtin "__main__.__loader__#opaque")), (@PySem.DictEntry.mk (@PySem.PyData.keyHash P (Str.ofString "__spec__")) (@PySem.Value.str (Str.ofString "__spec__") 169) PySem.Value.none), (@PySem.DictEntry.mk (@PySem.PyData.keyHash P (Str.ofString "__annotations__")) (@PySem.Value.str (Str.ofString "__annotations__") 170) (@PySem.Value.ref 6)), (@PySem.DictEntry.mk (@PySem.PyData.keyHash P (Str.ofString "__builtins__")) (@PySem.Value.str (Str.ofString "__builtins__") 171) (@PySem.Value.ref 4)), (@PySem.DictEntry.mk (@PySem.PyData.keyHash P (Str.ofString "__file__")) (@PySem.Value.str (Str.ofString "__file__") 173) (@PySem.Value.str (Str.ofString "/claim/cut.py") 172)), (@PySem.DictEntry.mk (@PySem.PyData.keyHash P (Str.ofString "__cached__")) (@PySem.Value.str (Str.ofString "__cached__") 174) PySem.Value.none), (@PySem.DictEntry.mk (@PySem.PyData.keyHash P (Str.ofString "CasFail")) (@PySem.Value.str (Str.ofString "CasFail") 219) (@PySem.Value.ref 31)), (@PySem.DictEntry.mk (@PySem.PyData.keyHash P (Str.ofString "gcd")) (@PySem.Value.str (Str.ofString "gcd") 229) (@PySem.Value.ref 41)), (@PySem.DictEntry.mk (@PySem.PyData.keyHash P (Str.ofString "R0")) (@PySem.Value.str (Str.ofString "R0") 234) (@PySem.Value.ref 42)), (@PySem.DictEntry.mk (@PySem.PyData.keyHash P (Str.ofString "R1")) (@PySem.Value.str (Str.ofString "R1") 237) (@PySem.Value.ref 43)), (@PySem.DictEntry.mk (@PySem.PyData.keyHash P (Str.ofString "rat")) (@PySem.Value.str (Str.ofString "rat") 246) (@PySem.Value.ref 50)), (@PySem.DictEntry.mk (@PySem.PyData.keyHash P (Str.ofString "radd")) (@PySem.Value.str (Str.ofString "radd") 254) (@PySem.Value.ref 57))]) 15) (List.toArray []))
noncomputable def ob51 (P : Params) : Obj := (@PySem.Obj.mk PySem.Value.none none (@PySem.Data.fields (List.toArray [(@PySem.Value.int (2 : Int) 0), (@PySem.Value.int (0 : Int) 0), (@PySem.Value.ref 20), (@PySem.Value.int (9 : Int) 0), (@PySem.Value.int (0 : Int) 0), (@PySem.Value.ref 40), (@PySem.Value.int (17 : Int) 0), (@PySem.Value.int (0 : Int) 0), (@PySem.Value.ref 49), (@PySem.Value.int (22 : Int) 0), (@PySem.Value.int (0 : Int) 0), (@PySem.Value.ref 56)])) (List.toArray []))
noncomputable def ob52 (P : Params) : Obj := (@PySem.Obj.mk (@PySem.Value.type "tuple") none (@PySem.Data.seq (List.toArray [(@PySem.Value.type "Exception")]) 0) (List.toArray []))
noncomputable def ob53 (P : Params) : Obj := (@PySem.Obj.mk (@PySem.Value.type "builtin_function_or_method") none (@PySem.Data.fields (List.toArray [(@PySem.Value.builtin "type.__prepare__"), (@PySem.Value.type "type")])) (List.toArray []))
noncomputable def ob54 (P : Params) : Obj := (@PySem.Obj.mk (@PySem.Value.type "dict") none (@PySem.Data.dict (List.toArray [(@PySem.DictEntry.mk (@PySem.PyData.keyHash P (Str.ofString "__module__")) (@PySem.Value.str (Str.ofString "__module__") 196) (@PySem.Value.str (Str.ofString "cas.errors") 187)), (@PySem.DictEntry.mk (@PySem.PyData.keyHash P (Str.ofString "__qualname__")) (@PySem.Value.str (Str.ofString "__qualname__") 198) (@PySem.Value.str (Str.ofString "CasFail") 197)), (@PySem.DictEntry.mk (@PySem.PyData.keyHash P (Str.ofString "__firstlineno__")) (@PySem.Value.str (Str.ofString "__firstlineno__") 200) (@PySem.Value.int (2 : Int) 199)), (@PySem.DictEntry.mk (@PySem.PyData.keyHash P (Str.ofString "__init__")) (@PySem.Value.str (Str.ofString "__init__") 209) (@PySem.Value.ref 28)), (@PySem.DictEntry.mk (@PySem.PyData.keyHash P (Str.ofString "__static_attributes__")) (@PySem.Value.str (Str.ofString "__static_attributes__") 212) (@PySem.Value.ref 29))]) 5) (List.toArray []))
noncomputable def ob55 (P : Params) : Obj := (@PySem.Obj.mk (@PySem.Value.type "tuple") none (@PySem.Data.seq (List.toArray []) 0) (List.toArray []))
noncomputable def ob56 (P : Params) : Obj := (@PySem.Obj.mk PySem.Value.none none (@PySem.Data.fields (List.toArray [(@PySem.Value.int (4 : Int) 0), (@PySem.Value.int (4 : Int) 0), (@PySem.Value.ref 27)])) (List.toArray []))
noncomputable def ob57 (P : Params) : Obj := (@PySem.Obj.mk (@PySem.Value.type "code") none (@PySem.Data.fields (List.toArray [(@PySem.Value.str (Str.ofString "CasFail") 191), (@PySem.Value.str (Str.ofString "CasFail") 192), (@PySem.Value.str (Str.ofString "/claim/cut.py") 193), (@PySem.Value.int (2 : Int) 0), (@PySem.Value.int (0 : Int) 0), (@PySem.Value.int (0 : Int) 0), (@PySem.Value.int (0 : Int) 0), (@PySem.Value.int (0 : Int) 0), (@PySem.Value.ref 18), (@PySem.Value.bool Bool.false), (@PySem.Value.int (181 : Int) 0), (@PySem.Value.ref 19), PySem.Value.none, PySem.Value.none, PySem.Value.none, PySem.Value.none, (@PySem.Value.int (194 : Int) 0), (@PySem.Value.int (2 : Int) 0), (@PySem.Value.str (Str.ofString "/claim/cut.py") 195)])) (List.toArray []))
noncomputable def ob58 (P : Params) : Obj := (@PySem.Obj.mk (@PySem.Value.type "frame") none PySem.Data.plain (List.toArray [(some (@PySem.Value.ref 20)), (some (@PySem.Value.ref 3)), (some (@PySem.Value.ref 17)), none, (some (@PySem.Value.str (Str.ofString "cas.errors") 187)), none, (some (@PySem.Value.ref 0))]))
noncomputable def ob59 (P : Params) : Obj := (@PySem.Obj.mk (@PySem.Value.type "tuple") none (@PySem.Data.seq (List.toArray []) 0) (List.toArray []))
noncomputable def ob60 (P : Params) : Obj := (@PySem.Obj.mk PySem.Value.none none (@PySem.Data.fields (List.toArray [])) (List.toArray []))
noncomputable def ob61 (P : Params) : Obj := (@PySem.Obj.mk (@PySem.Value.type "tuple") none (@PySem.Data.seq (List.toArray [(@PySem.Value.str (Str.ofString "self") 204), (@PySem.Value.str (Str.ofString "kind") 205), (@PySem.Value.str (Str.ofString "text") 206)]) 0) (List.toArray []))
noncomputable def ob62 (P : Params) : Obj := (@PySem.Obj.mk (@PySem.Value.type "tuple") none (@PySem.Data.seq (List.toArray []) 0) (List.toArray []))
noncomputable def ob63 (P : Params) : Obj := (@PySem.Obj.mk PySem.Value.none none (@PySem.Data.func (PySem.FuncData.mk (Str.ofString "__init__") (Str.ofString "CasFail.__init__") fdI.params (.stmts fdI.body) fdI.scope 0 [] PySem.Value.none PySem.Value.none PySem.Value.none PySem.Value.none none PySem.Value.none PySem.Value.none 0)) (List.toArray []))
noncomputable def ob64 (P : Params) : Obj := (@PySem.Obj.mk (@PySem.Value.type "code") none (@PySem.Data.fields (List.toArray [(@PySem.Value.str (Str.ofString "__init__") 201), (@PySem.Value.str (Str.ofString "CasFail.__init__") 202), (@PySem.Value.str (Str.ofString "/claim/cut.py") 203), (@PySem.Value.int (4 : Int) 0), (@PySem.Value.int (3 : Int) 0), (@PySem.Value.int (0 : Int) 0), (@PySem.Value.int (0 : Int) 0), (@PySem.Value.int (3 : Int) 0), (@PySem.Value.ref 22), (@PySem.Value.bool Bool.true), (@PySem.Value.int (181 : Int) 0), (@PySem.Value.ref 23), PySem.Value.none, (@PySem.Value.ref 24), (@PySem.Value.ref 25), (@PySem.Value.ref 26), (@PySem.Value.int (207 : Int) 0), (@PySem.Value.int (4 : Int) 0), (@PySem.Value.str (Str.ofString "/claim/cut.py") 208)])) (List.toArray []))
noncomputable def ob65 (P : Params) : Obj := (@PySem.Obj.mk (@PySem.Value.type "function") none (@PySem.Data.func (PySem.FuncData.mk (Str.ofString "__init__") (Str.ofString "CasFail.__init__") fdI.params (.stmts fdI.body) fdI.scope 3 [] PySem.Value.none PySem.Value.none PySem.Value.none (@PySem.Value.str (Str.ofString "cas.errors") 187) none (@PySem.Value.ref 27) PySem.Value.none 0)) (List.toArray []))
noncomputable def ob66 (P : Params) : Obj := (@PySem.Obj.mk (@PySem.Value.type "tuple") none (@PySem.Data.seq (List.toArray [(@PySem.Value.str (Str.ofString "kind") 210), (@PySem.Value.str (Str.ofString "text") 211)]) 0) (List.toArray []))
noncomputable def ob67 (P : Params) : Obj := (@PySem.Obj.mk (@PySem.Value.type "dict") none (@PySem.Data.dict (List.toArray [(@PySem.DictEntry.mk (@PySem.PyData.keyHash P (Str.ofString "__module__")) (@PySem.Value.str (Str.ofString "__module__") 196) (@PySem.Value.str (Str.ofString "cas.errors") 187)), (@PySem.DictEntry.mk (@PySem.PyData.keyHash P (Str.ofString "__firstlineno__")) (@PySem.Value.str (Str.ofString "__firstlineno__") 200) (@PySem.Value.int (2 : Int) 199)), (@PySem.DictEntry.mk (@PySem.PyData.keyHash P (Str.ofString "__init__")) (@PySem.Value.str (Str.ofString "__init__") 209) (@PySem.Value.ref 28)), (@PySem.DictEntry.mk (@PySem.PyData.keyHash P (Str.ofString "__static_attributes__")) (@PySem.Value.str (Str.ofString "__static_attributes__") 212) (@PySem.Value.ref 29)), (@PySem.DictEntry.mk (@PySem.PyData.keyHash P (Str.ofString "__weakref__")) (@PySem.Value.str (Str.ofString "__weakref__") 214) (@PySem.Value.ref 32)), (@PySem.DictEntry.mk (@PySem.PyData.keyHash P (Str.ofString "__doc__")) (@PySem.Value.str (Str.ofString "__doc__") 215) PySem.Value.none)]) 3) (List.toArray []))
noncomputable def ob68 (P : Params) : Obj := (@PySem.Obj.mk (@PySem.Value.type "type") none (@PySem.Data.cls (@PySem.ClassData.mk (Str.ofString "CasFail") [(@PySem.Value.type "Exception")] [(@PySem.Value.ref 31), (@PySem.Value.type "Exception"), (@PySem.Value.type "BaseException"), (@PySem.Value.type "object")] 30 (Str.ofString "CasFail") Bool.true [] [] Bool.false none Bool.false)) (List.toArray [(some (@PySem.Value.ref 15)), none, (some (@PySem.Value.str (Str.ofString "CasFail") 189)), (some (@PySem.Value.str (Str.ofString "CasFail") 197)), (some (@PySem.Value.builtin "Exception.__new__")), (some (@PySem.Value.bool Bool.true))]))
noncomputable def ob69 (P : Params) : Obj := (@PySem.Obj.mk (@PySem.Value.type "getset_descriptor") none (@PySem.Data.fields (List.toArray [(@PySem.Value.str (Str.ofString "__weakref__") 213), (@PySem.Value.ref 31), (@PySem.Value.builtin "ExceptionGroup.__weakref__"), PySem.Value.none])) (List.toArray []))
noncomputable def ob70 (P : Params) : Obj := (@PySem.Obj.mk (@PySem.Value.type "super") none (@PySem.Data.fields (List.toArray [(@PySem.Value.ref 31), (@PySem.Value.ref 31), (@PySem.Value.ref 31)])) (List.toArray []))
noncomputable def ob71 (P : Params) : Obj := (@PySem.Obj.mk (@PySem.Value.type "builtin_function_or_method") none (@PySem.Data.fields (List.toArray [(@PySem.Value.builtin "object.__init_subclass__"), (@PySem.Value.ref 31)])) (List.toArray []))
noncomputable def ob72 (P : Params) : Obj := (@PySem.Obj.mk (@PySem.Value.type "tuple") none (@PySem.Data.seq (List.toArray []) 0) (List.toArray []))
noncomputable def ob73 (P : Params) : Obj := (@PySem.Obj.mk PySem.Value.none none (@PySem.Data.fields (List.toArray [])) (List.toArray []))
noncomputable def ob74 (P : Params) : Obj := (@PySem.Obj.mk (@PySem.Value.type "tuple") none (@PySem.Data.seq (List.toArray [(@PySem.Value.str (Str.ofString "a") 225), (@PySem.Value.str (Str.ofString "b") 226)]) 0) (List.toArray []))
noncomputable def ob75 (P : Params) : Obj := (@PySem.Obj.mk (@PySem.Value.type "tuple") none (@PySem.Data.seq (List.toArray []) 0) (List.toArray []))
noncomputable def ob76 (P : Params) : Obj := (@PySem.Obj.mk PySem.Value.none none (@PySem.Data.func (PySem.FuncData.mk (Str.ofString "gcd") (Str.ofString "gcd") (fd 3).params (.stmts (fd 3).body) (fd 3).scope 0 [] PySem.Value.none PySem.Value.none PySem.Value.none PySem.Value.none none PySem.Value.none PySem.Value.none 0)) (List.toArray []))
noncomputable def ob77 (P : Params) : Obj := (@PySem.Obj.mk (@PySem.Value.type "code") none (@PySem.Data.fields (List.toArray [(@PySem.Value.str (Str.ofString "gcd") 222), (@PySem.Value.str (Str.ofString "gcd") 223), (@PySem.Value.str (Str.ofString "/claim/cut.py") 224), (@PySem.Value.int (9 : Int) 0), (@PySem.Value.int (2 : Int) 0), (@PySem.Value.int (0 : Int) 0), (@PySem.Value.int (0 : Int) 0), (@PySem.Value.int (3 : Int) 0), (@PySem.Value.ref 35), (@PySem.Value.bool Bool.true), (@PySem.Value.int (181 : Int) 0), (@PySem.Value.ref 36), PySem.Value.none, (@PySem.Value.ref 37), (@PySem.Value.ref 38), (@PySem.Value.ref 39), (@PySem.Value.int (227 : Int) 0), (@PySem.Value.int (9 : Int) 0), (@PySem.Value.str (Str.ofString "/claim/cut.py") 228)])) (List.toArray []))
noncomputable def ob78 (P : Params) : Obj := (@PySem.Obj.mk (@PySem.Value.type "function") none (@PySem.Data.func (PySem.FuncData.mk (Str.ofString "gcd") (Str.ofString "gcd") (fd 3).params (.stmts (fd 3).body) (fd 3).scope 3 [] PySem.Value.none PySem.Value.none PySem.Value.none (@PySem.Value.str (Str.ofString "cas.ints") 220) none (@PySem.Value.ref 40) PySem.Value.none 0)) (List.toArray []))
noncomputable def ob79 (P : Params) : Obj := (@PySem.Obj.mk (@PySem.Value.type "tuple") none (@PySem.Data.seq (List.toArray [(@PySem.Value.int (0 : Int) 232), (@PySem.Value.int (1 : Int) 233)]) 0) (List.toArray []))
noncomputable def ob80 (P : Params) : Obj := (@PySem.Obj.mk (@PySem.Value.type "tuple") none (@PySem.Data.seq (List.toArray [(@PySem.Value.int (1 : Int) 235), (@PySem.Value.int (1 : Int) 236)]) 0) (List.toArray []))
noncomputable def ob81 (P : Params) : Obj := (@PySem.Obj.mk (@PySem.Value.type "tuple") none (@PySem.Data.seq (List.toArray []) 0) (List.toArray []))
noncomputable def ob82 (P : Params) : Obj := (@PySem.Obj.mk PySem.Value.none none (@PySem.Data.fields (List.toArray [])) (List.toArray []))
noncomputable def ob83 (P : Params) : Obj := (@PySem.Obj.mk (@PySem.Value.type "tuple") none (@PySem.Data.seq (List.toArray [(@PySem.Value.str (Str.ofString "top") 241), (@PySem.Value.str (Str.ofString "bottom") 242), (@PySem.Value.str (Str.ofString "g") 243)]) 0) (List.toArray []))
noncomputable def ob84 (P : Params) : Obj := (@PySem.Obj.mk (@PySem.Value.type "tuple") none (@PySem.Data.seq (List.toArray []) 0) (List.toArray []))
noncomputable def ob85 (P : Params) : Obj := (@PySem.Obj.mk PySem.Value.none none (@PySem.Data.func (PySem.FuncData.mk (Str.ofString "rat") (Str.ofString "rat") (fd 7).params (.stmts (fd 7).body) (fd 7).scope 0 [] PySem.Value.none PySem.Value.none PySem.Value.none PySem.Value.none none PySem.Value.none PySem.Value.none 0)) (List.toArray []))
noncomputable def ob86 (P : Params) : Obj := (@PySem.Obj.mk (@PySem.Value.type "code") none (@PySem.Data.fields (List.toArray [(@PySem.Value.str (Str.ofString "rat") 238), (@PySem.Value.str (Str.ofString "rat") 239), (@PySem.Value.str (Str.ofString "/claim/cut.py") 240), (@PySem.Value.int (17 : Int) 0), (@PySem.Value.int (2 : Int) 0), (@PySem.Value.int (0 : Int) 0), (@PySem.Value.int (0 : Int) 0), (@PySem.Value.int (3 : Int) 0), (@PySem.Value.ref 44), (@PySem.Value.bool Bool.true), (@PySem.Value.int (181 : Int) 0), (@PySem.Value.ref 45), PySem.Value.none, (@PySem.Value.ref 46), (@PySem.Value.ref 47), (@PySem.Value.ref 48), (@PySem.Value.int (244 : Int) 0), (@PySem.Value.int (17 : Int) 0), (@PySem.Value.str (Str.ofString "/claim/cut.py") 245)])) (List.toArray []))
noncomputable def ob87 (P : Params) : Obj := (@PySem.Obj.mk (@PySem.Value.type "function") none (@PySem.Data.func (PySem.FuncData.mk (Str.ofString "rat") (Str.ofString "rat") (fd 7).params (.stmts (fd 7).body) (fd 7).scope 3 [] PySem.Value.none PySem.Value.none PySem.Value.none (@PySem.Value.str (Str.ofString "cas.rats") 230) none (@PySem.Value.ref 49) PySem.Value.none 0)) (List.toArray []))
noncomputable def ob88 (P : Params) : Obj := (@PySem.Obj.mk (@PySem.Value.type "tuple") none (@PySem.Data.seq (List.toArray []) 0) (List.toArray []))
noncomputable def ob89 (P : Params) : Obj := (@PySem.Obj.mk PySem.Value.none none (@PySem.Data.fields (List.toArray [])) (List.toArray []))
noncomputable def ob90 (P : Params) : Obj := (@PySem.Obj.mk (@PySem.Value.type "tuple") none (@PySem.Data.seq (List.toArray [(@PySem.Value.str (Str.ofString "a") 250), (@PySem.Value.str (Str.ofString "b") 251)]) 0) (List.toArray []))
noncomputable def ob91 (P : Params) : Obj := (@PySem.Obj.mk (@PySem.Value.type "tuple") none (@PySem.Data.seq (List.toArray []) 0) (List.toArray []))
noncomputable def ob92 (P : Params) : Obj := (@PySem.Obj.mk PySem.Value.none none (@PySem.Data.func (PySem.FuncData.mk (Str.ofString "radd") (Str.ofString "radd") (fd 8).params (.stmts (fd 8).body) (fd 8).scope 0 [] PySem.Value.none PySem.Value.none PySem.Value.none PySem.Value.none none PySem.Value.none PySem.Value.none 0)) (List.toArray []))
noncomputable def ob93 (P : Params) : Obj := (@PySem.Obj.mk (@PySem.Value.type "code") none (@PySem.Data.fields (List.toArray [(@PySem.Value.str (Str.ofString "radd") 247), (@PySem.Value.str (Str.ofString "radd") 248), (@PySem.Value.str (Str.ofString "/claim/cut.py") 249), (@PySem.Value.int (22 : Int) 0), (@PySem.Value.int (2 : Int) 0), (@PySem.Value.int (0 : Int) 0), (@PySem.Value.int (0 : Int) 0), (@PySem.Value.int (3 : Int) 0), (@PySem.Value.ref 51), (@PySem.Value.bool Bool.true), (@PySem.Value.int (181 : Int) 0), (@PySem.Value.ref 52), PySem.Value.none, (@PySem.Value.ref 53), (@PySem.Value.ref 54), (@PySem.Value.ref 55), (@PySem.Value.int (252 : Int) 0), (@PySem.Value.int (22 : Int) 0), (@PySem.Value.str (Str.ofString "/claim/cut.py") 253)])) (List.toArray []))
noncomputable def ob94 (P : Params) : Obj := (@PySem.Obj.mk (@PySem.Value.type "function") none (@PySem.Data.func (PySem.FuncData.mk (Str.ofString "radd") (Str.ofString "radd") (fd 8).params (.stmts (fd 8).body) (fd 8).scope 3 [] PySem.Value.none PySem.Value.none PySem.Value.none (@PySem.Value.str (Str.ofString "cas.rats") 230) none (@PySem.Value.ref 56) PySem.Value.none 0)) (List.toArray []))
noncomputable def ob95 (P : Params) : Obj := (@PySem.Obj.mk (@PySem.Value.type "dict") none (@PySem.Data.dict (List.toArray [(@PySem.DictEntry.mk (@PySem.PyData.keyHash P (Str.ofString "__name__")) (@PySem.Value.str (Str.ofString "__name__") 165) (@PySem.Value.str (Str.ofString "cas.mat") 286)), (@PySem.DictEntry.mk (@PySem.PyData.keyHash P (Str.ofString "__doc__")) (@PySem.Value.str (Str.ofString "__doc__") 166) PySem.Value.none), (@PySem.DictEntry.mk (@PySem.PyData.keyHash P (Str.ofString "__package__")) (@PySem.Value.str (Str.ofString "__package__") 167) PySem.Value.none), (@PySem.DictEntry.mk (@PySem.PyData.keyHash P (Str.ofString "__loader__")) (@PySem.Value.str (Str.ofString "__loader__") 168) (@PySem.Value.builtin "__main__.__loader__#opaque")), (@PySem.DictEntry.mk (@PySem.PyData.keyHash P (Str.ofString "__spec__")) (@PySem.Value.str (Str.ofString "__spec__") 169) PySem.Value.none), (@PySem.DictEntry.mk (@PySem.PyData.keyHash P (Str.ofString "__annotations__")) (@PySem.Value.str (Str.ofString "__annotations__") 170) (@PySem.Value.ref 6)), (@PySem.DictEntry.mk (@PySem.PyData.keyHash P (Str.ofString "__builtins__")) (@PySem.Value.str (Str.ofString "__builtins__") 171) (@PySem.Value.ref 4)), (@PySem.DictEntry.mk (@PySem.PyData.keyHash P (Str.ofString "__file__")) (@PySem.Value.str (Str.ofString "__file__") 173) (@PySem.Value.str (Str.ofString "/claim/cut.py") 172)), (@PySem.DictEntry.mk (@PySem.PyData.keyHash P (Str.ofString "__cached__")) (@PySem.Value.str (Str.ofString "__cached__") 174) PySem.Value.none), (@PySem.DictEntry.mk (@PySem.PyData.keyHash P (Str.ofString "CasFail")) (@PySem.Value.str (Str.ofString "CasFail") 219) (@PySem.Value.ref 31)), (@PySem.DictEntry.mk (@PySem.PyData.keyHash P (Str.ofString "gcd")) (@PySem.Value.str (Str.ofString "gcd") 229) (@PySem.Value.ref 41)), (@PySem.DictEntry.mk (@PySem.PyData.keyHash P (Str.ofString "R0")) (@PySem.Value.str (Str.ofString "R0") 234) (@PySem.Value.ref 42)), (@PySem.DictEntry.mk (@PySem.PyData.keyHash P (Str.ofString "R1")) (@PySem.Value.str (Str.ofString "R1") 237) (@PySem.Value.ref 43)), (@PySem.DictEntry.mk (@PySem.PyData.keyHash P (Str.ofString "rat")) (@PySem.Value.str (Str.ofString "rat") 246) (@PySem.Value.ref 50)), (@PySem.DictEntry.mk (@PySem.PyData.keyHash P (Str.ofString "radd")) (@PySem.Value.str (Str.ofString "radd") 254) (@PySem.Value.ref 57)), (@PySem.DictEntry.mk (@PySem.PyData.keyHash P (Str.ofString "rsub")) (@PySem.Value.str (Str.ofString "rsub") 262) (@PySem.Value.ref 64)), (@PySem.DictEntry.mk (@PySem.PyData.keyHash P (Str.ofString "rmul")) (@PySem.Value.str (Str.ofString "rmul") 270) (@PySem.Value.ref 71)), (@PySem.DictEntry.mk (@PySem.PyData.keyHash P (Str.ofString "rdiv")) (@PySem.Value.str (Str.ofString "rdiv") 278) (@PySem.Value.ref 78)), (@PySem.DictEntry.mk (@PySem.PyData.keyHash P (Str.ofString "rneg")) (@PySem.Value.str (Str.ofString "rneg") 285) (@PySem.Value.ref 85)), (@PySem.DictEntry.mk (@PySem.PyData.keyHash P (Str.ofString "shape")) (@PySem.Value.str (Str.ofString "shape") 294) (@PySem.Value.ref 92)), (@PySem.DictEntry.mk (@PySem.PyData.keyHash P (Str.ofString "need_shape")) (@PySem.Value.str (Str.ofString "need_shape") 302) (@PySem.Value.ref 99)), (@PySem.DictEntry.mk (@PySem.PyData.keyHash P (Str.ofString "copied")) (@PySem.Value.str (Str.ofString "copied") 308) (@PySem.Value.ref 104)), (@PySem.DictEntry.mk (@PySem.PyData.keyHash P (Str.ofString "from_whole")) (@PySem.Value.str (Str.ofString "from_whole") 314) (@PySem.Value.ref 109)), (@PySem.DictEntry.mk (@PySem.PyData.keyHash P (Str.ofString "unit_matrix")) (@PySem.Value.str (Str.ofString "unit_matrix") 320) (@PySem.Value.ref 114)), (@PySem.DictEntry.mk (@PySem.PyData.keyHash P (Str.ofString "transposed")) (@PySem.Value.str (Str.ofString "transposed") 326) (@PySem.Value.ref 119)), (@PySem.DictEntry.mk (@PySem.PyData.keyHash P (Str.ofString "dot")) (@PySem.Value.str (Str.ofString "dot") 337) (@PySem.Value.ref 126)), (@PySem.DictEntry.mk (@PySem.PyData.keyHash P (Str.ofString "mat_add")) (@PySem.Value.str (Str.ofString "mat_add") 343) (@PySem.Value.ref 131)), (@PySem.DictEntry.mk (@PySem.PyData.keyHash P (Str.ofString "mat_scale")) (@PySem.Value.str (Str.ofString "mat_scale") 349) (@PySem.Value.ref 136))]) 28) (List.toArray []))
noncomputable def ob96 (P : Params) : Obj := (@PySem.Obj.mk PySem.Value.none none (@PySem.Data.fields (List.toArray [(@PySem.Value.int (2 : Int) 0), (@PySem.Value.int (0 : Int) 0), (@PySem.Value.ref 20), (@PySem.Value.int (9 : Int) 0), (@PySem.Value.int (0 : Int) 0), (@PySem.Value.ref 40), (@PySem.Value.int (17 : Int) 0), (@PySem.Value.int (0 : Int) 0), (@PySem.Value.ref 49), (@PySem.Value.int (22 : Int) 0), (@PySem.Value.int (0 : Int) 0), (@PySem.Value.ref 56), (@PySem.Value.int (24 : Int) 0), (@PySem.Value.int (0 : Int) 0), (@PySem.Value.ref 63), (@PySem.Value.int (26 : Int) 0), (@PySem.Value.int (0 : Int) 0), (@PySem.Value.ref 70), (@PySem.Value.int (28 : Int) 0), (@PySem.Value.int (0 : Int) 0), (@PySem.Value.ref 77), (@PySem.Value.int (30 : Int) 0), (@PySem.Value.int (0 : Int) 0), (@PySem.Value.ref 84), (@PySem.Value.int (33 : Int) 0), (@PySem.Value.int (0 : Int) 0), (@PySem.Value.ref 91), (@PySem.Value.int (35 : Int) 0), (@PySem.Value.int (0 : Int) 0), (@PySem.Value.ref 98), (@PySem.Value.int (38 : Int) 0), (@PySem.Value.int (0 : Int) 0), (@PySem.Value.ref 103), (@PySem.Value.int (40 : Int) 0), (@PySem.Value.int (0 : Int) 0), (@PySem.Value.ref 108), (@PySem.Value.int (42 : Int) 0), (@PySem.Value.int (0 : Int) 0), (@PySem.Value.ref 113), (@PySem.Value.int (44 : Int) 0), (@PySem.Value.int (0 : Int) 0), (@PySem.Value.ref 118), (@PySem.Value.int (46 : Int) 0), (@PySem.Value.int (0 : Int) 0), (@PySem.Value.ref 125), (@PySem.Value.int (51 : Int) 0), (@PySem.Value.int (0 : Int) 0), (@PySem.Value.ref 130), (@PySem.Value.int (54 : Int) 0), (@PySem.Value.int (0 : Int) 0), (@PySem.Value.ref 135)])) (List.toArray []))
noncomputable def ob97 (P : Params) : Obj := (@PySem.Obj.mk (@PySem.Value.type "tuple") none (@PySem.Data.seq (List.toArray []) 0) (List.toArray []))
noncomputable def ob98 (P : Params) : Obj := (@PySem.Obj.mk PySem.Value.none none (@PySem.Data.fields (List.toArray [])) (List.toArray []))
noncomputable def ob99 (P : Params) : Obj := (@PySem.Obj.mk (@PySem.Value.type "tuple") none (@PySem.Data.seq (List.toArray [(@PySem.Value.str (Str.ofString "a") 258), (@PySem.Value.str (Str.ofString "b") 259)]) 0) (List.toArray []))
noncomputable def ob100 (P : Params) : Obj := (@PySem.Obj.mk (@PySem.Value.type "tuple") none (@PySem.Data.seq (List.toArray []) 0) (List.toArray []))
noncomputable def ob101 (P : Params) : Obj := (@PySem.Obj.mk PySem.Value.none none (@PySem.Data.func (PySem.FuncData.mk (Str.ofString "rsub") (Str.ofString "rsub") (fd 9).params (.stmts (fd 9).body) (fd 9).scope 0 [] PySem.Value.none PySem.Value.none PySem.Value.none PySem.Value.none none PySem.Value.none PySem.Value.none 0)) (List.toArray []))
noncomputable def ob102 (P : Params) : Obj := (@PySem.Obj.mk (@PySem.Value.type "code") none (@PySem.Data.fields (List.toArray [(@PySem.Value.str (Str.ofString "rsub") 255), (@PySem.Value.str (Str.ofString "rsub") 256), (@PySem.Value.str (Str.ofString "/claim/cut.py") 257), (@PySem.Value.int (24 : Int) 0), (@PySem.Value.int (2 : Int) 0), (@PySem.Value.int (0 : Int) 0), (@PySem.Value.int (0 : Int) 0), (@PySem.Value.int (3 : Int) 0), (@PySem.Value.ref 58), (@PySem.Value.bool Bool.true), (@PySem.Value.int (181 : Int) 0), (@PySem.Value.ref 59), PySem.Value.none, (@PySem.Value.ref 60), (@PySem.Value.ref 61), (@PySem.Value.ref 62), (@PySem.Value.int (260 : Int) 0), (@PySem.Value.int (24 : Int) 0), (@PySem.Value.str (Str.ofString "/claim/cut.py") 261)])) (List.toArray []))
noncomputable def ob103 (P : Params) : Obj := (@PySem.Obj.mk (@PySem.Value.type "function") none (@PySem.Data.func (PySem.FuncData.mk (Str.ofString "rsub") (Str.ofString "rsub") (fd 9).params (.stmts (fd 9).body) (fd 9).scope 3 [] PySem.Value.none PySem.Value.none PySem.Value.none (@PySem.Value.str (Str.ofString "cas.rats") 230) none (@PySem.Value.ref 63) PySem.Value.none 0)) (List.toArray []))
noncomputable def ob104 (P : Params) : Obj := (@PySem.Obj.mk (@PySem.Value.type "tuple") none (@PySem.Data.seq (List.toArray []) 0) (List.toArray []))
noncomputable def ob105 (P : Params) : Obj := (@PySem.Obj.mk PySem.Value.none none (@PySem.Data.fields (List.toArray [])) (List.toArray []))
noncomputable def ob106 (P : Params) : Obj := (@PySem.Obj.mk (@PySem.Value.type "tuple") none (@PySem.Data.seq (List.toArray [(@PySem.Value.str (Str.ofString "a") 266), (@PySem.Value.str (Str.ofString "b") 267)]) 0) (List.toArray []))
noncomputable def ob107 (P : Params) : Obj := (@PySem.Obj.mk (@PySem.Value.type "tuple") none (@PySem.Data.seq (List.toArray []) 0) (List.toArray []))
noncomputable def ob108 (P : Params) : Obj := (@PySem.Obj.mk PySem.Value.none none (@PySem.Data.func (PySem.FuncData.mk (Str.ofString "rmul") (Str.ofString "rmul") (fd 10).params (.stmts (fd 10).body) (fd 10).scope 0 [] PySem.Value.none PySem.Value.none PySem.Value.none PySem.Value.none none PySem.Value.none PySem.Value.none 0)) (List.toArray []))
noncomputable def ob109 (P : Params) : Obj := (@PySem.Obj.mk (@PySem.Value.type "code") none (@PySem.Data.fields (List.toArray [(@PySem.Value.str (Str.ofString "rmul") 263), (@PySem.Value.str (Str.ofString "rmul") 264), (@PySem.Value.str (Str.ofString "/claim/cut.py") 265), (@PySem.Value.int (26 : Int) 0), (@PySem.Value.int (2 : Int) 0), (@PySem.Value.int (0 : Int) 0), (@PySem.Value.int (0 : Int) 0), (@PySem.Value.int (3 : Int) 0), (@PySem.Value.ref 65), (@PySem.Value.bool Bool.true), (@PySem.Value.int (181 : Int) 0), (@PySem.Value.ref 66), PySem.Value.none, (@PySem.Value.ref 67), (@PySem.Value.ref 68), (@PySem.Value.ref 69), (@PySem.Value.int (268 : Int) 0), (@PySem.Value.int (26 : Int) 0), (@PySem.Value.str (Str.ofString "/claim/cut.py") 269)])) (List.toArray []))
noncomputable def ob110 (P : Params) : Obj := (@PySem.Obj.mk (@PySem.Value.type "function") none (@PySem.Data.func (PySem.FuncData.mk (Str.ofString "rmul") (Str.ofString "rmul") (fd 10).params (.stmts (fd 10).body) (fd 10).scope 3 [] PySem.Value.none PySem.Value.none PySem.Value.none (@PySem.Value.str (Str.ofString "cas.rats") 230) none (@PySem.Value.ref 70) PySem.Value.none 0)) (List.toArray []))
noncomputable def ob111 (P : Params) : Obj := (@PySem.Obj.mk (@PySem.Value.type "tuple") none (@PySem.Data.seq (List.toArray []) 0) (List.toArray []))
noncomputable def ob112 (P : Params) : Obj := (@PySem.Obj.mk PySem.Value.none none (@PySem.Data.fields (List.toArray [])) (List.toArray []))
noncomputable def ob113 (P : Params) : Obj := (@PySem.Obj.mk (@PySem.Value.type "tuple") none (@PySem.Data.seq (List.toArray [(@PySem.Value.str (Str.ofString "a") 274), (@PySem.Value.str (Str.ofString "b") 275)]) 0) (List.toArray []))
noncomputable def ob114 (P : Params) : Obj := (@PySem.Obj.mk (@PySem.Value.type "tuple") none (@PySem.Data.seq (List.toArray []) 0) (List.toArray []))
noncomputable def ob115 (P : Params) : Obj := (@PySem.Obj.mk PySem.Value.none none (@PySem.Data.func (PySem.FuncData.mk (Str.ofString "rdiv") (Str.ofString "rdiv") (fd 11).params (.stmts (fd 11).body) (fd 11).scope 0 [] PySem.Value.none PySem.Value.none PySem.Value.none PySem.Value.none none PySem.Value.none PySem.Value.none 0)) (List.toArray []))
noncomputable def ob116 (P : Params) : Obj := (@PySem.Obj.mk (@PySem.Value.type "code") none (@PySem.Data.fields (List.toArray [(@PySem.Value.str (Str.ofString "rdiv") 271), (@PySem.Value.str (Str.ofString "rdiv") 272), (@PySem.Value.str (Str.ofString "/claim/cut.py") 273), (@PySem.Value.int (28 : Int) 0), (@PySem.Value.int (2 : Int) 0), (@PySem.Value.int (0 : Int) 0), (@PySem.Value.int (0 : Int) 0), (@PySem.Value.int (3 : Int) 0), (@PySem.Value.ref 72), (@PySem.Value.bool Bool.true), (@PySem.Value.int (181 : Int) 0), (@PySem.Value.ref 73), PySem.Value.none, (@PySem.Value.ref 74), (@PySem.Value.ref 75), (@PySem.Value.ref 76), (@PySem.Value.int (276 : Int) 0), (@PySem.Value.int (28 : Int) 0), (@PySem.Value.str (Str.ofString "/claim/cut.py") 277)])) (List.toArray []))
noncomputable def ob117 (P : Params) : Obj := (@PySem.Obj.mk (@PySem.Value.type "function") none (@PySem.Data.func (PySem.FuncData.mk (Str.ofString "rdiv") (Str.ofString "rdiv") (fd 11).params (.stmts (fd 11).body) (fd 11).scope 3 [] PySem.Value.none PySem.Value.none PySem.Value.none (@PySem.Value.str (Str.ofString "cas.rats") 230) none (@PySem.Value.ref 77) PySem.Value.none 0)) (List.toArray []))
noncomputable def ob118 (P : Params) : Obj := (@PySem.Obj.mk (@PySem.Value.type "tuple") none (@PySem.Data.seq (List.toArray []) 0) (List.toArray []))
noncomputable def ob119 (P : Params) : Obj := (@PySem.Obj.mk PySem.Value.none none (@PySem.Data.fields (List.toArray [])) (List.toArray []))
noncomputable def ob120 (P : Params) : Obj := (@PySem.Obj.mk (@PySem.Value.type "tuple") none (@PySem.Data.seq (List.toArray [(@PySem.Value.str (Str.ofString "a") 282)]) 0) (List.toArray []))
noncomputable def ob121 (P : Params) : Obj := (@PySem.Obj.mk (@PySem.Value.type "tuple") none (@PySem.Data.seq (List.toArray []) 0) (List.toArray []))
noncomputable def ob122 (P : Params) : Obj := (@PySem.Obj.mk PySem.Value.none none (@PySem.Data.func (PySem.FuncData.mk (Str.ofString "rneg") (Str.ofString "rneg") (fd 12).params (.stmts (fd 12).body) (fd 12).scope 0 [] PySem.Value.none PySem.Value.none PySem.Value.none PySem.Value.none none PySem.Value.none PySem.Value.none 0)) (List.toArray []))
noncomputable def ob123 (P : Params) : Obj := (@PySem.Obj.mk (@PySem.Value.type "code") none (@PySem.Data.fields (List.toArray [(@PySem.Value.str (Str.ofString "rneg") 279), (@PySem.Value.str (Str.ofString "rneg") 280), (@PySem.Value.str (Str.ofString "/claim/cut.py") 281), (@PySem.Value.int (30 : Int) 0), (@PySem.Value.int (1 : Int) 0), (@PySem.Value.int (0 : Int) 0), (@PySem.Value.int (0 : Int) 0), (@PySem.Value.int (3 : Int) 0), (@PySem.Value.ref 79), (@PySem.Value.bool Bool.true), (@PySem.Value.int (181 : Int) 0), (@PySem.Value.ref 80), PySem.Value.none, (@PySem.Value.ref 81), (@PySem.Value.ref 82), (@PySem.Value.ref 83), (@PySem.Value.int (283 : Int) 0), (@PySem.Value.int (30 : Int) 0), (@PySem.Value.str (Str.ofString "/claim/cut.py") 284)])) (List.toArray []))
noncomputable def ob124 (P : Params) : Obj := (@PySem.Obj.mk (@PySem.Value.type "function") none (@PySem.Data.func (PySem.FuncData.mk (Str.ofString "rneg") (Str.ofString "rneg") (fd 12).params (.stmts (fd 12).body) (fd 12).scope 3 [] PySem.Value.none PySem.Value.none PySem.Value.none (@PySem.Value.str (Str.ofString "cas.rats") 230) none (@PySem.Value.ref 84) PySem.Value.none 0)) (List.toArray []))
noncomputable def ob125 (P : Params) : Obj := (@PySem.Obj.mk (@PySem.Value.type "tuple") none (@PySem.Data.seq (List.toArray []) 0) (List.toArray []))
noncomputable def ob126 (P : Params) : Obj := (@PySem.Obj.mk PySem.Value.none none (@PySem.Data.fields (List.toArray [])) (List.toArray []))
noncomputable def ob127 (P : Params) : Obj := (@PySem.Obj.mk (@PySem.Value.type "tuple") none (@PySem.Data.seq (List.toArray [(@PySem.Value.str (Str.ofString "a") 291)]) 0) (List.toArray []))
noncomputable def ob128 (P : Params) : Obj := (@PySem.Obj.mk (@PySem.Value.type "tuple") none (@PySem.Data.seq (List.toArray []) 0) (List.toArray []))
noncomputable def ob129 (P : Params) : Obj := (@PySem.Obj.mk PySem.Value.none none (@PySem.Data.func (PySem.FuncData.mk (Str.ofString "shape") (Str.ofString "shape") (fd 14).params (.stmts (fd 14).body) (fd 14).scope 0 [] PySem.Value.none PySem.Value.none PySem.Value.none PySem.Value.none none PySem.Value.none PySem.Value.none 0)) (List.toArray []))
noncomputable def ob130 (P : Params) : Obj := (@PySem.Obj.mk (@PySem.Value.type "code") none (@PySem.Data.fields (List.toArray [(@PySem.Value.str (Str.ofString "shape") 288), (@PySem.Value.str (Str.ofString "shape") 289), (@PySem.Value.str (Str.ofString "/claim/cut.py") 290), (@PySem.Value.int (33 : Int) 0), (@PySem.Value.int (1 : Int) 0), (@PySem.Value.int (0 : Int) 0), (@PySem.Value.int (0 : Int) 0), (@PySem.Value.int (3 : Int) 0), (@PySem.Value.ref 86), (@PySem.Value.bool Bool.true), (@PySem.Value.int (181 : Int) 0), (@PySem.Value.ref 87), PySem.Value.none, (@PySem.Value.ref 88), (@PySem.Value.ref 89), (@PySem.Value.ref 90), (@PySem.Value.int (292 : Int) 0), (@PySem.Value.int (33 : Int) 0), (@PySem.Value.str (Str.ofString "/claim/cut.py") 293)])) (List.toArray []))
noncomputable def ob131 (P : Params) : Obj := (@PySem.Obj.mk (@PySem.Value.type "function") none (@PySem.Data.func (PySem.FuncData.mk (Str.ofString "shape") (Str.ofString "shape") (fd 14).params (.stmts (fd 14).body) (fd 14).scope 3 [] PySem.Value.none PySem.Value.none PySem.Value.none (@PySem.Value.str (Str.ofString "cas.mat") 286) none (@PySem.Value.ref 91) PySem.Value.none 0)) (List.toArray []))
noncomputable def ob132 (P : Params) : Obj := (@PySem.Obj.mk (@PySem.Value.type "tuple") none (@PySem.Data.seq (List.toArray []) 0) (List.toArray []))
noncomputable def ob133 (P : Params) : Obj := (@PySem.Obj.mk PySem.Value.none none (@PySem.Data.fields (List.toArray [])) (List.toArray []))
noncomputable def ob134 (P : Params) : Obj := (@PySem.Obj.mk (@PySem.Value.type "tuple") none (@PySem.Data.seq (List.toArray [(@PySem.Value.str (Str.ofString "is_right") 298), (@PySem.Value.str (Str.ofString "text") 299)]) 0) (List.toArray []))
noncomputable def ob135 (P : Params) : Obj := (@PySem.Obj.mk (@PySem.Value.type "tuple") none (@PySem.Data.seq (List.toArray []) 0) (List.toArray []))
noncomputable def ob136 (P : Params) : Obj := (@PySem.Obj.mk PySem.Value.none none (@PySem.Data.func (PySem.FuncData.mk (Str.ofString "need_shape") (Str.ofString "need_shape") (fd 15).params (.stmts (fd 15).body) (fd 15).scope 0 [] PySem.Value.none PySem.Value.none PySem.Value.none PySem.Value.none none PySem.Value.none PySem.Value.none 0)) (List.toArray []))
noncomputable def ob137 (P : Params) : Obj := (@PySem.Obj.mk (@PySem.Value.type "code") none (@PySem.Data.fields (List.toArray [(@PySem.Value.str (Str.ofString "need_shape") 295), (@PySem.Value.str (Str.ofString "need_shape") 296), (@PySem.Value.str (Str.ofString "/claim/cut.py") 297), (@PySem.Value.int (35 : Int) 0), (@PySem.Value.int (2 : Int) 0), (@PySem.Value.int (0 : Int) 0), (@PySem.Value.int (0 : Int) 0), (@PySem.Value.int (3 : Int) 0), (@PySem.Value.ref 93), (@PySem.Value.bool Bool.true), (@PySem.Value.int (181 : Int) 0), (@PySem.Value.ref 94), PySem.Value.none, (@PySem.Value.ref 95), (@PySem.Value.ref 96), (@PySem.Value.ref 97), (@PySem.Value.int (300 : Int) 0), (@PySem.Value.int (35 : Int) 0), (@PySem.Value.str (Str.ofString "/claim/cut.py") 301)])) (List.toArray []))
noncomputable def ob138 (P : Params) : Obj := (@PySem.Obj.mk (@PySem.Value.type "function") none (@PySem.Data.func (PySem.FuncData.mk (Str.ofString "need_shape") (Str.ofString "need_shape") (fd 15).params (.stmts (fd 15).body) (fd 15).scope 3 [] PySem.Value.none PySem.Value.none PySem.Value.none (@PySem.Value.str (Str.ofString "cas.mat") 286) none (@PySem.Value.ref 98) PySem.Value.none 0)) (List.toArray []))
noncomputable def ob139 (P : Params) : Obj := (@PySem.Obj.mk (@PySem.Value.type "tuple") none (@PySem.Data.seq (List.toArray []) 0) (List.toArray []))
noncomputable def ob140 (P : Params) : Obj := (@PySem.Obj.mk PySem.Value.none none (@PySem.Data.fields (List.toArray [])) (List.toArray []))
noncomputable def ob141 (P : Params) : Obj := (@PySem.Obj.mk PySem.Value.none none (@PySem.Data.func (PySem.FuncData.mk (Str.ofString "copied") (Str.ofString "copied") (fd 16).params (.stmts (fd 16).body) (fd 16).scope 0 [] PySem.Value.none PySem.Value.none PySem.Value.none PySem.Value.none none PySem.Value.none PySem.Value.none 0)) (List.toArray []))
noncomputable def ob142 (P : Params) : Obj := (@PySem.Obj.mk (@PySem.Value.type "code") none (@PySem.Data.fields (List.toArray [(@PySem.Value.str (Str.ofString "copied") 303), (@PySem.Value.str (Str.ofString "copied") 304), (@PySem.Value.str (Str.ofString "/claim/cut.py") 305), (@PySem.Value.int (38 : Int) 0), (@PySem.Value.int (1 : Int) 0), (@PySem.Value.int (0 : Int) 0), (@PySem.Value.int (0 : Int) 0), (@PySem.Value.int (3 : Int) 0), (@PySem.Value.ref 100), (@PySem.Value.bool Bool.true), (@PySem.Value.int (181 : Int) 0), (@PySem.Value.ref 101), PySem.Value.none, PySem.Value.none, PySem.Value.none, (@PySem.Value.ref 102), (@PySem.Value.int (306 : Int) 0), (@PySem.Value.int (38 : Int) 0), (@PySem.Value.str (Str.ofString "/claim/cut.py") 307)])) (List.toArray []))
noncomputable def ob143 (P : Params) : Obj := (@PySem.Obj.mk (@PySem.Value.type "function") none (@PySem.Data.func (PySem.FuncData.mk (Str.ofString "copied") (Str.ofString "copied") (fd 16).params (.stmts (fd 16).body) (fd 16).scope 3 [] PySem.Value.none PySem.Value.none PySem.Value.none (@PySem.Value.str (Str.ofString "cas.mat") 286) none (@PySem.Value.ref 103) PySem.Value.none 0)) (List.toArray []))
noncomputable def ob144 (P : Params) : Obj := (@PySem.Obj.mk (@PySem.Value.type "tuple") none (@PySem.Data.seq (List.toArray []) 0) (List.toArray []))
noncomputable def ob145 (P : Params) : Obj := (@PySem.Obj.mk PySem.Value.none none (@PySem.Data.fields (List.toArray [])) (List.toArray []))
noncomputable def ob146 (P : Params) : Obj := (@PySem.Obj.mk PySem.Value.none none (@PySem.Data.func (PySem.FuncData.mk (Str.ofString "from_whole") (Str.ofString "from_whole") (fd 17).params (.stmts (fd 17).body) (fd 17).scope 0 [] PySem.Value.none PySem.Value.none PySem.Value.none PySem.Value.none none PySem.Value.none PySem.Value.none 0)) (List.toArray []))
noncomputable def ob147 (P : Params) : Obj := (@PySem.Obj.mk (@PySem.Value.type "code") none (@PySem.Data.fields (List.toArray [(@PySem.Value.str (Str.ofString "from_whole") 309), (@PySem.Value.str (Str.ofString "from_whole") 310), (@PySem.Value.str (Str.ofString "/claim/cut.py") 311), (@PySem.Value.int (40 : Int) 0), (@PySem.Value.int (1 : Int) 0), (@PySem.Value.int (0 : Int) 0), (@PySem.Value.int (0 : Int) 0), (@PySem.Value.int (3 : Int) 0), (@PySem.Value.ref 105), (@PySem.Value.bool Bool.true), (@PySem.Value.int (181 : Int) 0), (@PySem.Value.ref 106), PySem.Value.none, PySem.Value.none, PySem.Value.none, (@PySem.Value.ref 107), (@PySem.Value.int (312 : Int) 0), (@PySem.Value.int (40 : Int) 0), (@PySem.Value.str (Str.ofString "/claim/cut.py") 313)])) (List.toArray []))
noncomputable def ob148 (P : Params) : Obj := (@PySem.Obj.mk (@PySem.Value.type "function") none (@PySem.Data.func (PySem.FuncData.mk (Str.ofString "from_whole") (Str.ofString "from_whole") (fd 17).params (.stmts (fd 17).body) (fd 17).scope 3 [] PySem.Value.none PySem.Value.none PySem.Value.none (@PySem.Value.str (Str.ofString "cas.mat") 286) none (@PySem.Value.ref 108) PySem.Value.none 0)) (List.toArray []))
noncomputable def ob149 (P : Params) : Obj := (@PySem.Obj.mk (@PySem.Value.type "tuple") none (@PySem.Data.seq (List.toArray []) 0) (List.toArray []))
noncomputable def ob150 (P : Params) : Obj := (@PySem.Obj.mk PySem.Value.none none (@PySem.Data.fields (List.toArray [])) (List.toArray []))
noncomputable def ob151 (P : Params) : Obj := (@PySem.Obj.mk PySem.Value.none none (@PySem.Data.func (PySem.FuncData.mk (Str.ofString "unit_matrix") (Str.ofString "unit_matrix") (fd 18).params (.stmts (fd 18).body) (fd 18).scope 0 [] PySem.Value.none PySem.Value.none PySem.Value.none PySem.Value.none none PySem.Value.none PySem.Value.none 0)) (List.toArray []))
noncomputable def ob152 (P : Params) : Obj := (@PySem.Obj.mk (@PySem.Value.type "code") none (@PySem.Data.fields (List.toArray [(@PySem.Value.str (Str.ofString "unit_matrix") 315), (@PySem.Value.str (Str.ofString "unit_matrix") 316), (@PySem.Value.str (Str.ofString "/claim/cut.py") 317), (@PySem.Value.int (42 : Int) 0), (@PySem.Value.int (1 : Int) 0), (@PySem.Value.int (0 : Int) 0), (@PySem.Value.int (0 : Int) 0), (@PySem.Value.int (3 : Int) 0), (@PySem.Value.ref 110), (@PySem.Value.bool Bool.true), (@PySem.Value.int (181 : Int) 0), (@PySem.Value.ref 111), PySem.Value.none, PySem.Value.none, PySem.Value.none, (@PySem.Value.ref 112), (@PySem.Value.int (318 : Int) 0), (@PySem.Value.int (42 : Int) 0), (@PySem.Value.str (Str.ofString "/claim/cut.py") 319)])) (List.toArray []))
noncomputable def ob153 (P : Params) : Obj := (@PySem.Obj.mk (@PySem.Value.type "function") none (@PySem.Data.func (PySem.FuncData.mk (Str.ofString "unit_matrix") (Str.ofString "unit_matrix") (fd 18).params (.stmts (fd 18).body) (fd 18).scope 3 [] PySem.Value.none PySem.Value.none PySem.Value.none (@PySem.Value.str (Str.ofString "cas.mat") 286) none (@PySem.Value.ref 113) PySem.Value.none 0)) (List.toArray []))
noncomputable def ob154 (P : Params) : Obj := (@PySem.Obj.mk (@PySem.Value.type "tuple") none (@PySem.Data.seq (List.toArray []) 0) (List.toArray []))
noncomputable def ob155 (P : Params) : Obj := (@PySem.Obj.mk PySem.Value.none none (@PySem.Data.fields (List.toArray [])) (List.toArray []))
noncomputable def ob156 (P : Params) : Obj := (@PySem.Obj.mk PySem.Value.none none (@PySem.Data.func (PySem.FuncData.mk (Str.ofString "transposed") (Str.ofString "transposed") (fd 19).params (.stmts (fd 19).body) (fd 19).scope 0 [] PySem.Value.none PySem.Value.none PySem.Value.none PySem.Value.none none PySem.Value.none PySem.Value.none 0)) (List.toArray []))
noncomputable def ob157 (P : Params) : Obj := (@PySem.Obj.mk (@PySem.Value.type "code") none (@PySem.Data.fields (List.toArray [(@PySem.Value.str (Str.ofString "transposed") 321), (@PySem.Value.str (Str.ofString "transposed") 322), (@PySem.Value.str (Str.ofString "/claim/cut.py") 323), (@PySem.Value.int (44 : Int) 0), (@PySem.Value.int (1 : Int) 0), (@PySem.Value.int (0 : Int) 0), (@PySem.Value.int (0 : Int) 0), (@PySem.Value.int (3 : Int) 0), (@PySem.Value.ref 115), (@PySem.Value.bool Bool.true), (@PySem.Value.int (181 : Int) 0), (@PySem.Value.ref 116), PySem.Value.none, PySem.Value.none, PySem.Value.none, (@PySem.Value.ref 117), (@PySem.Value.int (324 : Int) 0), (@PySem.Value.int (44 : Int) 0), (@PySem.Value.str (Str.ofString "/claim/cut.py") 325)])) (List.toArray []))
noncomputable def ob158 (P : Params) : Obj := (@PySem.Obj.mk (@PySem.Value.type "function") none (@PySem.Data.func (PySem.FuncData.mk (Str.ofString "transposed") (Str.ofString "transposed") (fd 19).params (.stmts (fd 19).body) (fd 19).scope 3 [] PySem.Value.none PySem.Value.none PySem.Value.none (@PySem.Value.str (Str.ofString "cas.mat") 286) none (@PySem.Value.ref 118) PySem.Value.none 0)) (List.toArray []))
noncomputable def ob159 (P : Params) : Obj := (@PySem.Obj.mk (@PySem.Value.type "tuple") none (@PySem.Data.seq (List.toArray []) 0) (List.toArray []))
noncomputable def ob160 (P : Params) : Obj := (@PySem.Obj.mk PySem.Value.none none (@PySem.Data.fields (List.toArray [])) (List.toArray []))
noncomputable def ob161 (P : Params) : Obj := (@PySem.Obj.mk (@PySem.Value.type "tuple") none (@PySem.Data.seq (List.toArray [(@PySem.Value.str (Str.ofString "one") 330), (@PySem.Value.str (Str.ofString "other") 331), (@PySem.Value.str (Str.ofString "found") 332), (@PySem.Value.str (Str.ofString "at") 333), (@PySem.Value.str (Str.ofString "left") 334)]) 0) (List.toArray []))
noncomputable def ob162 (P : Params) : Obj := (@PySem.Obj.mk (@PySem.Value.type "tuple") none (@PySem.Data.seq (List.toArray []) 0) (List.toArray []))
noncomputable def ob163 (P : Params) : Obj := (@PySem.Obj.mk PySem.Value.none none (@PySem.Data.func (PySem.FuncData.mk (Str.ofString "dot") (Str.ofString "dot") (fd 20).params (.stmts (fd 20).body) (fd 20).scope 0 [] PySem.Value.none PySem.Value.none PySem.Value.none PySem.Value.none none PySem.Value.none PySem.Value.none 0)) (List.toArray []))
noncomputable def ob164 (P : Params) : Obj := (@PySem.Obj.mk (@PySem.Value.type "code") none (@PySem.Data.fields (List.toArray [(@PySem.Value.str (Str.ofString "dot") 327), (@PySem.Value.str (Str.ofString "dot") 328), (@PySem.Value.str (Str.ofString "/claim/cut.py") 329), (@PySem.Value.int (46 : Int) 0), (@PySem.Value.int (2 : Int) 0), (@PySem.Value.int (0 : Int) 0), (@PySem.Value.int (0 : Int) 0), (@PySem.Value.int (3 : Int) 0), (@PySem.Value.ref 120), (@PySem.Value.bool Bool.true), (@PySem.Value.int (181 : Int) 0), (@PySem.Value.ref 121), PySem.Value.none, (@PySem.Value.ref 122), (@PySem.Value.ref 123), (@PySem.Value.ref 124), (@PySem.Value.int (335 : Int) 0), (@PySem.Value.int (46 : Int) 0), (@PySem.Value.str (Str.ofString "/claim/cut.py") 336)])) (List.toArray []))
noncomputable def ob165 (P : Params) : Obj := (@PySem.Obj.mk (@PySem.Value.type "function") none (@PySem.Data.func (PySem.FuncData.mk (Str.ofString "dot") (Str.ofString "dot") (fd 20).params (.stmts (fd 20).body) (fd 20).scope 3 [] PySem.Value.none PySem.Value.none PySem.Value.none (@PySem.Value.str (Str.ofString "cas.mat") 286) none (@PySem.Value.ref 125) PySem.Value.none 0)) (List.toArray []))
noncomputable def ob166 (P : Params) : Obj := (@PySem.Obj.mk (@PySem.Value.type "tuple") none (@PySem.Data.seq (List.toArray []) 0) (List.toArray []))
noncomputable def ob167 (P : Params) : Obj := (@PySem.Obj.mk PySem.Value.none none (@PySem.Data.fields (List.toArray [])) (List.toArray []))
noncomputable def ob168 (P : Params) : Obj := (@PySem.Obj.mk PySem.Value.none none (@PySem.Data.func (PySem.FuncData.mk (Str.ofString "mat_add") (Str.ofString "mat_add") (fd 21).params (.stmts (fd 21).body) (fd 21).scope 0 [] PySem.Value.none PySem.Value.none PySem.Value.none PySem.Value.none none PySem.Value.none PySem.Value.none 0)) (List.toArray []))
noncomputable def ob169 (P : Params) : Obj := (@PySem.Obj.mk (@PySem.Value.type "code") none (@PySem.Data.fields (List.toArray [(@PySem.Value.str (Str.ofString "mat_add") 338), (@PySem.Value.str (Str.ofString "mat_add") 339), (@PySem.Value.str (Str.ofString "/claim/cut.py") 340), (@PySem.Value.int (51 : Int) 0), (@PySem.Value.int (2 : Int) 0), (@PySem.Value.int (0 : Int) 0), (@PySem.Value.int (0 : Int) 0), (@PySem.Value.int (3 : Int) 0), (@PySem.Value.ref 127), (@PySem.Value.bool Bool.true), (@PySem.Value.int (181 : Int) 0), (@PySem.Value.ref 128), PySem.Value.none, PySem.Value.none, PySem.Value.none, (@PySem.Value.ref 129), (@PySem.Value.int (341 : Int) 0), (@PySem.Value.int (51 : Int) 0), (@PySem.Value.str (Str.ofString "/claim/cut.py") 342)])) (List.toArray []))
noncomputable def ob170 (P : Params) : Obj := (@PySem.Obj.mk (@PySem.Value.type "function") none (@PySem.Data.func (PySem.FuncData.mk (Str.ofString "mat_add") (Str.ofString "mat_add") (fd 21).params (.stmts (fd 21).body) (fd 21).scope 3 [] PySem.Value.none PySem.Value.none PySem.Value.none (@PySem.Value.str (Str.ofString "cas.mat") 286) none (@PySem.Value.ref 130) PySem.Value.none 0)) (List.toArray []))
noncomputable def ob171 (P : Params) : Obj := (@PySem.Obj.mk (@PySem.Value.type "tuple") none (@PySem.Data.seq (List.toArray []) 0) (List.toArray []))
noncomputable def ob172 (P : Params) : Obj := (@PySem.Obj.mk PySem.Value.none none (@PySem.Data.fields (List.toArray [])) (List.toArray []))
noncomputable def ob173 (P : Params) : Obj := (@PySem.Obj.mk PySem.Value.none none (@PySem.Data.func (PySem.FuncData.mk (Str.ofString "mat_scale") (Str.ofString "mat_scale") (fd 22).params (.stmts (fd 22).body) (fd 22).scope 0 [] PySem.Value.none PySem.Value.none PySem.Value.none PySem.Value.none none PySem.Value.none PySem.Value.none 0)) (List.toArray []))
noncomputable def ob174 (P : Params) : Obj := (@PySem.Obj.mk (@PySem.Value.type "code") none (@PySem.Data.fields (List.toArray [(@PySem.Value.str (Str.ofString "mat_scale") 344), (@PySem.Value.str (Str.ofString "mat_scale") 345), (@PySem.Value.str (Str.ofString "/claim/cut.py") 346), (@PySem.Value.int (54 : Int) 0), (@PySem.Value.int (2 : Int) 0), (@PySem.Value.int (0 : Int) 0), (@PySem.Value.int (0 : Int) 0), (@PySem.Value.int (3 : Int) 0), (@PySem.Value.ref 132), (@PySem.Value.bool Bool.true), (@PySem.Value.int (181 : Int) 0), (@PySem.Value.ref 133), PySem.Value.none, PySem.Value.none, PySem.Value.none, (@PySem.Value.ref 134), (@PySem.Value.int (347 : Int) 0), (@PySem.Value.int (54 : Int) 0), (@PySem.Value.str (Str.ofString "/claim/cut.py") 348)])) (List.toArray []))
noncomputable def ob175 (P : Params) : Obj := (@PySem.Obj.mk (@PySem.Value.type "function") none (@PySem.Data.func (PySem.FuncData.mk (Str.ofString "mat_scale") (Str.ofString "mat_scale") (fd 22).params (.stmts (fd 22).body) (fd 22).scope 3 [] PySem.Value.none PySem.Value.none PySem.Value.none (@PySem.Value.str (Str.ofString "cas.mat") 286) none (@PySem.Value.ref 135) PySem.Value.none 0)) (List.toArray []))
noncomputable def ob176 (P : Params) : Obj := (@PySem.Obj.mk (@PySem.Value.type "dict") none (@PySem.Data.dict (List.toArray [(@PySem.DictEntry.mk (@PySem.PyData.keyHash P (Str.ofString "__name__")) (@PySem.Value.str (Str.ofString "__name__") 165) (@PySem.Value.str (Str.ofString "law_nn0263_01") 442)), (@PySem.DictEntry.mk (@PySem.PyData.keyHash P (Str.ofString "__doc__")) (@PySem.Value.str (Str.ofString "__doc__") 166) PySem.Value.none), (@PySem.DictEntry.mk (@PySem.PyData.keyHash P (Str.ofString "__package__")) (@PySem.Value.str (Str.ofString "__package__") 167) PySem.Value.none), (@PySem.DictEntry.mk (@PySem.PyData.keyHash P (Str.ofString "__loader__")) (@PySem.Value.str (Str.ofString "__loader__") 168) (@PySem.Value.builtin "__main__.__loader__#opaque")), (@PySem.DictEntry.mk (@PySem.PyData.keyHash P (Str.ofString "__spec__")) (@PySem.Value.str (Str.ofString "__spec__") 169) PySem.Value.none), (@PySem.DictEntry.mk (@PySem.PyData.keyHash P (Str.ofString "__annotations__")) (@PySem.Value.str (Str.ofString "__annotations__") 170) (@PySem.Value.ref 6)), (@PySem.DictEntry.mk (@PySem.PyData.keyHash P (Str.ofString "__builtins__")) (@PySem.Value.str (Str.ofString "__builtins__") 171) (@PySem.Value.ref 4)), (@PySem.DictEntry.mk (@PySem.PyData.keyHash P (Str.ofString "__file__")) (@PySem.Value.str (Str.ofString "__file__") 173) (@PySem.Value.str (Str.ofString "/claim/cut.py") 172)), (@PySem.DictEntry.mk (@PySem.PyData.keyHash P (Str.ofString "__cached__")) (@PySem.Value.str (Str.ofString "__cached__") 174) PySem.Value.none), (@PySem.DictEntry.mk (@PySem.PyData.keyHash P (Str.ofString "CasFail")) (@PySem.Value.str (Str.ofString "CasFail") 219) (@PySem.Value.ref 31)), (@PySem.DictEntry.mk (@PySem.PyData.keyHash P (Str.ofString "gcd")) (@PySem.Value.str (Str.ofString "gcd") 229) (@PySem.Value.ref 41)), (@PySem.DictEntry.mk (@PySem.PyData.keyHash P (Str.ofString "R0")) (@PySem.Value.str (Str.ofString "R0") 234) (@PySem.Value.ref 42)), (@PySem.DictEntry.mk (@PySem.PyData.keyHash P (Str.ofString "R1")) (@PySem.Value.str (Str.ofString "R1") 237) (@PySem.Value.ref 43)), (@PySem.DictEntry.mk (@PySem.PyData.keyHash P (Str.ofString "rat")) (@PySem.Value.str (Str.ofString "rat") 246) (@PySem.Value.ref 50)), (@PySem.DictEntry.mk (@PySem.PyData.keyHash P (Str.ofString "radd")) (@PySem.Value.str (Str.ofString "radd") 254) (@PySem.Value.ref 57)), (@PySem.DictEntry.mk (@PySem.PyData.keyHash P (Str.ofString "rsub")) (@PySem.Value.str (Str.ofString "rsub") 262) (@PySem.Value.ref 64)), (@PySem.DictEntry.mk (@PySem.PyData.keyHash P (Str.ofString "rmul")) (@PySem.Value.str (Str.ofString "rmul") 270) (@PySem.Value.ref 71)), (@PySem.DictEntry.mk (@PySem.PyData.keyHash P (Str.ofString "rdiv")) (@PySem.Value.str (Str.ofString "rdiv") 278) (@PySem.Value.ref 78)), (@PySem.DictEntry.mk (@PySem.PyData.keyHash P (Str.ofString "rneg")) (@PySem.Value.str (Str.ofString "rneg") 285) (@PySem.Value.ref 85)), (@PySem.DictEntry.mk (@PySem.PyData.keyHash P (Str.ofString "shape")) (@PySem.Value.str (Str.ofString "shape") 294) (@PySem.Value.ref 92)), (@PySem.DictEntry.mk (@PySem.PyData.keyHash P (Str.ofString "need_shape")) (@PySem.Value.str (Str.ofString "need_shape") 302) (@PySem.Value.ref 99)), (@PySem.DictEntry.mk (@PySem.PyData.keyHash P (Str.ofString "copied")) (@PySem.Value.str (Str.ofString "copied") 308) (@PySem.Value.ref 104)), (@PySem.DictEntry.mk (@PySem.PyData.keyHash P (Str.ofString "from_whole")) (@PySem.Value.str (Str.ofString "from_whole") 314) (@PySem.Value.ref 109)), (@PySem.DictEntry.mk (@PySem.PyData.keyHash P (Str.ofString "unit_matrix")) (@PySem.Value.str (Str.ofString "unit_matrix") 320) (@PySem.Value.ref 114)), (@PySem.DictEntry.mk (@PySem.PyData.keyHash P (Str.ofString "transposed")) (@PySem.Value.str (Str.ofString "transposed") 326) (@PySem.Value.ref 119)), (@PySem.DictEntry.mk (@PySem.PyData.keyHash P (Str.ofString "dot")) (@PySem.Value.str (Str.ofString "dot") 337) (@PySem.Value.ref 126)), (@PySem.DictEntry.mk (@PySem.PyData.keyHash P (Str.ofString "mat_add")) (@PySem.Value.str (Str.ofString "mat_add") 343) (@PySem.Value.ref 131)), (@PySem.DictEntry.mk (@PySem.PyData.keyHash P (Str.ofString "mat_scale")) (@PySem.Value.str (Str.ofString "mat_scale") 349) (@PySem.Value.ref 136)), (@PySem.DictEntry.mk (@PySem.PyData.keyHash P (Str.ofString "mat_mul")) (@PySem.Value.str (Str.ofString "mat_mul") 355) (@PySem.Value.ref 141)), (@PySem.DictEntry.mk (@PySem.PyData.keyHash P (Str.ofString "trace")) (@PySem.Value.str (Str.ofString "trace") 364) (@PySem.Value.ref 148)), (@PySem.DictEntry.mk (@PySem.PyData.keyHash P (Str.ofString "swap_rows")) (@PySem.Value.str (Str.ofString "swap_rows") 373) (@PySem.Value.ref 155)), (@PySem.DictEntry.mk (@PySem.PyData.keyHash P (Str.ofString "take_off")) (@PySem.Value.str (Str.ofString "take_off") 379) (@PySem.Value.ref 160)), (@PySem.DictEntry.mk (@PySem.PyData.keyHash P (Str.ofString "echelon")) (@PySem.Value.str (Str.ofString "echelon") 385) (@PySem.Value.ref 165)), (@PySem.DictEntry.mk (@PySem.PyData.keyHash P (Str.ofString "charpoly")) (@PySem.Value.str (Str.ofString "charpoly") 399) (@PySem.Value.ref 172)), (@PySem.DictEntry.mk (@PySem.PyData.keyHash P (Str.ofString "poly_of_matrix")) (@PySem.Value.str (Str.ofString "poly_of_matrix") 409) (@PySem.Value.ref 179)), (@PySem.DictEntry.mk (@PySem.PyData.keyHash P (Str.ofString "flat")) (@PySem.Value.str (Str.ofString "flat") 418) (@PySem.Value.ref 186)), (@PySem.DictEntry.mk (@PySem.PyData.keyHash P (Str.ofString "minpoly")) (@PySem.Value.str (Str.ofString "minpoly") 428) (@PySem.Value.ref 193)), (@PySem.DictEntry.mk (@PySem.PyData.keyHash P (Str.ofString "dependence")) (@PySem.Value.str (Str.ofString "dependence") 441) (@PySem.Value.ref 200)), (@PySem.DictEntry.mk (@PySem.PyData.keyHash P (Str.ofString "_law_take")) (@PySem.Value.str (Str.ofString "_law_take") 451) (@PySem.Value.ref 207)), (@PySem.DictEntry.mk (@PySem.PyData.keyHash P (Str.ofString "_law_box")) (@PySem.Value.str (Str.ofString "_law_box") 460) (@PySem.Value.ref 214))]) 40) (List.toArray []))
noncomputable def ob177 (P : Params) : Obj := (@PySem.Obj.mk PySem.Value.none none (@PySem.Data.fields (List.toArray [(@PySem.Value.int (2 : Int) 0), (@PySem.Value.int (0 : Int) 0), (@PySem.Value.ref 20), (@PySem.Value.int (9 : Int) 0), (@PySem.Value.int (0 : Int) 0), (@PySem.Value.ref 40), (@PySem.Value.int (17 : Int) 0), (@PySem.Value.int (0 : Int) 0), (@PySem.Value.ref 49), (@PySem.Value.int (22 : Int) 0), (@PySem.Value.int (0 : Int) 0), (@PySem.Value.ref 56), (@PySem.Value.int (24 : Int) 0), (@PySem.Value.int (0 : Int) 0), (@PySem.Value.ref 63), (@PySem.Value.int (26 : Int) 0), (@PySem.Value.int (0 : Int) 0), (@PySem.Value.ref 70), (@PySem.Value.int (28 : Int) 0), (@PySem.Value.int (0 : Int) 0), (@PySem.Value.ref 77), (@PySem.Value.int (30 : Int) 0), (@PySem.Value.int (0 : Int) 0), (@PySem.Value.ref 84), (@PySem.Value.int (33 : Int) 0), (@PySem.Value.int (0 : Int) 0), (@PySem.Value.ref 91), (@PySem.Value.int (35 : Int) 0), (@PySem.Value.int (0 : Int) 0), (@PySem.Value.ref 98), (@PySem.Value.int (38 : Int) 0), (@PySem.Value.int (0 : Int) 0), (@PySem.Value.ref 103), (@PySem.Value.int (40 : Int) 0), (@PySem.Value.int (0 : Int) 0), (@PySem.Value.ref 108), (@PySem.Value.int (42 : Int) 0), (@PySem.Value.int (0 : Int) 0), (@PySem.Value.ref 113), (@PySem.Value.int (44 : Int) 0), (@PySem.Value.int (0 : Int) 0), (@PySem.Value.ref 118), (@PySem.Value.int (46 : Int) 0), (@PySem.Value.int (0 : Int) 0), (@PySem.Value.ref 125), (@PySem.Value.int (51 : Int) 0), (@PySem.Value.int (0 : Int) 0), (@PySem.Value.ref 130), (@PySem.Value.int (54 : Int) 0), (@PySem.Value.int (0 : Int) 0), (@PySem.Value.ref 135), (@PySem.Value.int (56 : Int) 0), (@PySem.Value.int (0 : Int) 0), (@PySem.Value.ref 140), (@PySem.Value.int (60 : Int) 0), (@PySem.Value.int (0 : Int) 0), (@PySem.Value.ref 147), (@PySem.Value.int (65 : Int) 0), (@PySem.Value.int (0 : Int) 0), (@PySem.Value.ref 154), (@PySem.Value.int (67 : Int) 0), (@PySem.Value.int (0 : Int) 0), (@PySem.Value.ref 159), (@PySem.Value.int (69 : Int) 0), (@PySem.Value.int (0 : Int) 0), (@PySem.Value.ref 164), (@PySem.Value.int (85 : Int) 0), (@PySem.Value.int (0 : Int) 0), (@PySem.Value.ref 171), (@PySem.Value.int (96 : Int) 0), (@PySem.Value.int (0 : Int) 0), (@PySem.Value.ref 178), (@PySem.Value.int (101 : Int) 0), (@PySem.Value.int (0 : Int) 0), (@PySem.Value.ref 185), (@PySem.Value.int (106 : Int) 0), (@PySem.Value.int (0 : Int) 0), (@PySem.Value.ref 192), (@PySem.Value.int (114 : Int) 0), (@PySem.Value.int (0 : Int) 0), (@PySem.Value.ref 199), (@PySem.Value.int (124 : Int) 0), (@PySem.Value.int (0 : Int) 0), (@PySem.Value.ref 206), (@PySem.Value.int (129 : Int) 0), (@PySem.Value.int (0 : Int) 0), (@PySem.Value.ref 213)])) (List.toArray []))
noncomputable def ob178 (P : Params) : Obj := (@PySem.Obj.mk (@PySem.Value.type "tuple") none (@PySem.Data.seq (List.toArray []) 0) (List.toArray []))
noncomputable def ob179 (P : Params) : Obj := (@PySem.Obj.mk PySem.Value.none none (@PySem.Data.fields (List.toArray [])) (List.toArray []))
noncomputable def ob180 (P : Params) : Obj := (@PySem.Obj.mk PySem.Value.none none (@PySem.Data.func (PySem.FuncData.mk (Str.ofString "mat_mul") (Str.ofString "mat_mul") (fd 23).params (.stmts (fd 23).body) (fd 23).scope 0 [] PySem.Value.none PySem.Value.none PySem.Value.none PySem.Value.none none PySem.Value.none PySem.Value.none 0)) (List.toArray []))
noncomputable def ob181 (P : Params) : Obj := (@PySem.Obj.mk (@PySem.Value.type "code") none (@PySem.Data.fields (List.toArray [(@PySem.Value.str (Str.ofString "mat_mul") 350), (@PySem.Value.str (Str.ofString "mat_mul") 351), (@PySem.Value.str (Str.ofString "/claim/cut.py") 352), (@PySem.Value.int (56 : Int) 0), (@PySem.Value.int (2 : Int) 0), (@PySem.Value.int (0 : Int) 0), (@PySem.Value.int (0 : Int) 0), (@PySem.Value.int (3 : Int) 0), (@PySem.Value.ref 137), (@PySem.Value.bool Bool.true), (@PySem.Value.int (181 : Int) 0), (@PySem.Value.ref 138), PySem.Value.none, PySem.Value.none, PySem.Value.none, (@PySem.Value.ref 139), (@PySem.Value.int (353 : Int) 0), (@PySem.Value.int (56 : Int) 0), (@PySem.Value.str (Str.ofString "/claim/cut.py") 354)])) (List.toArray []))
noncomputable def ob182 (P : Params) : Obj := (@PySem.Obj.mk (@PySem.Value.type "function") none (@PySem.Data.func (PySem.FuncData.mk (Str.ofString "mat_mul") (Str.ofString "mat_mul") (fd 23).params (.stmts (fd 23).body) (fd 23).scope 3 [] PySem.Value.none PySem.Value.none PySem.Value.none (@PySem.Value.str (Str.ofString "cas.mat") 286) none (@PySem.Value.ref 140) PySem.Value.none 0)) (List.toArray []))
noncomputable def ob183 (P : Params) : Obj := (@PySem.Obj.mk (@PySem.Value.type "tuple") none (@PySem.Data.seq (List.toArray []) 0) (List.toArray []))
noncomputable def ob184 (P : Params) : Obj := (@PySem.Obj.mk PySem.Value.none none (@PySem.Data.fields (List.toArray [])) (List.toArray []))
noncomputable def ob185 (P : Params) : Obj := (@PySem.Obj.mk (@PySem.Value.type "tuple") none (@PySem.Data.seq (List.toArray [(@PySem.Value.str (Str.ofString "a") 359), (@PySem.Value.str (Str.ofString "found") 360), (@PySem.Value.str (Str.ofString "at") 361)]) 0) (List.toArray []))
noncomputable def ob186 (P : Params) : Obj := (@PySem.Obj.mk (@PySem.Value.type "tuple") none (@PySem.Data.seq (List.toArray []) 0) (List.toArray []))
noncomputable def ob187 (P : Params) : Obj := (@PySem.Obj.mk PySem.Value.none none (@PySem.Data.func (PySem.FuncData.mk (Str.ofString "trace") (Str.ofString "trace") (fd 24).params (.stmts (fd 24).body) (fd 24).scope 0 [] PySem.Value.none PySem.Value.none PySem.Value.none PySem.Value.none none PySem.Value.none PySem.Value.none 0)) (List.toArray []))
noncomputable def ob188 (P : Params) : Obj := (@PySem.Obj.mk (@PySem.Value.type "code") none (@PySem.Data.fields (List.toArray [(@PySem.Value.str (Str.ofString "trace") 356), (@PySem.Value.str (Str.ofString "trace") 357), (@PySem.Value.str (Str.ofString "/claim/cut.py") 358), (@PySem.Value.int (60 : Int) 0), (@PySem.Value.int (1 : Int) 0), (@PySem.Value.int (0 : Int) 0), (@PySem.Value.int (0 : Int) 0), (@PySem.Value.int (3 : Int) 0), (@PySem.Value.ref 142), (@PySem.Value.bool Bool.true), (@PySem.Value.int (181 : Int) 0), (@PySem.Value.ref 143), PySem.Value.none, (@PySem.Value.ref 144), (@PySem.Value.ref 145), (@PySem.Value.ref 146), (@PySem.Value.int (362 : Int) 0), (@PySem.Value.int (60 : Int) 0), (@PySem.Value.str (Str.ofString "/claim/cut.py") 363)])) (List.toArray []))
noncomputable def ob189 (P : Params) : Obj := (@PySem.Obj.mk (@PySem.Value.type "function") none (@PySem.Data.func (PySem.FuncData.mk (Str.ofString "trace") (Str.ofString "trace") (fd 24).params (.stmts (fd 24).body) (fd 24).scope 3 [] PySem.Value.none PySem.Value.none PySem.Value.none (@PySem.Value.str (Str.ofString "cas.mat") 286) none (@PySem.Value.ref 147) PySem.Value.none 0)) (List.toArray []))
noncomputable def ob190 (P : Params) : Obj := (@PySem.Obj.mk (@PySem.Value.type "tuple") none (@PySem.Data.seq (List.toArray []) 0) (List.toArray []))
noncomputable def ob191 (P : Params) : Obj := (@PySem.Obj.mk PySem.Value.none none (@PySem.Data.fields (List.toArray [])) (List.toArray []))
noncomputable def ob192 (P : Params) : Obj := (@PySem.Obj.mk (@PySem.Value.type "tuple") none (@PySem.Data.seq (List.toArray [(@PySem.Value.str (Str.ofString "a") 368), (@PySem.Value.str (Str.ofString "one") 369), (@PySem.Value.str (Str.ofString "other") 370)]) 0) (List.toArray []))
noncomputable def ob193 (P : Params) : Obj := (@PySem.Obj.mk (@PySem.Value.type "tuple") none (@PySem.Data.seq (List.toArray []) 0) (List.toArray []))
noncomputable def ob194 (P : Params) : Obj := (@PySem.Obj.mk PySem.Value.none none (@PySem.Data.func (PySem.FuncData.mk (Str.ofString "swap_rows") (Str.ofString "swap_rows") (fd 25).params (.stmts (fd 25).body) (fd 25).scope 0 [] PySem.Value.none PySem.Value.none PySem.Value.none PySem.Value.none none PySem.Value.none PySem.Value.none 0)) (List.toArray []))
noncomputable def ob195 (P : Params) : Obj := (@PySem.Obj.mk (@PySem.Value.type "code") none (@PySem.Data.fields (List.toArray [(@PySem.Value.str (Str.ofString "swap_rows") 365), (@PySem.Value.str (Str.ofString "swap_rows") 366), (@PySem.Value.str (Str.ofString "/claim/cut.py") 367), (@PySem.Value.int (65 : Int) 0), (@PySem.Value.int (3 : Int) 0), (@PySem.Value.int (0 : Int) 0), (@PySem.Value.int (0 : Int) 0), (@PySem.Value.int (3 : Int) 0), (@PySem.Value.ref 149), (@PySem.Value.bool Bool.true), (@PySem.Value.int (181 : Int) 0), (@PySem.Value.ref 150), PySem.Value.none, (@PySem.Value.ref 151), (@PySem.Value.ref 152), (@PySem.Value.ref 153), (@PySem.Value.int (371 : Int) 0), (@PySem.Value.int (65 : Int) 0), (@PySem.Value.str (Str.ofString "/claim/cut.py") 372)])) (List.toArray []))
noncomputable def ob196 (P : Params) : Obj := (@PySem.Obj.mk (@PySem.Value.type "function") none (@PySem.Data.func (PySem.FuncData.mk (Str.ofString "swap_rows") (Str.ofString "swap_rows") (fd 25).params (.stmts (fd 25).body) (fd 25).scope 3 [] PySem.Value.none PySem.Value.none PySem.Value.none (@PySem.Value.str (Str.ofString "cas.mat") 286) none (@PySem.Value.ref 154) PySem.Value.none 0)) (List.toArray []))
noncomputable def ob197 (P : Params) : Obj := (@PySem.Obj.mk (@PySem.Value.type "tuple") none (@PySem.Data.seq (List.toArray []) 0) (List.toArray []))
noncomputable def ob198 (P : Params) : Obj := (@PySem.Obj.mk PySem.Value.none none (@PySem.Data.fields (List.toArray [])) (List.toArray []))
noncomputable def ob199 (P : Params) : Obj := (@PySem.Obj.mk PySem.Value.none none (@PySem.Data.func (PySem.FuncData.mk (Str.ofString "take_off") (Str.ofString "take_off") (fd 26).params (.stmts (fd 26).body) (fd 26).scope 0 [] PySem.Value.none PySem.Value.none PySem.Value.none PySem.Value.none none PySem.Value.none PySem.Value.none 0)) (List.toArray []))
noncomputable def ob200 (P : Params) : Obj := (@PySem.Obj.mk (@PySem.Value.type "code") none (@PySem.Data.fields (List.toArray [(@PySem.Value.str (Str.ofString "take_off") 374), (@PySem.Value.str (Str.ofString "take_off") 375), (@PySem.Value.str (Str.ofString "/claim/cut.py") 376), (@PySem.Value.int (67 : Int) 0), (@PySem.Value.int (4 : Int) 0), (@PySem.Value.int (0 : Int) 0), (@PySem.Value.int (0 : Int) 0), (@PySem.Value.int (3 : Int) 0), (@PySem.Value.ref 156), (@PySem.Value.bool Bool.true), (@PySem.Value.int (181 : Int) 0), (@PySem.Value.ref 157), PySem.Value.none, PySem.Value.none, PySem.Value.none, (@PySem.Value.ref 158), (@PySem.Value.int (377 : Int) 0), (@PySem.Value.int (67 : Int) 0), (@PySem.Value.str (Str.ofString "/claim/cut.py") 378)])) (List.toArray []))
noncomputable def ob201 (P : Params) : Obj := (@PySem.Obj.mk (@PySem.Value.type "function") none (@PySem.Data.func (PySem.FuncData.mk (Str.ofString "take_off") (Str.ofString "take_off") (fd 26).params (.stmts (fd 26).body) (fd 26).scope 3 [] PySem.Value.none PySem.Value.none PySem.Value.none (@PySem.Value.str (Str.ofString "cas.mat") 286) none (@PySem.Value.ref 159) PySem.Value.none 0)) (List.toArray []))
noncomputable def ob202 (P : Params) : Obj := (@PySem.Obj.mk (@PySem.Value.type "tuple") none (@PySem.Data.seq (List.toArray []) 0) (List.toArray []))
noncomputable def ob203 (P : Params) : Obj := (@PySem.Obj.mk PySem.Value.none none (@PySem.Data.fields (List.toArray [])) (List.toArray []))
noncomputable def ob204 (P : Params) : Obj := (@PySem.Obj.mk PySem.Value.none none (@PySem.Data.func (PySem.FuncData.mk (Str.ofString "echelon") (Str.ofString "echelon") (fd 27).params (.stmts (fd 27).body) (fd 27).scope 0 [] PySem.Value.none PySem.Value.none PySem.Value.none PySem.Value.none none PySem.Value.none PySem.Value.none 0)) (List.toArray []))
noncomputable def ob205 (P : Params) : Obj := (@PySem.Obj.mk (@PySem.Value.type "code") none (@PySem.Data.fields (List.toArray [(@PySem.Value.str (Str.ofString "echelon") 380), (@PySem.Value.str (Str.ofString "echelon") 381), (@PySem.Value.str (Str.ofString "/claim/cut.py") 382), (@PySem.Value.int (69 : Int) 0), (@PySem.Value.int (1 : Int) 0), (@PySem.Value.int (0 : Int) 0), (@PySem.Value.int (0 : Int) 0), (@PySem.Value.int (3 : Int) 0), (@PySem.Value.ref 161), (@PySem.Value.bool Bool.true), (@PySem.Value.int (181 : Int) 0), (@PySem.Value.ref 162), PySem.Value.none, PySem.Value.none, PySem.Value.none, (@PySem.Value.ref 163), (@PySem.Value.int (383 : Int) 0), (@PySem.Value.int (69 : Int) 0), (@PySem.Value.str (Str.ofString "/claim/cut.py") 384)])) (List.toArray []))
noncomputable def ob206 (P : Params) : Obj := (@PySem.Obj.mk (@PySem.Value.type "function") none (@PySem.Data.func (PySem.FuncData.mk (Str.ofString "echelon") (Str.ofString "echelon") (fd 27).params (.stmts (fd 27).body) (fd 27).scope 3 [] PySem.Value.none PySem.Value.none PySem.Value.none (@PySem.Value.str (Str.ofString "cas.mat") 286) none (@PySem.Value.ref 164) PySem.Value.none 0)) (List.toArray []))
noncomputable def ob207 (P : Params) : Obj := (@PySem.Obj.mk (@PySem.Value.type "tuple") none (@PySem.Data.seq (List.toArray []) 0) (List.toArray []))
noncomputable def ob208 (P : Params) : Obj := (@PySem.Obj.mk PySem.Value.none none (@PySem.Data.fields (List.toArray [])) (List.toArray []))
noncomputable def ob209 (P : Params) : Obj := (@PySem.Obj.mk (@PySem.Value.type "tuple") none (@PySem.Data.seq (List.toArray [(@PySem.Value.str (Str.ofString "a") 391), (@PySem.Value.str (Str.ofString "n") 392), (@PySem.Value.str (Str.ofString "found") 393), (@PySem.Value.str (Str.ofString "power") 394), (@PySem.Value.str (Str.ofString "step") 395), (@PySem.Value.str (Str.ofString "number") 396)]) 0) (List.toArray []))
noncomputable def ob210 (P : Params) : Obj := (@PySem.Obj.mk (@PySem.Value.type "tuple") none (@PySem.Data.seq (List.toArray []) 0) (List.toArray []))
noncomputable def ob211 (P : Params) : Obj := (@PySem.Obj.mk PySem.Value.none none (@PySem.Data.func (PySem.FuncData.mk (Str.ofString "charpoly") (Str.ofString "charpoly") (fd 29).params (.stmts (fd 29).body) (fd 29).scope 0 [] PySem.Value.none PySem.Value.none PySem.Value.none PySem.Value.none none PySem.Value.none PySem.Value.none 0)) (List.toArray []))
noncomputable def ob212 (P : Params) : Obj := (@PySem.Obj.mk (@PySem.Value.type "code") none (@PySem.Data.fields (List.toArray [(@PySem.Value.str (Str.ofString "charpoly") 388), (@PySem.Value.str (Str.ofString "charpoly") 389), (@PySem.Value.str (Str.ofString "/claim/cut.py") 390), (@PySem.Value.int (85 : Int) 0), (@PySem.Value.int (1 : Int) 0), (@PySem.Value.int (0 : Int) 0), (@PySem.Value.int (0 : Int) 0), (@PySem.Value.int (3 : Int) 0), (@PySem.Value.ref 166), (@PySem.Value.bool Bool.true), (@PySem.Value.int (181 : Int) 0), (@PySem.Value.ref 167), PySem.Value.none, (@PySem.Value.ref 168), (@PySem.Value.ref 169), (@PySem.Value.ref 170), (@PySem.Value.int (397 : Int) 0), (@PySem.Value.int (85 : Int) 0), (@PySem.Value.str (Str.ofString "/claim/cut.py") 398)])) (List.toArray []))
noncomputable def ob213 (P : Params) : Obj := (@PySem.Obj.mk (@PySem.Value.type "function") none (@PySem.Data.func (PySem.FuncData.mk (Str.ofString "charpoly") (Str.ofString "charpoly") (fd 29).params (.stmts (fd 29).body) (fd 29).scope 3 [] PySem.Value.none PySem.Value.none PySem.Value.none (@PySem.Value.str (Str.ofString "cas.charpoly") 386) none (@PySem.Value.ref 171) PySem.Value.none 0)) (List.toArray []))
noncomputable def ob214 (P : Params) : Obj := (@PySem.Obj.mk (@PySem.Value.type "tuple") none (@PySem.Data.seq (List.toArray []) 0) (List.toArray []))
noncomputable def ob215 (P : Params) : Obj := (@PySem.Obj.mk PySem.Value.none none (@PySem.Data.fields (List.toArray [])) (List.toArray []))
noncomputable def ob216 (P : Params) : Obj := (@PySem.Obj.mk (@PySem.Value.type "tuple") none (@PySem.Data.seq (List.toArray [(@PySem.Value.str (Str.ofString "polynomial") 403), (@PySem.Value.str (Str.ofString "a") 404), (@PySem.Value.str (Str.ofString "found") 405), (@PySem.Value.str (Str.ofString "number") 406)]) 0) (List.toArray []))
noncomputable def ob217 (P : Params) : Obj := (@PySem.Obj.mk (@PySem.Value.type "tuple") none (@PySem.Data.seq (List.toArray []) 0) (List.toArray []))
noncomputable def ob218 (P : Params) : Obj := (@PySem.Obj.mk PySem.Value.none none (@PySem.Data.func (PySem.FuncData.mk (Str.ofString "poly_of_matrix") (Str.ofString "poly_of_matrix") (fd 30).params (.stmts (fd 30).body) (fd 30).scope 0 [] PySem.Value.none PySem.Value.none PySem.Value.none PySem.Value.none none PySem.Value.none PySem.Value.none 0)) (List.toArray []))
noncomputable def ob219 (P : Params) : Obj := (@PySem.Obj.mk (@PySem.Value.type "code") none (@PySem.Data.fields (List.toArray [(@PySem.Value.str (Str.ofString "poly_of_matrix") 400), (@PySem.Value.str (Str.ofString "poly_of_matrix") 401), (@PySem.Value.str (Str.ofString "/claim/cut.py") 402), (@PySem.Value.int (96 : Int) 0), (@PySem.Value.int (2 : Int) 0), (@PySem.Value.int (0 : Int) 0), (@PySem.Value.int (0 : Int) 0), (@PySem.Value.int (3 : Int) 0), (@PySem.Value.ref 173), (@PySem.Value.bool Bool.true), (@PySem.Value.int (181 : Int) 0), (@PySem.Value.ref 174), PySem.Value.none, (@PySem.Value.ref 175), (@PySem.Value.ref 176), (@PySem.Value.ref 177), (@PySem.Value.int (407 : Int) 0), (@PySem.Value.int (96 : Int) 0), (@PySem.Value.str (Str.ofString "/claim/cut.py") 408)])) (List.toArray []))
noncomputable def ob220 (P : Params) : Obj := (@PySem.Obj.mk (@PySem.Value.type "function") none (@PySem.Data.func (PySem.FuncData.mk (Str.ofString "poly_of_matrix") (Str.ofString "poly_of_matrix") (fd 30).params (.stmts (fd 30).body) (fd 30).scope 3 [] PySem.Value.none PySem.Value.none PySem.Value.none (@PySem.Value.str (Str.ofString "cas.charpoly") 386) none (@PySem.Value.ref 178) PySem.Value.none 0)) (List.toArray []))
noncomputable def ob221 (P : Params) : Obj := (@PySem.Obj.mk (@PySem.Value.type "tuple") none (@PySem.Data.seq (List.toArray []) 0) (List.toArray []))
noncomputable def ob222 (P : Params) : Obj := (@PySem.Obj.mk PySem.Value.none none (@PySem.Data.fields (List.toArray [])) (List.toArray []))
noncomputable def ob223 (P : Params) : Obj := (@PySem.Obj.mk (@PySem.Value.type "tuple") none (@PySem.Data.seq (List.toArray [(@PySem.Value.str (Str.ofString "a") 413), (@PySem.Value.str (Str.ofString "found") 414), (@PySem.Value.str (Str.ofString "row") 415)]) 0) (List.toArray []))
noncomputable def ob224 (P : Params) : Obj := (@PySem.Obj.mk (@PySem.Value.type "tuple") none (@PySem.Data.seq (List.toArray []) 0) (List.toArray []))
noncomputable def ob225 (P : Params) : Obj := (@PySem.Obj.mk PySem.Value.none none (@PySem.Data.func (PySem.FuncData.mk (Str.ofString "flat") (Str.ofString "flat") (fd 31).params (.stmts (fd 31).body) (fd 31).scope 0 [] PySem.Value.none PySem.Value.none PySem.Value.none PySem.Value.none none PySem.Value.none PySem.Value.none 0)) (List.toArray []))
noncomputable def ob226 (P : Params) : Obj := (@PySem.Obj.mk (@PySem.Value.type "code") none (@PySem.Data.fields (List.toArray [(@PySem.Value.str (Str.ofString "flat") 410), (@PySem.Value.str (Str.ofString "flat") 411), (@PySem.Value.str (Str.ofString "/claim/cut.py") 412), (@PySem.Value.int (101 : Int) 0), (@PySem.Value.int (1 : Int) 0), (@PySem.Value.int (0 : Int) 0), (@PySem.Value.int (0 : Int) 0), (@PySem.Value.int (3 : Int) 0), (@PySem.Value.ref 180), (@PySem.Value.bool Bool.true), (@PySem.Value.int (181 : Int) 0), (@PySem.Value.ref 181), PySem.Value.none, (@PySem.Value.ref 182), (@PySem.Value.ref 183), (@PySem.Value.ref 184), (@PySem.Value.int (416 : Int) 0), (@PySem.Value.int (101 : Int) 0), (@PySem.Value.str (Str.ofString "/claim/cut.py") 417)])) (List.toArray []))
noncomputable def ob227 (P : Params) : Obj := (@PySem.Obj.mk (@PySem.Value.type "function") none (@PySem.Data.func (PySem.FuncData.mk (Str.ofString "flat") (Str.ofString "flat") (fd 31).params (.stmts (fd 31).body) (fd 31).scope 3 [] PySem.Value.none PySem.Value.none PySem.Value.none (@PySem.Value.str (Str.ofString "cas.charpoly") 386) none (@PySem.Value.ref 185) PySem.Value.none 0)) (List.toArray []))
noncomputable def ob228 (P : Params) : Obj := (@PySem.Obj.mk (@PySem.Value.type "tuple") none (@PySem.Data.seq (List.toArray []) 0) (List.toArray []))
noncomputable def ob229 (P : Params) : Obj := (@PySem.Obj.mk PySem.Value.none none (@PySem.Data.fields (List.toArray [])) (List.toArray []))
noncomputable def ob230 (P : Params) : Obj := (@PySem.Obj.mk (@PySem.Value.type "tuple") none (@PySem.Data.seq (List.toArray [(@PySem.Value.str (Str.ofString "a") 422), (@PySem.Value.str (Str.ofString "rows") 423), (@PySem.Value.str (Str.ofString "power") 424), (@PySem.Value.str (Str.ofString "told") 425)]) 0) (List.toArray []))
noncomputable def ob231 (P : Params) : Obj := (@PySem.Obj.mk (@PySem.Value.type "tuple") none (@PySem.Data.seq (List.toArray []) 0) (List.toArray []))
noncomputable def ob232 (P : Params) : Obj := (@PySem.Obj.mk PySem.Value.none none (@PySem.Data.func (PySem.FuncData.mk (Str.ofString "minpoly") (Str.ofString "minpoly") (fd 32).params (.stmts (fd 32).body) (fd 32).scope 0 [] PySem.Value.none PySem.Value.none PySem.Value.none PySem.Value.none none PySem.Value.none PySem.Value.none 0)) (List.toArray []))
noncomputable def ob233 (P : Params) : Obj := (@PySem.Obj.mk (@PySem.Value.type "code") none (@PySem.Data.fields (List.toArray [(@PySem.Value.str (Str.ofString "minpoly") 419), (@PySem.Value.str (Str.ofString "minpoly") 420), (@PySem.Value.str (Str.ofString "/claim/cut.py") 421), (@PySem.Value.int (106 : Int) 0), (@PySem.Value.int (1 : Int) 0), (@PySem.Value.int (0 : Int) 0), (@PySem.Value.int (0 : Int) 0), (@PySem.Value.int (3 : Int) 0), (@PySem.Value.ref 187), (@PySem.Value.bool Bool.true), (@PySem.Value.int (181 : Int) 0), (@PySem.Value.ref 188), PySem.Value.none, (@PySem.Value.ref 189), (@PySem.Value.ref 190), (@PySem.Value.ref 191), (@PySem.Value.int (426 : Int) 0), (@PySem.Value.int (106 : Int) 0), (@PySem.Value.str (Str.ofString "/claim/cut.py") 427)])) (List.toArray []))
noncomputable def ob234 (P : Params) : Obj := (@PySem.Obj.mk (@PySem.Value.type "function") none (@PySem.Data.func (PySem.FuncData.mk (Str.ofString "minpoly") (Str.ofString "minpoly") (fd 32).params (.stmts (fd 32).body) (fd 32).scope 3 [] PySem.Value.none PySem.Value.none PySem.Value.none (@PySem.Value.str (Str.ofString "cas.charpoly") 386) none (@PySem.Value.ref 192) PySem.Value.none 0)) (List.toArray []))
noncomputable def ob235 (P : Params) : Obj := (@PySem.Obj.mk (@PySem.Value.type "tuple") none (@PySem.Data.seq (List.toArray []) 0) (List.toArray []))
noncomputable def ob236 (P : Params) : Obj := (@PySem.Obj.mk PySem.Value.none none (@PySem.Data.fields (List.toArray [])) (List.toArray []))
noncomputable def ob237 (P : Params) : Obj := (@PySem.Obj.mk (@PySem.Value.type "tuple") none (@PySem.Data.seq (List.toArray [(@PySem.Value.str (Str.ofString "rows") 432), (@PySem.Value.str (Str.ofString "reduced") 433), (@PySem.Value.str (Str.ofString "pivots") 434), (@PySem.Value.str (Str.ofString "last") 435), (@PySem.Value.str (Str.ofString "found") 436), (@PySem.Value.str (Str.ofString "at") 437), (@PySem.Value.str (Str.ofString "column") 438)]) 0) (List.toArray []))
noncomputable def ob238 (P : Params) : Obj := (@PySem.Obj.mk (@PySem.Value.type "tuple") none (@PySem.Data.seq (List.toArray []) 0) (List.toArray []))
noncomputable def ob239 (P : Params) : Obj := (@PySem.Obj.mk PySem.Value.none none (@PySem.Data.func (PySem.FuncData.mk (Str.ofString "dependence") (Str.ofString "dependence") (fd 33).params (.stmts (fd 33).body) (fd 33).scope 0 [] PySem.Value.none PySem.Value.none PySem.Value.none PySem.Value.none none PySem.Value.none PySem.Value.none 0)) (List.toArray []))
noncomputable def ob240 (P : Params) : Obj := (@PySem.Obj.mk (@PySem.Value.type "code") none (@PySem.Data.fields (List.toArray [(@PySem.Value.str (Str.ofString "dependence") 429), (@PySem.Value.str (Str.ofString "dependence") 430), (@PySem.Value.str (Str.ofString "/claim/cut.py") 431), (@PySem.Value.int (114 : Int) 0), (@PySem.Value.int (1 : Int) 0), (@PySem.Value.int (0 : Int) 0), (@PySem.Value.int (0 : Int) 0), (@PySem.Value.int (3 : Int) 0), (@PySem.Value.ref 194), (@PySem.Value.bool Bool.true), (@PySem.Value.int (181 : Int) 0), (@PySem.Value.ref 195), PySem.Value.none, (@PySem.Value.ref 196), (@PySem.Value.ref 197), (@PySem.Value.ref 198), (@PySem.Value.int (439 : Int) 0), (@PySem.Value.int (114 : Int) 0), (@PySem.Value.str (Str.ofString "/claim/cut.py") 440)])) (List.toArray []))
noncomputable def ob241 (P : Params) : Obj := (@PySem.Obj.mk (@PySem.Value.type "function") none (@PySem.Data.func (PySem.FuncData.mk (Str.ofString "dependence") (Str.ofString "dependence") (fd 33).params (.stmts (fd 33).body) (fd 33).scope 3 [] PySem.Value.none PySem.Value.none PySem.Value.none (@PySem.Value.str (Str.ofString "cas.charpoly") 386) none (@PySem.Value.ref 199) PySem.Value.none 0)) (List.toArray []))
noncomputable def ob242 (P : Params) : Obj := (@PySem.Obj.mk (@PySem.Value.type "tuple") none (@PySem.Data.seq (List.toArray []) 0) (List.toArray []))
noncomputable def ob243 (P : Params) : Obj := (@PySem.Obj.mk PySem.Value.none none (@PySem.Data.fields (List.toArray [])) (List.toArray []))
noncomputable def ob244 (P : Params) : Obj := (@PySem.Obj.mk (@PySem.Value.type "tuple") none (@PySem.Data.seq (List.toArray [(@PySem.Value.str (Str.ofString "box") 447), (@PySem.Value.str (Str.ofString "wide") 448)]) 0) (List.toArray []))
noncomputable def ob245 (P : Params) : Obj := (@PySem.Obj.mk (@PySem.Value.type "tuple") none (@PySem.Data.seq (List.toArray []) 0) (List.toArray []))
noncomputable def ob246 (P : Params) : Obj := (@PySem.Obj.mk PySem.Value.none none (@PySem.Data.func (PySem.FuncData.mk (Str.ofString "_law_take") (Str.ofString "_law_take") (fd 35).params (.stmts (fd 35).body) (fd 35).scope 0 [] PySem.Value.none PySem.Value.none PySem.Value.none PySem.Value.none none PySem.Value.none PySem.Value.none 0)) (List.toArray []))
noncomputable def ob247 (P : Params) : Obj := (@PySem.Obj.mk (@PySem.Value.type "code") none (@PySem.Data.fields (List.toArray [(@PySem.Value.str (Str.ofString "_law_take") 444), (@PySem.Value.str (Str.ofString "_law_take") 445), (@PySem.Value.str (Str.ofString "/claim/cut.py") 446), (@PySem.Value.int (124 : Int) 0), (@PySem.Value.int (2 : Int) 0), (@PySem.Value.int (0 : Int) 0), (@PySem.Value.int (0 : Int) 0), (@PySem.Value.int (3 : Int) 0), (@PySem.Value.ref 201), (@PySem.Value.bool Bool.true), (@PySem.Value.int (181 : Int) 0), (@PySem.Value.ref 202), PySem.Value.none, (@PySem.Value.ref 203), (@PySem.Value.ref 204), (@PySem.Value.ref 205), (@PySem.Value.int (449 : Int) 0), (@PySem.Value.int (124 : Int) 0), (@PySem.Value.str (Str.ofString "/claim/cut.py") 450)])) (List.toArray []))
noncomputable def ob248 (P : Params) : Obj := (@PySem.Obj.mk (@PySem.Value.type "function") none (@PySem.Data.func (PySem.FuncData.mk (Str.ofString "_law_take") (Str.ofString "_law_take") (fd 35).params (.stmts (fd 35).body) (fd 35).scope 3 [] PySem.Value.none PySem.Value.none PySem.Value.none (@PySem.Value.str (Str.ofString "law_nn0263_01") 442) none (@PySem.Value.ref 206) PySem.Value.none 0)) (List.toArray []))
noncomputable def ob249 (P : Params) : Obj := (@PySem.Obj.mk (@PySem.Value.type "tuple") none (@PySem.Data.seq (List.toArray []) 0) (List.toArray []))
noncomputable def ob250 (P : Params) : Obj := (@PySem.Obj.mk PySem.Value.none none (@PySem.Data.fields (List.toArray [])) (List.toArray []))
noncomputable def ob251 (P : Params) : Obj := (@PySem.Obj.mk (@PySem.Value.type "tuple") none (@PySem.Data.seq (List.toArray [(@PySem.Value.str (Str.ofString "script") 455), (@PySem.Value.str (Str.ofString "stirred") 456), (@PySem.Value.str (Str.ofString "one") 457)]) 0) (List.toArray []))
noncomputable def ob252 (P : Params) : Obj := (@PySem.Obj.mk (@PySem.Value.type "tuple") none (@PySem.Data.seq (List.toArray []) 0) (List.toArray []))
noncomputable def ob253 (P : Params) : Obj := (@PySem.Obj.mk PySem.Value.none none (@PySem.Data.func (PySem.FuncData.mk (Str.ofString "_law_box") (Str.ofString "_law_box") (fd 36).params (.stmts (fd 36).body) (fd 36).scope 0 [] PySem.Value.none PySem.Value.none PySem.Value.none PySem.Value.none none PySem.Value.none PySem.Value.none 0)) (List.toArray []))
noncomputable def ob254 (P : Params) : Obj := (@PySem.Obj.mk (@PySem.Value.type "code") none (@PySem.Data.fields (List.toArray [(@PySem.Value.str (Str.ofString "_law_box") 452), (@PySem.Value.str (Str.ofString "_law_box") 453), (@PySem.Value.str (Str.ofString "/claim/cut.py") 454), (@PySem.Value.int (129 : Int) 0), (@PySem.Value.int (1 : Int) 0), (@PySem.Value.int (0 : Int) 0), (@PySem.Value.int (0 : Int) 0), (@PySem.Value.int (3 : Int) 0), (@PySem.Value.ref 208), (@PySem.Value.bool Bool.true), (@PySem.Value.int (181 : Int) 0), (@PySem.Value.ref 209), PySem.Value.none, (@PySem.Value.ref 210), (@PySem.Value.ref 211), (@PySem.Value.ref 212), (@PySem.Value.int (458 : Int) 0), (@PySem.Value.int (129 : Int) 0), (@PySem.Value.str (Str.ofString "/claim/cut.py") 459)])) (List.toArray []))
noncomputable def ob255 (P : Params) : Obj := (@PySem.Obj.mk (@PySem.Value.type "function") none (@PySem.Data.func (PySem.FuncData.mk (Str.ofString "_law_box") (Str.ofString "_law_box") (fd 36).params (.stmts (fd 36).body) (fd 36).scope 3 [] PySem.Value.none PySem.Value.none PySem.Value.none (@PySem.Value.str (Str.ofString "law_nn0263_01") 442) none (@PySem.Value.ref 213) PySem.Value.none 0)) (List.toArray []))
noncomputable def ob256 (P : Params) : Obj := (@PySem.Obj.mk (@PySem.Value.type "dict") none (@PySem.Data.dict (List.toArray [(@PySem.DictEntry.mk (@PySem.PyData.keyHash P (Str.ofString "__name__")) (@PySem.Value.str (Str.ofString "__name__") 165) (@PySem.Value.str (Str.ofString "law_nn0263_01") 442)), (@PySem.DictEntry.mk (@PySem.PyData.keyHash P (Str.ofString "__doc__")) (@PySem.Value.str (Str.ofString "__doc__") 166) PySem.Value.none), (@PySem.DictEntry.mk (@PySem.PyData.keyHash P (Str.ofString "__package__")) (@PySem.Value.str (Str.ofString "__package__") 167) PySem.Value.none), (@PySem.DictEntry.mk (@PySem.PyData.keyHash P (Str.ofString "__loader__")) (@PySem.Value.str (Str.ofString "__loader__") 168) (@PySem.Value.builtin "__main__.__loader__#opaque")), (@PySem.DictEntry.mk (@PySem.PyData.keyHash P (Str.ofString "__spec__")) (@PySem.Value.str (Str.ofString "__spec__") 169) PySem.Value.none), (@PySem.DictEntry.mk (@PySem.PyData.keyHash P (Str.ofString "__annotations__")) (@PySem.Value.str (Str.ofString "__annotations__") 170) (@PySem.Value.ref 6)), (@PySem.DictEntry.mk (@PySem.PyData.keyHash P (Str.ofString "__builtins__")) (@PySem.Value.str (Str.ofString "__builtins__") 171) (@PySem.Value.ref 4)), (@PySem.DictEntry.mk (@PySem.PyData.keyHash P (Str.ofString "__file__")) (@PySem.Value.str (Str.ofString "__file__") 173) (@PySem.Value.str (Str.ofString "/claim/cut.py") 172)), (@PySem.DictEntry.mk (@PySem.PyData.keyHash P (Str.ofString "__cached__")) (@PySem.Value.str (Str.ofString "__cached__") 174) PySem.Value.none), (@PySem.DictEntry.mk (@PySem.PyData.keyHash P (Str.ofString "CasFail")) (@PySem.Value.str (Str.ofString "CasFail") 219) (@PySem.Value.ref 31)), (@PySem.DictEntry.mk (@PySem.PyData.keyHash P (Str.ofString "gcd")) (@PySem.Value.str (Str.ofString "gcd") 229) (@PySem.Value.ref 41)), (@PySem.DictEntry.mk (@PySem.PyData.keyHash P (Str.ofString "R0")) (@PySem.Value.str (Str.ofString "R0") 234) (@PySem.Value.ref 42)), (@PySem.DictEntry.mk (@PySem.PyData.keyHash P (Str.ofString "R1")) (@PySem.Value.str (Str.ofString "R1") 237) (@PySem.Value.ref 43)), (@PySem.DictEntry.mk (@PySem.PyData.keyHash P (Str.ofString "rat")) (@PySem.Value.str (Str.ofString "rat") 246) (@PySem.Value.ref 50)), (@PySem.DictEntry.mk (@PySem.PyData.keyHash P (Str.ofString "radd")) (@PySem.Value.str (Str.ofString "radd") 254) (@PySem.Value.ref 57)), (@PySem.DictEntry.mk (@PySem.PyData.keyHash P (Str.ofString "rsub")) (@PySem.Value.str (Str.ofString "rsub") 262) (@PySem.Value.ref 64)), (@PySem.DictEntry.mk (@PySem.PyData.keyHash P (Str.ofString "rmul")) (@PySem.Value.str (Str.ofString "rmul") 270) (@PySem.Value.ref 71)), (@PySem.DictEntry.mk (@PySem.PyData.keyHash P (Str.ofString "rdiv")) (@PySem.Value.str (Str.ofString "rdiv") 278) (@PySem.Value.ref 78)), (@PySem.DictEntry.mk (@PySem.PyData.keyHash P (Str.ofString "rneg")) (@PySem.Value.str (Str.ofString "rneg") 285) (@PySem.Value.ref 85)), (@PySem.DictEntry.mk (@PySem.PyData.keyHash P (Str.ofString "shape")) (@PySem.Value.str (Str.ofString "shape") 294) (@PySem.Value.ref 92)), (@PySem.DictEntry.mk (@PySem.PyData.keyHash P (Str.ofString "need_shape")) (@PySem.Value.str (Str.ofString "need_shape") 302) (@PySem.Value.ref 99)), (@PySem.DictEntry.mk (@PySem.PyData.keyHash P (Str.ofString "copied")) (@PySem.Value.str (Str.ofString "copied") 308) (@PySem.Value.ref 104)), (@PySem.DictEntry.mk (@PySem.PyData.keyHash P (Str.ofString "from_whole")) (@PySem.Value.str (Str.ofString "from_whole") 314) (@PySem.Value.ref 109)), (@PySem.DictEntry.mk (@PySem.PyData.keyHash P (Str.ofString "unit_matrix")) (@PySem.Value.str (Str.ofString "unit_matrix") 320) (@PySem.Value.ref 114)), (@PySem.DictEntry.mk (@PySem.PyData.keyHash P (Str.ofString "transposed")) (@PySem.Value.str (Str.ofString "transposed") 326) (@PySem.Value.ref 119)), (@PySem.DictEntry.mk (@PySem.PyData.keyHash P (Str.ofString "dot")) (@PySem.Value.str (Str.ofString "dot") 337) (@PySem.Value.ref 126)), (@PySem.DictEntry.mk (@PySem.PyData.keyHash P (Str.ofString "mat_add")) (@PySem.Value.str (Str.ofString "mat_add") 343) (@PySem.Value.ref 131)), (@PySem.DictEntry.mk (@PySem.PyData.keyHash P (Str.ofString "mat_scale")) (@PySem.Value.str (Str.ofString "mat_scale") 349) (@PySem.Value.ref 136)), (@PySem.DictEntry.mk (@PySem.PyData.keyHash P (Str.ofString "mat_mul")) (@PySem.Value.str (Str.ofString "mat_mul") 355) (@PySem.Value.ref 141)), (@PySem.DictEntry.mk (@PySem.PyData.keyHash P (Str.ofString "trace")) (@PySem.Value.str (Str.ofString "trace") 364) (@PySem.Value.ref 148)), (@PySem.DictEntry.mk (@PySem.PyData.keyHash P (Str.ofString "swap_rows")) (@PySem.Value.str (Str.ofString "swap_rows") 373) (@PySem.Value.ref 155)), (@PySem.DictEntry.mk (@PySem.PyData.keyHash P (Str.ofString "take_off")) (@PySem.Value.str (Str.ofString "take_off") 379) (@PySem.Value.ref 160)), (@PySem.DictEntry.mk (@PySem.PyData.keyHash P (Str.ofString "echelon")) (@PySem.Value.str (Str.ofString "echelon") 385) (@PySem.Value.ref 165)), (@PySem.DictEntry.mk (@PySem.PyData.keyHash P (Str.ofString "charpoly")) (@PySem.Value.str (Str.ofString "charpoly") 399) (@PySem.Value.ref 172)), (@PySem.DictEntry.mk (@PySem.PyData.keyHash P (Str.ofString "poly_of_matrix")) (@PySem.Value.str (Str.ofString "poly_of_matrix") 409) (@PySem.Value.ref 179)), (@PySem.DictEntry.mk (@PySem.PyData.keyHash P (Str.ofString "flat")) (@PySem.Value.str (Str.ofString "flat") 418) (@PySem.Value.ref 186)), (@PySem.DictEntry.mk (@PySem.PyData.keyHash P (Str.ofString "minpoly")) (@PySem.Value.str (Str.ofString "minpoly") 428) (@PySem.Value.ref 193)), (@PySem.DictEntry.mk (@PySem.PyData.keyHash P (Str.ofString "dependence")) (@PySem.Value.str (Str.ofString "dependence") 441) (@PySem.Value.ref 200)), (@PySem.DictEntry.mk (@PySem.PyData.keyHash P (Str.ofString "_law_take")) (@PySem.Value.str (Str.ofString "_law_take") 451) (@PySem.Value.ref 207)), (@PySem.DictEntry.mk (@PySem.PyData.keyHash P (Str.ofString "_law_box")) (@PySem.Value.str (Str.ofString "_law_box") 460) (@PySem.Value.ref 214)), (@PySem.DictEntry.mk (@PySem.PyData.keyHash P (Str.ofString "_law_whole")) (@PySem.Value.str (Str.ofString "_law_whole") 467) (@PySem.Value.ref 221)), (@PySem.DictEntry.mk (@PySem.PyData.keyHash P (Str.ofString "_law_grid")) (@PySem.Value.str (Str.ofString "_law_grid") 473) (@PySem.Value.ref 226)), (@PySem.DictEntry.mk (@PySem.PyData.keyHash P (Str.ofString "_law_det")) (@PySem.Value.str (Str.ofString "_law_det") 479) (@PySem.Value.ref 231)), (@PySem.DictEntry.mk (@PySem.PyData.keyHash P (Str.ofString "_law_at")) (@PySem.Value.str (Str.ofString "_law_at") 490) (@PySem.Value.ref 238)), (@PySem.DictEntry.mk (@PySem.PyData.keyHash P (Str.ofString "_law_rest")) (@PySem.Value.str (Str.ofString "_law_rest") 502) (@PySem.Value.ref 245)), (@PySem.DictEntry.mk (@PySem.PyData.keyHash P (Str.ofString "_law_product")) (@PySem.Value.str (Str.ofString "_law_product") 515) (@PySem.Value.ref 252)), (@PySem.DictEntry.mk (@PySem.PyData.keyHash P (Str.ofString "law")) (@PySem.Value.str (Str.ofString "law") 521) (@PySem.Value.ref 257))]) 47) (List.toArray []))
noncomputable def ob257 (P : Params) : Obj := (@PySem.Obj.mk PySem.Value.none none (@PySem.Data.fields (List.toArray [(@PySem.Value.int (2 : Int) 0), (@PySem.Value.int (0 : Int) 0), (@PySem.Value.ref 20), (@PySem.Value.int (9 : Int) 0), (@PySem.Value.int (0 : Int) 0), (@PySem.Value.ref 40), (@PySem.Value.int (17 : Int) 0), (@PySem.Value.int (0 : Int) 0), (@PySem.Value.ref 49), (@PySem.Value.int (22 : Int) 0), (@PySem.Value.int (0 : Int) 0), (@PySem.Value.ref 56), (@PySem.Value.int (24 : Int) 0), (@PySem.Value.int (0 : Int) 0), (@PySem.Value.ref 63), (@PySem.Value.int (26 : Int) 0), (@PySem.Value.int (0 : Int) 0), (@PySem.Value.ref 70), (@PySem.Value.int (28 : Int) 0), (@PySem.Value.int (0 : Int) 0), (@PySem.Value.ref 77), (@PySem.Value.int (30 : Int) 0), (@PySem.Value.int (0 : Int) 0), (@PySem.Value.ref 84), (@PySem.Value.int (33 : Int) 0), (@PySem.Value.int (0 : Int) 0), (@PySem.Value.ref 91), (@PySem.Value.int (35 : Int) 0), (@PySem.Value.int (0 : Int) 0), (@PySem.Value.ref 98), (@PySem.Value.int (38 : Int) 0), (@PySem.Value.int (0 : Int) 0), (@PySem.Value.ref 103), (@PySem.Value.int (40 : Int) 0), (@PySem.Value.int (0 : Int) 0), (@PySem.Value.ref 108), (@PySem.Value.int (42 : Int) 0), (@PySem.Value.int (0 : Int) 0), (@PySem.Value.ref 113), (@PySem.Value.int (44 : Int) 0), (@PySem.Value.int (0 : Int) 0), (@PySem.Value.ref 118), (@PySem.Value.int (46 : Int) 0), (@PySem.Value.int (0 : Int) 0), (@PySem.Value.ref 125), (@PySem.Value.int (51 : Int) 0), (@PySem.Value.int (0 : Int) 0), (@PySem.Value.ref 130), (@PySem.Value.int (54 : Int) 0), (@PySem.Value.int (0 : Int) 0), (@PySem.Value.ref 135), (@PySem.Value.int (56 : Int) 0), (@PySem.Value.int (0 : Int) 0), (@PySem.Value.ref 140), (@PySem.Value.int (60 : Int) 0), (@PySem.Value.int (0 : Int) 0), (@PySem.Value.ref 147), (@PySem.Value.int (65 : Int) 0), (@PySem.Value.int (0 : Int) 0), (@PySem.Value.ref 154), (@PySem.Value.int (67 : Int) 0), (@PySem.Value.int (0 : Int) 0), (@PySem.Value.ref 159), (@PySem.Value.int (69 : Int) 0), (@PySem.Value.int (0 : Int) 0), (@PySem.Value.ref 164), (@PySem.Value.int (85 : Int) 0), (@PySem.Value.int (0 : Int) 0), (@PySem.Value.ref 171), (@PySem.Value.int (96 : Int) 0), (@PySem.Value.int (0 : Int) 0), (@PySem.Value.ref 178), (@PySem.Value.int (101 : Int) 0), (@PySem.Value.int (0 : Int) 0), (@PySem.Value.ref 185), (@PySem.Value.int (106 : Int) 0), (@PySem.Value.int (0 : Int) 0), (@PySem.Value.ref 192), (@PySem.Value.int (114 : Int) 0), (@PySem.Value.int (0 : Int) 0), (@PySem.Value.ref 199), (@PySem.Value.int (124 : Int) 0), (@PySem.Value.int (0 : Int) 0), (@PySem.Value.ref 206), (@PySem.Value.int (129 : Int) 0), (@PySem.Value.int (0 : Int) 0), (@PySem.Value.ref 213), (@PySem.Value.int (134 : Int) 0), (@PySem.Value.int (0 : Int) 0), (@PySem.Value.ref 220), (@PySem.Value.int (136 : Int) 0), (@PySem.Value.int (0 : Int) 0), (@PySem.Value.ref 225), (@PySem.Value.int (142 : Int) 0), (@PySem.Value.int (0 : Int) 0), (@PySem.Value.ref 230), (@PySem.Value.int (151 : Int) 0), (@PySem.Value.int (0 : Int) 0), (@PySem.Value.ref 237), (@PySem.Value.int (156 : Int) 0), (@PySem.Value.int (0 : Int) 0), (@PySem.Value.ref 244), (@PySem.Value.int (164 : Int) 0), (@PySem.Value.int (0 : Int) 0), (@PySem.Value.ref 251), (@PySem.Value.int (170 : Int) 0), (@PySem.Value.int (0 : Int) 0), (@PySem.Value.ref 256)])) (List.toArray []))
noncomputable def ob258 (P : Params) : Obj := (@PySem.Obj.mk (@PySem.Value.type "tuple") none (@PySem.Data.seq (List.toArray []) 0) (List.toArray []))
noncomputable def ob259 (P : Params) : Obj := (@PySem.Obj.mk PySem.Value.none none (@PySem.Data.fields (List.toArray [])) (List.toArray []))
noncomputable def ob260 (P : Params) : Obj := (@PySem.Obj.mk (@PySem.Value.type "tuple") none (@PySem.Data.seq (List.toArray [(@PySem.Value.str (Str.ofString "box") 464)]) 0) (List.toArray []))
noncomputable def ob261 (P : Params) : Obj := (@PySem.Obj.mk (@PySem.Value.type "tuple") none (@PySem.Data.seq (List.toArray []) 0) (List.toArray []))
noncomputable def ob262 (P : Params) : Obj := (@PySem.Obj.mk PySem.Value.none none (@PySem.Data.func (PySem.FuncData.mk (Str.ofString "_law_whole") (Str.ofString "_law_whole") (fd 37).params (.stmts (fd 37).body) (fd 37).scope 0 [] PySem.Value.none PySem.Value.none PySem.Value.none PySem.Value.none none PySem.Value.none PySem.Value.none 0)) (List.toArray []))
noncomputable def ob263 (P : Params) : Obj := (@PySem.Obj.mk (@PySem.Value.type "code") none (@PySem.Data.fields (List.toArray [(@PySem.Value.str (Str.ofString "_law_whole") 461), (@PySem.Value.str (Str.ofString "_law_whole") 462), (@PySem.Value.str (Str.ofString "/claim/cut.py") 463), (@PySem.Value.int (134 : Int) 0), (@PySem.Value.int (1 : Int) 0), (@PySem.Value.int (0 : Int) 0), (@PySem.Value.int (0 : Int) 0), (@PySem.Value.int (3 : Int) 0), (@PySem.Value.ref 215), (@PySem.Value.bool Bool.true), (@PySem.Value.int (181 : Int) 0), (@PySem.Value.ref 216), PySem.Value.none, (@PySem.Value.ref 217), (@PySem.Value.ref 218), (@PySem.Value.ref 219), (@PySem.Value.int (465 : Int) 0), (@PySem.Value.int (134 : Int) 0), (@PySem.Value.str (Str.ofString "/claim/cut.py") 466)])) (List.toArray []))
noncomputable def ob264 (P : Params) : Obj := (@PySem.Obj.mk (@PySem.Value.type "function") none (@PySem.Data.func (PySem.FuncData.mk (Str.ofString "_law_whole") (Str.ofString "_law_whole") (fd 37).params (.stmts (fd 37).body) (fd 37).scope 3 [] PySem.Value.none PySem.Value.none PySem.Value.none (@PySem.Value.str (Str.ofString "law_nn0263_01") 442) none (@PySem.Value.ref 220) PySem.Value.none 0)) (List.toArray []))
noncomputable def ob265 (P : Params) : Obj := (@PySem.Obj.mk (@PySem.Value.type "tuple") none (@PySem.Data.seq (List.toArray []) 0) (List.toArray []))
noncomputable def ob266 (P : Params) : Obj := (@PySem.Obj.mk PySem.Value.none none (@PySem.Data.fields (List.toArray [])) (List.toArray []))
noncomputable def ob267 (P : Params) : Obj := (@PySem.Obj.mk PySem.Value.none none (@PySem.Data.func (PySem.FuncData.mk (Str.ofString "_law_grid") (Str.ofString "_law_grid") (fd 38).params (.stmts (fd 38).body) (fd 38).scope 0 [] PySem.Value.none PySem.Value.none PySem.Value.none PySem.Value.none none PySem.Value.none PySem.Value.none 0)) (List.toArray []))
noncomputable def ob268 (P : Params) : Obj := (@PySem.Obj.mk (@PySem.Value.type "code") none (@PySem.Data.fields (List.toArray [(@PySem.Value.str (Str.ofString "_law_grid") 468), (@PySem.Value.str (Str.ofString "_law_grid") 469), (@PySem.Value.str (Str.ofString "/claim/cut.py") 470), (@PySem.Value.int (136 : Int) 0), (@PySem.Value.int (3 : Int) 0), (@PySem.Value.int (0 : Int) 0), (@PySem.Value.int (0 : Int) 0), (@PySem.Value.int (3 : Int) 0), (@PySem.Value.ref 222), (@PySem.Value.bool Bool.true), (@PySem.Value.int (181 : Int) 0), (@PySem.Value.ref 223), PySem.Value.none, PySem.Value.none, PySem.Value.none, (@PySem.Value.ref 224), (@PySem.Value.int (471 : Int) 0), (@PySem.Value.int (136 : Int) 0), (@PySem.Value.str (Str.ofString "/claim/cut.py") 472)])) (List.toArray []))
noncomputable def ob269 (P : Params) : Obj := (@PySem.Obj.mk (@PySem.Value.type "function") none (@PySem.Data.func (PySem.FuncData.mk (Str.ofString "_law_grid") (Str.ofString "_law_grid") (fd 38).params (.stmts (fd 38).body) (fd 38).scope 3 [] PySem.Value.none PySem.Value.none PySem.Value.none (@PySem.Value.str (Str.ofString "law_nn0263_01") 442) none (@PySem.Value.ref 225) PySem.Value.none 0)) (List.toArray []))
noncomputable def ob270 (P : Params) : Obj := (@PySem.Obj.mk (@PySem.Value.type "tuple") none (@PySem.Data.seq (List.toArray []) 0) (List.toArray []))
noncomputable def ob271 (P : Params) : Obj := (@PySem.Obj.mk PySem.Value.none none (@PySem.Data.fields (List.toArray [])) (List.toArray []))
noncomputable def ob272 (P : Params) : Obj := (@PySem.Obj.mk PySem.Value.none none (@PySem.Data.func (PySem.FuncData.mk (Str.ofString "_law_det") (Str.ofString "_law_det") (fd 39).params (.stmts (fd 39).body) (fd 39).scope 0 [] PySem.Value.none PySem.Value.none PySem.Value.none PySem.Value.none none PySem.Value.none PySem.Value.none 0)) (List.toArray []))
noncomputable def ob273 (P : Params) : Obj := (@PySem.Obj.mk (@PySem.Value.type "code") none (@PySem.Data.fields (List.toArray [(@PySem.Value.str (Str.ofString "_law_det") 474), (@PySem.Value.str (Str.ofString "_law_det") 475), (@PySem.Value.str (Str.ofString "/claim/cut.py") 476), (@PySem.Value.int (142 : Int) 0), (@PySem.Value.int (1 : Int) 0), (@PySem.Value.int (0 : Int) 0), (@PySem.Value.int (0 : Int) 0), (@PySem.Value.int (3 : Int) 0), (@PySem.Value.ref 227), (@PySem.Value.bool Bool.true), (@PySem.Value.int (181 : Int) 0), (@PySem.Value.ref 228), PySem.Value.none, PySem.Value.none, PySem.Value.none, (@PySem.Value.ref 229), (@PySem.Value.int (477 : Int) 0), (@PySem.Value.int (142 : Int) 0), (@PySem.Value.str (Str.ofString "/claim/cut.py") 478)])) (List.toArray []))
noncomputable def ob274 (P : Params) : Obj := (@PySem.Obj.mk (@PySem.Value.type "function") none (@PySem.Data.func (PySem.FuncData.mk (Str.ofString "_law_det") (Str.ofString "_law_det") (fd 39).params (.stmts (fd 39).body) (fd 39).scope 3 [] PySem.Value.none PySem.Value.none PySem.Value.none (@PySem.Value.str (Str.ofString "law_nn0263_01") 442) none (@PySem.Value.ref 230) PySem.Value.none 0)) (List.toArray []))
noncomputable def ob275 (P : Params) : Obj := (@PySem.Obj.mk (@PySem.Value.type "tuple") none (@PySem.Data.seq (List.toArray []) 0) (List.toArray []))
noncomputable def ob276 (P : Params) : Obj := (@PySem.Obj.mk PySem.Value.none none (@PySem.Data.fields (List.toArray [])) (List.toArray []))
noncomputable def ob277 (P : Params) : Obj := (@PySem.Obj.mk (@PySem.Value.type "tuple") none (@PySem.Data.seq (List.toArray [(@PySem.Value.str (Str.ofString "polynomial") 483), (@PySem.Value.str (Str.ofString "number") 484), (@PySem.Value.str (Str.ofString "worth") 485), (@PySem.Value.str (Str.ofString "top") 486), (@PySem.Value.str (Str.ofString "bottom") 487)]) 0) (List.toArray []))
noncomputable def ob278 (P : Params) : Obj := (@PySem.Obj.mk (@PySem.Value.type "tuple") none (@PySem.Data.seq (List.toArray []) 0) (List.toArray []))
noncomputable def ob279 (P : Params) : Obj := (@PySem.Obj.mk PySem.Value.none none (@PySem.Data.func (PySem.FuncData.mk (Str.ofString "_law_at") (Str.ofString "_law_at") (fd 40).params (.stmts (fd 40).body) (fd 40).scope 0 [] PySem.Value.none PySem.Value.none PySem.Value.none PySem.Value.none none PySem.Value.none PySem.Value.none 0)) (List.toArray []))
noncomputable def ob280 (P : Params) : Obj := (@PySem.Obj.mk (@PySem.Value.type "code") none (@PySem.Data.fields (List.toArray [(@PySem.Value.str (Str.ofString "_law_at") 480), (@PySem.Value.str (Str.ofString "_law_at") 481), (@PySem.Value.str (Str.ofString "/claim/cut.py") 482), (@PySem.Value.int (151 : Int) 0), (@PySem.Value.int (2 : Int) 0), (@PySem.Value.int (0 : Int) 0), (@PySem.Value.int (0 : Int) 0), (@PySem.Value.int (3 : Int) 0), (@PySem.Value.ref 232), (@PySem.Value.bool Bool.true), (@PySem.Value.int (181 : Int) 0), (@PySem.Value.ref 233), PySem.Value.none, (@PySem.Value.ref 234), (@PySem.Value.ref 235), (@PySem.Value.ref 236), (@PySem.Value.int (488 : Int) 0), (@PySem.Value.int (151 : Int) 0), (@PySem.Value.str (Str.ofString "/claim/cut.py") 489)])) (List.toArray []))
noncomputable def ob281 (P : Params) : Obj := (@PySem.Obj.mk (@PySem.Value.type "function") none (@PySem.Data.func (PySem.FuncData.mk (Str.ofString "_law_at") (Str.ofString "_law_at") (fd 40).params (.stmts (fd 40).body) (fd 40).scope 3 [] PySem.Value.none PySem.Value.none PySem.Value.none (@PySem.Value.str (Str.ofString "law_nn0263_01") 442) none (@PySem.Value.ref 237) PySem.Value.none 0)) (List.toArray []))
noncomputable def ob282 (P : Params) : Obj := (@PySem.Obj.mk (@PySem.Value.type "tuple") none (@PySem.Data.seq (List.toArray []) 0) (List.toArray []))
noncomputable def ob283 (P : Params) : Obj := (@PySem.Obj.mk PySem.Value.none none (@PySem.Data.fields (List.toArray [])) (List.toArray []))
noncomputable def ob284 (P : Params) : Obj := (@PySem.Obj.mk (@PySem.Value.type "tuple") none (@PySem.Data.seq (List.toArray [(@PySem.Value.str (Str.ofString "one") 494), (@PySem.Value.str (Str.ofString "two") 495), (@PySem.Value.str (Str.ofString "rest") 496), (@PySem.Value.str (Str.ofString "front") 497), (@PySem.Value.str (Str.ofString "at") 498), (@PySem.Value.str (Str.ofString "thing") 499)]) 0) (List.toArray []))
noncomputable def ob285 (P : Params) : Obj := (@PySem.Obj.mk (@PySem.Value.type "tuple") none (@PySem.Data.seq (List.toArray []) 0) (List.toArray []))
noncomputable def ob286 (P : Params) : Obj := (@PySem.Obj.mk PySem.Value.none none (@PySem.Data.func (PySem.FuncData.mk (Str.ofString "_law_rest") (Str.ofString "_law_rest") (fd 41).params (.stmts (fd 41).body) (fd 41).scope 0 [] PySem.Value.none PySem.Value.none PySem.Value.none PySem.Value.none none PySem.Value.none PySem.Value.none 0)) (List.toArray []))
noncomputable def ob287 (P : Params) : Obj := (@PySem.Obj.mk (@PySem.Value.type "code") none (@PySem.Data.fields (List.toArray [(@PySem.Value.str (Str.ofString "_law_rest") 491), (@PySem.Value.str (Str.ofString "_law_rest") 492), (@PySem.Value.str (Str.ofString "/claim/cut.py") 493), (@PySem.Value.int (156 : Int) 0), (@PySem.Value.int (2 : Int) 0), (@PySem.Value.int (0 : Int) 0), (@PySem.Value.int (0 : Int) 0), (@PySem.Value.int (3 : Int) 0), (@PySem.Value.ref 239), (@PySem.Value.bool Bool.true), (@PySem.Value.int (181 : Int) 0), (@PySem.Value.ref 240), PySem.Value.none, (@PySem.Value.ref 241), (@PySem.Value.ref 242), (@PySem.Value.ref 243), (@PySem.Value.int (500 : Int) 0), (@PySem.Value.int (156 : Int) 0), (@PySem.Value.str (Str.ofString "/claim/cut.py") 501)])) (List.toArray []))
noncomputable def ob288 (P : Params) : Obj := (@PySem.Obj.mk (@PySem.Value.type "function") none (@PySem.Data.func (PySem.FuncData.mk (Str.ofString "_law_rest") (Str.ofString "_law_rest") (fd 41).params (.stmts (fd 41).body) (fd 41).scope 3 [] PySem.Value.none PySem.Value.none PySem.Value.none (@PySem.Value.str (Str.ofString "law_nn0263_01") 442) none (@PySem.Value.ref 244) PySem.Value.none 0)) (List.toArray []))
noncomputable def ob289 (P : Params) : Obj := (@PySem.Obj.mk (@PySem.Value.type "tuple") none (@PySem.Data.seq (List.toArray []) 0) (List.toArray []))
noncomputable def ob290 (P : Params) : Obj := (@PySem.Obj.mk PySem.Value.none none (@PySem.Data.fields (List.toArray [])) (List.toArray []))
noncomputable def ob291 (P : Params) : Obj := (@PySem.Obj.mk (@PySem.Value.type "tuple") none (@PySem.Data.seq (List.toArray [(@PySem.Value.str (Str.ofString "one") 506), (@PySem.Value.str (Str.ofString "two") 507), (@PySem.Value.str (Str.ofString "worth") 508), (@PySem.Value.str (Str.ofString "at") 509), (@PySem.Value.str (Str.ofString "left") 510), (@PySem.Value.str (Str.ofString "spot") 511), (@PySem.Value.str (Str.ofString "right") 512)]) 0) (List.toArray []))
noncomputable def ob292 (P : Params) : Obj := (@PySem.Obj.mk (@PySem.Value.type "tuple") none (@PySem.Data.seq (List.toArray []) 0) (List.toArray []))
noncomputable def ob293 (P : Params) : Obj := (@PySem.Obj.mk PySem.Value.none none (@PySem.Data.func (PySem.FuncData.mk (Str.ofString "_law_product") (Str.ofString "_law_product") (fd 42).params (.stmts (fd 42).body) (fd 42).scope 0 [] PySem.Value.none PySem.Value.none PySem.Value.none PySem.Value.none none PySem.Value.none PySem.Value.none 0)) (List.toArray []))
noncomputable def ob294 (P : Params) : Obj := (@PySem.Obj.mk (@PySem.Value.type "code") none (@PySem.Data.fields (List.toArray [(@PySem.Value.str (Str.ofString "_law_product") 503), (@PySem.Value.str (Str.ofString "_law_product") 504), (@PySem.Value.str (Str.ofString "/claim/cut.py") 505), (@PySem.Value.int (164 : Int) 0), (@PySem.Value.int (2 : Int) 0), (@PySem.Value.int (0 : Int) 0), (@PySem.Value.int (0 : Int) 0), (@PySem.Value.int (3 : Int) 0), (@PySem.Value.ref 246), (@PySem.Value.bool Bool.true), (@PySem.Value.int (181 : Int) 0), (@PySem.Value.ref 247), PySem.Value.none, (@PySem.Value.ref 248), (@PySem.Value.ref 249), (@PySem.Value.ref 250), (@PySem.Value.int (513 : Int) 0), (@PySem.Value.int (164 : Int) 0), (@PySem.Value.str (Str.ofString "/claim/cut.py") 514)])) (List.toArray []))
noncomputable def ob295 (P : Params) : Obj := (@PySem.Obj.mk (@PySem.Value.type "function") none (@PySem.Data.func (PySem.FuncData.mk (Str.ofString "_law_product") (Str.ofString "_law_product") (fd 42).params (.stmts (fd 42).body) (fd 42).scope 3 [] PySem.Value.none PySem.Value.none PySem.Value.none (@PySem.Value.str (Str.ofString "law_nn0263_01") 442) none (@PySem.Value.ref 251) PySem.Value.none 0)) (List.toArray []))
noncomputable def ob296 (P : Params) : Obj := (@PySem.Obj.mk (@PySem.Value.type "tuple") none (@PySem.Data.seq (List.toArray []) 0) (List.toArray []))
noncomputable def ob297 (P : Params) : Obj := (@PySem.Obj.mk PySem.Value.none none (@PySem.Data.fields (List.toArray [])) (List.toArray []))
noncomputable def ob298 (P : Params) : Obj := (@PySem.Obj.mk PySem.Value.none none (@PySem.Data.func (PySem.FuncData.mk (Str.ofString "law") (Str.ofString "law") (fd 43).params (.stmts (fd 43).body) (fd 43).scope 0 [] PySem.Value.none PySem.Value.none PySem.Value.none PySem.Value.none none PySem.Value.none PySem.Value.none 0)) (List.toArray []))
noncomputable def ob299 (P : Params) : Obj := (@PySem.Obj.mk (@PySem.Value.type "code") none (@PySem.Data.fields (List.toArray [(@PySem.Value.str (Str.ofString "law") 516), (@PySem.Value.str (Str.ofString "law") 517), (@PySem.Value.str (Str.ofString "/claim/cut.py") 518), (@PySem.Value.int (170 : Int) 0), (@PySem.Value.int (1 : Int) 0), (@PySem.Value.int (0 : Int) 0), (@PySem.Value.int (0 : Int) 0), (@PySem.Value.int (3 : Int) 0), (@PySem.Value.ref 253), (@PySem.Value.bool Bool.true), (@PySem.Value.int (181 : Int) 0), (@PySem.Value.ref 254), PySem.Value.none, PySem.Value.none, PySem.Value.none, (@PySem.Value.ref 255), (@PySem.Value.int (519 : Int) 0), (@PySem.Value.int (170 : Int) 0), (@PySem.Value.str (Str.ofString "/claim/cut.py") 520)])) (List.toArray []))
noncomputable def ob300 (P : Params) : Obj := (@PySem.Obj.mk (@PySem.Value.type "function") none (@PySem.Data.func (PySem.FuncData.mk (Str.ofString "law") (Str.ofString "law") (fd 43).params (.stmts (fd 43).body) (fd 43).scope 3 [] PySem.Value.none PySem.Value.none PySem.Value.none (@PySem.Value.str (Str.ofString "law_nn0263_01") 442) none (@PySem.Value.ref 256) PySem.Value.none 0)) (List.toArray []))
noncomputable def heap46 (P : Params) : Heap := (@PySem.Heap.mk (@Array.mk PySem.Obj [(@PySem.W.boot_o_0 P), (@PySem.W.boot_o_1 P), (@PySem.W.boot_o_2 P), (@PySem.W.boot_o_3 P), (@PySem.W.boot_o_4 P), (@PySem.W.boot_o_5 P), (@PySem.W.boot_o_6 P), (@PySem.W.boot_o_7 P), (@PySem.W.boot_o_8 P), (@PySem.W.boot_o_9 P), (@PySem.W.boot_o_10 P), (@ob43 P), (@ob44 P), (@ob45 P), (@ob46 P)]) (@PySem.Life.mk [] [] [] 0 [] [] Bool.false (List.toArray []) [] 0 Bool.false Bool.false Bool.false (0 : Int) [(2000 : Int), (10 : Int), (10 : Int)] Bool.false 0 Bool.true [] [] 0 Bool.false))
noncomputable def tr47 (P : Params) : BT := (BT.node (@boot_o_0 P) (BT.node (@boot_o_1 P) (BT.node (@boot_o_3 P) (BT.node (@boot_o_7 P) .nil .nil) (BT.node (@ob43 P) .nil .nil)) (BT.node (@boot_o_5 P) (BT.node (@boot_o_9 P) .nil .nil) (BT.node (@ob45 P) .nil .nil))) (BT.node (@boot_o_2 P) (BT.node (@boot_o_4 P) (BT.node (@boot_o_8 P) .nil .nil) (BT.node (@ob44 P) .nil .nil)) (BT.node (@boot_o_6 P) (BT.node (@boot_o_10 P) .nil .nil) (BT.node (@ob46 P) .nil .nil))))
noncomputable def tr94 (P : Params) : BT := (BT.node (@boot_o_0 P) (BT.node (@boot_o_1 P) (BT.node (@ob50 P) (BT.node (@boot_o_7 P) (BT.node (@ob52 P) (BT.node (@ob68 P) .nil .nil) (BT.node (@ob84 P) .nil .nil)) (BT.node (@ob60 P) (BT.node (@ob76 P) .nil .nil) (BT.node (@ob92 P) .nil .nil))) (BT.node (@ob43 P) (BT.node (@ob56 P) (BT.node (@ob72 P) .nil .nil) (BT.node (@ob88 P) .nil .nil)) (BT.node (@ob64 P) (BT.node (@ob80 P) .nil .nil) .nil))) (BT.node (@boot_o_5 P) (BT.node (@boot_o_9 P) (BT.node (@ob54 P) (BT.node (@ob70 P) .nil .nil) (BT.node (@ob86 P) .nil .nil)) (BT.node (@ob62 P) (BT.node (@ob78 P) .nil .nil) (BT.node (@ob94 P) .nil .nil))) (BT.node (@ob45 P) (BT.node (@ob58 P) (BT.node (@ob74 P) .nil .nil) (BT.node (@ob90 P) .nil .nil)) (BT.node (@ob66 P) (BT.node (@ob82 P) .nil .nil) .nil)))) (BT.node (@ob49 P) (BT.node (@boot_o_4 P) (BT.node (@boot_o_8 P) (BT.node (@ob53 P) (BT.node (@ob69 P) .nil .nil) (BT.node (@ob85 P) .nil .nil)) (BT.node (@ob61 P) (BT.node (@ob77 P) .nil .nil) (BT.node (@ob93 P) .nil .nil))) (BT.node (@ob51 P) (BT.node (@ob57 P) (BT.node (@ob73 P) .nil .nil) (BT.node (@ob89 P) .nil .nil)) (BT.node (@ob65 P) (BT.node (@ob81 P) .nil .nil) .nil))) (BT.node (@boot_o_6 P) (BT.node (@boot_o_10 P) (BT.node (@ob55 P) (BT.node (@ob71 P) .nil .nil) (BT.node (@ob87 P) .nil .nil)) (BT.node (@ob63 P) (BT.node (@ob79 P) .nil .nil) .nil)) (BT.node (@ob46 P) (BT.node (@ob59 P) (BT.node (@ob75 P) .nil .nil) (BT.node (@ob91 P) .nil .nil)) (BT.node (@ob67 P) (BT.node (@ob83 P) .nil .nil) .nil)))))
noncomputable def tr175 (P : Params) : BT := (BT.node (@boot_o_0 P) (BT.node (@boot_o_1 P) (BT.node (@ob95 P) (BT.node (@boot_o_7 P) (BT.node (@ob52 P) (BT.node (@ob68 P) (BT.node (@ob102 P) (BT.node (@ob166 P) .nil .nil) .nil) (BT.node (@ob134 P) .nil .nil)) (BT.node (@ob84 P) (BT.node (@ob118 P) .nil .nil) (BT.node (@ob150 P) .nil .nil))) (BT.node (@ob60 P) (BT.node (@ob76 P) (BT.node (@ob110 P) (BT.node (@ob174 P) .nil .nil) .nil) (BT.node (@ob142 P) .nil .nil)) (BT.node (@ob92 P) (BT.node (@ob126 P) .nil .nil) (BT.node (@ob158 P) .nil .nil)))) (BT.node (@ob43 P) (BT.node (@ob56 P) (BT.node (@ob72 P) (BT.node (@ob106 P) (BT.node (@ob170 P) .nil .nil) .nil) (BT.node (@ob138 P) .nil .nil)) (BT.node (@ob88 P) (BT.node (@ob122 P) .nil .nil) (BT.node (@ob154 P) .nil .nil))) (BT.node (@ob64 P) (BT.node (@ob80 P) (BT.node (@ob114 P) .nil .nil) (BT.node (@ob146 P) .nil .nil)) (BT.node (@ob98 P) (BT.node (@ob130 P) .nil .nil) (BT.node (@ob162 P) .nil .nil))))) (BT.node (@boot_o_5 P) (BT.node (@boot_o_9 P) (BT.node (@ob54 P) (BT.node (@ob70 P) (BT.node (@ob104 P) (BT.node (@ob168 P) .nil .nil) .nil) (BT.node (@ob136 P) .nil .nil)) (BT.node (@ob86 P) (BT.node (@ob120 P) .nil .nil) (BT.node (@ob152 P) .nil .nil))) (BT.node (@ob62 P) (BT.node (@ob78 P) (BT.node (@ob112 P) .nil .nil) (BT.node (@ob144 P) .nil .nil)) (BT.node (@ob94 P) (BT.node (@ob128 P) .nil .nil) (BT.node (@ob160 P) .nil .nil)))) (BT.node (@ob45 P) (BT.node (@ob58 P) (BT.node (@ob74 P) (BT.node (@ob108 P) (BT.node (@ob172 P) .nil .nil) .nil) (BT.node (@ob140 P) .nil .nil)) (BT.node (@ob90 P) (BT.node (@ob124 P) .nil .nil) (BT.node (@ob156 P) .nil .nil))) (BT.node (@ob66 P) (BT.node (@ob82 P) (BT.node (@ob116 P) .nil .nil) (BT.node (@ob148 P) .nil .nil)) (BT.node (@ob100 P) (BT.node (@ob132 P) .nil .nil) (BT.node (@ob164 P) .nil .nil)))))) (BT.node (@ob49 P) (BT.node (@boot_o_4 P) (BT.node (@boot_o_8 P) (BT.node (@ob53 P) (BT.node (@ob69 P) (BT.node (@ob103 P) (BT.node (@ob167 P) .nil .nil) .nil) (BT.node (@ob135 P) .nil .nil)) (BT.node (@ob85 P) (BT.node (@ob119 P) .nil .nil) (BT.node (@ob151 P) .nil .nil))) (BT.node (@ob61 P) (BT.node (@ob77 P) (BT.node (@ob111 P) (BT.node (@ob175 P) .nil .nil) .nil) (BT.node (@ob143 P) .nil .nil)) (BT.node (@ob93 P) (BT.node (@ob127 P) .nil .nil) (BT.node (@ob159 P) .nil .nil)))) (BT.node (@ob96 P) (BT.node (@ob57 P) (BT.node (@ob73 P) (BT.node (@ob107 P) (BT.node (@ob171 P) .nil .nil) .nil) (BT.node (@ob139 P) .nil .nil)) (BT.node (@ob89 P) (BT.node (@ob123 P) .nil .nil) (BT.node (@ob155 P) .nil .nil))) (BT.node (@ob65 P) (BT.node (@ob81 P) (BT.node (@ob115 P) .nil .nil) (BT.node (@ob147 P) .nil .nil)) (BT.node (@ob99 P) (BT.node (@ob131 P) .nil .nil) (BT.node (@ob163 P) .nil .nil))))) (BT.node (@boot_o_6 P) (BT.node (@boot_o_10 P) (BT.node (@ob55 P) (BT.node (@ob71 P) (BT.node (@ob105 P) (BT.node (@ob169 P) .nil .nil) .nil) (BT.node (@ob137 P) .nil .nil)) (BT.node (@ob87 P) (BT.node (@ob121 P) .nil .nil) (BT.node (@ob153 P) .nil .nil))) (BT.node (@ob63 P) (BT.node (@ob79 P) (BT.node (@ob113 P) .nil .nil) (BT.node (@ob145 P) .nil .nil)) (BT.node (@ob97 P) (BT.node (@ob129 P) .nil .nil) (BT.node (@ob161 P) .nil .nil)))) (BT.node (@ob46 P) (BT.node (@ob59 P) (BT.node (@ob75 P) (BT.node (@ob109 P) (BT.node (@ob173 P) .nil .nil) .nil) (BT.node (@ob141 P) .nil .nil)) (BT.node (@ob91 P) (BT.node (@ob125 P) .nil .nil) (BT.node (@ob157 P) .nil .nil))) (BT.node (@ob67 P) (BT.node (@ob83 P) (BT.node (@ob117 P) .nil .nil) (BT.node (@ob149 P) .nil .nil)) (BT.node (@ob101 P) (BT.node (@ob133 P) .nil .nil) (BT.node (@ob165 P) .nil .nil)))))))
noncomputable def tr255 (P : Params) : BT := (BT.node (@boot_o_0 P) (BT.node (@boot_o_1 P) (BT.node (@ob176 P) (BT.node (@boot_o_7 P) (BT.node (@ob52 P) (BT.node (@ob68 P) (BT.node (@ob102 P) (BT.node (@ob166 P) .nil .nil) (BT.node (@ob232 P) .nil .nil)) (BT.node (@ob134 P) (BT.node (@ob200 P) .nil .nil) .nil)) (BT.node (@ob84 P) (BT.node (@ob118 P) (BT.node (@ob184 P) .nil .nil) (BT.node (@ob248 P) .nil .nil)) (BT.node (@ob150 P) (BT.node (@ob216 P) .nil .nil) .nil))) (BT.node (@ob60 P) (BT.node (@ob76 P) (BT.node (@ob110 P) (BT.node (@ob174 P) .nil .nil) (BT.node (@ob240 P) .nil .nil)) (BT.node (@ob142 P) (BT.node (@ob208 P) .nil .nil) .nil)) (BT.node (@ob92 P) (BT.node (@ob126 P) (BT.node (@ob192 P) .nil .nil) .nil) (BT.node (@ob158 P) (BT.node (@ob224 P) .nil .nil) .nil)))) (BT.node (@ob43 P) (BT.node (@ob56 P) (BT.node (@ob72 P) (BT.node (@ob106 P) (BT.node (@ob170 P) .nil .nil) (BT.node (@ob236 P) .nil .nil)) (BT.node (@ob138 P) (BT.node (@ob204 P) .nil .nil) .nil)) (BT.node (@ob88 P) (BT.node (@ob122 P) (BT.node (@ob188 P) .nil .nil) (BT.node (@ob252 P) .nil .nil)) (BT.node (@ob154 P) (BT.node (@ob220 P) .nil .nil) .nil))) (BT.node (@ob64 P) (BT.node (@ob80 P) (BT.node (@ob114 P) (BT.node (@ob180 P) .nil .nil) (BT.node (@ob244 P) .nil .nil)) (BT.node (@ob146 P) (BT.node (@ob212 P) .nil .nil) .nil)) (BT.node (@ob98 P) (BT.node (@ob130 P) (BT.node (@ob196 P) .nil .nil) .nil) (BT.node (@ob162 P) (BT.node (@ob228 P) .nil .nil) .nil))))) (BT.node (@boot_o_5 P) (BT.node (@boot_o_9 P) (BT.node (@ob54 P) (BT.node (@ob70 P) (BT.node (@ob104 P) (BT.node (@ob168 P) .nil .nil) (BT.node (@ob234 P) .nil .nil)) (BT.node (@ob136 P) (BT.node (@ob202 P) .nil .nil) .nil)) (BT.node (@ob86 P) (BT.node (@ob120 P) (BT.node (@ob186 P) .nil .nil) (BT.node (@ob250 P) .nil .nil)) (BT.node (@ob152 P) (BT.node (@ob218 P) .nil .nil) .nil))) (BT.node (@ob62 P) (BT.node (@ob78 P) (BT.node (@ob112 P) (BT.node (@ob178 P) .nil .nil) (BT.node (@ob242 P) .nil .nil)) (BT.node (@ob144 P) (BT.node (@ob210 P) .nil .nil) .nil)) (BT.node (@ob94 P) (BT.node (@ob128 P) (BT.node (@ob194 P) .nil .nil) .nil) (BT.node (@ob160 P) (BT.node (@ob226 P) .nil .nil) .nil)))) (BT.node (@ob45 P) (BT.node (@ob58 P) (BT.node (@ob74 P) (BT.node (@ob108 P) (BT.node (@ob172 P) .nil .nil) (BT.node (@ob238 P) .nil .nil)) (BT.node (@ob140 P) (BT.node (@ob206 P) .nil .nil) .nil)) (BT.node (@ob90 P) (BT.node (@ob124 P) (BT.node (@ob190 P) .nil .nil) (BT.node (@ob254 P) .nil .nil)) (BT.node (@ob156 P) (BT.node (@ob222 P) .nil .nil) .nil))) (BT.node (@ob66 P) (BT.node (@ob82 P) (BT.node (@ob116 P) (BT.node (@ob182 P) .nil .nil) (BT.node (@ob246 P) .nil .nil)) (BT.node (@ob148 P) (BT.node (@ob214 P) .nil .nil) .nil)) (BT.node (@ob100 P) (BT.node (@ob132 P) (BT.node (@ob198 P) .nil .nil) .nil) (BT.node (@ob164 P) (BT.node (@ob230 P) .nil .nil) .nil)))))) (BT.node (@ob49 P) (BT.node (@boot_o_4 P) (BT.node (@boot_o_8 P) (BT.node (@ob53 P) (BT.node (@ob69 P) (BT.node (@ob103 P) (BT.node (@ob167 P) .nil .nil) (BT.node (@ob233 P) .nil .nil)) (BT.node (@ob135 P) (BT.node (@ob201 P) .nil .nil) .nil)) (BT.node (@ob85 P) (BT.node (@ob119 P) (BT.node (@ob185 P) .nil .nil) (BT.node (@ob249 P) .nil .nil)) (BT.node (@ob151 P) (BT.node (@ob217 P) .nil .nil) .nil))) (BT.node (@ob61 P) (BT.node (@ob77 P) (BT.node (@ob111 P) (BT.node (@ob175 P) .nil .nil) (BT.node (@ob241 P) .nil .nil)) (BT.node (@ob143 P) (BT.node (@ob209 P) .nil .nil) .nil)) (BT.node (@ob93 P) (BT.node (@ob127 P) (BT.node (@ob193 P) .nil .nil) .nil) (BT.node (@ob159 P) (BT.node (@ob225 P) .nil .nil) .nil)))) (BT.node (@ob177 P) (BT.node (@ob57 P) (BT.node (@ob73 P) (BT.node (@ob107 P) (BT.node (@ob171 P) .nil .nil) (BT.node (@ob237 P) .nil .nil)) (BT.node (@ob139 P) (BT.node (@ob205 P) .nil .nil) .nil)) (BT.node (@ob89 P) (BT.node (@ob123 P) (BT.node (@ob189 P) .nil .nil) (BT.node (@ob253 P) .nil .nil)) (BT.node (@ob155 P) (BT.node (@ob221 P) .nil .nil) .nil))) (BT.node (@ob65 P) (BT.node (@ob81 P) (BT.node (@ob115 P) (BT.node (@ob181 P) .nil .nil) (BT.node (@ob245 P) .nil .nil)) (BT.node (@ob147 P) (BT.node (@ob213 P) .nil .nil) .nil)) (BT.node (@ob99 P) (BT.node (@ob131 P) (BT.node (@ob197 P) .nil .nil) .nil) (BT.node (@ob163 P) (BT.node (@ob229 P) .nil .nil) .nil))))) (BT.node (@boot_o_6 P) (BT.node (@boot_o_10 P) (BT.node (@ob55 P) (BT.node (@ob71 P) (BT.node (@ob105 P) (BT.node (@ob169 P) .nil .nil) (BT.node (@ob235 P) .nil .nil)) (BT.node (@ob137 P) (BT.node (@ob203 P) .nil .nil) .nil)) (BT.node (@ob87 P) (BT.node (@ob121 P) (BT.node (@ob187 P) .nil .nil) (BT.node (@ob251 P) .nil .nil)) (BT.node (@ob153 P) (BT.node (@ob219 P) .nil .nil) .nil))) (BT.node (@ob63 P) (BT.node (@ob79 P) (BT.node (@ob113 P) (BT.node (@ob179 P) .nil .nil) (BT.node (@ob243 P) .nil .nil)) (BT.node (@ob145 P) (BT.node (@ob211 P) .nil .nil) .nil)) (BT.node (@ob97 P) (BT.node (@ob129 P) (BT.node (@ob195 P) .nil .nil) .nil) (BT.node (@ob161 P) (BT.node (@ob227 P) .nil .nil) .nil)))) (BT.node (@ob46 P) (BT.node (@ob59 P) (BT.node (@ob75 P) (BT.node (@ob109 P) (BT.node (@ob173 P) .nil .nil) (BT.node (@ob239 P) .nil .nil)) (BT.node (@ob141 P) (BT.node (@ob207 P) .nil .nil) .nil)) (BT.node (@ob91 P) (BT.node (@ob125 P) (BT.node (@ob191 P) .nil .nil) (BT.node (@ob255 P) .nil .nil)) (BT.node (@ob157 P) (BT.node (@ob223 P) .nil .nil) .nil))) (BT.node (@ob67 P) (BT.node (@ob83 P) (BT.node (@ob117 P) (BT.node (@ob183 P) .nil .nil) (BT.node (@ob247 P) .nil .nil)) (BT.node (@ob149 P) (BT.node (@ob215 P) .nil .nil) .nil)) (BT.node (@ob101 P) (BT.node (@ob133 P) (BT.node (@ob199 P) .nil .nil) .nil) (BT.node (@ob165 P) (BT.node (@ob231 P) .nil .nil) .nil)))))))
noncomputable def tr300 (P : Params) : BT := (BT.node (@boot_o_0 P) (BT.node (@boot_o_1 P) (BT.node (@ob256 P) (BT.node (@boot_o_7 P) (BT.node (@ob52 P) (BT.node (@ob68 P) (BT.node (@ob102 P) (BT.node (@ob166 P) (BT.node (@ob298 P) .nil .nil) .nil) (BT.node (@ob232 P) .nil .nil)) (BT.node (@ob134 P) (BT.node (@ob200 P) .nil .nil) (BT.node (@ob266 P) .nil .nil))) (BT.node (@ob84 P) (BT.node (@ob118 P) (BT.node (@ob184 P) .nil .nil) (BT.node (@ob248 P) .nil .nil)) (BT.node (@ob150 P) (BT.node (@ob216 P) .nil .nil) (BT.node (@ob282 P) .nil .nil)))) (BT.node (@ob60 P) (BT.node (@ob76 P) (BT.node (@ob110 P) (BT.node (@ob174 P) .nil .nil) (BT.node (@ob240 P) .nil .nil)) (BT.node (@ob142 P) (BT.node (@ob208 P) .nil .nil) (BT.node (@ob274 P) .nil .nil))) (BT.node (@ob92 P) (BT.node (@ob126 P) (BT.node (@ob192 P) .nil .nil) (BT.node (@ob258 P) .nil .nil)) (BT.node (@ob158 P) (BT.node (@ob224 P) .nil .nil) (BT.node (@ob290 P) .nil .nil))))) (BT.node (@ob43 P) (BT.node (@ob56 P) (BT.node (@ob72 P) (BT.node (@ob106 P) (BT.node (@ob170 P) .nil .nil) (BT.node (@ob236 P) .nil .nil)) (BT.node (@ob138 P) (BT.node (@ob204 P) .nil .nil) (BT.node (@ob270 P) .nil .nil))) (BT.node (@ob88 P) (BT.node (@ob122 P) (BT.node (@ob188 P) .nil .nil) (BT.node (@ob252 P) .nil .nil)) (BT.node (@ob154 P) (BT.node (@ob220 P) .nil .nil) (BT.node (@ob286 P) .nil .nil)))) (BT.node (@ob64 P) (BT.node (@ob80 P) (BT.node (@ob114 P) (BT.node (@ob180 P) .nil .nil) (BT.node (@ob244 P) .nil .nil)) (BT.node (@ob146 P) (BT.node (@ob212 P) .nil .nil) (BT.node (@ob278 P) .nil .nil))) (BT.node (@ob98 P) (BT.node (@ob130 P) (BT.node (@ob196 P) .nil .nil) (BT.node (@ob262 P) .nil .nil)) (BT.node (@ob162 P) (BT.node (@ob228 P) .nil .nil) (BT.node (@ob294 P) .nil .nil)))))) (BT.node (@boot_o_5 P) (BT.node (@boot_o_9 P) (BT.node (@ob54 P) (BT.node (@ob70 P) (BT.node (@ob104 P) (BT.node (@ob168 P) (BT.node (@ob300 P) .nil .nil) .nil) (BT.node (@ob234 P) .nil .nil)) (BT.node (@ob136 P) (BT.node (@ob202 P) .nil .nil) (BT.node (@ob268 P) .nil .nil))) (BT.node (@ob86 P) (BT.node (@ob120 P) (BT.node (@ob186 P) .nil .nil) (BT.node (@ob250 P) .nil .nil)) (BT.node (@ob152 P) (BT.node (@ob218 P) .nil .nil) (BT.node (@ob284 P) .nil .nil)))) (BT.node (@ob62 P) (BT.node (@ob78 P) (BT.node (@ob112 P) (BT.node (@ob178 P) .nil .nil) (BT.node (@ob242 P) .nil .nil)) (BT.node (@ob144 P) (BT.node (@ob210 P) .nil .nil) (BT.node (@ob276 P) .nil .nil))) (BT.node (@ob94 P) (BT.node (@ob128 P) (BT.node (@ob194 P) .nil .nil) (BT.node (@ob260 P) .nil .nil)) (BT.node (@ob160 P) (BT.node (@ob226 P) .nil .nil) (BT.node (@ob292 P) .nil .nil))))) (BT.node (@ob45 P) (BT.node (@ob58 P) (BT.node (@ob74 P) (BT.node (@ob108 P) (BT.node (@ob172 P) .nil .nil) (BT.node (@ob238 P) .nil .nil)) (BT.node (@ob140 P) (BT.node (@ob206 P) .nil .nil) (BT.node (@ob272 P) .nil .nil))) (BT.node (@ob90 P) (BT.node (@ob124 P) (BT.node (@ob190 P) .nil .nil) (BT.node (@ob254 P) .nil .nil)) (BT.node (@ob156 P) (BT.node (@ob222 P) .nil .nil) (BT.node (@ob288 P) .nil .nil)))) (BT.node (@ob66 P) (BT.node (@ob82 P) (BT.node (@ob116 P) (BT.node (@ob182 P) .nil .nil) (BT.node (@ob246 P) .nil .nil)) (BT.node (@ob148 P) (BT.node (@ob214 P) .nil .nil) (BT.node (@ob280 P) .nil .nil))) (BT.node (@ob100 P) (BT.node (@ob132 P) (BT.node (@ob198 P) .nil .nil) (BT.node (@ob264 P) .nil .nil)) (BT.node (@ob164 P) (BT.node (@ob230 P) .nil .nil) (BT.node (@ob296 P) .nil .nil))))))) (BT.node (@ob49 P) (BT.node (@boot_o_4 P) (BT.node (@boot_o_8 P) (BT.node (@ob53 P) (BT.node (@ob69 P) (BT.node (@ob103 P) (BT.node (@ob167 P) (BT.node (@ob299 P) .nil .nil) .nil) (BT.node (@ob233 P) .nil .nil)) (BT.node (@ob135 P) (BT.node (@ob201 P) .nil .nil) (BT.node (@ob267 P) .nil .nil))) (BT.node (@ob85 P) (BT.node (@ob119 P) (BT.node (@ob185 P) .nil .nil) (BT.node (@ob249 P) .nil .nil)) (BT.node (@ob151 P) (BT.node (@ob217 P) .nil .nil) (BT.node (@ob283 P) .nil .nil)))) (BT.node (@ob61 P) (BT.node (@ob77 P) (BT.node (@ob111 P) (BT.node (@ob175 P) .nil .nil) (BT.node (@ob241 P) .nil .nil)) (BT.node (@ob143 P) (BT.node (@ob209 P) .nil .nil) (BT.node (@ob275 P) .nil .nil))) (BT.node (@ob93 P) (BT.node (@ob127 P) (BT.node (@ob193 P) .nil .nil) (BT.node (@ob259 P) .nil .nil)) (BT.node (@ob159 P) (BT.node (@ob225 P) .nil .nil) (BT.node (@ob291 P) .nil .nil))))) (BT.node (@ob257 P) (BT.node (@ob57 P) (BT.node (@ob73 P) (BT.node (@ob107 P) (BT.node (@ob171 P) .nil .nil) (BT.node (@ob237 P) .nil .nil)) (BT.node (@ob139 P) (BT.node (@ob205 P) .nil .nil) (BT.node (@ob271 P) .nil .nil))) (BT.node (@ob89 P) (BT.node (@ob123 P) (BT.node (@ob189 P) .nil .nil) (BT.node (@ob253 P) .nil .nil)) (BT.node (@ob155 P) (BT.node (@ob221 P) .nil .nil) (BT.node (@ob287 P) .nil .nil)))) (BT.node (@ob65 P) (BT.node (@ob81 P) (BT.node (@ob115 P) (BT.node (@ob181 P) .nil .nil) (BT.node (@ob245 P) .nil .nil)) (BT.node (@ob147 P) (BT.node (@ob213 P) .nil .nil) (BT.node (@ob279 P) .nil .nil))) (BT.node (@ob99 P) (BT.node (@ob131 P) (BT.node (@ob197 P) .nil .nil) (BT.node (@ob263 P) .nil .nil)) (BT.node (@ob163 P) (BT.node (@ob229 P) .nil .nil) (BT.node (@ob295 P) .nil .nil)))))) (BT.node (@boot_o_6 P) (BT.node (@boot_o_10 P) (BT.node (@ob55 P) (BT.node (@ob71 P) (BT.node (@ob105 P) (BT.node (@ob169 P) .nil .nil) (BT.node (@ob235 P) .nil .nil)) (BT.node (@ob137 P) (BT.node (@ob203 P) .nil .nil) (BT.node (@ob269 P) .nil .nil))) (BT.node (@ob87 P) (BT.node (@ob121 P) (BT.node (@ob187 P) .nil .nil) (BT.node (@ob251 P) .nil .nil)) (BT.node (@ob153 P) (BT.node (@ob219 P) .nil .nil) (BT.node (@ob285 P) .nil .nil)))) (BT.node (@ob63 P) (BT.node (@ob79 P) (BT.node (@ob113 P) (BT.node (@ob179 P) .nil .nil) (BT.node (@ob243 P) .nil .nil)) (BT.node (@ob145 P) (BT.node (@ob211 P) .nil .nil) (BT.node (@ob277 P) .nil .nil))) (BT.node (@ob97 P) (BT.node (@ob129 P) (BT.node (@ob195 P) .nil .nil) (BT.node (@ob261 P) .nil .nil)) (BT.node (@ob161 P) (BT.node (@ob227 P) .nil .nil) (BT.node (@ob293 P) .nil .nil))))) (BT.node (@ob46 P) (BT.node (@ob59 P) (BT.node (@ob75 P) (BT.node (@ob109 P) (BT.node (@ob173 P) .nil .nil) (BT.node (@ob239 P) .nil .nil)) (BT.node (@ob141 P) (BT.node (@ob207 P) .nil .nil) (BT.node (@ob273 P) .nil .nil))) (BT.node (@ob91 P) (BT.node (@ob125 P) (BT.node (@ob191 P) .nil .nil) (BT.node (@ob255 P) .nil .nil)) (BT.node (@ob157 P) (BT.node (@ob223 P) .nil .nil) (BT.node (@ob289 P) .nil .nil)))) (BT.node (@ob67 P) (BT.node (@ob83 P) (BT.node (@ob117 P) (BT.node (@ob183 P) .nil .nil) (BT.node (@ob247 P) .nil .nil)) (BT.node (@ob149 P) (BT.node (@ob215 P) .nil .nil) (BT.node (@ob281 P) .nil .nil))) (BT.node (@ob101 P) (BT.node (@ob133 P) (BT.node (@ob199 P) .nil .nil) (BT.node (@ob265 P) .nil .nil)) (BT.node (@ob165 P) (BT.node (@ob231 P) .nil .nil) (BT.node (@ob297 P) .nil .nil))))))))
noncomputable def heapF (P : Params) : Heap := (@PySem.Heap.mk (@Array.mk PySem.Obj [(@boot_o_0 P), (@boot_o_1 P), (@ob49 P), (@ob256 P), (@boot_o_4 P), (@boot_o_5 P), (@boot_o_6 P), (@boot_o_7 P), (@boot_o_8 P), (@boot_o_9 P), (@boot_o_10 P), (@ob43 P), (@ob257 P), (@ob45 P), (@ob46 P), (@ob52 P), (@ob53 P), (@ob54 P), (@ob55 P), (@ob56 P), (@ob57 P), (@ob58 P), (@ob59 P), (@ob60 P), (@ob61 P), (@ob62 P), (@ob63 P), (@ob64 P), (@ob65 P), (@ob66 P), (@ob67 P), (@ob68 P), (@ob69 P), (@ob70 P), (@ob71 P), (@ob72 P), (@ob73 P), (@ob74 P), (@ob75 P), (@ob76 P), (@ob77 P), (@ob78 P), (@ob79 P), (@ob80 P), (@ob81 P), (@ob82 P), (@ob83 P), (@ob84 P), (@ob85 P), (@ob86 P), (@ob87 P), (@ob88 P), (@ob89 P), (@ob90 P), (@ob91 P), (@ob92 P), (@ob93 P), (@ob94 P), (@ob97 P), (@ob98 P), (@ob99 P), (@ob100 P), (@ob101 P), (@ob102 P), (@ob103 P), (@ob104 P), (@ob105 P), (@ob106 P), (@ob107 P), (@ob108 P), (@ob109 P), (@ob110 P), (@ob111 P), (@ob112 P), (@ob113 P), (@ob114 P), (@ob115 P), (@ob116 P), (@ob117 P), (@ob118 P), (@ob119 P), (@ob120 P), (@ob121 P), (@ob122 P), (@ob123 P), (@ob124 P), (@ob125 P), (@ob126 P), (@ob127 P), (@ob128 P), (@ob129 P), (@ob130 P), (@ob131 P), (@ob132 P), (@ob133 P), (@ob134 P), (@ob135 P), (@ob136 P), (@ob137 P), (@ob138 P), (@ob139 P), (@ob140 P), (@ob141 P), (@ob142 P), (@ob143 P), (@ob144 P), (@ob145 P), (@ob146 P), (@ob147 P), (@ob148 P), (@ob149 P), (@ob150 P), (@ob151 P), (@ob152 P), (@ob153 P), (@ob154 P), (@ob155 P), (@ob156 P), (@ob157 P), (@ob158 P), (@ob159 P), (@ob160 P), (@ob161 P), (@ob162 P), (@ob163 P), (@ob164 P), (@ob165 P), (@ob166 P), (@ob167 P), (@ob168 P), (@ob169 P), (@ob170 P), (@ob171 P), (@ob172 P), (@ob173 P), (@ob174 P), (@ob175 P), (@ob178 P), (@ob179 P), (@ob180 P), (@ob181 P), (@ob182 P), (@ob183 P), (@ob184 P), (@ob185 P), (@ob186 P), (@ob187 P), (@ob188 P), (@ob189 P), (@ob190 P), (@ob191 P), (@ob192 P), (@ob193 P), (@ob194 P), (@ob195 P), (@ob196 P), (@ob197 P), (@ob198 P), (@ob199 P), (@ob200 P), (@ob201 P), (@ob202 P), (@ob203 P), (@ob204 P), (@ob205 P), (@ob206 P), (@ob207 P), (@ob208 P), (@ob209 P), (@ob210 P), (@ob211 P), (@ob212 P), (@ob213 P), (@ob214 P), (@ob215 P), (@ob216 P), (@ob217 P), (@ob218 P), (@ob219 P), (@ob220 P), (@ob221 P), (@ob222 P), (@ob223 P), (@ob224 P), (@ob225 P), (@ob226 P), (@ob227 P), (@ob228 P), (@ob229 P), (@ob230 P), (@ob231 P), (@ob232 P), (@ob233 P), (@ob234 P), (@ob235 P), (@ob236 P), (@ob237 P), (@ob238 P), (@ob239 P), (@ob240 P), (@ob241 P), (@ob242 P), (@ob243 P), (@ob244 P), (@ob245 P), (@ob246 P), (@ob247 P), (@ob248 P), (@ob249 P), (@ob250 P), (@ob251 P), (@ob252 P), (@ob253 P), (@ob254 P), (@ob255 P), (@ob258 P), (@ob259 P), (@ob260 P), (@ob261 P), (@ob262 P), (@ob263 P), (@ob264 P), (@ob265 P), (@ob266 P), (@ob267 P), (@ob268 P), (@ob269 P), (@ob270 P), (@ob271 P), (@ob272 P), (@ob273 P), (@ob274 P), (@ob275 P), (@ob276 P), (@ob277 P), (@ob278 P), (@ob279 P), (@ob280 P), (@ob281 P), (@ob282 P), (@ob283 P), (@ob284 P), (@ob285 P), (@ob286 P), (@ob287 P), (@ob288 P), (@ob289 P), (@ob290 P), (@ob291 P), (@ob292 P), (@ob293 P), (@ob294 P), (@ob295 P), (@ob296 P), (@ob297 P), (@ob298 P), (@ob299 P), (@ob300 P)]) (@PySem.Life.mk [] [] [] 0 [] [] Bool.false (List.toArray []) [] 0 Bool.false Bool.false Bool.false (0 : Int) [(2000 : Int), (10 : Int), (10 : Int)] Bool.false 0 Bool.true [] [] 0 Bool.false))

/-! ## the top's run, in pieces -/
abbrev prg : Program := PySem.Challenge.pw_nn0263_01
def env0 : Env := { scope := prg.main.scope, locals := mainNs, globals := mainNs, cells := [], code := Value.ref 13, frame := some 14 }
def code0 : Code := .body (behindTheImports prg) env0
def pos0 : Pos := ⟨0, 0, 0, 0⟩
noncomputable def stT (T : Params → BT) (n tk : Nat) (w : World) (os : OsState) : SharedT := ⟨T w.params, n, {}, Array.mk [], {}, tk, os⟩
noncomputable def stH (H : Params → Heap) (tk : Nat) (w : World) (os : OsState) : Shared := ⟨H w.params, Array.mk [], {}, tk, os⟩
def sts1 : List Stmt := prg.main.body.take 9
def sts2 : List Stmt := (prg.main.body.drop 9).take 14
def sts3 : List Stmt := (prg.main.body.drop 23).take 14
def sts4 : List Stmt := prg.main.body.drop 37
theorem body_eq : behindTheImports prg = sts1 ++ (sts2 ++ (sts3 ++ (sts4 ++ []))) := by kernel_rfl
theorem pre_go (w : World) (os : OsState) : topGo treeTable prg w 11 (some (.ref 6)) 12 ⟨boot_heap w.params, Array.mk [], boot_drawn, boot_toks, os⟩ (topStub prg) = some (stH heap46 187 w os, ⟨denote treeTable (.body (behindTheImports prg) env0), code0, pos0, [topFrame pos0]⟩) := by kernel_rfl
theorem blk_go (w : World) (os : OsState) : segRun treeTable prg w 11 (some (.ref 6)) 1 1 (stH heap46 187 w os) (blockOf (behindTheImports prg) env0 code0 pos0 [topFrame pos0]) = some (.next, (stT tr47 15 187 w os).abs, code0, pos0) := by kernel_rfl
theorem pc1 (w : World) (os : OsState) : segRunT treeTable prg w 11 (some (.ref 6)) 1 373 (stT tr47 15 187 w os) (piecesOf sts1 env0 code0 pos0 [topFrame pos0]) = some (.next, stT tr94 58 255 w os, code0, ⟨22, 0, 23, 54⟩) := by kernel_rfl
theorem pc2 (w : World) (os : OsState) : segRunT treeTable prg w 11 (some (.ref 6)) 1 377 (stT tr94 58 255 w os) (piecesOf sts2 env0 code0 ⟨22, 0, 23, 54⟩ [topFrame pos0]) = some (.next, stT tr175 137 350 w os, code0, ⟨54, 0, 55, 60⟩) := by kernel_rfl
theorem pc3 (w : World) (os : OsState) : segRunT treeTable prg w 11 (some (.ref 6)) 1 384 (stT tr175 137 350 w os) (piecesOf sts3 env0 code0 ⟨54, 0, 55, 60⟩ [topFrame pos0]) = some (.next, stT tr255 215 461 w os, code0, ⟨129, 0, 133, 39⟩) := by kernel_rfl
theorem pc4 (w : World) (os : OsState) : segRunT treeTable prg w 11 (some (.ref 6)) 1 210 (stT tr255 215 461 w os) (piecesOf sts4 env0 code0 ⟨129, 0, 133, 39⟩ [topFrame pos0]) = some (.next, stT tr300 258 522 w os, code0, ⟨170, 0, 197, 39⟩) := by kernel_rfl
theorem fin_go (w : World) (os : OsState) : topRun treeTable prg w 11 (some (.ref 6)) 2 (stT tr300 258 522 w os).abs ⟨doneF .next, code0, ⟨170, 0, 197, 39⟩, [topFrame pos0]⟩ = some (stH heapF 522 w os) := by kernel_rfl
theorem top_ran (w : World) (os : OsState) : topRun treeTable prg w 11 (some (.ref 6)) (12 + (1 + (373 + (377 + (384 + (210 + 2)))))) ⟨boot_heap w.params, Array.mk [], boot_drawn, boot_toks, os⟩ (topStub prg) = some (stH heapF 522 w os) :=
  go_top (pre_go w os) (piece_block (blk_go w os) (by
    rw [body_eq]
    exact piece_app (segRun_of (pc1 w os)) (piece_app (segRun_of (pc2 w os)) (piece_app (segRun_of (pc3 w os)) (piece_app (segRun_of (pc4 w os)) (piece_nil (fin_go w os)))))))
theorem size0 (w : World) : ((boot_heap w.params).isNs mainGlobals && (Array.mk [] : Array GenState).size == 0, (boot_heap w.params).objs.size, (boot_heap w.params).nsMap mainGlobals "__annotations__") = (true, 11, some (.ref 6)) := by kernel_rfl
theorem look1 (w : World) (os : OsState) : (staticsOk (importedModules prg.main.body) (boot_heap w.params) (heapF w.params) && namesBound prg (heapF w.params) && gensDone (stH heapF 522 w os) && laidKept (boot_heap w.params) (heapF w.params)) = true := by kernel_rfl
theorem look2 (w : World) (os : OsState) : openSeen vw [] (importedModules prg.main.body) seenX true (stH heapF 522 w os) = openGood vw [] := by kernel_rfl
theorem look3 (w : World) (os : OsState) : rHook.obs (stH heapF 522 w os) = rHook.val w := by kernel_rfl
theorem left0 : LeftO prg vw [] seenX rHook.obs rHook.val 2806 :=
  LeftO.of_pieces (boot_open opens (by decide) fenced) size0 top_ran (by decide) fun w => funext fun os => looks_pair (look1 w os) (looks_pair (look2 w os) (look3 w os))

/-! ## the top, as the walk asks it -/
theorem recs_eq : recsOf vw = PySem.Challenge.pw_nn0263_01.main.body.filterMap fdRec := by kernel_rfl
theorem fn_mem {k : Nat} {name : Str} {params : Arguments} {body : List Stmt} {ds rt tp scope ts bn pos} (h : fn k = .FunctionDef name params body ds rt tp scope ts bn pos) : Stmt.FunctionDef name params body ds rt tp scope ts bn pos ∈ PySem.Challenge.pw_nn0263_01.main.body := by
  unfold fn at h
  cases e : PySem.Challenge.pw_nn0263_01.main.body[k]? with
  | none => rw [e] at h; cases h
  | some st' => rw [e] at h; cases h; exact List.mem_of_getElem? e
def isFree (x : Str) : Bool := !startupNames.contains x && !(looseW vw []).contains x && !((recsOf vw).map (·.name)).contains x && !((litsOf vw).map (·.1)).contains x && !((clssOf vw (looseW vw [])).map (·.name)).contains x
theorem free_all : freeNames.all isFree = true := by decide +kernel
theorem mg_at {h : Heap} {mg : Str → Option Value} {o : Obj} (g : h.Ns mainGlobals mg) (e : h.get? mainGlobals = some o) (x : Str) : mg x = nsAt o x := by
  obtain ⟨o', es, ep, e', hd, _, hf⟩ := g
  rw [e] at e'
  cases e'
  unfold nsAt
  rw [hd]
  exact (hf x).symm
theorem gl_of {w : World} {h : Heap} {mg mb : Str → Option Value} {mean : ExcName → Option Value} (Y : rHook.says w h) (T : Top vw (looseW vw []) mean mg mb h) : Gl h mg mb where
  g := T.g
  b := T.b
  nolimit := T.nolimit
  blt := T.builtins
  seer := T.seer (by decide +kernel)
  fn := fun k st e hf => by
    cases st with
    | FunctionDef name params body ds rt tp scope ts bn pos =>
      have hr : (⟨name, params, body, scope, pos⟩ : DefRec) ∈ recsOf vw := by
        rw [recs_eq]; exact List.mem_filterMap.mpr ⟨_, fn_mem e, rfl⟩
      obtain ⟨a, o, pm, code, doc, h1, h2, h3, h4⟩ := T.fn _ hr
      exact ⟨a, o, pm, code, doc, h1, h2, h3, h4⟩
    | _ => cases hf
  free := fun x hx => by
    have q := List.all_eq_true.mp free_all x hx
    unfold isFree at q
    simp only [Bool.and_eq_true, Bool.not_eq_true', List.contains_eq_mem, decide_eq_false_iff_not] at q
    exact T.free x q.1.1.1.1 q.1.1.1.2 q.1.1.2 q.1.2 q.2
  R0 := let ⟨a, _, _, c, d, _⟩ := Y; ⟨42, _, _, (mg_at T.g c _).trans d, _, a⟩
  R1 := let ⟨_, a, _, c, _, d⟩ := Y; ⟨43, _, _, (mg_at T.g c _).trans d, _, a⟩

/-! ## the script -/
theorem script_all {P : Params} {h : Heap} : ∀ {ns : List Int} {vs : List Value}, WellAll P h vs (ofPys (ns.map PyData.int)) → All2 (fun _ => False) h (ns.map rInt) vs
  | [], _, w => by
    cases w; trivial
  | n :: ns, _, w => by
    cases w with
    | cons a b =>
      refine ⟨?_, script_all b⟩
      cases a
      exact ⟨_, rfl⟩
theorem script_of {P : Params} {h : Heap} {v : Value} {ns : List Int} (w : Well P h v (ofPy (.list (ns.map PyData.int)))) : (rVI ns.length fun i => ns.getD i 0).p (fun _ => False) v h := by
  have e : ((List.range ns.length).map fun i => rInt (ns.getD i 0)) = ns.map rInt := by
    apply List.ext_getElem
    · simp
    · intro i h1 h2; simp at h1 h2; simp [h1]
  show (rList _).p _ _ _
  rw [e]
  cases w with
  | list q r => exact ⟨_, _, rfl, id, ⟨_, q⟩, script_all r⟩

/-! ## the law's call -/
def lawRec : DefRec := fd 43
theorem law_def : defOf vw PySem.Challenge.rw_nn0263_01.row.name = some (lawRec, []) := by kernel_rfl
theorem law_the : PySem.Challenge.rw_nn0263_01.row.prog.theDef PySem.Challenge.rw_nn0263_01.row.name = some (lawRec.params, lawRec.body, lawRec.scope) := by kernel_rfl
theorem law_kw : kwWritten? lawRec.params.kwonlyargs lawRec.params.kw_defaults = some [] := by kernel_rfl
theorem law_name : lawRec.name = "law" := by kernel_rfl
theorem law_ok : (chainsOk vw && opensWell PySem.Challenge.rw_nn0263_01.row.prog && (frees PySem.Challenge.rw_nn0263_01.row.toRowW && PySem.Challenge.rw_nn0263_01.row.within.isEmpty)) = true := by k_qdec
theorem law_bare : PySem.Challenge.rw_nn0263_01.row.prog.bare := ⟨rfl, rfl, rfl, rfl, rfl, by decide +kernel⟩
theorem law_promised : PySem.Challenge.rw_nn0263_01.row.toRowW.promised := by w_witness2
set_option maxHeartbeats 1000000 in
theorem law_walk : WalkO vw [] (XL vw []) rHook.says PySem.Challenge.rw_nn0263_01.row.toRowW lawRec [] fun f vs => PySem.call f vs := by
  intro w s₀ s₁ mg mb G Y fa o pm cd doc dV kV ho hd' hcd hD hmg hg args vals as hpre hlay hrd hwl hlo
  have GG : Gl s₁.heap mg mb := gl_of Y G.T
  clear Y G ho hd' hcd hD
  rw [law_name] at hmg
  wrow_args hpre hlay hrd hwl hlo
  rename_i ns _ _ _ _ _ _ _ va _ _ _ _ wl _ _ _ cond _
  obtain ⟨a, o', fd, e1, e2, e3, hlaw⟩ := law_pc (prog := PySem.Challenge.pw_nn0263_01) (w := w) GG ns.length (fun i => ns.getD i 0) (by omega) all_ok
  have ea : a = fa := by
    have := e1.symm.trans hmg
    cases this; rfl
  subst ea
  refine hlaw callerA ⟨rfl, by decide, by decide⟩ [.ref va] s₁ _ _ (Ext.refl _) ⟨script_of wl, trivial⟩ fun v h' tk k r => ?_
  have r' : v = .bool true := r
  subst r'
  exact GoodW.toG ⟨.inl ⟨.bool true, .bool true, [], rfl, fun _ => rfl, .bool true, by wrow_post, fun _ => ⟨List.nodup_nil, fun _ hm => nomatch hm⟩⟩, k, rfl, hg⟩
theorem holds : PySem.Challenge.rw_nn0263_01.Holds := by
  o_law
  exact holds_open (q := vw) (loose := []) (Xt := seenX) (XP := XL vw []) (Yf := rHook.obs) (Ya := rHook.val) (YP := rHook.says) (N := 2806) left0 rHook.of rHook.keeps (fun s e => xl_of s (Bool.and_eq_true_iff.mp e).1) XL.keeps law_def law_the law_kw
    (fun s e => recFacts_of (Bool.and_eq_true_iff.mp e).2) rfl (by assumption) law_ok law_bare law_promised law_walk

end Mine
theorem PySem.Challenge.cw_nn0263_01_holds : PySem.Challenge.rw_nn0263_01.Holds :=
  Mine.holds
