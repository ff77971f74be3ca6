import PyProof.Rows.All
import Wide.All
import OpenK.AllK
import Wide.FinOn
import HandS.ForExc
import KE.SortData
import HandS.TupMul
import HandS.TupAny
import HandS.IsInst
import HandS.Style
import HandS.Conv
import HandS.Zip
import HandS.Walk
import HandS.Deep
import KE.GoesMore
import KE.KDictZip
import KE.GoesZip
import PyProof.ListNew
import PyProof.ListRange
import HandS.Defaults
import HandS.WordsExc
import HandS.Dict
import HandS.Evl
import HandS.Head0
import HandS.Head1
import HandS.Head2
import HandS.HeadEnd
import HandS.HeadHook1
import HandS.HeadHook2
import HandS.HeadHook3
import HandS.HeadHook4
import PySem.Challenge.RW_onebill_k21_whole_hidden_as_changes
set_option Elab.async false
set_option linter.all false
/-! ## Pyv1 -/
section
set_option maxRecDepth 100000
set_option maxHeartbeats 2000000
/-! Pyv 1: plain data over the abstract heap; a small language of expressions and statements and its evaluator. -/
namespace Pyv
open PySem L2

/-! ### data at an address: A, the addresses that it may not go through -/
mutual
inductive Rep (K : PySem.W.Frag) (A : Addr → Prop) (H : Hp) : V → PyData → Prop
  | none : Rep K A H .non .none
  | bool {b : Bool} : Rep K A H (.bl b) (.bool b)
  | int {i : Int} : Rep K A H (.int i) (.int i)
  | str {x : Str} : Rep K A H (.str x) (.str x)
  | list {a : Addr} {vs : List V} {ds : List PyData} : H a = some (.lst vs) → ¬ A a → Reps K A H vs ds → Rep K A H (.ref a) (.list ds)
  | tup {a : Addr} {vs : List V} {ds : List PyData} : H a = some (.tup vs) → ¬ A a → Reps K A H vs ds → Rep K A H (.ref a) (.tuple ds)
  | tupK {a : Addr} {vs : List V} {ds : List PyData} {o : Obj} {its : Array Value} {n : Nat} : K.lookup a = some o → o.cls = .type "tuple" → o.data = .seq its n → its.size ≤ sizeLine → Vals vs its.toList → Reps K A H vs ds → Rep K A H (.ref a) (.tuple ds)
inductive Reps (K : PySem.W.Frag) (A : Addr → Prop) (H : Hp) : List V → List PyData → Prop
  | nil : Reps K A H [] []
  | cons {v : V} {d : PyData} {vs : List V} {ds : List PyData} : Rep K A H v d → Reps K A H vs ds → Reps K A H (v :: vs) (d :: ds)
end

section
variable {K : PySem.W.Frag} {A A' : Addr → Prop} {H H' : Hp}
mutual
theorem Rep.imp (h : ∀ a o, H a = some o → ¬ A a → H' a = some o ∧ ¬ A' a) : ∀ (d : PyData) (v : V), Rep K A H v d → Rep K A' H' v d
  | .none, _, .none => .none
  | .bool _, _, .bool => .bool
  | .int _, _, .int => .int
  | .str _, _, .str => .str
  | .list ds, _, .list e n r => .list (h _ _ e n).1 (h _ _ e n).2 (Reps.imp h ds _ r)
  | .tuple ds, _, .tup e n r => .tup (h _ _ e n).1 (h _ _ e n).2 (Reps.imp h ds _ r)
  | .tuple ds, _, .tupK e1 e2 e3 e4 e5 r => .tupK e1 e2 e3 e4 e5 (Reps.imp h ds _ r)
theorem Reps.imp (h : ∀ a o, H a = some o → ¬ A a → H' a = some o ∧ ¬ A' a) : ∀ (ds : List PyData) (vs : List V), Reps K A H vs ds → Reps K A' H' vs ds
  | [], _, .nil => .nil
  | d :: ds, _, .cons r rs => .cons (Rep.imp h d _ r) (Reps.imp h ds _ rs)
end
theorem Reps.length : ∀ {vs : List V} {ds : List PyData}, Reps K A H vs ds → vs.length = ds.length
  | _, _, .nil => rfl
  | _, _, .cons _ rs => by simp [Reps.length rs]
theorem Reps.get : ∀ {vs : List V} {ds : List PyData} {i : Nat} {v : V}, Reps K A H vs ds → vs[i]? = some v → ∃ d, ds[i]? = some d ∧ Rep K A H v d
  | _, _, i, _, .nil, e => by simp at e
  | _, _, 0, _, .cons r _, e => by simp at e; subst e; exact ⟨_, rfl, r⟩
  | _, _, i + 1, v, .cons _ rs, e => by
    obtain ⟨d, h1, h2⟩ := Reps.get (i := i) (v := v) rs (by simpa using e)
    exact ⟨d, by simpa using h1, h2⟩
theorem Reps.getD : ∀ {vs : List V} {ds : List PyData} {i : Nat} {d : PyData}, Reps K A H vs ds → ds[i]? = some d → ∃ v, vs[i]? = some v ∧ Rep K A H v d
  | _, _, i, _, .nil, e => by simp at e
  | _, _, 0, _, .cons r _, e => by simp at e; subst e; exact ⟨_, rfl, r⟩
  | _, _, i + 1, v, .cons _ rs, e => by
    obtain ⟨d, h1, h2⟩ := Reps.getD (i := i) (d := v) rs (by simpa using e)
    exact ⟨d, by simpa using h1, h2⟩
theorem Reps.append : ∀ {vs ws : List V} {ds es : List PyData}, Reps K A H vs ds → Reps K A H ws es → Reps K A H (vs ++ ws) (ds ++ es)
  | _, _, _, _, .nil, s => s
  | _, _, _, _, .cons r rs, s => .cons r (Reps.append rs s)
theorem Reps.one {v : V} {d : PyData} (r : Rep K A H v d) : Reps K A H [v] [d] := .cons r .nil
theorem Reps.take : ∀ {vs : List V} {ds : List PyData} (n : Nat), Reps K A H vs ds → Reps K A H (vs.take n) (ds.take n)
  | _, _, 0, _ => by simp; exact .nil
  | _, _, _ + 1, .nil => by simp; exact .nil
  | _, _, n + 1, .cons r rs => by simp; exact .cons r (Reps.take n rs)
theorem Reps.drop : ∀ {vs : List V} {ds : List PyData} (n : Nat), Reps K A H vs ds → Reps K A H (vs.drop n) (ds.drop n)
  | _, _, 0, r => by simpa using r
  | _, _, _ + 1, .nil => by simp; exact .nil
  | _, _, n + 1, .cons _ rs => by simp; exact Reps.drop n rs
theorem Reps.set {v : V} {d : PyData} (r : Rep K A H v d) : ∀ {vs : List V} {ds : List PyData} (i : Nat), Reps K A H vs ds → Reps K A H (vs.set i v) (ds.set i d)
  | _, _, _, .nil => by simp; exact .nil
  | _, _, 0, .cons _ rs => by simp; exact .cons r rs
  | _, _, i + 1, .cons q rs => by simp; exact .cons q (Reps.set r i rs)
theorem Reps.reverse : ∀ {vs : List V} {ds : List PyData}, Reps K A H vs ds → Reps K A H vs.reverse ds.reverse
  | _, _, .nil => by simp; exact .nil
  | _, _, .cons r rs => by simp only [List.reverse_cons]; exact (Reps.reverse rs).append (.one r)
theorem Rep.sqT {v : V} {ds : List PyData} : Rep K A H v (.tuple ds) → ∃ a vs, v = .ref a ∧ SqT K H a vs ∧ Reps K A H vs ds
  | .tup e n r => ⟨_, _, rfl, SqT.of e, r⟩
  | .tupK e1 e2 e3 e4 e5 r => ⟨_, _, rfl, .inr ⟨_, _, _, e1, e2, e3, e4, e5⟩, r⟩
theorem Rep.lst {v : V} {ds : List PyData} : Rep K A H v (.list ds) → ∃ a vs, v = .ref a ∧ H a = some (.lst vs) ∧ ¬ A a ∧ Reps K A H vs ds
  | .list e n r => ⟨_, _, rfl, e, n, r⟩
mutual
theorem Rep.dp : ∀ (d : PyData) (v : V), Rep K A H v d → Dp K H v d
  | .none, _, .none => .non
  | .bool _, _, .bool => .bl _
  | .int _, _, .int => .int _
  | .str _, _, .str => .str _
  | .list ds, _, .list e n r => .lst (SqL.of e) (Reps.dp ds _ r)
  | .tuple ds, _, .tup e n r => .tup (SqT.of e) (Reps.dp ds _ r)
  | .tuple ds, _, .tupK e1 e2 e3 e4 e5 r => .tup (.inr ⟨_, _, _, e1, e2, e3, e4, e5⟩) (Reps.dp ds _ r)
theorem Reps.dp : ∀ (ds : List PyData) (vs : List V), Reps K A H vs ds → DpAll K H vs ds
  | [], _, .nil => .nil
  | d :: ds, _, .cons r rs => .cons (Rep.dp d _ r) (Reps.dp ds _ rs)
end
end

/-! ### values, states -/
/-- val: shared for good; own: a list of the holder's own; bor: such a list, read; stm: the state from which numbers are drawn -/
inductive W where
  | val (d : PyData) | own (ds : List PyData) | bor (ds : List PyData) | stm
/-- the state from which numbers are drawn -/
structure DS where
  cells : List Int
  great : List Int
  spot : Nat
structure Cfg where
  ρ : List (Option W)
  s : DS
inductive Rs (α : Type) where
  | ok (a : α) (c : Cfg) | exc (k : Nat) (ds : List PyData) (c : Cfg) | bad
def Rs.bind {α β : Type} (r : Rs α) (f : α → Cfg → Rs β) : Rs β := match r with
  | .ok a c => f a c
  | .exc k ds c => .exc k ds c
  | .bad => .bad
inductive RF where
  | ok (w : W) (s : DS) | exc (k : Nat) (ds : List PyData) (s : DS) | bad
/-- a statement's end -/
inductive Fl where
  | next | ret (w : W) | brk | cont

def W.data : W → Option PyData
  | .val d => some d
  | .own ds => some (.list ds)
  | .bor ds => some (.list ds)
  | .stm => none
def W.share : W → W
  | .own ds => .val (.list ds)
  | .bor ds => .bor ds
  | w => w
def W.read : W → W
  | .own ds => .bor ds
  | w => w

/-! ### the language -/
inductive Blt where
  | len | tuple | list | sum | all | any | sorted | max | min | abs | int | str | isi (ts : List String)
  deriving DecidableEq, Repr
inductive Tg where
  | name (i : Nat) | tup (ts : List Tg)
mutual
inductive E where
  | var (i : Nat)
  | lit (d : PyData)
  | glb (k : Nat)
  | bin (op : Operator) (a b : E)
  | neg (a : E)
  | cmp (op : CmpOp) (a b : E)
  | chain (op op' : CmpOp) (a b c : E)
  | and (a b : E)
  | or (a b : E)
  | not (a : E)
  | ite (t : T) (a b : E)
  | tup (es : Es)
  | lst (es : Es)
  | ix (a b : E)
  | sl (a : E) (lo hi : Oe)
  | call (f : Nat) (es : Es)
  | callK (f : Nat) (es : Es) (perm : List Nat)
  | blt (b : Blt) (es : Es)
  | lsrc (src : Src)
  | lc (elt : E) (tg : Tg) (src : Src) (t : Ot) (own : List Nat)
inductive T where
  | val (e : E) | and (a b : T) | or (a b : T) | not (a : T)
inductive Ot where
  | no | yes (t : T)
inductive Es where
  | nil | cons (e : E) (r : Es)
inductive Oe where
  | no | yes (e : E)
inductive Src where
  | seq (e : E) | rng1 (a : E) | rng2 (a b : E) | zip (a b : E) | enum (a : E)
end
mutual
inductive S where
  | asg (tg : Tg) (e : E)
  | par (is : List Nat) (es : Es)
  | setIx (i : Nat) (a e : E)
  | aug (i : Nat) (op : Operator) (e : E)
  | app (i : Nat) (e : E)
  | ext (i : Nat) (e : E)
  | expr (e : E)
  | ifS (t : T) (a b : Ss)
  | forS (tg : Tg) (src : Src) (b : Ss)
  | ret (e : E)
  | retV (i : Nat)
  | retN
  | brk | cont | pass | never
inductive Ss where
  | nil | cons (s : S) (r : Ss)
end
structure Fd where
  np : Nat
  n : Nat
  body : Ss

noncomputable section
/-! ### operations on data -/
/-- room for a product -/
@[irreducible] def mulOk (i j : Int) : Bool := @decide ((-(2 ^ 64) < i ∧ i < 2 ^ 64) ∨ (-(2 ^ 64) < j ∧ j < 2 ^ 64)) (Classical.propDecidable _)
theorem mulOk_of {i j : Int} (h : (-(2 ^ 64) < i ∧ i < 2 ^ 64) ∨ (-(2 ^ 64) < j ∧ j < 2 ^ 64)) : mulOk i j = true := by
  unfold mulOk
  exact @decide_eq_true _ (Classical.propDecidable _) h
theorem of_mulOk {i j : Int} (h : mulOk i j = true) : (-(2 ^ 64) < i ∧ i < 2 ^ 64) ∨ (-(2 ^ 64) < j ∧ j < 2 ^ 64) := by
  unfold mulOk at h
  exact @of_decide_eq_true _ (Classical.propDecidable _) h
def bin2 (op : Operator) (x y : PyData) : Option W := match op, x, y with
  | .Add, .int i, .int j => some (.val (.int (i + j)))
  | .Sub, .int i, .int j => some (.val (.int (i - j)))
  | .Mult, .int i, .int j => if mulOk i j = true then some (.val (.int (i * j))) else none
  | .FloorDiv, .int i, .int j => if 0 < j ∧ j < 1073741824 then some (.val (.int (i / j))) else none
  | .Mod, .int i, .int j => if 0 < j then some (.val (.int (i % j))) else none
  | .Pow, .int i, .int j => if 0 ≤ j ∧ j ≤ 1000000 ∧ i.natAbs < 2 ^ 64 then some (.val (.int (i ^ j.toNat))) else none
  | .Add, .list xs, .list ys => if xs.length + ys.length ≤ sizeLine then some (.own (xs ++ ys)) else none
  | .Add, .tuple xs, .tuple ys => if xs.length + ys.length ≤ sizeLine then some (.val (.tuple (xs ++ ys))) else none
  | .Mult, .tuple xs, .int k => if xs.length = 1 ∧ 0 ≤ k ∧ k ≤ 1000 then some (.val (.tuple (List.replicate k.toNat xs).flatten)) else none
  | _, _, _ => none
def flatD : PyData → Bool
  | .none => true
  | .bool _ => true
  | .int _ => true
  | .str _ => true
  | _ => false
def isNoneD : PyData → Bool
  | .none => true
  | _ => false
def isBoolD (b : Bool) : PyData → Bool
  | .bool a => a == b
  | _ => false
def cmp2 (op : CmpOp) (x y : PyData) : Option Bool := match op, x, y with
  | .Lt, .int i, .int j => some (decide (i < j))
  | .LtE, .int i, .int j => some (decide (i ≤ j))
  | .Gt, .int i, .int j => some (decide (j < i))
  | .GtE, .int i, .int j => some (decide (j ≤ i))
  | .Eq, x, y => if SeqAt.shaped x = true ∧ SeqAt.shaped y = true then some (PyData.eqv x y) else none
  | .NotEq, x, y => if SeqAt.shaped x = true ∧ SeqAt.shaped y = true then some (!PyData.eqv x y) else none
  | .Is, x, .none => some (isNoneD x)
  | .IsNot, x, .none => some (!isNoneD x)
  | .Is, x, .bool b => some (isBoolD b x)
  | .In, x, .list ds => if SeqAt.shaped x = true ∧ SeqAt.shaped (.list ds) = true then some (ds.any fun z => PyData.eqv z x) else none
  | .NotIn, x, .list ds => if SeqAt.shaped x = true ∧ SeqAt.shaped (.list ds) = true then some (!ds.any fun z => PyData.eqv z x) else none
  | .In, x, .tuple ds => if flatD x = true ∧ ds.all flatD = true then some (ds.any fun z => PyData.eqv z x) else none
  | .NotIn, x, .tuple ds => if flatD x = true ∧ ds.all flatD = true then some (!ds.any fun z => PyData.eqv z x) else none
  | _, _, _ => none
def truth : PyData → Option Bool
  | .none => some false
  | .bool b => some b
  | .int i => some (i != 0)
  | .list ds => some (!ds.isEmpty)
  | .tuple ds => some (!ds.isEmpty)
  | _ => none
def atD {α : Type} (xs : List α) (i : Int) : Option α := atI xs i
def ix2 (x y : PyData) : Option W := match x, y with
  | .list ds, .int i => (atI ds i).map .val
  | .tuple ds, .int i => (atI ds i).map .val
  | _, _ => none
def sl3 (x : PyData) (lo hi : Option Int) : Option W := match x with
  | .list ds => some (.own ((ds.drop (HT.sIx ds.length 0 lo)).take (HT.sIx ds.length ds.length hi - HT.sIx ds.length 0 lo)))
  | .tuple ds => some (.val (.tuple ((ds.drop (HT.sIx ds.length 0 lo)).take (HT.sIx ds.length ds.length hi - HT.sIx ds.length 0 lo))))
  | _ => none
def asInts : List PyData → Option (List Int)
  | [] => some []
  | .int i :: r => (asInts r).map (i :: ·)
  | _ :: _ => none
def asBools : List PyData → Option (List Bool)
  | [] => some []
  | .bool b :: r => (asBools r).map (b :: ·)
  | _ :: _ => none
def tyN : PyData → String
  | .none => "NoneType"
  | .bool _ => "bool"
  | .int _ => "int"
  | .str _ => "str"
  | .list _ => "list"
  | .tuple _ => "tuple"
  | .dict _ => "dict"
def tyB (a t : String) : Bool := a == t || (a == "bool" && t == "int")
def isTy (d : PyData) (t : String) : Bool := tyB (tyN d) t
def fiveTys : List String := ["bool", "int", "str", "list", "tuple"]
def isOne (t : String) : Bool := fiveTys.contains t
def notNone : PyData → Bool
  | .none => false
  | .dict _ => false
  | _ => true

/-- can be sorted -/
def sortOk (xs : List PyData) : Bool := xs.all (fun x => xs.all fun y => PySem.W.alike x y) && (xs.all (fun x => match x with | .tuple (_ :: _) => true | _ => false) || xs.all (fun x => match x with | .none => false | .tuple _ => false | _ => true)) && xs.all (fun x => decide (x.depth ≤ 64)) && decide (xs.length ≤ sizeLine)

/-! ### the evaluator -/
def setR (c : Cfg) (i : Nat) (w : W) : Cfg := { c with ρ := c.ρ.set i (some w) }
def evVar (rd : Bool) (i : Nat) (c : Cfg) : Rs W := match c.ρ[i]? with
  | some (some (.val d)) => .ok (.val d) c
  | some (some (.own ds)) => if rd = true then .ok (.bor ds) c else .ok (.val (.list ds)) (setR c i (.val (.list ds)))
  | some (some (.bor ds)) => if rd = true then .ok (.bor ds) c else .bad
  | some (some .stm) => .ok .stm c
  | _ => .bad
mutual
def asgTg : Tg → PyData → Cfg → Option Cfg
  | .name i, d, c => if i < c.ρ.length then some (setR c i (.val d)) else none
  | .tup ts, d, c => match d with
    | .tuple ds => asgTgs ts ds c
    | _ => none
def asgTgs : List Tg → List PyData → Cfg → Option Cfg
  | [], ds, c => match ds with
    | [] => some c
    | _ :: _ => none
  | t :: ts, ds, c => match ds with
    | [] => none
    | d :: ds => match asgTg t d c with
      | some c1 => asgTgs ts ds c1
      | none => none
end
def asgW (tg : Tg) (w : W) (c : Cfg) : Option Cfg := match w with
  | .val d => asgTg tg d c
  | .bor _ => none
  | w => match tg with
    | .name i => if i < c.ρ.length then some (setR c i w) else none
    | .tup _ => none
def ofO {α : Type} (o : Option α) (c : Cfg) : Rs α := match o with
  | some a => .ok a c
  | none => .bad
def op1 {α : Type} (f : PyData → Option α) (x : W) (c : Cfg) : Rs α := match x.data with
  | some d => ofO (f d) c
  | none => .bad
def op2 {α : Type} (f : PyData → PyData → Option α) (x y : W) (c : Cfg) : Rs α := match x.data, y.data with
  | some d, some e => ofO (f d e) c
  | _, _ => .bad
def bval (b : Bool) : W := .val (.bool b)
def asBool : PyData → Option Bool
  | .bool b => some b
  | _ => none
def asInt : PyData → Option Int
  | .int i => some i
  | _ => none
def datas : List W → Option (List PyData)
  | [] => some []
  | w :: ws => match w.data, datas ws with
    | some d, some ds => some (d :: ds)
    | _, _ => none
/-- what may be kept -/
def W.dat : W → Option PyData
  | .val d => some d
  | .own ds => some (.list ds)
  | _ => none
def W.get (w : W) (rd : Bool) : Option PyData := if rd = true then w.data else w.dat
def dats : List W → Option (List PyData)
  | [] => some []
  | w :: ws => match w.dat, dats ws with
    | some d, some ds => some (d :: ds)
    | _, _ => none
def mkTup (ws : List W) : Option W := match dats ws with
  | some ds => if ds.length ≤ sizeLine then some (.val (.tuple ds)) else none
  | none => none
def mkLst (ws : List W) : Option W := match dats ws with
  | some ds => if ds.length ≤ sizeLine then some (.own ds) else none
  | none => none
@[irreducible] def fitsI (i : Int) : Bool := @decide (-(2 ^ 62) ≤ i ∧ i < 2 ^ 62) (Classical.propDecidable _)
theorem fitsI_of {i : Int} (h : -(2 ^ 62) ≤ i ∧ i < 2 ^ 62) : fitsI i = true := by
  unfold fitsI
  exact @decide_eq_true _ (Classical.propDecidable _) h
theorem of_fitsI {i : Int} (h : fitsI i = true) : -(2 ^ 62) ≤ i ∧ i < 2 ^ 62 := by
  unfold fitsI at h
  exact @of_decide_eq_true _ (Classical.propDecidable _) h
/-- lo, lo + 1, .. below hi -/
def rangeL (lo hi : Int) : List PyData := (List.range (hi - lo).toNat).map fun i => .int (lo + (i : Nat))
def seqOf : PyData → Option (List PyData)
  | .list ds => some ds
  | .tuple ds => some ds
  | _ => none
def seqT : PyData → Option (List PyData)
  | .tuple ds => some ds
  | _ => none
def zipL (xs ys : List PyData) : List PyData := (xs.zip ys).map fun p => .tuple [p.1, p.2]
def enumL (xs : List PyData) : List PyData := ((List.range xs.length).zip xs).map fun p => .tuple [.int (p.1 : Nat), p.2]
def zipD : PyData → PyData → Option (List PyData)
  | .list xs, .list ys => some (zipL xs ys)
  | .tuple xs, .tuple ys => some (zipL xs ys)
  | _, _ => none
def bltV (b : Blt) (ds : List PyData) : Option W := match b, ds with
  | .len, [.list xs] => some (.val (.int xs.length))
  | .len, [.tuple xs] => some (.val (.int xs.length))
  | .tuple, [.list xs] => some (.val (.tuple xs))
  | .tuple, [.tuple xs] => some (.val (.tuple xs))
  | .list, [.list xs] => some (.own xs)
  | .list, [.tuple xs] => some (.own xs)
  | .sum, [.list xs] => (asInts xs).map fun ns => .val (.int ns.sum)
  | .sum, [.tuple xs] => (asInts xs).map fun ns => .val (.int ns.sum)
  | .all, [.list xs] => (asBools xs).map fun bs => bval (bs.all id)
  | .any, [.list xs] => (asBools xs).map fun bs => bval (bs.any id)
  | .max, [.int i, .int j] => some (.val (.int (if j > i then j else i)))
  | .min, [.int i, .int j] => some (.val (.int (if j < i then j else i)))
  | .abs, [.int i] => some (.val (.int (if i < 0 then -i else i)))
  | .int, [.int i] => some (.val (.int i))
  | .sorted, [.list xs] => if sortOk xs = true then some (.own (xs.mergeSort (PySem.W.dataLe false id))) else none
  | .isi ts, [d] => if ts.all isOne = true ∧ notNone d = true then some (bval (ts.any (isTy d))) else none
  | _, _ => none
def wipeR (ρ : List (Option W)) : List Nat → List (Option W)
  | [] => ρ
  | v :: vs => (wipeR ρ vs).set v none
def lockW : Option W → Option W
  | some (.own ds) => some (.bor ds)
  | w => w
def enterC (c : Cfg) (own : List Nat) : Cfg := { c with ρ := wipeR (c.ρ.map lockW) own }
def permL {α : Type} : List Nat → List α → Option (List α)
  | [], _ => some []
  | i :: r, ws => match ws[i]?, permL r ws with
    | some w, some us => some (w :: us)
    | _, _ => none
/-- a comprehension's turns -/
def lcLoop (f : PyData → Cfg → Rs (Option PyData)) : List PyData → List PyData → Cfg → Rs (List PyData)
  | [], acc, c => .ok acc c
  | d :: ds, acc, c => match f d c with
    | .ok (some x) c1 => if acc.length < sizeLine then lcLoop f ds (acc ++ [x]) { c with s := c1.s } else .bad
    | .ok none c1 => lcLoop f ds acc { c with s := c1.s }
    | _ => .bad
def leaveC (c0 : Cfg) (r : Rs (List PyData)) : Rs W := match r with
  | .ok ds c => .ok (.own ds) { c0 with s := c.s }
  | _ => .bad
section
variable (call : Nat → List W → DS → RF) (gl : List PyData)
def isPlain : W → Bool
  | .val _ => true
  | .stm => true
  | _ => false
def doCall (f : Nat) (ws : List W) (c : Cfg) : Rs W := if ws.all isPlain = true then (match call f ws c.s with
  | .ok w s => .ok w { c with s := s }
  | .exc k ds s => .exc k ds { c with s := s }
  | .bad => .bad) else .bad

mutual
def evE : E → Bool → Cfg → Rs W
  | .var i, rd, c => evVar rd i c
  | .lit d, _, c => .ok (.val d) c
  | .glb k, _, c => (ofO gl[k]? c).bind fun d c => .ok (.val d) c
  | .bin op a b, _, c => (evE a true c).bind fun x c => (evE b true c).bind fun y c => op2 (bin2 op) x y c
  | .neg a, _, c => (evE a true c).bind fun x c => (op1 asInt x c).bind fun i c => .ok (.val (.int (-i))) c
  | .cmp op a b, _, c => (evE a true c).bind fun x c => (evE b true c).bind fun y c => (op2 (cmp2 op) x y c).bind fun r c => .ok (bval r) c
  | .chain op op' a b d, _, c => (evE a true c).bind fun x c => (evE b true c).bind fun y c => (op2 (cmp2 op) x y c).bind fun r c =>
      if r = true then (evE d true c).bind fun z c => (op2 (cmp2 op') y z c).bind fun r c => .ok (bval r) c else .ok (bval false) c
  | .and a b, _, c => (evE a true c).bind fun x c => (op1 asBool x c).bind fun r c => if r = true then evE b false c else .ok (bval false) c
  | .or a b, _, c => (evE a true c).bind fun x c => (op1 asBool x c).bind fun r c => if r = true then .ok (bval true) c else evE b false c
  | .not a, _, c => (evE a true c).bind fun x c => (op1 asBool x c).bind fun r c => .ok (bval (!r)) c
  | .ite t a b, rd, c => (evT t c).bind fun r c => if r = true then evE a rd c else evE b rd c
  | .tup es, _, c => (evEs es false c).bind fun ws c => ofO (mkTup ws) c
  | .lst es, _, c => (evEs es false c).bind fun ws c => ofO (mkLst ws) c
  | .ix a b, _, c => (evE a true c).bind fun x c => (evE b true c).bind fun y c => op2 ix2 x y c
  | .sl a lo hi, _, c => (evE a true c).bind fun x c => (evO lo c).bind fun l c => (evO hi c).bind fun h c => op1 (fun d => sl3 d l h) x c
  | .call f es, _, c => (evEs es false c).bind fun ws c => doCall call f ws c
  | .callK f es perm, _, c => (evEs es false c).bind fun ws c => (ofO (if ws.length = perm.length then permL perm ws else none) c).bind fun us c => doCall call f us c
  | .blt b es, _, c => (evEs es true c).bind fun ws c => (ofO (datas ws) c).bind fun ds c => ofO (bltV b ds) c
  | .lsrc src, _, c => (evSrc src true c).bind fun items c => if items.length ≤ 10000000 then .ok (.own items) c else .bad
  | .lc elt tg src t own, _, c => (evSrc src true c).bind fun items c0 =>
      leaveC c0 (lcLoop (fun d c => (ofO (asgTg tg d c) c).bind fun c1 _ => (evOt t c1).bind fun r c2 =>
        if r = true then (evE elt false c2).bind fun w c3 => (ofO w.dat c3).bind fun d c4 => .ok (some d) c4 else .ok none c2) items [] (enterC c0 own))
def evT : T → Cfg → Rs Bool
  | .val e, c => (evE e true c).bind fun x c => op1 truth x c
  | .and a b, c => (evT a c).bind fun r c => if r = true then evT b c else .ok false c
  | .or a b, c => (evT a c).bind fun r c => if r = true then .ok true c else evT b c
  | .not a, c => (evT a c).bind fun r c => .ok (!r) c
def evOt : Ot → Cfg → Rs Bool
  | .no, c => .ok true c
  | .yes t, c => evT t c
def evEs : Es → Bool → Cfg → Rs (List W)
  | .nil, _, c => .ok [] c
  | .cons e r, rd, c => (evE e rd c).bind fun w c => (evEs r rd c).bind fun ws c => .ok ((if rd = true then w.read else w.share) :: ws) c
def evO : Oe → Cfg → Rs (Option Int)
  | .no, c => .ok none c
  | .yes e, c => (evE e true c).bind fun x c => (op1 asInt x c).bind fun i c => .ok (some i) c
def evSrc : Src → Bool → Cfg → Rs (List PyData)
  | .seq e, rd, c => (evE e rd c).bind fun x c => ofO ((x.get rd).bind seqOf) c
  | .rng1 a, _, c => (evE a true c).bind fun x c => (op1 asInt x c).bind fun n c => if fitsI n = true then .ok (rangeL 0 n) c else .bad
  | .rng2 a b, _, c => (evE a true c).bind fun x c => (evE b true c).bind fun y c => (op1 asInt x c).bind fun i c => (op1 asInt y c).bind fun j c =>
      if fitsI i = true ∧ fitsI j = true then .ok (rangeL i j) c else .bad
  | .zip a b, rd, c => (evE a rd c).bind fun x c => (evE b rd c).bind fun y c => ofO ((x.get rd).bind fun d => (y.get rd).bind fun e => zipD d e) c
  | .enum a, rd, c => (evE a rd c).bind fun x c => (ofO ((x.get rd).bind seqOf) c).bind fun ds c => .ok (enumL ds) c
end
inductive Out where
  | next (c : Cfg) | ret (w : W) (c : Cfg) | brk (c : Cfg) | cont (c : Cfg) | exc (k : Nat) (ds : List PyData) (c : Cfg) | bad
def Rs.out {α : Type} (r : Rs α) (f : α → Cfg → Out) : Out := match r with
  | .ok a c => f a c
  | .exc k ds c => .exc k ds c
  | .bad => .bad
def Out.then (o : Out) (f : Cfg → Out) : Out := match o with
  | .next c => f c
  | o => o
def forLoop (tg : Tg) (f : Cfg → Out) : List PyData → Cfg → Out
  | [], c => .next c
  | d :: ds, c => match asgTg tg d c with
    | none => .bad
    | some c1 => match f c1 with
      | .next c2 => forLoop tg f ds c2
      | .cont c2 => forLoop tg f ds c2
      | .brk c2 => .next c2
      | o => o
def asgs : List Nat → List W → Cfg → Option Cfg
  | [], [], c => some c
  | i :: is, w :: ws, c => match asgs is ws c with
    | some c1 => asgW (.name i) w c1
    | none => none
  | _, _, _ => none
/-- values, each its holder's own -/
def evPs : Es → Cfg → Rs (List W)
  | .nil, c => .ok [] c
  | .cons e r, c => (evE call gl e false c).bind fun w c => (evPs r c).bind fun ws c => .ok (w :: ws) c
def notBor : Option W → Bool
  | some (.bor _) => false
  | _ => true
def ownAt (c : Cfg) (i : Nat) : Option (List PyData) := match c.ρ[i]? with
  | some (some (.own ds)) => some ds
  | _ => none
mutual
def evS : S → Cfg → Out
  | .asg tg e, c => (evE call gl e false c).out fun w c => match asgW tg w c with
    | some c => .next c
    | none => .bad
  | .par is es, c => (evPs call gl es c).out fun ws c => match asgs is ws c with
    | some c => .next c
    | none => .bad
  | .setIx i a e, c => (evE call gl e false c).out fun w c => match w.dat, ownAt c i with
    | some d, some _ => (evE call gl a true c).out fun x c => (match x.data, ownAt c i with
      | some (.int k), some ds => (match ixN ds.length k with
        | some j => if c.ρ.all notBor = true then .next (setR c i (.own (ds.set j d))) else .bad
        | none => .bad)
      | _, _ => .bad)
    | _, _ => .bad
  | .aug i op e, c => match c.ρ[i]? with
    | some (some (.val (.int a))) => (evE call gl e true c).out fun w c => (match w.data with
      | some (.int b) => (match op with
        | .Add => .next (setR c i (.val (.int (a + b))))
        | .Sub => .next (setR c i (.val (.int (a - b))))
        | _ => .bad)
      | _ => .bad)
    | _ => .bad
  | .app i e, c => match ownAt c i with
    | some _ => (evE call gl e false c).out fun w c => (match w.dat, ownAt c i with
      | some d, some ds => if ds.length < sizeLine ∧ c.ρ.all notBor = true then .next (setR c i (.own (ds ++ [d]))) else .bad
      | _, _ => .bad)
    | none => .bad
  | .ext i e, c => match ownAt c i with
    | some _ => (evE call gl e true c).out fun w c => (match w.data, ownAt c i with
      | some (.list es), some ds => if ds.length + es.length ≤ sizeLine ∧ c.ρ.all notBor = true then .next (setR c i (.own (ds ++ es))) else .bad
      | _, _ => .bad)
    | none => .bad
  | .expr e, c => (evE call gl e false c).out fun _ c => .next c
  | .ifS t a b, c => (evT call gl t c).out fun r c => if r = true then evSs a c else evSs b c
  | .forS tg src b, c => (evSrc call gl src false c).out fun items c => forLoop tg (evSs b) items c
  | .ret e, c => (evE call gl e false c).out fun w c => .ret w c
  | .retV i, c => (match ownAt c i with
    | some ds => .ret (.own ds) { c with ρ := c.ρ.set i none }
    | none => (evVar false i c).out fun w c => .ret w c)
  | .retN, c => .ret (.val .none) c
  | .brk, c => .brk c
  | .cont, c => .cont c
  | .pass, c => .next c
  | .never, _ => .bad
def evSs : Ss → Cfg → Out
  | .nil, c => .next c
  | .cons s r, c => (evS s c).then fun c => evSs r c
end
end
/-- a def, called -/
def runFd (call : Nat → List W → DS → RF) (gl : List PyData) (fd : Fd) (ws : List W) (s : DS) : RF :=
  if ws.length = fd.np ∧ fd.np ≤ fd.n then
    match evSs call gl fd.body ⟨ws.map some ++ List.replicate (fd.n - ws.length) none, s⟩ with
    | .next c => .ok (.val .none) c.s
    | .ret w c => (match w with
      | .bor _ => .bad
      | w => .ok w c.s)
    | .exc k ds c => .exc k ds c.s
    | _ => .bad
  else .bad
/-- a program: its defs, its constants; prim: the defs that are told otherwise -/
structure Pg where
  fds : List (Option Fd)
  gl : List PyData
  prim : Nat → List W → DS → RF
def run (p : Pg) : Nat → Nat → List W → DS → RF
  | 0, _, _, _ => .bad
  | n + 1, f, ws, s => match p.fds[f]? with
    | some (some fd) => runFd (run p n) p.gl fd ws s
    | some none => p.prim f ws s
    | none => .bad
end
end Pyv
end
/-! ## Pyv2 -/
section
set_option maxRecDepth 100000
set_option maxHeartbeats 2000000
/-! Pyv 2: states of a def over the abstract heap, what a reading wishes, the joining of readings. -/
namespace Pyv
open PySem L2

/-- where the state stands: a dict, its two lists -/
structure Ms where
  m : Addr
  c : Addr
  g : Addr
def Ms.at_ (ms : Ms) (a : Addr) : Prop := a = ms.m ∨ a = ms.c ∨ a = ms.g
def stDict (ms : Ms) (s : DS) : List (Key × V) := [(.inr "cells", .ref ms.c), (.inr "great", .ref ms.g), (.inr "spot", .int (s.spot : Nat))]
structure StOk (ms : Ms) (H : Hp) (s : DS) : Prop where
  m : H ms.m = some (.dK (stDict ms s))
  c : H ms.c = some (.lst (s.cells.map V.int))
  g : H ms.g = some (.lst (s.great.map V.int))
  cg : ms.c ≠ ms.g
theorem StOk.ne {ms : Ms} {H : Hp} {s : DS} (h : StOk ms H s) {a : Addr} (e : ms.at_ a) : H a ≠ none := by
  rcases e with e | e | e <;> subst e
  · rw [h.m]; simp
  · rw [h.c]; simp
  · rw [h.g]; simp
/-- the lists that a slot holds alone -/
def OwnA (σ : L2.St) (ρ : List (Option W)) (p : Addr) : Prop := ∃ (i : Nat) (ds : List PyData), ρ[i]? = some (some (W.own ds)) ∧ σ[i]? = some (some (V.ref p))
/-- what shared data does not go through -/
def Res (ms : Ms) (R : Addr → Prop) (σ : L2.St) (ρ : List (Option W)) (a : Addr) : Prop := R a ∨ OwnA σ ρ a ∨ ms.at_ a
def RepV (K : PySem.W.Frag) (A : Addr → Prop) (H : Hp) (ms : Ms) (v : V) : W → Prop
  | .val d => Rep K A H v d
  | .own ds => ∃ p vs, v = .ref p ∧ H p = some (.lst vs) ∧ ¬ ms.at_ p ∧ Reps K A H vs ds
  | .bor ds => ∃ p vs, v = .ref p ∧ H p = some (.lst vs) ∧ ¬ ms.at_ p ∧ Reps K A H vs ds
  | .stm => v = .ref ms.m
structure Conf (K : PySem.W.Frag) (ms : Ms) (R : Addr → Prop) (Z : Hp) (σ : L2.St) (H : Hp) (c : Cfg) : Prop where
  len : c.ρ.length = σ.length
  slot : ∀ (i : Nat) (w : W), c.ρ[i]? = some (some w) → ∃ v, σ[i]? = some (some v) ∧ RepV K (Res ms R σ c.ρ) H ms v w
  inj : ∀ (i j : Nat) (ds es : List PyData) (p : Addr), c.ρ[i]? = some (some (.own ds)) → σ[i]? = some (some (V.ref p)) → c.ρ[j]? = some (some (.own es)) → σ[j]? = some (some (V.ref p)) → i = j
  own : ∀ p, OwnA σ c.ρ p → ¬ R p ∧ ¬ ms.at_ p ∧ Z p = none
  rd : ∀ p, R p → H p ≠ none ∧ ¬ ms.at_ p
  ez : ∀ a o, Z a = some o → ¬ ms.at_ a → H a = some o
  st : StOk ms H c.s
/-- all but the state is kept -/
def Keep (ms : Ms) (H H' : Hp) : Prop := ∀ a o, H a = some o → ¬ ms.at_ a → H' a = some o
def Sub (σ : L2.St) (c c' : Cfg) : Prop := ∀ a, OwnA σ c'.ρ a → OwnA σ c.ρ a
theorem Keep.refl (ms : Ms) (H : Hp) : Keep ms H H := fun _ _ h _ => h
theorem Keep.trans {ms : Ms} {H H1 H2 : Hp} (a : Keep ms H H1) (b : Keep ms H1 H2) : Keep ms H H2 := fun x o h n => b x o (a x o h n) n
theorem Keep.new {ms : Ms} {H : Hp} {p : Addr} {o : HO} (h : H p = none) : Keep ms H (upd H p o) := fun a u e _ => by
  rw [upd_ne (ne_of_none e h)]
  exact e
theorem Sub.refl (σ : L2.St) (c : Cfg) : Sub σ c c := fun _ h => h
theorem Sub.trans {σ : L2.St} {c c1 c2 : Cfg} (a : Sub σ c c1) (b : Sub σ c1 c2) : Sub σ c c2 := fun x h => a x (b x h)

section
variable {K : PySem.W.Frag} {ms : Ms} {R R' : Addr → Prop} {Z H H' : Hp} {σ : L2.St} {c c' : Cfg} {A A' : Addr → Prop} {v : V} {w : W}
theorem RepV.imp (h : ∀ a o, H a = some o → ¬ A a → H' a = some o ∧ ¬ A' a) (k : Keep ms H H') : RepV K A H ms v w → RepV K A' H' ms v w := by
  cases w with
  | val d => exact Rep.imp h d v
  | own ds =>
    rintro ⟨p, vs, rfl, e, n, r⟩
    exact ⟨p, vs, rfl, k _ _ e n, n, Reps.imp h _ _ r⟩
  | bor ds =>
    rintro ⟨p, vs, rfl, e, n, r⟩
    exact ⟨p, vs, rfl, k _ _ e n, n, Reps.imp h _ _ r⟩
  | stm => exact id
theorem res_keep (k : Keep ms H H') (s : Sub σ c c') (hR : ∀ a, R' a → R a ∨ H a = none) : ∀ a o, H a = some o → ¬ Res ms R σ c.ρ a → H' a = some o ∧ ¬ Res ms R' σ c'.ρ a := fun a o e n => by
  have n1 : ¬ ms.at_ a := fun z => n (.inr (.inr z))
  refine ⟨k a o e n1, ?_⟩
  rintro (z | z | z)
  · rcases hR a z with q | q
    · exact n (.inl q)
    · rw [q] at e; cases e
  · exact n (.inr (.inl (s a z)))
  · exact n1 z
theorem RepV.keep (k : Keep ms H H') (s : Sub σ c c') (r : RepV K (Res ms R σ c.ρ) H ms v w) : RepV K (Res ms R σ c'.ρ) H' ms v w := r.imp (res_keep k s fun _ h => .inl h) k
/-- the heap goes on, the slots stay -/
theorem Conf.keep {s' : DS} (C : Conf K ms R Z σ H c) (k : Keep ms H H') (hs : StOk ms H' s') : Conf K ms R Z σ H' { c with s := s' } where
  len := C.len
  slot := fun i w e => by
    obtain ⟨v, e1, r⟩ := C.slot i w e
    exact ⟨v, e1, RepV.keep (c := c) (c' := { c with s := s' }) k (fun _ h => h) r⟩
  inj := C.inj
  own := C.own
  rd := fun p hp => by
    obtain ⟨h1, h2⟩ := C.rd p hp
    refine ⟨?_, h2⟩
    cases e : H p with
    | none => exact absurd e h1
    | some o => rw [k p o e h2]; simp
  ez := fun a o e n => k a o (C.ez a o e n) n
  st := hs
theorem Conf.own_in (C : Conf K ms R Z σ H c) {p : Addr} (h : OwnA σ c.ρ p) : H p ≠ none := by
  obtain ⟨i, ds, e1, e2⟩ := h
  obtain ⟨v, e3, p', vs, rfl, e4, _⟩ := C.slot i _ e1
  rw [e2] at e3
  cases e3
  rw [e4]; simp
theorem Conf.res_in (C : Conf K ms R Z σ H c) {p : Addr} (h : Res ms R σ c.ρ p) : H p ≠ none := by
  rcases h with h | h | h
  · exact (C.rd p h).1
  · exact C.own_in h
  · exact C.st.ne h
/-- what is fresh is not reserved -/
theorem Conf.fresh (C : Conf K ms R Z σ H c) {p : Addr} (h : H p = none) : ¬ Res ms R σ c.ρ p := fun z => C.res_in z h
theorem Conf.z_none (C : Conf K ms R Z σ H c) {p : Addr} (h : H p = none) : Z p = none := by
  cases e : Z p with
  | none => rfl
  | some o =>
    have n : ¬ ms.at_ p := fun z => C.st.ne z h
    have := C.ez p o e n
    rw [h] at this; cases this
/-- fewer addresses are kept off -/
theorem Conf.less (C : Conf K ms R Z σ H c) (hR : ∀ a, R' a → R a) : Conf K ms R' Z σ H c where
  len := C.len
  slot := fun i w e => by
    obtain ⟨v, e1, r⟩ := C.slot i w e
    refine ⟨v, e1, RepV.imp (fun a o e n => ⟨e, ?_⟩) (Keep.refl _ _) r⟩
    rintro (z | z)
    · exact n (.inl (hR a z))
    · exact n (.inr z)
  inj := C.inj
  own := fun p hp => ⟨fun z => (C.own p hp).1 (hR p z), (C.own p hp).2⟩
  rd := fun p hp => C.rd p (hR p hp)
  ez := C.ez
  st := C.st
/-- an address that nothing goes through yet is kept off -/
theorem Conf.more (C : Conf K ms R Z σ H c) {p : Addr} {o : HO} (h : H p = none) : Conf K ms (fun a => R a ∨ a = p) Z σ (upd H p o) c where
  len := C.len
  slot := fun i w e => by
    obtain ⟨v, e1, r⟩ := C.slot i w e
    refine ⟨v, e1, ?_⟩
    have k : Keep ms H (upd H p o) := Keep.new h
    have hh := res_keep (c := c) (c' := c) (R := R) (R' := fun a => R a ∨ a = p) k (Sub.refl σ c) (fun a z => by
      rcases z with z | z
      · exact .inl z
      · exact .inr (by rw [z]; exact h))
    exact RepV.imp hh k r
  inj := C.inj
  own := fun q hq => ⟨by
    rintro (z | z)
    · exact (C.own q hq).1 z
    · rw [z] at hq; exact C.own_in hq h, (C.own q hq).2⟩
  rd := fun q hq => by
    rcases hq with z | z
    · obtain ⟨h1, h2⟩ := C.rd q z
      refine ⟨?_, h2⟩
      by_cases e : q = p
      · rw [e, upd_same]; simp
      · rw [upd_ne e]; exact h1
    · rw [z, upd_same]
      exact ⟨by simp, fun y => C.st.ne y h⟩
  ez := fun a u e n => by
    have := C.ez a u e n
    rw [upd_ne (ne_of_none this h)]
    exact this
  st := by
    have n1 : ∀ a, ms.at_ a → upd H p o a = H a := fun a z => upd_ne fun y => C.st.ne z (by rw [y]; exact h)
    exact ⟨(n1 _ (.inl rfl)).trans C.st.m, (n1 _ (.inr (.inl rfl))).trans C.st.c, (n1 _ (.inr (.inr rfl))).trans C.st.g, C.st.cg⟩
theorem StOk.upd {s : DS} (h : StOk ms H s) {p : Addr} {o : HO} (n : H p = none) : StOk ms (L2.upd H p o) s := by
  have n1 : ∀ a, ms.at_ a → L2.upd H p o a = H a := fun a z => upd_ne fun y => h.ne z (by rw [y]; exact n)
  exact ⟨(n1 _ (.inl rfl)).trans h.m, (n1 _ (.inr (.inl rfl))).trans h.c, (n1 _ (.inr (.inr rfl))).trans h.g, h.cg⟩
theorem Conf.new (C : Conf K ms R Z σ H c) {p : Addr} {o : HO} (h : H p = none) : Conf K ms R Z σ (upd H p o) c := C.keep (Keep.new h) (C.st.upd h)

/-- what an expression yields -/
def Yld (K : PySem.W.Frag) (ms : Ms) (R : Addr → Prop) (Z : Hp) (σ : L2.St) (H : Hp) (c : Cfg) (v : V) : W → Prop
  | .own ds => ∃ p vs, v = .ref p ∧ H p = some (.lst vs) ∧ Z p = none ∧ ¬ R p ∧ Conf K ms (fun a => R a ∨ a = p) Z σ H c ∧ Reps K (Res ms (fun a => R a ∨ a = p) σ c.ρ) H vs ds
  | w => Conf K ms R Z σ H c ∧ RepV K (Res ms R σ c.ρ) H ms v w
theorem Yld.rep (y : Yld K ms R Z σ H c v w) : Conf K ms R Z σ H c ∧ RepV K (Res ms R σ c.ρ) H ms v w := by
  cases w with
  | own ds =>
    obtain ⟨p, vs, rfl, e, z, n, C, r⟩ := y
    refine ⟨C.less (fun a h => .inl h), p, vs, rfl, e, (C.rd p (.inr rfl)).2, Reps.imp (fun a o e n => ⟨e, ?_⟩) _ _ r⟩
    rintro (z | z)
    · exact n (.inl (.inl z))
    · exact n (.inr z)
  | val d => exact y
  | bor d => exact y
  | stm => exact y
theorem Conf.own_ne {p : Addr} (C : Conf K ms (fun a => R a ∨ a = p) Z σ H c) : ¬ OwnA σ c.ρ p := fun z => (C.own p z).1 (.inr rfl)
/-- a new list is shared -/
theorem Yld.share (y : Yld K ms R Z σ H c v w) : Conf K ms R Z σ H c ∧ RepV K (Res ms R σ c.ρ) H ms v w.share := by
  cases w with
  | own ds =>
    have q := y.rep
    obtain ⟨p, vs, rfl, e, z, n, C, r⟩ := y
    refine ⟨q.1, .list e ?_ (Reps.imp (fun a o e n => ⟨e, ?_⟩) _ _ r)⟩
    · rintro (y | y | y)
      · exact n y
      · exact C.own_ne y
      · exact (C.rd p (.inr rfl)).2 y
    · rintro (z | z)
      · exact n (.inl (.inl z))
      · exact n (.inr z)
  | val d => exact y
  | bor d => exact y
  | stm => exact y
theorem Yld.read (y : Yld K ms R Z σ H c v w) : Conf K ms R Z σ H c ∧ RepV K (Res ms R σ c.ρ) H ms v w.read := by
  have q := y.rep
  cases w with
  | own ds => exact q
  | val d => exact y
  | bor d => exact y
  | stm => exact y
/-- a fresh list -/
theorem Yld.fresh (C : Conf K ms R Z σ H c) {p : Addr} {vs : List V} {ds : List PyData} (h : H p = none) (r : Reps K (Res ms R σ c.ρ) H vs ds) : Yld K ms R Z σ (upd H p (.lst vs)) c (.ref p) (.own ds) := by
  refine ⟨p, vs, rfl, upd_same, C.z_none h, fun z => (C.rd p z).1 h, C.more h, Reps.imp (fun a o e n => ⟨?_, ?_⟩) _ _ r⟩
  · rw [upd_ne (ne_of_none e h)]; exact e
  · rintro ((z | z) | z)
    · exact n (.inl z)
    · rw [z, h] at e; cases e
    · exact n (.inr z)
/-- a fresh tuple -/
theorem Yld.tuple (C : Conf K ms R Z σ H c) {p : Addr} {vs : List V} {ds : List PyData} (h : H p = none) (r : Reps K (Res ms R σ c.ρ) H vs ds) : Yld K ms R Z σ (upd H p (.tup vs)) c (.ref p) (.val (.tuple ds)) :=
  ⟨C.new h, .tup upd_same (C.fresh h) (Reps.imp (fun a o e n => ⟨by rw [upd_ne (ne_of_none e h)]; exact e, n⟩) _ _ r)⟩
end

/-! ### what is wished of an evaluation: X, what is wished of an error -/
abbrev XK' := Nat → List PyData → Cfg → Hp → Prop
def Good {α β : Type} (ms : Ms) (σ : L2.St) (X : XK') (Y : Hp → Cfg → β → α → Prop) (H : Hp) (c : Cfg) (Q : β → Hp → Prop) : Rs α → Prop
  | .ok a c' => ∀ b H', Sub σ c c' → Keep ms H H' → Y H' c' b a → Q b H'
  | .exc k ds c' => ∀ H', Keep ms H H' → X k ds c' H'
  | .bad => False
section
variable {K : PySem.W.Frag} {ms : Ms} {R : Addr → Prop} {Z H H1 : Hp} {σ : L2.St} {c c1 : Cfg} {α β γ δ : Type} {X : XK'}
theorem Good.mono {Y : Hp → Cfg → β → α → Prop} {Q Q' : β → Hp → Prop} {r : Rs α} (g : Good ms σ X Y H c Q r) (h : ∀ b H', Keep ms H H' → Q b H' → Q' b H') : Good ms σ X Y H c Q' r := by
  cases r with
  | ok a c' => exact fun b H' s k y => h b H' k (g b H' s k y)
  | exc k ds c' => exact g
  | bad => exact g
theorem Good.shift {Y : Hp → Cfg → β → α → Prop} {Q : β → Hp → Prop} {r : Rs α} (k : Keep ms H H1) (s : Sub σ c c1) (g : Good ms σ X Y H c Q r) : Good ms σ X Y H1 c1 Q r := by
  cases r with
  | ok a c' => exact fun b H' s' k' y => g b H' (s.trans s') (k.trans k') y
  | exc _ _ _ => exact fun H' k' => g H' (k.trans k')
  | bad => exact g
theorem Good.bind {Y1 : Hp → Cfg → β → α → Prop} {Y2 : Hp → Cfg → δ → γ → Prop} {Q : δ → Hp → Prop} {r : Rs α} {f : α → Cfg → Rs γ} (g : Good ms σ X Y2 H c Q (r.bind f)) :
    Good ms σ X Y1 H c (fun b H1 => ∃ a c1, r = .ok a c1 ∧ Keep ms H H1 ∧ Sub σ c c1 ∧ Y1 H1 c1 b a ∧ Good ms σ X Y2 H1 c1 Q (f a c1)) r := by
  cases r with
  | ok a c1 => exact fun b H1 s k y => ⟨a, c1, rfl, k, s, y, g.shift k s⟩
  | exc k ds c' => exact g
  | bad => exact g
theorem Good.ofO {Y1 : Hp → Cfg → β → α → Prop} {Q : β → Hp → Prop} {o : Option α} (g : Good ms σ X Y1 H c Q (ofO o c)) : ∃ a, o = some a ∧ Good ms σ X Y1 H c Q (.ok a c) := by
  cases o with
  | some a => exact ⟨a, rfl, g⟩
  | none => exact False.elim g
theorem Good.bindO {Y2 : Hp → Cfg → δ → γ → Prop} {Q : δ → Hp → Prop} {o : Option α} {f : α → Cfg → Rs γ} (g : Good ms σ X Y2 H c Q ((Pyv.ofO o c).bind f)) : ∃ a, o = some a ∧ Good ms σ X Y2 H c Q (f a c) := by
  cases o with
  | some a => exact ⟨a, rfl, g⟩
  | none => exact False.elim g
/-- an answer without a new object -/
theorem Good.now {Y1 : Hp → Cfg → β → α → Prop} {Q : β → Hp → Prop} {a : α} {b : β} (g : Good ms σ X Y1 H c Q (.ok a c)) (y : Y1 H c b a) : Q b H := g b H (Sub.refl _ _) (Keep.refl _ _) y
end
end Pyv
end
/-! ## Pyv3 -/
section
set_option maxRecDepth 100000
set_option maxHeartbeats 4000000
/-! Pyv 3: operators and built-ins on plain data. -/
namespace Pyv
open PySem PySem.Spec PyProof.Rows L2

/-! ### tuple * 1, tuple * 0 -/
theorem tuple_mul_self (l : Addr) (items : Array Value) (n : Nat) (dd : Option Addr) (sl : Array (Option Value)) (u : Tok) :
    Meets (Builtin.«tuple.__mul__» ⟨[.ref l, .int 1 u], []⟩) (fun _ R s => s.heap.get? l = some { cls := .type "tuple", dict := dd, data := .seq items n, slots := sl } ∧ R (.ok (.ret (Value.ref l))) s) :=
  .of_wp fun prog w A R s h => by
    obtain ⟨hp, g, d, tk, os⟩ := s
    obtain ⟨hl, h⟩ := h
    have f1 := AutoSeq1.idx_int
    have c0 : (decide ((1 : Int) < -(2 ^ 63)) || decide ((1 : Int) ≥ 2 ^ 63)) = false := by decide
    have c1 : (items.isEmpty || (1 : Int) == 1) = true := by simp
    wp_walk using wpAny_loadPart' hl
    repeat (first
      | (refine wpAny_ite_false (decide_eq_false (by rw [c0]; exact Bool.false_ne_true)) ?_; wp_walk using wpAny_loadPart' hl)
      | (refine wpAny_ite_true (decide_eq_true c1) ?_; wp_walk using wpAny_loadPart' hl))
    exact ⟨_, rfl, h⟩
theorem tuple_mul_zero (l : Addr) (items : Array Value) (n : Nat) (dd : Option Addr) (sl : Array (Option Value)) (u : Tok) (hi : items.isEmpty = false) :
    Meets (Builtin.«tuple.__mul__» ⟨[.ref l, .int 0 u], []⟩) (fun _ R s => s.heap.get? l = some { cls := .type "tuple", dict := dd, data := .seq items n, slots := sl } ∧
      R (.ok (.ret (Value.ref s.heap.objs.size))) { s with heap := s.heap.push { cls := Value.type "tuple", data := Data.seq #[] }, toks := s.toks }) :=
  .of_wp fun prog w A R s h => by
    obtain ⟨hp, g, d, tk, os⟩ := s
    obtain ⟨hl, h⟩ := h
    have f1 := AutoSeq1.idx_int
    have c0 : (decide ((0 : Int) < -(2 ^ 63)) || decide ((0 : Int) ≥ 2 ^ 63)) = false := by decide
    have c1 : (items.isEmpty || (0 : Int) == 1) = false := by rw [hi]; rfl
    have c2 : (decide ((0 : Int) ≤ 0) || items.isEmpty) = true := by simp
    wp_walk using wpAny_loadPart' hl
    repeat (first
      | (refine wpAny_ite_false (decide_eq_false (by rw [c0]; exact Bool.false_ne_true)) ?_; wp_walk using wpAny_loadPart' hl)
      | (refine wpAny_ite_false (decide_eq_false (by rw [c1]; exact Bool.false_ne_true)) ?_; wp_walk using wpAny_loadPart' hl)
      | (refine wpAny_ite_true (decide_eq_true c2) ?_; wp_walk using wpAny_loadPart' hl))
    exact ⟨_, rfl, h⟩
def rRepA (K : PySem.W.Frag) : R2 := fun x y H Q => ∃ l k xs, x = .ref l ∧ y = .int k ∧ SqT K H l xs ∧ xs ≠ [] ∧ 0 ≤ k ∧ k ≤ 1000 ∧ xs.length ≤ 1000 ∧ (k = 1 → Q (.ref l) H) ∧ (k ≠ 1 → ∀ p, H p = none → Q (.ref p) (upd H p (.tup (List.replicate k.toNat xs).flatten)))
section
variable {X : Cx}
theorem op_repA : OpR X (binaryOp .Mult) (rRepA X.K) := by
  intro pins s σ H x y v u Q I rx ry h
  obtain ⟨l, k, xs, rfl, rfl, hT, hne, h1, h2, hz, q1, q2⟩ := h
  by_cases h22 : 2 ≤ k
  · exact op_repT pins s σ H _ _ v u Q I rx ry ⟨l, k, xs, rfl, rfl, hT, hne, h22, h2, hz, q2 (by omega)⟩
  · cases rx
    obtain ⟨t, rfl⟩ := ry
    obtain ⟨its, r, ⟨⟨cls, dd, data, sl⟩, ho, hc, n, hd⟩, hs⟩ := I.tuple hT
    simp only at hc hd
    subst hc hd
    have hle : its.length = xs.length := r.length.symm
    have hn : its ≠ [] := fun e => hne (by
      rw [e] at hle
      exact List.eq_nil_of_length_eq_zero hle.symm)
    have hi : its.toArray.isEmpty = false := by
      cases its with
      | nil => exact absurd rfl hn
      | cons a b => rfl
    by_cases h11 : k = 1
    · subst h11
      refine wpAny_binaryOp_repeat_ref (T := "tuple") (U := "int") (by decide) ⟨_, ho, rfl⟩ (fun s' => typeIs_int s' 1 t) noFill_tuple_mul F.fills_int_mul F.slot_int_rmul repeat_tuple F.slot_int_index.lookup
        (call_meets F.slot_int_rmul (typeIs_int s 1 t) F.entry_int_rmul (F.args_int_rmul_2 _ _) (int_rmul_tuple 1 t l its.toArray n dd sl)
          ⟨ho, rfl, ⟨_, ho, rfl⟩, call_meets F.slot_tuple_mul ⟨_, ho, rfl⟩ F.entry_tuple_mul (F.args_tuple_mul_2 _ _) (tuple_mul_self l its.toArray n dd sl t) ⟨ho, ?_⟩⟩)
      exact ⟨.ref l, H, I, rfl, q1 rfl⟩
    · have h00 : k = 0 := by omega
      subst h00
      refine wpAny_binaryOp_repeat_ref (T := "tuple") (U := "int") (by decide) ⟨_, ho, rfl⟩ (fun s' => typeIs_int s' 0 t) noFill_tuple_mul F.fills_int_mul F.slot_int_rmul repeat_tuple F.slot_int_index.lookup
        (call_meets F.slot_int_rmul (typeIs_int s 0 t) F.entry_int_rmul (F.args_int_rmul_2 _ _) (int_rmul_tuple 0 t l its.toArray n dd sl)
          ⟨ho, rfl, ⟨_, ho, rfl⟩, call_meets F.slot_tuple_mul ⟨_, ho, rfl⟩ F.entry_tuple_mul (F.args_tuple_mul_2 _ _) (tuple_mul_zero l its.toArray n dd sl t hi) ⟨ho, ?_⟩⟩)
      refine ⟨.ref s.heap.objs.size, _, I.laid (t' := s.toks) (o := .tup []) (fun b ob q => Heap.get?_push_of_some _ q) (Nat.le_refl _) ?_, rfl, q2 (by omega) _ (I.hok.fresh (Nat.le_refl _))⟩
      exact ⟨Nat.zero_le _, _, .nil, IsTup.new _ _⟩
/-- any value is True, is False -/
def rIsBool : R2 := fun x y H Q => ∃ b : Bool, y = .bl b ∧ (∀ n, x ≠ .ty n) ∧ Q (.bl (decide (x = .bl b))) H
theorem op_isBool : OpR X (compareOp .Is) rIsBool := by
  intro pins s σ H x y v u Q I rx ry h
  obtain ⟨b, rfl, hn, q⟩ := h
  cases (show u = Value.bool b from ry)
  cases x with
  | bl a => exact op_isBl pins s σ H _ _ v _ Q I rx (show RelV (.bl b) (.bool b) from rfl) ⟨a, b, rfl, rfl, by
      by_cases e : a = b
      · subst e; simpa using q
      · simpa [e] using q⟩
  | non =>
    cases (show v = Value.none from rx)
    exact wpAny_is_other rfl (fun z => by cases z) ⟨.bl false, H, I, rfl, by simpa using q⟩
  | int i =>
    obtain ⟨t, rfl⟩ := rx
    exact wpAny_is_other rfl (fun z => by cases z) ⟨.bl false, H, I, rfl, by simpa using q⟩
  | str i =>
    obtain ⟨t, rfl⟩ := rx
    exact wpAny_is_other rfl (fun z => by cases z) ⟨.bl false, H, I, rfl, by simpa using q⟩
  | byt i =>
    obtain ⟨t, rfl⟩ := rx
    exact wpAny_is_other rfl (fun z => by cases z) ⟨.bl false, H, I, rfl, by simpa using q⟩
  | flt i =>
    obtain ⟨t, rfl⟩ := rx
    exact wpAny_is_other rfl (fun z => by cases z) ⟨.bl false, H, I, rfl, by simpa using q⟩
  | ref a =>
    cases (show v = Value.ref a from rx)
    exact wpAny_is_other rfl (fun z => by cases z) ⟨.bl false, H, I, rfl, by simpa using q⟩
  | ty n => exact absurd rfl (hn n)
end
end Pyv
end
/-! ## Pyv3b -/
section
set_option maxRecDepth 100000
set_option maxHeartbeats 4000000
/-! Pyv 3b: enumerate of a tuple, walks of a list or a tuple, sum of a tuple, sorted data. -/
namespace Pyv
open PySem PySem.Spec PyProof.Rows L2
open PySem.W (EachIs)

theorem meets_enumerate_newT (l : Addr) (items : Array Value) (n : Nat) (dct : Option Addr) (sl : Array (Option Value)) :
    Meets (Builtin.«enumerate.__new__» ⟨[.type "enumerate", .ref l], []⟩) (fun _ R s => s.heap.get? l = some { cls := .type "tuple", dict := dct, data := .seq items n, slots := sl } ∧
      R (.ok (.ret (.ref (s.heap.push { cls := .type "tuple_iterator", data := .fields #[.ref l, .int 0 0] }).objs.size)))
        { s with heap := (s.heap.push { cls := .type "tuple_iterator", data := .fields #[.ref l, .int 0 0] }).push { cls := .type "enumerate", data := .fields #[.none, .bool false, .ref s.heap.objs.size, rawInt 0, .none, .none] } }) :=
  .of_wp fun prog w A R s h => by
    obtain ⟨hp, g, d, tk, os⟩ := s; obtain ⟨hl, h⟩ := h
    have hsub := sub_enumerate
    have hL : Heap.IsTuple (Shared.heap ⟨hp, g, d, tk, os⟩) l items := ⟨_, hl, rfl, n, rfl⟩
    wp_walk using AutoSeq1.wpAny_loadPart' hl
    refine wpAny_stack_any fun st => wpAny_pure ?_
    split
    · rename_i c _ _ _ _ _
      cases (c == Value.type "enumerate")
      · wp_walk using AutoSeq1.wpAny_loadPart' hl, wpAny_pyIter_tuple hL
        exact ⟨_, rfl, h⟩
      · wp_walk using AutoSeq1.wpAny_loadPart' hl, wpAny_pyIter_tuple hL
        exact ⟨_, rfl, h⟩
    · wp_walk using AutoSeq1.wpAny_loadPart' hl, wpAny_pyIter_tuple hL
      exact ⟨_, rfl, h⟩
section
variable {prog : Program} {w : World} {A : Around} {E : Value → Shared → Prop} {s : Shared}
theorem call_enumerate_tuple {l : Addr} {items : Array Value} {Q : Value → Shared → Prop} (hL : s.heap.IsTuple l items)
    (h : ∀ h', IsEnum h' (s.heap.objs.size + 1) s.heap.objs.size 0 .none → h'.IsTupleIter s.heap.objs.size l 0 → h'.objs.size = s.heap.objs.size + 2 →
      (∀ b o, s.heap.get? b = some o → h'.get? b = some o) → Q (.ref (s.heap.objs.size + 1)) { s with heap := h' }) :
    wpAny (model prog w) A (call (.type "enumerate") [.ref l]) Q E s := by
  obtain ⟨⟨c, dct, dt, sl⟩, hl, hc, n, hd⟩ := hL
  replace hc : c = .type "tuple" := hc
  replace hd : dt = .seq items n := hd
  subst hc hd
  refine callType_new F.called_enumerate (by decide) (F.typeCall_enumerate_1 _) (F.newCall_enumerate_1 _) (fun obj => F.args_object_init_2 obj _) F.entry_enumerate_new
    (meets_enumerate_newT l items n dct sl) ⟨hl, ?_⟩
  have hz : (s.heap.push { cls := .type "tuple_iterator", data := .fields #[.ref l, .int 0 0] }).objs.size = s.heap.objs.size + 1 := Heap.size_push ..
  show _ ∧ _
  rw [hz]
  have he : IsEnum ((s.heap.push { cls := .type "tuple_iterator", data := .fields #[.ref l, .int 0 0] }).push
      { cls := .type "enumerate", data := .fields #[.none, .bool false, .ref s.heap.objs.size, rawInt 0, .none, .none] }) (s.heap.objs.size + 1) s.heap.objs.size 0 .none := by
    have := Heap.get?_push_size (s.heap.push { cls := .type "tuple_iterator", data := .fields #[.ref l, .int 0 0] })
      (o := { cls := .type "enumerate", data := .fields #[.none, .bool false, .ref s.heap.objs.size, rawInt 0, .none, .none] }) rfl
    rw [hz] at this; exact this
  refine ⟨⟨_, he, rfl⟩, h _ he ⟨_, Heap.get?_push_of_some _ (Heap.get?_push_size _ rfl), rfl, rfl⟩ (by rw [Heap.size_push, hz]) fun b o x => Heap.get?_push_of_some _ (Heap.get?_push_of_some _ x)⟩
end
/-- the tuple at a as it stands at each turn, each item in a new pair -/
def IteT (K : PySem.W.Frag) (a : Addr) : It :=
  ⟨fun i H => ∃ (xs : List V) (x : V), SqT K H a xs ∧ xs[i]? = some x, fun i H v H' => ∃ T x, v = .ref T ∧ H T = none ∧ H' = upd H T (.tup [.int (i : Nat), x]) ∧ ∀ xs, SqT K H a xs → xs[i]? = some x, fun i H => ∃ xs : List V, SqT K H a xs ∧ xs.length = i⟩
theorem turn_enumT {P : Program} {w : World} {K : PySem.W.Frag} {elts : List Expr} {kk : Nat} {tpos : Pos} (a e it : Addr) :
    Turn P w K (.Tuple elts kk tpos) (IteT K a) [e, it] e (fun i h => (∃ old, IsEnum h e it ((i : Nat) : Int) old) ∧ h.IsTupleIter it a i ∧ e ≠ it) where
  mem := by simp
  obj := fun i h st b hb => by
    obtain ⟨⟨old, he⟩, ⟨o, ho, hc, hd⟩, _⟩ := st
    have e' : b = e ∨ b = it := by simpa using hb
    rcases e' with z | z
    · rw [z]; exact ⟨_, he, fun v q => nomatch q⟩
    · rw [z]; exact ⟨o, ho, fun v q => by rw [hd] at q; cases q⟩
  keep := fun i h h' st k => let ⟨⟨old, he⟩, hi, hne⟩ := st; ⟨⟨old, k e (by simp) _ he⟩, hi.at fun o q => k it (by simp) o q, hne⟩
  item := by
    intro X hP hw hK hc i pins s σ H E I hf st hg
    subst hP hw hK
    obtain ⟨⟨old, he⟩, hit, hne⟩ := st
    obtain ⟨xs, x, hq, hx⟩ := hg
    obtain ⟨its, rv, p, hz⟩ := I.tuple hq
    obtain ⟨u, hu, ru⟩ := rv.get hx
    have hel : e < s.heap.objs.size := Heap.lt_size he
    have hil : it < s.heap.objs.size := by obtain ⟨_, q, _⟩ := hit; exact Heap.lt_size q
    have pt : s.heap.IsTuple a its.toArray := p
    have hai : a ≠ it := by
      rintro rfl
      obtain ⟨o1, e1, c1, _⟩ := pt
      obtain ⟨o2, e2, c2, _⟩ := hit
      rw [e1] at e2; cases e2
      rw [c1] at c2
      exact absurd c2 (by simp)
    have hae : a ≠ e := by
      rintro rfl
      obtain ⟨o1, e1, c1, _⟩ := pt
      unfold IsEnum at he
      rw [e1] at he; cases he
      exact absurd c1 (by simp)
    have hlt : i < its.toArray.size := by
      have := (List.getElem?_eq_some_iff.mp hu).1
      simpa using this
    refine wpAny_pyNext_enum_itemD (Draws.tuple (A := X.A.in1) (I.ok.hd hc) it a hai its.toArray) he ⟨hit, pt⟩ hlt hne (by simp [Ne.symm hae, hne]) fun u' h' tk hP ho hst hT hsz hk => ?_
    have hu' : u' = u := by
      have h1 : its.toArray[i]? = some u' := hP
      have h2 : its.toArray[i]? = some u := by simpa using hu
      rw [h1] at h2
      exact Option.some.inj h2
    subst hu'
    obtain ⟨hit', _⟩ := hst
    refine ⟨_, rfl, wpAny_letOwnedTupleGo_enum (s := { s with heap := h', toks := tk + 1 }) ho fun h'' he' sb => ?_⟩
    have hT2 : h''.get? s.heap.objs.size = some { cls := .type "tuple", data := .seq #[.int i tk, u'] } := (sb.2 _ (Nat.ne_of_gt hel)).trans hT
    have new : ObjOk X.prog X.w (upd H s.heap.objs.size (.tup [.int (i : Nat), x])) h'' s.heap.objs.size (.tup [.int (i : Nat), x]) :=
      ⟨by show 2 ≤ sizeLine; decide, [.int i tk, u'], .cons ⟨_, rfl⟩ (.cons ru .nil), ⟨_, hT2, rfl, _, rfl⟩⟩
    have I1 : Inv X pins σ (upd H s.heap.objs.size (.tup [.int (i : Nat), x])) { s with heap := h'', toks := tk + 1 } :=
      I.turnedNew (ch := [e, it]) (fun b ob hb q => (sb.2 b (fun z => hb (by simp [z]))).trans (hk b ob (fun z => hb (by simp [z])) (fun z => hb (by simp [z])) q)) hf (Nat.le_refl _) new
    refine ⟨.ref s.heap.objs.size, _, I1, rfl, ⟨_, x, rfl, I.hok.fresh (Nat.le_refl _), rfl, fun ys hy => by rw [I.tuple_inj hy hq]; exact hx⟩, ⟨⟨u', ?_⟩, hit'.at fun o q => (sb.2 it (Ne.symm hne)).trans q, hne⟩, fun b hb => ?_⟩
    · have e1 : ((i + 1 : Nat) : Int) = (i : Int) + 1 := by omega
      rw [e1]; exact he'
    · have hb' : b < s.heap.objs.size := by
        have e' : b = e ∨ b = it := by simpa using hb
        rcases e' with z | z
        · rw [z]; exact hel
        · rw [z]; exact hil
      rw [upd_ne (Nat.ne_of_lt hb')]
      exact (hf b hb).1
  done := by
    intro X hP hw hK hc i pins s σ H E I hf st hg
    subst hP hw hK
    obtain ⟨⟨old, he⟩, hit, hne⟩ := st
    obtain ⟨xs, hq, hx⟩ := hg
    obtain ⟨its, rv, p, hz⟩ := I.tuple hq
    obtain ⟨f0, f1, f2, f3, f4, f5⟩ := hf it (by simp)
    have hl := rv.length
    have pt : s.heap.IsTuple a its.toArray := p
    have hai : a ≠ it := by
      rintro rfl
      obtain ⟨o1, e1, c1, _⟩ := pt
      obtain ⟨o2, e2, c2, _⟩ := hit
      rw [e1] at e2; cases e2
      rw [c1] at c2
      exact absurd c2 (by simp)
    have hi : its.toArray.size = i := by simp; omega
    have D := Draws.tuple (prog := X.prog) (w := X.w) (A := X.A.in1) (I.ok.hd hc) it a hai its.toArray
    rw [hi] at D
    exact wpAny_pyNext_enum_endD D he ⟨hit, pt⟩ fun h' eb => ⟨rfl, I.turned (t' := s.toks) (fun b o hb q => eb b o hb q) f0 f1 f3 f4 f5⟩
  self := fun A i s Q E st h => let ⟨⟨_, he⟩, _⟩ := st; wpAny_pyIter_enum he h
/-- enumerate of a list or a tuple -/
def iEnumA (K : PySem.W.Frag) (ta : TA) : TI := fun σ H R => ta σ H fun vs H1 => ∃ a xs, vs = [.ref a] ∧ ((SqL K H1 a xs ∧ R (Ite K a) H1) ∨ (SqT K H1 a xs ∧ R (IteT K a) H1))
theorem pi_enumA {X : Cx} {e : Expr} {ta : TA} {p pos tpos : Pos} {elts : List Expr} {kk : Nat} (hg : Gl X "enumerate") (hm : X.mg "enumerate" = none) (ha : PA X [e] ta) (hs : starEach [e] X.env = [(false, eval e X.env)] := by rfl) :
    PI X (.Tuple elts kk tpos) (.Call (.Name "enumerate" p) [e] [] pos) (iEnumA X.K ta) := by
  refine ⟨fun pins s σ H R I h => ?_⟩
  refine Call_ (ld_blt I hg hm boot_enumerate (PyProof.Rows.callWith_type1 (thn (ha.run pos pins s σ H _ I h) fun us s1 ⟨vs, H1, I1, r1, q1⟩ => ?_) hs rfl))
  obtain ⟨a, xs, ex, q1⟩ := q1
  subst ex
  cases r1 with
  | cons r rr =>
    cases rr
    cases r
    have fresh2 : ∀ b, b ∈ [s1.heap.objs.size + 1, s1.heap.objs.size] → FpOk X pins H1 b := fun b hb => by
      have e' : b = s1.heap.objs.size + 1 ∨ b = s1.heap.objs.size := by simpa using hb
      have hle : s1.heap.objs.size ≤ b := by
        rcases e' with z | z
        · rw [z]; exact Nat.le_add_right _ _
        · rw [z]; exact Nat.le_refl _
      exact I1.fpOk hle (I1.hok.fresh hle)
    rcases q1 with ⟨hq, q⟩ | ⟨hq, q⟩
    · obtain ⟨its, rv, p', hz⟩ := I1.list hq
      refine call_enumerate_list p'.isList fun h' he hit hsz hk => wpAny_pyIter_enum he ?_
      have I2 : Inv X pins σ H1 { s1 with heap := h' } := I1.kept (t' := s1.toks) hk
      exact ⟨s1.heap.objs.size + 1, [s1.heap.objs.size + 1, s1.heap.objs.size], _, _, H1, rfl, I2, turn_enum a (s1.heap.objs.size + 1) s1.heap.objs.size, ⟨⟨.none, he⟩, hit, Nat.succ_ne_self _⟩, fresh2, q⟩
    · obtain ⟨its, rv, p', hz⟩ := I1.tuple hq
      refine call_enumerate_tuple (show s1.heap.IsTuple a its.toArray from p') fun h' he hit hsz hk => wpAny_pyIter_enum he ?_
      have I2 : Inv X pins σ H1 { s1 with heap := h' } := I1.kept (t' := s1.toks) hk
      exact ⟨s1.heap.objs.size + 1, [s1.heap.objs.size + 1, s1.heap.objs.size], _, _, H1, rfl, I2, turn_enumT a (s1.heap.objs.size + 1) s1.heap.objs.size, ⟨⟨.none, he⟩, hit, Nat.succ_ne_self _⟩, fresh2, q⟩
/-- a list or a tuple -/
def iSeq (K : PySem.W.Frag) (tl : TE) : TI := fun σ H R => tl σ H fun x H1 => ∃ a xs, x = .ref a ∧ ((SqL K H1 a xs ∧ R (Itl K a) H1) ∨ (SqT K H1 a xs ∧ R (Itt K a) H1))
theorem pi_seq {X : Cx} {tg l : Expr} {tl : TE} (hl : PE X l tl) : PI X tg l (iSeq X.K tl) := by
  refine ⟨fun pins s σ H R I h => ?_⟩
  refine thn (hl.run pins s σ H _ I h) fun v s1 ⟨x, H1, I1, r1, q1⟩ => ?_
  obtain ⟨a, xs, e, q1⟩ := q1
  subst e
  cases r1
  have fresh1 : ∀ b, b ∈ [s1.heap.objs.size] → FpOk X pins H1 b := fun b hb => by
    have e : b = s1.heap.objs.size := by simpa using hb
    subst e
    exact I1.fpOk (Nat.le_refl _) (I1.hok.fresh (Nat.le_refl _))
  rcases q1 with ⟨hq, q⟩ | ⟨hq, q⟩
  · obtain ⟨its, rv, p, hz⟩ := I1.list hq
    refine wpAny_pyIter_list p.isList ?_
    exact ⟨s1.heap.objs.size, [s1.heap.objs.size], _, _, H1, rfl, I1.kept (t' := s1.toks) fun b o e => Heap.get?_push_of_some _ e, turn_list a _, ⟨_, Heap.get?_push_size _ rfl, rfl, rfl⟩, fresh1, q⟩
  · obtain ⟨its, rv, p, hz⟩ := I1.tuple hq
    refine wpAny_pyIter_tuple (show s1.heap.IsTuple a its.toArray from p) ?_
    exact ⟨s1.heap.objs.size, [s1.heap.objs.size], _, _, H1, rfl, I1.kept (t' := s1.toks) fun b o e => Heap.get?_push_of_some _ e, turn_tuple a _, ⟨_, Heap.get?_push_size _ rfl, rfl, rfl⟩, fresh1, q⟩
theorem walk_enumT {K : PySem.W.Frag} {a : Addr} {xs : List V} : Walk (IteT K a) xs.length (fun H => SqT K H a xs) (YPair (fun i => some (.int (i : Nat))) (fun i => xs[i]?)) := by
  refine ⟨fun i _ hi q => ⟨xs, xs[i], q, by simp [hi]⟩, fun _ q => ⟨xs, q, rfl⟩, fun i H v H' _ q y => ?_⟩
  obtain ⟨T, x, h1, h2, h3, h4⟩ := y
  exact ⟨T, .int (i : Nat), x, h1, h2, h3, rfl, h4 xs q⟩
theorem walk_zipT {K : PySem.W.Frag} {a b : Addr} {xs ys : List V} {n : Nat} (hn : n = min xs.length ys.length) : Walk (RZ.ItzT K a b) n (fun H => SqT K H a xs ∧ SqT K H b ys) (YPair (fun i => xs[i]?) (fun i => ys[i]?)) := by
  subst hn
  refine ⟨fun i _ hi q => ?_, fun _ q => ⟨xs, ys, q.1, q.2, by omega⟩, fun i H v H' _ q y => ?_⟩
  · have h1 : i < xs.length := by omega
    have h2 : i < ys.length := by omega
    exact ⟨xs, ys, xs[i], ys[i], q.1, q.2, by simp [h1], by simp [h2]⟩
  · obtain ⟨T, x, y', h1, h2, h3, h4, h5⟩ := y
    exact ⟨T, x, y', h1, h2, h3, h4 xs q.1, h5 ys q.2⟩

/-! ### sum of a tuple -/
section
variable {prog : Program} {w : World} {A : Around} {E : Value → Shared → Prop} {s : Shared} {l : Addr} {its : List Value} {ns : List Int} {Q : Value → Shared → Prop}
theorem sum_rawT (hh : A.handled = none) (hl : s.heap.IsTuple l its.toArray) (hi : IntsAre its ns)
    (h : ∀ h' tk t', (∀ b o, s.heap.get? b = some o → h'.get? b = some o) → Q (.int ns.sum t') { s with heap := h', toks := tk }) : wpAny (model prog w) A (call (.builtin "sum") [.ref l]) Q E s := by
  obtain ⟨xs, e⟩ := hi.allInts.items
  have hn : numsOf (intItems xs).toList = ns := by rw [← e]; exact hi.numsOf
  rw [nums_intItems] at hn
  rw [e] at hl
  have hlt : l < s.heap.objs.size := by obtain ⟨_, e, _⟩ := hl; exact Heap.lt_size e
  refine call_sum_walkG (wpAny_pyIter_tuple hl ?_)
  refine ⟨_, [_, l], [_], _, _, _, numAt xs, rfl, Walks.tuple (A := A.in1) hh s.heap.objs.size l (Nat.ne_of_lt hlt) (intItems xs), ⟨⟨_, Heap.get?_push_size _ rfl, rfl, rfl⟩, hl.push _⟩, (fun b hb => ?_), (fun _ _ => intItems_at), fun h' tk t' hk => ?_⟩
  · show b < (s.heap.push _).objs.size
    rw [Heap.size_push]
    have e' : b = s.heap.objs.size ∨ b = l := by simpa using hb
    rcases e' with z | z
    · rw [z]; exact Nat.lt_succ_self _
    · rw [z]; exact Nat.lt_succ_of_lt hlt
  · have hk2 : ∀ b o, s.heap.get? b = some o → h'.get? b = some o := fun b o e => by
      refine hk b o (fun hm => ?_) (Heap.get?_push_of_some _ e)
      have e1 : b = s.heap.objs.size := by simpa using hm
      exact absurd (e1 ▸ Heap.lt_size e) (Nat.lt_irrefl _)
    have := h h' tk t' hk2
    have hsz : (intItems xs).size = xs.size := by simp [intItems]
    rw [hsz, preSum_eq, List.take_of_length_le (by simp), hn]; exact this
end
def rSumT (K : PySem.W.Frag) : List V → Hp → VK → Prop := fun vs H Q => ∃ (a : Addr) (ns : List Int), vs = [V.ref a] ∧ SqT K H a (ns.map V.int) ∧ Q (.int ns.sum) H
theorem cr_sumT {X : Cx} (hc : X.calm = true) : CallR X (.builtin "sum") (rSumT X.K) := by
  intro pins s σ H vs us Q I r h
  obtain ⟨a, ns, rfl, hs, q⟩ := h
  obtain ⟨its, rv, hl, _⟩ := I.tuple hs
  rw [Vals.ref1 r]
  exact sum_rawT (I.ok.hd hc) (show s.heap.IsTuple a its.toArray from hl) rv.ints fun h' tk t' hk => ⟨.int _, H, I.kept hk, ⟨_, rfl⟩, q⟩

/-! ### sorted data -/
theorem dpAll_each {X : Cx} {pins : List (Addr × Obj)} {σ : L2.St} {H : Hp} {s : Shared} (I : Inv X pins σ H s) : ∀ {vs : List V} {us : List Value} {ds : List PyData}, Vals vs us → DpAll X.K H vs ds → EachIs (fun v b => RelV b.1 v ∧ ∃ as, Reads s.heap v b.2 as) us (vs.zip ds)
  | _, _, _, .nil, .nil => .nil
  | v :: vs, u :: us, d :: ds, .cons r rs, .cons q qs => .cons ⟨r, Dp.reads I d v u q r⟩ (dpAll_each I rs qs)
def sortV (vs : List V) (ds : List PyData) : List V := ((vs.zip ds).mergeSort (PySem.W.dataLe false Prod.snd)).map Prod.fst
def rSortD (K : PySem.W.Frag) : List V → Hp → VK → Prop := fun xs H Q => ∃ (a : Addr) (vs : List V) (ds : List PyData), xs = [.ref a] ∧ SqL K H a vs ∧ DpAll K H vs ds ∧ sortOk ds = true ∧ ∀ p, H p = none → Q (.ref p) (upd H p (.lst (sortV vs ds)))
theorem eachIs_vals : ∀ {us : List Value} {bs : List (V × PyData)}, EachIs (fun v b => RelV b.1 v) us bs → Vals (bs.map Prod.fst) us
  | _, _, .nil => .nil
  | _, _, .cons r rs => .cons r (eachIs_vals rs)
theorem sortOk_of {ds : List PyData} (h : sortOk ds = true) : PySem.W.AllAlike ds ∧ PySem.W.Sortable ds ∧ (∀ d ∈ ds, d.depth ≤ 64) ∧ ds.length ≤ sizeLine := by
  unfold sortOk at h
  simp only [Bool.and_eq_true, Bool.or_eq_true, List.all_eq_true, decide_eq_true_eq] at h
  obtain ⟨⟨⟨h1, h2⟩, h3⟩, h4⟩ := h
  refine ⟨fun d hd d' hd' => h1 d hd d' hd', ?_, h3, h4⟩
  rcases h2 with h2 | h2
  · refine .inl fun d hd => ?_
    have := h2 d hd
    cases d with
    | tuple xs => cases xs with
      | nil => cases this
      | cons x r => exact ⟨x, r, rfl⟩
    | _ => cases this
  · refine .inr fun d hd => ?_
    have := h2 d hd
    cases d <;> first | (cases this; done) | exact ⟨by simp, by simp⟩
theorem dpAll_length {K : PySem.W.Frag} {H : Hp} : ∀ {vs : List V} {ds : List PyData}, DpAll K H vs ds → vs.length = ds.length
  | _, _, .nil => rfl
  | _, _, .cons _ t => by simp [dpAll_length t]
theorem cr_sortD {X : Cx} (hu : X.A.units + 67 < cLine) : CallR X (.builtin "sorted") (rSortD X.K) := by
  intro pins s σ H xs us Q I r h
  obtain ⟨a, vs, ds, rfl, hs, hd, ho, q⟩ := h
  obtain ⟨its, rv, hl, hz⟩ := I.list hs
  rw [Vals.ref1 r]
  obtain ⟨h1, h2, h3, h4⟩ := sortOk_of ho
  have hlen := dpAll_length hd
  have e := dpAll_each I rv hd
  have hm : (vs.zip ds).map Prod.snd = ds := by rw [List.map_snd_zip]; omega
  have hzl : (vs.zip ds).length = ds.length := by rw [List.length_zip]; omega
  refine PySem.W.sorted_data (R := fun v b => RelV b.1 v) (enc := Prod.snd) (bs := vs.zip ds) hl.isList (e.mono fun _ _ z => z.1) (e.mono fun _ _ z => z.2) (by rw [hm]; exact h1) (by rw [hm]; exact h2) (by rw [hzl]; exact h4) (fun b hb => ?_) fun out ho2 he => ?_
  · have : b.2 ∈ ds := by rw [← hm]; exact List.mem_map.mpr ⟨b, hb, rfl⟩
    have := h3 _ this
    omega
  · have hv : Vals (sortV vs ds) out := eachIs_vals he
    have fr : H (s.heap.objs.size + 1) = none := I.hok.fresh (Nat.le_succ _)
    refine ⟨.ref (s.heap.objs.size + 1), upd H (s.heap.objs.size + 1) (.lst (sortV vs ds)), I.laid (t' := s.toks) (fun b o z => PyProof.Rows.sortedAll_old z) (Nat.le_succ _) ?_, rfl, q _ fr⟩
    obtain ⟨n, hn⟩ := PyProof.Rows.sortedAll_at s.heap its out.toArray
    refine ⟨?_, out, n, hv, hn⟩
    rw [hv.length, ho2, hzl]; exact h4
end Pyv
end
/-! ## Pyv3c -/
section
set_option maxRecDepth 100000
set_option maxHeartbeats 4000000
/-! Pyv 3c: operators by data. -/
namespace Pyv
open PySem PySem.Spec PyProof.Rows L2

/-- a datum as it is read: a list's own object may be anybody's -/
def RepT (K : PySem.W.Frag) (A : Addr → Prop) (H : Hp) (ms : Ms) (v : V) : PyData → Prop
  | .list ds => ∃ p vs, v = .ref p ∧ H p = some (.lst vs) ∧ ¬ ms.at_ p ∧ Reps K A H vs ds
  | d => Rep K A H v d
section
variable {K : PySem.W.Frag} {A : Addr → Prop} {H : Hp} {ms : Ms} {v x y : V} {w : W} {d e : PyData}
theorem Rep.top (hA : ∀ a, ms.at_ a → A a) (r : Rep K A H v d) : RepT K A H ms v d := by
  cases d with
  | list ds =>
    obtain ⟨a, vs, rfl, e, n, q⟩ := r.lst
    exact ⟨a, vs, rfl, e, fun z => n (hA a z), q⟩
  | _ => exact r
theorem RepV.dat (hA : ∀ a, ms.at_ a → A a) (r : RepV K A H ms v w) (e : w.data = some d) : RepT K A H ms v d := by
  cases w with
  | val d' =>
    cases e
    exact Rep.top hA r
  | own ds => cases e; exact r
  | bor ds => cases e; exact r
  | stm => cases e
theorem RepT.dp (r : RepT K A H ms v d) : Dp K H v d := by
  cases d with
  | list ds =>
    obtain ⟨p, vs, rfl, e, n, q⟩ := r
    exact .lst (SqL.of e) (Reps.dp _ _ q)
  | none => exact Rep.dp _ _ r
  | bool b => exact Rep.dp _ _ r
  | int b => exact Rep.dp _ _ r
  | str b => exact Rep.dp _ _ r
  | tuple b => exact Rep.dp _ _ r
  | dict b => cases r
theorem RepT.int {i : Int} (r : RepT K A H ms v (.int i)) : v = .int i := by cases r; rfl
theorem RepT.bool {i : Bool} (r : RepT K A H ms v (.bool i)) : v = .bl i := by cases r; rfl
theorem RepT.none (r : RepT K A H ms v .none) : v = .non := by cases r; rfl
theorem RepT.tuple {ds : List PyData} (r : RepT K A H ms v (.tuple ds)) : ∃ a vs, v = .ref a ∧ SqT K H a vs ∧ Reps K A H vs ds := Rep.sqT r
theorem RepT.list {ds : List PyData} (r : RepT K A H ms v (.list ds)) : ∃ p vs, v = .ref p ∧ H p = some (.lst vs) ∧ ¬ ms.at_ p ∧ Reps K A H vs ds := r
theorem RepT.not_ty (r : RepT K A H ms v d) : ∀ n, v ≠ .ty n := fun n z => by
  subst z
  cases d with
  | list ds => obtain ⟨p, vs, z, _⟩ := r; cases z
  | _ => cases r
theorem RepT.isNon (r : RepT K A H ms v d) : decide (v = .non) = isNoneD d := by
  cases d with
  | none => cases r; rfl
  | list ds => obtain ⟨p, vs, rfl, _⟩ := r; simp [isNoneD]
  | tuple ds => obtain ⟨p, vs, rfl, _⟩ := RepT.tuple r; simp [isNoneD]
  | dict ds => cases r
  | _ => cases r; simp [isNoneD]
theorem RepT.isBl {b : Bool} (r : RepT K A H ms v d) : decide (v = .bl b) = isBoolD b d := by
  cases d with
  | bool a =>
    cases r
    by_cases e : a = b
    · subst e; simp [isBoolD]
    · simp [isBoolD, e]
  | list ds => obtain ⟨p, vs, rfl, _⟩ := r; simp [isBoolD]
  | tuple ds => obtain ⟨p, vs, rfl, _⟩ := RepT.tuple r; simp [isBoolD]
  | dict ds => cases r
  | _ => cases r; simp [isBoolD]
theorem RepT.flat (r : RepT K A H ms v d) (f : flatD d = true) : flatV v = true := by
  cases d with
  | list ds => cases f
  | tuple ds => cases f
  | dict ds => cases f
  | _ => cases r; rfl
theorem Rep.flat (r : Rep K A H v d) (f : flatD d = true) : flatV v = true := by
  cases d with
  | list ds => cases f
  | tuple ds => cases f
  | dict ds => cases f
  | _ => cases r; rfl
theorem eqV_eqv (r : Rep K A H x d) (q : RepT K A H ms y e) (f : flatD d = true) (g : flatD e = true) : eqV x y = PyData.eqv d e := by
  cases d with
  | list ds => cases f
  | tuple ds => cases f
  | dict ds => cases f
  | _ => cases r <;> (cases e with
    | list ds => cases g
    | tuple ds => cases g
    | dict ds => cases g
    | _ => cases q <;> (first | rfl | (simp [eqV, PyData.eqv])))
theorem flats {vs : List V} {ds : List PyData} : Reps K A H vs ds → ds.all flatD = true → vs.all flatV = true := by
  intro r
  induction ds generalizing vs with
  | nil => intro _; cases r; rfl
  | cons d ds ih =>
    intro f
    cases r with
    | cons r rs =>
      rw [List.all_cons, Bool.and_eq_true] at f ⊢
      exact ⟨Rep.flat r f.1, ih rs f.2⟩
theorem inV_any {vs : List V} {ds : List PyData} (q : RepT K A H ms y e) (g : flatD e = true) : Reps K A H vs ds → ds.all flatD = true → inV y vs = ds.any fun z => PyData.eqv z e := by
  intro r
  induction ds generalizing vs with
  | nil => intro _; cases r; rfl
  | cons d ds ih =>
    intro f
    cases r with
    | cons r rs =>
      rw [List.all_cons, Bool.and_eq_true] at f
      have h1 := eqV_eqv r q f.1 g
      have h2 := ih rs f.2
      unfold inV at h2 ⊢
      rw [List.any_cons, List.any_cons, h1, h2]
end

/-! ### binary operators -/
def rBin (K : PySem.W.Frag) : Operator → R2
  | .Add => fun x y H Q => rI0 (fun i j => .int (i + j)) x y H Q ∨ rCat x y H Q ∨ rCatA K x y H Q
  | .Sub => rI0 fun i j => .int (i - j)
  | .Mult => fun x y H Q => rI CMul (fun i j => .int (i * j)) x y H Q ∨ rRepA K x y H Q
  | .FloorDiv => rI CDiv fun i j => .int (i / j)
  | .Mod => rI (fun _ j => 0 < j) fun i j => .int (i % j)
  | .Pow => rI CPow fun i j => .int (i ^ j.toNat)
  | _ => fun _ _ _ _ => False
theorem op_bin {X : Cx} (op : Operator) : OpR X (binaryOp op) (rBin X.K op) := by
  cases op with
  | Add => exact op_add.or (op_cat.or op_catA)
  | Sub => exact op_sub
  | Mult => exact op_mul.or op_repA
  | FloorDiv => exact op_fdiv
  | Mod => exact op_mod
  | Pow => exact op_pow
  | _ => exact fun _ _ _ _ _ _ _ _ _ _ _ _ h => h.elim
section
variable {K : PySem.W.Frag} {ms : Ms} {R : Addr → Prop} {Z H : Hp} {σ : L2.St} {c : Cfg} {X : XK'} {x y : V} {d e : PyData} {Q : VK} {w : W}
theorem at_res {a : Addr} (h : ms.at_ a) : Res ms R σ c.ρ a := .inr (.inr h)
theorem bin_ok {op : Operator} (C : Conf K ms R Z σ H c) (rx : RepT K (Res ms R σ c.ρ) H ms x d) (ry : RepT K (Res ms R σ c.ρ) H ms y e) (hb : bin2 op d e = some w)
    (g : ∀ v H', Keep ms H H' → Yld K ms R Z σ H' c v w → Q v H') : rBin K op x y H Q := by
  have now : ∀ v, Yld K ms R Z σ H c v w → Q v H := fun v => g v H (Keep.refl _ _)
  have new : ∀ {p : Addr} {o : HO} {v : V}, H p = none → Yld K ms R Z σ (upd H p o) c v w → Q v (upd H p o) := fun {p o v} h => g v _ (Keep.new h)
  unfold bin2 at hb
  split at hb
  · cases hb
    exact .inl ⟨_, _, rx.int, ry.int, now _ ⟨C, .int⟩⟩
  · cases hb
    exact ⟨_, _, rx.int, ry.int, now _ ⟨C, .int⟩⟩
  · split at hb
    · rename_i i j hm
      cases hb
      have hm2 := of_mulOk hm
      exact .inl ⟨_, _, rx.int, ry.int, hm2, now _ ⟨C, .int⟩⟩
    · cases hb
  · split at hb
    · rename_i i j hm
      cases hb
      exact ⟨_, _, rx.int, ry.int, hm, now _ ⟨C, .int⟩⟩
    · cases hb
  · split at hb
    · rename_i i j hm
      cases hb
      exact ⟨_, _, rx.int, ry.int, hm, now _ ⟨C, .int⟩⟩
    · cases hb
  · split at hb
    · rename_i i j hm
      cases hb
      exact ⟨_, _, rx.int, ry.int, hm, now _ ⟨C, .int⟩⟩
    · cases hb
  · split at hb
    · rename_i xs ys hm
      cases hb
      obtain ⟨p, vs, rfl, e1, n1, r1⟩ := rx.list
      obtain ⟨q, ws, rfl, e2, n2, r2⟩ := ry.list
      exact .inr (.inl ⟨p, q, vs, ws, rfl, rfl, e1, e2, by rw [r1.length, r2.length]; exact hm, fun l hl => new hl (Yld.fresh C hl (r1.append r2))⟩)
    · cases hb
  · split at hb
    · rename_i xs ys hm
      cases hb
      obtain ⟨p, vs, rfl, e1, r1⟩ := rx.tuple
      obtain ⟨q, ws, rfl, e2, r2⟩ := ry.tuple
      refine .inr (.inr ⟨p, q, vs, ws, rfl, rfl, e1, e2, by rw [r1.length, r2.length]; exact hm, fun h0 => ?_, fun h0 h1 => ?_, fun h0 h1 l hl => new hl (Yld.tuple C hl (r1.append r2))⟩)
      · subst h0
        cases r1
        exact now _ ⟨C, ry⟩
      · subst h1
        cases r2
        rw [List.append_nil] at now
        exact now _ ⟨C, rx⟩
    · cases hb
  · split at hb
    · rename_i xs k hm
      cases hb
      obtain ⟨h1, h2, h3⟩ := hm
      obtain ⟨p, vs, rfl, e1, r1⟩ := rx.tuple
      have hl1 : vs.length = 1 := by rw [r1.length]; exact h1
      have rr : ∀ n : Nat, Reps K (Res ms R σ c.ρ) H (List.replicate n vs).flatten (List.replicate n xs).flatten := fun n => by
        induction n with
        | zero => exact .nil
        | succ n ih => rw [List.replicate_succ, List.replicate_succ, List.flatten_cons, List.flatten_cons]; exact r1.append ih
      refine .inr ⟨p, k, vs, rfl, ry.int, e1, (by intro z; rw [z] at hl1; cases hl1), h2, h3, by omega, fun hk => ?_, fun hk l hl => new hl (Yld.tuple C hl (rr _))⟩
      subst hk
      have : (List.replicate (1 : Int).toNat xs).flatten = xs := by simp
      rw [this] at now
      exact now _ ⟨C, rx⟩
    · cases hb
  · cases hb
end

/-! ### comparisons -/
def rCmp (K : PySem.W.Frag) : CmpOp → R2
  | .Lt => rI0 fun i j => .bl (decide (i < j))
  | .LtE => rI0 fun i j => .bl (decide (i ≤ j))
  | .Gt => rI0 fun i j => .bl (decide (j < i))
  | .GtE => rI0 fun i j => .bl (decide (j ≤ i))
  | .Eq => rEqD K
  | .NotEq => rNeD K
  | .Is => fun x y H Q => (y = .non ∧ Q (.bl (decide (x = .non))) H) ∨ rIsBool x y H Q
  | .IsNot => fun x y H Q => y = .non ∧ Q (.bl (!decide (x = .non))) H
  | .In => fun x y H Q => rInD K x y H Q ∨ rIn K false x y H Q
  | .NotIn => fun x y H Q => rNotInD K x y H Q ∨ rIn K true x y H Q
theorem op_cmp {X : Cx} {k : Nat} (hr : Room k X.A) (op : CmpOp) : OpR X (compareOp op) (rCmp X.K op) := by
  have h64 : X.A.units + 64 < cLine := hr.units
  have h65 : X.A.units + 65 < cLine := by have := hr.un; omega
  cases op with
  | Lt => exact op_lt
  | LtE => exact op_le
  | Gt => exact op_gt
  | GtE => exact op_ge
  | Eq => exact op_eqD h64
  | NotEq => exact op_neD h64
  | Is => exact op_isN.or op_isBool
  | IsNot => exact op_notN
  | In => exact (op_inD h65).or op_in_seq
  | NotIn => exact (op_notInD h65).or op_notIn_seq
section
variable {K : PySem.W.Frag} {ms : Ms} {A : Addr → Prop} {H : Hp} {x y : V} {d e : PyData} {Q : VK} {r : Bool}
theorem cmp_ok {op : CmpOp} (rx : RepT K A H ms x d) (ry : RepT K A H ms y e) (hb : cmp2 op d e = some r) (g : Q (.bl r) H) : rCmp K op x y H Q := by
  unfold cmp2 at hb
  split at hb
  · cases hb; exact ⟨_, _, rx.int, ry.int, g⟩
  · cases hb; exact ⟨_, _, rx.int, ry.int, g⟩
  · cases hb; exact ⟨_, _, rx.int, ry.int, g⟩
  · cases hb; exact ⟨_, _, rx.int, ry.int, g⟩
  · split at hb
    · rename_i hm
      cases hb
      exact ⟨_, _, rx.dp, ry.dp, hm.1, hm.2, g⟩
    · cases hb
  · split at hb
    · rename_i hm
      cases hb
      exact ⟨_, _, rx.dp, ry.dp, hm.1, hm.2, g⟩
    · cases hb
  · cases hb
    exact .inl ⟨ry.none, by rw [rx.isNon]; exact g⟩
  · cases hb
    exact ⟨ry.none, by rw [rx.isNon]; exact g⟩
  · cases hb
    exact .inr ⟨_, ry.bool, rx.not_ty, by rw [rx.isBl]; exact g⟩
  · split at hb
    · rename_i hm
      cases hb
      exact .inl ⟨_, _, rx.dp, ry.dp, hm.1, hm.2, g⟩
    · cases hb
  · split at hb
    · rename_i hm
      cases hb
      exact .inl ⟨_, _, rx.dp, ry.dp, hm.1, hm.2, g⟩
    · cases hb
  · split at hb
    · rename_i hm
      cases hb
      obtain ⟨p, vs, rfl, e1, r1⟩ := ry.tuple
      refine .inr ⟨p, vs, rfl, .inr e1, rx.flat hm.1, flats r1 hm.2, ?_⟩
      rw [if_neg Bool.false_ne_true, inV_any rx hm.1 r1 hm.2]
      exact g
    · cases hb
  · split at hb
    · rename_i hm
      cases hb
      obtain ⟨p, vs, rfl, e1, r1⟩ := ry.tuple
      refine .inr ⟨p, vs, rfl, .inr e1, rx.flat hm.1, flats r1 hm.2, ?_⟩
      rw [if_pos rfl, inV_any rx hm.1 r1 hm.2]
      exact g
    · cases hb
  · cases hb
theorem tru_of (rx : RepT K A H ms x d) (h : truth d = some r) : TruV K x H r := by
  cases d with
  | none => cases h; rw [rx.none]; exact rfl
  | bool b => cases h; rw [rx.bool]; exact rfl
  | int b => cases h; rw [rx.int]; exact rfl
  | list ds =>
    cases h
    obtain ⟨p, vs, rfl, e1, n, r1⟩ := rx.list
    refine .inl ⟨vs, SqL.of e1, ?_⟩
    have := r1.length
    cases vs <;> cases ds <;> first | rfl | (cases this)
  | tuple ds =>
    cases h
    obtain ⟨p, vs, rfl, e1, r1⟩ := rx.tuple
    refine .inr (.inl ⟨vs, e1, ?_⟩)
    have := r1.length
    cases vs <;> cases ds <;> first | rfl | (cases this)
  | _ => cases h
end

/-! ### items, slices -/
section
variable {K : PySem.W.Frag} {ms : Ms} {R : Addr → Prop} {Z H : Hp} {σ : L2.St} {c : Cfg} {x y : V} {d e : PyData} {Q : VK} {w : W}
theorem atI_rep {A : Addr → Prop} {vs : List V} {ds : List PyData} {i : Int} {d : PyData} (r : Reps K A H vs ds) (h : atI ds i = some d) : ∃ v, atI vs i = some v ∧ Rep K A H v d := by
  unfold atI at h ⊢
  rw [r.length]
  cases e : ixN ds.length i with
  | none => rw [e] at h; cases h
  | some j =>
    rw [e] at h
    obtain ⟨v, h1, h2⟩ := r.getD (i := j) (d := d) h
    exact ⟨v, h1, h2⟩
theorem ix_ok (C : Conf K ms R Z σ H c) (rx : RepT K (Res ms R σ c.ρ) H ms x d) (ry : RepT K (Res ms R σ c.ρ) H ms y e) (hb : ix2 d e = some w)
    (g : ∀ v, Yld K ms R Z σ H c v w → Q v H) : rIx K x y H Q := by
  unfold ix2 at hb
  split at hb
  · obtain ⟨p, vs, rfl, e1, n, r1⟩ := rx.list
    obtain ⟨d', h1, h2⟩ := Option.map_eq_some_iff.mp hb
    cases h2
    obtain ⟨v, h3, h4⟩ := atI_rep r1 h1
    exact .inl ⟨p, vs, _, v, rfl, ry.int, SqL.of e1, h3, g v ⟨C, h4⟩⟩
  · obtain ⟨p, vs, rfl, e1, r1⟩ := rx.tuple
    obtain ⟨d', h1, h2⟩ := Option.map_eq_some_iff.mp hb
    cases h2
    obtain ⟨v, h3, h4⟩ := atI_rep r1 h1
    exact .inr (.inl ⟨p, vs, _, v, rfl, ry.int, e1, h3, g v ⟨C, h4⟩⟩)
  · cases hb
def rSl (K : PySem.W.Frag) : V → Option Int → Option Int → Hp → VK → Prop := fun x lo hi H Q => rSlL K x lo hi H Q ∨ rSlA K x lo hi H Q
theorem sl_any {X : Cx} : SlR X (rSl X.K) := sl_list.or sl_tupA
theorem sl_ok {lo hi : Option Int} (C : Conf K ms R Z σ H c) (rx : RepT K (Res ms R σ c.ρ) H ms x d) (hb : sl3 d lo hi = some w)
    (g : ∀ v H', Keep ms H H' → Yld K ms R Z σ H' c v w → Q v H') : rSl K x lo hi H Q := by
  have new : ∀ {p : Addr} {o : HO} {v : V}, H p = none → Yld K ms R Z σ (upd H p o) c v w → Q v (upd H p o) := fun {p o v} h => g v _ (Keep.new h)
  unfold sl3 at hb
  split at hb
  · cases hb
    obtain ⟨p, vs, rfl, e1, n, r1⟩ := rx.list
    refine .inl ⟨p, vs, rfl, SqL.of e1, fun l hl => new hl (Yld.fresh C hl ?_)⟩
    unfold cutV
    rw [r1.length]
    exact (r1.drop _).take _
  · cases hb
    obtain ⟨p, vs, rfl, e1, r1⟩ := rx.tuple
    refine .inr ⟨p, vs, rfl, e1, fun ⟨h0, h1⟩ => g _ _ (Keep.refl _ _) ⟨C, ?_⟩, fun _ l hl => new hl (Yld.tuple C hl ?_)⟩
    · rw [r1.length] at h0 h1
      rw [h0, h1, List.drop_zero, Nat.sub_zero, List.take_length]
      exact rx
    · unfold cutV
      rw [r1.length]
      exact (r1.drop _).take _
  · cases hb
end

/-! ### built-ins -/
theorem RepT.tyX {K : PySem.W.Frag} {A : Addr → Prop} {H : Hp} {ms : Ms} {v : V} {d : PyData} (r : RepT K A H ms v d) : TyX K H v (.type (tyN d)) := by
  cases d with
  | none => rw [r.none]; exact .base .non
  | bool b => rw [r.bool]; exact .base (.bl b)
  | int b => rw [r.int]; exact .base (.int b)
  | str b => cases r; exact .base (.str b)
  | list ds => obtain ⟨p, vs, rfl, e, _⟩ := r.list; exact .base (.lst e)
  | tuple ds =>
    cases r with
    | tup e n q => exact .base (.tup e)
    | tupK e1 e2 e3 e4 e5 q => exact .kTuple e1 e2
  | dict ds => cases r
theorem kit_tab : ∀ a ∈ fiveTys, ∀ t ∈ fiveTys, kitB a t = some (tyB a t) := by decide +kernel
theorem kit_is {d : PyData} {t : String} (h : isOne t = true) (hn : notNone d = true) : kitB (tyN d) t = some (isTy d t) := by
  unfold isOne at h
  refine kit_tab _ ?_ _ (by simpa using h)
  cases d <;> first | (cases hn; done) | (simp [tyN, fiveTys])
def rBlt (K : PySem.W.Frag) : Blt → List V → Hp → VK → Prop
  | .len => fun xs H Q => ∃ p ys, xs = [.ref p] ∧ (SqL K H p ys ∨ SqT K H p ys) ∧ Q (.int ys.length) H
  | .tuple => fun xs H Q => ∃ p ys, xs = [.ref p] ∧ ((SqL K H p ys ∧ ∀ l, H l = none → Q (.ref l) (upd H l (.tup ys))) ∨ (SqT K H p ys ∧ Q (.ref p) H))
  | .list => fun xs H Q => ∃ p ys, xs = [.ref p] ∧ (SqL K H p ys ∨ SqT K H p ys) ∧ ∀ l, H l = none → Q (.ref l) (upd H l (.lst ys))
  | .sum => fun xs H Q => rSum K xs H Q ∨ rSumT K xs H Q
  | .all => rAll K
  | .any => rAny K
  | .sorted => rSortD K
  | .max => fun xs H Q => ∃ i j, xs = [.int i, .int j] ∧ Q (.int (if j > i then j else i)) H
  | .min => fun xs H Q => ∃ i j, xs = [.int i, .int j] ∧ Q (.int (if j < i then j else i)) H
  | .abs => fun xs H Q => ∃ i, xs = [.int i] ∧ Q (.int (if i < 0 then -i else i)) H
  | .int => fun xs H Q => (∃ i, xs = [.int i] ∧ Q (.int i) H) ∨ ∃ k, xs = [.bl k] ∧ Q (.int (if k then 1 else 0)) H
  | _ => fun _ _ _ => False
/-- its name, its value -/
def bltN : Blt → Str × Value
  | .len => ("len", .builtin "len")
  | .tuple => ("tuple", .type "tuple")
  | .list => ("list", .type "list")
  | .sum => ("sum", .builtin "sum")
  | .all => ("all", .builtin "all")
  | .any => ("any", .builtin "any")
  | .sorted => ("sorted", .builtin "sorted")
  | .max => ("max", .builtin "max")
  | .min => ("min", .builtin "min")
  | .abs => ("abs", .builtin "abs")
  | .int => ("int", .type "int")
  | .str => ("str", .type "str")
  | .isi _ => ("isinstance", .builtin "isinstance")
theorem call_blt {X : Cx} {k : Nat} (hr : Room k X.A) (hc : X.calm = true) (b : Blt) : CallR X (bltN b).2 (rBlt X.K b) := by
  cases b with
  | len => exact call_len_seq
  | tuple => exact call_tuple_of
  | list => exact call_list_of
  | sum => exact (cr_sum hc).or (cr_sumT hc)
  | all => exact cr_all hc
  | any => exact cr_any hc
  | sorted => exact cr_sortD (by have := hr.un; omega)
  | max => exact call_max2 hc
  | min => exact call_min2 hc
  | abs => exact call_abs
  | int => exact call_int1
  | str => exact fun _ _ _ _ _ _ _ _ _ h => h.elim
  | isi ts => exact fun _ _ _ _ _ _ _ _ _ h => h.elim
section
variable {K : PySem.W.Frag} {ms : Ms} {R : Addr → Prop} {Z H : Hp} {σ : L2.St} {c : Cfg} {xs : List V} {ds : List PyData} {Q : VK} {w : W}
theorem ints_rep {A : Addr → Prop} : ∀ {ds : List PyData} {vs : List V} {ns : List Int}, Reps K A H vs ds → asInts ds = some ns → vs = ns.map V.int
  | [], _, ns, .nil, h => by cases h; rfl
  | d :: ds, _, ns, .cons r rs, h => by
    cases d with
    | int i =>
      obtain ⟨ms', h1, h2⟩ := Option.map_eq_some_iff.mp (show (asInts ds).map (i :: ·) = some ns from h)
      subst h2
      cases r
      rw [ints_rep rs h1]; rfl
    | _ => cases h
theorem bools_rep {A : Addr → Prop} : ∀ {ds : List PyData} {vs : List V} {ns : List Bool}, Reps K A H vs ds → asBools ds = some ns → vs = ns.map V.bl
  | [], _, ns, .nil, h => by cases h; rfl
  | d :: ds, _, ns, .cons r rs, h => by
    cases d with
    | bool i =>
      obtain ⟨ms', h1, h2⟩ := Option.map_eq_some_iff.mp (show (asBools ds).map (i :: ·) = some ns from h)
      subst h2
      cases r
      rw [bools_rep rs h1]; rfl
    | _ => cases h
theorem sortV_rep {A : Addr → Prop} {vs : List V} (r : Reps K A H vs ds) : Reps K A H (sortV vs ds) (ds.mergeSort (PySem.W.dataLe false id)) := by
  have hall : ∀ p ∈ vs.zip ds, Rep K A H p.1 p.2 := by
    intro p hp
    obtain ⟨i, hi, e⟩ := List.mem_iff_getElem.mp hp
    subst e
    rw [List.getElem_zip]
    have hi1 : i < vs.length := by rw [List.length_zip] at hi; omega
    obtain ⟨d, h1, h2⟩ := r.get (i := i) (v := vs[i]) (by simp [hi1])
    have hi2 : i < ds.length := by rw [List.length_zip] at hi; omega
    have h3 : ds[i]? = some ds[i] := by simp [hi2]
    rw [h3] at h1
    cases h1
    exact h2
  have hm : (vs.zip ds).map Prod.snd = ds := by rw [List.map_snd_zip]; have := r.length; omega
  have hs : ((vs.zip ds).mergeSort (PySem.W.dataLe false Prod.snd)).map Prod.snd = ds.mergeSort (PySem.W.dataLe false id) := by
    conv => rhs; rw [← hm]
    exact PySem.W.sort_maps Prod.snd (fun _ _ _ _ => rfl)
  rw [← hs]
  unfold sortV
  have key : ∀ l : List (V × PyData), (∀ p ∈ l, Rep K A H p.1 p.2) → Reps K A H (l.map Prod.fst) (l.map Prod.snd) := by
    intro l
    induction l with
    | nil => intro _; exact .nil
    | cons p l ih => intro h; exact .cons (h p List.mem_cons_self) (ih fun q hq => h q (List.mem_cons_of_mem _ hq))
  exact key _ fun p hp => hall p ((List.mergeSort_perm _ _).mem_iff.mp hp)
theorem blt_ok {b : Blt} (C : Conf K ms R Z σ H c) (rx : Paired (fun v d => RepT K (Res ms R σ c.ρ) H ms v d) xs ds) (hb : bltV b ds = some w) (hi : ∀ ts, b ≠ .isi ts)
    (g : ∀ v H', Keep ms H H' → Yld K ms R Z σ H' c v w → Q v H') : rBlt K b xs H Q := by
  have now : ∀ v, Yld K ms R Z σ H c v w → Q v H := fun v => g v H (Keep.refl _ _)
  have new : ∀ {p : Addr} {o : HO} {v : V}, H p = none → Yld K ms R Z σ (upd H p o) c v w → Q v (upd H p o) := fun {p o v} h => g v _ (Keep.new h)
  have one : ∀ {d : PyData}, Paired (fun v d => RepT K (Res ms R σ c.ρ) H ms v d) xs [d] → ∃ v, xs = [v] ∧ RepT K (Res ms R σ c.ρ) H ms v d := by
    intro d h
    cases h with
    | cons r t => cases t; exact ⟨_, rfl, r⟩
  have two : ∀ {d e : PyData}, Paired (fun v d => RepT K (Res ms R σ c.ρ) H ms v d) xs [d, e] → ∃ v u, xs = [v, u] ∧ RepT K (Res ms R σ c.ρ) H ms v d ∧ RepT K (Res ms R σ c.ρ) H ms u e := by
    intro d e h
    cases h with
    | cons r t => cases t with
      | cons r' t' => cases t'; exact ⟨_, _, rfl, r, r'⟩
  unfold bltV at hb
  split at hb
  · cases hb
    obtain ⟨v, rfl, r⟩ := one rx
    obtain ⟨p, vs, rfl, e1, n, r1⟩ := r.list
    exact ⟨p, vs, rfl, .inl (SqL.of e1), now _ ⟨C, by rw [r1.length]; exact .int⟩⟩
  · cases hb
    obtain ⟨v, rfl, r⟩ := one rx
    obtain ⟨p, vs, rfl, e1, r1⟩ := r.tuple
    exact ⟨p, vs, rfl, .inr e1, now _ ⟨C, by rw [r1.length]; exact .int⟩⟩
  · cases hb
    obtain ⟨v, rfl, r⟩ := one rx
    obtain ⟨p, vs, rfl, e1, n, r1⟩ := r.list
    exact ⟨p, vs, rfl, .inl ⟨SqL.of e1, fun l hl => new hl (Yld.tuple C hl r1)⟩⟩
  · cases hb
    obtain ⟨v, rfl, r⟩ := one rx
    obtain ⟨p, vs, rfl, e1, r1⟩ := r.tuple
    exact ⟨p, vs, rfl, .inr ⟨e1, now _ ⟨C, r⟩⟩⟩
  · cases hb
    obtain ⟨v, rfl, r⟩ := one rx
    obtain ⟨p, vs, rfl, e1, n, r1⟩ := r.list
    exact ⟨p, vs, rfl, .inl (SqL.of e1), fun l hl => new hl (Yld.fresh C hl r1)⟩
  · cases hb
    obtain ⟨v, rfl, r⟩ := one rx
    obtain ⟨p, vs, rfl, e1, r1⟩ := r.tuple
    exact ⟨p, vs, rfl, .inr e1, fun l hl => new hl (Yld.fresh C hl r1)⟩
  · obtain ⟨ns, h1, h2⟩ := Option.map_eq_some_iff.mp hb
    cases h2
    obtain ⟨v, rfl, r⟩ := one rx
    obtain ⟨p, vs, rfl, e1, n, r1⟩ := r.list
    exact .inl ⟨p, ns, rfl, by rw [← ints_rep r1 h1]; exact SqL.of e1, now _ ⟨C, .int⟩⟩
  · obtain ⟨ns, h1, h2⟩ := Option.map_eq_some_iff.mp hb
    cases h2
    obtain ⟨v, rfl, r⟩ := one rx
    obtain ⟨p, vs, rfl, e1, r1⟩ := r.tuple
    exact .inr ⟨p, ns, rfl, by rw [← ints_rep r1 h1]; exact e1, now _ ⟨C, .int⟩⟩
  · obtain ⟨ns, h1, h2⟩ := Option.map_eq_some_iff.mp hb
    cases h2
    obtain ⟨v, rfl, r⟩ := one rx
    obtain ⟨p, vs, rfl, e1, n, r1⟩ := r.list
    exact ⟨p, ns, rfl, by rw [← bools_rep r1 h1]; exact SqL.of e1, now _ ⟨C, .bool⟩⟩
  · obtain ⟨ns, h1, h2⟩ := Option.map_eq_some_iff.mp hb
    cases h2
    obtain ⟨v, rfl, r⟩ := one rx
    obtain ⟨p, vs, rfl, e1, n, r1⟩ := r.list
    exact ⟨p, ns, rfl, by rw [← bools_rep r1 h1]; exact SqL.of e1, now _ ⟨C, .bool⟩⟩
  · cases hb
    obtain ⟨v, u, rfl, r, q⟩ := two rx
    exact ⟨_, _, by rw [r.int, q.int], now _ ⟨C, .int⟩⟩
  · cases hb
    obtain ⟨v, u, rfl, r, q⟩ := two rx
    exact ⟨_, _, by rw [r.int, q.int], now _ ⟨C, .int⟩⟩
  · cases hb
    obtain ⟨v, rfl, r⟩ := one rx
    exact ⟨_, by rw [r.int], now _ ⟨C, .int⟩⟩
  · cases hb
    obtain ⟨v, rfl, r⟩ := one rx
    exact .inl ⟨_, by rw [r.int], now _ ⟨C, .int⟩⟩
  · split at hb
    · rename_i hs
      cases hb
      obtain ⟨v, rfl, r⟩ := one rx
      obtain ⟨p, vs, rfl, e1, n, r1⟩ := r.list
      exact ⟨p, vs, _, rfl, SqL.of e1, Reps.dp _ _ r1, hs, fun l hl => new hl (Yld.fresh C hl (sortV_rep r1))⟩
    · cases hb
  · exact absurd rfl (hi _)
  · cases hb
end
end Pyv
end
/-! ## Pyv4 -/
section
set_option maxRecDepth 100000
set_option maxHeartbeats 4000000
/-! Pyv 4: from the text to the language. -/
namespace Pyv
open PySem PySem.Spec PyProof.Rows L2

structure Px where
  fns : List Str
  gls : List (Str × PyData)
  kws : List (Nat × List Str × List Nat) := []
structure Sx where
  N : List Str
  sc : Scope
  fn : Str → Bool
def idxOf : List Str → Str → Option Nat
  | [], _ => none
  | y :: ys, x => if y == x then some 0 else (idxOf ys x).map (· + 1)
theorem idxOf_get : ∀ {l : List Str} {x : Str} {i : Nat}, idxOf l x = some i → l[i]? = some x
  | [], _, _, h => by cases h
  | y :: ys, x, i, h => by
    unfold idxOf at h
    split at h
    · rename_i e
      cases h
      simp [eq_of_beq e]
    · obtain ⟨j, h1, h2⟩ := Option.map_eq_some_iff.mp h
      subst h2
      simpa using idxOf_get h1
def nameOk (x : Str) : Bool := !(x == ("__debug__" : Str)) && (!(x == ("__classdict__" : Str)) && !(x == ("__name__" : Str)))
theorem nameOk_1 {x : Str} (h : nameOk x = true) : (x == ("__debug__" : Str)) = false := by
  unfold nameOk at h
  simp only [Bool.and_eq_true, Bool.not_eq_true'] at h
  exact h.1
theorem nameOk_2 {x : Str} (h : nameOk x = true) : (x == ("__classdict__" : Str)) = false := by
  unfold nameOk at h
  simp only [Bool.and_eq_true, Bool.not_eq_true'] at h
  exact h.2.1
theorem nameOk_3 {x : Str} (h : nameOk x = true) : x ≠ "__name__" := by
  unfold nameOk at h
  simp only [Bool.and_eq_true, Bool.not_eq_true'] at h
  exact fun e => by rw [e] at h; exact absurd h.2.2 (by decide)
def kindB (sc : Scope) (x : Str) (k : NameKind) : Bool := decide (sc.names.lookup x = some k)
def visB (sc : Scope) (x : Str) : Bool := kindB sc x .local || (kindB sc x .cell || kindB sc x .free)
def locB (S : Sx) (x : Str) : Bool := kindB S.sc x .local || (kindB S.sc x .cell && S.fn x)
theorem visB_ok {sc : Scope} {x : Str} (h : visB sc x = true) : Vis sc x := by
  unfold visB kindB at h
  simp only [Bool.or_eq_true, decide_eq_true_eq] at h
  exact h
theorem locB_ok {S : Sx} {x : Str} (h : locB S x = true) : Loc S.sc x ∧ (S.fn x = true ∨ S.sc.names.lookup x = some .local) := by
  unfold locB kindB at h
  simp only [Bool.or_eq_true, Bool.and_eq_true, decide_eq_true_eq] at h
  rcases h with h | h
  · exact ⟨.inl h, .inr h⟩
  · exact ⟨.inr h.1, .inl h.2⟩
/-- the slot of a visible name -/
def slotV (S : Sx) (x : Str) : Option Nat := if visB S.sc x = true ∧ nameOk x = true then idxOf S.N x else none
/-- the slot of a name that is stored -/
def slotL (S : Sx) (x : Str) : Option Nat := if locB S x = true then idxOf S.N x else none
/-- a name of the module, or built in -/
def glbB (S : Sx) (x : Str) : Bool := kindB S.sc x .globalImplicit && nameOk x
def notStar : Expr → Bool
  | .Starred _ _ => false
  | _ => true
def notSlice : Expr → Bool
  | .Slice _ _ _ _ => false
  | _ => true
def notSet : Expr → Bool
  | .Set _ _ _ => false
  | _ => true
def isComp : Expr → Bool
  | .ListComp _ _ _ _ => true
  | .SetComp _ _ _ _ => true
  | .DictComp _ _ _ _ _ => true
  | _ => false
def opOk : Operator → Bool
  | .Add => true | .Sub => true | .Mult => true | .FloorDiv => true | .Mod => true | .Pow => true
  | _ => false
mutual
def compTg (S : Sx) : Expr → Option Tg
  | .Name x _ => (slotL S x).map .name
  | .Tuple es _ _ => (compTgs S es).map .tup
  | _ => none
def compTgs (S : Sx) : List Expr → Option (List Tg)
  | [] => some []
  | e :: es => match compTg S e, compTgs S es with
    | some t, some ts => some (t :: ts)
    | _, _ => none
end
mutual
def tgSlots : Tg → List Nat
  | .name i => [i]
  | .tup ts => tgsSlots ts
def tgsSlots : List Tg → List Nat
  | [] => []
  | t :: ts => tgSlots t ++ tgsSlots ts
end
def isTupE : Expr → Bool
  | .Tuple _ _ _ => true
  | _ => false
def bltOf (x : Str) : Option Blt :=
  if x = "len" then some .len else if x = "tuple" then some .tuple else if x = "list" then some .list else if x = "sum" then some .sum else
  if x = "all" then some .all else if x = "any" then some .any else if x = "sorted" then some .sorted else if x = "max" then some .max else
  if x = "min" then some .min else if x = "abs" then some .abs else if x = "int" then some .int else none
theorem bltOf_ok {x : Str} {b : Blt} (h : bltOf x = some b) : (bltN b).1 = x ∧ (∀ ts, b ≠ .isi ts) ∧ b ≠ .str := by
  unfold bltOf at h
  iterate 11 (
    split at h
    · rename_i e
      have h2 := Option.some.inj h
      subst h2
      refine ⟨e.symm, ?_, ?_⟩
      · intro _ z
        cases z
      · intro z
        cases z)
  cases h
def tyOfName (x : Str) : Option String :=
  if x = "bool" then some "bool" else if x = "int" then some "int" else if x = "str" then some "str" else if x = "list" then some "list" else if x = "tuple" then some "tuple" else none
def ownOf (N : List Str) (scope : Scope) : List (Str × Nat) := scope.names.filterMap fun y => match y.2 with
  | .local => (idxOf N y.1).map fun i => (y.1, i)
  | .cell => (idxOf N y.1).map fun i => (y.1, i)
  | _ => none
def blkS (S : Sx) (scope : Scope) : Sx := ⟨S.N, relS scope S.sc, fun x => scope.names.lookup x == some .cell⟩
def keywordNames : List Keyword → Option (List Str)
  | [] => some []
  | k :: ks => match k.arg, keywordNames ks with
    | some x, some r => some (x :: r)
    | _, _ => none
def lookKw : List (Nat × List Str × List Nat) → Nat → List Str → Option (List Nat)
  | [], _, _ => none
  | (j, ks', perm) :: r, i, ks => if j = i ∧ ks' = ks then some perm else lookKw r i ks
mutual
def compE (P : Px) : Nat → Sx → Expr → Option E
  | 0, _, _ => none
  | n + 1, S, e => match e with
    | .Name x _ => (match slotV S x with
      | some i => some (.var i)
      | none => if glbB S x = true then (idxOf (P.gls.map (·.1)) x).map .glb else none)
    | .Constant c _ _ => (match c with
      | .int i => some (.lit (.int i))
      | .bool b => some (.lit (.bool b))
      | .none => some (.lit .none)
      | .str x => some (.lit (.str x))
      | _ => none)
    | .BinOp a op b _ => (match compE P n S a, compE P n S b with
      | some a', some b' => if opOk op = true then some (.bin op a' b') else none
      | _, _ => none)
    | .UnaryOp op a _ => (match op, compE P n S a with
      | .USub, some a' => some (.neg a')
      | .Not, some a' => some (.not a')
      | _, _ => none)
    | .Compare a ops bs _ => (match ops, bs with
      | [op], [b] => (match compE P n S a, compE P n S b with
        | some a', some b' => if notSet b = true then some (.cmp op a' b') else none
        | _, _ => none)
      | [op, op'], [b, c] => (match compE P n S a, compE P n S b, compE P n S c with
        | some a', some b', some c' => if notSet c = true then some (.chain op op' a' b' c') else none
        | _, _, _ => none)
      | _, _ => none)
    | .BoolOp op es _ => compB P n S op es
    | .IfExp t a b _ => (match compT P n S t, compE P n S a, compE P n S b with
      | some t', some a', some b' => some (.ite t' a' b')
      | _, _, _ => none)
    | .Tuple es _ _ => (compEs P n S es).map .tup
    | .List es _ => (compEs P n S es).map .lst
    | .Subscript a b _ => (match b with
      | .Slice lo hi st _ => (match st, compE P n S a, compO P n S lo, compO P n S hi with
        | none, some a', some l, some h => some (.sl a' l h)
        | _, _, _, _ => none)
      | b => (match compE P n S a, compE P n S b with
        | some a', some b' => if notSlice b = true then some (.ix a' b') else none
        | _, _ => none))
    | .Call f args kws _ => (match f, kws with
      | .Name x _, [] => if glbB S x = true then (match idxOf P.fns x with
          | some i => (match args with
            | [] => none
            | a :: as => (compEs P n S (a :: as)).map (.call i))
          | none => if x = "isinstance" then (match args with
              | [a, .Name t _] => if glbB S t = true ∧ notStar a = true then (match compE P n S a, tyOfName t with
                | some a', some ty => some (.blt (.isi [ty]) (.cons a' .nil))
                | _, _ => none) else none
              | _ => none)
            else (match bltOf x, args with
              | some b, a :: as => (match compEs P n S (a :: as) with
                | some es => some (.blt b es)
                | none => (match x, as with
                  | x, [] => if x = "list" then (compL P n S a).map .lsrc else none
                  | _, _ => none))
              | _, _ => none)) else none
      | .Name x _, kw :: kwr => if glbB S x = true then (match args, idxOf P.fns x, keywordNames (kw :: kwr) with
          | [], some i, some ks => (match lookKw P.kws i ks, compEs P n S ((kw :: kwr).map (·.value)) with
            | some perm, some es => some (.callK i es perm)
            | _, _ => none)
          | _, _, _ => none) else none
      | _, _ => none)
    | .ListComp elt gens scope _ => (match gens with
      | [⟨gt, gi, gf, ga⟩] => (match ga, compSrc P n S (isTupE gt) gi, compTg (blkS S scope) gt, compIfs P n (blkS S scope) gf, compE P n (blkS S scope) elt with
        | 0, some src, some tg, some t, some e' => if blkC S.N S.sc scope (ownOf S.N scope) = true ∧ (tgSlots tg).all (fun i => ((ownOf S.N scope).map (·.2)).contains i) = true ∧ notSet gi = true then some (.lc e' tg src t ((ownOf S.N scope).map (·.2))) else none
        | _, _, _, _, _ => none)
      | _ => none)
    | _ => none
/-- and, or: the values from the left -/
def compB (P : Px) : Nat → Sx → BoolOp → List Expr → Option E
  | 0, _, _, _ => none
  | n + 1, S, op, es => match es with
    | [] => none
    | [a] => compE P n S a
    | a :: b :: r => (match compE P n S a, compB P n S op (b :: r) with
      | some a', some r' => some (match op with
        | .And => .and a' r'
        | .Or => .or a' r')
      | _, _ => none)
def compT (P : Px) : Nat → Sx → Expr → Option T
  | 0, _, _ => none
  | n + 1, S, e => match e with
    | .BoolOp op es _ => compTs P n S op es
    | .UnaryOp .Not a _ => (compT P n S a).map .not
    | .IfExp _ _ _ _ => none
    | e => (compE P n S e).map .val
def compTs (P : Px) : Nat → Sx → BoolOp → List Expr → Option T
  | 0, _, _, _ => none
  | n + 1, S, op, es => match es with
    | [] => none
    | [a] => compT P n S a
    | a :: b :: r => (match compT P n S a, compTs P n S op (b :: r) with
      | some a', some r' => some (match op with
        | .And => .and a' r'
        | .Or => .or a' r')
      | _, _ => none)
def compIfs (P : Px) : Nat → Sx → List Expr → Option Ot
  | 0, _, _ => none
  | n + 1, S, es => match es with
    | [] => some .no
    | [a] => (compT P n S a).map .yes
    | _ => none
def compEs (P : Px) : Nat → Sx → List Expr → Option Es
  | 0, _, _ => none
  | n + 1, S, es => match es with
    | [] => some .nil
    | a :: r => (match compE P n S a, compEs P n S r with
      | some a', some r' => if notStar a = true then some (.cons a' r') else none
      | _, _ => none)
def compO (P : Px) : Nat → Sx → Option Expr → Option Oe
  | 0, _, _ => none
  | n + 1, S, e => match e with
    | none => some .no
    | some e => (compE P n S e).map .yes
/-- what a for walks; tup: the target is a tuple -/
def compSrc (P : Px) : Nat → Sx → Bool → Expr → Option Src
  | 0, _, _, _ => none
  | n + 1, S, tup, e => match e with
    | .Call (.Name x _) args [] _ => if glbB S x = true then
        (if x = "range" then (match args with
          | [a] => (match compE P n S a with
            | some a' => if notStar a = true then some (.rng1 a') else none
            | none => none)
          | [a, b] => (match compE P n S a, compE P n S b with
            | some a', some b' => if notStar a = true ∧ notStar b = true then some (.rng2 a' b') else none
            | _, _ => none)
          | _ => none)
        else if x = "zip" then (match args with
          | [a, b] => (match compE P n S a, compE P n S b with
            | some a', some b' => if notStar a = true ∧ notStar b = true ∧ tup = true then some (.zip a' b') else none
            | _, _ => none)
          | _ => none)
        else if x = "enumerate" then (match args with
          | [a] => (match compE P n S a with
            | some a' => if notStar a = true ∧ tup = true then some (.enum a') else none
            | none => none)
          | _ => none)
        else (compE P n S e).map .seq) else none
    | e => (compE P n S e).map .seq
/-- what list(..) takes that is no value: range(..) -/
def compL (P : Px) : Nat → Sx → Expr → Option Src
  | 0, _, _ => none
  | n + 1, S, e => match e with
    | .Call (.Name x _) args [] _ => if glbB S x = true ∧ x = "range" then (match args with
        | [a] => (match compE P n S a with
          | some a' => if notStar a = true then some (.rng1 a') else none
          | none => none)
        | [a, b] => (match compE P n S a, compE P n S b with
          | some a', some b' => if notStar a = true ∧ notStar b = true then some (.rng2 a' b') else none
          | _, _ => none)
        | _ => none)
      else if glbB S x = true ∧ x = "zip" then (match args with
        | [a, b] => (match compE P n S a, compE P n S b with
          | some a', some b' => if notStar a = true ∧ notStar b = true then some (.zip a' b') else none
          | _, _ => none)
        | _ => none)
      else none
    | _ => none
end
end Pyv
end
/-! ## Pyv5 -/
section
set_option maxRecDepth 100000
set_option maxHeartbeats 4000000
/-! Pyv 5: how states change; what a call promises; the readings. -/
namespace Pyv
open PySem PySem.Spec PyProof.Rows L2

section
variable {K : PySem.W.Frag} {ms : Ms} {R R' : Addr → Prop} {Z H H' : Hp} {σ σ' : L2.St} {c c' : Cfg} {A A' : Addr → Prop} {v : V} {w : W}

theorem RepV.less (h : ∀ a, A' a → A a) (r : RepV K A H ms v w) : RepV K A' H ms v w := r.imp (fun a o e n => ⟨e, fun z => n (h a z)⟩) (Keep.refl _ _)
theorem Rep.less (h : ∀ a, A' a → A a) {d : PyData} (r : Rep K A H v d) : Rep K A' H v d := Rep.imp (fun a o e n => ⟨e, fun z => n (h a z)⟩) _ _ r
theorem Reps.less (h : ∀ a, A' a → A a) {vs : List V} {ds : List PyData} (r : Reps K A H vs ds) : Reps K A' H vs ds := Reps.imp (fun a o e n => ⟨e, fun z => n (h a z)⟩) _ _ r
theorem res_of_sub {R : Addr → Prop} {ρ ρ' : List (Option W)} (h : ∀ a, OwnA σ' ρ' a → R a ∨ OwnA σ ρ a) : ∀ a, Res ms R σ' ρ' a → Res ms R σ ρ a := fun a z => by
  rcases z with z | z | z
  · exact .inl z
  · rcases h a z with q | q
    · exact .inl q
    · exact .inr (.inl q)
  · exact .inr (.inr z)

theorem get_set {α : Type} {l : List α} {i j : Nat} {x y : α} (h : (l.set i x)[j]? = some y) : (i = j ∧ i < l.length ∧ y = x) ∨ (i ≠ j ∧ l[j]? = some y) := by
  rw [List.getElem?_set] at h
  split at h
  · rename_i e
    split at h
    · cases h
      exact .inl ⟨e, ‹_›, rfl⟩
    · cases h
  · exact .inr ⟨‹_›, h⟩
theorem set_get {α : Type} {l : List α} {i : Nat} {x : α} (h : i < l.length) : (l.set i x)[i]? = some x := List.getElem?_set_self h
theorem lt_of_some {α : Type} {l : List α} {i : Nat} {x : α} (h : l[i]? = some x) : i < l.length := (List.getElem?_eq_some_iff.mp h).1

/-- a slot's own list is shared for good -/
theorem Conf.freeze (C : Conf K ms R Z σ H c) {i : Nat} {ds : List PyData} (e : c.ρ[i]? = some (some (.own ds))) :
    Conf K ms R Z σ H (setR c i (.val (.list ds))) ∧ Sub σ c (setR c i (.val (.list ds))) ∧ ∃ v, σ[i]? = some (some v) ∧ Rep K (Res ms R σ (setR c i (.val (.list ds))).ρ) H v (.list ds) := by
  obtain ⟨v, e1, p, vs, rfl, hp, na, r⟩ := C.slot i _ e
  have hi := lt_of_some e
  have sub : Sub σ c (setR c i (.val (.list ds))) := fun a ⟨j, es, h1, h2⟩ => by
    rcases get_set h1 with ⟨_, _, z⟩ | ⟨_, z⟩
    · cases z
    · exact ⟨j, es, z, h2⟩
  have ro : ∀ a, Res ms R σ (setR c i (.val (.list ds))).ρ a → Res ms R σ c.ρ a := res_of_sub fun a z => .inr (sub a z)
  have own : OwnA σ c.ρ p := ⟨i, ds, e, e1⟩
  have np : ¬ Res ms R σ (setR c i (.val (.list ds))).ρ p := by
    rintro (z | ⟨j, es, h1, h2⟩ | z)
    · exact (C.own p own).1 z
    · rcases get_set h1 with ⟨_, _, z⟩ | ⟨n, z⟩
      · cases z
      · exact n (C.inj i j ds es p e e1 z h2)
    · exact na z
  have rp : Rep K (Res ms R σ (setR c i (.val (.list ds))).ρ) H (.ref p) (.list ds) := .list hp np (r.less ro)
  refine ⟨⟨?_, fun j w h => ?_, fun j k ds' es q h1 h2 h3 h4 => ?_, fun q hq => C.own q (sub q hq), C.rd, C.ez, C.st⟩, sub, _, e1, rp⟩
  · show (c.ρ.set i _).length = _
    rw [List.length_set]; exact C.len
  · rcases get_set h with ⟨z1, _, z⟩ | ⟨n, z⟩
    · subst z1
      cases z
      exact ⟨_, e1, rp⟩
    · obtain ⟨u, h1, h2⟩ := C.slot j w z
      exact ⟨u, h1, h2.less ro⟩
  · rcases get_set h1 with ⟨_, _, z⟩ | ⟨n, z⟩
    · cases z
    · rcases get_set h3 with ⟨_, _, y⟩ | ⟨n', y⟩
      · cases y
      · exact C.inj j k ds' es q z h2 y h4

/-- a slot forgets -/
theorem Conf.forget (C : Conf K ms R Z σ H c) (i : Nat) : Conf K ms R Z σ H { c with ρ := c.ρ.set i none } ∧ Sub σ c { c with ρ := c.ρ.set i none } := by
  have sub : Sub σ c { c with ρ := c.ρ.set i none } := fun a ⟨j, es, h1, h2⟩ => by
    rcases get_set h1 with ⟨_, _, z⟩ | ⟨_, z⟩
    · cases z
    · exact ⟨j, es, z, h2⟩
  have ro : ∀ a, Res ms R σ (c.ρ.set i none) a → Res ms R σ c.ρ a := res_of_sub fun a z => .inr (sub a z)
  refine ⟨⟨?_, fun j w h => ?_, fun j k ds' es q h1 h2 h3 h4 => ?_, fun q hq => C.own q (sub q hq), C.rd, C.ez, C.st⟩, sub⟩
  · show (c.ρ.set i _).length = _
    rw [List.length_set]; exact C.len
  · rcases get_set h with ⟨z1, _, z⟩ | ⟨n, z⟩
    · cases z
    · obtain ⟨u, h1, h2⟩ := C.slot j w z
      exact ⟨u, h1, h2.less ro⟩
  · rcases get_set h1 with ⟨_, _, z⟩ | ⟨n, z⟩
    · cases z
    · rcases get_set h3 with ⟨_, _, y⟩ | ⟨n', y⟩
      · cases y
      · exact C.inj j k ds' es q z h2 y h4

/-- a slot's own list is handed over -/
theorem Conf.hand (C : Conf K ms R Z σ H c) {i : Nat} {ds : List PyData} (e : c.ρ[i]? = some (some (.own ds))) :
    ∃ v, σ[i]? = some (some v) ∧ Sub σ c { c with ρ := c.ρ.set i none } ∧ Yld K ms R Z σ H { c with ρ := c.ρ.set i none } v (.own ds) := by
  obtain ⟨v, e1, p, vs, rfl, hp, na, r⟩ := C.slot i _ e
  have own : OwnA σ c.ρ p := ⟨i, ds, e, e1⟩
  obtain ⟨C', sub⟩ := C.forget i
  have np : ¬ OwnA σ (c.ρ.set i none) p := by
    rintro ⟨j, es, h1, h2⟩
    rcases get_set h1 with ⟨_, _, z⟩ | ⟨n, z⟩
    · cases z
    · exact n (C.inj i j ds es p e e1 z h2)
  have ro : ∀ a, Res ms (fun a => R a ∨ a = p) σ (c.ρ.set i none) a → Res ms R σ c.ρ a := fun a z => by
    rcases z with (z | z) | z | z
    · exact .inl z
    · rw [z]; exact .inr (.inl own)
    · exact .inr (.inl (sub a z))
    · exact .inr (.inr z)
  refine ⟨_, e1, sub, p, vs, rfl, hp, (C.own p own).2.2, (C.own p own).1, ⟨C'.len, fun j w h => ?_, C'.inj, fun q hq => ⟨?_, (C'.own q hq).2⟩, fun q hq => ?_, C'.ez, C'.st⟩, r.less ro⟩
  · rcases get_set h with ⟨z1, _, z⟩ | ⟨n, z⟩
    · cases z
    · obtain ⟨u, h1, h2⟩ := C.slot j w z
      exact ⟨u, h1, h2.less ro⟩
  · rintro (z | z)
    · exact (C'.own q hq).1 z
    · rw [z] at hq; exact np hq
  · rcases hq with z | z
    · exact C.rd q z
    · rw [z]; exact ⟨by rw [hp]; simp, na⟩

/-- a value is stored -/
theorem Conf.put (C : Conf K ms R Z σ H c) {i : Nat} (hi : i < c.ρ.length) (hw : ∀ ds, w ≠ .own ds) (r : RepV K (Res ms R σ c.ρ) H ms v w) :
    Conf K ms R Z (σ.set i (some v)) H (setR c i w) ∧ ∀ a, OwnA (σ.set i (some v)) (setR c i w).ρ a → OwnA σ c.ρ a := by
  have hi' : i < σ.length := by rw [← C.len]; exact hi
  have sub : ∀ a, OwnA (σ.set i (some v)) (setR c i w).ρ a → OwnA σ c.ρ a := fun a ⟨j, es, h1, h2⟩ => by
    rcases get_set h1 with ⟨_, _, z⟩ | ⟨n, z⟩
    · exact absurd (Option.some.inj z).symm (hw es)
    · rcases get_set h2 with ⟨y, _, _⟩ | ⟨_, y⟩
      · exact absurd y n
      · exact ⟨j, es, z, y⟩
  have ro : ∀ a, Res ms R (σ.set i (some v)) (setR c i w).ρ a → Res ms R σ c.ρ a := res_of_sub fun a z => .inr (sub a z)
  refine ⟨⟨?_, fun j w' h => ?_, fun j k ds' es q h1 h2 h3 h4 => ?_, fun q hq => C.own q (sub q hq), C.rd, C.ez, C.st⟩, sub⟩
  · show (c.ρ.set i _).length = _
    rw [List.length_set, List.length_set]; exact C.len
  · rcases get_set h with ⟨z1, _, z⟩ | ⟨n, z⟩
    · subst z1
      cases z
      exact ⟨v, set_get hi', r.less ro⟩
    · obtain ⟨u, h1, h2⟩ := C.slot j w' z
      exact ⟨u, by rw [List.getElem?_set_ne n]; exact h1, h2.less ro⟩
  · rcases get_set h1 with ⟨_, _, z⟩ | ⟨n, z⟩
    · exact absurd (Option.some.inj z).symm (hw _)
    · rcases get_set h3 with ⟨_, _, y⟩ | ⟨n', y⟩
      · exact absurd (Option.some.inj y).symm (hw _)
      · rw [List.getElem?_set_ne n] at h2
        rw [List.getElem?_set_ne n'] at h4
        exact C.inj j k ds' es q z h2 y h4
/-- a new list is stored -/
theorem Conf.putOwn {i : Nat} {ds : List PyData} (hi : i < c.ρ.length) (y : Yld K ms R Z σ H c v (.own ds)) : Conf K ms R Z (σ.set i (some v)) H (setR c i (.own ds)) := by
  obtain ⟨p, vs, rfl, hp, zp, np, C, r⟩ := y
  have hi' : i < σ.length := by rw [← C.len]; exact hi
  have no : ¬ OwnA σ c.ρ p := C.own_ne
  have sub : ∀ a, OwnA (σ.set i (some (.ref p))) (setR c i (.own ds)).ρ a → a = p ∨ OwnA σ c.ρ a := fun a ⟨j, es, h1, h2⟩ => by
    rcases get_set h1 with ⟨e, _, z⟩ | ⟨n, z⟩
    · subst e
      rw [set_get hi'] at h2
      exact .inl (by cases h2; rfl)
    · rw [List.getElem?_set_ne n] at h2
      exact .inr ⟨j, es, z, h2⟩
  have ro : ∀ a, Res ms R (σ.set i (some (.ref p))) (setR c i (.own ds)).ρ a → Res ms (fun a => R a ∨ a = p) σ c.ρ a := fun a z => by
    rcases z with z | z | z
    · exact .inl (.inl z)
    · rcases sub a z with q | q
      · exact .inl (.inr q)
      · exact .inr (.inl q)
    · exact .inr (.inr z)
  have na : ¬ ms.at_ p := (C.rd p (.inr rfl)).2
  refine ⟨?_, fun j w' h => ?_, fun j k ds' es q h1 h2 h3 h4 => ?_, fun q hq => ?_, fun q hq => C.rd q (.inl hq), C.ez, C.st⟩
  · show (c.ρ.set i _).length = _
    rw [List.length_set, List.length_set]; exact C.len
  · rcases get_set h with ⟨z1, _, z⟩ | ⟨n, z⟩
    · subst z1
      cases z
      exact ⟨_, set_get hi', p, vs, rfl, hp, na, r.less ro⟩
    · obtain ⟨u, h1, h2⟩ := C.slot j w' z
      exact ⟨u, by rw [List.getElem?_set_ne n]; exact h1, h2.less ro⟩
  · rcases get_set h1 with ⟨e, _, z⟩ | ⟨n, z⟩
    · subst e
      rw [set_get hi'] at h2
      cases h2
      rcases get_set h3 with ⟨e, _, _⟩ | ⟨n', y⟩
      · exact e
      · rw [List.getElem?_set_ne n'] at h4
        exact absurd ⟨k, es, y, h4⟩ no
    · rw [List.getElem?_set_ne n] at h2
      rcases get_set h3 with ⟨e, _, _⟩ | ⟨n', y⟩
      · subst e
        rw [set_get hi'] at h4
        cases h4
        exact absurd ⟨j, ds', z, h2⟩ no
      · rw [List.getElem?_set_ne n'] at h4
        exact C.inj j k ds' es q z h2 y h4
  · rcases sub q hq with z | z
    · rw [z]; exact ⟨np, na, zp⟩
    · exact ⟨fun y => (C.own q z).1 (.inl y), (C.own q z).2⟩
/-- a list that is new since H -/
theorem Conf.grown (C : Conf K ms R Z σ H c) (k : Keep ms H H') {s' : DS} (hs : StOk ms H' s') {p : Addr} (hp : H p = none) (hp' : H' p ≠ none) : Conf K ms (fun a => R a ∨ a = p) Z σ H' { c with s := s' } where
  len := C.len
  slot := fun i w e => by
    obtain ⟨v, e1, r⟩ := C.slot i w e
    refine ⟨v, e1, RepV.imp (res_keep (c := c) (c' := c) (R := R) (R' := fun a => R a ∨ a = p) k (Sub.refl σ c) (fun a z => ?_)) k r⟩
    rcases z with z | z
    · exact .inl z
    · exact .inr (by rw [z]; exact hp)
  inj := C.inj
  own := fun q hq => ⟨by
    rintro (z | z)
    · exact (C.own q hq).1 z
    · rw [z] at hq; exact C.own_in hq hp, (C.own q hq).2⟩
  rd := fun q hq => by
    rcases hq with z | z
    · obtain ⟨h1, h2⟩ := C.rd q z
      refine ⟨?_, h2⟩
      cases e : H q with
      | none => exact absurd e h1
      | some o => rw [k q o e h2]; simp
    · rw [z]; exact ⟨hp', fun y => C.st.ne y hp⟩
  ez := fun a o e n => k a o (C.ez a o e n) n
  st := hs
end

/-! ### what a call promises -/
def RetV (K : PySem.W.Frag) (A : Addr → Prop) (H H' : Hp) (ms : Ms) (v : V) : W → Prop
  | .val d => Rep K A H' v d
  | .own ds => ∃ p vs, v = .ref p ∧ H p = none ∧ H' p = some (.lst vs) ∧ Reps K (fun a => A a ∨ a = p) H' vs ds
  | .bor _ => False
  | .stm => v = .ref ms.m
def noOwn : W → Bool
  | .own _ => false
  | _ => true
def Back (K : PySem.W.Frag) (A : Addr → Prop) (H : Hp) (ms : Ms) (Q : VK) : RF → Prop
  | .ok w s' => ∀ v H', Keep ms H H' → StOk ms H' s' → RetV K A H H' ms v w → Q v H'
  | _ => False
def spOf (K : PySem.W.Frag) (r : List W → DS → RF) : Sp := fun vs H Q _ => ∃ ms A ws s, (∀ a, ms.at_ a → A a) ∧ (∀ a, A a → H a ≠ none) ∧ StOk ms H s ∧ Paired (fun v w => RepV K A H ms v w) vs ws ∧ ws.all isPlain = true ∧ Back K A H ms Q (r ws s)
section
variable {K : PySem.W.Frag} {ms : Ms} {R : Addr → Prop} {Z H H' : Hp} {σ : L2.St} {c : Cfg} {v : V} {w : W}
/-- what a call gives back, at its caller -/
theorem RetV.yld (C : Conf K ms R Z σ H c) (k : Keep ms H H') {s' : DS} (hs : StOk ms H' s') (r : RetV K (Res ms R σ c.ρ) H H' ms v w) : Yld K ms R Z σ H' { c with s := s' } v w := by
  cases w with
  | val d => exact ⟨C.keep k hs, r⟩
  | own ds =>
    obtain ⟨p, vs, rfl, h1, h2, r⟩ := r
    refine ⟨p, vs, rfl, h2, C.z_none h1, fun z => (C.rd p z).1 h1, C.grown k hs h1 (by rw [h2]; simp), r.less fun a z => ?_⟩
    rcases z with (z | z) | z | z
    · exact .inl (.inl z)
    · exact .inr z
    · exact .inl (.inr (.inl z))
    · exact .inl (.inr (.inr z))
  | bor ds => exact r.elim
  | stm => exact ⟨C.keep k hs, r⟩
end

/-! ### the readings -/
abbrev X0 : XK' := fun _ _ _ _ => False
theorem _root_.L2.PE.imp {X : Cx} {e : Expr} {t t' : TE} (h : PE X e t) (i : ∀ σ H Q, t' σ H Q → t σ H Q) : PE X e t' := ⟨fun pins s σ H Q I q => h.run pins s σ H Q I (i σ H Q q)⟩
theorem _root_.L2.PT.imp {X : Cx} {e : Expr} {t t' : TT} (h : PT X e t) (i : ∀ σ H Q, t' σ H Q → t σ H Q) : PT X e t' := ⟨fun pins s σ H Q I q => h.run pins s σ H Q I (i σ H Q q)⟩
theorem _root_.L2.PW.imp {X : Cx} {e : Expr} {t t' : TT} (h : PW X e t) (i : ∀ σ H Q, t' σ H Q → t σ H Q) : PW X e t' := ⟨fun wh pins s σ H Q I q => h.run wh pins s σ H Q I (i σ H Q q)⟩
theorem _root_.L2.PTs.imp {X : Cx} {e : List Expr} {t t' : TT} (h : PTs X e t) (i : ∀ σ H Q, t' σ H Q → t σ H Q) : PTs X e t' := ⟨fun pins s σ H Q I q => h.run pins s σ H Q I (i σ H Q q)⟩
theorem _root_.L2.PA.imp {X : Cx} {e : List Expr} {t t' : TA} (h : PA X e t) (i : ∀ σ H Q, t' σ H Q → t σ H Q) : PA X e t' := ⟨fun pos pins s σ H Q I q => h.run pos pins s σ H Q I (i σ H Q q)⟩
theorem _root_.L2.PO.imp {X : Cx} {e : Option Expr} {t t' : TO} (h : PO X e t) (i : ∀ σ H Q, t' σ H Q → t σ H Q) : PO X e t' := ⟨fun pins s σ H Q I q => h.run pins s σ H Q I (i σ H Q q)⟩
theorem _root_.L2.PI.imp {X : Cx} {tg e : Expr} {t t' : TI} (h : PI X tg e t) (i : ∀ σ H Q, t' σ H Q → t σ H Q) : PI X tg e t' := ⟨fun pins s σ H Q I q => h.run pins s σ H Q I (i σ H Q q)⟩
theorem _root_.L2.PG.imp {X : Cx} {tg : Expr} {t t' : TG} (h : PG X tg t) (i : ∀ v σ H Q, t' v σ H Q → t v σ H Q) : PG X tg t' := ⟨fun pins s σ H v u Q I r q => h.run pins s σ H v u Q I r (i v σ H Q q)⟩
theorem _root_.L2.PGs.imp {X : Cx} {tg : List Expr} {t t' : TGs} (h : PGs X tg t) (i : ∀ v σ H Q, t' v σ H Q → t v σ H Q) : PGs X tg t' := ⟨fun pins s σ H v u Q I r q => h.run pins s σ H v u Q I r (i v σ H Q q)⟩
theorem _root_.L2.PS.imp {X : Cx} {st : Stmt} {t t' : TS} (h : PS X st t) (i : ∀ D σ H, t' D σ H → t D σ H) : PS X st t' := ⟨fun pins s σ H D I q => h.run pins s σ H D I (i D σ H q)⟩
theorem _root_.L2.PSs.imp {X : Cx} {st : List Stmt} {t t' : TS} (h : PSs X st t) (i : ∀ D σ H, t' D σ H → t D σ H) : PSs X st t' := ⟨fun pins s σ H D I q => h.run pins s σ H D I (i D σ H q)⟩

section
variable (K : PySem.W.Frag) (call : Nat → List W → DS → RF) (gl : List PyData)
def YB (ms : Ms) (R : Addr → Prop) (Z : Hp) (σ : L2.St) (H : Hp) (c : Cfg) (b a : Bool) : Prop := b = a ∧ Conf K ms R Z σ H c
def YA (ms : Ms) (R : Addr → Prop) (Z : Hp) (σ : L2.St) (H : Hp) (c : Cfg) (vs : List V) (ws : List W) : Prop := Conf K ms R Z σ H c ∧ Paired (fun v w => RepV K (Res ms R σ c.ρ) H ms v w) vs ws ∧ ws.all noOwn = true
def YO (ms : Ms) (R : Addr → Prop) (Z : Hp) (σ : L2.St) (H : Hp) (c : Cfg) (b a : Option Int) : Prop := b = a ∧ Conf K ms R Z σ H c
def tE (e : E) (rd : Bool) : TE := fun σ H Q => ∃ ms R Z c, Conf K ms R Z σ H c ∧ Good ms σ X0 (Yld K ms R Z σ) H c Q (evE call gl e rd c)
def tT (t : T) : TT := fun σ H Q => ∃ ms R Z c, Conf K ms R Z σ H c ∧ Good ms σ X0 (YB K ms R Z σ) H c Q (evT call gl t c)
def tOt (t : Ot) : TT := fun σ H Q => ∃ ms R Z c, Conf K ms R Z σ H c ∧ Good ms σ X0 (YB K ms R Z σ) H c Q (evOt call gl t c)
def tEs (es : Es) (rd : Bool) : TA := fun σ H Q => ∃ ms R Z c, Conf K ms R Z σ H c ∧ Good ms σ X0 (YA K ms R Z σ) H c Q (evEs call gl es rd c)
def tOe (o : Oe) : TO := fun σ H Q => ∃ ms R Z c, Conf K ms R Z σ H c ∧ Good ms σ X0 (YO K ms R Z σ) H c Q (evO call gl o c)
/-- an item of a walk -/
def YE (items : List PyData) (A : Addr → Prop) (H : Hp) : Nat → Hp → V → Hp → Prop := fun i H1 x H2 =>
  (H2 = H1 ∧ ∃ d, items[i]? = some d ∧ Rep K A H x d) ∨
    ∃ T x1 y1 dx dy, x = .ref T ∧ H1 T = none ∧ H2 = upd H1 T (.tup [x1, y1]) ∧ items[i]? = some (.tuple [dx, dy]) ∧ Rep K A H x1 dx ∧ Rep K A H y1 dy
/-- B: what stays -/
def SrcOk (A B : Addr → Prop) (H : Hp) (J : It) (items : List PyData) : Prop :=
  ∃ G : Hp → Prop, Walk J items.length G (YE K items A H) ∧ ∀ H2, (∀ a o, H a = some o → B a → H2 a = some o) → G H2
/-- rd: the source may be somebody's own list -/
def YSrc (rd : Bool) (ms : Ms) (R : Addr → Prop) (Z : Hp) (σ : L2.St) (H : Hp) (c : Cfg) (J : It) (items : List PyData) : Prop :=
  Conf K ms R Z σ H c ∧ SrcOk K (Res ms R σ c.ρ) (fun a => if rd = true then ¬ ms.at_ a else ¬ Res ms R σ c.ρ a) H J items
def tSrc (src : Src) (rd : Bool) : TI := fun σ H Q => ∃ ms R Z c, Conf K ms R Z σ H c ∧ Good ms σ X0 (YSrc K rd ms R Z σ) H c (fun J H => Q J H) (evSrc call gl src rd c)
end
end Pyv
end
/-! ## Pyv6 -/
section
set_option maxRecDepth 100000
set_option maxHeartbeats 4000000
/-! Pyv 6: the readings of expressions, taken apart. -/
namespace Pyv
open PySem PySem.Spec PyProof.Rows L2

section
variable {K : PySem.W.Frag} {call : Nat → List W → DS → RF} {gl : List PyData} {ms : Ms} {R : Addr → Prop} {Z H : Hp} {σ : L2.St} {c : Cfg} {α γ δ : Type} {Y2 : Hp → Cfg → δ → γ → Prop}
theorem Good.mono' {X : XK'} {Y : Hp → Cfg → δ → γ → Prop} {Q Q' : δ → Hp → Prop} {r : Rs γ} (g : Good ms σ X Y H c Q r) (h : ∀ b H', Q b H' → Q' b H') : Good ms σ X Y H c Q' r := g.mono fun b H' _ q => h b H' q
theorem tE.mono {e : E} {rd : Bool} {Q Q' : VK} (h : tE K call gl e rd σ H Q) (i : ∀ v H', Q v H' → Q' v H') : tE K call gl e rd σ H Q' := by
  obtain ⟨ms, R, Z, c, C, g⟩ := h
  exact ⟨ms, R, Z, c, C, g.mono' i⟩
theorem tT.mono {e : T} {Q Q' : Bool → Hp → Prop} (h : tT K call gl e σ H Q) (i : ∀ v H', Q v H' → Q' v H') : tT K call gl e σ H Q' := by
  obtain ⟨ms, R, Z, c, C, g⟩ := h
  exact ⟨ms, R, Z, c, C, g.mono' i⟩
theorem tOt.mono {e : Ot} {Q Q' : Bool → Hp → Prop} (h : tOt K call gl e σ H Q) (i : ∀ v H', Q v H' → Q' v H') : tOt K call gl e σ H Q' := by
  obtain ⟨ms, R, Z, c, C, g⟩ := h
  exact ⟨ms, R, Z, c, C, g.mono' i⟩
theorem tEs.mono {e : Es} {rd : Bool} {Q Q' : List V → Hp → Prop} (h : tEs K call gl e rd σ H Q) (i : ∀ v H', Q v H' → Q' v H') : tEs K call gl e rd σ H Q' := by
  obtain ⟨ms, R, Z, c, C, g⟩ := h
  exact ⟨ms, R, Z, c, C, g.mono' i⟩
theorem tOe.mono {e : Oe} {Q Q' : Option Int → Hp → Prop} (h : tOe K call gl e σ H Q) (i : ∀ v H', Q v H' → Q' v H') : tOe K call gl e σ H Q' := by
  obtain ⟨ms, R, Z, c, C, g⟩ := h
  exact ⟨ms, R, Z, c, C, g.mono' i⟩
theorem bindE {e : E} {rd : Bool} {f : W → Cfg → Rs γ} {Q : δ → Hp → Prop} (C : Conf K ms R Z σ H c) (g : Good ms σ X0 Y2 H c Q ((evE call gl e rd c).bind f)) :
    tE K call gl e rd σ H fun v H1 => ∃ w c1, Keep ms H H1 ∧ Sub σ c c1 ∧ Yld K ms R Z σ H1 c1 v w ∧ Good ms σ X0 Y2 H1 c1 Q (f w c1) :=
  ⟨ms, R, Z, c, C, (Good.bind (Y1 := Yld K ms R Z σ) g).mono' fun v H1 ⟨w, c1, _, k, s, y, g1⟩ => ⟨w, c1, k, s, y, g1⟩⟩
theorem bindT {e : T} {f : Bool → Cfg → Rs γ} {Q : δ → Hp → Prop} (C : Conf K ms R Z σ H c) (g : Good ms σ X0 Y2 H c Q ((evT call gl e c).bind f)) :
    tT K call gl e σ H fun b H1 => ∃ c1, Keep ms H H1 ∧ Sub σ c c1 ∧ Conf K ms R Z σ H1 c1 ∧ Good ms σ X0 Y2 H1 c1 Q (f b c1) :=
  ⟨ms, R, Z, c, C, (Good.bind (Y1 := YB K ms R Z σ) g).mono' fun v H1 ⟨w, c1, _, k, s, y, g1⟩ => ⟨c1, k, s, y.2, by rw [y.1]; exact g1⟩⟩
theorem bindOt {e : Ot} {f : Bool → Cfg → Rs γ} {Q : δ → Hp → Prop} (C : Conf K ms R Z σ H c) (g : Good ms σ X0 Y2 H c Q ((evOt call gl e c).bind f)) :
    tOt K call gl e σ H fun b H1 => ∃ c1, Keep ms H H1 ∧ Sub σ c c1 ∧ Conf K ms R Z σ H1 c1 ∧ Good ms σ X0 Y2 H1 c1 Q (f b c1) :=
  ⟨ms, R, Z, c, C, (Good.bind (Y1 := YB K ms R Z σ) g).mono' fun v H1 ⟨w, c1, _, k, s, y, g1⟩ => ⟨c1, k, s, y.2, by rw [y.1]; exact g1⟩⟩
theorem bindEs {e : Es} {rd : Bool} {f : List W → Cfg → Rs γ} {Q : δ → Hp → Prop} (C : Conf K ms R Z σ H c) (g : Good ms σ X0 Y2 H c Q ((evEs call gl e rd c).bind f)) :
    tEs K call gl e rd σ H fun vs H1 => ∃ ws c1, Keep ms H H1 ∧ Sub σ c c1 ∧ YA K ms R Z σ H1 c1 vs ws ∧ Good ms σ X0 Y2 H1 c1 Q (f ws c1) :=
  ⟨ms, R, Z, c, C, (Good.bind (Y1 := YA K ms R Z σ) g).mono' fun v H1 ⟨w, c1, _, k, s, y, g1⟩ => ⟨w, c1, k, s, y, g1⟩⟩
theorem bindOe {e : Oe} {f : Option Int → Cfg → Rs γ} {Q : δ → Hp → Prop} (C : Conf K ms R Z σ H c) (g : Good ms σ X0 Y2 H c Q ((evO call gl e c).bind f)) :
    tOe K call gl e σ H fun b H1 => ∃ c1, Keep ms H H1 ∧ Sub σ c c1 ∧ Conf K ms R Z σ H1 c1 ∧ Good ms σ X0 Y2 H1 c1 Q (f b c1) :=
  ⟨ms, R, Z, c, C, (Good.bind (Y1 := YO K ms R Z σ) g).mono' fun v H1 ⟨w, c1, _, k, s, y, g1⟩ => ⟨c1, k, s, y.2, by rw [y.1]; exact g1⟩⟩
theorem op1_good {f : PyData → Option γ} {x : W} {Q : δ → Hp → Prop} (g : Good ms σ X0 Y2 H c Q (op1 f x c)) : ∃ d a, x.data = some d ∧ f d = some a ∧ Good ms σ X0 Y2 H c Q (.ok a c) := by
  unfold op1 at g
  split at g
  · rename_i d e
    obtain ⟨a, h1, h2⟩ := Good.ofO g
    exact ⟨d, a, e, h1, h2⟩
  · exact g.elim
theorem op1_bind {f : PyData → Option α} {h : α → Cfg → Rs γ} {x : W} {Q : δ → Hp → Prop} (g : Good ms σ X0 Y2 H c Q ((op1 f x c).bind h)) : ∃ d a, x.data = some d ∧ f d = some a ∧ Good ms σ X0 Y2 H c Q (h a c) := by
  unfold op1 at g
  split at g
  · rename_i d e
    obtain ⟨a, h1, h2⟩ := Good.bindO g
    exact ⟨d, a, e, h1, h2⟩
  · exact g.elim
theorem op2_good {f : PyData → PyData → Option γ} {x y : W} {Q : δ → Hp → Prop} (g : Good ms σ X0 Y2 H c Q (op2 f x y c)) : ∃ d e a, x.data = some d ∧ y.data = some e ∧ f d e = some a ∧ Good ms σ X0 Y2 H c Q (.ok a c) := by
  unfold op2 at g
  split at g
  · rename_i d e h1 h2
    obtain ⟨a, h3, h4⟩ := Good.ofO g
    exact ⟨d, e, a, h1, h2, h3, h4⟩
  · exact g.elim
theorem op2_bind {f : PyData → PyData → Option α} {h : α → Cfg → Rs γ} {x y : W} {Q : δ → Hp → Prop} (g : Good ms σ X0 Y2 H c Q ((op2 f x y c).bind h)) : ∃ d e a, x.data = some d ∧ y.data = some e ∧ f d e = some a ∧ Good ms σ X0 Y2 H c Q (h a c) := by
  unfold op2 at g
  split at g
  · rename_i d e h1 h2
    obtain ⟨a, h3, h4⟩ := Good.bindO g
    exact ⟨d, e, a, h1, h2, h3, h4⟩
  · exact g.elim
theorem Good.out {β : Type} {a : γ} {Q : δ → Hp → Prop} (g : Good ms σ X0 Y2 H c Q (.ok a c)) : ∀ b H', Keep ms H H' → Y2 H' c b a → Q b H' := fun b H' => g b H' (Sub.refl _ _)
theorem hat {a : Addr} (h : ms.at_ a) : Res ms R σ c.ρ a := .inr (.inr h)
theorem Yld.dat {v : V} {w : W} {d : PyData} (y : Yld K ms R Z σ H c v w) (e : w.data = some d) : RepT K (Res ms R σ c.ρ) H ms v d := y.rep.2.dat (fun a => hat) e
theorem Yld.later {H' : Hp} {c' : Cfg} {v : V} {w : W} {d : PyData} (y : Yld K ms R Z σ H c v w) (k : Keep ms H H') (s : Sub σ c c') (e : w.data = some d) : RepT K (Res ms R σ c'.ρ) H' ms v d := (y.rep.2.keep k s).dat (fun a => hat) e

theorem pair_length {α β : Type} {F : α → β → Prop} {xs : List α} {ys : List β} (h : Paired F xs ys) : xs.length = ys.length := h.length
theorem pair_get {α β : Type} {F : α → β → Prop} : ∀ {xs : List α} {ys : List β} {i : Nat} {y : β}, Paired F xs ys → ys[i]? = some y → ∃ x, xs[i]? = some x ∧ F x y
  | _, _, i, _, .nil, e => by simp at e
  | _, _, 0, _, .cons r _, e => by simp at e; subst e; exact ⟨_, rfl, r⟩
  | _, _, i + 1, y, .cons _ t, e => by
    obtain ⟨x, h1, h2⟩ := pair_get (i := i) (y := y) t (by simpa using e)
    exact ⟨x, by simpa using h1, h2⟩
/-! ### what each reading comes to -/
theorem ax_var {i : Nat} {rd : Bool} {Q : VK} (h : tE K call gl (.var i) rd σ H Q) : tVar i σ H Q := by
  obtain ⟨ms, R, Z, c, C, g⟩ := h
  have g : Good ms σ X0 (Yld K ms R Z σ) H c Q (evVar rd i c) := g
  unfold evVar at g
  split at g
  · rename_i d e
    obtain ⟨v, h1, h2⟩ := C.slot i _ e
    exact ⟨v, h1, g.now ⟨C, h2⟩⟩
  · rename_i ds e
    by_cases hr : rd = true
    · rw [if_pos hr] at g
      obtain ⟨v, h1, h2⟩ := C.slot i _ e
      exact ⟨v, h1, g.now ⟨C, h2⟩⟩
    · rw [if_neg hr] at g
      obtain ⟨C1, s1, v, h1, h2⟩ := C.freeze e
      exact ⟨v, h1, g v H s1 (Keep.refl _ _) ⟨C1, h2⟩⟩
  · rename_i ds e
    by_cases hr : rd = true
    · rw [if_pos hr] at g
      obtain ⟨v, h1, h2⟩ := C.slot i _ e
      exact ⟨v, h1, g.now ⟨C, h2⟩⟩
    · rw [if_neg hr] at g
      exact g.elim
  · rename_i e
    obtain ⟨v, h1, h2⟩ := C.slot i _ e
    exact ⟨v, h1, g.now ⟨C, h2⟩⟩
  · exact g.elim
theorem ax_lit {d : PyData} {v : V} {rd : Bool} {Q : VK} (hv : ∀ A H, Rep K A H v d) (h : tE K call gl (.lit d) rd σ H Q) : tC v σ H Q := by
  obtain ⟨ms, R, Z, c, C, g⟩ := h
  exact Good.now (a := W.val d) (c := c) g ⟨C, hv _ _⟩
theorem ax_glb {k : Nat} {d : PyData} {v : V} {rd : Bool} {Q : VK} (hd : gl[k]? = some d) (hv : ∀ A H, Rep K A H v d) (h : tE K call gl (.glb k) rd σ H Q) : tC v σ H Q := by
  obtain ⟨ms, R, Z, c, C, g⟩ := h
  obtain ⟨a, h1, h2⟩ := Good.bindO (f := fun d c => .ok (W.val d) c) g
  rw [hd] at h1
  cases h1
  exact Good.now (a := W.val d) (c := c) h2 ⟨C, hv _ _⟩
theorem ax_bin {op : Operator} {a b : E} {rd : Bool} {Q : VK} (h : tE K call gl (.bin op a b) rd σ H Q) : tOp (rBin K op) (tE K call gl a true) (tE K call gl b true) σ H Q := by
  obtain ⟨ms, R, Z, c, C, g⟩ := h
  refine (bindE C g).mono fun x H1 ⟨w, c1, k1, s1, y1, g1⟩ => ?_
  refine (bindE y1.rep.1 g1).mono fun y H2 ⟨u, c2, k2, s2, y2, g2⟩ => ?_
  obtain ⟨d, e, r, h1, h2, h3, g3⟩ := op2_good g2
  exact bin_ok y2.rep.1 (y1.later k2 s2 h1) (y2.dat h2) h3 fun v H' k y => Good.out (β := Unit) g3 v H' k y
theorem ax_neg {a : E} {rd : Bool} {Q : VK} (h : tE K call gl (.neg a) rd σ H Q) : tUn (rU fun i => .int (-i)) (tE K call gl a true) σ H Q := by
  obtain ⟨ms, R, Z, c, C, g⟩ := h
  refine (bindE C g).mono fun x H1 ⟨w, c1, k1, s1, y1, g1⟩ => ?_
  obtain ⟨d, i, h1, h2, g2⟩ := op1_bind g1
  cases d <;> first | (cases h2; done) | skip
  cases h2
  exact ⟨_, (y1.dat h1).int, Good.now (a := W.val _) (c := c1) g2 ⟨y1.rep.1, .int⟩⟩
theorem ax_not {a : E} {rd : Bool} {Q : VK} (h : tE K call gl (.not a) rd σ H Q) : tNotV (tE K call gl a true) σ H Q := by
  obtain ⟨ms, R, Z, c, C, g⟩ := h
  refine (bindE C g).mono fun x H1 ⟨w, c1, k1, s1, y1, g1⟩ => ?_
  obtain ⟨d, i, h1, h2, g2⟩ := op1_bind g1
  cases d <;> first | (cases h2; done) | skip
  cases h2
  exact ⟨_, (y1.dat h1).bool, Good.now (a := W.val _) (c := c1) g2 ⟨y1.rep.1, .bool⟩⟩
theorem ax_and {a b : E} {rd : Bool} {Q : VK} (h : tE K call gl (.and a b) rd σ H Q) : tAndV (tE K call gl a true) (tE K call gl b false) σ H Q := by
  obtain ⟨ms, R, Z, c, C, g⟩ := h
  refine (bindE C g).mono fun x H1 ⟨w, c1, k1, s1, y1, g1⟩ => ?_
  obtain ⟨d, i, h1, h2, g2⟩ := op1_bind g1
  cases d <;> first | (cases h2; done) | skip
  cases h2
  refine ⟨_, (y1.dat h1).bool, ?_⟩
  split at g2
  · rename_i e
    rw [if_pos e]
    exact ⟨ms, R, Z, c1, y1.rep.1, g2⟩
  · rename_i e
    rw [if_neg e]
    exact Good.now (a := W.val _) (c := c1) g2 ⟨y1.rep.1, .bool⟩
theorem ax_or {a b : E} {rd : Bool} {Q : VK} (h : tE K call gl (.or a b) rd σ H Q) : tOrV (tE K call gl a true) (tE K call gl b false) σ H Q := by
  obtain ⟨ms, R, Z, c, C, g⟩ := h
  refine (bindE C g).mono fun x H1 ⟨w, c1, k1, s1, y1, g1⟩ => ?_
  obtain ⟨d, i, h1, h2, g2⟩ := op1_bind g1
  cases d <;> first | (cases h2; done) | skip
  cases h2
  refine ⟨_, (y1.dat h1).bool, ?_⟩
  split at g2
  · rename_i e
    rw [if_pos e]
    exact Good.now (a := W.val _) (c := c1) g2 ⟨y1.rep.1, .bool⟩
  · rename_i e
    rw [if_neg e]
    exact ⟨ms, R, Z, c1, y1.rep.1, g2⟩
theorem ax_cmp {op : CmpOp} {a b : E} {rd : Bool} {Q : VK} (h : tE K call gl (.cmp op a b) rd σ H Q) : tOp (rCmp K op) (tE K call gl a true) (tE K call gl b true) σ H Q := by
  obtain ⟨ms, R, Z, c, C, g⟩ := h
  refine (bindE C g).mono fun x H1 ⟨w, c1, k1, s1, y1, g1⟩ => ?_
  refine (bindE y1.rep.1 g1).mono fun y H2 ⟨u, c2, k2, s2, y2, g2⟩ => ?_
  obtain ⟨d, e, r, h1, h2, h3, g3⟩ := op2_bind g2
  exact cmp_ok (y1.later k2 s2 h1) (y2.dat h2) h3 (Good.now (a := W.val _) (c := c2) g3 ⟨y2.rep.1, .bool⟩)
theorem ax_chain {op op' : CmpOp} {a b d : E} {rd : Bool} {Q : VK} (h : tE K call gl (.chain op op' a b d) rd σ H Q) : tChain (rCmp K op) (rCmp K op') (tE K call gl a true) (tE K call gl b true) (tE K call gl d true) σ H Q := by
  obtain ⟨ms, R, Z, c, C, g⟩ := h
  refine (bindE C g).mono fun x H1 ⟨w, c1, k1, s1, y1, g1⟩ => ?_
  refine (bindE y1.rep.1 g1).mono fun y H2 ⟨u, c2, k2, s2, y2, g2⟩ => ?_
  obtain ⟨d, e, r, h1, h2, h3, g3⟩ := op2_bind g2
  refine cmp_ok (y1.later k2 s2 h1) (y2.dat h2) h3 ⟨r, rfl, ?_⟩
  split at g3
  · rename_i er
    rw [if_pos er]
    refine (bindE y2.rep.1 g3).mono fun z H3 ⟨u3, c3, k3, s3, y3, g4⟩ => ?_
    obtain ⟨d', e', r', h1', h2', h3', g5⟩ := op2_bind g4
    exact cmp_ok (y2.later k3 s3 h1') (y3.dat h2') h3' (Good.now (a := W.val _) (c := c3) g5 ⟨y3.rep.1, .bool⟩)
  · rename_i er
    rw [if_neg er]
    exact Good.now (a := W.val _) (c := c2) g3 ⟨y2.rep.1, .bool⟩
theorem ax_ite {t : T} {a b : E} {rd : Bool} {Q : VK} (h : tE K call gl (.ite t a b) rd σ H Q) : tIf (tT K call gl t) (tE K call gl a rd) (tE K call gl b rd) σ H Q := by
  obtain ⟨ms, R, Z, c, C, g⟩ := h
  refine (bindT C g).mono fun r H1 ⟨c1, k1, s1, C1, g1⟩ => ?_
  split at g1
  · rename_i e
    rw [if_pos e]
    exact ⟨ms, R, Z, c1, C1, g1⟩
  · rename_i e
    rw [if_neg e]
    exact ⟨ms, R, Z, c1, C1, g1⟩
theorem dats_rep {vs : List V} {ws : List W} {ds : List PyData} (r : Paired (fun v w => RepV K (Res ms R σ c.ρ) H ms v w) vs ws) (n : ws.all noOwn = true) (h : dats ws = some ds) : Reps K (Res ms R σ c.ρ) H vs ds := by
  induction r generalizing ds with
  | nil => cases h; exact .nil
  | cons r1 rs ih =>
    rename_i v w vs ws
    rw [List.all_cons, Bool.and_eq_true] at n
    unfold dats at h
    split at h
    · rename_i d ds' h1 h2
      cases h
      cases w with
      | val d' => cases h1; exact .cons r1 (ih n.2 h2)
      | own _ => exact absurd n.1 (by simp [noOwn])
      | bor _ => cases h1
      | stm => cases h1
    · cases h
theorem ax_tup {es : Es} {rd : Bool} {Q : VK} (h : tE K call gl (.tup es) rd σ H Q) : tTup (tEs K call gl es false) σ H Q := by
  obtain ⟨ms, R, Z, c, C, g⟩ := h
  refine (bindEs C g).mono fun vs H1 ⟨ws, c1, k1, s1, y1, g1⟩ => ?_
  obtain ⟨w, h1, g2⟩ := Good.ofO g1
  unfold mkTup at h1
  split at h1
  · rename_i ds hd
    split at h1
    · cases h1
      have r := dats_rep y1.2.1 y1.2.2 hd
      exact ⟨by rw [r.length]; assumption, fun p hp => Good.out (β := Unit) g2 _ _ (Keep.new hp) (Yld.tuple y1.1 hp r)⟩
    · cases h1
  · cases h1
theorem ax_lst {es : Es} {rd : Bool} {Q : VK} (h : tE K call gl (.lst es) rd σ H Q) : tLst (tEs K call gl es false) σ H Q := by
  obtain ⟨ms, R, Z, c, C, g⟩ := h
  refine (bindEs C g).mono fun vs H1 ⟨ws, c1, k1, s1, y1, g1⟩ => ?_
  obtain ⟨w, h1, g2⟩ := Good.ofO g1
  unfold mkLst at h1
  split at h1
  · rename_i ds hd
    split at h1
    · cases h1
      have r := dats_rep y1.2.1 y1.2.2 hd
      exact ⟨by rw [r.length]; assumption, fun p hp => Good.out (β := Unit) g2 _ _ (Keep.new hp) (Yld.fresh y1.1 hp r)⟩
    · cases h1
  · cases h1
theorem ax_ix {a b : E} {rd : Bool} {Q : VK} (h : tE K call gl (.ix a b) rd σ H Q) : tOp (rIx K) (tE K call gl a true) (tE K call gl b true) σ H Q := by
  obtain ⟨ms, R, Z, c, C, g⟩ := h
  refine (bindE C g).mono fun x H1 ⟨w, c1, k1, s1, y1, g1⟩ => ?_
  refine (bindE y1.rep.1 g1).mono fun y H2 ⟨u, c2, k2, s2, y2, g2⟩ => ?_
  obtain ⟨d, e, r, h1, h2, h3, g3⟩ := op2_good g2
  exact ix_ok y2.rep.1 (y1.later k2 s2 h1) (y2.dat h2) h3 fun v y => Good.out (β := Unit) g3 v H2 (Keep.refl _ _) y
theorem ax_sl {a : E} {lo hi : Oe} {rd : Bool} {Q : VK} (h : tE K call gl (.sl a lo hi) rd σ H Q) : tSl (rSl K) (tE K call gl a true) (tOe K call gl lo) (tOe K call gl hi) σ H Q := by
  obtain ⟨ms, R, Z, c, C, g⟩ := h
  refine (bindE C g).mono fun x H1 ⟨w, c1, k1, s1, y1, g1⟩ => ?_
  refine (bindOe y1.rep.1 g1).mono fun l H2 ⟨c2, k2, s2, C2, g2⟩ => ?_
  refine (bindOe C2 g2).mono fun u H3 ⟨c3, k3, s3, C3, g3⟩ => ?_
  obtain ⟨d, r, h1, h2, g4⟩ := op1_good g3
  exact sl_ok C3 (y1.later (k2.trans k3) (s2.trans s3) h1) h2 fun v H' k y => Good.out (β := Unit) g4 v H' k y
theorem ax_ono {Q : Option Int → Hp → Prop} (h : tOe K call gl .no σ H Q) : tNoPart σ H Q := by
  obtain ⟨ms, R, Z, c, C, g⟩ := h
  exact Good.now (a := (Option.none : Option Int)) (c := c) g ⟨rfl, C⟩
theorem ax_oyes {e : E} {Q : Option Int → Hp → Prop} (h : tOe K call gl (.yes e) σ H Q) : tPart (tE K call gl e true) σ H Q := by
  obtain ⟨ms, R, Z, c, C, g⟩ := h
  refine (bindE C g).mono fun x H1 ⟨w, c1, k1, s1, y1, g1⟩ => ?_
  obtain ⟨d, i, h1, h2, g2⟩ := op1_bind g1
  cases d <;> first | (cases h2; done) | skip
  cases h2
  exact ⟨_, (y1.dat h1).int, Good.now (c := c1) g2 ⟨rfl, y1.rep.1⟩⟩
theorem ax_nil {rd : Bool} {Q : List V → Hp → Prop} (h : tEs K call gl .nil rd σ H Q) : tNil σ H Q := by
  obtain ⟨ms, R, Z, c, C, g⟩ := h
  exact Good.now (a := ([] : List W)) (c := c) g ⟨C, .nil, rfl⟩
def W.see (rd : Bool) (w : W) : W := if rd = true then w.read else w.share
theorem Yld.see {v : V} {w : W} (y : Yld K ms R Z σ H c v w) (rd : Bool) : Conf K ms R Z σ H c ∧ RepV K (Res ms R σ c.ρ) H ms v (w.see rd) ∧ noOwn (w.see rd) = true := by
  unfold W.see
  split
  · exact ⟨y.read.1, y.read.2, by cases w <;> rfl⟩
  · exact ⟨y.share.1, y.share.2, by cases w <;> rfl⟩
theorem ax_cons {e : E} {r : Es} {rd : Bool} {Q : List V → Hp → Prop} (h : tEs K call gl (.cons e r) rd σ H Q) : tCons (tE K call gl e rd) (tEs K call gl r rd) σ H Q := by
  obtain ⟨ms, R, Z, c, C, g⟩ := h
  refine (bindE C g).mono fun x H1 ⟨w, c1, k1, s1, y1, g1⟩ => ?_
  obtain ⟨C1, r1, n1⟩ := y1.see rd
  refine (bindEs C1 g1).mono fun xs H2 ⟨ws, c2, k2, s2, y2, g2⟩ => ?_
  exact Good.now (c := c2) g2 ⟨y2.1, .cons (r1.keep k2 s2) y2.2.1, by rw [List.all_cons, Bool.and_eq_true]; exact ⟨n1, y2.2.2⟩⟩

theorem ax_call {f : Nat} {es : Es} {rd : Bool} {E : XK} {Q : VK} (h : tE K call gl (.call f es) rd σ H Q) : tCall (spOf K (call f)) [] E (tEs K call gl es false) σ H Q := by
  obtain ⟨ms, R, Z, c, C, g⟩ := h
  refine (bindEs C g).mono fun vs H1 ⟨ws, c1, k1, s1, y1, g1⟩ => ?_
  rw [List.append_nil]
  unfold doCall at g1
  split at g1
  · rename_i hp
    refine ⟨ms, Res ms R σ c1.ρ, ws, c1.s, fun a => hat, fun a => y1.1.res_in, y1.1.st, y1.2.1, hp, ?_⟩
    split at g1
    · rename_i w s e
      rw [e]
      exact fun v H' k hs r => g1 v H' (fun _ z => z) k (RetV.yld y1.1 k hs r)
    · exact (g1 H1 (Keep.refl _ _)).elim
    · exact g1.elim
  · exact g1.elim
theorem perm_ok {A : Addr → Prop} {vs : List V} {ws : List W} (r : Paired (fun v w => RepV K A H ms v w) vs ws) : ∀ {perm : List Nat} {us : List W}, permL perm ws = some us → ∃ zs, permL perm vs = some zs ∧ Paired (fun v w => RepV K A H ms v w) zs us
  | [], us, h => by cases h; exact ⟨[], rfl, .nil⟩
  | i :: perm, us, h => by
    unfold permL at h
    split at h
    · rename_i w us' h1 h2
      cases h
      obtain ⟨zs, e1, e2⟩ := perm_ok r h2
      have : ∃ v, vs[i]? = some v ∧ RepV K A H ms v w := pair_get r h1
      obtain ⟨v, q1, q2⟩ := this
      exact ⟨v :: zs, by unfold permL; rw [q1, e1], .cons q2 e2⟩
    · cases h
def tCallP (sp : Sp) (perm : List Nat) (E : XK) (t : TA) : TE := fun σ H Q => t σ H fun vs H1 => vs.length = perm.length ∧ ∃ zs, permL perm vs = some zs ∧ sp zs H1 Q E
theorem ax_callK {f : Nat} {es : Es} {perm : List Nat} {rd : Bool} {E : XK} {Q : VK} (h : tE K call gl (.callK f es perm) rd σ H Q) : tCallP (spOf K (call f)) perm E (tEs K call gl es false) σ H Q := by
  obtain ⟨ms, R, Z, c, C, g⟩ := h
  refine (bindEs C g).mono fun vs H1 ⟨ws, c1, k1, s1, y1, g1⟩ => ?_
  obtain ⟨us, h1, g2⟩ := Good.bindO g1
  split at h1
  · rename_i hl
    obtain ⟨zs, e1, e2⟩ := perm_ok y1.2.1 h1
    refine ⟨by rw [pair_length y1.2.1]; exact hl, zs, e1, ?_⟩
    unfold doCall at g2
    split at g2
    · rename_i hp
      refine ⟨ms, Res ms R σ c1.ρ, us, c1.s, fun a => hat, fun a => y1.1.res_in, y1.1.st, e2, hp, ?_⟩
      split at g2
      · rename_i w s e
        rw [e]
        exact fun v H' k hs r => g2 v H' (fun _ z => z) k (RetV.yld y1.1 k hs r)
      · exact (g2 H1 (Keep.refl _ _)).elim
      · exact g2.elim
    · exact g2.elim
  · cases h1
theorem datas_rep {vs : List V} {ws : List W} {ds : List PyData} (r : Paired (fun v w => RepV K (Res ms R σ c.ρ) H ms v w) vs ws) (h : datas ws = some ds) : Paired (fun v d => RepT K (Res ms R σ c.ρ) H ms v d) vs ds := by
  induction r generalizing ds with
  | nil => cases h; exact .nil
  | cons r1 rs ih =>
    unfold datas at h
    split at h
    · rename_i d ds' h1 h2
      cases h
      exact .cons (r1.dat (fun a => hat) h1) (ih h2)
    · cases h
theorem ax_blt {b : Blt} {es : Es} {rd : Bool} {Q : VK} (hb : ∀ ts, b ≠ .isi ts) (h : tE K call gl (.blt b es) rd σ H Q) : tCB (rBlt K b) (tEs K call gl es true) σ H Q := by
  obtain ⟨ms, R, Z, c, C, g⟩ := h
  refine (bindEs C g).mono fun vs H1 ⟨ws, c1, k1, s1, y1, g1⟩ => ?_
  obtain ⟨ds, h1, g2⟩ := Good.bindO g1
  obtain ⟨w, h2, g3⟩ := Good.ofO g2
  exact blt_ok y1.1 (datas_rep y1.2.1 h1) h2 hb fun v H' k y => Good.out (β := Unit) g3 v H' k y
theorem ax_isi {t : String} {e : E} {rd : Bool} {Q : VK} (h : tE K call gl (.blt (.isi [t]) (.cons e .nil)) rd σ H Q) : tCB (rIsi K) (tCons (tE K call gl e true) (tCons (tC (.ty t)) tNil)) σ H Q := by
  obtain ⟨ms, R, Z, c, C, g⟩ := h
  have g' := bindEs C g
  obtain ⟨ms', R', Z', c', C', g''⟩ := ax_cons g'
  refine tE.mono (⟨ms', R', Z', c', C', g''⟩ : tE K call gl e true σ H _) fun x H1 q => ?_
  obtain ⟨ws, c1, k1, s1, y1, g1⟩ := ax_nil q
  refine ?_
  obtain ⟨ds, h1, g2⟩ := Good.bindO g1
  obtain ⟨w, h2, g3⟩ := Good.ofO g2
  have rr := datas_rep y1.2.1 h1
  cases rr with
  | cons r t' =>
    cases t'
    rename_i d
    have h2 : (if [t].all isOne = true ∧ notNone d = true then some (bval ([t].any (isTy d))) else Option.none) = some w := h2
    split at h2
    · rename_i hh
      cases h2
      have i1 : isOne t = true := by simpa using hh.1
      refine ⟨x, .ty t, _, _, _, rfl, .ty t, r.tyX, kit_ty (kit_is i1 hh.2), ?_⟩
      have e : [t].any (isTy d) = isTy d t := by simp
      rw [e] at g3
      exact Good.now (a := W.val _) (c := c1) g3 ⟨y1.1, .bool⟩
    · cases h2
/-! tests -/
theorem ax_tval {e : E} {Q : Bool → Hp → Prop} (h : tT K call gl (.val e) σ H Q) : tE K call gl e true σ H fun x H1 => ∃ k, TruV K x H1 k ∧ Q k H1 := by
  obtain ⟨ms, R, Z, c, C, g⟩ := h
  refine (bindE C g).mono fun x H1 ⟨w, c1, k1, s1, y1, g1⟩ => ?_
  obtain ⟨d, r, h1, h2, g2⟩ := op1_good g1
  exact ⟨r, tru_of (y1.dat h1) h2, Good.now (c := c1) g2 ⟨rfl, y1.rep.1⟩⟩
theorem ax_tand {a b : T} {Q : Bool → Hp → Prop} (h : tT K call gl (.and a b) σ H Q) : tAnd (tT K call gl a) (tT K call gl b) σ H Q := by
  obtain ⟨ms, R, Z, c, C, g⟩ := h
  refine (bindT C g).mono fun r H1 ⟨c1, k1, s1, C1, g1⟩ => ?_
  split at g1
  · rename_i e
    rw [if_pos e]
    exact ⟨ms, R, Z, c1, C1, g1⟩
  · rename_i e
    rw [if_neg e]
    exact Good.now (c := c1) g1 ⟨rfl, C1⟩
theorem ax_tor {a b : T} {Q : Bool → Hp → Prop} (h : tT K call gl (.or a b) σ H Q) : tOr (tT K call gl a) (tT K call gl b) σ H Q := by
  obtain ⟨ms, R, Z, c, C, g⟩ := h
  refine (bindT C g).mono fun r H1 ⟨c1, k1, s1, C1, g1⟩ => ?_
  split at g1
  · rename_i e
    rw [if_pos e]
    exact Good.now (c := c1) g1 ⟨rfl, C1⟩
  · rename_i e
    rw [if_neg e]
    exact ⟨ms, R, Z, c1, C1, g1⟩
theorem ax_tnot {a : T} {Q : Bool → Hp → Prop} (h : tT K call gl (.not a) σ H Q) : tNot (tT K call gl a) σ H Q := by
  obtain ⟨ms, R, Z, c, C, g⟩ := h
  exact (bindT C g).mono fun r H1 ⟨c1, k1, s1, C1, g1⟩ => Good.now (c := c1) g1 ⟨rfl, C1⟩
theorem ax_tno {Q : Bool → Hp → Prop} (h : tOt K call gl .no σ H Q) : tYes σ H Q := by
  obtain ⟨ms, R, Z, c, C, g⟩ := h
  exact Good.now (a := true) (c := c) g ⟨rfl, C⟩
theorem ax_tyes {t : T} {Q : Bool → Hp → Prop} (h : tOt K call gl (.yes t) σ H Q) : tT K call gl t σ H Q := h
end
end Pyv
end
/-! ## PyvZ -/
section
set_option maxRecDepth 100000
set_option maxHeartbeats 4000000
/-! Pyv Z: list(zip(..)) of two lists or two tuples. -/
namespace Pyv
open PySem PySem.Spec PyProof.Rows L2
section
variable {prog : Program} {w : World} {A : Around} {E : Value → Shared → Prop} {s : Shared} {z TI TO i1 i2 : Addr} {fp1 fp2 : List Addr} {n1 n2 i : Nat} {P1 P2 : Nat → Value → Prop} {St1 St2 : Nat → Heap → Prop}

theorem zipZ_item {T : Addr} {f : Bool} {oT : Obj} {Q : Value → Shared → Prop} (S : ZipSep2 z TI TO i1 i2 fp1 fp2) (D1 : Draws prog w A i1 fp1 n1 P1 St1) (D2 : Draws prog w A i2 fp2 n2 P2 St2)
    (hz : PySem.IsZipHeld s.heap z TI TO T f) (hT : s.heap.get? T = some oT) (hTI : IsTupOf2 s.heap TI (.ref i1) (.ref i2)) (st1 : St1 i s.heap) (st2 : St2 i s.heap) (hlt1 : i < n1) (hlt2 : i < n2)
    (hQ : ∀ x1 x2 h' tk, P1 i x1 → P2 i x2 → PySem.IsZipHeld h' z TI TO T true → St1 (i + 1) h' → St2 (i + 1) h' → IsTupOf2 h' s.heap.objs.size x1 x2 → h'.objs.size = s.heap.objs.size + 1 →
      (∀ c o, c ≠ z → c ≠ i1 → c ≠ i2 → s.heap.get? c = some o → h'.get? c = some o) → Q (.ref s.heap.objs.size) { s with heap := h', toks := tk }) :
    wpAny (model prog w) A (Builtin.«zip.__next__» ⟨[.ref z], []⟩) (fun fin s' => ∃ v, fin = .done (.ret v) ∧ Q v s') E s := by
  obtain ⟨hp, g, d, tk0, os⟩ := s
  show wpAny _ _ (field (.ref z) 2 >>= _) _ _ _
  refine wpAny_bind (wpAny_field hz rfl (x := .bool false) rfl ?_)
  show wpAny _ _ (field (.ref z) 3 >>= _) _ _ _
  refine wpAny_bind (wpAny_field hz rfl (x := .ref TI) rfl ?_)
  refine wpAny_bind (wpAny_seqItems hTI rfl ?_)
  show wpAny _ _ (Builtin.SmallTypes.ownedTupleIsFree (.ref z) >>= _) _ _ _
  refine wpAny_bind (wpAny_tupleHeld_zip hz hT fun h₁ hz₁ hs₁ => ?_)
  simp only [Bool.false_eq_true, if_false]
  refine wpAny_bind ?_
  rw [← Array.forIn_toList]
  simp only [List.forIn_cons, List.forIn_nil]
  refine wpAny_bind (wpAny_bind (wpAny_holding ?_))
  show wpAny _ _ (Builtin.SmallTypes.nextOf (.ref i1) >>= _) _ _ _
  replace hs₁ : Heap.SameBut z hp h₁ := hs₁
  refine wpAny_bind (D1.item i ⟨h₁, g, d, tk0, os⟩ _ _ hlt1 (D1.over st1 hs₁ S.zf1) fun x1 p1 tk1 hx1 sn1 hp1 => wpAny_pure ?_)
  replace hp1 : Heap.SameBut i1 h₁ p1 := hp1
  refine wpAny_pure ?_
  refine wpAny_bind (wpAny_bind (wpAny_holding ?_))
  show wpAny _ _ (Builtin.SmallTypes.nextOf (.ref i2) >>= _) _ _ _
  refine wpAny_bind (D2.item i ⟨p1, g, d, tk1, os⟩ _ _ hlt2 (D2.over (D2.over st2 hs₁ S.zf2) hp1 S.sep1_2) fun x2 p2 tk2 hx2 sn2 hp2 => wpAny_pure ?_)
  replace hp2 : Heap.SameBut i2 p1 p2 := hp2
  refine wpAny_pure (wpAny_pure ?_)
  show wpAny _ _ (newTuple [x1, x2] >>= _) _ _ _
  refine wpAny_bind (wpAny_newTuple ?_)
  have hsz : p2.objs.size = hp.objs.size := by rw [hp2.1, hp1.1, hs₁.1]
  have hz₃ : PySem.IsZipHeld p2 z TI TO T true := hp2.extBut _ _ S.zi2 (hp1.extBut _ _ S.zi1 hz₁)
  have hk : ∀ c o, c ≠ z → c ≠ i1 → c ≠ i2 → hp.get? c = some o → p2.get? c = some o := fun c o c1 c2 c3 e => hp2.extBut _ _ c3 (hp1.extBut _ _ c2 (hs₁.extBut _ _ c1 e))
  have hj1 : St1 (i + 1) p2 := D1.over sn1 hp2 S.sep2_1
  refine wpAny_pure ⟨_, rfl, ?_⟩
  show Q (.ref p2.objs.size) _
  have hpr : IsTupOf2 (p2.push { cls := .type "tuple", data := .seq #[x1, x2] }) p2.objs.size x1 x2 := Heap.get?_push_size _ rfl
  have hz4 : (p2.push { cls := .type "tuple", data := .seq #[x1, x2] }).objs.size = p2.objs.size + 1 := Heap.size_push ..
  rw [hsz] at hpr hz4 ⊢
  exact hQ x1 x2 _ tk2 hx1 hx2 (Heap.get?_push_of_some _ hz₃) (D1.frame _ _ _ hj1 fun b _ o e => Heap.get?_push_of_some _ e) (D2.frame _ _ _ sn2 fun b _ o e => Heap.get?_push_of_some _ e) hpr hz4 fun c o c1 c2 c3 e => Heap.get?_push_of_some _ (hk c o c1 c2 c3 e)
theorem zipZ_end {T : Addr} {f : Bool} {oT : Obj} {Q : Fin → Shared → Prop} (S : ZipSep2 z TI TO i1 i2 fp1 fp2) (D1 : Draws prog w A i1 fp1 n1 P1 St1) (D2 : Draws prog w A i2 fp2 n2 P2 St2)
    (hz : PySem.IsZipHeld s.heap z TI TO T f) (hT : s.heap.get? T = some oT) (hTI : IsTupOf2 s.heap TI (.ref i1) (.ref i2)) (st1 : St1 i s.heap) (st2 : St2 i s.heap) (hle1 : i ≤ n1) (hle2 : i ≤ n2) (hend : i = n1 ∨ i = n2)
    (hE : ∀ h' tk e, (∀ c o, c ≠ z → c ≠ i1 → c ≠ i2 → s.heap.get? c = some o → h'.get? c = some o) → (∃ o, h'.get? e = some o ∧ o.cls = .type "StopIteration") → E (.ref e) { s with heap := h', toks := tk }) :
    wpAny (model prog w) A (Builtin.«zip.__next__» ⟨[.ref z], []⟩) Q E s := by
  obtain ⟨hp, g, d, tk0, os⟩ := s
  show wpAny _ _ (field (.ref z) 2 >>= _) _ _ _
  refine wpAny_bind (wpAny_field hz rfl (x := .bool false) rfl ?_)
  show wpAny _ _ (field (.ref z) 3 >>= _) _ _ _
  refine wpAny_bind (wpAny_field hz rfl (x := .ref TI) rfl ?_)
  refine wpAny_bind (wpAny_seqItems hTI rfl ?_)
  show wpAny _ _ (Builtin.SmallTypes.ownedTupleIsFree (.ref z) >>= _) _ _ _
  refine wpAny_bind (wpAny_tupleHeld_zip hz hT fun h₁ hz₁ hs₁ => ?_)
  simp only [Bool.false_eq_true, if_false]
  refine wpAny_bind ?_
  rw [← Array.forIn_toList]
  simp only [List.forIn_cons, List.forIn_nil]
  refine wpAny_bind (wpAny_bind (wpAny_holding ?_))
  show wpAny _ _ (Builtin.SmallTypes.nextOf (.ref i1) >>= _) _ _ _
  replace hs₁ : Heap.SameBut z hp h₁ := hs₁
  by_cases hlt1 : i < n1
  · have hi2 : i = n2 := by omega
    refine wpAny_bind (D1.item i ⟨h₁, g, d, tk0, os⟩ _ _ hlt1 (D1.over st1 hs₁ S.zf1) fun x1 p1 tk1 hx1 sn1 hp1 => wpAny_pure ?_)
    replace hp1 : Heap.SameBut i1 h₁ p1 := hp1
    refine wpAny_pure ?_
    refine wpAny_bind (wpAny_bind (wpAny_holding ?_))
    show wpAny _ _ (Builtin.SmallTypes.nextOf (.ref i2) >>= _) _ _ _
    refine wpAny_bind (D2.done ⟨p1, g, d, tk1, os⟩ _ _ (by rw [← hi2]; exact (D2.over (D2.over st2 hs₁ S.zf2) hp1 S.sep1_2)) fun q e hq he => ?_)
    exact hE q tk1 e (fun c o c1 c2 c3 x => hq _ _ c3 (hp1.extBut _ _ c2 (hs₁.extBut _ _ c1 x))) he
  · have hi1 : i = n1 := by omega
    refine wpAny_bind (D1.done ⟨h₁, g, d, tk0, os⟩ _ _ (by rw [← hi1]; exact (D1.over st1 hs₁ S.zf1)) fun q e hq he => ?_)
    exact hE q tk0 e (fun c o c1 c2 c3 x => hq _ _ c2 (hs₁.extBut _ _ c1 x)) he
/-- a zip of which nothing is out, or whose last pair is kept -/
def ZAt (z TI TO i1 i2 : Addr) (h : Heap) : Prop :=
  (IsZip h z TI TO .none ∧ ∃ a b, IsTupOf2 h TO a b) ∨ ∃ T f oT, PySem.IsZipHeld h z TI TO T f ∧ h.get? T = some oT ∧ T ≠ z ∧ T ≠ i1 ∧ T ≠ i2
theorem ZAt.typeIs (h : ZAt z TI TO i1 i2 s.heap) : s.TypeIs (.ref z) "zip" := by
  rcases h with ⟨h, _⟩ | ⟨T, f, oT, h, _⟩
  · exact ⟨_, h, rfl⟩
  · exact ⟨_, h, rfl⟩
theorem ZAt.zlt {h : Heap} (q : ZAt z TI TO i1 i2 h) : z < h.objs.size := by
  rcases q with ⟨h, _⟩ | ⟨T, f, oT, h, _⟩
  · exact Heap.lt_size h
  · exact Heap.lt_size h
theorem nextZ_item {Q : Option Value → Shared → Prop} (S : ZipSep2 z TI TO i1 i2 fp1 fp2) (D1 : Draws prog w A.in1 i1 fp1 n1 P1 St1) (D2 : Draws prog w A.in1 i2 fp2 n2 P2 St2)
    (hz : ZAt z TI TO i1 i2 s.heap) (hTI : IsTupOf2 s.heap TI (.ref i1) (.ref i2)) (st1 : St1 i s.heap) (st2 : St2 i s.heap) (hlt1 : i < n1) (hlt2 : i < n2)
    (hQ : ∀ x1 x2 h' tk, P1 i x1 → P2 i x2 → ZAt z TI TO i1 i2 h' → St1 (i + 1) h' → St2 (i + 1) h' → IsTupOf2 h' s.heap.objs.size x1 x2 → h'.objs.size = s.heap.objs.size + 1 →
      (∀ c o, c ≠ z → c ≠ TO → c ≠ i1 → c ≠ i2 → s.heap.get? c = some o → h'.get? c = some o) → Q (some (.ref s.heap.objs.size)) { s with heap := h', toks := tk }) :
    wpAny (model prog w) A (pyNext (.ref z)) Q E s := by
  have hT := hz.typeIs
  have l1 : i1 < s.heap.objs.size := by obtain ⟨o, e⟩ := D1.live _ _ st1; exact Heap.lt_size e
  have l2 : i2 < s.heap.objs.size := by obtain ⟨o, e⟩ := D2.live _ _ st2; exact Heap.lt_size e
  have lz := hz.zlt
  rcases hz with ⟨h0, a, b, hTO⟩ | ⟨T, f, oT, hh, ho, t1, t2, t3⟩
  · refine wpAny_pyNext_zipD2_item S D1 D2 h0 hTI hTO st1 st2 hlt1 hlt2 fun x1 x2 h' tk y1 y2 b1 b2 d1 d2 b5 b6 b7 => ?_
    exact hQ x1 x2 h' tk y1 y2 (.inr ⟨_, false, _, b1, b5, Nat.ne_of_gt lz, Nat.ne_of_gt l1, Nat.ne_of_gt l2⟩) d1 d2 b5 b6 b7
  · unfold pyNext
    exact wpAny_bind (wpAny_attempt (wpAny_callSpecial?_slot (name := Str.ofString "__next__") hT F.slot_zip_next
      (wpAny_call_entry F.slot_zip_next hT F.entry_zip_next
        (zipZ_item S D1 D2 hh ho hTI st1 st2 hlt1 hlt2 fun x1 x2 h' tk y1 y2 b1 d1 d2 b5 b6 b7 => wpAny_pure (hQ x1 x2 h' tk y1 y2 (.inr ⟨T, true, oT, b1, b7 T oT t1 t2 t3 ho, t1, t2, t3⟩) d1 d2 b5 b6 fun c o c1 _ c3 c4 e => b7 c o c1 c3 c4 e)) (F.args_zip_next_1 _))))
theorem nextZ_end {Q : Option Value → Shared → Prop} (S : ZipSep2 z TI TO i1 i2 fp1 fp2) (D1 : Draws prog w A.in1 i1 fp1 n1 P1 St1) (D2 : Draws prog w A.in1 i2 fp2 n2 P2 St2)
    (hz : ZAt z TI TO i1 i2 s.heap) (hTI : IsTupOf2 s.heap TI (.ref i1) (.ref i2)) (st1 : St1 i s.heap) (st2 : St2 i s.heap) (hle1 : i ≤ n1) (hle2 : i ≤ n2) (hend : i = n1 ∨ i = n2)
    (hQ : ∀ h' tk, (∀ c o, c ≠ z → c ≠ TO → c ≠ i1 → c ≠ i2 → s.heap.get? c = some o → h'.get? c = some o) → Q none { s with heap := h', toks := tk }) :
    wpAny (model prog w) A (pyNext (.ref z)) Q E s := by
  have hT := hz.typeIs
  rcases hz with ⟨h0, a, b, hTO⟩ | ⟨T, f, oT, hh, ho, t1, t2, t3⟩
  · exact wpAny_pyNext_zipD2_end S D1 D2 h0 hTI hTO st1 st2 hle1 hle2 hend fun h' tk k => hQ h' tk k
  · unfold pyNext
    refine wpAny_bind (wpAny_attempt (wpAny_callSpecial?_slot (name := Str.ofString "__next__") hT F.slot_zip_next
      (wpAny_call_entry F.slot_zip_next hT F.entry_zip_next (zipZ_end S D1 D2 hh ho hTI st1 st2 hle1 hle2 hend fun h' tk e hk he => ?_) (F.args_zip_next_1 _))))
    obtain ⟨o, ho, hc⟩ := he
    refine wpAny_bind (wpAny_isInstance (T := "StopIteration") (b := true) ⟨o, ho, hc⟩ isSubtype_stop ?_)
    exact wpAny_pure (hQ _ _ fun c o c1 _ c3 c4 e => hk c o c1 c3 c4 e)
/-- the pairs that lie in the list; B: where new things begin -/
def PairsAt (B : Nat) (P1 P2 : Nat → Value → Prop) (h : Heap) (m : Nat) (acc : Array Value) : Prop :=
  acc.size = m ∧ ∀ j, j < m → ∃ T x y, acc[j]? = some (.ref T) ∧ IsTupOf2 h T x y ∧ P1 j x ∧ P2 j y ∧ B ≤ T
theorem PairsAt.over {B : Nat} {h h' : Heap} {m : Nat} {acc : Array Value} (q : PairsAt B P1 P2 h m acc) (k : ∀ T x y, B ≤ T → IsTupOf2 h T x y → IsTupOf2 h' T x y) : PairsAt B P1 P2 h' m acc :=
  ⟨q.1, fun j hj => by obtain ⟨T, x, y, e, t, p1, p2, b⟩ := q.2 j hj; exact ⟨T, x, y, e, k T x y b t, p1, p2, b⟩⟩
theorem PairsAt.push {B : Nat} {h : Heap} {m : Nat} {acc : Array Value} {T : Addr} {x y : Value} (q : PairsAt B P1 P2 h m acc) (t : IsTupOf2 h T x y) (h1 : P1 m x) (h2 : P2 m y) (hb : B ≤ T) : PairsAt B P1 P2 h (m + 1) (acc.push (.ref T)) := by
  refine ⟨by rw [Array.size_push, q.1], fun j hj => ?_⟩
  by_cases e : j = m
  · subst e
    exact ⟨T, x, y, by rw [← q.1]; simp, t, h1, h2, hb⟩
  · obtain ⟨T', x', y', e', r⟩ := q.2 j (by omega)
    refine ⟨T', x', y', ?_, r⟩
    have : j < acc.size := by rw [q.1]; omega
    rw [Array.getElem?_eq_getElem this] at e'
    rw [Array.getElem?_push_lt this]
    exact e'
/-- where all stands -/
structure Apart (B : Nat) (Sl z TI TO i1 i2 : Addr) (fp1 fp2 : List Addr) : Prop where
  nz : Sl ≠ z
  nTI : Sl ≠ TI
  nTO : Sl ≠ TO
  f1 : Sl ∉ fp1
  f2 : Sl ∉ fp2
  bz : z < B
  bT : TO < B
  b1 : i1 < B
  b2 : i2 < B
theorem ZAt.over {Sl : Addr} {h h' : Heap} (q : ZAt z TI TO i1 i2 h) (a1 : Sl ≠ z) (a2 : Sl ≠ TO) (k : ∀ b o, b ≠ Sl → h.get? b = some o → h'.get? b = some o) (ks : ∃ o, h'.get? Sl = some o) : ZAt z TI TO i1 i2 h' := by
  rcases q with ⟨h0, a, b, hTO⟩ | ⟨T, f, oT, hh, ho, t1, t2, t3⟩
  · exact .inl ⟨k _ _ (Ne.symm a1) h0, a, b, k _ _ (Ne.symm a2) hTO⟩
  · by_cases e : T = Sl
    · obtain ⟨o, hs⟩ := ks
      exact .inr ⟨T, f, o, k _ _ (Ne.symm a1) hh, by rw [e]; exact hs, t1, t2, t3⟩
    · exact .inr ⟨T, f, oT, k _ _ (Ne.symm a1) hh, k _ _ e ho, t1, t2, t3⟩
theorem tup_ne {h : Heap} {T Sl : Addr} {x y : Value} {acc : Array Value} {c : Nat} (t : IsTupOf2 h T x y) (hS : h.get? Sl = some { cls := .type "list", dict := none, data := .seq acc c, slots := #[] }) : T ≠ Sl := fun e => by
  subst e
  unfold IsTupOf2 at t
  rw [hS] at t
  simp at t
theorem extend_loopZ {R : Result → Shared → Prop} (S : ZipSep2 z TI TO i1 i2 fp1 fp2) (D1 : Draws prog w A.in1.in1 i1 fp1 n1 P1 St1) (D2 : Draws prog w A.in1.in1 i2 fp2 n2 P2 St2) (Sl : Addr) (B : Nat) (X : Apart B Sl z TI TO i1 i2 fp1 fp2) (res : Value) (hn : min n1 n2 ≤ sizeLine) :
    ∀ (k i : Nat) (s : Shared) (acc : Array Value) (c : Nat), min n1 n2 - i = k → i ≤ min n1 n2 → B ≤ s.heap.objs.size → ZAt z TI TO i1 i2 s.heap → IsTupOf2 s.heap TI (.ref i1) (.ref i2) → St1 i s.heap → St2 i s.heap →
    s.heap.get? Sl = some { cls := .type "list", dict := none, data := .seq acc c, slots := #[] } → PairsAt B P1 P2 s.heap i acc →
    (∀ h' tk acc' c', (∀ b o, b ≠ Sl → b ≠ z → b ≠ TO → b ≠ i1 → b ≠ i2 → s.heap.get? b = some o → h'.get? b = some o) → h'.get? Sl = some { cls := .type "list", dict := none, data := .seq acc' c', slots := #[] } → PairsAt B P1 P2 h' (min n1 n2) acc' → R (.ok (.ret res)) { s with heap := h', toks := tk }) →
    codeAny (model prog w) A (.builtin "list.extend.loop" ⟨[.ref Sl, .ref z, res], []⟩) R s := by
  have si1 : Sl ≠ i1 := fun e => X.f1 (by rw [e]; exact S.mem1)
  have si2 : Sl ≠ i2 := fun e => X.f2 (by rw [e]; exact S.mem2)
  intro k
  induction k with
  | zero =>
    intro i s acc c hk hi hB hz hTI st1 st2 hS hacc hR
    have hin : i = min n1 n2 := by omega
    refine codeAny_builtin F.entry_extend_loop ?_
    rw [Around.under_plainId F.plain_extend_loop _]
    show wpAny _ A.in1 (pyNext (.ref z) >>= _) _ _ s
    refine wpAny_bind (nextZ_end S D1 D2 hz hTI st1 st2 (by omega) (by omega) (by omega) fun h' tk kp => ?_)
    refine wpAny_pure (hR h' tk acc c (fun b o _ b1 b2 b3 b4 e => kp b o b1 b2 b3 b4 e) (kp Sl _ X.nz X.nTO si1 si2 hS) ?_)
    rw [← hin]
    exact hacc.over fun T x y hb t => kp T _ (Nat.ne_of_gt (Nat.lt_of_lt_of_le X.bz hb)) (Nat.ne_of_gt (Nat.lt_of_lt_of_le X.bT hb)) (Nat.ne_of_gt (Nat.lt_of_lt_of_le X.b1 hb)) (Nat.ne_of_gt (Nat.lt_of_lt_of_le X.b2 hb)) t
  | succ k ih =>
    intro i s acc c hk hi hB hz hTI st1 st2 hS hacc hR
    refine codeAny_builtin F.entry_extend_loop ?_
    rw [Around.under_plainId F.plain_extend_loop _]
    show wpAny _ A.in1 (pyNext (.ref z) >>= _) _ _ s
    refine wpAny_bind (nextZ_item S D1 D2 hz hTI st1 st2 (by omega) (by omega) fun x1 x2 h' tk y1 y2 hz' sn1 sn2 hT hsz kp => ?_)
    have hS' := kp Sl _ X.nz X.nTO si1 si2 hS
    have hacc' : PairsAt B P1 P2 h' i acc := hacc.over fun T x y hb t => kp T _ (Nat.ne_of_gt (Nat.lt_of_lt_of_le X.bz hb)) (Nat.ne_of_gt (Nat.lt_of_lt_of_le X.bT hb)) (Nat.ne_of_gt (Nat.lt_of_lt_of_le X.b1 hb)) (Nat.ne_of_gt (Nat.lt_of_lt_of_le X.b2 hb)) t
    have hTI' : IsTupOf2 h' TI (.ref i1) (.ref i2) := kp TI _ S.TIz S.TITO S.TIi1 S.TIi2 hTI
    show wpAny _ A.in1 (updateSeq Sl (·.push (.ref s.heap.objs.size)) >>= _) _ _ _
    refine wpAny_bind ?_
    have up : ∀ b o, b ≠ Sl → h'.get? b = some o → (h'.update Sl (Obj.mapSeq (·.push (Value.ref s.heap.objs.size)))).get? b = some o := fun b o hb e => (Heap.get?_update_other _ _ (Ne.symm hb)).trans e
    have hS2 := Heap.get?_update_self (Obj.mapSeq (·.push (Value.ref s.heap.objs.size))) hS' rfl
    refine wpAny_updateSeq (s := { s with heap := h', toks := tk }) hS' rfl (wpAny_pure ⟨plainId_quiet F.plain_extend_loop _, ih (i + 1) _ (acc.push (.ref s.heap.objs.size)) _ (by omega) (by omega) ?_ (hz'.over X.nz X.nTO up ⟨_, hS2⟩) (up _ _ (Ne.symm X.nTI) hTI')
      (D1.frame _ _ _ sn1 fun b hb o e => up b o (fun q => X.f1 (q ▸ hb)) e) (D2.frame _ _ _ sn2 fun b hb o e => up b o (fun q => X.f2 (q ▸ hb)) e) hS2 ?_ fun h'' tk' acc' c' kp' hS'' hacc'' => ?_⟩) (by rw [hacc.1]; omega) (by show (acc.push _).size ≤ sizeLine + 1; rw [Array.size_push, hacc.1]; omega)
    · show B ≤ (h'.update Sl _).objs.size
      rw [(Heap.SameBut.update (a := Sl) (h := h') (f := Obj.mapSeq (·.push (Value.ref s.heap.objs.size)))).1, hsz]
      omega
    · exact (hacc'.over fun T x y hb t => up _ _ (tup_ne t hS') t).push (up _ _ (tup_ne hT hS') hT) y1 y2 hB
    · exact hR h'' tk' acc' c' (fun b o b0 b1 b2 b3 b4 e => kp' b o b0 b1 b2 b3 b4 (up b o b0 (kp b o b1 b2 b3 b4 e))) hS'' hacc''
theorem zip_no_len : typeLookup (.type "zip") "__len__" = pure none := by rw [typeLookup_type, builtinLookup_eq_fast]; kernel_rfl
theorem zip_no_hint : typeLookup (.type "zip") "__length_hint__" = pure none := by rw [typeLookup_type, builtinLookup_eq_fast]; kernel_rfl
theorem list_init_zip {R : Result → Shared → Prop} {a0 b0 : Value} (S : ZipSep2 z TI TO i1 i2 fp1 fp2) (D1 : Draws prog w A.in1.in1 i1 fp1 n1 P1 St1) (D2 : Draws prog w A.in1.in1 i2 fp2 n2 P2 St2) (Sl : Addr) (B : Nat) (X : Apart B Sl z TI TO i1 i2 fp1 fp2) (hn : min n1 n2 ≤ sizeLine)
    (hB : B ≤ s.heap.objs.size) (hz : IsZip s.heap z TI TO .none) (hTO : IsTupOf2 s.heap TO a0 b0) (hTI : IsTupOf2 s.heap TI (.ref i1) (.ref i2)) (st1 : St1 0 s.heap) (st2 : St2 0 s.heap)
    (hS : s.heap.get? Sl = some { cls := .type "list", data := .seq #[] })
    (hR : ∀ h' tk acc' c', (∀ b o, b ≠ Sl → b ≠ z → b ≠ TO → b ≠ i1 → b ≠ i2 → s.heap.get? b = some o → h'.get? b = some o) → h'.get? Sl = some { cls := .type "list", dict := none, data := .seq acc' c', slots := #[] } → PairsAt B P1 P2 h' (min n1 n2) acc' → R (.ok (.ret .none)) { s with heap := h', toks := tk }) :
    wpAny (model prog w) A.in1 (Builtin.«list.__init__» ⟨[.ref Sl, .ref z], []⟩)
      (fun fin s' => match fin with | .done f => R (.ok f) s' | .again c' => c'.quiet = true ∧ codeAny (model prog w) A c' R s') (fun e s' => R (.error e) s') s := by
  have hSz := X.nz
  show wpAny _ A.in1 (do let old ← Builtin.List.listItems (.ref Sl); Builtin.List.listUpdate (.ref Sl) (fun _ => #[]); letGo old.toList.reverse; Builtin.List.listExtendWith (.ref Sl) (.ref z) .none) _ _ s
  refine wpAny_bind ?_
  unfold Builtin.List.listItems
  refine wpAny_bind (wpAny_seqItems hS rfl (wpAny_pure ?_))
  show wpAny _ A.in1 (updateSeq Sl (fun _ => #[]) >>= fun _ => letGo (#[] : Array Value).toList.reverse >>= fun _ => Builtin.List.listExtendWith (.ref Sl) (.ref z) .none) _ _ s
  refine wpAny_bind (wpAny_updateSeq hS rfl ?_)
  have hS₂ := Heap.get?_update_self (Obj.mapSeq (fun _ => (#[] : Array Value))) hS rfl
  have oth : ∀ b o, b ≠ Sl → s.heap.get? b = some o → (s.heap.update Sl (Obj.mapSeq (fun _ => (#[] : Array Value)))).get? b = some o :=
    fun b o hb e => (Heap.get?_update_other _ _ (Ne.symm hb)).trans e
  refine wpAny_bind (wpAny_letGo ?_)
  have sz1 : (s.heap.update Sl (Obj.mapSeq (fun _ => (#[] : Array Value)))).objs.size = s.heap.objs.size := (Heap.SameBut.update (a := Sl) (h := s.heap) (f := Obj.mapSeq (fun _ => (#[] : Array Value)))).1
  generalize hh1 : s.heap.update Sl (Obj.mapSeq (fun _ => (#[] : Array Value))) = h1 at hS₂ oth sz1 ⊢
  have hz1 : IsZip h1 z TI TO .none := oth _ _ (Ne.symm hSz) hz
  have hTI1 : IsTupOf2 h1 TI (.ref i1) (.ref i2) := oth _ _ (Ne.symm X.nTI) hTI
  have hTO1 : IsTupOf2 h1 TO a0 b0 := oth _ _ (Ne.symm X.nTO) hTO
  have t1 : St1 0 h1 := D1.frame _ _ _ st1 fun b hb o e => oth b o (fun q => X.f1 (q ▸ hb)) e
  have t2 : St2 0 h1 := D2.frame _ _ _ st2 fun b hb o e => oth b o (fun q => X.f2 (q ▸ hb)) e
  unfold Builtin.List.listExtendWith
  refine wpAny_bind (wpAny_typeOf (T := "zip") ⟨_, hz1, rfl⟩ ?_)
  have e1 : Builtin.List.listSameRef (.ref Sl) (.ref z) = false := by simp [Builtin.List.listSameRef, hSz]
  have e2 : (Value.type "zip" == Value.type "list") = false := by decide
  have e3 : (Value.type "zip" == Value.type "tuple") = false := by decide
  simp only [e1, e2, e3, Bool.or_false, Bool.false_eq_true, if_false]
  refine wpAny_bind (wpAny_pyIter_zip (s := { s with heap := h1 }) hz1 ?_)
  refine wpAny_bind (wpAny_holding ?_)
  unfold Builtin.List.listLengthHint
  refine wpAny_bind (wpAny_specialOf (s := { s with heap := h1 }) (T := "zip") ⟨_, hz1, rfl⟩ zip_no_len ?_)
  show wpAny _ A.in1 (specialOf (Value.ref z) (Str.ofString "__length_hint__") >>= _) _ _ _
  refine wpAny_bind (wpAny_specialOf (s := { s with heap := h1 }) (T := "zip") ⟨_, hz1, rfl⟩ zip_no_hint ?_)
  refine wpAny_pure ?_
  show wpAny _ A.in1 (rule "list.extend.makes-room" >>= fun _ => Builtin.List.listTouch (.ref Sl) >>= fun _ =>
    again (.builtin "list.extend.loop" ⟨[.ref Sl, .ref z, .none], []⟩)) _ _ _
  refine wpAny_bind (wpAny_rule ?_)
  refine wpAny_bind ?_
  show wpAny _ A.in1 (updateSeq Sl (·.push .none) >>= fun _ => updateSeq Sl (·.pop)) _ _ _
  refine wpAny_bind (wpAny_updateSeq (s := { s with heap := h1 }) hS₂ rfl ?_)
  have hS3 := Heap.get?_update_self (Obj.mapSeq (·.push Value.none)) hS₂ rfl
  refine wpAny_updateSeq (hz := by seq_fits) hS3 rfl ?_
  have hS4 := Heap.get?_update_self (Obj.mapSeq (·.pop)) hS3 rfl
  have oth4 : ∀ b o, b ≠ Sl → h1.get? b = some o → ((h1.update Sl (Obj.mapSeq (·.push Value.none))).update Sl (Obj.mapSeq (·.pop))).get? b = some o :=
    fun b o hb e => (Heap.get?_update_other _ _ (Ne.symm hb)).trans ((Heap.get?_update_other _ _ (Ne.symm hb)).trans e)
  have sz4 : ((h1.update Sl (Obj.mapSeq (·.push Value.none))).update Sl (Obj.mapSeq (·.pop))).objs.size = h1.objs.size :=
    (Heap.SameBut.update (a := Sl) (h := h1.update Sl (Obj.mapSeq (·.push Value.none))) (f := Obj.mapSeq (·.pop))).1.trans (Heap.SameBut.update (a := Sl) (h := h1) (f := Obj.mapSeq (·.push Value.none))).1
  refine wpAny_pure ⟨plainId_quiet F.plain_extend_loop _, extend_loopZ S D1 D2 Sl B X .none hn _ 0 _ _ _ rfl (Nat.zero_le _) (by show B ≤ ((h1.update Sl _).update Sl _).objs.size; rw [sz4, sz1]; exact hB)
    ((ZAt.over (h := h1) (.inl ⟨hz1, a0, b0, hTO1⟩) X.nz X.nTO oth4 ⟨_, hS4⟩)) (oth4 _ _ (Ne.symm X.nTI) hTI1) (D1.frame _ _ _ t1 fun b hb o e => oth4 b o (fun q => X.f1 (q ▸ hb)) e) (D2.frame _ _ _ t2 fun b hb o e => oth4 b o (fun q => X.f2 (q ▸ hb)) e) hS4 ⟨rfl, fun j hj => absurd hj (Nat.not_lt_zero j)⟩ fun h' tk acc' c' kp hS' hacc => ?_⟩
  exact hR h' tk acc' c' (fun b o b0 b1 b2 b3 b4 e => kp b o b0 b1 b2 b3 b4 (oth4 b o b0 (oth b o b0 e))) hS' hacc
theorem call_list_zip {Q : Value → Shared → Prop} {a0 b0 : Value} (S : ZipSep2 z TI TO i1 i2 fp1 fp2) (D1 : Draws prog w A.in1.in1.in1 i1 fp1 n1 P1 St1) (D2 : Draws prog w A.in1.in1.in1 i2 fp2 n2 P2 St2) (hn : min n1 n2 ≤ sizeLine)
    (hz : IsZip s.heap z TI TO .none) (hTO : IsTupOf2 s.heap TO a0 b0) (hTI : IsTupOf2 s.heap TI (.ref i1) (.ref i2)) (st1 : St1 0 s.heap) (st2 : St2 0 s.heap) (hf1 : ∀ b ∈ fp1, b < s.heap.objs.size) (hf2 : ∀ b ∈ fp2, b < s.heap.objs.size)
    (hQ : ∀ h' tk acc' c', (∀ b o, b ≠ z → b ≠ TO → b ≠ i1 → b ≠ i2 → s.heap.get? b = some o → h'.get? b = some o) → h'.get? s.heap.objs.size = some { cls := .type "list", dict := none, data := .seq acc' c', slots := #[] } → PairsAt (s.heap.objs.size + 1) P1 P2 h' (min n1 n2) acc' → Q (.ref s.heap.objs.size) { s with heap := h', toks := tk }) :
    wpAny (model prog w) A (call (.type "list") [.ref z]) Q E s := by
  have lz : z < s.heap.objs.size := Heap.lt_size hz
  have lTI : TI < s.heap.objs.size := Heap.lt_size hTI
  have lTO : TO < s.heap.objs.size := Heap.lt_size hTO
  have l1 := hf1 _ S.mem1
  have l2 := hf2 _ S.mem2
  refine callType_codes (Q₁ := fun obj s₁ => obj = .ref s.heap.objs.size ∧ s₁ = { s with heap := s.heap.push { cls := .type "list", data := .seq #[] } }) F.called_list (F.typeCall_list_1 _) F.entry_list_init
    (code_list_new _ ⟨rfl, rfl⟩) fun obj s₁ h₁ => ?_
  obtain ⟨rfl, rfl⟩ := h₁
  have hS : (s.heap.push { cls := .type "list", data := .seq #[] }).get? s.heap.objs.size = some { cls := .type "list", data := .seq #[] } := Heap.get?_push_size _ rfl
  have up : ∀ b o, s.heap.get? b = some o → (s.heap.push { cls := .type "list", data := .seq #[] }).get? b = some o := fun b o e => Heap.get?_push_of_some _ e
  refine ⟨⟨_, hS, rfl⟩, F.args_list_init_2 _ _, list_init_zip (A := A.in1) S D1 D2 s.heap.objs.size (s.heap.objs.size + 1) ⟨Nat.ne_of_gt lz, Nat.ne_of_gt lTI, Nat.ne_of_gt lTO, fun q => Nat.lt_irrefl _ (hf1 _ q), fun q => Nat.lt_irrefl _ (hf2 _ q), Nat.lt_succ_of_lt lz, Nat.lt_succ_of_lt lTO, Nat.lt_succ_of_lt l1, Nat.lt_succ_of_lt l2⟩ hn
    (by show _ ≤ (s.heap.push _).objs.size; rw [Heap.size_push]; exact Nat.le_refl _) (up _ _ hz) (up _ _ hTO) (up _ _ hTI) (D1.frame _ _ _ st1 fun b _ o e => up b o e) (D2.frame _ _ _ st2 fun b _ o e => up b o e) hS fun h' tk acc' c' kp hS' hacc => ?_⟩
  exact ⟨rfl, hQ h' tk acc' c' (fun b o b1 b2 b3 b4 e => kp b o (Nat.ne_of_lt (Heap.lt_size e)) b1 b2 b3 b4 (up b o e)) hS' hacc⟩
end
theorem lt_of_some' {α : Type} {l : List α} {i : Nat} {x : α} (h : l[i]? = some x) : i < l.length := (List.getElem?_eq_some_iff.mp h).1
/-! ### the rule -/
def tLstZ (K : PySem.W.Frag) (t : TA) : TE := fun σ H Q => t σ H fun vs H1 => ∃ a b xs ys, vs = [.ref a, .ref b] ∧ ((SqL K H1 a xs ∧ SqL K H1 b ys) ∨ (SqT K H1 a xs ∧ SqT K H1 b ys)) ∧
  ∀ (H' : Hp) (l : Addr) (Ts : List Addr), (∀ a o, H1 a = some o → H' a = some o) → H1 l = none → H' l = some (.lst (Ts.map V.ref)) → Ts.length = min xs.length ys.length →
    (∀ (j : Nat) (T : Addr), Ts[j]? = some T → H1 T = none ∧ T ≠ l ∧ ∃ x y, xs[j]? = some x ∧ ys[j]? = some y ∧ H' T = some (.tup [x, y])) → Q (.ref l) H'
section
variable {X : Cx} {pins : List (Addr × Obj)} {σ : L2.St} {H : Hp} {s : Shared}
/-- many new things at once -/
theorem Inv.many {H' : Hp} {h' : Heap} {tk : Nat} (I : Inv X pins σ H s) (k : ∀ b u, s.heap.get? b = some u → h'.get? b = some u) (old : ∀ a o, H a = some o → H' a = some o) (new : ∀ a o, H' a = some o → H a = some o ∨ s.heap.objs.size ≤ a)
    (ok : ∀ a o, H' a = some o → H a = none → ObjOk X.prog X.w H' h' a o) : Inv X pins σ H' { s with heap := h', toks := tk } := by
  have hno : ∀ b o, s.heap.get? b = some o → H b = none → H' b = none := fun b o e n => by
    cases q : H' b with
    | none => rfl
    | some u =>
      rcases new b u q with z | z
      · rw [n] at z; cases z
      · exact absurd (Nat.lt_of_lt_of_le (Heap.lt_size e) z) (Nat.lt_irrefl _)
  refine I.un ⟨fun b o e _ _ _ => k b o e, fun b o e _ _ _ => ⟨o.slots, k b o e⟩, fun b o e n _ => hno b o e n, fun b o e _ => ⟨o, k b o e⟩, fun b xs e => old b _ e, fun b o u e => old b _ e, fun b ps e => ⟨#[], by rw [old b _ e]; simp⟩⟩ fun a o e => ?_
  cases q : H a with
  | none => exact ok a o e q
  | some u =>
    have := old a u q
    rw [e] at this
    cases this
    exact (I.hok a o q).stay (fun b u _ z => k b u z) (fun b z => old b _ z) fun b xs z => old b _ z
def refOf : Value → Addr
  | .ref a => a
  | _ => 0
theorem zip_fin {xs ys : List V} {its its2 : List Value} {h' : Heap} {tk : Nat} {l B : Addr} {acc : Array Value} {c : Nat} {Q : VK} (I : Inv X pins σ H s) (rx : Vals xs its) (ry : Vals ys its2) (hz : xs.length ≤ sizeLine)
    (k : ∀ b u, s.heap.get? b = some u → h'.get? b = some u) (hl : s.heap.objs.size ≤ l) (hB : l < B) (hS : h'.get? l = some { cls := .type "list", dict := none, data := .seq acc c, slots := #[] })
    (hacc : PairsAt B (fun j v => its.toArray[j]? = some v) (fun j v => its2.toArray[j]? = some v) h' (min its.toArray.size its2.toArray.size) acc)
    (q : ∀ (H' : Hp) (l : Addr) (Ts : List Addr), (∀ a o, H a = some o → H' a = some o) → H l = none → H' l = some (.lst (Ts.map V.ref)) → Ts.length = min xs.length ys.length →
      (∀ (j : Nat) (T : Addr), Ts[j]? = some T → H T = none ∧ T ≠ l ∧ ∃ x y, xs[j]? = some x ∧ ys[j]? = some y ∧ H' T = some (.tup [x, y])) → Q (.ref l) H') :
    EP X pins σ Q (.ref l) { s with heap := h', toks := tk } := by
  obtain ⟨hsz, hp⟩ := hacc
  have hm : min its.toArray.size its2.toArray.size = min xs.length ys.length := by rw [List.size_toArray, List.size_toArray, rx.length, ry.length]
  rw [hm] at hsz hp
  let m := min xs.length ys.length
  let Ts : List Addr := acc.toList.map refOf
  have tl : Ts.length = m := by
    show (acc.toList.map refOf).length = m
    rw [List.length_map, Array.length_toList, hsz]
  -- the pairs
  have pr : ∀ (j : Nat) (T : Addr), Ts[j]? = some T → ∃ x y u v, xs[j]? = some x ∧ ys[j]? = some y ∧ RelV x u ∧ RelV y v ∧ IsTupOf2 h' T u v ∧ B ≤ T ∧ acc[j]? = some (.ref T) := by
    intro j T hj
    have hj2 : j < m := by rw [← tl]; exact lt_of_some' hj
    obtain ⟨T', u, v, e, t, p1, p2, b⟩ := hp j hj2
    have : Ts[j]? = some T' := by
      show (acc.toList.map refOf)[j]? = _
      rw [List.getElem?_map, Array.getElem?_toList, e]; rfl
    rw [this] at hj
    cases hj
    have l1 : j < xs.length := by have : m ≤ xs.length := Nat.min_le_left _ _; omega
    have l2 : j < ys.length := by have : m ≤ ys.length := Nat.min_le_right _ _; omega
    obtain ⟨u', a1, a2⟩ := rx.get (i := j) (x := xs[j]) (by simp [l1])
    obtain ⟨v', c1, c2⟩ := ry.get (i := j) (x := ys[j]) (by simp [l2])
    have p1 : its.toArray[j]? = some u := p1
    have p2 : its2.toArray[j]? = some v := p2
    rw [List.getElem?_toArray, a1] at p1
    rw [List.getElem?_toArray, c1] at p2
    cases p1
    cases p2
    exact ⟨xs[j], ys[j], _, _, by simp [l1], by simp [l2], a2, c2, t, b, e⟩
  let ps : List (Addr × V × V) := Ts.zip (xs.zip ys)
  let H' : Hp := fun a => if a = l then some (.lst (Ts.map V.ref)) else match ps.find? (fun p => p.1 == a) with
    | some p => some (.tup [p.2.1, p.2.2])
    | none => H a
  have ps_at : ∀ p ∈ ps, ∃ j : Nat, Ts[j]? = some p.1 ∧ xs[j]? = some p.2.1 ∧ ys[j]? = some p.2.2 := by
    intro p hp
    obtain ⟨j, hj⟩ := List.mem_iff_getElem?.mp hp
    have h1 := List.getElem?_zip_eq_some.mp hj
    have h2 := List.getElem?_zip_eq_some.mp h1.2
    exact ⟨j, h1.1, h2.1, h2.2⟩
  have far : ∀ a, a < s.heap.objs.size → H' a = H a := by
    intro a ha
    have hal : a ≠ l := Nat.ne_of_lt (Nat.lt_of_lt_of_le ha hl)
    have hf : ps.find? (fun p => p.1 == a) = none := by
      rw [List.find?_eq_none]
      intro p hp2 e
      obtain ⟨j, q1, _, _⟩ := ps_at p hp2
      obtain ⟨_, _, _, _, _, _, _, _, _, b, _⟩ := pr j p.1 q1
      have e2 : p.1 = a := by simpa using e
      rw [e2] at b
      exact absurd (Nat.lt_of_lt_of_le (Nat.lt_of_le_of_lt hl hB) b) (Nat.not_lt_of_lt ha)
    show (if a = l then _ else _) = _
    rw [if_neg hal, hf]
  have old : ∀ a o, H a = some o → H' a = some o := fun a o e => by rw [far a (I.hok.lt e)]; exact e
  have atL : H' l = some (.lst (Ts.map V.ref)) := if_pos rfl
  have atT : ∀ (j : Nat) (T : Addr), Ts[j]? = some T → H T = none ∧ T ≠ l ∧ ∃ x y, xs[j]? = some x ∧ ys[j]? = some y ∧ H' T = some (.tup [x, y]) := by
    intro j T hj
    obtain ⟨x, y, u, v, h1, h2, r1, r2, t, b, _⟩ := pr j T hj
    have hT : T ≠ l := Nat.ne_of_gt (Nat.lt_of_lt_of_le hB b)
    refine ⟨I.hok.fresh (Nat.le_trans hl (Nat.le_of_lt (Nat.lt_of_lt_of_le hB b))), hT, x, y, h1, h2, ?_⟩
    show (if T = l then _ else _) = _
    rw [if_neg hT]
    have ex : ∃ p, ps.find? (fun p => p.1 == T) = some p := by
      have hmem : (T, x, y) ∈ ps := by
        refine List.mem_iff_getElem?.mpr ⟨j, ?_⟩
        exact (List.getElem?_zip_eq_some (z := (T, x, y))).mpr ⟨hj, (List.getElem?_zip_eq_some (z := (x, y))).mpr ⟨h1, h2⟩⟩
      cases e : ps.find? (fun p => p.1 == T) with
      | some p => exact ⟨p, rfl⟩
      | none =>
        rw [List.find?_eq_none] at e
        exact absurd (by simp) (e _ hmem)
    obtain ⟨p, e⟩ := ex
    rw [e]
    have e1 : p.1 = T := by
      have := List.find?_some e
      simpa using this
    obtain ⟨j2, q1, q2, q3⟩ := ps_at p (List.mem_of_find?_eq_some e)
    obtain ⟨x2, y2, u2, v2, h1', h2', r1', r2', t', _, _⟩ := pr j2 p.1 q1
    rw [q2] at h1'
    rw [q3] at h2'
    cases h1'
    cases h2'
    rw [e1] at t'
    unfold IsTupOf2 at t t'
    rw [t] at t'
    have e3 : (#[u, v] : Array Value) = #[u2, v2] := by
      have := Option.some.inj t'
      simpa using this
    have e4 : u = u2 ∧ v = v2 := by simpa using e3
    rw [← e4.1] at r1'
    rw [← e4.2] at r2'
    show some (HO.tup [p.2.1, p.2.2]) = _
    rw [r1.inj r1', r2.inj r2']
  refine ⟨.ref l, H', Inv.many I k old (fun a o e => ?_) (fun a o e n => ?_), rfl, q H' l Ts old (I.hok.fresh hl) atL tl atT⟩
  · by_cases h : a < s.heap.objs.size
    · rw [far a h] at e; exact .inl e
    · exact .inr (Nat.le_of_not_lt h)
  · by_cases hal : a = l
    · subst hal
      rw [atL] at e
      cases e
      refine ⟨by rw [List.length_map, tl]; have : m ≤ xs.length := Nat.min_le_left _ _; omega, acc.toList, c, ?_, by rw [Array.toArray_toList]; exact hS⟩
      have el : acc.toList = Ts.map Value.ref := by
        apply List.ext_getElem?
        intro j
        rw [Array.getElem?_toList, List.getElem?_map]
        by_cases hj : j < m
        · have : ∃ T, Ts[j]? = some T := ⟨Ts[j], by simp [tl, hj]⟩
          obtain ⟨T, hT⟩ := this
          obtain ⟨_, _, _, _, _, _, _, _, _, _, e⟩ := pr j T hT
          rw [e, hT]; rfl
        · rw [Array.getElem?_eq_none (by rw [hsz]; exact Nat.le_of_not_lt hj), List.getElem?_eq_none (by rw [tl]; exact Nat.le_of_not_lt hj)]; rfl
      rw [el]
      clear el atT atL far old ps_at pr
      generalize Ts = L
      induction L with
      | nil => exact .nil
      | cons T L ih => exact .cons rfl ih
    · have e' := e
      have : H' a = (match ps.find? (fun p => p.1 == a) with
        | some p => some (.tup [p.2.1, p.2.2])
        | none => H a) := if_neg hal
      rw [this] at e
      split at e
      · rename_i p hp2
        cases e
        have e1 : p.1 = a := by
          have := List.find?_some hp2
          simpa using this
        obtain ⟨j, q1, q2, q3⟩ := ps_at p (List.mem_of_find?_eq_some hp2)
        obtain ⟨x2, y2, u2, v2, h1', h2', r1', r2', t', _, _⟩ := pr j p.1 q1
        rw [q2] at h1'
        rw [q3] at h2'
        cases h1'
        cases h2'
        rw [e1] at t'
        exact ⟨by show 2 ≤ sizeLine; decide, [u2, v2], .cons r1' (.cons r2' .nil), ⟨_, t', rfl, _, rfl⟩⟩
      · rw [n] at e; cases e
theorem ne_add {n j k : Nat} (h : j ≠ k) : n + j ≠ n + k := fun e => h (Nat.add_left_cancel e)
theorem nmem {x n a : Nat} (h1 : x ≠ n) (h2 : x ≠ a) : x ∉ [n, a] := by simp [h1, h2]
theorem sep_nat {n a b : Nat} (ha : a < n) (hb : b < n) : ZipSep2 (n + 4) (n + 2) (n + 3) n (n + 1) [n, a] [n + 1, b] := by
  have k : ∀ (j : Nat), a ≠ n + j ∧ b ≠ n + j := fun j => ⟨Nat.ne_of_lt (Nat.lt_of_lt_of_le ha (Nat.le_add_right _ _)), Nat.ne_of_lt (Nat.lt_of_lt_of_le hb (Nat.le_add_right _ _))⟩
  exact { TIz := ne_add (by decide), TOz := ne_add (by decide), TITO := ne_add (by decide), TIi1 := ne_add (j := 2) (k := 0) (by decide), mem1 := List.mem_cons_self, zf1 := nmem (ne_add (j := 4) (k := 0) (by decide)) (Ne.symm (k 4).1), Tf1 := nmem (ne_add (j := 3) (k := 0) (by decide)) (Ne.symm (k 3).1),
          TIi2 := ne_add (by decide), mem2 := List.mem_cons_self, zf2 := nmem (ne_add (by decide)) (Ne.symm (k 4).2), Tf2 := nmem (ne_add (by decide)) (Ne.symm (k 3).2), sep1_2 := nmem (ne_add (j := 0) (k := 1) (by decide)) (Ne.symm (k 0).2), sep2_1 := nmem (ne_add (j := 1) (k := 0) (by decide)) (Ne.symm (k 1).1) }
theorem two_lt {n a b c : Nat} (hc : c = n ∨ c = a) (ha : a < n) : c < n + 5 := by omega
theorem two_lt' {n a c : Nat} (hc : c = n + 1 ∨ c = a) (ha : a < n) : c < n + 5 := by omega
theorem pe_listZip {a b : Expr} {t : TA} {p p2 pos pos2 : Pos} (hc : X.calm = true) (hgl : Gl X "list") (hml : X.mg "list" = none) (hgz : Gl X "zip") (hmz : X.mg "zip" = none) (ha : PA X [a, b] t)
    (hs : starEach [a, b] X.env = (false, eval a X.env) :: starEach [b] X.env) (hpl : (backTo pos2 (starEach [b] X.env)).any (·.1) = false) :
    PE X (.Call (.Name "list" p) [.Call (.Name "zip" p2) [a, b] [] pos2] [] pos) (tLstZ X.K t) := by
  refine ⟨fun pins s σ H Q I h => ?_⟩
  refine Call_ (ld_blt I hgl hml PyProof.Rows.boot_list ?_)
  refine PyProof.Rows.callWith_type1 (PyProof.Rows.args_cons ?_ rfl) rfl rfl
  refine Call_ (ld_blt I hgz hmz PyProof.Rows.boot_zip (PyProof.Rows.callWith_type1 (thn (ha.run pos2 pins s σ H _ I h) fun us s1 ⟨vs, H1, I1, r1, q1⟩ => ?_) hs hpl))
  obtain ⟨aa, bb, xs, ys, ex, hq, q⟩ := q1
  subst ex
  cases r1 with
  | cons r rr =>
    cases rr with
    | cons r' rr =>
      cases rr
      cases r
      cases r'
      have hh : X.A.in1.in1.in1.handled = none := I1.ok.hd hc
      rcases hq with ⟨hqx, hqy⟩ | ⟨hqx, hqy⟩
      · obtain ⟨its, rv, p1, hz1⟩ := I1.list hqx
        obtain ⟨its2, rv2, p22, hz2⟩ := I1.list hqy
        have la := p1.lt
        have lb := p22.lt
        refine call_zip_2 p1.isList p22.isList fun h' hz hTI hTO h1 h2 hsz hk => ?_
        refine PyProof.Rows.args_nil ?_
        refine call_list_zip (s := { s1 with heap := h' }) (fp1 := [s1.heap.objs.size, aa]) (fp2 := [s1.heap.objs.size + 1, bb]) (n1 := its.toArray.size) (n2 := its2.toArray.size)
          (sep_nat la lb)
          (Draws.list (A := X.A.in1.in1.in1) hh _ aa (Nat.ne_of_lt la) its.toArray) (Draws.list (A := X.A.in1.in1.in1) hh (s1.heap.objs.size + 1) bb (Nat.ne_of_lt (Nat.lt_succ_of_lt lb)) its2.toArray) (by rw [List.size_toArray, ← rv.length]; exact Nat.le_trans (Nat.min_le_left _ _) hz1)
          hz hTO hTI ⟨h1, Heap.IsList.at p1.isList fun o e => hk _ o e⟩ ⟨h2, Heap.IsList.at p22.isList fun o e => hk _ o e⟩ (fun b hb => ?_) (fun b hb => ?_) fun h'' tk acc c kp hS hacc => ?_
        · show b < h'.objs.size
          rw [hsz]
          exact two_lt (b := 0) (by simpa using hb) la
        · show b < h'.objs.size
          rw [hsz]
          exact two_lt' (by simpa using hb) lb
        · have e5 : ({ s1 with heap := h' } : Shared).heap.objs.size = s1.heap.objs.size + 5 := hsz
          rw [e5] at hS hacc ⊢
          refine zip_fin (s := s1) (B := s1.heap.objs.size + 5 + 1) I1 rv rv2 hz1 (fun b u e => ?_) (by omega) (Nat.lt_succ_self _) hS hacc q
          have lt := Heap.lt_size e
          exact kp b u (Nat.ne_of_lt (Nat.lt_add_right _ lt)) (Nat.ne_of_lt (Nat.lt_add_right _ lt)) (Nat.ne_of_lt lt) (Nat.ne_of_lt (Nat.lt_add_right _ lt)) (hk b u e)
      · obtain ⟨its, rv, p1, hz1⟩ := I1.tuple hqx
        obtain ⟨its2, rv2, p22, hz2⟩ := I1.tuple hqy
        have t1 : s1.heap.IsTuple aa its.toArray := p1
        have t2 : s1.heap.IsTuple bb its2.toArray := p22
        have la : aa < s1.heap.objs.size := by obtain ⟨o, e, _⟩ := t1; exact Heap.lt_size e
        have lb : bb < s1.heap.objs.size := by obtain ⟨o, e, _⟩ := t2; exact Heap.lt_size e
        refine RZ.call_zipT t1 t2 fun h' hz hTI hTO h1 h2 hsz hk => ?_
        refine PyProof.Rows.args_nil ?_
        refine call_list_zip (s := { s1 with heap := h' }) (fp1 := [s1.heap.objs.size, aa]) (fp2 := [s1.heap.objs.size + 1, bb]) (n1 := its.toArray.size) (n2 := its2.toArray.size)
          (sep_nat la lb)
          (Draws.tuple (A := X.A.in1.in1.in1) hh _ aa (Nat.ne_of_lt la) its.toArray) (Draws.tuple (A := X.A.in1.in1.in1) hh (s1.heap.objs.size + 1) bb (Nat.ne_of_lt (Nat.lt_succ_of_lt lb)) its2.toArray) (by rw [List.size_toArray, ← rv.length]; exact Nat.le_trans (Nat.min_le_left _ _) hz1)
          hz hTO hTI ⟨h1, Heap.IsTuple.at t1 fun o e => hk _ o e⟩ ⟨h2, Heap.IsTuple.at t2 fun o e => hk _ o e⟩ (fun b hb => ?_) (fun b hb => ?_) fun h'' tk acc c kp hS hacc => ?_
        · show b < h'.objs.size
          rw [hsz]
          exact two_lt (b := 0) (by simpa using hb) la
        · show b < h'.objs.size
          rw [hsz]
          exact two_lt' (by simpa using hb) lb
        · have e5 : ({ s1 with heap := h' } : Shared).heap.objs.size = s1.heap.objs.size + 5 := hsz
          rw [e5] at hS hacc ⊢
          refine zip_fin (s := s1) (B := s1.heap.objs.size + 5 + 1) I1 rv rv2 hz1 (fun b u e => ?_) (by omega) (Nat.lt_succ_self _) hS hacc q
          have lt := Heap.lt_size e
          exact kp b u (Nat.ne_of_lt (Nat.lt_add_right _ lt)) (Nat.ne_of_lt (Nat.lt_add_right _ lt)) (Nat.ne_of_lt lt) (Nat.ne_of_lt (Nat.lt_add_right _ lt)) (hk b u e)
end
end Pyv
end
/-! ## Pyv7 -/
section
set_option maxRecDepth 100000
set_option maxHeartbeats 4000000
/-! Pyv 7: sources, targets, comprehensions. -/
namespace Pyv
open PySem PySem.Spec PyProof.Rows L2

section
variable {K : PySem.W.Frag} {call : Nat → List W → DS → RF} {gl : List PyData} {ms : Ms} {R : Addr → Prop} {Z H H' : Hp} {σ : L2.St} {c c' : Cfg} {A B : Addr → Prop}

/-! ### sources -/
/-- a sequence that stays: a list, a tuple -/
def SeqOk (K : PySem.W.Frag) (A B : Addr → Prop) (H : Hp) (a : Addr) (vs : List V) (lst : Bool) (ds : List PyData) : Prop :=
  (if lst = true then SqL K H a vs else SqT K H a vs) ∧ Reps K A H vs ds ∧ ∀ H2, (∀ a o, H a = some o → B a → H2 a = some o) → if lst = true then SqL K H2 a vs else SqT K H2 a vs
theorem seqOk_list {p : Addr} {vs : List V} {ds : List PyData} (h : H p = some (.lst vs)) (b : B p) (r : Reps K A H vs ds) : SeqOk K A B H p vs true ds :=
  ⟨SqL.of h, r, fun H2 k => SqL.of (k p _ h b)⟩
theorem seqOk_tup (hAB : ∀ a, ¬ A a → B a) {v : V} {ds : List PyData} (r : Rep K A H v (.tuple ds)) : ∃ a vs, v = .ref a ∧ SeqOk K A B H a vs false ds := by
  cases r with
  | tup e n q => exact ⟨_, _, rfl, SqT.of e, q, fun H2 k => SqT.of (k _ _ e (hAB _ n))⟩
  | tupK e1 e2 e3 e4 e5 q => exact ⟨_, _, rfl, .inr ⟨_, _, _, e1, e2, e3, e4, e5⟩, q, fun H2 k => .inr ⟨_, _, _, e1, e2, e3, e4, e5⟩⟩
theorem Reps.at {vs : List V} {ds : List PyData} (r : Reps K A H vs ds) {i : Nat} {v : V} (h : vs[i]? = some v) : ∃ d, ds[i]? = some d ∧ Rep K A H v d := r.get h
theorem srcOk_list {a : Addr} {vs : List V} {ds : List PyData} (h : SeqOk K A B H a vs true ds) : SrcOk K A B H (Itl K a) ds := by
  obtain ⟨h1, h2, h3⟩ := h
  refine ⟨fun H2 => SqL K H2 a vs, ?_, fun H2 k => h3 H2 k⟩
  rw [← h2.length]
  exact walk_list.mono (fun _ q => q) fun i H1 x H2 _ _ y => .inl ⟨y.1, h2.at y.2⟩
theorem srcOk_tup {a : Addr} {vs : List V} {ds : List PyData} (h : SeqOk K A B H a vs false ds) : SrcOk K A B H (Itt K a) ds := by
  obtain ⟨h1, h2, h3⟩ := h
  refine ⟨fun H2 => SqT K H2 a vs, ?_, fun H2 k => h3 H2 k⟩
  rw [← h2.length]
  exact walk_tup.mono (fun _ q => q) fun i H1 x H2 _ _ y => .inl ⟨y.1, h2.at y.2⟩
theorem srcOk_range {lo : Int} {n : Nat} : SrcOk K A B H (Itr lo n) ((List.range n).map fun i => PyData.int (lo + (i : Nat))) := by
  refine ⟨fun _ => True, ?_, fun _ _ => trivial⟩
  rw [List.length_map, List.length_range]
  refine walk_range.mono (fun _ q => q) fun i H1 x H2 hi _ y => .inl ⟨y.1, .int (lo + (i : Nat)), ?_, ?_⟩
  · rw [List.getElem?_map, List.getElem?_range hi]; rfl
  · rw [y.2]; exact .int
theorem zip_at {xs ys : List PyData} {i : Nat} {x y : PyData} (h1 : xs[i]? = some x) (h2 : ys[i]? = some y) : (zipL xs ys)[i]? = some (.tuple [x, y]) := by
  unfold zipL
  rw [List.getElem?_map, (List.getElem?_zip_eq_some (z := (x, y))).mpr ⟨h1, h2⟩]; rfl
theorem zip_length {xs ys : List PyData} : (zipL xs ys).length = min xs.length ys.length := by
  unfold zipL
  rw [List.length_map, List.length_zip]
theorem enum_at {xs : List PyData} {i : Nat} {x : PyData} (h1 : xs[i]? = some x) : (enumL xs)[i]? = some (.tuple [.int (i : Nat), x]) := by
  unfold enumL
  have hi := lt_of_some h1
  rw [List.getElem?_map, (List.getElem?_zip_eq_some (z := (i, x))).mpr ⟨List.getElem?_range hi, h1⟩]; rfl
theorem enum_length {xs : List PyData} : (enumL xs).length = xs.length := by
  unfold enumL
  rw [List.length_map, List.length_zip, List.length_range, Nat.min_self]
theorem yPair_YE {items : List PyData} {xs ys : Nat → Option V} {i : Nat} {H1 H2 : Hp} {v : V} (y : YPair xs ys i H1 v H2)
    (h : ∀ x y, xs i = some x → ys i = some y → ∃ dx dy, items[i]? = some (.tuple [dx, dy]) ∧ Rep K A H x dx ∧ Rep K A H y dy) : YE K items A H i H1 v H2 := by
  obtain ⟨T, x, y', h1, h2, h3, h4, h5⟩ := y
  obtain ⟨dx, dy, q1, q2, q3⟩ := h x y' h4 h5
  exact .inr ⟨T, x, y', dx, dy, h1, h2, h3, q1, q2, q3⟩
theorem srcOk_zip {a b : Addr} {vs us : List V} {ds es : List PyData} (h : SeqOk K A B H a vs true ds) (h' : SeqOk K A B H b us true es) : SrcOk K A B H (Itz K a b) (zipL ds es) := by
  obtain ⟨h1, h2, h3⟩ := h
  obtain ⟨h1', h2', h3'⟩ := h'
  refine ⟨fun H2 => SqL K H2 a vs ∧ SqL K H2 b us, ?_, fun H2 k => ⟨h3 H2 k, h3' H2 k⟩⟩
  rw [zip_length, ← h2.length, ← h2'.length]
  refine (walk_zip rfl).mono (fun _ q => q) fun i H1 x H2 _ _ y => yPair_YE y fun p q hp hq => ?_
  obtain ⟨d, e1, r1⟩ := h2.at hp
  obtain ⟨e, e2, r2⟩ := h2'.at hq
  exact ⟨d, e, zip_at e1 e2, r1, r2⟩
theorem srcOk_zipT {a b : Addr} {vs us : List V} {ds es : List PyData} (h : SeqOk K A B H a vs false ds) (h' : SeqOk K A B H b us false es) : SrcOk K A B H (RZ.ItzT K a b) (zipL ds es) := by
  obtain ⟨h1, h2, h3⟩ := h
  obtain ⟨h1', h2', h3'⟩ := h'
  refine ⟨fun H2 => SqT K H2 a vs ∧ SqT K H2 b us, ?_, fun H2 k => ⟨h3 H2 k, h3' H2 k⟩⟩
  rw [zip_length, ← h2.length, ← h2'.length]
  refine (walk_zipT rfl).mono (fun _ q => q) fun i H1 x H2 _ _ y => yPair_YE y fun p q hp hq => ?_
  obtain ⟨d, e1, r1⟩ := h2.at hp
  obtain ⟨e, e2, r2⟩ := h2'.at hq
  exact ⟨d, e, zip_at e1 e2, r1, r2⟩
theorem srcOk_enum {a : Addr} {vs : List V} {ds : List PyData} (h : SeqOk K A B H a vs true ds) : SrcOk K A B H (Ite K a) (enumL ds) := by
  obtain ⟨h1, h2, h3⟩ := h
  refine ⟨fun H2 => SqL K H2 a vs, ?_, fun H2 k => h3 H2 k⟩
  rw [enum_length, ← h2.length]
  refine walk_enum.mono (fun _ q => q) fun i H1 x H2 _ _ y => yPair_YE y fun p q hp hq => ?_
  cases hp
  obtain ⟨d, e1, r1⟩ := h2.at hq
  exact ⟨_, d, enum_at e1, .int, r1⟩
theorem srcOk_enumT {a : Addr} {vs : List V} {ds : List PyData} (h : SeqOk K A B H a vs false ds) : SrcOk K A B H (IteT K a) (enumL ds) := by
  obtain ⟨h1, h2, h3⟩ := h
  refine ⟨fun H2 => SqT K H2 a vs, ?_, fun H2 k => h3 H2 k⟩
  rw [enum_length, ← h2.length]
  refine walk_enumT.mono (fun _ q => q) fun i H1 x H2 _ _ y => yPair_YE y fun p q hp hq => ?_
  cases hp
  obtain ⟨d, e1, r1⟩ := h2.at hq
  exact ⟨_, d, enum_at e1, .int, r1⟩
/-- what stays: a list that is read may be somebody's own -/
abbrev Bs (ms : Ms) (R : Addr → Prop) (σ : L2.St) (ρ : List (Option W)) (rd : Bool) (a : Addr) : Prop := if rd = true then ¬ ms.at_ a else ¬ Res ms R σ ρ a
theorem bs_of {rd : Bool} {ρ : List (Option W)} (a : Addr) (h : ¬ Res ms R σ ρ a) : Bs ms R σ ρ rd a := by
  unfold Bs
  split
  · exact fun z => h (.inr (.inr z))
  · exact h
/-- a value as a sequence -/
theorem seq_of {v : V} {w : W} {rd : Bool} {d : PyData} {ds : List PyData} (r : RepV K (Res ms R σ c.ρ) H ms v (w.see rd)) (e : w.get rd = some d) (h : seqOf d = some ds) :
    ∃ a vs lst, v = .ref a ∧ SeqOk K (Res ms R σ c.ρ) (Bs ms R σ c.ρ rd) H a vs lst ds ∧ d = (if lst = true then .list ds else .tuple ds) := by
  have key : ∀ d, Rep K (Res ms R σ c.ρ) H v d → seqOf d = some ds → ∃ a vs lst, v = .ref a ∧ SeqOk K (Res ms R σ c.ρ) (Bs ms R σ c.ρ rd) H a vs lst ds ∧ d = (if lst = true then .list ds else .tuple ds) := by
    intro d r h
    cases d with
    | list xs =>
      cases h
      obtain ⟨a, vs, rfl, h1, h2, h3⟩ := r.lst
      exact ⟨a, vs, true, rfl, seqOk_list h1 (bs_of a h2) h3, rfl⟩
    | tuple xs =>
      cases h
      obtain ⟨a, vs, rfl, q⟩ := seqOk_tup (B := Bs ms R σ c.ρ rd) (fun a z => bs_of a z) r
      exact ⟨a, vs, false, rfl, q, rfl⟩
    | _ => cases h
  unfold W.get at e
  unfold W.see at r
  by_cases hr : rd = true
  · rw [if_pos hr] at e r
    have lst : ∀ xs, (∃ p vs, v = .ref p ∧ H p = some (.lst vs) ∧ ¬ ms.at_ p ∧ Reps K (Res ms R σ c.ρ) H vs xs) → seqOf (.list xs) = some ds → ∃ a vs lst, v = .ref a ∧ SeqOk K (Res ms R σ c.ρ) (Bs ms R σ c.ρ rd) H a vs lst ds ∧ PyData.list xs = (if lst = true then .list ds else .tuple ds) := by
      rintro xs ⟨p, vs, rfl, h1, h2, h3⟩ h
      cases h
      refine ⟨p, vs, true, rfl, seqOk_list h1 ?_ h3, rfl⟩
      unfold Bs
      rw [if_pos hr]
      exact h2
    cases w with
    | val d' => cases e; exact key _ r h
    | own xs => cases e; exact lst xs r h
    | bor xs => cases e; exact lst xs r h
    | stm => cases e
  · rw [if_neg hr] at e r
    cases w with
    | val d' => cases e; exact key _ r h
    | own xs => cases e; exact key _ r h
    | bor xs => cases e
    | stm => cases e
theorem SeqOk.imp {k : Keep ms H H'} {a : Addr} {vs : List V} {lst : Bool} {ds : List PyData} {A' B' : Addr → Prop} (h : SeqOk K A B H a vs lst ds) (hA : ∀ a, A' a → A a) (hAt : ∀ a, ms.at_ a → A a) (hB : ∀ a o, H a = some o → B a → H' a = some o ∧ B' a) : SeqOk K A' B' H' a vs lst ds := by
  obtain ⟨h1, h2, h3⟩ := h
  refine ⟨h3 H' fun a o e b => (hB a o e b).1, Reps.imp (fun a o e n => ⟨k a o e fun z => n (hAt a z), fun z => n (hA a z)⟩) _ _ h2, fun H2 q => h3 H2 fun a o e b => q a o (hB a o e b).1 (hB a o e b).2⟩

theorem bindSrc {γ δ : Type} {Y2 : Hp → Cfg → δ → γ → Prop} {e : Src} {rd : Bool} {f : List PyData → Cfg → Rs γ} {Q : δ → Hp → Prop} (C : Conf K ms R Z σ H c) (g : Good ms σ X0 Y2 H c Q ((evSrc call gl e rd c).bind f)) :
    tSrc K call gl e rd σ H fun J H1 => ∃ items c1, Keep ms H H1 ∧ Sub σ c c1 ∧ YSrc K rd ms R Z σ H1 c1 J items ∧ Good ms σ X0 Y2 H1 c1 Q (f items c1) :=
  ⟨ms, R, Z, c, C, (Good.bind (Y1 := YSrc K rd ms R Z σ) g).mono' fun v H1 ⟨w, c1, _, k, s, y, g1⟩ => ⟨w, c1, k, s, y, g1⟩⟩
theorem ax_seq {e : E} {rd : Bool} {Q : It → Hp → Prop} (h : tSrc K call gl (.seq e) rd σ H Q) : iSeq K (tE K call gl e rd) σ H Q := by
  obtain ⟨ms, R, Z, c, C, g⟩ := h
  refine (bindE C g).mono fun x H1 ⟨w, c1, k1, s1, y1, g1⟩ => ?_
  obtain ⟨ds, h1, g2⟩ := Good.ofO g1
  obtain ⟨d, h2, h3⟩ := Option.bind_eq_some_iff.mp h1
  obtain ⟨C1, r1, n1⟩ := y1.see rd
  obtain ⟨a, vs, lst, rfl, sq, _⟩ := seq_of r1 h2 h3
  refine ⟨a, vs, rfl, ?_⟩
  cases lst with
  | true => exact .inl ⟨sq.1, Good.now (Y1 := YSrc K rd ms R Z σ) (c := c1) g2 ⟨C1, srcOk_list sq⟩⟩
  | false => exact .inr ⟨sq.1, Good.now (Y1 := YSrc K rd ms R Z σ) (c := c1) g2 ⟨C1, srcOk_tup sq⟩⟩
theorem fits_of {i : Int} (h : fitsI i = true) : -(2 ^ 62) ≤ i ∧ i < 2 ^ 62 := by
  exact of_fitsI h
theorem ax_rng1 {a : E} {rd : Bool} {Q : It → Hp → Prop} (h : tSrc K call gl (.rng1 a) rd σ H Q) : iRng1 (tCons (tE K call gl a true) tNil) σ H Q := by
  obtain ⟨ms, R, Z, c, C, g⟩ := h
  refine (bindE C g).mono fun x H1 ⟨w, c1, k1, s1, y1, g1⟩ => ?_
  obtain ⟨d, n, h1, h2, g2⟩ := op1_bind g1
  cases d <;> first | (cases h2; done) | skip
  cases h2
  split at g2
  · rename_i hf
    have e : rangeL 0 n = (List.range n.toNat).map fun i => PyData.int (0 + (i : Nat)) := by unfold rangeL; rw [Int.sub_zero]
    rw [e] at g2
    obtain ⟨f1, f2⟩ := fits_of hf
    exact ⟨n, by rw [(y1.dat h1).int], f1, f2, Good.now (Y1 := YSrc K rd ms R Z σ) (c := c1) g2 ⟨y1.rep.1, srcOk_range⟩⟩
  · exact g2.elim
theorem ax_rng2 {a b : E} {rd : Bool} {Q : It → Hp → Prop} (h : tSrc K call gl (.rng2 a b) rd σ H Q) : iRng2 (tCons (tE K call gl a true) (tCons (tE K call gl b true) tNil)) σ H Q := by
  obtain ⟨ms, R, Z, c, C, g⟩ := h
  refine (bindE C g).mono fun x H1 ⟨w, c1, k1, s1, y1, g1⟩ => ?_
  refine (bindE y1.rep.1 g1).mono fun y H2 ⟨u, c2, k2, s2, y2, g2⟩ => ?_
  obtain ⟨d, i, h1, h2, g3⟩ := op1_bind g2
  obtain ⟨d', j, h1', h2', g4⟩ := op1_bind g3
  cases d <;> first | (cases h2; done) | skip
  cases h2
  cases d' <;> first | (cases h2'; done) | skip
  cases h2'
  split at g4
  · rename_i hf
    obtain ⟨f1, f2⟩ := fits_of hf.1
    obtain ⟨f3, f4⟩ := fits_of hf.2
    exact ⟨_, _, by rw [(y1.later k2 s2 h1).int, (y2.dat h1').int], ⟨f1, f2, f3, f4⟩, Good.now (Y1 := YSrc K rd ms R Z σ) (c := c2) g4 ⟨y2.rep.1, srcOk_range⟩⟩
  · exact g4.elim
theorem ax_zip {a b : E} {rd : Bool} {Q : It → Hp → Prop} (h : tSrc K call gl (.zip a b) rd σ H Q) : RZ.iZipA K (tCons (tE K call gl a rd) (tCons (tE K call gl b rd) tNil)) σ H Q := by
  obtain ⟨ms, R, Z, c, C, g⟩ := h
  refine (bindE C g).mono fun x H1 ⟨w, c1, k1, s1, y1, g1⟩ => ?_
  obtain ⟨C1, r1, n1⟩ := y1.see rd
  refine (bindE C1 g1).mono fun y H2 ⟨u, c2, k2, s2, y2, g2⟩ => ?_
  obtain ⟨C2, r2, n2⟩ := y2.see rd
  obtain ⟨ds, h1, g3⟩ := Good.ofO g2
  obtain ⟨d, h2, h3⟩ := Option.bind_eq_some_iff.mp h1
  obtain ⟨e, h4, h5⟩ := Option.bind_eq_some_iff.mp h3
  have r1' := r1.keep k2 s2
  unfold zipD at h5
  split at h5
  · cases h5
    obtain ⟨a1, vs1, l1, rfl, sq1, e1⟩ := seq_of r1' h2 rfl
    obtain ⟨a2, vs2, l2, rfl, sq2, e2⟩ := seq_of r2 h4 rfl
    cases l1 with
    | false => cases e1
    | true => cases l2 with
      | false => cases e2
      | true => exact ⟨a1, a2, vs1, vs2, rfl, .inl ⟨sq1.1, sq2.1, Good.now (Y1 := YSrc K rd ms R Z σ) (c := c2) g3 ⟨C2, srcOk_zip sq1 sq2⟩⟩⟩
  · cases h5
    obtain ⟨a1, vs1, l1, rfl, sq1, e1⟩ := seq_of r1' h2 rfl
    obtain ⟨a2, vs2, l2, rfl, sq2, e2⟩ := seq_of r2 h4 rfl
    cases l1 with
    | true => cases e1
    | false => cases l2 with
      | true => cases e2
      | false => exact ⟨a1, a2, vs1, vs2, rfl, .inr ⟨sq1.1, sq2.1, Good.now (Y1 := YSrc K rd ms R Z σ) (c := c2) g3 ⟨C2, srcOk_zipT sq1 sq2⟩⟩⟩
  · cases h5
theorem ax_enum {a : E} {rd : Bool} {Q : It → Hp → Prop} (h : tSrc K call gl (.enum a) rd σ H Q) : iEnumA K (tCons (tE K call gl a rd) tNil) σ H Q := by
  obtain ⟨ms, R, Z, c, C, g⟩ := h
  refine (bindE C g).mono fun x H1 ⟨w, c1, k1, s1, y1, g1⟩ => ?_
  obtain ⟨ds, h1, g2⟩ := Good.bindO g1
  obtain ⟨d, h2, h3⟩ := Option.bind_eq_some_iff.mp h1
  obtain ⟨C1, r1, n1⟩ := y1.see rd
  obtain ⟨a, vs, lst, rfl, sq, _⟩ := seq_of r1 h2 h3
  refine ⟨a, vs, rfl, ?_⟩
  cases lst with
  | true => exact .inl ⟨sq.1, Good.now (Y1 := YSrc K rd ms R Z σ) (c := c1) g2 ⟨C1, srcOk_enum sq⟩⟩
  | false => exact .inr ⟨sq.1, Good.now (Y1 := YSrc K rd ms R Z σ) (c := c1) g2 ⟨C1, srcOk_enumT sq⟩⟩
/-- list(range(..)) -/
theorem ax_lrng1 {a : E} {rd : Bool} {Q : VK} (h : tE K call gl (.lsrc (.rng1 a)) rd σ H Q) : tLstRg (tRg1 (tE K call gl a true)) σ H Q := by
  obtain ⟨ms, R, Z, c, C, g⟩ := h
  have g : Good ms σ X0 (Yld K ms R Z σ) H c Q ((evE call gl a true c).bind fun x c => ((op1 asInt x c).bind fun n c => if fitsI n = true then .ok (rangeL 0 n) c else .bad).bind fun items c => if items.length ≤ 10000000 then .ok (.own items) c else .bad) := by
    have e : ∀ r : Rs W, ((r.bind fun x c => (op1 asInt x c).bind fun n c => if fitsI n = true then Rs.ok (rangeL 0 n) c else .bad).bind fun items c => if items.length ≤ 10000000 then Rs.ok (W.own items) c else .bad) =
      (r.bind fun x c => ((op1 asInt x c).bind fun n c => if fitsI n = true then .ok (rangeL 0 n) c else .bad).bind fun items c => if items.length ≤ 10000000 then .ok (.own items) c else .bad) := by
      intro r; cases r <;> rfl
    have := e (evE call gl a true c)
    show Good ms σ X0 (Yld K ms R Z σ) H c Q _
    rw [← this]
    exact g
  refine (bindE C g).mono fun x H1 ⟨w, c1, k1, s1, y1, g1⟩ => ?_
  unfold op1 at g1
  split at g1
  · rename_i d h1
    cases d <;> first | exact (g1 : False).elim | skip
    rename_i n
    have g1 : Good ms σ X0 (Yld K ms R Z σ) H1 c1 Q ((if fitsI n = true then Rs.ok (rangeL 0 n) c1 else .bad).bind fun items c => if items.length ≤ 10000000 then .ok (.own items) c else .bad) := g1
    split at g1
    · rename_i hf
      obtain ⟨f1, f2⟩ := fits_of hf
      have g1 : Good ms σ X0 (Yld K ms R Z σ) H1 c1 Q (if (rangeL 0 n).length ≤ 10000000 then .ok (.own (rangeL 0 n)) c1 else .bad) := g1
      split at g1
      · rename_i hl
        have hl2 : (n - 0).toNat ≤ 10000000 := by
          have := hl
          unfold rangeL at this
          rwa [List.length_map, List.length_range] at this
        refine ⟨n, (y1.dat h1).int, ⟨by omega, by omega, f1, f2, by omega⟩, fun q hq => ?_⟩
        refine Good.out (β := Unit) g1 _ _ (Keep.new hq) (Yld.fresh y1.rep.1 hq ?_)
        unfold rgV rangeL
        generalize (n - 0).toNat = m
        generalize List.range m = l
        induction l with
        | nil => exact .nil
        | cons x l ih => exact .cons .int ih
      · exact g1.elim
    · exact (g1 : False).elim
  · exact (g1 : False).elim
theorem ax_lrng2 {a b : E} {rd : Bool} {Q : VK} (h : tE K call gl (.lsrc (.rng2 a b)) rd σ H Q) : tLstRg (tRg2 (tE K call gl a true) (tE K call gl b true)) σ H Q := by
  obtain ⟨ms, R, Z, c, C, g⟩ := h
  have as : ∀ {α β γ : Type} (r : Rs α) (f : α → Cfg → Rs β) (g : β → Cfg → Rs γ), (r.bind f).bind g = r.bind fun x c => (f x c).bind g := by
    intro α β γ r f g; cases r <;> rfl
  have g : Good ms σ X0 (Yld K ms R Z σ) H c Q ((evE call gl a true c).bind fun x c => (evE call gl b true c).bind fun y c => (op1 asInt x c).bind fun i c => (op1 asInt y c).bind fun j c =>
      (if fitsI i = true ∧ fitsI j = true then Rs.ok (rangeL i j) c else .bad).bind fun items c => if items.length ≤ 10000000 then .ok (.own items) c else .bad) := by
    have g' : Good ms σ X0 (Yld K ms R Z σ) H c Q (((evE call gl a true c).bind fun x c => (evE call gl b true c).bind fun y c => (op1 asInt x c).bind fun i c => (op1 asInt y c).bind fun j c =>
      if fitsI i = true ∧ fitsI j = true then Rs.ok (rangeL i j) c else .bad).bind fun items c => if items.length ≤ 10000000 then .ok (.own items) c else .bad) := g
    simp only [as] at g'
    exact g'
  refine (bindE C g).mono fun x H1 ⟨w, c1, k1, s1, y1, g1⟩ => ?_
  refine (bindE y1.rep.1 g1).mono fun y H2 ⟨u, c2, k2, s2, y2, g2⟩ => ?_
  obtain ⟨d, i, h1, h2, g3⟩ := op1_bind g2
  obtain ⟨d', j, h1', h2', g4⟩ := op1_bind g3
  cases d <;> first | (cases h2; done) | skip
  cases h2
  cases d' <;> first | (cases h2'; done) | skip
  cases h2'
  split at g4
  · rename_i hf
    obtain ⟨f1, f2⟩ := fits_of hf.1
    obtain ⟨f3, f4⟩ := fits_of hf.2
    rename_i i j
    have g4 : Good ms σ X0 (Yld K ms R Z σ) H2 c2 Q (if (rangeL i j).length ≤ 10000000 then .ok (.own (rangeL i j)) c2 else .bad) := g4
    split at g4
    · rename_i hl
      have hl2 : (j - i).toNat ≤ 10000000 := by
        have := hl
        unfold rangeL at this
        rwa [List.length_map, List.length_range] at this
      refine ⟨i, j, (y1.later k2 s2 h1).int, (y2.dat h1').int, ⟨f1, f2, f3, f4, by omega⟩, fun q hq => ?_⟩
      refine Good.out (β := Unit) g4 _ _ (Keep.new hq) (Yld.fresh y2.rep.1 hq ?_)
      unfold rgV rangeL
      generalize (j - i).toNat = m
      generalize List.range m = l
      induction l with
      | nil => exact .nil
      | cons x l ih => exact .cons .int ih
    · exact g4.elim
  · exact (g4 : False).elim
theorem Reps.mk {A : Addr → Prop} {H : Hp} : ∀ {vs : List V} {ds : List PyData}, vs.length = ds.length → (∀ (j : Nat) (v : V) (d : PyData), vs[j]? = some v → ds[j]? = some d → Rep K A H v d) → Reps K A H vs ds
  | [], [], _, _ => .nil
  | [], d :: ds, h, _ => by cases h
  | v :: vs, [], h, _ => by cases h
  | v :: vs, d :: ds, h, i => .cons (i 0 v d rfl rfl) (Reps.mk (by simpa using h) fun j v' d' e e' => i (j + 1) v' d' (by simpa using e) (by simpa using e'))
theorem zip_yld {l : Addr} {Ts : List Addr} {xs ys : List V} {ds es : List PyData} (C : Conf K ms R Z σ H c) (rx : Reps K (Res ms R σ c.ρ) H xs ds) (ry : Reps K (Res ms R σ c.ρ) H ys es) (old : ∀ a o, H a = some o → H' a = some o) (hl : H l = none)
    (atL : H' l = some (.lst (Ts.map V.ref))) (tl : Ts.length = min xs.length ys.length) (atT : ∀ (j : Nat) (T : Addr), Ts[j]? = some T → H T = none ∧ T ≠ l ∧ ∃ x y, xs[j]? = some x ∧ ys[j]? = some y ∧ H' T = some (.tup [x, y])) :
    Keep ms H H' ∧ Yld K ms R Z σ H' c (.ref l) (.own (zipL ds es)) := by
  have k : Keep ms H H' := fun a o e _ => old a o e
  have st : StOk ms H' c.s := ⟨old _ _ C.st.m, old _ _ C.st.c, old _ _ C.st.g, C.st.cg⟩
  refine ⟨k, l, Ts.map V.ref, rfl, atL, C.z_none hl, fun z => (C.rd l z).1 hl, C.grown k st hl (by rw [atL]; simp), Reps.mk ?_ fun j v d hv hd => ?_⟩
  · rw [List.length_map, tl, zip_length, rx.length, ry.length]
  · rw [List.getElem?_map] at hv
    obtain ⟨T, hT, rfl⟩ := Option.map_eq_some_iff.mp hv
    obtain ⟨h1, h2, x, y, hx, hy, h3⟩ := atT j T hT
    obtain ⟨dx, e1, r1⟩ := rx.at hx
    obtain ⟨dy, e2, r2⟩ := ry.at hy
    rw [zip_at e1 e2] at hd
    cases hd
    have up : ∀ d v, Rep K (Res ms R σ c.ρ) H v d → Rep K (Res ms (fun a => R a ∨ a = l) σ c.ρ) H' v d := fun d v r => Rep.imp (fun a o e n => ⟨old a o e, fun z => by
      rcases z with (z | z) | z | z
      · exact n (.inl z)
      · rw [z, hl] at e; cases e
      · exact n (.inr (.inl z))
      · exact n (.inr (.inr z))⟩) _ _ r
    refine .tup h3 (fun z => ?_) (.cons (up _ _ r1) (.cons (up _ _ r2) .nil))
    rcases z with (z | z) | z | z
    · exact (C.rd T z).1 h1
    · exact h2 z
    · exact C.own_in z h1
    · exact C.st.ne z h1
theorem ax_lzip {a b : E} {rd : Bool} {Q : VK} (h : tE K call gl (.lsrc (.zip a b)) rd σ H Q) : tLstZ K (tCons (tE K call gl a true) (tCons (tE K call gl b true) tNil)) σ H Q := by
  obtain ⟨ms, R, Z, c, C, g⟩ := h
  have as : ∀ {α β γ : Type} (r : Rs α) (f : α → Cfg → Rs β) (g : β → Cfg → Rs γ), (r.bind f).bind g = r.bind fun x c => (f x c).bind g := by
    intro α β γ r f g; cases r <;> rfl
  have g : Good ms σ X0 (Yld K ms R Z σ) H c Q ((evE call gl a true c).bind fun x c => (evE call gl b true c).bind fun y c => (ofO ((x.get true).bind fun d => (y.get true).bind fun e => zipD d e) c).bind fun items c => if items.length ≤ 10000000 then .ok (.own items) c else .bad) := by
    have g' : Good ms σ X0 (Yld K ms R Z σ) H c Q (((evE call gl a true c).bind fun x c => (evE call gl b true c).bind fun y c => ofO ((x.get true).bind fun d => (y.get true).bind fun e => zipD d e) c).bind fun items c => if items.length ≤ 10000000 then .ok (.own items) c else .bad) := g
    simp only [as] at g'
    exact g'
  refine (bindE C g).mono fun x H1 ⟨w, c1, k1, s1, y1, g1⟩ => ?_
  obtain ⟨C1, r1, n1⟩ := y1.see true
  refine (bindE C1 g1).mono fun y H2 ⟨u, c2, k2, s2, y2, g2⟩ => ?_
  obtain ⟨C2, r2, n2⟩ := y2.see true
  obtain ⟨ds, h1, g3⟩ := Good.bindO g2
  obtain ⟨d, h2, h3⟩ := Option.bind_eq_some_iff.mp h1
  obtain ⟨e, h4, h5⟩ := Option.bind_eq_some_iff.mp h3
  have r1' := r1.keep k2 s2
  split at g3
  · unfold zipD at h5
    split at h5
    · cases h5
      obtain ⟨a1, vs1, l1, rfl, sq1, e1⟩ := seq_of r1' h2 rfl
      obtain ⟨a2, vs2, l2, rfl, sq2, e2⟩ := seq_of r2 h4 rfl
      cases l1 with
      | false => cases e1
      | true => cases l2 with
        | false => cases e2
        | true =>
          refine ⟨a1, a2, vs1, vs2, rfl, .inl ⟨sq1.1, sq2.1⟩, fun H' l Ts old hl atL tl atT => ?_⟩
          obtain ⟨k, y⟩ := zip_yld C2 sq1.2.1 sq2.2.1 old hl atL tl atT
          exact Good.out (β := Unit) g3 _ _ k y
    · cases h5
      obtain ⟨a1, vs1, l1, rfl, sq1, e1⟩ := seq_of r1' h2 rfl
      obtain ⟨a2, vs2, l2, rfl, sq2, e2⟩ := seq_of r2 h4 rfl
      cases l1 with
      | true => cases e1
      | false => cases l2 with
        | true => cases e2
        | false =>
          refine ⟨a1, a2, vs1, vs2, rfl, .inr ⟨sq1.1, sq2.1⟩, fun H' l Ts old hl atL tl atT => ?_⟩
          obtain ⟨k, y⟩ := zip_yld C2 sq1.2.1 sq2.2.1 old hl atL tl atT
          exact Good.out (β := Unit) g3 _ _ k y
    · cases h5
  · exact g3.elim
end
end Pyv
end
/-! ## Pyv8 -/
section
set_option maxRecDepth 100000
set_option maxHeartbeats 4000000
/-! Pyv 8: targets, comprehensions. -/
namespace Pyv
open PySem PySem.Spec PyProof.Rows L2

section
variable {K : PySem.W.Frag} {call : Nat → List W → DS → RF} {gl : List PyData} {ms : Ms} {R : Addr → Prop} {Z H H' : Hp} {σ : L2.St} {c c' : Cfg} {A B : Addr → Prop}
/-! ### targets -/
def gT (K : PySem.W.Frag) (tg : Tg) : TG := fun v σ H Q => ∃ ms R Z c d c', Conf K ms R Z σ H c ∧ Rep K (Res ms R σ c.ρ) H v d ∧ asgTg tg d c = some c' ∧
  ∀ σ', Conf K ms R Z σ' H c' → (∀ a, OwnA σ' c'.ρ a → OwnA σ c.ρ a) → (∀ i, i ∉ tgSlots tg → σ'[i]? = σ[i]?) → σ'.length = σ.length → c'.s = c.s → Q σ' H
def gTs (K : PySem.W.Frag) (tgs : List Tg) : TGs := fun vs σ H Q => ∃ ms R Z c ds c', Conf K ms R Z σ H c ∧ Reps K (Res ms R σ c.ρ) H vs ds ∧ asgTgs tgs ds c = some c' ∧
  ∀ σ', Conf K ms R Z σ' H c' → (∀ a, OwnA σ' c'.ρ a → OwnA σ c.ρ a) → (∀ i, i ∉ tgsSlots tgs → σ'[i]? = σ[i]?) → σ'.length = σ.length → c'.s = c.s → Q σ' H
theorem ax_gname {i : Nat} {v : V} {Q : L2.St → Hp → Prop} (h : gT K (.name i) v σ H Q) : gName i v σ H Q := by
  obtain ⟨ms, R, Z, c, d, c', C, r, e, q⟩ := h
  unfold asgTg at e
  split at e
  · rename_i hi
    cases e
    obtain ⟨C', s'⟩ := C.put (w := .val d) hi (fun _ z => by cases z) r
    refine q _ C' s' (fun j hj => ?_) (by rw [List.length_set]) rfl
    have : i ≠ j := fun z => hj (by rw [z]; simp [tgSlots])
    rw [List.getElem?_set_ne this]
  · cases e
theorem ax_gnil {vs : List V} {Q : L2.St → Hp → Prop} (h : gTs K [] vs σ H Q) : gNil vs σ H Q := by
  obtain ⟨ms, R, Z, c, ds, c', C, r, e, q⟩ := h
  unfold asgTgs at e
  split at e
  · cases e
    cases r
    exact ⟨rfl, q σ C (fun _ z => z) (fun _ _ => rfl) rfl rfl⟩
  · cases e
theorem ax_gcons {t : Tg} {ts : List Tg} {vs : List V} {Q : L2.St → Hp → Prop} (h : gTs K (t :: ts) vs σ H Q) : gCons (gT K t) (gTs K ts) vs σ H Q := by
  obtain ⟨ms, R, Z, c, ds, c', C, r, e, q⟩ := h
  unfold asgTgs at e
  split at e
  · cases e
  · rename_i d ds
    split at e
    · rename_i c1 e1
      cases r with
      | cons r1 rs =>
        refine ⟨_, _, rfl, ms, R, Z, c, d, c1, C, r1, e1, fun σ1 C1 s1 k1 l1 z1 => ?_⟩
        refine ⟨ms, R, Z, c1, ds, c', C1, rs.less (res_of_sub fun a z => .inr (s1 a z)), e, fun σ2 C2 s2 k2 l2 z2 => ?_⟩
        refine q σ2 C2 (fun a z => s1 a (s2 a z)) (fun i hi => ?_) (l2.trans l1) (z2.trans z1)
        have : i ∉ tgSlots t ∧ i ∉ tgsSlots ts := by
          unfold tgsSlots at hi
          simpa using hi
        rw [k2 i this.2, k1 i this.1]
    · cases e
theorem asgTgs_length : ∀ {ts : List Tg} {ds : List PyData} {c c' : Cfg}, asgTgs ts ds c = some c' → ts.length = ds.length
  | [], ds, c, c', h => by
    unfold asgTgs at h
    split at h
    · rfl
    · cases h
  | t :: ts, ds, c, c', h => by
    unfold asgTgs at h
    split at h
    · cases h
    · rename_i d ds
      split at h
      · simp [asgTgs_length h]
      · cases h
theorem ax_gtup {ts : List Tg} {v : V} {n : Nat} {Q : L2.St → Hp → Prop} (hn : ts.length = n) (h : gT K (.tup ts) v σ H Q) : gTup K n (gTs K ts) v σ H Q := by
  obtain ⟨ms, R, Z, c, d, c', C, r, e, q⟩ := h
  unfold asgTg at e
  split at e
  · rename_i ds
    obtain ⟨a, vs, rfl, h1, h2⟩ := Rep.sqT r
    refine ⟨a, vs, rfl, h1, ?_, ms, R, Z, c, ds, c', C, h2, e, fun σ' C' s' k l z => q σ' C' s' (fun i hi => k i ?_) l z⟩
    · rw [h2.length, ← asgTgs_length e]; exact hn
    · unfold tgSlots at hi
      exact hi
  · cases e

/-! ### a comprehension's block -/
theorem wipe_at {σ : L2.St} {i : Nat} : ∀ {vs : List Nat}, i ∈ vs → i < σ.length → (wipe σ vs)[i]? = some none
  | v :: vs, h, hi => by
    show ((wipe σ vs).set v none)[i]? = some none
    by_cases e : v = i
    · subst e
      exact set_get (by rw [wipe_length]; exact hi)
    · rw [List.getElem?_set_ne e]
      rcases List.mem_cons.mp h with z | z
      · exact absurd z.symm e
      · exact wipe_at z hi
theorem wipe_same {σ τ : L2.St} {vs : List Nat} (hl : τ.length = σ.length) (h : ∀ i, i ∉ vs → τ[i]? = σ[i]?) : wipe τ vs = wipe σ vs := by
  apply List.ext_getElem?
  intro i
  by_cases hi : i ∈ vs
  · by_cases hl2 : i < σ.length
    · rw [wipe_at hi hl2, wipe_at hi (by rw [hl]; exact hl2)]
    · rw [List.getElem?_eq_none (by rw [wipe_length]; omega), List.getElem?_eq_none (by rw [wipe_length]; omega)]
  · rw [wipe_out hi, wipe_out hi, h i hi]
theorem wipe_wipe {σ : L2.St} {vs : List Nat} : wipe (wipe σ vs) vs = wipe σ vs := wipe_same (wipe_length σ vs) fun i hi => wipe_out hi
theorem wipeR_length (ρ : List (Option W)) : ∀ vs, (wipeR ρ vs).length = ρ.length
  | [] => rfl
  | v :: vs => by
    show ((wipeR ρ vs).set v none).length = _
    rw [List.length_set, wipeR_length ρ vs]
theorem wipeR_some {ρ : List (Option W)} {i : Nat} {w : W} : ∀ {vs : List Nat}, (wipeR ρ vs)[i]? = some (some w) → i ∉ vs ∧ ρ[i]? = some (some w)
  | [], h => ⟨by simp, h⟩
  | v :: vs, h => by
    have h : ((wipeR ρ vs).set v none)[i]? = some (some w) := h
    rcases get_set h with ⟨_, _, z⟩ | ⟨n, z⟩
    · cases z
    · obtain ⟨h1, h2⟩ := wipeR_some z
      refine ⟨?_, h2⟩
      intro hm
      rcases List.mem_cons.mp hm with q | q
      · exact n q.symm
      · exact h1 q
theorem lockW_own {ρ : List (Option W)} {i : Nat} {ds : List PyData} : (ρ.map lockW)[i]? ≠ some (some (.own ds)) := by
  rw [List.getElem?_map]
  cases e : ρ[i]? with
  | none => simp
  | some w =>
    cases w with
    | none => simp [lockW]
    | some w => cases w <;> simp [lockW]
theorem no_own {vs : List Nat} {τ : L2.St} {a : Addr} : ¬ OwnA τ (enterC c vs).ρ a := by
  rintro ⟨i, ds, h1, h2⟩
  exact lockW_own (wipeR_some h1).2
/-- what is kept off within a block -/
abbrev Rin (R : Addr → Prop) (σ : L2.St) (ρ : List (Option W)) (a : Addr) : Prop := R a ∨ OwnA σ ρ a
theorem res_in_iff {vs : List Nat} {τ : L2.St} {a : Addr} : Res ms (Rin R σ c.ρ) τ (enterC c vs).ρ a ↔ Res ms R σ c.ρ a := by
  constructor
  · rintro ((z | z) | z | z)
    · exact .inl z
    · exact .inr (.inl z)
    · exact (no_own z).elim
    · exact .inr (.inr z)
  · rintro (z | z | z)
    · exact .inl (.inl z)
    · exact .inl (.inr z)
    · exact .inr (.inr z)
theorem Conf.lock (C : Conf K ms R Z σ H c) (vs : List Nat) : Conf K ms (Rin R σ c.ρ) Z (wipe σ vs) H (enterC c vs) where
  len := by
    show (wipeR (c.ρ.map lockW) vs).length = _
    rw [wipeR_length, wipe_length, List.length_map]
    exact C.len
  slot := fun i w h => by
    obtain ⟨h1, h2⟩ := wipeR_some h
    rw [List.getElem?_map] at h2
    obtain ⟨w0, e0, e1⟩ := Option.map_eq_some_iff.mp h2
    cases w0 with
    | none => cases e1
    | some w0 =>
      obtain ⟨v, q1, q2⟩ := C.slot i w0 e0
      refine ⟨v, by rw [wipe_out h1]; exact q1, RepV.less (fun a z => res_in_iff.mp z) ?_⟩
      cases w0 with
      | own ds => cases e1; exact q2
      | val d => cases e1; exact q2
      | bor ds => cases e1; exact q2
      | stm => cases e1; exact q2
  inj := fun i j ds es p h1 _ _ _ => absurd ⟨i, ds, h1, ‹_›⟩ (no_own (a := p))
  own := fun p h => (no_own h).elim
  rd := fun p h => by
    rcases h with z | z
    · exact C.rd p z
    · exact ⟨C.own_in z, (C.own p z).2.1⟩
  ez := C.ez
  st := C.st
theorem StOk.upd' {s : DS} (h : StOk ms H s) {p : Addr} {o : HO} (n : ¬ ms.at_ p) : StOk ms (L2.upd H p o) s := by
  have n1 : ∀ a, ms.at_ a → L2.upd H p o a = H a := fun a z => upd_ne fun y => n (by rw [← y]; exact z)
  exact ⟨(n1 _ (.inl rfl)).trans h.m, (n1 _ (.inr (.inl rfl))).trans h.c, (n1 _ (.inr (.inr rfl))).trans h.g, h.cg⟩
theorem dat_share {w : W} {d : PyData} (h : w.dat = some d) : w.share = .val d := by
  cases w <;> first | (cases h; rfl) | (cases h; done)
theorem drop_at {α : Type} {l : List α} {i : Nat} {x : α} (h : l[i]? = some x) : l.drop i = x :: l.drop (i + 1) := by
  obtain ⟨h1, h2⟩ := List.getElem?_eq_some_iff.mp h
  rw [List.drop_eq_getElem_cons h1, h2]
/-- what a turn of a comprehension does -/
noncomputable abbrev lcF (call : Nat → List W → DS → RF) (gl : List PyData) (elt : E) (tg : Tg) (t : Ot) (d : PyData) (c : Cfg) : Rs (Option PyData) :=
  (ofO (asgTg tg d c) c).bind fun c1 _ => (evOt call gl t c1).bind fun r c2 => if r = true then (evE call gl elt false c2).bind fun w c3 => (ofO w.dat c3).bind fun d c4 => .ok (some d) c4 else .ok none c2
theorem ax_lc {elt : E} {tg : Tg} {src : Src} {t : Ot} {own : List Nat} {rd : Bool} {Q : VK} (ho : (tgSlots tg).all (fun i => own.contains i) = true) (h : tE K call gl (.lc elt tg src t own) rd σ H Q) :
    tLc (tSrc K call gl src true) (gT K tg) (tOt K call gl t) (tE K call gl elt false) own σ H Q := by
  obtain ⟨ms, R, Z, c, C, g⟩ := h
  have g : Good ms σ X0 (Yld K ms R Z σ) H c Q ((evSrc call gl src true c).bind fun items c0 => leaveC c0 (lcLoop (lcF call gl elt tg t) items [] (enterC c0 own))) := g
  obtain ⟨ms', R', Z', c', C', g'⟩ := bindSrc C g
  refine ⟨ms', R', Z', c', C', g'.mono' fun J H1 ⟨items, c0, k1, s1, ⟨C0, G, wk, st⟩, g1⟩ => ?_⟩
  clear g' C' c' Z' R' ms'
  intro D hD
  have sub : ∀ i, i ∉ own → i ∉ tgSlots tg := fun i hi z => hi (by
    have := List.all_eq_true.mp ho i z
    simpa using this)
  have nD : ¬ ms.at_ D := fun z => C0.st.ne z hD
  -- the block's state, rebuilt at each turn
  have cf : ∀ (H2 : Hp) (s : DS), Keep ms H1 H2 → StOk ms H2 s → H2 D ≠ none → Conf K ms (Rin (fun a => R a ∨ a = D) σ c0.ρ) Z (wipe σ own) H2 ⟨(enterC c0 own).ρ, s⟩ := fun H2 s k hs h2 =>
    (C0.grown k hs hD h2).lock own
  let Ain := Res ms (Rin (fun a => R a ∨ a = D) σ c0.ρ) (wipe σ own) (enterC c0 own).ρ
  have hAin : ∀ a, Ain a ↔ Res ms (fun a => R a ∨ a = D) σ c0.ρ a := fun a => res_in_iff (c := c0)
  let Pv : Nat → Hp → Prop := fun i H2 => ∃ acc ds s, H2 D = some (.lst acc) ∧ Keep ms H1 H2 ∧ StOk ms H2 s ∧ Reps K Ain H2 acc ds ∧
    Good ms σ X0 (Yld K ms R Z σ) H1 c0 Q (leaveC c0 (lcLoop (lcF call gl elt tg t) (items.drop i) ds ⟨(enterC c0 own).ρ, s⟩))
  refine lc_it wk Pv ?_ ?_ ?_ ?_
  · exact ⟨[], [], c0.s, upd_same, Keep.new hD, C0.st.upd hD, .nil, g1⟩
  · rintro i H2 hi ⟨acc, ds, s, h1, h2, h3, h4, h5⟩
    refine st H2 fun a o e b => h2 a o e ?_
    simpa using b
  · rintro i x H2 H2' hi ⟨acc, ds, s, h1, h2, h3, h4, h5⟩ y
    -- the item
    have item : ∃ d, items[i]? = some d ∧ Rep K Ain H2' x d ∧ Keep ms H2 H2' := by
      have up : ∀ d v, Rep K (Res ms R σ c0.ρ) H1 v d → Rep K Ain H2 v d := fun d v r => Rep.imp (fun a o e n => ⟨h2 a o e fun z => n (.inr (.inr z)), fun z => by
        rcases (hAin a).mp z with (q | q) | q | q
        · exact n (.inl q)
        · rw [q, hD] at e; cases e
        · exact n (.inr (.inl q))
        · exact n (.inr (.inr q))⟩) _ _ r
      rcases y with ⟨rfl, d, e1, r⟩ | ⟨T, x1, y1, dx, dy, rfl, hT, rfl, e1, r1, r2⟩
      · exact ⟨d, e1, up d x r, Keep.refl _ _⟩
      · have kT : Keep ms H2 (upd H2 T (.tup [x1, y1])) := Keep.new hT
        have up2 : ∀ d v, Rep K Ain H2 v d → Rep K Ain (upd H2 T (.tup [x1, y1])) v d := fun d v r => Rep.imp (fun a o e n => ⟨by rw [upd_ne (ne_of_none e hT)]; exact e, n⟩) _ _ r
        refine ⟨_, e1, .tup upd_same (fun z => ?_) (.cons (up2 _ _ (up _ _ r1)) (.cons (up2 _ _ (up _ _ r2)) .nil)), kT⟩
        have C2 := cf H2 s h2 h3 (by rw [h1]; simp)
        exact C2.res_in z hT
    obtain ⟨d, e1, r, kH⟩ := item
    rw [drop_at e1] at h5
    have k2 : Keep ms H1 H2' := h2.trans kH
    have st2 : StOk ms H2' s := by
      rcases y with ⟨rfl, _⟩ | ⟨T, x1, y1, dx, dy, _, hT, rfl, _⟩
      · exact h3
      · exact h3.upd hT
    have hD2 : H2' D = some (.lst acc) := kH D _ h1 nD
    have C2 := cf H2' s k2 st2 (by rw [hD2]; simp)
    have acc2 : ∀ H3, Keep ms H2 H3 → Reps K Ain H3 acc ds := fun H3 k => Reps.imp (fun a o e n => ⟨k a o e fun z => n (.inr (.inr z)), n⟩) _ _ h4
    -- the turn
    cases ea : asgTg tg d ⟨(enterC c0 own).ρ, s⟩ with
    | none =>
      exfalso
      unfold lcLoop lcF at h5
      rw [ea] at h5
      exact h5
    | some c1 =>
    refine ⟨ms, _, Z, _, d, c1, C2, r, ea, fun σ2 C3 s3 kk ll zz => ⟨?_, ?_⟩⟩
    · rw [wipe_same (σ := wipe σ own) ll fun j hj => kk j (sub j hj)]
      exact wipe_wipe
    · refine ⟨ms, _, Z, c1, C3, ?_⟩
      cases et : evOt call gl t c1 with
      | exc k xs c2 =>
        exfalso
        unfold lcLoop lcF at h5
        rw [ea] at h5
        simp only [ofO, Rs.bind, et] at h5
        exact h5
      | bad =>
        exfalso
        unfold lcLoop lcF at h5
        rw [ea] at h5
        simp only [ofO, Rs.bind, et] at h5
        exact h5
      | ok b c2 =>
        intro b' H3 s4 k4 y4
        obtain ⟨rfl, C4⟩ := y4
        by_cases hb : b' = true
        · rw [if_pos hb]
          refine ⟨ms, _, Z, c2, C4, ?_⟩
          cases ee : evE call gl elt false c2 with
          | exc k xs c2 =>
            exfalso
            unfold lcLoop lcF at h5
            rw [ea] at h5
            simp only [ofO, Rs.bind, et, ee, if_pos hb] at h5
            exact h5
          | bad =>
            exfalso
            unfold lcLoop lcF at h5
            rw [ea] at h5
            simp only [ofO, Rs.bind, et, ee, if_pos hb] at h5
            exact h5
          | ok w c3 =>
            intro v H4 s5 k5 y5
            obtain ⟨C5, r5⟩ := y5.share
            have kk4 : Keep ms H1 H4 := (k2.trans k4).trans k5
            have hD4 : H4 D = some (.lst acc) := k5 D _ (k4 D _ hD2 nD) nD
            cases ed : w.dat with
            | none =>
              exfalso
              unfold lcLoop lcF at h5
              rw [ea] at h5
              simp only [ofO, Rs.bind, et, ee, if_pos hb, ed] at h5
              exact h5
            | some dv =>
              rw [dat_share ed] at r5
              have r5 : Rep K _ H4 v dv := r5
              unfold lcLoop lcF at h5
              rw [ea] at h5
              simp only [ofO, Rs.bind, et, ee, if_pos hb, ed] at h5
              have a4 := acc2 H4 ((kH.trans k4).trans k5)
              split at h5
              · rename_i hz
                have neD : ∀ a o, H4 a = some o → ¬ Ain a → (upd H4 D (.lst (acc ++ [v]))) a = some o := fun a o e n => by
                  rw [upd_ne fun z => n (by rw [z]; exact .inl (.inl (.inr rfl)))]
                  exact e
                refine ⟨acc, hD4, by rw [a4.length]; exact hz, acc ++ [v], ds ++ [dv], c3.s, upd_same, fun a o e n => ?_, C5.st.upd' nD, ?_, h5⟩
                · rw [upd_ne (ne_of_none e hD)]
                  exact kk4 a o e n
                · refine (Reps.imp (fun a o e n => ⟨neD a o e n, n⟩) _ _ a4).append (.one ?_)
                  have r6 : Rep K Ain H4 v dv := r5.less fun a z => by
                    rcases z with z | z | z
                    · exact .inl z
                    · exact (no_own z).elim
                    · exact .inr (.inr z)
                  exact Rep.imp (fun a o e n => ⟨neD a o e n, n⟩) _ _ r6
              · exact (h5 : False).elim
        · rw [if_neg hb]
          unfold lcLoop lcF at h5
          rw [ea] at h5
          simp only [ofO, Rs.bind, et, if_neg hb] at h5
          refine ⟨acc, ds, c2.s, k4 D _ hD2 nD, k2.trans k4, C4.st, acc2 H3 (kH.trans k4), h5⟩
  · rintro H2 ⟨acc, ds, s, h1, h2, h3, h4, h5⟩
    rw [List.drop_length] at h5
    have h5 : Good ms σ X0 (Yld K ms R Z σ) H1 c0 Q (.ok (.own ds) { c0 with s := s }) := h5
    refine h5 _ H2 (fun _ z => z) h2 ⟨D, acc, rfl, h1, C0.z_none hD, fun z => (C0.rd D z).1 hD, C0.grown h2 h3 hD (by rw [h1]; simp), h4.less fun a z => (hAin a).mpr z⟩
end
end Pyv
end
/-! ## Pyv9 -/
section
set_option maxRecDepth 100000
set_option maxHeartbeats 4000000
/-! Pyv 9: the text of an expression keeps its reading. -/
namespace Pyv
open PySem PySem.Spec PyProof.Rows L2

def bltNames : List Str := ["len", "tuple", "list", "sum", "all", "any", "sorted", "max", "min", "abs", "int", "isinstance", "range", "zip", "enumerate", "bool", "str"]
/-- a call by keywords alone -/
def KwOk (P : Px) (i : Nat) (K : PySem.W.Frag) (fd : FuncData) (ps : List Str) : Prop :=
  ∀ ks perm, lookKw P.kws i ks = some perm → perm.length = ks.length ∧ ∀ (s : Shared) (ws us : List Value), K.In s.heap → ws.length = ks.length → permL perm ws = some us → BindsTo s fd ⟨[], ks.zip ws⟩ (ps.zip us)
/-- a place in the text: its names, its globals -/
structure Tw (P : Px) (X : Cx) (S : Sx) (call : Nat → List W → DS → RF) (gl : List PyData) (k : Nat) : Prop where
  N : X.N = S.N
  nd : X.N.Nodup
  sc : X.env.scope = S.sc
  fn : X.fn = S.fn
  calm : X.calm = true
  room : Room k X.A
  fns : ∀ (i : Nat) (x : Str), P.fns[i]? = some x → ∃ f fd ps, FnOk X.prog X.w X.K X.mg X.base (L2.CX X.prog X.w) k f fd ps (spOf X.K (call i)) ∧ X.mg x = some (.ref f) ∧ PySem.W.keepIn X.K (.ref f) = true ∧ Binds X.K fd ps [] ∧ KwOk P i X.K fd ps
  gls : ∀ (i : Nat) (x : Str), (P.gls.map (·.1))[i]? = some x → ∃ (d : PyData) (u : Value) (v : V), gl[i]? = some d ∧ X.mg x = some u ∧ RelV v u ∧ ∀ A H, Rep X.K A H v d
  blt : ∀ x ∈ bltNames, X.mg x = none
section
variable {P : Px} {X : Cx} {S : Sx} {call : Nat → List W → DS → RF} {gl : List PyData} {k : Nat}
theorem Tw.blk (T : Tw P X S call gl k) (scope : Scope) (s : Shared) (H : Hp) (C : Addr) (cl : List (Str × Addr)) (fp : List Addr) : Tw P (X.blk s H scope (compEnvC scope cl C X.env) fp) (blkS S scope) call gl k where
  N := T.N
  nd := T.nd
  sc := by
    show relS scope X.env.scope = relS scope S.sc
    rw [T.sc]
  fn := rfl
  calm := T.calm
  room := T.room
  fns := T.fns
  gls := T.gls
  blt := T.blt
theorem Tw.glob (T : Tw P X S call gl k) {x : Str} (h : glbB S x = true) : Gl X x ∧ nameOk x = true := by
  unfold glbB kindB at h
  rw [Bool.and_eq_true, decide_eq_true_eq] at h
  refine ⟨?_, h.2⟩
  show X.env.scope.names.lookup x = some .globalImplicit
  rw [T.sc]
  exact h.1
theorem notStar_he {a : Expr} {es : List Expr} {env : Env} (h : notStar a = true) : starEach (a :: es) env = (false, eval a env) :: starEach es env := by
  cases a <;> first | rfl | (cases h; done)
theorem notSet_mark {b : Expr} {op : CmpOp} (h : notSet b = true) : behindInMarks op b = false := by
  cases b <;> first | rfl | (cases h; done)
theorem notSet_fold {b : Expr} {env : Env} (h : notSet b = true) (x : Value) : foldedSetIterable b env x = pure x := by
  cases b <;> first | rfl | (cases h; done)
theorem plainIx {b : Expr} (h : notSlice b = true) : PlainIx b := by
  intro o i
  cases b <;> first | rfl | (cases h; done)
theorem boot_blt (b : Blt) : bootBuiltins (bltN b).1 = some (bltN b).2 := by
  cases b
  case isi ts => exact (by decide +kernel : bootBuiltins "isinstance" = some (.builtin "isinstance"))
  all_goals decide +kernel
theorem bltN_mem (b : Blt) : b ≠ .str → (bltN b).1 ∈ bltNames := by
  intro h
  cases b <;> simp [bltN, bltNames]
theorem pe_blt {b : Blt} {r : List V → Hp → VK → Prop} {p pos : Pos} {e : Expr} {es : List Expr} {t : TA} (hc : CallR X (bltN b).2 r) (hg : Gl X (bltN b).1) (hm : X.mg (bltN b).1 = none) (ha : PA X (e :: es) t)
    (he : starEach (e :: es) X.env = (false, eval e X.env) :: starEach es X.env) (hpl : (backTo pos (starEach es X.env)).any (·.1) = false) : PE X (.Call (.Name (bltN b).1 p) (e :: es) [] pos) (tCB r t) := by
  cases b
  case tuple => exact pe_callTy hc hg hm (boot_blt .tuple) ha (by decide) (by decide) he hpl
  case list => exact pe_callTy hc hg hm (boot_blt .list) ha (by decide) (by decide) he hpl
  case int => exact pe_callTy hc hg hm (boot_blt .int) ha (by decide) (by decide) he hpl
  case str => exact pe_callTy hc hg hm (boot_blt .str) ha (by decide) (by decide) he hpl
  case len => exact pe_callB hc hg hm (boot_blt .len) ha (by decide) (by decide) he hpl
  case sum => exact pe_callB hc hg hm (boot_blt .sum) ha (by decide) (by decide) he hpl
  case all => exact pe_callB hc hg hm (boot_blt .all) ha (by decide) (by decide) he hpl
  case any => exact pe_callB hc hg hm (boot_blt .any) ha (by decide) (by decide) he hpl
  case sorted => exact pe_callB hc hg hm (boot_blt .sorted) ha (by decide) (by decide) he hpl
  case max => exact pe_callB hc hg hm (boot_blt .max) ha (by decide) (by decide) he hpl
  case min => exact pe_callB hc hg hm (boot_blt .min) ha (by decide) (by decide) he hpl
  case abs => exact pe_callB hc hg hm (boot_blt .abs) ha (by decide) (by decide) he hpl
  case isi ts => exact pe_callB hc hg hm (boot_blt (.isi ts)) ha (by decide : ("isinstance" : Str) ≠ "__name__") (by decide : (("isinstance" : Str) == ("__debug__" : Str)) = false) he hpl
theorem boot_ty {x : Str} {t : String} (h : tyOfName x = some t) : bootBuiltins x = some (.type t) ∧ x ∈ bltNames ∧ x ≠ "__name__" ∧ (x == ("__debug__" : Str)) = false := by
  unfold tyOfName at h
  iterate 5 (
    split at h
    · rename_i e
      have h2 := Option.some.inj h
      subst h2 e
      exact ⟨by decide +kernel, by simp [bltNames], by decide, by decide⟩)
  cases h

/-! ### targets -/
theorem slotL_ok (T : Tw P X S call gl k) {x : Str} {i : Nat} (h : slotL S x = some i) : X.N[i]? = some x ∧ Loc X.env.scope x ∧ (X.fn x = true ∨ X.env.scope.names.lookup x = some .local) := by
  unfold slotL at h
  split at h
  · rename_i e
    obtain ⟨h1, h2⟩ := locB_ok e
    refine ⟨by rw [T.N]; exact idxOf_get h, by rw [T.sc]; exact h1, ?_⟩
    rw [T.fn, T.sc]
    exact h2
  · cases h
theorem slotV_ok (T : Tw P X S call gl k) {x : Str} {i : Nat} (h : slotV S x = some i) : X.N[i]? = some x ∧ Vis X.env.scope x ∧ nameOk x = true := by
  unfold slotV at h
  split at h
  · rename_i e
    exact ⟨by rw [T.N]; exact idxOf_get h, by rw [T.sc]; exact visB_ok e.1, e.2⟩
  · cases h
mutual
theorem compTg_ok (T : Tw P X S call gl k) : ∀ (e : Expr) (tg : Tg), compTg S e = some tg → PG X e (gT X.K tg) ∧ ∀ es, starEach (e :: es) X.env = (false, eval e X.env) :: starEach es X.env ∧ assignEach (e :: es) X.env = (false, assign e X.env) :: assignEach es X.env
  | e, tg, h => by
    cases e with
    | Name x p =>
      unfold compTg at h
      obtain ⟨i, h1, h2⟩ := Option.map_eq_some_iff.mp h
      subst h2
      obtain ⟨q1, q2, q3⟩ := slotL_ok T h1
      exact ⟨(pg_name T.nd q1 q2 q3).imp fun v σ H Q => ax_gname, fun es => ⟨rfl, rfl⟩⟩
    | Tuple es kk p =>
      unfold compTg at h
      obtain ⟨ts, h1, h2⟩ := Option.map_eq_some_iff.mp h
      subst h2
      obtain ⟨q1, q2, q3, q4⟩ := compTgs_ok T es ts h1
      exact ⟨(pg_tup T.calm q1 (n := es.length) q3 q2).imp fun v σ H Q => ax_gtup q4, fun es => ⟨rfl, rfl⟩⟩
    | _ => unfold compTg at h; cases h
theorem compTgs_ok (T : Tw P X S call gl k) : ∀ (es : List Expr) (ts : List Tg), compTgs S es = some ts → PGs X es (gTs X.K ts) ∧ (assignEach es X.env).findIdx? (·.1) = none ∧ (assignEach es X.env).length = es.length ∧ ts.length = es.length
  | [], ts, h => by
    unfold compTgs at h
    cases h
    exact ⟨pgs_nil.imp fun v σ H Q => ax_gnil, rfl, rfl, rfl⟩
  | e :: es, ts, h => by
    unfold compTgs at h
    split at h
    · rename_i t ts' h1 h2
      cases h
      obtain ⟨q1, q2⟩ := compTg_ok T e t h1
      obtain ⟨r1, r2, r3, r4⟩ := compTgs_ok T es ts' h2
      obtain ⟨_, e2⟩ := q2 es
      refine ⟨(pgs_cons q1 r1 (by rw [e2]; rfl)).imp fun v σ H Q => ax_gcons, ?_, ?_, ?_⟩
      · rw [e2, List.findIdx?_cons]
        simp [r2]
      · rw [e2, List.length_cons, List.length_cons, r3]
      · rw [List.length_cons, List.length_cons, r4]
    · cases h
end

/-! ### expressions -/
def isCmpE : Expr → Bool
  | .Compare _ _ _ _ => true
  | _ => false
def isCmpIr : E → Bool
  | .cmp _ _ _ => true
  | .chain _ _ _ _ _ => true
  | _ => false
theorem bval_of {call : Nat → List W → DS → RF} {gl : List PyData} {e : E} (he : isCmpIr e = true) {rd : Bool} {c c' : Cfg} {w : W} (h : evE call gl e rd c = .ok w c') : ∃ r, w = bval r := by
  have fin : ∀ (o : Rs Bool), (o.bind fun r c => Rs.ok (bval r) c) = .ok w c' → ∃ r, w = bval r := by
    intro o h
    cases o with
    | ok r c => cases h; exact ⟨r, rfl⟩
    | exc => cases h
    | bad => cases h
  cases e <;> first | (cases he; done) | skip
  · rename_i op a b
    have h : ((evE call gl a true c).bind fun x c => (evE call gl b true c).bind fun y c => (op2 (cmp2 op) x y c).bind fun r c => .ok (bval r) c) = .ok w c' := h
    cases h1 : evE call gl a true c with
    | ok x c1 =>
      rw [h1] at h
      have h : ((evE call gl b true c1).bind fun y c => (op2 (cmp2 op) x y c).bind fun r c => .ok (bval r) c) = .ok w c' := h
      cases h2 : evE call gl b true c1 with
      | ok y c2 =>
        rw [h2] at h
        exact fin _ h
      | exc => rw [h2] at h; cases h
      | bad => rw [h2] at h; cases h
    | exc => rw [h1] at h; cases h
    | bad => rw [h1] at h; cases h
  · rename_i op op' a b d
    have h : ((evE call gl a true c).bind fun x c => (evE call gl b true c).bind fun y c => (op2 (cmp2 op) x y c).bind fun r c =>
      if r = true then (evE call gl d true c).bind fun z c => (op2 (cmp2 op') y z c).bind fun r c => .ok (bval r) c else .ok (bval false) c) = .ok w c' := h
    cases h1 : evE call gl a true c with
    | ok x c1 =>
      rw [h1] at h
      have h : ((evE call gl b true c1).bind fun y c => (op2 (cmp2 op) x y c).bind fun r c =>
        if r = true then (evE call gl d true c).bind fun z c => (op2 (cmp2 op') y z c).bind fun r c => .ok (bval r) c else .ok (bval false) c) = .ok w c' := h
      cases h2 : evE call gl b true c1 with
      | ok y c2 =>
        rw [h2] at h
        have h : ((op2 (cmp2 op) x y c2).bind fun r c =>
          if r = true then (evE call gl d true c).bind fun z c => (op2 (cmp2 op') y z c).bind fun r c => .ok (bval r) c else .ok (bval false) c) = .ok w c' := h
        cases h3 : op2 (cmp2 op) x y c2 with
        | ok r c3 =>
          rw [h3] at h
          have h : (if r = true then (evE call gl d true c3).bind fun z c => (op2 (cmp2 op') y z c).bind fun r c => .ok (bval r) c else .ok (bval false) c3) = .ok w c' := h
          split at h
          · cases h4 : evE call gl d true c3 with
            | ok z c4 =>
              rw [h4] at h
              exact fin _ h
            | exc => rw [h4] at h; cases h
            | bad => rw [h4] at h; cases h
          · cases h
            exact ⟨_, rfl⟩
        | exc => rw [h3] at h; cases h
        | bad => rw [h3] at h; cases h
      | exc => rw [h2] at h; cases h
      | bad => rw [h2] at h; cases h
    | exc => rw [h1] at h; cases h
    | bad => rw [h1] at h; cases h
theorem ax_tcmp {K : PySem.W.Frag} {call : Nat → List W → DS → RF} {gl : List PyData} {e : E} {σ : L2.St} {H : Hp} (he : isCmpIr e = true) {Q : Bool → Hp → Prop} (h : tT K call gl (.val e) σ H Q) : tTest (tE K call gl e true) σ H Q := by
  obtain ⟨ms, R, Z, c, C, g⟩ := h
  refine ⟨ms, R, Z, c, C, (Good.bind (Y1 := Yld K ms R Z σ) (g : Good ms σ X0 (YB K ms R Z σ) H c Q ((evE call gl e true c).bind fun x c => op1 truth x c))).mono' fun v H1 ⟨w, c1, ew, k, s, y, g1⟩ => ?_⟩
  obtain ⟨r, er⟩ := bval_of he ew
  subst er
  have y : Conf K ms R Z σ H1 c1 ∧ Rep K (Res ms R σ c1.ρ) H1 v (.bool r) := y
  refine ⟨r, by cases y.2; rfl, ?_⟩
  exact Good.now (a := r) (c := c1) g1 ⟨rfl, y.1⟩
structure Snd (P : Px) (call : Nat → List W → DS → RF) (gl : List PyData) (k n : Nat) : Prop where
  e : ∀ {X : Cx} {S : Sx}, Tw P X S call gl k → ∀ (e : Expr) (ir : E), compE P n S e = some ir → ∀ rd, PE X e (tE X.K call gl ir rd) ∧ (isCmpE e = true → PT X e (tTest (tE X.K call gl ir rd)) ∧ isCmpIr ir = true)
  b : ∀ {X : Cx} {S : Sx}, Tw P X S call gl k → ∀ (op : BoolOp) (es : List Expr) (ir : E), compB P n S op es = some ir → ∀ rd pos, PE X (.BoolOp op es pos) (tE X.K call gl ir rd)
  t : ∀ {X : Cx} {S : Sx}, Tw P X S call gl k → ∀ (e : Expr) (ir : T), compT P n S e = some ir → PT X e (tT X.K call gl ir)
  ts : ∀ {X : Cx} {S : Sx}, Tw P X S call gl k → ∀ (op : BoolOp) (es : List Expr) (ir : T), compTs P n S op es = some ir → ∀ pos, PW X (.BoolOp op es pos) (tT X.K call gl ir)
  ifs : ∀ {X : Cx} {S : Sx}, Tw P X S call gl k → ∀ (es : List Expr) (ir : Ot), compIfs P n S es = some ir → PTs X es (tOt X.K call gl ir)
  es : ∀ {X : Cx} {S : Sx}, Tw P X S call gl k → ∀ (es : List Expr) (ir : Es), compEs P n S es = some ir → ∀ rd, PA X es (tEs X.K call gl ir rd) ∧ (∀ pos, (backTo pos (starEach es X.env)).any (·.1) = false) ∧ ∀ a as, es = a :: as → notStar a = true ∧ ∀ pos, (backTo pos (starEach as X.env)).any (·.1) = false
  ks : ∀ {X : Cx} {S : Sx}, Tw P X S call gl k → ∀ (kws : List Keyword) (ir : Es), compEs P n S (kws.map (·.value)) = some ir → PK X kws (tEs X.K call gl ir false)
  o : ∀ {X : Cx} {S : Sx}, Tw P X S call gl k → ∀ (e : Option Expr) (ir : Oe), compO P n S e = some ir → PO X e (tOe X.K call gl ir)
  src : ∀ {X : Cx} {S : Sx}, Tw P X S call gl k → ∀ (tup : Bool) (e : Expr) (ir : Src), compSrc P n S tup e = some ir → ∀ rd tg, (tup = true → isTupE tg = true) → PI X tg e (tSrc X.K call gl ir rd)
  l : ∀ {X : Cx} {S : Sx}, Tw P X S call gl k → ∀ (e : Expr) (ir : Src), compL P n S e = some ir → ∀ rd p pos, Gl X "list" → PE X (.Call (.Name "list" p) [e] [] pos) (tE X.K call gl (.lsrc ir) rd)
theorem snd0 : Snd P call gl k 0 where
  e := fun _ e ir h => by unfold compE at h; cases h
  b := fun _ op e ir h => by unfold compB at h; cases h
  t := fun _ e ir h => by unfold compT at h; cases h
  ts := fun _ op e ir h => by unfold compTs at h; cases h
  ifs := fun _ e ir h => by unfold compIfs at h; cases h
  es := fun _ e ir h => by unfold compEs at h; cases h
  ks := fun _ e ir h => by unfold compEs at h; cases h
  o := fun _ e ir h => by unfold compO at h; cases h
  src := fun _ t e ir h => by unfold compSrc at h; cases h
  l := fun _ e ir h => by unfold compL at h; cases h
variable {n : Nat}
theorem snd_t (I : Snd P call gl k n) (T : Tw P X S call gl k) (e : Expr) (ir : Pyv.T) (h : compT P (n + 1) S e = some ir) : PT X e (tT X.K call gl ir) := by
  have val : ∀ (e : Expr), (∀ whole, isTrue e X.env whole = (do let v ← whole; standAt e.pos; holding [v] (truthy v))) ∨ isCmpE e = true → (compE P n S e).map Pyv.T.val = some ir → PT X e (tT X.K call gl ir) := by
    intro e he h
    obtain ⟨e', h1, h2⟩ := Option.map_eq_some_iff.mp h
    subst h2
    obtain ⟨q1, q2⟩ := I.e T e e' h1 true
    rcases he with he | he
    · exact (pt_truth q1 he).imp fun σ H Q => ax_tval
    · exact (q2 he).1.imp fun σ H Q h => ax_tcmp (q2 he).2 h
  cases e
  case BoolOp op es pos =>
    unfold compT at h
    exact (I.ts T op es ir h pos).pt
  case UnaryOp op a pos =>
    cases op
    case Not =>
      unfold compT at h
      obtain ⟨t, h1, h2⟩ := Option.map_eq_some_iff.mp h
      subst h2
      exact (pt_not (I.t T a t h1)).imp fun σ H Q => ax_tnot
    all_goals exact val _ (.inl fun _ => rfl) h
  case IfExp => unfold compT at h; cases h
  case Compare => exact val _ (.inr rfl) h
  all_goals exact val _ (.inl fun _ => rfl) h
theorem name_debug {x : Str} (h : nameOk x = true) : (x == ("__debug__" : Str)) = false := nameOk_1 h
theorem snd_es (I : Snd P call gl k n) (T : Tw P X S call gl k) (es : List Expr) (ir : Es) (h : compEs P (n + 1) S es = some ir) (rd : Bool) :
    PA X es (tEs X.K call gl ir rd) ∧ (∀ pos, (backTo pos (starEach es X.env)).any (·.1) = false) ∧ ∀ a as, es = a :: as → notStar a = true ∧ ∀ pos, (backTo pos (starEach as X.env)).any (·.1) = false := by
  unfold compEs at h
  split at h
  · cases h
    exact ⟨pa_nil.imp fun σ H Q => ax_nil, fun _ => rfl, fun a as e => by cases e⟩
  · rename_i a r
    split at h
    · rename_i a' r' h1 h2
      split at h
      · rename_i hs
        cases h
        obtain ⟨q1, _⟩ := I.e T a a' h1 rd
        obtain ⟨q2, q3, _⟩ := I.es T r r' h2 rd
        have he := notStar_he (es := r) (env := X.env) hs
        refine ⟨(pa_cons q1 q2 he).imp fun σ H Q => ax_cons, fun pos => ?_, fun a2 as e => ?_⟩
        · rw [he]
          unfold backTo at q3 ⊢
          rw [List.map_cons, List.any_cons, q3 pos]
          rfl
        · cases e
          exact ⟨hs, q3⟩
      · cases h
    · cases h
theorem _root_.L2.PK.imp {X : Cx} {e : List Keyword} {t t' : TA} (h : PK X e t) (i : ∀ σ H Q, t' σ H Q → t σ H Q) : PK X e t' := ⟨fun pos pins s σ H Q I q => h.run pos pins s σ H Q I (i σ H Q q)⟩
theorem snd_ks (I : Snd P call gl k n) (T : Tw P X S call gl k) (kws : List Keyword) (ir : Es) (h : compEs P (n + 1) S (kws.map (·.value)) = some ir) : PK X kws (tEs X.K call gl ir false) := by
  cases kws with
  | nil =>
    unfold compEs at h
    cases h
    exact pk_nil.imp fun σ H Q => ax_nil
  | cons kw r =>
    obtain ⟨nm, v, p⟩ := kw
    unfold compEs at h
    simp only [List.map_cons] at h
    split at h
    · rename_i a' r' h1 h2
      split at h
      · cases h
        exact (pk_cons (I.e T v a' h1 false).1 (I.ks T r r' h2)).imp fun σ H Q => ax_cons
      · cases h
    · cases h
theorem snd_b (I : Snd P call gl k n) (T : Tw P X S call gl k) (op : BoolOp) (es : List Expr) (ir : E) (h : compB P (n + 1) S op es = some ir) (rd : Bool) (pos : Pos) : PE X (.BoolOp op es pos) (tE X.K call gl ir rd) := by
  unfold compB at h
  split at h
  · cases h
  · rename_i a
    exact pe_one (I.e T a ir h rd).1
  · rename_i a b r
    split at h
    · rename_i a' r' h1 h2
      cases op with
      | And =>
        cases h
        exact (pe_and (I.e T a a' h1 true).1 (I.b T .And (b :: r) r' h2 false pos)).imp fun σ H Q => ax_and
      | Or =>
        cases h
        exact (pe_or (I.e T a a' h1 true).1 (I.b T .Or (b :: r) r' h2 false pos)).imp fun σ H Q => ax_or
    · cases h
theorem snd_ts (I : Snd P call gl k n) (T : Tw P X S call gl k) (op : BoolOp) (es : List Expr) (ir : Pyv.T) (h : compTs P (n + 1) S op es = some ir) (pos : Pos) : PW X (.BoolOp op es pos) (tT X.K call gl ir) := by
  unfold compTs at h
  split at h
  · cases h
  · rename_i a
    cases op with
    | And => exact pw_and1 (I.t T a ir h)
    | Or => exact pw_or1 (I.t T a ir h)
  · rename_i a b r
    split at h
    · rename_i a' r' h1 h2
      cases op with
      | And =>
        cases h
        exact (pw_and (I.t T a a' h1) (I.ts T .And (b :: r) r' h2 pos)).imp fun σ H Q => ax_tand
      | Or =>
        cases h
        exact (pw_or (I.t T a a' h1) (I.ts T .Or (b :: r) r' h2 pos)).imp fun σ H Q => ax_tor
    · cases h
theorem snd_ifs (I : Snd P call gl k n) (T : Tw P X S call gl k) (es : List Expr) (ir : Ot) (h : compIfs P (n + 1) S es = some ir) : PTs X es (tOt X.K call gl ir) := by
  unfold compIfs at h
  split at h
  · cases h
    exact pts_nil.imp fun σ H Q => ax_tno
  · rename_i a
    obtain ⟨t, h1, h2⟩ := Option.map_eq_some_iff.mp h
    subst h2
    exact (pts_one (I.t T a t h1)).imp fun σ H Q => ax_tyes
  · cases h
theorem snd_o (I : Snd P call gl k n) (T : Tw P X S call gl k) (e : Option Expr) (ir : Oe) (h : compO P (n + 1) S e = some ir) : PO X e (tOe X.K call gl ir) := by
  unfold compO at h
  split at h
  · cases h
    exact po_none.imp fun σ H Q => ax_ono
  · rename_i a
    obtain ⟨t, h1, h2⟩ := Option.map_eq_some_iff.mp h
    subst h2
    exact (po_some (I.e T a t h1 true).1).imp fun σ H Q => ax_oyes
theorem two_he {a b : Expr} {env : Env} (ha : notStar a = true) (hb : notStar b = true) : starEach [a, b] env = (false, eval a env) :: starEach [b] env ∧ starEach [b] env = [(false, eval b env)] := ⟨notStar_he ha, notStar_he hb⟩
theorem snd_src (I : Snd P call gl k n) (T : Tw P X S call gl k) (tup : Bool) (e : Expr) (ir : Src) (h : compSrc P (n + 1) S tup e = some ir) (rd : Bool) (tg : Expr) (htg : tup = true → isTupE tg = true) : PI X tg e (tSrc X.K call gl ir rd) := by
  have seq : ∀ (e : Expr), (compE P n S e).map Src.seq = some ir → PI X tg e (tSrc X.K call gl ir rd) := by
    intro e h
    obtain ⟨e', h1, h2⟩ := Option.map_eq_some_iff.mp h
    subst h2
    exact (pi_seq (I.e T e e' h1 rd).1).imp fun σ H Q => ax_seq
  unfold compSrc at h
  split at h
  · rename_i x p args pos
    split at h
    · rename_i hg
      obtain ⟨hG, hN⟩ := T.glob hg
      split at h
      · rename_i hx
        subst hx
        have hm := T.blt "range" (by simp [bltNames])
        split at h
        · rename_i a
          split at h
          · rename_i a' h1
            split at h
            · rename_i hs
              cases h
              exact (pi_range1 hG hm (pa_cons (I.e T a a' h1 true).1 pa_nil (notStar_he hs)) (notStar_he hs)).imp fun σ H Q => ax_rng1
            · cases h
          · cases h
        · rename_i a b
          split at h
          · rename_i a' b' h1 h2
            split at h
            · rename_i hs
              cases h
              obtain ⟨e1, e2⟩ := two_he (env := X.env) hs.1 hs.2
              exact (pi_range2 hG hm (pa_cons (I.e T a a' h1 true).1 (pa_cons (I.e T b b' h2 true).1 pa_nil (notStar_he hs.2)) (notStar_he hs.1)) (by rw [e1, e2]) e2).imp fun σ H Q => ax_rng2
            · cases h
          · cases h
        · cases h
      · split at h
        · rename_i hx
          subst hx
          have hm := T.blt "zip" (by simp [bltNames])
          split at h
          · rename_i a b
            split at h
            · rename_i a' b' h1 h2
              split at h
              · rename_i hs
                cases h
                obtain ⟨e1, e2⟩ := two_he (env := X.env) hs.1 hs.2.1
                have ht := htg hs.2.2
                cases tg <;> first | (cases ht; done) | skip
                exact (RZ.pi_zipA hG hm (pa_cons (I.e T a a' h1 rd).1 (pa_cons (I.e T b b' h2 rd).1 pa_nil (notStar_he hs.2.1)) (notStar_he hs.1)) e1 (by rw [e2]; rfl)).imp fun σ H Q => ax_zip
              · cases h
            · cases h
          · cases h
        · split at h
          · rename_i hx
            subst hx
            have hm := T.blt "enumerate" (by simp [bltNames])
            split at h
            · rename_i a
              split at h
              · rename_i a' h1
                split at h
                · rename_i hs
                  cases h
                  have ht := htg hs.2
                  cases tg <;> first | (cases ht; done) | skip
                  exact (pi_enumA hG hm (pa_cons (I.e T a a' h1 rd).1 pa_nil (notStar_he hs.1)) (notStar_he hs.1)).imp fun σ H Q => ax_enum
                · cases h
              · cases h
            · cases h
          · exact seq _ h
    · cases h
  · exact seq _ h
theorem snd_l (I : Snd P call gl k n) (T : Tw P X S call gl k) (e : Expr) (ir : Src) (h : compL P (n + 1) S e = some ir) (rd : Bool) (p pos : Pos) (hL : Gl X "list") : PE X (.Call (.Name "list" p) [e] [] pos) (tE X.K call gl (.lsrc ir) rd) := by
  have hml := T.blt "list" (by simp [bltNames])
  unfold compL at h
  split at h
  · rename_i x p' args pos'
    split at h
    · rename_i hg
      obtain ⟨hG, hN⟩ := T.glob hg.1
      have hx := hg.2
      subst hx
      have hm := T.blt "range" (by simp [bltNames])
      split at h
      · rename_i a
        split at h
        · rename_i a' h1
          split at h
          · rename_i hs
            cases h
            exact (pe_listRg T.calm hL hml (prg_1 hG hm (I.e T a a' h1 true).1 (notStar_he hs)) rfl).imp fun σ H Q => ax_lrng1
          · cases h
        · cases h
      · rename_i a b
        split at h
        · rename_i a' b' h1 h2
          split at h
          · rename_i hs
            cases h
            obtain ⟨e1, e2⟩ := two_he (env := X.env) hs.1 hs.2
            exact (pe_listRg T.calm hL hml (prg_2 hG hm (I.e T a a' h1 true).1 (I.e T b b' h2 true).1 e1 e2 (by rw [e2]; rfl)) rfl).imp fun σ H Q => ax_lrng2
          · cases h
        · cases h
      · cases h
    · split at h
      · rename_i hg
        obtain ⟨hG, hN⟩ := T.glob hg.1
        have hx := hg.2
        subst hx
        have hm := T.blt "zip" (by simp [bltNames])
        split at h
        · rename_i a b
          split at h
          · rename_i a' b' h1 h2
            split at h
            · rename_i hs
              cases h
              obtain ⟨e1, e2⟩ := two_he (env := X.env) hs.1 hs.2
              exact (pe_listZip T.calm hL hml hG hm (pa_cons (I.e T a a' h1 true).1 (pa_cons (I.e T b b' h2 true).1 pa_nil (notStar_he hs.2)) (notStar_he hs.1)) e1 (by rw [e2]; rfl)).imp fun σ H Q => ax_lzip
            · cases h
          · cases h
        · cases h
      · cases h
  · cases h
theorem vals_perm {vs zs : List V} {us : List Value} (r : Vals vs us) : ∀ {perm : List Nat}, permL perm vs = some zs → ∃ ws, permL perm us = some ws ∧ Vals zs ws := by
  intro perm
  induction perm generalizing zs with
  | nil => intro h; cases h; exact ⟨[], rfl, .nil⟩
  | cons i perm ih =>
    intro h
    unfold permL at h
    split at h
    · rename_i v zs' h1 h2
      cases h
      obtain ⟨ws, e1, e2⟩ := ih h2
      obtain ⟨u, q1, q2⟩ := r.get h1
      exact ⟨u :: ws, by unfold permL; rw [q1, e1], .cons q2 e2⟩
    · cases h
theorem permL_length {α : Type} : ∀ {perm : List Nat} {ws us : List α}, permL perm ws = some us → us.length = perm.length
  | [], ws, us, h => by cases h; rfl
  | i :: perm, ws, us, h => by
    unfold permL at h
    split at h
    · rename_i h1 h2
      cases h
      simp [permL_length h2]
    · cases h
theorem pe_callP {CX : CXT} {f : Addr} {fd : FuncData} {ps ks : List Str} {sp : Sp} {E : XK} {x : Str} {p pos : Pos} {kws : List Keyword} {tk : TA} {perm : List Nat} (F : FnOk X.prog X.w X.K X.mg X.base CX k f fd ps sp) (hr : Room k X.A) (hg : Gl X x) (hm : X.mg x = some (.ref f)) (hk : PySem.W.keepIn X.K (.ref f) = true)
    (hp : perm.length = ks.length) (hb : ∀ (s : Shared) (ws us : List Value), X.K.In s.heap → ws.length = ks.length → permL perm ws = some us → BindsTo s fd ⟨[], ks.zip ws⟩ (ps.zip us)) (hx : Passes CX X E)
    (hkw : PK X kws tk) (hall : (backToKw pos (keywordEach kws X.env)).all (·.1.isSome) = true) (hks : (backToKw pos (keywordEach kws X.env)).filterMap (·.1) = ks) (hdb : (x == ("__debug__" : Str)) = false)
    (hpl : ((backTo pos (starEach [] X.env)).any (·.1) || (backToKw pos (keywordEach kws X.env)).any (·.1.isNone)) = false) :
    PE X (.Call (.Name x p) [] kws pos) (tCallP sp perm E tk) := by
  refine ⟨fun pins s σ H Q I h => ?_⟩
  refine wpAny_Call_Name_kw (ld_glob I hg hm ?_ hdb)
  refine PySem.W.callWith_KW0 (h₀ := X.base) I.ok.mod.kin hk hall (thn (hkw.run pos pins s σ H _ I h) fun ws s2 ⟨vs, H2, I2, rz, hl, zs, e, q2⟩ => ⟨I2.kIn, ?_⟩) hpl
  rw [hks]
  obtain ⟨us, e2, ru⟩ := vals_perm rz e
  have b := hb s2 ws us I2.kIn (by rw [← rz.length, hl, hp]) e2
  refine wpAny_call (codeAny_mono (F.run X.A X.stack s2 H2 ⟨[], ks.zip ws⟩ us zs Q E hr I2.env0 b ru q2) fun r s' hq => ?_)
  cases r with
  | error e => exact hx pins σ H2 s2 e s' I2 hq
  | ok fl =>
    cases fl with
    | ret u => exact I2.after hq
    | next => exact False.elim hq
    | brk => exact False.elim hq
    | cont => exact False.elim hq
theorem kw_names {pos : Pos} {env : Env} : ∀ {kws : List Keyword} {ks : List Str}, keywordNames kws = some ks → (backToKw pos (keywordEach kws env)).all (·.1.isSome) = true ∧ (backToKw pos (keywordEach kws env)).filterMap (·.1) = ks ∧ (backToKw pos (keywordEach kws env)).any (·.1.isNone) = false
  | [], ks, h => by cases h; exact ⟨rfl, rfl, rfl⟩
  | ⟨nm, v, p⟩ :: kws, ks, h => by
    unfold keywordNames at h
    split at h
    · rename_i x r h1 h2
      cases h
      have h1 : nm = some x := h1
      subst h1
      obtain ⟨q1, q2, q3⟩ := kw_names (pos := pos) (env := env) h2
      have e : backToKw pos (keywordEach (⟨some x, v, p⟩ :: kws) env) = (some x, do let v ← eval v env; standAt pos; pure v) :: backToKw pos (keywordEach kws env) := rfl
      rw [e]
      refine ⟨?_, ?_, ?_⟩
      · rw [List.all_cons, q1]; rfl
      · rw [List.filterMap_cons, q2]
      · rw [List.any_cons, q3]; rfl
    · cases h
theorem snd_call (I : Snd P call gl k n) (T : Tw P X S call gl k) (f : Expr) (args : List Expr) (kws : List Keyword) (pos : Pos) (ir : E) (h : compE P (n + 1) S (.Call f args kws pos) = some ir) (rd : Bool) : PE X (.Call f args kws pos) (tE X.K call gl ir rd) := by
  unfold compE at h
  simp only at h
  split at h
  · rename_i x p
    split at h
    · rename_i hg
      obtain ⟨hG, hN⟩ := T.glob hg
      split at h
      · rename_i i hi
        split at h
        · cases h
        · rename_i a as
          obtain ⟨es, h1, h2⟩ := Option.map_eq_some_iff.mp h
          subst h2
          obtain ⟨f, fd, ps, F, hm, hk, hb, _⟩ := T.fns i x (idxOf_get hi)
          obtain ⟨q1, q2, q3⟩ := I.es T _ es h1 false
          obtain ⟨s1, s2⟩ := q3 a as rfl
          exact (pe_call F T.room hG hm hk hb .nil passL q1 (nameOk_1 hN) (notStar_he s1) (s2 pos)).imp fun σ H Q => ax_call
      · split at h
        · rename_i hx
          subst hx
          split at h
          · rename_i a t p2
            split at h
            · rename_i hgt
              have hGt := T.glob hgt.1
              split at h
              · rename_i a' ty h1 h2
                cases h
                obtain ⟨b1, b2, b3, b4⟩ := boot_ty h2
                have ht : PE X (.Name t p2) (tC (.ty ty)) := pe_bltn hGt.1 (T.blt t b2) b1 rfl b3 b4
                obtain ⟨q1, _⟩ := I.e T a a' h1 true
                exact (pe_callB call_isi hG (T.blt _ (by simp [bltNames])) (by decide +kernel) (pa_cons q1 (pa_cons ht pa_nil rfl) (notStar_he hgt.2)) (by decide) (by decide) (notStar_he hgt.2) rfl).imp fun σ H Q => ax_isi
              · cases h
            · cases h
          · cases h
        · split at h
          · rename_i b a as hb
            split at h
            · rename_i es h1
              cases h
              obtain ⟨e1, e2, e3⟩ := bltOf_ok hb
              subst e1
              obtain ⟨q1, q2, q3⟩ := I.es T _ es h1 true
              obtain ⟨s1, s2⟩ := q3 a as rfl
              exact (pe_blt (call_blt T.room T.calm b) hG (T.blt _ (bltN_mem b e3)) q1 (notStar_he s1) (s2 pos)).imp fun σ H Q => ax_blt e2
            · split at h
              · split at h
                · rename_i hx
                  subst hx
                  obtain ⟨src, h1, h2⟩ := Option.map_eq_some_iff.mp h
                  subst h2
                  exact I.l T a src h1 rd p pos hG
                · cases h
              · cases h
          · cases h
    · cases h
  · rename_i x p kw kwr
    split at h
    · rename_i hg
      obtain ⟨hG, hN⟩ := T.glob hg
      split at h
      · rename_i i ks hi hk
        split at h
        · rename_i perm es h1 h2
          cases h
          obtain ⟨f, fd, ps, F, hm, hkp, _, hkw⟩ := T.fns i x (idxOf_get hi)
          obtain ⟨k1, k2⟩ := hkw ks perm h1
          obtain ⟨n1, n2, n3⟩ := kw_names (pos := pos) (env := X.env) hk
          exact (pe_callP F T.room hG hm hkp k1 k2 passL (I.ks T (kw :: kwr) es h2) n1 n2 (nameOk_1 hN) (by rw [n3]; rfl)).imp fun σ H Q => ax_callK
        · cases h
      · cases h
    · cases h
  · cases h
theorem snd_lc (I : Snd P call gl k n) (T : Tw P X S call gl k) (elt : Expr) (gens : List Comprehension) (scope : Scope) (pos : Pos) (ir : E) (h : compE P (n + 1) S (.ListComp elt gens scope pos) = some ir) (rd : Bool) :
    PE X (.ListComp elt gens scope pos) (tE X.K call gl ir rd) := by
  unfold compE at h
  simp only at h
  split at h
  · rename_i gt gi gf ga
    split at h
    · rename_i src tg t e' h1 h2 h3 h4
      split at h
      · rename_i hc
        cases h
        have ok : BlkOk X.N X.env.scope scope (ownOf S.N scope) := blkOk_by (by rw [T.N, T.sc]; exact hc.1)
        exact (pe_lc T.calm T.nd (I.src T (isTupE gt) gi src h1 true gt fun z => z) ok
          (fun s H C cl fp => (compTg_ok (T.blk scope s H C cl fp) gt tg h2).1)
          (fun s H C cl fp => I.ifs (T.blk scope s H C cl fp) gf t h3)
          (fun s H C cl fp => (I.e (T.blk scope s H C cl fp) elt e' h4 false).1)
          (notSet_fold hc.2.2)).imp fun σ H Q => ax_lc hc.2.1
      · cases h
    · cases h
  · cases h
theorem snd_e (I : Snd P call gl k n) (T : Tw P X S call gl k) (e : Expr) (ir : E) (h : compE P (n + 1) S e = some ir) (rd : Bool) :
    PE X e (tE X.K call gl ir rd) ∧ (isCmpE e = true → PT X e (tTest (tE X.K call gl ir rd)) ∧ isCmpIr ir = true) := by
  cases e
  case Name x p =>
    refine ⟨?_, fun z => by cases z⟩
    unfold compE at h
    simp only at h
    split at h
    · rename_i i hi
      cases h
      obtain ⟨q1, q2, q3⟩ := slotV_ok T hi
      exact (pe_var q1 q2 (nameOk_1 q3) (nameOk_2 q3)).imp fun σ H Q => ax_var
    · split at h
      · rename_i hg
        obtain ⟨hG, hN⟩ := T.glob hg
        obtain ⟨i, h1, h2⟩ := Option.map_eq_some_iff.mp h
        subst h2
        obtain ⟨d, u, v, e1, e2, e3, e4⟩ := T.gls i x (idxOf_get h1)
        exact (pe_glob hG e2 e3 (nameOk_1 hN)).imp fun σ H Q => ax_glb e1 e4
      · cases h
  case Constant c kk p =>
    refine ⟨?_, fun z => by cases z⟩
    unfold compE at h
    simp only at h
    split at h
    · cases h
      exact pe_int.imp fun σ H Q => ax_lit fun _ _ => .int
    · cases h
      exact pe_bl.imp fun σ H Q => ax_lit fun _ _ => .bool
    · cases h
      exact pe_non.imp fun σ H Q => ax_lit fun _ _ => .none
    · cases h
      exact pe_str.imp fun σ H Q => ax_lit fun _ _ => .str
    · cases h
  case BinOp a op b p =>
    refine ⟨?_, fun z => by cases z⟩
    unfold compE at h
    simp only at h
    split at h
    · rename_i a' b' h1 h2
      split at h
      · cases h
        exact (pe_op (op_bin op) (I.e T a a' h1 true).1 (I.e T b b' h2 true).1).imp fun σ H Q => ax_bin
      · cases h
    · cases h
  case UnaryOp op a p =>
    refine ⟨?_, fun z => by cases z⟩
    unfold compE at h
    simp only at h
    split at h
    · rename_i a' h1
      cases h
      exact (pe_un un_neg (I.e T a a' h1 true).1).imp fun σ H Q => ax_neg
    · rename_i a' h1
      cases h
      exact (pe_not (I.e T a a' h1 true).1).imp fun σ H Q => ax_not
    · cases h
  case Compare a ops bs p =>
    unfold compE at h
    simp only at h
    split at h
    · rename_i op b
      split at h
      · rename_i a' b' h1 h2
        split at h
        · rename_i hs
          cases h
          have q1 := (I.e T a a' h1 true).1
          have q2 := (I.e T b b' h2 true).1
          refine ⟨(pe_cmpR (op_cmp T.room op) q1 q2 (notSet_mark hs)).imp fun σ H Q => ax_cmp, fun _ => ⟨(pt_cmpR (op_cmp T.room op) q1 q2 (notSet_mark hs)).imp fun σ H Q => ax_cmp, rfl⟩⟩
        · cases h
      · cases h
    · rename_i op op' b c
      split at h
      · rename_i a' b' c' h1 h2 h3
        split at h
        · rename_i hs
          cases h
          have q1 := (I.e T a a' h1 true).1
          have q2 := (I.e T b b' h2 true).1
          have q3 := (I.e T c c' h3 true).1
          have hm : lastMarks [op, op'] [b, c] = false := notSet_mark (op := op') hs
          refine ⟨(pe_chain (op_cmp T.room op) (op_cmp T.room op') q1 q2 q3 hm).imp fun σ H Q => ax_chain, fun _ => ⟨(pt_chain (op_cmp T.room op) (op_cmp T.room op') q1 q2 q3 hm).imp fun σ H Q => ax_chain, rfl⟩⟩
        · cases h
      · cases h
    · cases h
  case BoolOp op es p =>
    refine ⟨?_, fun z => by cases z⟩
    unfold compE at h
    exact I.b T op es ir h rd p
  case IfExp t a b p =>
    refine ⟨?_, fun z => by cases z⟩
    unfold compE at h
    simp only at h
    split at h
    · rename_i t' a' b' h1 h2 h3
      cases h
      exact (pe_ifExp (I.t T t t' h1) (I.e T a a' h2 rd).1 (I.e T b b' h3 rd).1).imp fun σ H Q => ax_ite
    · cases h
  case Tuple es x1 p =>
    refine ⟨?_, fun z => by cases z⟩
    unfold compE at h
    obtain ⟨es', h1, h2⟩ := Option.map_eq_some_iff.mp h
    subst h2
    exact (pe_tup (I.es T es es' h1 false).1).imp fun σ H Q => ax_tup
  case List es p =>
    refine ⟨?_, fun z => by cases z⟩
    unfold compE at h
    obtain ⟨es', h1, h2⟩ := Option.map_eq_some_iff.mp h
    subst h2
    exact (pe_lst (I.es T es es' h1 false).1).imp fun σ H Q => ax_lst
  case Subscript a b p =>
    refine ⟨?_, fun z => by cases z⟩
    unfold compE at h
    simp only at h
    split at h
    · rename_i lo hi st p2
      split at h
      · rename_i a' l hh h1 h2 h3
        cases h
        exact (pe_slice sl_any (I.e T a a' h1 true).1 (I.o T lo l h2) (I.o T hi hh h3)).imp fun σ H Q => ax_sl
      · cases h
    · split at h
      · rename_i a' b' h1 h2
        split at h
        · rename_i hs
          cases h
          exact (pe_ix ix_seq (I.e T a a' h1 true).1 (I.e T b b' h2 true).1 (plainIx hs)).imp fun σ H Q => ax_ix
        · cases h
      · cases h
  case Call f args kws p => exact ⟨snd_call I T f args kws p ir h rd, fun z => by cases z⟩
  case ListComp elt gens scope p => exact ⟨snd_lc I T elt gens scope p ir h rd, fun z => by cases z⟩
  all_goals
    unfold compE at h
    cases h
theorem snd : ∀ n, Snd P call gl k n
  | 0 => snd0
  | n + 1 =>
    have I := snd n
    { e := fun T e ir h rd => snd_e I T e ir h rd
      b := fun T op es ir h rd pos => snd_b I T op es ir h rd pos
      t := fun T e ir h => snd_t I T e ir h
      ts := fun T op es ir h pos => snd_ts I T op es ir h pos
      ifs := fun T es ir h => snd_ifs I T es ir h
      es := fun T es ir h rd => snd_es I T es ir h rd
      ks := fun T kws ir h => snd_ks I T kws ir h
      o := fun T e ir h => snd_o I T e ir h
      src := fun T tup e ir h rd tg ht => snd_src I T tup e ir h rd tg ht
      l := fun T e ir h rd p pos hL => snd_l I T e ir h rd p pos hL }
end
end Pyv
end
/-! ## Pyv10 -/
section
set_option maxRecDepth 100000
set_option maxHeartbeats 4000000
/-! Pyv 10: statements, from the text to the language. -/
namespace Pyv
open PySem PySem.Spec PyProof.Rows L2

def nameSlots (S : Sx) : List Expr → Option (List Nat)
  | [] => some []
  | .Name x _ :: r => match slotL S x, nameSlots S r with
    | some i, some is => some (i :: is)
    | _, _ => none
  | _ :: _ => none
def distinct : List Nat → Bool
  | [] => true
  | i :: r => !r.contains i && distinct r
/-- a plain local name of this line -/
def loc1 (S : Sx) (line : Nat) : Expr → Bool
  | .Name x p => kindB S.sc x .local && p.line == line
  | _ => false
/-- some true: stored from the right; some false: in order -/
def parK (S : Sx) (ts es : List Expr) : Option Bool :=
  if (ts.length == 2 || ts.length == 3) && ts.all (loc1 S ((ts.head?.map (·.pos.line)).getD 0)) then
    (if es.all (foldedForSure 8) then none else if es.all (constantsAlone 8) then none else some true)
  else some false
mutual
def compS (P : Px) : Nat → Sx → Stmt → Option Pyv.S
  | 0, _, _ => none
  | n + 1, S, st => match st with
    | .Assign targets e pos => (match targets with
      | [.Name x px] => (match slotL S x, compE P n S e with
        | some i, some e' => some (.asg (.name i) e')
        | _, _ => none)
      | [.Tuple ts kt pt] => (match e with
        | .Tuple es k2 pt2 => (match nameSlots S ts, compEs P n S es, parK S ts es with
          | some is, some es', some _ => if distinct is = true ∧ ts.length = es.length ∧ is.length ≤ 100 then some (.par is es') else none
          | _, _, _ => none)
        | e => (match compTg S (.Tuple ts kt pt), compE P n S e with
          | some tg, some e' => if isComp e = false then some (.asg tg e') else none
          | _, _ => none))
      | [.Subscript (.Name x px) a pt] => (match slotV S x, compE P n S a, compE P n S e with
        | some i, some a', some e' => if isComp e = false ∧ notSlice a = true then some (.setIx i a' e') else none
        | _, _, _ => none)
      | _ => none)
    | .AugAssign tg op e _ => (match tg with
      | .Name x _ => (match slotL S x, compE P n S e, op with
        | some i, some e', .Add => some (.aug i .Add e')
        | some i, some e', .Sub => some (.aug i .Sub e')
        | _, _, _ => none)
      | _ => none)
    | .Expr e pos => (match e with
      | .Call (.Attribute (.Name x p1) m apos) args kws cpos => (match args, kws with
        | [a], [] => (match slotV S x, compE P n S a with
          | some i, some a' => if notStar a = true ∧ (apos.endLine == cpos.line) = true then (if m = "append" then some (.app i a') else if m = "extend" then some (.ext i a') else none) else none
          | _, _ => none)
        | _, _ => none)
      | e => (match compE P n S e with
        | some e' => if isComp e = false then some (.expr e') else none
        | none => none))
    | .If c a b _ => (match compT P n S c, compSs P n S a, compSs P n S b with
      | some c', some a', some b' => some (.ifS c' a' b')
      | _, _, _ => none)
    | .For tg it b els _ => (match els, compTg S tg, compSrc P n S (isTupE tg) it, compSs P n S b with
      | [], some tg', some src, some b' => if notSet it = true then some (.forS tg' src b') else none
      | _, _, _, _ => none)
    | .Return e _ => (match e with
      | none => some .retN
      | some (.Name x _) => (match slotV S x with
        | some i => some (.retV i)
        | none => none)
      | some e => (compE P n S e).map .ret)
    | .Raise _ _ _ => some .never
    | .Pass _ => some .pass
    | .Break _ => some .brk
    | .Continue _ => some .cont
    | _ => none
def compSs (P : Px) : Nat → Sx → List Stmt → Option Ss
  | 0, _, _ => none
  | n + 1, S, sts => match sts with
    | [] => some .nil
    | st :: r => (match compS P n S st, compSs P n S r with
      | some a, some b => some (.cons a b)
      | _, _ => none)
end

section
variable {K : PySem.W.Frag} {call : Nat → List W → DS → RF} {gl : List PyData} {ms : Ms} {R : Addr → Prop} {Z H H' : Hp} {σ σ' : L2.St} {c c' : Cfg} {A B : Addr → Prop} {v : V} {w : W}
/-! ### what a statement wishes -/
def GoodS (K : PySem.W.Frag) (ms : Ms) (R : Addr → Prop) (Z : Hp) (D : Ends) : Out → Prop
  | .next c => ∀ σ H, Conf K ms R Z σ H c → D.nx σ H
  | .ret w c => ∀ σ H v, Yld K ms R Z σ H c v w → D.rt v H
  | .brk c => ∀ σ H, Conf K ms R Z σ H c → D.bk σ H
  | .cont c => ∀ σ H, Conf K ms R Z σ H c → D.ct σ H
  | .exc _ _ _ => False
  | .bad => False
def tS (K : PySem.W.Frag) (call : Nat → List W → DS → RF) (gl : List PyData) (s : Pyv.S) : TS := fun D σ H => ∃ ms R Z c, Conf K ms R Z σ H c ∧ GoodS K ms R Z D (evS call gl s c)
def tSs (K : PySem.W.Frag) (call : Nat → List W → DS → RF) (gl : List PyData) (s : Ss) : TS := fun D σ H => ∃ ms R Z c, Conf K ms R Z σ H c ∧ GoodS K ms R Z D (evSs call gl s c)
theorem outG {α β : Type} {Y : Hp → Cfg → β → α → Prop} {D : Ends} {r : Rs α} {f : α → Cfg → Out} (g : GoodS K ms R Z D (r.out f)) :
    Good ms σ X0 Y H c (fun b H1 => ∃ a c1, r = .ok a c1 ∧ Keep ms H H1 ∧ Sub σ c c1 ∧ Y H1 c1 b a ∧ GoodS K ms R Z D (f a c1)) r := by
  cases r with
  | ok a c1 => exact fun b H1 s k y => ⟨a, c1, rfl, k, s, y, g⟩
  | exc k ds c1 => exact (g : False).elim
  | bad => exact (g : False).elim
theorem outE {e : E} {rd : Bool} {D : Ends} {f : W → Cfg → Out} (C : Conf K ms R Z σ H c) (g : GoodS K ms R Z D ((evE call gl e rd c).out f)) :
    tE K call gl e rd σ H fun v H1 => ∃ w c1, Keep ms H H1 ∧ Sub σ c c1 ∧ Yld K ms R Z σ H1 c1 v w ∧ GoodS K ms R Z D (f w c1) :=
  ⟨ms, R, Z, c, C, (outG (Y := Yld K ms R Z σ) g).mono' fun v H1 ⟨w, c1, _, k, s, y, g1⟩ => ⟨w, c1, k, s, y, g1⟩⟩
theorem outT {e : Pyv.T} {D : Ends} {f : Bool → Cfg → Out} (C : Conf K ms R Z σ H c) (g : GoodS K ms R Z D ((evT call gl e c).out f)) :
    tT K call gl e σ H fun b H1 => ∃ c1, Conf K ms R Z σ H1 c1 ∧ GoodS K ms R Z D (f b c1) :=
  ⟨ms, R, Z, c, C, (outG (Y := YB K ms R Z σ) g).mono' fun v H1 ⟨w, c1, _, k, s, y, g1⟩ => ⟨c1, y.2, by rw [y.1]; exact g1⟩⟩

/-! ### the slots' own lists, written -/
theorem Conf.mut (C : Conf K ms R Z σ H c) (nb : c.ρ.all notBor = true) {i : Nat} {p : Addr} {ds ds' : List PyData} {us : List V} (e : c.ρ[i]? = some (some (.own ds))) (e1 : σ[i]? = some (some (.ref p)))
    (r : Reps K (Res ms R σ c.ρ) H us ds') : Conf K ms R Z σ (upd H p (.lst us)) (setR c i (.own ds')) := by
  have hi := lt_of_some e
  have own : OwnA σ c.ρ p := ⟨i, ds, e, e1⟩
  obtain ⟨nR, na, zp⟩ := C.own p own
  have sub : ∀ a, OwnA σ (setR c i (.own ds')).ρ a ↔ OwnA σ c.ρ a := by
    intro a
    constructor
    · rintro ⟨j, es, h1, h2⟩
      rcases get_set h1 with ⟨z, _, _⟩ | ⟨_, z⟩
      · subst z
        exact ⟨i, ds, e, h2⟩
      · exact ⟨j, es, z, h2⟩
    · rintro ⟨j, es, h1, h2⟩
      by_cases z : i = j
      · subst z
        exact ⟨i, ds', set_get hi, h2⟩
      · exact ⟨j, es, by show (c.ρ.set i _)[j]? = _; rw [List.getElem?_set_ne z]; exact h1, h2⟩
  have ro : ∀ a, Res ms R σ (setR c i (.own ds')).ρ a → Res ms R σ c.ρ a := res_of_sub fun a z => .inr ((sub a).mp z)
  have up : ∀ a o, H a = some o → ¬ Res ms R σ c.ρ a → upd H p (.lst us) a = some o ∧ ¬ Res ms R σ (setR c i (.own ds')).ρ a := fun a o e n =>
    ⟨by rw [upd_ne fun z => n (by rw [z]; exact .inr (.inl own))]; exact e, fun z => n (ro a z)⟩
  refine ⟨?_, fun j w h => ?_, fun j k ds1 es q h1 h2 h3 h4 => ?_, fun q hq => C.own q ((sub q).mp hq), fun q hq => ⟨?_, (C.rd q hq).2⟩, fun a o e n => ?_, C.st.upd' na⟩
  · show (c.ρ.set i _).length = _
    rw [List.length_set]; exact C.len
  · rcases get_set h with ⟨z1, _, z⟩ | ⟨n, z⟩
    · subst z1
      cases z
      exact ⟨_, e1, p, us, rfl, upd_same, na, Reps.imp up _ _ r⟩
    · obtain ⟨u, h1, h2⟩ := C.slot j w z
      refine ⟨u, h1, ?_⟩
      cases w with
      | val d => exact Rep.imp up _ _ h2
      | own es =>
        obtain ⟨q, vs, rfl, b1, b2, b3⟩ := h2
        have : q ≠ p := fun y => n (C.inj i j ds es p e e1 z (by rw [← y]; exact h1))
        exact ⟨q, vs, rfl, by rw [upd_ne this]; exact b1, b2, Reps.imp up _ _ b3⟩
      | bor es =>
        have := List.all_eq_true.mp nb _ (List.mem_of_getElem? z)
        cases this
      | stm => exact h2
  · have own' : ∀ {j : Nat} {es : List PyData}, (setR c i (.own ds')).ρ[j]? = some (some (.own es)) → ∃ es', c.ρ[j]? = some (some (.own es')) := by
      intro j es h
      rcases get_set h with ⟨z, _, _⟩ | ⟨_, z⟩
      · subst z
        exact ⟨ds, e⟩
      · exact ⟨es, z⟩
    obtain ⟨_, q1⟩ := own' h1
    obtain ⟨_, q2⟩ := own' h3
    exact C.inj j k _ _ q q1 h2 q2 h4
  · by_cases z : q = p
    · rw [z, upd_same]; simp
    · rw [upd_ne z]; exact (C.rd q hq).1
  · rw [upd_ne fun z => by rw [z, zp] at e; cases e]
    exact C.ez a o e n

/-! ### freezing what is there, for a loop -/
open Classical in
noncomputable def frz (σ : L2.St) (ρ : List (Option W)) (H : Hp) : Hp := fun a => if OwnA σ ρ a then none else H a
theorem frz_some {ρ : List (Option W)} {a : Addr} {o : HO} (h : frz σ ρ H a = some o) : H a = some o ∧ ¬ OwnA σ ρ a := by
  unfold frz at h
  split at h
  · cases h
  · exact ⟨h, ‹_›⟩
theorem frz_of {ρ : List (Option W)} {a : Addr} (h : ¬ OwnA σ ρ a) : frz σ ρ H a = H a := by
  unfold frz
  rw [if_neg h]
theorem frz_own {ρ : List (Option W)} {a : Addr} (h : OwnA σ ρ a) : frz σ ρ H a = none := by
  unfold frz
  rw [if_pos h]
theorem Conf.frz (C : Conf K ms R Z σ H c) : Conf K ms R (Pyv.frz σ c.ρ H) σ H c :=
  ⟨C.len, C.slot, C.inj, fun p h => ⟨(C.own p h).1, (C.own p h).2.1, frz_own h⟩, C.rd, fun a o e n => (frz_some e).1, C.st⟩
theorem frz_le (C : Conf K ms R Z σ H c) : ∀ a o, Z a = some o → ¬ ms.at_ a → Pyv.frz σ c.ρ H a = some o := fun a o e n => by
  rw [frz_of fun z => by rw [(C.own a z).2.2] at e; cases e]
  exact C.ez a o e n
theorem Conf.unfrz {Z' : Hp} (le : ∀ a o, Z a = some o → ¬ ms.at_ a → Z' a = some o) (C : Conf K ms R Z' σ H c) : Conf K ms R Z σ H c :=
  ⟨C.len, C.slot, C.inj, fun p h => ⟨(C.own p h).1, (C.own p h).2.1, by
    cases e : Z p with
    | none => rfl
    | some o => have := le p o e (C.own p h).2.1; rw [(C.own p h).2.2] at this; cases this⟩, C.rd, fun a o e n => C.ez a o (le a o e n) n, C.st⟩
theorem Yld.unfrz {Z' : Hp} (le : ∀ a o, Z a = some o → ¬ ms.at_ a → Z' a = some o) (y : Yld K ms R Z' σ H c v w) : Yld K ms R Z σ H c v w := by
  cases w with
  | own ds =>
    obtain ⟨p, vs, rfl, h1, h2, h3, C, r⟩ := y
    refine ⟨p, vs, rfl, h1, ?_, h3, C.unfrz le, r⟩
    cases e : Z p with
    | none => rfl
    | some o => have := le p o e (C.rd p (.inr rfl)).2; rw [h2] at this; cases this
  | val d => exact ⟨y.1.unfrz le, y.2⟩
  | bor d => exact ⟨y.1.unfrz le, y.2⟩
  | stm => exact ⟨y.1.unfrz le, y.2⟩
theorem GoodS.frz {Z' : Hp} {D : Ends} (le : ∀ a o, Z a = some o → ¬ ms.at_ a → Z' a = some o) : ∀ {o : Out}, GoodS K ms R Z D o → GoodS K ms R Z' D o
  | .next c, g => fun σ H C => g σ H (C.unfrz le)
  | .ret w c, g => fun σ H v y => g σ H v (y.unfrz le)
  | .brk c, g => fun σ H C => g σ H (C.unfrz le)
  | .cont c, g => fun σ H C => g σ H (C.unfrz le)
  | .exc _ _ _, g => g
  | .bad, g => g
theorem Good.imp {α β : Type} {X : XK'} {Y Y' : Hp → Cfg → β → α → Prop} {Q : β → Hp → Prop} {r : Rs α} (i : ∀ H c b a, Y' H c b a → Y H c b a) (g : Good ms σ X Y H c Q r) : Good ms σ X Y' H c Q r := by
  cases r with
  | ok a c' => exact fun b H' s k y => g b H' s k (i _ _ _ _ y)
  | exc _ _ _ => exact g
  | bad => exact g

/-! ### values, each its holder's own -/
inductive Lst (K : PySem.W.Frag) (ms : Ms) (Z H : Hp) (A : Addr → Prop) : (Addr → Prop) → List V → List W → (Addr → Prop) → Prop
  | nil {R : Addr → Prop} : Lst K ms Z H A R [] [] R
  | own {R R' : Addr → Prop} {p : Addr} {us : List V} {ds : List PyData} {vs : List V} {ws : List W} : H p = some (.lst us) → Z p = none → ¬ R p → Reps K A H us ds → Lst K ms Z H A (fun a => R a ∨ a = p) vs ws R' → Lst K ms Z H A R (.ref p :: vs) (.own ds :: ws) R'
  | val {R R' : Addr → Prop} {v : V} {w : W} {vs : List V} {ws : List W} : (∀ ds, w ≠ .own ds) → RepV K A H ms v w → Lst K ms Z H A R vs ws R' → Lst K ms Z H A R (v :: vs) (w :: ws) R'
def YP (K : PySem.W.Frag) (ms : Ms) (R : Addr → Prop) (Z : Hp) (σ : L2.St) (H : Hp) (c : Cfg) (vs : List V) (ws : List W) : Prop := ∃ R', Conf K ms R' Z σ H c ∧ Lst K ms Z H (Res ms R' σ c.ρ) R vs ws R'
def tPs (K : PySem.W.Frag) (call : Nat → List W → DS → RF) (gl : List PyData) (es : Es) : TA := fun σ H Q => ∃ ms R Z c, Conf K ms R Z σ H c ∧ Good ms σ X0 (YP K ms R Z σ) H c Q (evPs call gl es c)
theorem Lst.res : ∀ {R R' : Addr → Prop} {vs : List V} {ws : List W}, Lst K ms Z H A R vs ws R' → ∀ a, R' a → R a ∨ Z a = none
  | _, _, _, _, .nil, a, h => .inl h
  | _, _, _, _, .own h1 h2 h3 r t, a, h => by
    rcases Lst.res t a h with (z | z) | z
    · exact .inl z
    · exact .inr (by rw [z]; exact h2)
    · exact .inr z
  | _, _, _, _, .val _ _ t, a, h => Lst.res t a h
theorem Lst.unfrz {Z' : Hp} (le : ∀ a o, Z a = some o → ¬ ms.at_ a → Z' a = some o) : ∀ {R R' : Addr → Prop} {vs : List V} {ws : List W}, (∀ a, R' a → ¬ ms.at_ a) → Lst K ms Z' H A R vs ws R' → (∀ a, R a → R' a) ∧ Lst K ms Z H A R vs ws R'
  | _, _, _, _, _, .nil => ⟨fun _ h => h, .nil⟩
  | _, _, _, _, na, .own (p := p) h1 h2 h3 r t => by
    obtain ⟨s, t'⟩ := Lst.unfrz le na t
    refine ⟨fun a z => s a (.inl z), .own h1 ?_ h3 r t'⟩
    cases e : Z p with
    | none => rfl
    | some o => have := le p o e (na p (s p (.inr rfl))); rw [h2] at this; cases this
  | _, _, _, _, na, .val n r t => by
    obtain ⟨s, t'⟩ := Lst.unfrz le na t
    exact ⟨s, .val n r t'⟩
theorem ax_pnil {Q : List V → Hp → Prop} (h : tPs K call gl .nil σ H Q) : tNil σ H Q := by
  obtain ⟨ms, R, Z, c, C, g⟩ := h
  exact Good.now (a := ([] : List W)) (c := c) g ⟨R, C, .nil⟩
theorem ax_pcons {e : E} {r : Es} {Q : List V → Hp → Prop} (h : tPs K call gl (.cons e r) σ H Q) : tCons (tE K call gl e false) (tPs K call gl r) σ H Q := by
  obtain ⟨ms, R, Z, c, C, g⟩ := h
  refine (bindE C g).mono fun x H1 ⟨w, c1, k1, s1, y1, g1⟩ => ?_
  have key : ∀ R1 : Addr → Prop, Conf K ms R1 Z σ H1 c1 → (∀ H2 c2 vs ws, Keep ms H1 H2 → Sub σ c1 c2 → YP K ms R1 (Pyv.frz σ c1.ρ H1) σ H2 c2 vs ws → YP K ms R Z σ H2 c2 (x :: vs) (w :: ws)) → tPs K call gl r σ H1 fun xs H2 => Q (x :: xs) H2 := by
    intro R1 C1 i
    refine ⟨ms, R1, Pyv.frz σ c1.ρ H1, c1, C1.frz, ?_⟩
    have g2 := Good.bind (Y1 := YP K ms R1 (Pyv.frz σ c1.ρ H1) σ) g1
    exact g2.mono' fun xs H2 ⟨ws, c2, _, k2, s2, y2, g3⟩ => Good.now (c := c2) g3 (i H2 c2 xs ws k2 s2 y2)
  cases w with
  | own ds =>
    obtain ⟨p, us, rfl, h1, h2, h3, C1, r1⟩ := y1
    refine key _ C1 fun H2 c2 vs ws k2 s2 ⟨R', C2, l2⟩ => ?_
    have le := frz_le C1
    have C3 := C2.unfrz le
    obtain ⟨sR, l3⟩ := l2.unfrz le fun a z => (C2.rd a z).2
    refine ⟨R', C3, .own (k2 p _ h1 (C1.rd p (.inr rfl)).2) h2 h3 (Reps.imp (fun a o e n => ⟨k2 a o e fun z => n (.inr (.inr z)), fun z => ?_⟩) _ _ r1) l3⟩
    rcases z with z | z | z
    · rcases l2.res a z with q | q
      · exact n (.inl q)
      · rw [frz_of fun y => n (.inr (.inl y)), e] at q; cases q
    · exact n (.inr (.inl (s2 a z)))
    · exact n (.inr (.inr z))
  | val d =>
    refine key _ y1.1 fun H2 c2 vs ws k2 s2 ⟨R', C2, l2⟩ => ?_
    have le := frz_le y1.1
    have C3 := C2.unfrz le
    obtain ⟨sR, l3⟩ := l2.unfrz le fun a z => (C2.rd a z).2
    refine ⟨R', C3, .val (fun _ z => by cases z) (RepV.imp (fun a o e n => ⟨k2 a o e fun z => n (.inr (.inr z)), fun z => ?_⟩) k2 y1.2) l3⟩
    rcases z with z | z | z
    · rcases l2.res a z with q | q
      · exact n (.inl q)
      · rw [frz_of fun y => n (.inr (.inl y)), e] at q; cases q
    · exact n (.inr (.inl (s2 a z)))
    · exact n (.inr (.inr z))
  | bor d =>
    refine key _ y1.1 fun H2 c2 vs ws k2 s2 ⟨R', C2, l2⟩ => ?_
    have le := frz_le y1.1
    have C3 := C2.unfrz le
    obtain ⟨sR, l3⟩ := l2.unfrz le fun a z => (C2.rd a z).2
    refine ⟨R', C3, .val (fun _ z => by cases z) (RepV.imp (fun a o e n => ⟨k2 a o e fun z => n (.inr (.inr z)), fun z => ?_⟩) k2 y1.2) l3⟩
    rcases z with z | z | z
    · rcases l2.res a z with q | q
      · exact n (.inl q)
      · rw [frz_of fun y => n (.inr (.inl y)), e] at q; cases q
    · exact n (.inr (.inl (s2 a z)))
    · exact n (.inr (.inr z))
  | stm =>
    refine key _ y1.1 fun H2 c2 vs ws k2 s2 ⟨R', C2, l2⟩ => ?_
    have le := frz_le y1.1
    have C3 := C2.unfrz le
    obtain ⟨sR, l3⟩ := l2.unfrz le fun a z => (C2.rd a z).2
    exact ⟨R', C3, .val (fun _ z => by cases z) y1.2 l3⟩
end
end Pyv
end
/-! ## Pyv11 -/
section
set_option maxRecDepth 100000
set_option maxHeartbeats 4000000
/-! Pyv 11: the readings of statements. -/
namespace Pyv
open PySem PySem.Spec PyProof.Rows L2

section
variable {K : PySem.W.Frag} {call : Nat → List W → DS → RF} {gl : List PyData} {ms : Ms} {R : Addr → Prop} {Z H H' : Hp} {σ σ' : L2.St} {c c' : Cfg} {A B : Addr → Prop} {v : V} {w : W}
/-! ### stores -/
theorem own_set {ρ : List (Option W)} {i : Nat} {a : Addr} (h : OwnA (σ.set i (some v)) (ρ.set i (some w)) a) : (∃ ds, w = .own ds ∧ v = .ref a) ∨ OwnA σ ρ a := by
  obtain ⟨j, es, h1, h2⟩ := h
  rcases get_set h1 with ⟨e, _, z⟩ | ⟨n, z⟩
  · subst e
    rcases get_set h2 with ⟨_, _, y⟩ | ⟨y, _⟩
    · exact .inl ⟨es, (Option.some.inj z).symm, (Option.some.inj y).symm⟩
    · exact absurd rfl y
  · rw [List.getElem?_set_ne n] at h2
    exact .inr ⟨j, es, z, h2⟩
theorem asgW_name {i : Nat} (h : asgW (.name i) w c = some c') : i < c.ρ.length ∧ c' = setR c i w ∧ ∀ ds, w ≠ .bor ds := by
  cases w with
  | val d =>
    have h : asgTg (.name i) d c = some c' := h
    unfold asgTg at h
    split at h
    · cases h; exact ⟨‹_›, rfl, fun _ z => by cases z⟩
    · cases h
  | own ds =>
    have h : (if i < c.ρ.length then some (setR c i (.own ds)) else none) = some c' := h
    split at h
    · cases h; exact ⟨‹_›, rfl, fun _ z => by cases z⟩
    · cases h
  | bor ds => cases h
  | stm =>
    have h : (if i < c.ρ.length then some (setR c i .stm) else none) = some c' := h
    split at h
    · cases h; exact ⟨‹_›, rfl, fun _ z => by cases z⟩
    · cases h
/-- a value is stored at a name -/
theorem store_name {i : Nat} (y : Yld K ms R Z σ H c v w) (h : asgW (.name i) w c = some c') : Conf K ms R Z (σ.set i (some v)) H c' := by
  obtain ⟨hi, rfl, nb⟩ := asgW_name h
  cases w with
  | own ds => exact Conf.putOwn hi y
  | val d => exact (Conf.put y.1 hi (fun _ z => by cases z) y.2).1
  | stm => exact (Conf.put y.1 hi (fun _ z => by cases z) y.2).1
  | bor ds => exact absurd rfl (nb ds)
def setAll (σ : L2.St) : List Nat → List V → L2.St
  | i :: is, v :: vs => (setAll σ is vs).set i (some v)
  | _, _ => σ
def setL (σ : L2.St) : List Nat → List V → L2.St
  | i :: is, v :: vs => setL (σ.set i (some v)) is vs
  | _, _ => σ
theorem setL_swap {i : Nat} : ∀ {is : List Nat} {vs : List V} {σ : L2.St}, is.contains i = false → setL (σ.set i (some v)) is vs = (setL σ is vs).set i (some v)
  | [], vs, σ, _ => by cases vs <;> rfl
  | j :: is, [], σ, _ => rfl
  | j :: is, u :: vs, σ, h => by
    rw [List.contains_cons, Bool.or_eq_false_iff] at h
    have n : i ≠ j := by simpa using h.1
    show setL ((σ.set i (some v)).set j (some u)) is vs = (setL (σ.set j (some u)) is vs).set i (some v)
    rw [List.set_comm _ _ n, setL_swap h.2]
theorem setL_all : ∀ {is : List Nat} {vs : List V} {σ : L2.St}, distinct is = true → setL σ is vs = setAll σ is vs
  | [], vs, σ, _ => by cases vs <;> rfl
  | j :: is, [], σ, _ => rfl
  | j :: is, u :: vs, σ, h => by
    unfold distinct at h
    rw [Bool.and_eq_true, Bool.not_eq_true'] at h
    show setL (σ.set j (some u)) is vs = (setAll σ is vs).set j (some u)
    rw [setL_swap h.1, setL_all h.2]
theorem Lst.sub : ∀ {R R' : Addr → Prop} {vs : List V} {ws : List W}, Lst K ms Z H A R vs ws R' → ∀ a, R a → R' a
  | _, _, _, _, .nil, a, h => h
  | _, _, _, _, .own h1 h2 h3 r t, a, h => Lst.sub t a (.inl h)
  | _, _, _, _, .val _ _ t, a, h => Lst.sub t a h
theorem Lst.length : ∀ {R R' : Addr → Prop} {vs : List V} {ws : List W}, Lst K ms Z H A R vs ws R' → vs.length = ws.length
  | _, _, _, _, .nil => rfl
  | _, _, _, _, .own h1 h2 h3 r t => by simp [Lst.length t]
  | _, _, _, _, .val _ _ t => by simp [Lst.length t]
theorem Lst.keep (hA : ∀ a, ms.at_ a → A a) (k : Keep ms H H') : ∀ {R R' : Addr → Prop} {vs : List V} {ws : List W}, (∀ a, R' a → ¬ ms.at_ a) → Lst K ms Z H A R vs ws R' → Lst K ms Z H' A R vs ws R'
  | _, _, _, _, _, .nil => .nil
  | _, _, _, _, na, .own (p := p) h1 h2 h3 r t => .own (k _ _ h1 (na p (t.sub p (.inr rfl)))) h2 h3 (Reps.imp (fun a o e n => ⟨k a o e fun z => n (hA a z), n⟩) _ _ r) (Lst.keep hA k na t)
  | _, _, _, _, na, .val n r t => .val n (r.imp (fun a o e n => ⟨k a o e fun z => n (hA a z), n⟩) k) (Lst.keep hA k na t)
theorem asgs_length : ∀ {is : List Nat} {ws : List W} {c c' : Cfg}, asgs is ws c = some c' → is.length = ws.length
  | [], [], _, _, _ => rfl
  | i :: is, [], _, _, h => by cases h
  | [], w :: ws, _, _, h => by cases h
  | i :: is, w :: ws, c, c', h => by
    unfold asgs at h
    split at h
    · rename_i c1 h1
      simp [asgs_length h1]
    · cases h
theorem asgs_ok : ∀ {is : List Nat} {ws : List W} {vs : List V} {c' : Cfg} {R R' : Addr → Prop}, Lst K ms Z H (Res ms R' σ c.ρ) R vs ws R' → Conf K ms R' Z σ H c → asgs is ws c = some c' →
    Conf K ms R Z (setAll σ is vs) H c' ∧ ∀ a, OwnA (setAll σ is vs) c'.ρ a → R' a ∨ OwnA σ c.ρ a
  | [], [], vs, c', R, R', l, C, h => by
    cases l
    cases h
    exact ⟨C, fun a z => .inr z⟩
  | i :: is, [], _, _, _, _, _, _, h => by cases h
  | [], w :: ws, _, _, _, _, _, _, h => by cases h
  | i :: is, w :: ws, vs, c', R, R', l, C, h => by
    unfold asgs at h
    split at h
    · rename_i c1 h1
      cases l with
      | own q1 q2 q3 r t =>
        rename_i p us ds vs
        obtain ⟨C1, s1⟩ := asgs_ok t C h1
        obtain ⟨hi, rfl, _⟩ := asgW_name h
        have hr : ∀ a, Res ms (fun a => R a ∨ a = p) (setAll σ is vs) c1.ρ a → Res ms R' σ c.ρ a := fun a z => by
          rcases z with z | z | z
          · exact .inl (t.sub a z)
          · rcases s1 a z with y | y
            · exact .inl y
            · exact .inr (.inl y)
          · exact .inr (.inr z)
        refine ⟨Conf.putOwn hi ⟨p, us, rfl, q1, q2, q3, C1, r.less hr⟩, fun a z => ?_⟩
        rcases own_set z with ⟨ds', _, e⟩ | z
        · cases e
          exact .inl (t.sub p (.inr rfl))
        · exact s1 a z
      | val n r t =>
        rename_i v vs
        obtain ⟨C1, s1⟩ := asgs_ok t C h1
        obtain ⟨hi, rfl, _⟩ := asgW_name h
        have hr : ∀ a, Res ms R (setAll σ is vs) c1.ρ a → Res ms R' σ c.ρ a := fun a z => by
          rcases z with z | z | z
          · exact .inl (t.sub a z)
          · rcases s1 a z with y | y
            · exact .inl y
            · exact .inr (.inl y)
          · exact .inr (.inr z)
        refine ⟨(Conf.put C1 hi n (r.less hr)).1, fun a z => ?_⟩
        rcases own_set z with ⟨ds', e, _⟩ | z
        · exact absurd e (n ds')
        · exact s1 a z
    · cases h
theorem outP {es : Es} {D : Ends} {f : List W → Cfg → Out} (C : Conf K ms R Z σ H c) (g : GoodS K ms R Z D ((evPs call gl es c).out f)) :
    tPs K call gl es σ H fun vs H1 => ∃ ws c1, YP K ms R Z σ H1 c1 vs ws ∧ GoodS K ms R Z D (f ws c1) :=
  ⟨ms, R, Z, c, C, (outG (Y := YP K ms R Z σ) g).mono' fun v H1 ⟨w, c1, _, k, s, y, g1⟩ => ⟨w, c1, y, g1⟩⟩
theorem tPs.mono {es : Es} {Q Q' : List V → Hp → Prop} (h : tPs K call gl es σ H Q) (i : ∀ v H', Q v H' → Q' v H') : tPs K call gl es σ H Q' := by
  obtain ⟨ms, R, Z, c, C, g⟩ := h
  exact ⟨ms, R, Z, c, C, g.mono' i⟩
theorem ax_par {is : List Nat} {es : Es} {D : Ends} (hd : distinct is = true) (h : tS K call gl (.par is es) D σ H) : tPs K call gl es σ H fun vs H1 => vs.length = is.length ∧ ∀ H2 : Hp, (∀ a o, H1 a = some o → H2 a = some o) → D.nx (setL σ is vs) H2 := by
  obtain ⟨ms, R, Z, c, C, g⟩ := h
  refine (outP C g).mono fun vs H1 ⟨ws, c1, ⟨R', C1, l⟩, g1⟩ => ?_
  split at g1
  · rename_i c2 h2
    refine ⟨by rw [l.length, asgs_length h2], fun H2 ex => ?_⟩
    have k : Keep ms H1 H2 := fun a o e _ => ex a o e
    have st2 : StOk ms H2 c1.s := ⟨ex _ _ C1.st.m, ex _ _ C1.st.c, ex _ _ C1.st.g, C1.st.cg⟩
    have C2 : Conf K ms R' Z σ H2 c1 := C1.keep k st2
    have l2 := l.keep (fun a => hat) k fun a z => (C1.rd a z).2
    rw [setL_all hd]
    exact g1 _ _ (asgs_ok l2 C2 h2).1
  · exact g1.elim
/-! ### the statements -/
theorem ax_asgN {i : Nat} {e : E} {D : Ends} (h : tS K call gl (.asg (.name i) e) D σ H) : tAsg (tE K call gl e false) (gName i) D σ H := by
  obtain ⟨ms, R, Z, c, C, g⟩ := h
  refine (outE C g).mono fun v H1 ⟨w, c1, k, s, y, g1⟩ => ?_
  split at g1
  · rename_i c2 h2
    exact g1 _ _ (store_name y h2)
  · exact g1.elim
theorem ax_asgT {ts : List Tg} {e : E} {D : Ends} (h : tS K call gl (.asg (.tup ts) e) D σ H) : tAsg (tE K call gl e false) (gT K (.tup ts)) D σ H := by
  obtain ⟨ms, R, Z, c, C, g⟩ := h
  refine (outE C g).mono fun v H1 ⟨w, c1, k, s, y, g1⟩ => ?_
  split at g1
  · rename_i c2 h2
    cases w with
    | val d => exact ⟨ms, R, Z, c1, d, c2, y.1, y.2, h2, fun σ' C' _ _ _ _ => g1 σ' H1 C'⟩
    | own ds => cases h2
    | bor ds => cases h2
    | stm => cases h2
  · exact g1.elim
theorem own_at {i : Nat} {ds : List PyData} (C : Conf K ms R Z σ H c) (h : ownAt c i = some ds) : c.ρ[i]? = some (some (.own ds)) ∧ ∃ p vs, σ[i]? = some (some (V.ref p)) ∧ H p = some (.lst vs) ∧ Reps K (Res ms R σ c.ρ) H vs ds := by
  unfold ownAt at h
  split at h
  · rename_i e h1
    cases h
    obtain ⟨v, e1, p, vs, rfl, e2, na, r⟩ := C.slot i _ h1
    exact ⟨h1, p, vs, e1, e2, r⟩
  · cases h
theorem ax_setIx {i : Nat} {a e : E} {D : Ends} (h : tS K call gl (.setIx i a e) D σ H) : tAsg (tE K call gl e false) (gSub (tVar i) (tE K call gl a true) rSetL) D σ H := by
  obtain ⟨ms, R, Z, c, C, g⟩ := h
  refine (outE C g).mono fun v H1 ⟨w, c1, k1, s1, y1, g1⟩ => ?_
  split at g1
  · rename_i d ds0 hd ho
    obtain ⟨C1, r1⟩ := y1.share
    rw [dat_share hd] at r1
    obtain ⟨_, p, vs0, e1, _, _⟩ := own_at C1 ho
    refine ⟨_, e1, (outE C1 g1).mono fun x H2 ⟨u, c2, k2, s2, y2, g2⟩ => ?_⟩
    split at g2
    · rename_i kk ds hk ho2
      obtain ⟨q0, p2, vs, q1, q2, q3⟩ := own_at y2.rep.1 ho2
      rw [e1] at q1
      cases q1
      split at g2
      · rename_i j hj
        split at g2
        · rename_i nb
          refine ⟨p, vs, kk, j, rfl, (y2.dat hk).int, q2, by rw [q3.length]; exact hj, ?_⟩
          have r2 : Rep K (Res ms R σ c2.ρ) H2 v d := RepV.keep (w := .val d) k2 s2 r1
          exact g2 _ _ (y2.rep.1.mut nb q0 e1 (Reps.set r2 j q3))
        · exact g2.elim
      · exact g2.elim
    · exact g2.elim
  · exact g1.elim
theorem ax_aug {i : Nat} {op : Operator} {f : Int → Int → Int} {e : E} {D : Ends} (hop : (op = .Add ∧ f = fun a b => a + b) ∨ (op = .Sub ∧ f = fun a b => a - b)) (h : tS K call gl (.aug i op e) D σ H) : tAug i (tE K call gl e true) (ipI f) D σ H := by
  obtain ⟨ms, R, Z, c, C, g⟩ := h
  have key : ∀ (F : Int → Int → Int), GoodS K ms R Z D (match c.ρ[i]? with
    | some (some (.val (.int a))) => (evE call gl e true c).out fun w c => (match w.data with
      | some (.int b) => .next (setR c i (.val (.int (F a b))))
      | _ => .bad)
    | _ => .bad) → tAug i (tE K call gl e true) (ipI F) D σ H := by
    intro F g
    split at g
    · rename_i a ha
      obtain ⟨v, e1, r⟩ := C.slot i _ ha
      refine ⟨v, e1, (outE C g).mono fun y H1 ⟨w, c1, k, s, y1, g1⟩ => ?_⟩
      split at g1
      · rename_i b hb
        have hi : i < c1.ρ.length := by
          rw [y1.rep.1.len, ← C.len]
          exact lt_of_some ha
        have r : Rep K _ H v (.int a) := r
        exact ⟨a, b, by cases r; rfl, (y1.dat hb).int, g1 _ _ (Conf.put (w := .val (.int (F a b))) y1.rep.1 hi (fun _ z => by cases z) Rep.int).1⟩
      · exact g1.elim
    · exact g.elim
  rcases hop with ⟨rfl, rfl⟩ | ⟨rfl, rfl⟩
  · exact key _ g
  · exact key _ g
theorem ax_app {i : Nat} {e : E} {D : Ends} (h : tS K call gl (.app i e) D σ H) : tDrop (tBM K "list" rAppend (tVar i) (tCons (tE K call gl e false) tNil)) D σ H := by
  obtain ⟨ms, R, Z, c, C, g⟩ := h
  have g : GoodS K ms R Z D (match ownAt c i with
    | some _ => (evE call gl e false c).out fun w c => (match w.dat, ownAt c i with
      | some d, some ds => if ds.length < sizeLine ∧ c.ρ.all notBor = true then .next (setR c i (.own (ds ++ [d]))) else .bad
      | _, _ => .bad)
    | none => .bad) := g
  split at g
  · rename_i ds0 ho
    obtain ⟨_, p, vs0, e1, e2, _⟩ := own_at C ho
    refine ⟨_, e1, .inl ⟨rfl, vs0, SqL.of e2⟩, (outE C g).mono fun x H2 ⟨u, c2, k2, s2, y2, g2⟩ => ?_⟩
    split at g2
    · rename_i d ds hd ho2
      obtain ⟨C2, r2⟩ := y2.share
      rw [dat_share hd] at r2
      obtain ⟨q0, p2, vs, q1, q2, q3⟩ := own_at C2 ho2
      rw [e1] at q1
      cases q1
      split at g2
      · rename_i nb
        refine ⟨p, vs, x, rfl, rfl, q2, by rw [q3.length]; exact nb.1, ?_⟩
        exact g2 _ _ (C2.mut nb.2 q0 e1 (q3.append (.one r2)))
      · exact g2.elim
    · exact g2.elim
  · exact g.elim
theorem ax_ext {i : Nat} {e : E} {D : Ends} (h : tS K call gl (.ext i e) D σ H) : tDrop (tBM K "list" rExtend (tVar i) (tCons (tE K call gl e true) tNil)) D σ H := by
  obtain ⟨ms, R, Z, c, C, g⟩ := h
  have g : GoodS K ms R Z D (match ownAt c i with
    | some _ => (evE call gl e true c).out fun w c => (match w.data, ownAt c i with
      | some (.list es), some ds => if ds.length + es.length ≤ sizeLine ∧ c.ρ.all notBor = true then .next (setR c i (.own (ds ++ es))) else .bad
      | _, _ => .bad)
    | none => .bad) := g
  split at g
  · rename_i ds0 ho
    obtain ⟨_, p, vs0, e1, e2, _⟩ := own_at C ho
    refine ⟨_, e1, .inl ⟨rfl, vs0, SqL.of e2⟩, (outE C g).mono fun x H2 ⟨u, c2, k2, s2, y2, g2⟩ => ?_⟩
    split at g2
    · rename_i es ds hd ho2
      obtain ⟨q, us, rfl, h1, h2, h3⟩ := (y2.dat hd).list
      obtain ⟨q0, p2, vs, q1, q2, q3⟩ := own_at y2.rep.1 ho2
      rw [e1] at q1
      cases q1
      split at g2
      · rename_i nb
        refine ⟨p, q, vs, us, rfl, rfl, q2, h1, by rw [q3.length, h3.length]; exact nb.1, ?_⟩
        exact g2 _ _ (y2.rep.1.mut nb.2 q0 e1 (q3.append h3))
      · exact g2.elim
    · exact g2.elim
  · exact g.elim
theorem ax_expr {e : E} {D : Ends} (h : tS K call gl (.expr e) D σ H) : tDrop (tE K call gl e false) D σ H := by
  obtain ⟨ms, R, Z, c, C, g⟩ := h
  exact (outE C g).mono fun v H1 ⟨w, c1, k, s, y, g1⟩ => g1 _ _ y.rep.1
theorem ax_if {t : Pyv.T} {a b : Ss} {D : Ends} (h : tS K call gl (.ifS t a b) D σ H) : tIfS (tT K call gl t) (tSs K call gl a) (tSs K call gl b) D σ H := by
  obtain ⟨ms, R, Z, c, C, g⟩ := h
  refine (outT C g).mono fun r H1 ⟨c1, C1, g1⟩ => ?_
  split at g1
  · rename_i e
    rw [if_pos e]
    exact ⟨ms, R, Z, c1, C1, g1⟩
  · rename_i e
    rw [if_neg e]
    exact ⟨ms, R, Z, c1, C1, g1⟩
theorem ax_ret {e : E} {D : Ends} (h : tS K call gl (.ret e) D σ H) : tRet (tE K call gl e false) D σ H := by
  obtain ⟨ms, R, Z, c, C, g⟩ := h
  exact (outE C g).mono fun v H1 ⟨w, c1, k, s, y, g1⟩ => g1 _ _ _ y
theorem ax_retV {i : Nat} {D : Ends} (h : tS K call gl (.retV i) D σ H) : tRet (tVar i) D σ H := by
  obtain ⟨ms, R, Z, c, C, g⟩ := h
  have g : GoodS K ms R Z D (match ownAt c i with
    | some ds => .ret (.own ds) { c with ρ := c.ρ.set i none }
    | none => (evVar false i c).out fun w c => .ret w c) := g
  split at g
  · rename_i ds ho
    obtain ⟨v, e1, _, y⟩ := C.hand (own_at C ho).1
    exact ⟨v, e1, g _ _ _ y⟩
  · refine ax_var (K := K) (rd := false) (call := call) (gl := gl) ?_
    exact (outE (e := .var i) (rd := false) C g).mono fun v H1 ⟨w, c1, k, s, y, g1⟩ => g1 _ _ _ y
theorem ax_retN {D : Ends} (h : tS K call gl .retN D σ H) : tRetN D σ H := by
  obtain ⟨ms, R, Z, c, C, g⟩ := h
  exact g _ _ _ ⟨C, .none⟩
theorem ax_brk {D : Ends} (h : tS K call gl .brk D σ H) : tBreak D σ H := by
  obtain ⟨ms, R, Z, c, C, g⟩ := h
  exact g _ _ C
theorem ax_cont {D : Ends} (h : tS K call gl .cont D σ H) : tCont D σ H := by
  obtain ⟨ms, R, Z, c, C, g⟩ := h
  exact g _ _ C
theorem ax_pass {D : Ends} (h : tS K call gl .pass D σ H) : tNext D σ H := by
  obtain ⟨ms, R, Z, c, C, g⟩ := h
  exact g _ _ C
theorem ax_never {D : Ends} (h : tS K call gl .never D σ H) : False := by
  obtain ⟨ms, R, Z, c, C, g⟩ := h
  exact g
theorem ax_snil {D : Ends} (h : tSs K call gl .nil D σ H) : tNext D σ H := by
  obtain ⟨ms, R, Z, c, C, g⟩ := h
  exact g _ _ C
theorem ax_scons {s : Pyv.S} {r : Ss} {D : Ends} (h : tSs K call gl (.cons s r) D σ H) : tSeq (tS K call gl s) (tSs K call gl r) D σ H := by
  obtain ⟨ms, R, Z, c, C, g⟩ := h
  refine ⟨ms, R, Z, c, C, ?_⟩
  have g : GoodS K ms R Z D ((evS call gl s c).then fun c => evSs call gl r c) := g
  cases e : evS call gl s c with
  | next c1 => rw [e] at g; exact fun σ' H' C' => ⟨ms, R, Z, c1, C', g⟩
  | ret w c1 => rw [e] at g; exact g
  | brk c1 => rw [e] at g; exact g
  | cont c1 => rw [e] at g; exact g
  | exc k ds c1 => rw [e] at g; exact g
  | bad => rw [e] at g; exact g
theorem outS {src : Src} {rd : Bool} {D : Ends} {f : List PyData → Cfg → Out} (C : Conf K ms R Z σ H c) (g : GoodS K ms R Z D ((evSrc call gl src rd c).out f)) :
    tSrc K call gl src rd σ H fun J H1 => ∃ items c1, YSrc K rd ms R Z σ H1 c1 J items ∧ GoodS K ms R Z D (f items c1) :=
  ⟨ms, R, Z, c, C, (outG (Y := YSrc K rd ms R Z σ) g).mono' fun v H1 ⟨w, c1, _, k, s, y, g1⟩ => ⟨w, c1, y, g1⟩⟩
theorem ax_for {tg : Tg} {src : Src} {b : Ss} {D : Ends} (h : tS K call gl (.forS tg src b) D σ H) : tFor (tSrc K call gl src false) (gT K tg) (tSs K call gl b) D σ H := by
  obtain ⟨ms, R, Z, c, C, g⟩ := h
  obtain ⟨ms', R', Z', c', C', g'⟩ := outS C g
  refine ⟨ms', R', Z', c', C', g'.mono' fun J H1 ⟨items, c0, ⟨C0, G, wk, st⟩, g1⟩ => ?_⟩
  clear g' C' c' Z' R' ms'
  have le := frz_le C0
  let ZF := Pyv.frz σ c0.ρ H1
  let Pv : Nat → L2.St → Hp → Prop := fun i σ2 H2 => ∃ c2, Conf K ms R ZF σ2 H2 c2 ∧ GoodS K ms R ZF D (forLoop tg (evSs call gl b) (items.drop i) c2)
  -- what stood at the start stands
  have stay : ∀ σ2 H2 c2, Conf K ms R ZF σ2 H2 c2 → ∀ a o, H1 a = some o → ¬ Res ms R σ c0.ρ a → H2 a = some o ∧ ¬ Res ms R σ2 c2.ρ a := fun σ2 H2 c2 C2 a o e n => by
    have z : ZF a = some o := by
      show Pyv.frz σ c0.ρ H1 a = _
      rw [frz_of fun z => n (.inr (.inl z))]; exact e
    refine ⟨C2.ez a o z fun y => n (.inr (.inr y)), ?_⟩
    rintro (y | y | y)
    · exact n (.inl y)
    · rw [(C2.own a y).2.2] at z; cases z
    · exact n (.inr (.inr y))
  refine for_it wk Pv ⟨c0, C0.frz, by rw [List.drop_zero]; exact g1.frz le⟩ ?_ ?_ ?_
  · rintro i σ2 H2 hi ⟨c2, C2, g2⟩
    refine st H2 fun a o e n => (stay σ2 H2 c2 C2 a o e ?_).1
    simpa using n
  · rintro i x σ2 H2 H2' hi ⟨c2, C2, g2⟩ y
    have item : ∃ d, items[i]? = some d ∧ Conf K ms R ZF σ2 H2' c2 ∧ Rep K (Res ms R σ2 c2.ρ) H2' x d := by
      have up : ∀ d v, Rep K (Res ms R σ c0.ρ) H1 v d → Rep K (Res ms R σ2 c2.ρ) H2 v d := fun d v r => Rep.imp (stay σ2 H2 c2 C2) _ _ r
      rcases y with ⟨rfl, d, e1, r⟩ | ⟨T, x1, y1, dx, dy, rfl, hT, rfl, e1, r1, r2⟩
      · exact ⟨d, e1, C2, up d x r⟩
      · have up2 : ∀ d v, Rep K (Res ms R σ2 c2.ρ) H2 v d → Rep K (Res ms R σ2 c2.ρ) (upd H2 T (.tup [x1, y1])) v d := fun d v r => Rep.imp (fun a o e n => ⟨by rw [upd_ne (ne_of_none e hT)]; exact e, n⟩) _ _ r
        exact ⟨_, e1, C2.new hT, .tup upd_same (C2.fresh hT) (.cons (up2 _ _ (up _ _ r1)) (.cons (up2 _ _ (up _ _ r2)) .nil))⟩
    obtain ⟨d, e1, C3, r⟩ := item
    rw [drop_at e1] at g2
    unfold forLoop at g2
    split at g2
    · exact g2.elim
    · rename_i c3 ea
      refine ⟨ms, R, ZF, c2, d, c3, C3, r, ea, fun σ3 C4 _ _ _ _ => ⟨ms, R, ZF, c3, C4, ?_⟩⟩
      cases eb : evSs call gl b c3 with
      | next c4 => rw [eb] at g2; exact fun σ4 H4 C5 => ⟨c4, C5, g2⟩
      | cont c4 => rw [eb] at g2; exact fun σ4 H4 C5 => ⟨c4, C5, g2⟩
      | brk c4 => rw [eb] at g2; exact g2
      | ret w c4 => rw [eb] at g2; exact g2
      | exc k ds c4 => rw [eb] at g2; exact g2
      | bad => rw [eb] at g2; exact g2
  · rintro σ2 H2 ⟨c2, C2, g2⟩
    rw [List.drop_length] at g2
    exact g2 σ2 H2 C2
end
end Pyv
end
/-! ## Pyv12 -/
section
set_option maxRecDepth 100000
set_option maxHeartbeats 4000000
/-! Pyv 12: the text of a statement keeps its reading; defs. -/
namespace Pyv
open PySem PySem.Spec PyProof.Rows L2

/-- a place in a def's own block -/
structure TwS (P : Px) (X : Cx) (S : Sx) (call : Nat → List W → DS → RF) (gl : List PyData) (k : Nat) : Prop extends Tw P X S call gl k where
  own : PassesOwn (model X.prog X.w) X.A X.env X.xe
  kind : X.env.scope.kind = .function
section
variable {P : Px} {X : Cx} {S : Sx} {call : Nat → List W → DS → RF} {gl : List PyData} {k : Nat}
theorem block_fn (T : TwS P X S call gl k) : X.env.blockKind = .function := by
  unfold Env.blockKind
  rw [T.kind]
  rfl
theorem notComp_sw {e : Expr} {t : Option Expr} {l : Nat} {env : Env} (h : isComp e = false) : swapsWith e t l env = pure false := by
  cases e <;> first | rfl | (cases h; done)
theorem sole_sw {e t : Expr} {l : Nat} {env : Env} (h : isComp e = false) : swapsWithSole [t] e l env = pure false := by
  unfold swapsWithSole
  exact notComp_sw h
/-! ### several names -/
def gNames : List Nat → TGs
  | [] => gNil
  | i :: is => gCons (gName i) (gNames is)
theorem ax_gnames : ∀ {is : List Nat} {vs : List V} {σ : L2.St} {H : Hp} {Q : L2.St → Hp → Prop}, vs.length = is.length → Q (setL σ is vs) H → gNames is vs σ H Q
  | [], [], σ, H, Q, _, q => ⟨rfl, q⟩
  | [], v :: vs, _, _, _, h, _ => by cases h
  | i :: is, [], _, _, _, h, _ => by cases h
  | i :: is, v :: vs, σ, H, Q, h, q => ⟨v, vs, rfl, ax_gnames (by simpa using h) q⟩
theorem names_ok (T : TwS P X S call gl k) : ∀ (es : List Expr) (is : List Nat), nameSlots S es = some is → PGs X es (gNames is) ∧ (assignEach es X.env).findIdx? (·.1) = none ∧ (assignEach es X.env).length = es.length ∧ is.length = es.length
  | [], is, h => by
    cases h
    exact ⟨pgs_nil, rfl, rfl, rfl⟩
  | e :: es, is, h => by
    cases e <;> first | (cases h; done) | skip
    rename_i x p
    unfold nameSlots at h
    split at h
    · rename_i i is' h1 h2
      cases h
      obtain ⟨r1, r2, r3, r4⟩ := names_ok T es is' h2
      obtain ⟨q1, q2, q3⟩ := slotL_ok T.toTw h1
      have e2 : assignEach (.Name x p :: es) X.env = (false, assign (.Name x p) X.env) :: assignEach es X.env := rfl
      refine ⟨pgs_cons (pg_name T.nd q1 q2 q3) r1 rfl, ?_, ?_, ?_⟩
      · rw [e2, List.findIdx?_cons]
        simp [r2]
      · rw [e2, List.length_cons, List.length_cons, r3]
      · rw [List.length_cons, List.length_cons, r4]
    · cases h
/-! ### when two or three stores are swapped -/
theorem kind_is {x : Str} {kk : NameKind} (T : TwS P X S call gl k) : kindB S.sc x kk = (X.env.kindOf x == some kk) := by
  unfold kindB
  show _ = (X.env.scope.names.lookup x == some kk)
  rw [T.sc]
  by_cases h : List.lookup x S.sc.names = some kk
  · rw [h]; simp
  · rw [decide_eq_false h]
    exact (beq_eq_false_iff_ne.mpr h).symm
theorem fm_len {α β : Type} {f : α → Option β} {p : α → Bool} (h : ∀ e, (f e).isSome = p e) : ∀ {l : List α}, (l.filterMap f).length ≤ l.length ∧ (l.all p = false → (l.filterMap f).length ≠ l.length)
  | [] => ⟨Nat.le_refl _, fun z => by cases z⟩
  | e :: l => by
    obtain ⟨h1, h2⟩ := fm_len h (l := l)
    have h3 := h e
    cases hf : f e with
    | none =>
      rw [List.filterMap_cons_none hf]
      exact ⟨by simp; omega, fun _ => by simp; omega⟩
    | some b =>
      rw [List.filterMap_cons_some hf]
      rw [hf] at h3
      refine ⟨by simp; omega, fun z => ?_⟩
      rw [List.all_cons, ← h3] at z
      have := h2 (by simpa using z)
      rw [List.length_cons, List.length_cons]
      omega
theorem sw_other {ts es : List Expr} {kt k2 : Nat} {pt p2 : Pos} {env : Env} (h : parK S ts es = some false) (hk : ∀ x, kindB S.sc x .local = (env.kindOf x == some .local)) :
    swappedStores [.Tuple ts kt pt] (.Tuple es k2 p2) env = pure none := by
  unfold swappedStores
  simp only
  unfold parK at h
  split at h
  · split at h
    · cases h
    · split at h <;> cases h
  · rename_i hn
    by_cases hl : (ts.length == 2 || ts.length == 3) = true
    · have ha : ts.all (loc1 S ((ts.head?.map (·.pos.line)).getD 0)) = false := by
        cases e : ts.all (loc1 S ((ts.head?.map (·.pos.line)).getD 0)) with
        | false => rfl
        | true => exact absurd (by rw [hl, e]; rfl) hn
      split
      · rfl
      · split
        · rfl
        · refine if_pos ?_
          rw [Bool.or_eq_true]
          refine .inl (bne_iff_ne.mpr ((fm_len (p := loc1 S _) (fun e => ?_)).2 ha))
          cases e
          case Name x p =>
            show (if _ then some x else none : Option Str).isSome = (kindB S.sc x .local && p.line == _)
            rw [hk x]
            split
            · rename_i q
              rw [q]; rfl
            · rename_i q
              rw [Bool.not_eq_true] at q
              rw [q]; rfl
          all_goals rfl
    · rw [Bool.not_eq_true] at hl
      rw [hl]
      rfl
theorem sw_two {x y : Str} {px py : Pos} {es : List Expr} {kt k2 : Nat} {pt p2 : Pos} {env : Env} (h : parK S [.Name x px, .Name y py] es = some true) (hk : ∀ x, kindB S.sc x .local = (env.kindOf x == some .local)) (hxy : x ≠ y)
    (hl : es.length = 2) (hb : env.blockKind = .function) (hs : ∀ e ∈ es, notStar e = true) :
    swappedStores [.Tuple [.Name x px, .Name y py] kt pt] (.Tuple es k2 p2) env = pure (some [x, y]) ∧ env.kindOf x = some .local ∧ env.kindOf y = some .local := by
  unfold parK at h
  split at h
  · rename_i ha
    rw [Bool.and_eq_true] at ha
    obtain ⟨_, ha⟩ := ha
    have ha : ((kindB S.sc x .local && px.line == px.line) && ((kindB S.sc y .local && py.line == px.line) && true)) = true := ha
    rw [hk x, hk y] at ha
    split at h
    · cases h
    · rename_i nf
      split at h
      · cases h
      · rename_i nc
        simp only [Bool.and_eq_true, beq_iff_eq, Bool.and_true] at ha
        obtain ⟨⟨h1, _⟩, h2, h3⟩ := ha
        refine ⟨?_, h1, h2⟩
        unfold swappedStores
        simp only
        rw [if_neg (by rw [hl, hb]; simp), if_neg (by
          rw [Bool.not_eq_true, List.any_eq_false]
          intro e he
          have := hs e he
          cases e <;> first | (cases this; done) | simp)]
        simp only [List.filterMap_cons, List.filterMap_nil, List.head?, Option.map, Option.getD, Expr.pos, h1, h2, h3, beq_self_eq_true, Bool.and_true, if_true]
        rw [if_neg (by simp [List.eraseDups_cons, hxy, Ne.symm hxy]), if_neg nf, if_neg nc]
  · cases h
theorem sw_three {x y z : Str} {px py pz : Pos} {es : List Expr} {kt k2 : Nat} {pt p2 : Pos} {env : Env} (h : parK S [.Name x px, .Name y py, .Name z pz] es = some true) (hk : ∀ x, kindB S.sc x .local = (env.kindOf x == some .local)) (hxy : x ≠ y) (hxz : x ≠ z) (hyz : y ≠ z)
    (hl : es.length = 3) (hb : env.blockKind = .function) (hs : ∀ e ∈ es, notStar e = true) :
    swappedStores [.Tuple [.Name x px, .Name y py, .Name z pz] kt pt] (.Tuple es k2 p2) env = pure (some [x, y, z]) ∧ env.kindOf x = some .local ∧ env.kindOf y = some .local ∧ env.kindOf z = some .local := by
  unfold parK at h
  split at h
  · rename_i ha
    rw [Bool.and_eq_true] at ha
    obtain ⟨_, ha⟩ := ha
    have ha : ((kindB S.sc x .local && px.line == px.line) && ((kindB S.sc y .local && py.line == px.line) && ((kindB S.sc z .local && pz.line == px.line) && true))) = true := ha
    rw [hk x, hk y, hk z] at ha
    split at h
    · cases h
    · rename_i nf
      split at h
      · cases h
      · rename_i nc
        simp only [Bool.and_eq_true, beq_iff_eq, Bool.and_true] at ha
        obtain ⟨⟨h1, _⟩, ⟨h2, h3⟩, h4, h5⟩ := ha
        refine ⟨?_, h1, h2, h4⟩
        unfold swappedStores
        simp only
        rw [if_neg (by rw [hl, hb]; simp), if_neg (by
          rw [Bool.not_eq_true, List.any_eq_false]
          intro e he
          have := hs e he
          cases e <;> first | (cases this; done) | simp)]
        simp only [List.filterMap_cons, List.filterMap_nil, List.head?, Option.map, Option.getD, Expr.pos, h1, h2, h3, h4, h5, beq_self_eq_true, Bool.and_true, if_true]
        rw [if_neg (by simp [List.eraseDups_cons, hxy, hxz, hyz, Ne.symm hxy, Ne.symm hxz, Ne.symm hyz]), if_neg nf, if_neg nc]
  · cases h
/-! ### statements -/
theorem pa_ps (T : TwS P X S call gl k) : ∀ (n : Nat) (es : List Expr) (ir : Es), compEs P n S es = some ir → PA X es (tPs X.K call gl ir) ∧ ∀ e ∈ es, notStar e = true
  | 0, es, ir, h => by unfold compEs at h; cases h
  | n + 1, es, ir, h => by
    unfold compEs at h
    split at h
    · cases h
      exact ⟨pa_nil.imp fun σ H Q => ax_pnil, fun e he => by cases he⟩
    · rename_i a r
      split at h
      · rename_i a' r' h1 h2
        split at h
        · rename_i hs
          cases h
          obtain ⟨q1, _⟩ := (snd n).e T.toTw a a' h1 false
          obtain ⟨q2, q3⟩ := pa_ps T n r r' h2
          refine ⟨(pa_cons q1 q2 (notStar_he hs)).imp fun σ H Q => ax_pcons, fun e he => ?_⟩
          rcases List.mem_cons.mp he with z | z
          · rw [z]; exact hs
          · exact q3 e z
        · cases h
      · cases h
theorem ps_lcName (T : TwS P X S call gl k) {n i : Nat} {y : Str} {py : Pos} {elt : Expr} {gens : List Comprehension} {scope : Scope} {pos spos : Pos} {ir : E} (hi : slotL S y = some i) (h : compE P n S (.ListComp elt gens scope pos) = some ir) :
    PS X (.Assign [.Name y py] (.ListComp elt gens scope pos) spos) (tAsg (tE X.K call gl ir false) (gName i)) := by
  obtain ⟨q1, q2, q3⟩ := slotL_ok T.toTw hi
  have hsw : swapsWith (.ListComp elt gens scope pos) (some (.Name y py)) spos.line X.env =
    pure (X.env.blockKind == .function && X.env.kindOf y == some .local && py.line == pos.line && !(scope.names.any fun (n, k) => n == y && (k == .local || k == .cell))) := rfl
  cases hb : (X.env.blockKind == .function && X.env.kindOf y == some .local && py.line == pos.line && !(scope.names.any fun (n, k) => n == y && (k == .local || k == .cell))) with
  | false =>
    rw [hb] at hsw
    exact ps_set T.nd q1 q2 ((snd n).e T.toTw _ ir h false).1 hsw q3
  | true =>
    rw [hb] at hsw
    have hl : X.env.scope.names.lookup y = some .local := by
      rw [Bool.and_eq_true, Bool.and_eq_true, Bool.and_eq_true] at hb
      exact eq_of_beq hb.1.1.2
    cases n with
    | zero => unfold compE at h; cases h
    | succ n =>
      have I : Snd P call gl k n := snd n
      unfold compE at h
      simp only at h
      split at h
      · rename_i gt gi gf ga
        split at h
        · rename_i src tg t e' h1 h2 h3 h4
          split at h
          · rename_i hc
            cases h
            have ok : BlkOk X.N X.env.scope scope (ownOf S.N scope) := blkOk_by (by rw [T.N, T.sc]; exact hc.1)
            exact (ps_setLc T.calm T.nd q1 hl hsw (I.src T.toTw (isTupE gt) gi src h1 true gt fun z => z) ok
              (fun s H C cl fp => (compTg_ok (T.toTw.blk scope s H C cl fp) gt tg h2).1)
              (fun s H C cl fp => I.ifs (T.toTw.blk scope s H C cl fp) gf t h3)
              (fun s H C cl fp => (I.e (T.toTw.blk scope s H C cl fp) elt e' h4 false).1)
              (notSet_fold hc.2.2)).imp fun D σ H => ax_lc hc.2.1
          · cases h
        · cases h
      · cases h
theorem compE_comp {n : Nat} {e : Expr} {ir : E} (h : compE P n S e = some ir) (hc : isComp e = true) : ∃ elt gens scope pos, e = .ListComp elt gens scope pos := by
  cases e <;> first | (cases hc; done) | exact ⟨_, _, _, _, rfl⟩ | skip
  all_goals
    cases n with
    | zero => unfold compE at h; cases h
    | succ n => unfold compE at h; cases h
theorem slots_ne {x y : Str} {i j : Nat} (hi : slotL S x = some i) (hj : slotL S y = some j) (h : i ≠ j) : x ≠ y := fun z => h (by rw [z, hj] at hi; exact (Option.some.inj hi).symm)
theorem nameSlots_cons {x : Str} {p : Pos} {r : List Expr} {is : List Nat} (h : nameSlots S (.Name x p :: r) = some is) : ∃ i is', slotL S x = some i ∧ nameSlots S r = some is' ∧ is = i :: is' := by
  unfold nameSlots at h
  split at h
  · rename_i i is' h1 h2
    cases h
    exact ⟨i, is', h1, h2, rfl⟩
  · cases h
theorem nameSlots_nil {is : List Nat} (h : nameSlots S [] = some is) : is = [] := by
  cases h; rfl
theorem ps_pars (T : TwS P X S call gl k) {n : Nat} {ts es : List Expr} {is : List Nat} {ir : Es} {b : Bool} {kt k2 : Nat} {pt p2 pos : Pos} (h1 : nameSlots S ts = some is) (h2 : compEs P n S es = some ir) (h3 : parK S ts es = some b) (hd : distinct is = true) (hl : ts.length = es.length) (hz : is.length ≤ 100) :
    PS X (.Assign [.Tuple ts kt pt] (.Tuple es k2 p2) pos) (tS X.K call gl (.par is ir)) := by
  obtain ⟨qa, qs⟩ := pa_ps T n es ir h2
  obtain ⟨g1, g2, g3, g4⟩ := names_ok T ts is h1
  have hk : ∀ x, kindB S.sc x .local = (X.env.kindOf x == some .local) := fun x => kind_is T
  cases b with
  | false =>
    refine (ps_asg (pe_tup qa) (pg_tup T.calm g1 g3 g2) rfl (sw_other h3 hk) rfl).imp fun D σ H h => ?_
    refine (ax_par hd h).mono fun vs H1 ⟨hv, q⟩ => ⟨?_, fun p hp => ⟨p, vs, rfl, SqT.of upd_same, by rw [hv, g4], ax_gnames hv (q _ fun a o e => ?_)⟩⟩
    · rw [hv, sizeLine_eq]; omega
    · rw [upd_ne (ne_of_none e hp)]; exact e
  | true =>
    have h3' := h3
    unfold parK at h3'
    split at h3'
    · rename_i hc
      rw [Bool.and_eq_true] at hc
      have nm : ∀ e ∈ ts, ∃ x p, e = .Name x p := fun e he => by
        have := List.all_eq_true.mp hc.2 e he
        cases e <;> first | exact ⟨_, _, rfl⟩ | (cases this; done)
      match ts, hc.1, nm with
      | [e1, e2], _, nm =>
        obtain ⟨x, px, rfl⟩ := nm e1 (by simp)
        obtain ⟨y, py, rfl⟩ := nm e2 (by simp)
        match es, hl with
        | [a, c], _ =>
          obtain ⟨i, is1, hi, n1, rfl⟩ := nameSlots_cons h1
          obtain ⟨j, is2, hj, n2, rfl⟩ := nameSlots_cons n1
          obtain rfl := nameSlots_nil n2
          have hij : i ≠ j := by
            unfold distinct at hd
            rw [Bool.and_eq_true, Bool.not_eq_true'] at hd
            simpa using hd.1
          obtain ⟨sw, kx, ky⟩ := sw_two (kt := kt) (k2 := k2) (pt := pt) (p2 := p2) (env := X.env) h3 hk (slots_ne hi hj hij) rfl (block_fn T) qs
          refine (ps_par T.calm T.nd (slotL_ok T.toTw hi).1 (slotL_ok T.toTw hj).1 hij kx ky qa sw rfl).imp fun D σ H h => ?_
          refine (ax_par hd h).mono fun vs H1 ⟨hv, q⟩ => ?_
          match vs, hv, q with
          | [v, w], _, q => exact ⟨v, w, rfl, q H1 fun _ _ z => z⟩
      | [e1, e2, e3], _, nm =>
        obtain ⟨x, px, rfl⟩ := nm e1 (by simp)
        obtain ⟨y, py, rfl⟩ := nm e2 (by simp)
        obtain ⟨z, pz, rfl⟩ := nm e3 (by simp)
        match es, hl with
        | [a, c, d], _ =>
          obtain ⟨i, is1, hi, n1, rfl⟩ := nameSlots_cons h1
          obtain ⟨j, is2, hj, n2, rfl⟩ := nameSlots_cons n1
          obtain ⟨l, is3, hl3, n3, rfl⟩ := nameSlots_cons n2
          obtain rfl := nameSlots_nil n3
          have hd' := hd
          unfold distinct at hd'
          rw [Bool.and_eq_true, Bool.not_eq_true'] at hd'
          unfold distinct at hd'
          rw [Bool.and_eq_true, Bool.not_eq_true'] at hd'
          obtain ⟨d1, d2, _⟩ := hd'
          have hij : i ≠ j ∧ i ≠ l := by simpa using d1
          have hjl : j ≠ l := by simpa using d2
          obtain ⟨sw, kx, ky, kz⟩ := sw_three (kt := kt) (k2 := k2) (pt := pt) (p2 := p2) (env := X.env) h3 hk (slots_ne hi hj hij.1) (slots_ne hi hl3 hij.2) (slots_ne hj hl3 hjl) rfl (block_fn T) qs
          refine (ps_par3 T.calm T.nd (slotL_ok T.toTw hi).1 (slotL_ok T.toTw hj).1 (slotL_ok T.toTw hl3).1 hij.1 hij.2 hjl kx ky kz qa sw rfl).imp fun D σ H h => ?_
          refine (ax_par hd h).mono fun vs H1 ⟨hv, q⟩ => ?_
          match vs, hv, q with
          | [u, v, w], _, q => exact ⟨u, v, w, rfl, q H1 fun _ _ z => z⟩
    · cases h3'
theorem asg_stores {ts : List Expr} {kt : Nat} {pt : Pos} {e : Expr} {env : Env} (hne : ∀ es k2 p2, e ≠ .Tuple es k2 p2) : swappedStores [.Tuple ts kt pt] e env = pure none := by
  cases e <;> first | rfl | exact absurd rfl (hne _ _ _)
theorem ps_app' (T : TwS P X S call gl k) {n i : Nat} {x : Str} {p1 apos cpos pos : Pos} {a : Expr} {a' : E} (hi : slotV S x = some i) (ha : compE P n S a = some a') (hs : notStar a = true) (hl : (apos.endLine == cpos.line) = true) :
    PS X (.Expr (.Call (.Attribute (.Name x p1) "append" apos) [a] [] cpos) pos) (tS X.K call gl (.app i a')) := by
  obtain ⟨q1, q2, q3⟩ := slotV_ok T.toTw hi
  have he := notStar_he (es := []) (env := X.env) hs
  exact (ps_expr (pe_bm PySem.F.plainAttrs_list PySem.F.slot_list_append PySem.F.type_list_append mt_append (pe_var q1 q2 (nameOk_1 q3) (nameOk_2 q3)) (pa_cons ((snd n).e T.toTw a a' ha false).1 pa_nil he) rfl (by rw [he]; rfl) hl he rfl) rfl).imp fun D σ H => ax_app
theorem ps_ext' (T : TwS P X S call gl k) {n i : Nat} {x : Str} {p1 apos cpos pos : Pos} {a : Expr} {a' : E} (hi : slotV S x = some i) (ha : compE P n S a = some a') (hs : notStar a = true) (hl : (apos.endLine == cpos.line) = true) :
    PS X (.Expr (.Call (.Attribute (.Name x p1) "extend" apos) [a] [] cpos) pos) (tS X.K call gl (.ext i a')) := by
  obtain ⟨q1, q2, q3⟩ := slotV_ok T.toTw hi
  have he := notStar_he (es := []) (env := X.env) hs
  exact (ps_expr (pe_bm PySem.F.plainAttrs_list PySem.F.slot_list_extend PySem.F.type_list_extend mt_extend (pe_var q1 q2 (nameOk_1 q3) (nameOk_2 q3)) (pa_cons ((snd n).e T.toTw a a' ha true).1 pa_nil he) rfl (by rw [he]; rfl) hl he rfl) rfl).imp fun D σ H => ax_ext
mutual
theorem sndS (T : TwS P X S call gl k) : ∀ (n : Nat) (st : Stmt) (ir : Pyv.S), compS P n S st = some ir → PS X st (tS X.K call gl ir)
  | 0, st, ir, h => by unfold compS at h; cases h
  | n + 1, st, ir, h => by
    have I : Snd P call gl k n := snd n
    cases st
    case Assign targets e pos =>
      unfold compS at h
      simp only at h
      split at h
      · rename_i x px
        split at h
        · rename_i i e' hi he
          cases h
          obtain ⟨q1, q2, q3⟩ := slotL_ok T.toTw hi
          cases hc : isComp e with
          | false => exact (ps_set T.nd q1 q2 (I.e T.toTw e e' he false).1 (notComp_sw hc) q3).imp fun D σ H => ax_asgN
          | true =>
            obtain ⟨elt, gens, scope, p2, rfl⟩ := compE_comp he hc
            exact (ps_lcName T hi he).imp fun D σ H => ax_asgN
        · cases h
      · rename_i ts kt pt
        split at h
        · rename_i es k2 pt2
          split at h
          · rename_i is es' b h1 h2 h3
            split at h
            · rename_i hd
              cases h
              exact ps_pars T h1 h2 h3 hd.1 hd.2.1 hd.2.2
            · cases h
          · cases h
        · rename_i hne
          split at h
          · rename_i tg e' h1 h2
            split at h
            · rename_i hc
              cases h
              obtain ⟨g1, g2⟩ := compTg_ok T.toTw _ tg h1
              obtain ⟨tt, h4, h5⟩ := Option.map_eq_some_iff.mp (show (compTgs S ts).map Tg.tup = some tg by unfold compTg at h1; exact h1)
              subst h5
              exact (ps_asg (I.e T.toTw e e' h2 false).1 g1 (sole_sw hc) (asg_stores fun es k2 p2 z => hne es k2 p2 z) (by rw [(g2 []).2]; rfl)).imp fun D σ H => ax_asgT
            · cases h
          · cases h
      · rename_i x px a pt
        split at h
        · rename_i i a' e' h1 h2 h3
          split at h
          · rename_i hc
            cases h
            obtain ⟨q1, q2, q3⟩ := slotV_ok T.toTw h1
            have hsub : PG X (.Subscript (.Name x px) a pt) (gSub (tVar i) (tE X.K call gl a' true) rSetL) :=
              pg_sub (pe_var q1 q2 (nameOk_1 q3) (nameOk_2 q3)) (I.e T.toTw a a' h2 true).1 set_list fun v => by
                have := hc.2
                cases a <;> first | rfl | (cases this; done)
            refine (ps_asg (I.e T.toTw e e' h3 false).1 hsub (sole_sw hc.1) ?_ rfl).imp fun D σ H => ax_setIx
            cases e <;> rfl
          · cases h
        · cases h
      · cases h
    case AugAssign tg op e pos =>
      unfold compS at h
      simp only at h
      cases tg <;> first | (cases h; done) | skip
      rename_i x px
      simp only at h
      split at h
      · rename_i i e' h1 h2
        cases h
        obtain ⟨q1, q2, q3⟩ := slotL_ok T.toTw h1
        exact (ps_aug T.nd q1 q2 (I.e T.toTw e e' h2 true).1 ip_add q3).imp fun D σ H => ax_aug (.inl ⟨rfl, rfl⟩)
      · rename_i i e' h1 h2
        cases h
        obtain ⟨q1, q2, q3⟩ := slotL_ok T.toTw h1
        exact (ps_aug T.nd q1 q2 (I.e T.toTw e e' h2 true).1 ip_sub q3).imp fun D σ H => ax_aug (.inr ⟨rfl, rfl⟩)
      · cases h
    case Expr e pos =>
      unfold compS at h
      simp only at h
      split at h
      · rename_i x p1 m apos args kws cpos
        split at h
        · rename_i a
          split at h
          · rename_i i a' h1 h2
            split at h
            · rename_i hc
              split at h
              · rename_i hm
                cases h
                subst hm
                exact ps_app' T h1 h2 hc.1 hc.2
              · split at h
                · rename_i hm
                  cases h
                  subst hm
                  exact ps_ext' T h1 h2 hc.1 hc.2
                · cases h
            · cases h
          · cases h
        · cases h
      · split at h
        · rename_i e' h1
          split at h
          · rename_i hc
            cases h
            exact (ps_expr (I.e T.toTw _ e' h1 false).1 (notComp_sw hc)).imp fun D σ H => ax_expr
          · cases h
        · cases h
    case If c a b pos =>
      unfold compS at h
      simp only at h
      split at h
      · rename_i c' a' b' h1 h2 h3
        cases h
        exact (ps_if (I.t T.toTw c c' h1) (sndSs T n a a' h2) (sndSs T n b b' h3)).imp fun D σ H => ax_if
      · cases h
    case For tg it b els pos =>
      unfold compS at h
      simp only at h
      split at h
      · rename_i tg' src b' h1 h2 h3
        split at h
        · rename_i hs
          cases h
          exact (ps_for T.own T.calm (I.src T.toTw (isTupE tg) it src h2 false tg fun z => z) (compTg_ok T.toTw tg tg' h1).1 (sndSs T n b b' h3) (notSet_fold hs)).imp fun D σ H => ax_for
        · cases h
      · cases h
    case Return e pos =>
      unfold compS at h
      simp only at h
      split at h
      · cases h
        exact ps_retN.imp fun D σ H => ax_retN
      · rename_i x p
        split at h
        · rename_i i hi
          cases h
          obtain ⟨q1, q2, q3⟩ := slotV_ok T.toTw hi
          exact (ps_ret (pe_var q1 q2 (nameOk_1 q3) (nameOk_2 q3))).imp fun D σ H => ax_retV
        · cases h
      · rename_i e _
        obtain ⟨e', h1, h2⟩ := Option.map_eq_some_iff.mp h
        subst h2
        exact (ps_ret (I.e T.toTw e e' h1 false).1).imp fun D σ H => ax_ret
    case Raise a b c =>
      unfold compS at h
      cases h
      exact ps_never.imp fun D σ H z => (ax_never z).elim
    case Pass p =>
      unfold compS at h
      cases h
      exact ps_pass.imp fun D σ H => ax_pass
    case Break p =>
      unfold compS at h
      cases h
      exact ps_break.imp fun D σ H => ax_brk
    case Continue p =>
      unfold compS at h
      cases h
      exact ps_continue.imp fun D σ H => ax_cont
    all_goals
      unfold compS at h
      cases h
theorem sndSs (T : TwS P X S call gl k) : ∀ (n : Nat) (sts : List Stmt) (ir : Ss), compSs P n S sts = some ir → PSs X sts (tSs X.K call gl ir)
  | 0, sts, ir, h => by unfold compSs at h; cases h
  | n + 1, sts, ir, h => by
    unfold compSs at h
    split at h
    · cases h
      exact pss_nil.imp fun D σ H => ax_snil
    · rename_i st r
      split at h
      · rename_i a b h1 h2
        cases h
        exact (pss_cons (sndS T n st a h1) (sndSs T n r b h2)).imp fun D σ H => ax_scons
      · cases h
end
end
end Pyv
end
/-! ## Pyv13 -/
section
set_option maxRecDepth 100000
set_option maxHeartbeats 4000000
/-! Pyv 13: a def keeps its promise. -/
namespace Pyv
open PySem PySem.Spec PyProof.Rows L2

/-- what the text's globals are -/
structure Gs (P : Px) (prog : Program) (w : World) (K : PySem.W.Frag) (mg : Str → Option Value) (base : Heap) (call : Nat → List W → DS → RF) (gl : List PyData) (k : Nat) : Prop where
  fns : ∀ (i : Nat) (x : Str), P.fns[i]? = some x → ∃ f fd ps, FnOk prog w K mg base (L2.CX prog w) k f fd ps (spOf K (call i)) ∧ mg x = some (.ref f) ∧ PySem.W.keepIn K (.ref f) = true ∧ Binds K fd ps [] ∧ KwOk P i K fd ps
  gls : ∀ (i : Nat) (x : Str), (P.gls.map (·.1))[i]? = some x → ∃ (d : PyData) (u : Value) (v : V), gl[i]? = some d ∧ mg x = some u ∧ RelV v u ∧ ∀ A H, Rep K A H v d
  blt : ∀ x ∈ bltNames, mg x = none
theorem tw_of {P : Px} {prog : Program} {w : World} {K : PySem.W.Frag} {mg : Str → Option Value} {base : Heap} {call : Nat → List W → DS → RF} {gl : List PyData} {k : Nat} {N ps : List Str} {qual : Str} {scope : Scope} {f : Addr} {cdv : Value} {A : Around} {outer : List Env} {s : Shared} {H : Hp} {E : XK}
    (G : Gs P prog w K mg base call gl k) (S : FnScope N ps scope) (hr : Room k (A.deeper (envOfC qual scope s.heap.objs.size f cdv))) : TwS P (cxOf (L2.CX prog w) prog w K mg base N qual scope f cdv A outer s H E) ⟨N, scope, fun _ => true⟩ call gl k where
  N := rfl
  nd := S.nd
  sc := rfl
  fn := rfl
  calm := rfl
  room := hr
  fns := G.fns
  gls := G.gls
  blt := G.blt
  own := passes_of rfl
  kind := S.kind
theorem start_get {N : List Str} {vs : List V} {i : Nat} {v : V} (h : vs[i]? = some v) : (start N vs)[i]? = some (some v) := by
  have hi := lt_of_some h
  unfold L2.start
  rw [List.getElem?_append_left (by simpa using hi), List.getElem?_map, h]; rfl
/-- the slots at the entry of a def -/
abbrev entry (n : Nat) (ws : List W) : List (Option W) := ws.map some ++ List.replicate (n - ws.length) none
theorem entry_some {n i : Nat} {ws : List W} {w : W} (h : (entry n ws)[i]? = some (some w)) : ws[i]? = some w := by
  by_cases hi : i < ws.length
  · rw [List.getElem?_append_left (by simpa using hi), List.getElem?_map] at h
    cases e : ws[i]? with
    | none => rw [e] at h; cases h
    | some a => rw [e] at h; cases h; rfl
  · rw [List.getElem?_append_right (by simpa using hi), List.getElem?_replicate] at h
    split at h <;> cases h
theorem plain_own {ws : List W} (h : ws.all isPlain = true) {i : Nat} {ds : List PyData} : ws[i]? ≠ some (.own ds) := fun e => by
  have := List.all_eq_true.mp h _ (List.mem_of_getElem? e)
  cases this
theorem conf_start {K : PySem.W.Frag} {ms : Ms} {A : Addr → Prop} {H : Hp} {vs : List V} {ws : List W} {s : DS} {N : List Str} (h1 : ∀ a, ms.at_ a → A a) (h2 : ∀ a, A a → H a ≠ none) (st : StOk ms H s) (r : Paired (fun v w => RepV K A H ms v w) vs ws) (hp : ws.all isPlain = true) (hl : vs.length ≤ N.length) :
    Conf K ms (fun a => A a ∧ ¬ ms.at_ a) H (start N vs) H ⟨entry N.length ws, s⟩ ∧ ∀ a, Res ms (fun a => A a ∧ ¬ ms.at_ a) (start N vs) (entry N.length ws) a ↔ A a := by
  have noOwn : ∀ a, ¬ OwnA (start N vs) (entry N.length ws) a := fun a ⟨i, ds, e, _⟩ => plain_own hp (entry_some e)
  have res : ∀ a, Res ms (fun a => A a ∧ ¬ ms.at_ a) (start N vs) (entry N.length ws) a ↔ A a := by
    intro a
    constructor
    · rintro (z | z | z)
      · exact z.1
      · exact (noOwn a z).elim
      · exact h1 a z
    · intro z
      by_cases q : ms.at_ a
      · exact .inr (.inr q)
      · exact .inl ⟨z, q⟩
  refine ⟨⟨?_, fun i w e => ?_, fun i j ds es p e _ _ _ => absurd (entry_some e) (plain_own hp), fun p h => (noOwn p h).elim, fun p h => ⟨h2 p h.1, h.2⟩, fun a o e _ => e, st⟩, res⟩
  · show (entry N.length ws).length = (start N vs).length
    unfold L2.start
    have := pair_length r
    simp only [List.length_append, List.length_map, List.length_replicate]
    omega
  · obtain ⟨v, e1, e2⟩ := pair_get r (entry_some e)
    exact ⟨v, start_get e1, e2.less fun a z => (res a).mp z⟩
/-- what a def's body gives back -/
theorem back_of {K : PySem.W.Frag} {ms : Ms} {A R : Addr → Prop} {H : Hp} {Q : VK} {call : Nat → List W → DS → RF} {gl : List PyData} {fd : Fd} {ws : List W} {s : DS} (hA : ∀ a, A a → R a ∨ ms.at_ a) (hAt : ∀ a, ms.at_ a → A a)
    (h : Back K A H ms Q (runFd call gl fd ws s)) : ws.length = fd.np ∧ fd.np ≤ fd.n ∧ GoodS K ms R H { nx := fun _ H' => Q .non H', rt := Q } (evSs call gl fd.body ⟨entry fd.n ws, s⟩) := by
  unfold runFd at h
  split at h
  · rename_i hl
    refine ⟨hl.1, hl.2, ?_⟩
    have keep : ∀ {R' : Addr → Prop} {σ : L2.St} {H' : Hp} {c : Cfg}, Conf K ms R' H σ H' c → Keep ms H H' := fun C a o e n => C.ez a o e n
    cases e : evSs call gl fd.body ⟨entry fd.n ws, s⟩ with
    | next c =>
      rw [e] at h
      exact fun σ H' C => h _ _ (keep C) C.st .none
    | ret w c =>
      rw [e] at h
      cases w with
      | val d =>
        exact fun σ H' v y => h v H' (keep y.1) y.1.st (Rep.less (fun a z => by
          rcases hA a z with q | q
          · exact .inl q
          · exact .inr (.inr q)) y.2)
      | own ds =>
        rintro σ H' v ⟨p, vs, rfl, h1, h2, h3, C, r⟩
        refine h _ H' (keep C) C.st ⟨p, vs, rfl, h2, h1, r.less fun a z => ?_⟩
        rcases z with z | z
        · rcases hA a z with q | q
          · exact .inl (.inl q)
          · exact .inr (.inr q)
        · exact .inl (.inr z)
      | bor ds => exact h.elim
      | stm => exact fun σ H' v y => h v H' (keep y.1) y.1.st y.2
    | brk c => rw [e] at h; exact h.elim
    | cont c => rw [e] at h; exact h.elim
    | exc k ds c => rw [e] at h; exact h.elim
    | bad => rw [e] at h; exact h.elim
  · exact h.elim
theorem fnOk_of {P : Px} {prog : Program} {w : World} {K : PySem.W.Frag} {mg : Str → Option Value} {base : Heap} {call : Nat → List W → DS → RF} {gl : List PyData} {k n : Nat} {x qual : Str} {params : Arguments} {body : List Stmt} {scope : Scope} {dvs : List V} {kws : List (Str × V)} {f : Addr} {fdata : FuncData} {N ps : List Str} {fd : Fd}
    (F : FunD K x qual params body scope dvs kws f fdata) (S : FnScope N ps scope) (hc : compSs P n ⟨N, scope, fun _ => true⟩ body = some fd.body) (hn : N.length = fd.n) (hp : ps.length = fd.np) (G : Gs P prog w K mg base call gl k) :
    FnOk prog w K mg base (L2.CX prog w) (k + 1) f fdata ps (spOf K (runFd call gl fd)) := by
  refine F.ok S (fun vs H Q E h => ?_) (fun cdv A outer s H vs Q E hr h => ?_)
  · obtain ⟨ms, A, ws, s, h1, h2, h3, h4, h5, h6⟩ := h
    obtain ⟨q1, _⟩ := back_of (R := fun a => A a) (fun a z => .inl z) h1 h6
    rw [pair_length h4, hp, q1]
  · obtain ⟨ms, A', ws, s', h1, h2, h3, h4, h5, h6⟩ := h
    obtain ⟨q1, q2, g⟩ := back_of (R := fun a => A' a ∧ ¬ ms.at_ a) (fun a z => by
      by_cases q : ms.at_ a
      · exact .inr q
      · exact .inl ⟨z, q⟩) h1 h6
    have hl : vs.length ≤ N.length := by rw [pair_length h4, q1, hn]; exact q2
    obtain ⟨C, _⟩ := conf_start (N := N) h1 h2 h3 h4 h5 hl
    rw [← hn] at g
    exact ⟨_, sndSs (tw_of G S hr) n body fd.body hc, ms, _, H, _, C, g⟩
end Pyv
end
/-! ## Ktab -/
section
set_option maxRecDepth 100000
set_option maxHeartbeats 4000000
namespace K
open PySem PySem.Spec PyProof.Rows L2 Pyv
def top (i : Nat) : Stmt := PySem.Challenge.pw_onebill_k21_whole_hidden_as_changes.main.body.getD i (.Pass ⟨0, 0, 0, 0⟩)
def fnNames0 : List Str := ["is_integer", "is_within", "are_reads", "is_point", "are_losses", "need_net", "amounts_in", "amounts_read", "are_integers", "place_in_pair", "need_flows", "sums_by_gap", "through_main", "faults_of_bounds", "faults_of_gaps", "all_faults", "faults", "fits_net", "place_in_changes", "need_changes", "changed_reads", "faults_behind", "fits_behind", "are_marks", "need_marks"]
def fnNames1 : List Str := ["need_doubt", "need_points", "marks_for", "doubt_of", "hidden_in", "does_mark_allow", "does_serve", "serves", "hidden", "_law_mixed", "_law_folded", "_law_draw", "_law_begun", "_law_of", "_law_wide", "_law_like", "_law_put", "_law_spots", "_law_totals", "_law_amounts", "_law_gap_sums", "_law_through", "_law_faults", "_law_hidden", "_law_bounded"]
def fnNames2 : List Str := ["_law_serves", "_law_all_gaps", "_law_marks_of", "_law_signed", "_law_off", "_law_drawn", "_law_marks", "_law_summed", "_law_own_changes", "_law_read_so", "_law_bent", "_law_changes_right", "law"]
def fnNames : List Str := fnNames0 ++ (fnNames1 ++ (fnNames2))
def gls : List (Str × PyData) := [("MOST_HOURS", (.int 24)), ("MOST_POINTS", (.int 8)), ("MOST_CAP", (.int 1000000000)), ("MOST_TOTAL", (.int 1000000000000)), ("TRUE_MARK", (.str "true")), ("LESS_MARK", (.str "less")), ("MORE_MARK", (.str "more")), ("MARKS", (.tuple [(.str "true"), (.str "less"), (.str "more")]))]
def px : Px := ⟨fnNames, gls, [(22, ["changes", "table", "net"], [2, 1, 0])]⟩
/-- 0: is_integer(value) -/
def nm0 : List Str := ["value"]
theorem sc0 : FnScope nm0 ["value"] (defScope (top 9)) := ⟨rfl, rfl, rfl, by decide +kernel, rfl, by decide +kernel, by decide +kernel⟩
def ir0 : Fd := ⟨1, 1, (.cons (.ret (.and (.blt (.isi ["int"]) (.cons (.var 0) .nil)) (.not (.blt (.isi ["bool"]) (.cons (.var 0) .nil)))))
    .nil)⟩
theorem c0 : compSs px 60 ⟨nm0, defScope (top 9), fun _ => true⟩ (defBody (top 9)) = some ir0.body := by
  kernel_rfl
/-- 1: is_within(value, least, most) -/
def nm1 : List Str := ["value", "least", "most"]
theorem sc1 : FnScope nm1 ["value", "least", "most"] (defScope (top 15)) := ⟨rfl, rfl, rfl, by decide +kernel, rfl, by decide +kernel, by decide +kernel⟩
def ir1 : Fd := ⟨3, 3, (.cons (.ret (.and (.call 0 (.cons (.var 0) .nil)) (.chain .LtE .LtE (.var 1) (.var 0) (.var 2))))
    .nil)⟩
theorem c1 : compSs px 60 ⟨nm1, defScope (top 15), fun _ => true⟩ (defBody (top 15)) = some ir1.body := by
  kernel_rfl
/-- 2: are_reads(hours, value) -/
def nm2 : List Str := ["hours", "value", "before", "pair"]
theorem sc2 : FnScope nm2 ["hours", "value"] (defScope (top 16)) := ⟨rfl, rfl, rfl, by decide +kernel, rfl, by decide +kernel, by decide +kernel⟩
def ir2 : Fd := ⟨2, 4, (.cons (.ifS (.not (.val (.blt (.isi ["tuple"]) (.cons (.var 1) .nil)))) (.cons (.ret (.lit (.bool false)))
    .nil) .nil)
    (.cons (.asg (.name 2) (.neg (.lit (.int 1))))
    (.cons (.forS (.name 3) (.seq (.var 1)) (.cons (.ifS (.or (.not (.val (.blt (.isi ["tuple"]) (.cons (.var 3) .nil)))) (.val (.cmp .NotEq (.blt .len (.cons (.var 3) .nil)) (.lit (.int 2))))) (.cons (.ret (.lit (.bool false)))
    .nil) .nil)
    (.cons (.ifS (.or (.not (.val (.call 1 (.cons (.ix (.var 3) (.lit (.int 0))) (.cons (.bin .Add (.var 2) (.lit (.int 1))) (.cons (.var 0) .nil)))))) (.not (.val (.call 1 (.cons (.ix (.var 3) (.lit (.int 1))) (.cons (.lit (.int 0)) (.cons (.glb 3) .nil))))))) (.cons (.ret (.lit (.bool false)))
    .nil) .nil)
    (.cons (.asg (.name 2) (.ix (.var 3) (.lit (.int 0))))
    .nil))))
    (.cons (.ret (.lit (.bool true)))
    .nil))))⟩
theorem c2 : compSs px 60 ⟨nm2, defScope (top 16), fun _ => true⟩ (defBody (top 16)) = some ir2.body := by
  kernel_rfl
/-- 3: is_point(hours, value) -/
def nm3 : List Str := ["hours", "value", "cap"]
theorem sc3 : FnScope nm3 ["hours", "value"] (defScope (top 17)) := ⟨rfl, rfl, rfl, by decide +kernel, rfl, by decide +kernel, by decide +kernel⟩
def ir3 : Fd := ⟨2, 3, (.cons (.ifS (.or (.not (.val (.blt (.isi ["tuple"]) (.cons (.var 1) .nil)))) (.or (.val (.cmp .NotEq (.blt .len (.cons (.var 1) .nil)) (.lit (.int 2)))) (.not (.val (.blt (.isi ["tuple"]) (.cons (.ix (.var 1) (.lit (.int 0))) .nil)))))) (.cons (.ret (.lit (.bool false)))
    .nil) .nil)
    (.cons (.ifS (.or (.val (.cmp .NotEq (.blt .len (.cons (.ix (.var 1) (.lit (.int 0))) .nil)) (.var 0))) (.not (.val (.blt .all (.cons (.lc (.call 1 (.cons (.var 2) (.cons (.lit (.int 0)) (.cons (.glb 2) .nil)))) (.name 2) (.seq (.ix (.var 1) (.lit (.int 0)))) .no [2]) .nil))))) (.cons (.ret (.lit (.bool false)))
    .nil) .nil)
    (.cons (.ret (.call 2 (.cons (.var 0) (.cons (.ix (.var 1) (.lit (.int 1))) .nil))))
    .nil)))⟩
theorem c3 : compSs px 60 ⟨nm3, defScope (top 17), fun _ => true⟩ (defBody (top 17)) = some ir3.body := by
  kernel_rfl
/-- 4: are_losses(hours, value) -/
def nm4 : List Str := ["hours", "value", "pair"]
theorem sc4 : FnScope nm4 ["hours", "value"] (defScope (top 18)) := ⟨rfl, rfl, rfl, by decide +kernel, rfl, by decide +kernel, by decide +kernel⟩
def ir4 : Fd := ⟨2, 3, (.cons (.ifS (.or (.not (.val (.blt (.isi ["tuple"]) (.cons (.var 1) .nil)))) (.val (.cmp .NotEq (.blt .len (.cons (.var 1) .nil)) (.var 0)))) (.cons (.ret (.lit (.bool false)))
    .nil) .nil)
    (.cons (.forS (.name 2) (.seq (.var 1)) (.cons (.ifS (.or (.not (.val (.blt (.isi ["tuple"]) (.cons (.var 2) .nil)))) (.or (.val (.cmp .NotEq (.blt .len (.cons (.var 2) .nil)) (.lit (.int 2)))) (.not (.val (.call 1 (.cons (.ix (.var 2) (.lit (.int 0))) (.cons (.lit (.int 0)) (.cons (.glb 2) .nil)))))))) (.cons (.ret (.lit (.bool false)))
    .nil) .nil)
    (.cons (.ifS (.not (.val (.call 1 (.cons (.ix (.var 2) (.lit (.int 1))) (.cons (.ix (.var 2) (.lit (.int 0))) (.cons (.glb 2) .nil)))))) (.cons (.ret (.lit (.bool false)))
    .nil) .nil)
    .nil)))
    (.cons (.ret (.lit (.bool true)))
    .nil)))⟩
theorem c4 : compSs px 60 ⟨nm4, defScope (top 18), fun _ => true⟩ (defBody (top 18)) = some ir4.body := by
  kernel_rfl
/-- 5: need_net(net) -/
def nm5 : List Str := ["net", "hours", "points", "main", "losses", "number", "point"]
theorem sc5 : FnScope nm5 ["net"] (defScope (top 19)) := ⟨rfl, rfl, rfl, by decide +kernel, rfl, by decide +kernel, by decide +kernel⟩
def ir5 : Fd := ⟨1, 7, (.cons (.ifS (.or (.not (.val (.blt (.isi ["tuple"]) (.cons (.var 0) .nil)))) (.val (.cmp .NotEq (.blt .len (.cons (.var 0) .nil)) (.lit (.int 4))))) (.cons .never
    .nil) .nil)
    (.cons (.asg (.tup [(.name 1), (.name 2), (.name 3), (.name 4)]) (.var 0))
    (.cons (.ifS (.not (.val (.call 1 (.cons (.var 1) (.cons (.lit (.int 1)) (.cons (.glb 0) .nil)))))) (.cons .never
    .nil) .nil)
    (.cons (.ifS (.or (.not (.val (.blt (.isi ["tuple"]) (.cons (.var 2) .nil)))) (.not (.val (.chain .LtE .LtE (.lit (.int 1)) (.blt .len (.cons (.var 2) .nil)) (.glb 1))))) (.cons .never
    .nil) .nil)
    (.cons (.forS (.tup [(.name 5), (.name 6)]) (.enum (.var 2)) (.cons (.ifS (.not (.val (.call 3 (.cons (.var 1) (.cons (.var 6) .nil))))) (.cons .never
    .nil) .nil)
    .nil))
    (.cons (.ifS (.not (.val (.call 2 (.cons (.var 1) (.cons (.var 3) .nil))))) (.cons .never
    .nil) .nil)
    (.cons (.ifS (.not (.val (.call 4 (.cons (.var 1) (.cons (.var 4) .nil))))) (.cons .never
    .nil) .nil)
    (.cons (.retV 0)
    .nil))))))))⟩
theorem c5 : compSs px 60 ⟨nm5, defScope (top 19), fun _ => true⟩ (defBody (top 19)) = some ir5.body := by
  kernel_rfl
/-- 6: amounts_in(reads) -/
def nm6 : List Str := ["reads", "early", "late"]
theorem sc6 : FnScope nm6 ["reads"] (defScope (top 20)) := ⟨rfl, rfl, rfl, by decide +kernel, rfl, by decide +kernel, by decide +kernel⟩
def ir6 : Fd := ⟨1, 3, (.cons (.ret (.blt .tuple (.cons (.lc (.bin .Sub (.ix (.var 2) (.lit (.int 1))) (.ix (.var 1) (.lit (.int 1)))) (.tup [(.name 1), (.name 2)]) (.zip (.var 0) (.sl (.var 0) (.yes (.lit (.int 1))) .no)) .no [1, 2]) .nil)))
    .nil)⟩
theorem c6 : compSs px 60 ⟨nm6, defScope (top 20), fun _ => true⟩ (defBody (top 20)) = some ir6.body := by
  kernel_rfl
/-- 7: amounts_read(net) -/
def nm7 : List Str := ["net", "point"]
theorem sc7 : FnScope nm7 ["net"] (defScope (top 21)) := ⟨rfl, rfl, rfl, by decide +kernel, rfl, by decide +kernel, by decide +kernel⟩
def ir7 : Fd := ⟨1, 2, (.cons (.expr (.call 5 (.cons (.var 0) .nil)))
    (.cons (.ret (.tup (.cons (.blt .tuple (.cons (.lc (.call 6 (.cons (.ix (.var 1) (.lit (.int 1))) .nil)) (.name 1) (.seq (.ix (.var 0) (.lit (.int 1)))) .no [1]) .nil)) (.cons (.call 6 (.cons (.ix (.var 0) (.lit (.int 2))) .nil)) .nil))))
    .nil))⟩
theorem c7 : compSs px 60 ⟨nm7, defScope (top 21), fun _ => true⟩ (defBody (top 21)) = some ir7.body := by
  kernel_rfl
/-- 8: are_integers(value, many) -/
def nm8 : List Str := ["value", "many", "one"]
theorem sc8 : FnScope nm8 ["value", "many"] (defScope (top 22)) := ⟨rfl, rfl, rfl, by decide +kernel, rfl, by decide +kernel, by decide +kernel⟩
def ir8 : Fd := ⟨2, 3, (.cons (.ret (.and (.blt (.isi ["tuple"]) (.cons (.var 0) .nil)) (.and (.cmp .Eq (.blt .len (.cons (.var 0) .nil)) (.var 1)) (.blt .all (.cons (.lc (.call 0 (.cons (.var 2) .nil)) (.name 2) (.seq (.var 0)) .no [2]) .nil)))))
    .nil)⟩
theorem c8 : compSs px 60 ⟨nm8, defScope (top 22), fun _ => true⟩ (defBody (top 22)) = some ir8.body := by
  kernel_rfl
/-- 9: place_in_pair(net, value) -/
def nm9 : List Str := ["net", "value", "uses", "lost", "row"]
theorem sc9 : FnScope nm9 ["net", "value"] (defScope (top 23)) := ⟨rfl, rfl, rfl, by decide +kernel, rfl, by decide +kernel, by decide +kernel⟩
def ir9 : Fd := ⟨2, 5, (.cons (.ifS (.or (.not (.val (.blt (.isi ["tuple"]) (.cons (.var 1) .nil)))) (.val (.cmp .NotEq (.blt .len (.cons (.var 1) .nil)) (.lit (.int 2))))) (.cons (.ret (.tup .nil))
    .nil) .nil)
    (.cons (.asg (.tup [(.name 2), (.name 3)]) (.var 1))
    (.cons (.ifS (.or (.not (.val (.blt (.isi ["tuple"]) (.cons (.var 2) .nil)))) (.val (.cmp .NotEq (.blt .len (.cons (.var 2) .nil)) (.blt .len (.cons (.ix (.var 0) (.lit (.int 1))) .nil))))) (.cons (.ret (.tup (.cons (.lit (.int 0)) .nil)))
    .nil) .nil)
    (.cons (.ifS (.not (.val (.blt .all (.cons (.lc (.call 8 (.cons (.var 4) (.cons (.ix (.var 0) (.lit (.int 0))) .nil))) (.name 4) (.seq (.var 2)) .no [4]) .nil)))) (.cons (.ret (.tup (.cons (.lit (.int 0)) .nil)))
    .nil) .nil)
    (.cons (.ret (.ite (.val (.call 8 (.cons (.var 3) (.cons (.ix (.var 0) (.lit (.int 0))) .nil)))) (.lit .none) (.tup (.cons (.lit (.int 1)) .nil))))
    .nil)))))⟩
theorem c9 : compSs px 60 ⟨nm9, defScope (top 23), fun _ => true⟩ (defBody (top 23)) = some ir9.body := by
  kernel_rfl
/-- 10: need_flows(net, table) -/
def nm10 : List Str := ["net", "table", "place"]
theorem sc10 : FnScope nm10 ["net", "table"] (defScope (top 24)) := ⟨rfl, rfl, rfl, by decide +kernel, rfl, by decide +kernel, by decide +kernel⟩
def ir10 : Fd := ⟨2, 3, (.cons (.asg (.name 2) (.call 9 (.cons (.var 0) (.cons (.var 1) .nil))))
    (.cons (.ifS (.val (.cmp .IsNot (.var 2) (.lit .none))) (.cons .never
    .nil) .nil)
    .nil))⟩
theorem c10 : compSs px 60 ⟨nm10, defScope (top 24), fun _ => true⟩ (defBody (top 24)) = some ir10.body := by
  kernel_rfl
/-- 11: sums_by_gap(reads, row) -/
def nm11 : List Str := ["reads", "row", "early", "late"]
theorem sc11 : FnScope nm11 ["reads", "row"] (defScope (top 25)) := ⟨rfl, rfl, rfl, by decide +kernel, rfl, by decide +kernel, by decide +kernel⟩
def ir11 : Fd := ⟨2, 4, (.cons (.ret (.blt .tuple (.cons (.lc (.blt .sum (.cons (.sl (.var 1) (.yes (.ix (.var 2) (.lit (.int 0)))) (.yes (.ix (.var 3) (.lit (.int 0))))) .nil)) (.tup [(.name 2), (.name 3)]) (.zip (.var 0) (.sl (.var 0) (.yes (.lit (.int 1))) .no)) .no [2, 3]) .nil)))
    .nil)⟩
theorem c11 : compSs px 60 ⟨nm11, defScope (top 25), fun _ => true⟩ (defBody (top 25)) = some ir11.body := by
  kernel_rfl
/-- 12: through_main(net, table) -/
def nm12 : List Str := ["net", "table", "uses", "lost", "row", "hour"]
theorem sc12 : FnScope nm12 ["net", "table"] (defScope (top 26)) := ⟨rfl, rfl, rfl, by decide +kernel, rfl, by decide +kernel, by decide +kernel⟩
def ir12 : Fd := ⟨2, 6, (.cons (.asg (.tup [(.name 2), (.name 3)]) (.var 1))
    (.cons (.ret (.blt .tuple (.cons (.lc (.bin .Add (.ix (.var 3) (.var 5)) (.blt .sum (.cons (.lc (.ix (.var 4) (.var 5)) (.name 4) (.seq (.var 2)) .no [4]) .nil))) (.name 5) (.rng1 (.ix (.var 0) (.lit (.int 0)))) .no [5]) .nil)))
    .nil))⟩
theorem c12 : compSs px 60 ⟨nm12, defScope (top 26), fun _ => true⟩ (defBody (top 26)) = some ir12.body := by
  kernel_rfl
/-- 13: faults_of_bounds(net, table) -/
def nm13 : List Str := ["net", "table", "found", "number", "point", "hour"]
theorem sc13 : FnScope nm13 ["net", "table"] (defScope (top 27)) := ⟨rfl, rfl, rfl, by decide +kernel, rfl, by decide +kernel, by decide +kernel⟩
def ir13 : Fd := ⟨2, 6, (.cons (.asg (.name 2) (.lst .nil))
    (.cons (.forS (.tup [(.name 3), (.name 4)]) (.enum (.ix (.var 0) (.lit (.int 1)))) (.cons (.forS (.name 5) (.rng1 (.ix (.var 0) (.lit (.int 0)))) (.cons (.ifS (.not (.val (.chain .LtE .LtE (.lit (.int 0)) (.ix (.ix (.ix (.var 1) (.lit (.int 0))) (.var 3)) (.var 5)) (.ix (.ix (.var 4) (.lit (.int 0))) (.var 5))))) (.cons (.app 2 (.tup (.cons (.lit (.str "cap")) (.cons (.var 3) (.cons (.var 5) .nil)))))
    .nil) .nil)
    .nil))
    .nil))
    (.cons (.forS (.name 5) (.rng1 (.ix (.var 0) (.lit (.int 0)))) (.cons (.ifS (.not (.val (.chain .LtE .LtE (.ix (.ix (.ix (.var 0) (.lit (.int 3))) (.var 5)) (.lit (.int 0))) (.ix (.ix (.var 1) (.lit (.int 1))) (.var 5)) (.ix (.ix (.ix (.var 0) (.lit (.int 3))) (.var 5)) (.lit (.int 1)))))) (.cons (.app 2 (.tup (.cons (.lit (.str "loss")) (.cons (.var 5) .nil))))
    .nil) .nil)
    .nil))
    (.cons (.retV 2)
    .nil))))⟩
theorem c13 : compSs px 60 ⟨nm13, defScope (top 27), fun _ => true⟩ (defBody (top 27)) = some ir13.body := by
  kernel_rfl
/-- 14: faults_of_gaps(net, table, amounts, main_amounts) -/
def nm14 : List Str := ["net", "table", "amounts", "main_amounts", "found", "number", "point", "sums", "gap", "amount"]
theorem sc14 : FnScope nm14 ["net", "table", "amounts", "main_amounts"] (defScope (top 28)) := ⟨rfl, rfl, rfl, by decide +kernel, rfl, by decide +kernel, by decide +kernel⟩
def ir14 : Fd := ⟨4, 10, (.cons (.asg (.name 4) (.lst .nil))
    (.cons (.forS (.tup [(.name 5), (.name 6)]) (.enum (.ix (.var 0) (.lit (.int 1)))) (.cons (.asg (.name 7) (.call 11 (.cons (.ix (.var 6) (.lit (.int 1))) (.cons (.ix (.ix (.var 1) (.lit (.int 0))) (.var 5)) .nil))))
    (.cons (.forS (.tup [(.name 8), (.name 9)]) (.enum (.ix (.var 2) (.var 5))) (.cons (.ifS (.val (.cmp .NotEq (.ix (.var 7) (.var 8)) (.var 9))) (.cons (.app 4 (.tup (.cons (.lit (.str "gap")) (.cons (.var 5) (.cons (.var 8) .nil)))))
    .nil) .nil)
    .nil))
    .nil)))
    (.cons (.asg (.name 7) (.call 11 (.cons (.ix (.var 0) (.lit (.int 2))) (.cons (.call 12 (.cons (.var 0) (.cons (.var 1) .nil))) .nil))))
    (.cons (.forS (.tup [(.name 8), (.name 9)]) (.enum (.var 3)) (.cons (.ifS (.val (.cmp .NotEq (.ix (.var 7) (.var 8)) (.var 9))) (.cons (.app 4 (.tup (.cons (.lit (.str "main")) (.cons (.var 8) .nil))))
    .nil) .nil)
    .nil))
    (.cons (.retV 4)
    .nil)))))⟩
theorem c14 : compSs px 60 ⟨nm14, defScope (top 28), fun _ => true⟩ (defBody (top 28)) = some ir14.body := by
  kernel_rfl
/-- 15: all_faults(net, table) -/
def nm15 : List Str := ["net", "table", "amounts", "point", "found"]
theorem sc15 : FnScope nm15 ["net", "table"] (defScope (top 29)) := ⟨rfl, rfl, rfl, by decide +kernel, rfl, by decide +kernel, by decide +kernel⟩
def ir15 : Fd := ⟨2, 5, (.cons (.asg (.name 2) (.lc (.call 6 (.cons (.ix (.var 3) (.lit (.int 1))) .nil)) (.name 3) (.seq (.ix (.var 0) (.lit (.int 1)))) .no [3]))
    (.cons (.asg (.name 4) (.call 13 (.cons (.var 0) (.cons (.var 1) .nil))))
    (.cons (.ext 4 (.call 14 (.cons (.var 0) (.cons (.var 1) (.cons (.var 2) (.cons (.call 6 (.cons (.ix (.var 0) (.lit (.int 2))) .nil)) .nil))))))
    (.cons (.ret (.blt .sorted (.cons (.var 4) .nil)))
    .nil))))⟩
theorem c15 : compSs px 60 ⟨nm15, defScope (top 29), fun _ => true⟩ (defBody (top 29)) = some ir15.body := by
  kernel_rfl
/-- 16: faults(net, table) -/
def nm16 : List Str := ["net", "table"]
theorem sc16 : FnScope nm16 ["net", "table"] (defScope (top 30)) := ⟨rfl, rfl, rfl, by decide +kernel, rfl, by decide +kernel, by decide +kernel⟩
def ir16 : Fd := ⟨2, 2, (.cons (.expr (.call 5 (.cons (.var 0) .nil)))
    (.cons (.expr (.call 10 (.cons (.var 0) (.cons (.var 1) .nil))))
    (.cons (.ret (.blt .tuple (.cons (.call 15 (.cons (.var 0) (.cons (.var 1) .nil))) .nil)))
    .nil)))⟩
theorem c16 : compSs px 60 ⟨nm16, defScope (top 30), fun _ => true⟩ (defBody (top 30)) = some ir16.body := by
  kernel_rfl
/-- 17: fits_net(net, table) -/
def nm17 : List Str := ["net", "table"]
theorem sc17 : FnScope nm17 ["net", "table"] (defScope (top 31)) := ⟨rfl, rfl, rfl, by decide +kernel, rfl, by decide +kernel, by decide +kernel⟩
def ir17 : Fd := ⟨2, 2, (.cons (.expr (.call 5 (.cons (.var 0) .nil)))
    (.cons (.expr (.call 10 (.cons (.var 0) (.cons (.var 1) .nil))))
    (.cons (.ret (.cmp .Eq (.blt .len (.cons (.call 15 (.cons (.var 0) (.cons (.var 1) .nil))) .nil)) (.lit (.int 0))))
    .nil)))⟩
theorem c17 : compSs px 60 ⟨nm17, defScope (top 31), fun _ => true⟩ (defBody (top 31)) = some ir17.body := by
  kernel_rfl
/-- 18: place_in_changes(net, value) -/
def nm18 : List Str := ["net", "value", "row", "point"]
theorem sc18 : FnScope nm18 ["net", "value"] (defScope (top 33)) := ⟨rfl, rfl, rfl, by decide +kernel, rfl, by decide +kernel, by decide +kernel⟩
def ir18 : Fd := ⟨2, 4, (.cons (.ifS (.or (.not (.val (.blt (.isi ["tuple"]) (.cons (.var 1) .nil)))) (.val (.cmp .NotEq (.blt .len (.cons (.var 1) .nil)) (.lit (.int 2))))) (.cons (.ret (.tup .nil))
    .nil) .nil)
    (.cons (.ifS (.or (.not (.val (.blt (.isi ["tuple"]) (.cons (.ix (.var 1) (.lit (.int 0))) .nil)))) (.val (.cmp .NotEq (.blt .len (.cons (.ix (.var 1) (.lit (.int 0))) .nil)) (.blt .len (.cons (.ix (.var 0) (.lit (.int 1))) .nil))))) (.cons (.ret (.tup (.cons (.lit (.int 0)) .nil)))
    .nil) .nil)
    (.cons (.ifS (.not (.val (.blt .all (.cons (.lc (.call 8 (.cons (.var 2) (.cons (.blt .len (.cons (.ix (.var 3) (.lit (.int 1))) .nil)) .nil))) (.tup [(.name 2), (.name 3)]) (.zip (.ix (.var 1) (.lit (.int 0))) (.ix (.var 0) (.lit (.int 1)))) .no [2, 3]) .nil)))) (.cons (.ret (.tup (.cons (.lit (.int 0)) .nil)))
    .nil) .nil)
    (.cons (.ret (.ite (.val (.call 8 (.cons (.ix (.var 1) (.lit (.int 1))) (.cons (.blt .len (.cons (.ix (.var 0) (.lit (.int 2))) .nil)) .nil)))) (.lit .none) (.tup (.cons (.lit (.int 1)) .nil))))
    .nil))))⟩
theorem c18 : compSs px 60 ⟨nm18, defScope (top 33), fun _ => true⟩ (defBody (top 33)) = some ir18.body := by
  kernel_rfl
/-- 19: need_changes(net, changes) -/
def nm19 : List Str := ["net", "changes", "place"]
theorem sc19 : FnScope nm19 ["net", "changes"] (defScope (top 34)) := ⟨rfl, rfl, rfl, by decide +kernel, rfl, by decide +kernel, by decide +kernel⟩
def ir19 : Fd := ⟨2, 3, (.cons (.asg (.name 2) (.call 18 (.cons (.var 0) (.cons (.var 1) .nil))))
    (.cons (.ifS (.val (.cmp .IsNot (.var 2) (.lit .none))) (.cons .never
    .nil) .nil)
    .nil))⟩
theorem c19 : compSs px 60 ⟨nm19, defScope (top 34), fun _ => true⟩ (defBody (top 34)) = some ir19.body := by
  kernel_rfl
/-- 20: changed_reads(reads, row) -/
def nm20 : List Str := ["reads", "row", "pair", "number"]
theorem sc20 : FnScope nm20 ["reads", "row"] (defScope (top 35)) := ⟨rfl, rfl, rfl, by decide +kernel, rfl, by decide +kernel, by decide +kernel⟩
def ir20 : Fd := ⟨2, 4, (.cons (.ret (.blt .tuple (.cons (.lc (.tup (.cons (.ix (.var 2) (.lit (.int 0))) (.cons (.bin .Add (.ix (.var 2) (.lit (.int 1))) (.var 3)) .nil))) (.tup [(.name 2), (.name 3)]) (.zip (.var 0) (.var 1)) .no [2, 3]) .nil)))
    .nil)⟩
theorem c20 : compSs px 60 ⟨nm20, defScope (top 35), fun _ => true⟩ (defBody (top 35)) = some ir20.body := by
  kernel_rfl
/-- 21: faults_behind(net, table, changes) -/
def nm21 : List Str := ["net", "table", "changes", "amounts", "point", "row", "main_amounts"]
theorem sc21 : FnScope nm21 ["net", "table", "changes"] (defScope (top 36)) := ⟨rfl, rfl, rfl, by decide +kernel, rfl, by decide +kernel, by decide +kernel⟩
def ir21 : Fd := ⟨3, 7, (.cons (.asg (.name 3) (.lc (.call 6 (.cons (.call 20 (.cons (.ix (.var 4) (.lit (.int 1))) (.cons (.var 5) .nil))) .nil)) (.tup [(.name 4), (.name 5)]) (.zip (.ix (.var 0) (.lit (.int 1))) (.ix (.var 2) (.lit (.int 0)))) .no [4, 5]))
    (.cons (.asg (.name 6) (.call 6 (.cons (.call 20 (.cons (.ix (.var 0) (.lit (.int 2))) (.cons (.ix (.var 2) (.lit (.int 1))) .nil))) .nil)))
    (.cons (.ret (.bin .Add (.call 13 (.cons (.var 0) (.cons (.var 1) .nil))) (.call 14 (.cons (.var 0) (.cons (.var 1) (.cons (.var 3) (.cons (.var 6) .nil)))))))
    .nil)))⟩
theorem c21 : compSs px 60 ⟨nm21, defScope (top 36), fun _ => true⟩ (defBody (top 36)) = some ir21.body := by
  kernel_rfl
/-- 22: fits_behind(net, table, changes) -/
def nm22 : List Str := ["net", "table", "changes"]
theorem sc22 : FnScope nm22 ["net", "table", "changes"] (defScope (top 37)) := ⟨rfl, rfl, rfl, by decide +kernel, rfl, by decide +kernel, by decide +kernel⟩
def ir22 : Fd := ⟨3, 3, (.cons (.expr (.call 5 (.cons (.var 0) .nil)))
    (.cons (.expr (.call 10 (.cons (.var 0) (.cons (.var 1) .nil))))
    (.cons (.expr (.call 19 (.cons (.var 0) (.cons (.var 2) .nil))))
    (.cons (.ret (.cmp .Eq (.blt .len (.cons (.call 21 (.cons (.var 0) (.cons (.var 1) (.cons (.var 2) .nil)))) .nil)) (.lit (.int 0))))
    .nil))))⟩
theorem c22 : compSs px 60 ⟨nm22, defScope (top 37), fun _ => true⟩ (defBody (top 37)) = some ir22.body := by
  kernel_rfl
/-- 23: are_marks(value, many) -/
def nm23 : List Str := ["value", "many", "one"]
theorem sc23 : FnScope nm23 ["value", "many"] (defScope (top 43)) := ⟨rfl, rfl, rfl, by decide +kernel, rfl, by decide +kernel, by decide +kernel⟩
def ir23 : Fd := ⟨2, 3, (.cons (.ifS (.or (.not (.val (.blt (.isi ["tuple"]) (.cons (.var 0) .nil)))) (.val (.cmp .NotEq (.blt .len (.cons (.var 0) .nil)) (.var 1)))) (.cons (.ret (.lit (.bool false)))
    .nil) .nil)
    (.cons (.ret (.blt .all (.cons (.lc (.and (.blt (.isi ["str"]) (.cons (.var 2) .nil)) (.cmp .In (.var 2) (.glb 7))) (.name 2) (.seq (.var 0)) .no [2]) .nil)))
    .nil))⟩
theorem c23 : compSs px 60 ⟨nm23, defScope (top 43), fun _ => true⟩ (defBody (top 43)) = some ir23.body := by
  kernel_rfl
/-- 24: need_marks(net, doubt) -/
def nm24 : List Str := ["net", "doubt", "number", "point"]
theorem sc24 : FnScope nm24 ["net", "doubt"] (defScope (top 44)) := ⟨rfl, rfl, rfl, by decide +kernel, rfl, by decide +kernel, by decide +kernel⟩
def ir24 : Fd := ⟨2, 4, (.cons (.ifS (.or (.not (.val (.blt (.isi ["tuple"]) (.cons (.var 1) .nil)))) (.val (.cmp .NotEq (.blt .len (.cons (.var 1) .nil)) (.blt .len (.cons (.ix (.var 0) (.lit (.int 1))) .nil))))) (.cons .never
    .nil) .nil)
    (.cons (.forS (.tup [(.name 2), (.name 3)]) (.enum (.ix (.var 0) (.lit (.int 1)))) (.cons (.ifS (.not (.val (.call 23 (.cons (.ix (.var 1) (.var 2)) (.cons (.blt .len (.cons (.call 6 (.cons (.ix (.var 3) (.lit (.int 1))) .nil)) .nil)) .nil))))) (.cons .never
    .nil) .nil)
    .nil))
    (.cons (.retV 1)
    .nil)))⟩
theorem c24 : compSs px 60 ⟨nm24, defScope (top 44), fun _ => true⟩ (defBody (top 44)) = some ir24.body := by
  kernel_rfl
/-- 25: need_doubt(net, doubt) -/
def nm25 : List Str := ["net", "doubt"]
theorem sc25 : FnScope nm25 ["net", "doubt"] (defScope (top 45)) := ⟨rfl, rfl, rfl, by decide +kernel, rfl, by decide +kernel, by decide +kernel⟩
def ir25 : Fd := ⟨2, 2, (.cons (.expr (.call 5 (.cons (.var 0) .nil)))
    (.cons (.ret (.call 24 (.cons (.var 0) (.cons (.var 1) .nil))))
    .nil))⟩
theorem c25 : compSs px 60 ⟨nm25, defScope (top 45), fun _ => true⟩ (defBody (top 45)) = some ir25.body := by
  kernel_rfl
/-- 26: need_points(net, points) -/
def nm26 : List Str := ["net", "points", "one", "far"]
theorem sc26 : FnScope nm26 ["net", "points"] (defScope (top 46)) := ⟨rfl, rfl, rfl, by decide +kernel, rfl, by decide +kernel, by decide +kernel⟩
def ir26 : Fd := ⟨2, 4, (.cons (.ifS (.or (.not (.val (.blt (.isi ["tuple"]) (.cons (.var 1) .nil)))) (.not (.val (.blt .all (.cons (.lc (.call 1 (.cons (.var 2) (.cons (.lit (.int 0)) (.cons (.bin .Sub (.blt .len (.cons (.ix (.var 0) (.lit (.int 1))) .nil)) (.lit (.int 1))) .nil)))) (.name 2) (.seq (.var 1)) .no [2]) .nil))))) (.cons .never
    .nil) .nil)
    (.cons (.ifS (.not (.val (.blt .all (.cons (.lc (.cmp .Lt (.var 2) (.var 3)) (.tup [(.name 2), (.name 3)]) (.zip (.var 1) (.sl (.var 1) (.yes (.lit (.int 1))) .no)) .no [2, 3]) .nil)))) (.cons .never
    .nil) .nil)
    .nil))⟩
theorem c26 : compSs px 60 ⟨nm26, defScope (top 46), fun _ => true⟩ (defBody (top 46)) = some ir26.body := by
  kernel_rfl
/-- 27: marks_for(net, points) -/
def nm27 : List Str := ["net", "points", "found", "number", "point"]
theorem sc27 : FnScope nm27 ["net", "points"] (defScope (top 47)) := ⟨rfl, rfl, rfl, by decide +kernel, rfl, by decide +kernel, by decide +kernel⟩
def ir27 : Fd := ⟨2, 5, (.cons (.asg (.name 2) (.lst .nil))
    (.cons (.forS (.tup [(.name 3), (.name 4)]) (.enum (.ix (.var 0) (.lit (.int 1)))) (.cons (.app 2 (.bin .Mult (.tup (.cons (.ite (.val (.cmp .In (.var 3) (.var 1))) (.glb 5) (.glb 4)) .nil)) (.blt .len (.cons (.call 6 (.cons (.ix (.var 4) (.lit (.int 1))) .nil)) .nil))))
    .nil))
    (.cons (.ret (.blt .tuple (.cons (.var 2) .nil)))
    .nil)))⟩
theorem c27 : compSs px 60 ⟨nm27, defScope (top 47), fun _ => true⟩ (defBody (top 47)) = some ir27.body := by
  kernel_rfl
/-- 28: doubt_of(net, points) -/
def nm28 : List Str := ["net", "points"]
theorem sc28 : FnScope nm28 ["net", "points"] (defScope (top 48)) := ⟨rfl, rfl, rfl, by decide +kernel, rfl, by decide +kernel, by decide +kernel⟩
def ir28 : Fd := ⟨2, 2, (.cons (.expr (.call 5 (.cons (.var 0) .nil)))
    (.cons (.expr (.call 26 (.cons (.var 0) (.cons (.var 1) .nil))))
    (.cons (.ret (.call 27 (.cons (.var 0) (.cons (.var 1) .nil))))
    .nil)))⟩
theorem c28 : compSs px 60 ⟨nm28, defScope (top 48), fun _ => true⟩ (defBody (top 48)) = some ir28.body := by
  kernel_rfl
/-- 29: hidden_in(net, table) -/
def nm29 : List Str := ["net", "table", "found", "point", "uses", "one", "amount"]
theorem sc29 : FnScope nm29 ["net", "table"] (defScope (top 49)) := ⟨rfl, rfl, rfl, by decide +kernel, rfl, by decide +kernel, by decide +kernel⟩
def ir29 : Fd := ⟨2, 7, (.cons (.asg (.name 2) (.lst .nil))
    (.cons (.forS (.tup [(.name 3), (.name 4)]) (.zip (.ix (.var 0) (.lit (.int 1))) (.ix (.var 1) (.lit (.int 0)))) (.cons (.app 2 (.blt .tuple (.cons (.lc (.bin .Sub (.var 5) (.var 6)) (.tup [(.name 5), (.name 6)]) (.zip (.call 11 (.cons (.ix (.var 3) (.lit (.int 1))) (.cons (.var 4) .nil))) (.call 6 (.cons (.ix (.var 3) (.lit (.int 1))) .nil))) .no [5, 6]) .nil)))
    .nil))
    (.cons (.ret (.blt .tuple (.cons (.var 2) .nil)))
    .nil)))⟩
theorem c29 : compSs px 60 ⟨nm29, defScope (top 49), fun _ => true⟩ (defBody (top 49)) = some ir29.body := by
  kernel_rfl
/-- 30: does_mark_allow(mark, more) -/
def nm30 : List Str := ["mark", "more"]
theorem sc30 : FnScope nm30 ["mark", "more"] (defScope (top 50)) := ⟨rfl, rfl, rfl, by decide +kernel, rfl, by decide +kernel, by decide +kernel⟩
def ir30 : Fd := ⟨2, 2, (.cons (.ifS (.val (.cmp .Eq (.var 0) (.glb 5))) (.cons (.ret (.cmp .GtE (.var 1) (.lit (.int 0))))
    .nil) .nil)
    (.cons (.ret (.ite (.val (.cmp .Eq (.var 0) (.glb 6))) (.cmp .LtE (.var 1) (.lit (.int 0))) (.cmp .Eq (.var 1) (.lit (.int 0)))))
    .nil))⟩
theorem c30 : compSs px 60 ⟨nm30, defScope (top 50), fun _ => true⟩ (defBody (top 50)) = some ir30.body := by
  kernel_rfl
/-- 31: does_serve(net, doubt, table) -/
def nm31 : List Str := ["net", "doubt", "table", "marks", "row", "mark", "more"]
theorem sc31 : FnScope nm31 ["net", "doubt", "table"] (defScope (top 51)) := ⟨rfl, rfl, rfl, by decide +kernel, rfl, by decide +kernel, by decide +kernel⟩
def ir31 : Fd := ⟨3, 7, (.cons (.ifS (.or (.val (.cmp .Gt (.blt .len (.cons (.call 13 (.cons (.var 0) (.cons (.var 2) .nil))) .nil)) (.lit (.int 0)))) (.val (.cmp .NotEq (.call 11 (.cons (.ix (.var 0) (.lit (.int 2))) (.cons (.call 12 (.cons (.var 0) (.cons (.var 2) .nil))) .nil))) (.call 6 (.cons (.ix (.var 0) (.lit (.int 2))) .nil))))) (.cons (.ret (.lit (.bool false)))
    .nil) .nil)
    (.cons (.forS (.tup [(.name 3), (.name 4)]) (.zip (.var 1) (.call 29 (.cons (.var 0) (.cons (.var 2) .nil)))) (.cons (.ifS (.not (.val (.blt .all (.cons (.lc (.call 30 (.cons (.var 5) (.cons (.var 6) .nil))) (.tup [(.name 5), (.name 6)]) (.zip (.var 3) (.var 4)) .no [5, 6]) .nil)))) (.cons (.ret (.lit (.bool false)))
    .nil) .nil)
    .nil))
    (.cons (.ret (.lit (.bool true)))
    .nil)))⟩
theorem c31 : compSs px 60 ⟨nm31, defScope (top 51), fun _ => true⟩ (defBody (top 51)) = some ir31.body := by
  kernel_rfl
/-- 32: serves(net, doubt, table) -/
def nm32 : List Str := ["net", "doubt", "table"]
theorem sc32 : FnScope nm32 ["net", "doubt", "table"] (defScope (top 52)) := ⟨rfl, rfl, rfl, by decide +kernel, rfl, by decide +kernel, by decide +kernel⟩
def ir32 : Fd := ⟨3, 3, (.cons (.expr (.call 25 (.cons (.var 0) (.cons (.var 1) .nil))))
    (.cons (.expr (.call 10 (.cons (.var 0) (.cons (.var 2) .nil))))
    (.cons (.ret (.call 31 (.cons (.var 0) (.cons (.var 1) (.cons (.var 2) .nil)))))
    .nil)))⟩
theorem c32 : compSs px 60 ⟨nm32, defScope (top 52), fun _ => true⟩ (defBody (top 52)) = some ir32.body := by
  kernel_rfl
/-- 33: hidden(net, table) -/
def nm33 : List Str := ["net", "table"]
theorem sc33 : FnScope nm33 ["net", "table"] (defScope (top 53)) := ⟨rfl, rfl, rfl, by decide +kernel, rfl, by decide +kernel, by decide +kernel⟩
def ir33 : Fd := ⟨2, 2, (.cons (.expr (.call 5 (.cons (.var 0) .nil)))
    (.cons (.expr (.call 10 (.cons (.var 0) (.cons (.var 1) .nil))))
    (.cons (.ret (.call 29 (.cons (.var 0) (.cons (.var 1) .nil))))
    .nil)))⟩
theorem c33 : compSs px 60 ⟨nm33, defScope (top 53), fun _ => true⟩ (defBody (top 53)) = some ir33.body := by
  kernel_rfl
/-- 34: _law_mixed(cell, n) -/
def nm34 : List Str := ["cell", "n", "blend"]
theorem sc34 : FnScope nm34 ["cell", "n"] (defScope (top 55)) := ⟨rfl, rfl, rfl, by decide +kernel, rfl, by decide +kernel, by decide +kernel⟩
def ir34 : Fd := ⟨2, 3, (.cons (.asg (.name 2) (.bin .Add (.bin .Add (.bin .Mod (.blt .int (.cons (.bin .Mult (.bin .Mult (.var 0) (.bin .Add (.lit (.int 1)) (.bin .Mult (.lit (.int 2)) (.var 1)))) (.lit (.int 48271))) .nil)) (.lit (.int 2147483647))) (.bin .Mult (.bin .Mult (.lit (.int 7919)) (.var 1)) (.var 1))) (.bin .Mult (.lit (.int 104729)) (.var 1))))
    (.cons (.ret (.bin .FloorDiv (.bin .Mod (.blt .int (.cons (.bin .Mult (.var 2) (.lit (.int 69621))) .nil)) (.lit (.int 2147483629))) (.lit (.int 7))))
    .nil))⟩
theorem c34 : compSs px 60 ⟨nm34, defScope (top 55), fun _ => true⟩ (defBody (top 55)) = some ir34.body := by
  kernel_rfl
/-- 35: _law_folded(script) -/
def nm35 : List Str := ["script", "found", "n", "cell"]
theorem sc35 : FnScope nm35 ["script"] (defScope (top 56)) := ⟨rfl, rfl, rfl, by decide +kernel, rfl, by decide +kernel, by decide +kernel⟩
/-- 36: _law_draw(m, limit) -/
def nm36 : List Str := ["m", "limit", "n", "lot", "here", "cell"]
theorem sc36 : FnScope nm36 ["m", "limit"] (defScope (top 57)) := ⟨rfl, rfl, rfl, by decide +kernel, rfl, by decide +kernel, by decide +kernel⟩
/-- 37: _law_begun(script) -/
def nm37 : List Str := ["script", "m", "cell"]
theorem sc37 : FnScope nm37 ["script"] (defScope (top 58)) := ⟨rfl, rfl, rfl, by decide +kernel, rfl, by decide +kernel, by decide +kernel⟩
/-- 38: _law_of(m, some) -/
def nm38 : List Str := ["m", "some"]
theorem sc38 : FnScope nm38 ["m", "some"] (defScope (top 59)) := ⟨rfl, rfl, rfl, by decide +kernel, rfl, by decide +kernel, by decide +kernel⟩
def ir38 : Fd := ⟨2, 2, (.cons (.ret (.ix (.var 1) (.call 36 (.cons (.var 0) (.cons (.blt .len (.cons (.var 1) .nil)) .nil)))))
    .nil)⟩
theorem c38 : compSs px 60 ⟨nm38, defScope (top 59), fun _ => true⟩ (defBody (top 59)) = some ir38.body := by
  kernel_rfl
/-- 39: _law_wide(m, limit) -/
def nm39 : List Str := ["m", "limit"]
theorem sc39 : FnScope nm39 ["m", "limit"] (defScope (top 60)) := ⟨rfl, rfl, rfl, by decide +kernel, rfl, by decide +kernel, by decide +kernel⟩
def ir39 : Fd := ⟨2, 2, (.cons (.ifS (.val (.cmp .LtE (.var 1) (.bin .Pow (.lit (.int 10)) (.lit (.int 8))))) (.cons (.ret (.call 36 (.cons (.var 0) (.cons (.var 1) .nil))))
    .nil) .nil)
    (.cons (.ret (.bin .Mod (.blt .int (.cons (.bin .Add (.bin .Mult (.call 36 (.cons (.var 0) (.cons (.bin .Pow (.lit (.int 10)) (.lit (.int 8))) .nil))) (.bin .Pow (.lit (.int 10)) (.lit (.int 8)))) (.call 36 (.cons (.var 0) (.cons (.bin .Pow (.lit (.int 10)) (.lit (.int 8))) .nil)))) .nil)) (.var 1)))
    .nil))⟩
theorem c39 : compSs px 60 ⟨nm39, defScope (top 60), fun _ => true⟩ (defBody (top 60)) = some ir39.body := by
  kernel_rfl
/-- 40: _law_like(told, due) -/
def nm40 : List Str := ["told", "due", "is_kind", "one", "far"]
theorem sc40 : FnScope nm40 ["told", "due"] (defScope (top 61)) := ⟨rfl, rfl, rfl, by decide +kernel, rfl, by decide +kernel, by decide +kernel⟩
def ir40 : Fd := ⟨2, 5, (.cons (.ifS (.or (.val (.blt (.isi ["tuple"]) (.cons (.var 1) .nil))) (.val (.blt (.isi ["list"]) (.cons (.var 1) .nil)))) (.cons (.asg (.name 2) (.ite (.val (.blt (.isi ["tuple"]) (.cons (.var 1) .nil))) (.blt (.isi ["tuple"]) (.cons (.var 0) .nil)) (.blt (.isi ["list"]) (.cons (.var 0) .nil))))
    (.cons (.ifS (.or (.not (.val (.var 2))) (.val (.cmp .NotEq (.blt .len (.cons (.var 0) .nil)) (.blt .len (.cons (.var 1) .nil))))) (.cons (.ret (.lit (.bool false)))
    .nil) .nil)
    (.cons (.ret (.cmp .Eq (.lc (.lit (.int 1)) (.tup [(.name 3), (.name 4)]) (.zip (.var 0) (.var 1)) (.yes (.not (.val (.call 40 (.cons (.var 3) (.cons (.var 4) .nil)))))) [3, 4]) (.lst .nil)))
    .nil))) .nil)
    (.cons (.ifS (.or (.val (.cmp .Is (.var 1) (.lit .none))) (.or (.val (.cmp .Is (.var 1) (.lit (.bool true)))) (.val (.cmp .Is (.var 1) (.lit (.bool false)))))) (.cons (.ret (.or (.and (.cmp .Is (.var 1) (.lit .none)) (.cmp .Is (.var 0) (.lit .none))) (.or (.and (.cmp .Is (.var 1) (.lit (.bool true))) (.cmp .Is (.var 0) (.lit (.bool true)))) (.and (.cmp .Is (.var 1) (.lit (.bool false))) (.cmp .Is (.var 0) (.lit (.bool false)))))))
    .nil) .nil)
    (.cons (.ifS (.val (.blt (.isi ["str"]) (.cons (.var 1) .nil))) (.cons (.ret (.and (.blt (.isi ["str"]) (.cons (.var 0) .nil)) (.cmp .Eq (.var 0) (.var 1))))
    .nil) .nil)
    (.cons (.ret (.and (.blt (.isi ["int"]) (.cons (.var 0) .nil)) (.and (.not (.blt (.isi ["bool"]) (.cons (.var 0) .nil))) (.cmp .Eq (.var 0) (.var 1)))))
    .nil))))⟩
theorem c40 : compSs px 60 ⟨nm40, defScope (top 61), fun _ => true⟩ (defBody (top 61)) = some ir40.body := by
  kernel_rfl
/-- 41: _law_put(lot, spot, one) -/
def nm41 : List Str := ["lot", "spot", "one"]
theorem sc41 : FnScope nm41 ["lot", "spot", "one"] (defScope (top 62)) := ⟨rfl, rfl, rfl, by decide +kernel, rfl, by decide +kernel, by decide +kernel⟩
def ir41 : Fd := ⟨3, 3, (.cons (.ret (.bin .Add (.bin .Add (.sl (.var 0) .no (.yes (.var 1))) (.tup (.cons (.var 2) .nil))) (.sl (.var 0) (.yes (.bin .Add (.var 1) (.lit (.int 1)))) .no)))
    .nil)⟩
theorem c41 : compSs px 60 ⟨nm41, defScope (top 62), fun _ => true⟩ (defBody (top 62)) = some ir41.body := by
  kernel_rfl
/-- 42: _law_spots(m, many) -/
def nm42 : List Str := ["m", "many", "way", "spot"]
theorem sc42 : FnScope nm42 ["m", "many"] (defScope (top 63)) := ⟨rfl, rfl, rfl, by decide +kernel, rfl, by decide +kernel, by decide +kernel⟩
def ir42 : Fd := ⟨2, 4, (.cons (.asg (.name 2) (.call 36 (.cons (.var 0) (.cons (.lit (.int 7)) .nil))))
    (.cons (.ifS (.val (.cmp .Eq (.var 2) (.lit (.int 0)))) (.cons (.ret (.lsrc (.rng1 (.bin .Add (.var 1) (.lit (.int 1))))))
    .nil) .nil)
    (.cons (.ifS (.val (.cmp .Eq (.var 2) (.lit (.int 1)))) (.cons (.ret (.lst (.cons (.lit (.int 0)) (.cons (.var 1) .nil))))
    .nil) .nil)
    (.cons (.ifS (.val (.cmp .Eq (.var 2) (.lit (.int 2)))) (.cons (.ret (.ite (.val (.cmp .Eq (.call 36 (.cons (.var 0) (.cons (.lit (.int 2)) .nil))) (.lit (.int 0)))) (.lst (.cons (.call 36 (.cons (.var 0) (.cons (.bin .Add (.var 1) (.lit (.int 1))) .nil))) .nil)) (.lst .nil)))
    .nil) .nil)
    (.cons (.ret (.lc (.var 3) (.name 3) (.rng1 (.bin .Add (.var 1) (.lit (.int 1)))) (.yes (.or (.val (.cmp .Gt (.call 36 (.cons (.var 0) (.cons (.var 2) .nil))) (.lit (.int 0)))) (.val (.cmp .Eq (.call 36 (.cons (.var 0) (.cons (.lit (.int 9)) .nil))) (.lit (.int 0)))))) [3]))
    .nil)))))⟩
theorem c42 : compSs px 60 ⟨nm42, defScope (top 63), fun _ => true⟩ (defBody (top 63)) = some ir42.body := by
  kernel_rfl
/-- 43: _law_totals(spots, row, base) -/
def nm43 : List Str := ["spots", "row", "base", "spot"]
theorem sc43 : FnScope nm43 ["spots", "row", "base"] (defScope (top 64)) := ⟨rfl, rfl, rfl, by decide +kernel, rfl, by decide +kernel, by decide +kernel⟩
def ir43 : Fd := ⟨3, 4, (.cons (.ret (.blt .tuple (.cons (.lc (.tup (.cons (.var 3) (.cons (.bin .Add (.var 2) (.blt .sum (.cons (.sl (.var 1) .no (.yes (.var 3))) .nil))) .nil))) (.name 3) (.seq (.var 0)) .no [3]) .nil)))
    .nil)⟩
theorem c43 : compSs px 60 ⟨nm43, defScope (top 64), fun _ => true⟩ (defBody (top 64)) = some ir43.body := by
  kernel_rfl
/-- 44: _law_amounts(reads_so) -/
def nm44 : List Str := ["reads_so", "near", "far"]
theorem sc44 : FnScope nm44 ["reads_so"] (defScope (top 65)) := ⟨rfl, rfl, rfl, by decide +kernel, rfl, by decide +kernel, by decide +kernel⟩
def ir44 : Fd := ⟨1, 3, (.cons (.ret (.blt .tuple (.cons (.lc (.bin .Sub (.ix (.var 2) (.lit (.int 1))) (.ix (.var 1) (.lit (.int 1)))) (.tup [(.name 1), (.name 2)]) (.zip (.var 0) (.sl (.var 0) (.yes (.lit (.int 1))) .no)) .no [1, 2]) .nil)))
    .nil)⟩
theorem c44 : compSs px 60 ⟨nm44, defScope (top 65), fun _ => true⟩ (defBody (top 65)) = some ir44.body := by
  kernel_rfl
/-- 45: _law_gap_sums(reads_so, row) -/
def nm45 : List Str := ["reads_so", "row", "near", "far"]
theorem sc45 : FnScope nm45 ["reads_so", "row"] (defScope (top 66)) := ⟨rfl, rfl, rfl, by decide +kernel, rfl, by decide +kernel, by decide +kernel⟩
def ir45 : Fd := ⟨2, 4, (.cons (.ret (.blt .tuple (.cons (.lc (.blt .sum (.cons (.sl (.var 1) (.yes (.ix (.var 2) (.lit (.int 0)))) (.yes (.ix (.var 3) (.lit (.int 0))))) .nil)) (.tup [(.name 2), (.name 3)]) (.zip (.var 0) (.sl (.var 0) (.yes (.lit (.int 1))) .no)) .no [2, 3]) .nil)))
    .nil)⟩
theorem c45 : compSs px 60 ⟨nm45, defScope (top 66), fun _ => true⟩ (defBody (top 66)) = some ir45.body := by
  kernel_rfl
/-- 46: _law_through(net_so, sheet) -/
def nm46 : List Str := ["net_so", "sheet", "row", "hour"]
theorem sc46 : FnScope nm46 ["net_so", "sheet"] (defScope (top 67)) := ⟨rfl, rfl, rfl, by decide +kernel, rfl, by decide +kernel, by decide +kernel⟩
def ir46 : Fd := ⟨2, 4, (.cons (.ret (.lc (.bin .Add (.ix (.ix (.var 1) (.lit (.int 1))) (.var 3)) (.blt .sum (.cons (.lc (.ix (.var 2) (.var 3)) (.name 2) (.seq (.ix (.var 1) (.lit (.int 0)))) .no [2]) .nil))) (.name 3) (.rng1 (.ix (.var 0) (.lit (.int 0)))) .no [3]))
    .nil)⟩
theorem c46 : compSs px 60 ⟨nm46, defScope (top 67), fun _ => true⟩ (defBody (top 67)) = some ir46.body := by
  kernel_rfl
/-- 47: _law_faults(net_so, sheet) -/
def nm47 : List Str := ["net_so", "sheet", "many", "points_so", "main", "losses_so", "found", "number", "caps", "reads_so", "row", "hour", "pairs", "gap"]
theorem sc47 : FnScope nm47 ["net_so", "sheet"] (defScope (top 68)) := ⟨rfl, rfl, rfl, by decide +kernel, rfl, by decide +kernel, by decide +kernel⟩
def ir47 : Fd := ⟨2, 14, (.cons (.asg (.tup [(.name 2), (.name 3), (.name 4), (.name 5)]) (.var 0))
    (.cons (.asg (.name 6) (.lst .nil))
    (.cons (.forS (.tup [(.name 7), (.tup [(.name 8), (.name 9)])]) (.enum (.var 3)) (.cons (.asg (.name 10) (.ix (.ix (.var 1) (.lit (.int 0))) (.var 7)))
    (.cons (.asg (.name 6) (.bin .Add (.var 6) (.lc (.tup (.cons (.lit (.str "cap")) (.cons (.var 7) (.cons (.var 11) .nil)))) (.name 11) (.rng1 (.var 2)) (.yes (.not (.val (.chain .LtE .LtE (.lit (.int 0)) (.ix (.var 10) (.var 11)) (.ix (.var 8) (.var 11)))))) [11])))
    (.cons (.asg (.name 12) (.lsrc (.zip (.call 45 (.cons (.var 9) (.cons (.var 10) .nil))) (.call 44 (.cons (.var 9) .nil)))))
    (.cons (.asg (.name 6) (.bin .Add (.var 6) (.lc (.tup (.cons (.lit (.str "gap")) (.cons (.var 7) (.cons (.var 13) .nil)))) (.name 13) (.rng1 (.blt .len (.cons (.var 12) .nil))) (.yes (.val (.cmp .NotEq (.ix (.ix (.var 12) (.var 13)) (.lit (.int 0))) (.ix (.ix (.var 12) (.var 13)) (.lit (.int 1)))))) [13])))
    .nil)))))
    (.cons (.asg (.name 6) (.bin .Add (.var 6) (.lc (.tup (.cons (.lit (.str "loss")) (.cons (.var 11) .nil))) (.name 11) (.rng1 (.var 2)) (.yes (.not (.val (.chain .LtE .LtE (.ix (.ix (.var 5) (.var 11)) (.lit (.int 0))) (.ix (.ix (.var 1) (.lit (.int 1))) (.var 11)) (.ix (.ix (.var 5) (.var 11)) (.lit (.int 1))))))) [11])))
    (.cons (.asg (.name 12) (.lsrc (.zip (.call 45 (.cons (.var 4) (.cons (.call 46 (.cons (.var 0) (.cons (.var 1) .nil))) .nil))) (.call 44 (.cons (.var 4) .nil)))))
    (.cons (.asg (.name 6) (.bin .Add (.var 6) (.lc (.tup (.cons (.lit (.str "main")) (.cons (.var 13) .nil))) (.name 13) (.rng1 (.blt .len (.cons (.var 12) .nil))) (.yes (.val (.cmp .NotEq (.ix (.ix (.var 12) (.var 13)) (.lit (.int 0))) (.ix (.ix (.var 12) (.var 13)) (.lit (.int 1)))))) [13])))
    (.cons (.ret (.blt .tuple (.cons (.blt .sorted (.cons (.var 6) .nil)) .nil)))
    .nil)))))))⟩
theorem c47 : compSs px 60 ⟨nm47, defScope (top 68), fun _ => true⟩ (defBody (top 68)) = some ir47.body := by
  kernel_rfl
/-- 48: _law_hidden(net_so, sheet) -/
def nm48 : List Str := ["net_so", "sheet", "found", "caps", "reads_so", "row", "one", "far"]
theorem sc48 : FnScope nm48 ["net_so", "sheet"] (defScope (top 69)) := ⟨rfl, rfl, rfl, by decide +kernel, rfl, by decide +kernel, by decide +kernel⟩
def ir48 : Fd := ⟨2, 8, (.cons (.asg (.name 2) (.lst .nil))
    (.cons (.forS (.tup [(.tup [(.name 3), (.name 4)]), (.name 5)]) (.zip (.ix (.var 0) (.lit (.int 1))) (.ix (.var 1) (.lit (.int 0)))) (.cons (.app 2 (.blt .tuple (.cons (.lc (.bin .Sub (.var 6) (.var 7)) (.tup [(.name 6), (.name 7)]) (.zip (.call 45 (.cons (.var 4) (.cons (.var 5) .nil))) (.call 44 (.cons (.var 4) .nil))) .no [6, 7]) .nil)))
    .nil))
    (.cons (.ret (.blt .tuple (.cons (.var 2) .nil)))
    .nil)))⟩
theorem c48 : compSs px 60 ⟨nm48, defScope (top 69), fun _ => true⟩ (defBody (top 69)) = some ir48.body := by
  kernel_rfl
/-- 49: _law_bounded(net_so, sheet) -/
def nm49 : List Str := ["net_so", "sheet", "one"]
theorem sc49 : FnScope nm49 ["net_so", "sheet"] (defScope (top 70)) := ⟨rfl, rfl, rfl, by decide +kernel, rfl, by decide +kernel, by decide +kernel⟩
def ir49 : Fd := ⟨2, 3, (.cons (.ret (.cmp .Eq (.lc (.var 2) (.name 2) (.seq (.call 47 (.cons (.var 0) (.cons (.var 1) .nil)))) (.yes (.val (.cmp .NotEq (.ix (.var 2) (.lit (.int 0))) (.lit (.str "gap"))))) [2]) (.lst .nil)))
    .nil)⟩
theorem c49 : compSs px 60 ⟨nm49, defScope (top 70), fun _ => true⟩ (defBody (top 70)) = some ir49.body := by
  kernel_rfl
/-- 50: _law_serves(net_so, marks, sheet) -/
def nm50 : List Str := ["net_so", "marks", "sheet", "row", "told", "mark", "more"]
theorem sc50 : FnScope nm50 ["net_so", "marks", "sheet"] (defScope (top 71)) := ⟨rfl, rfl, rfl, by decide +kernel, rfl, by decide +kernel, by decide +kernel⟩
def ir50 : Fd := ⟨3, 7, (.cons (.ifS (.not (.val (.call 49 (.cons (.var 0) (.cons (.var 2) .nil))))) (.cons (.ret (.lit (.bool false)))
    .nil) .nil)
    (.cons (.forS (.tup [(.name 3), (.name 4)]) (.zip (.var 1) (.call 48 (.cons (.var 0) (.cons (.var 2) .nil)))) (.cons (.forS (.tup [(.name 5), (.name 6)]) (.zip (.var 3) (.var 4)) (.cons (.ifS (.or (.and (.val (.cmp .Eq (.var 5) (.lit (.str "true")))) (.val (.cmp .NotEq (.var 6) (.lit (.int 0))))) (.or (.and (.val (.cmp .Eq (.var 5) (.lit (.str "less")))) (.val (.cmp .Lt (.var 6) (.lit (.int 0))))) (.and (.val (.cmp .Eq (.var 5) (.lit (.str "more")))) (.val (.cmp .Gt (.var 6) (.lit (.int 0))))))) (.cons (.ret (.lit (.bool false)))
    .nil) .nil)
    .nil))
    .nil))
    (.cons (.ret (.lit (.bool true)))
    .nil)))⟩
theorem c50 : compSs px 60 ⟨nm50, defScope (top 71), fun _ => true⟩ (defBody (top 71)) = some ir50.body := by
  kernel_rfl
/-- 51: _law_all_gaps(net_so) -/
def nm51 : List Str := ["net_so", "found", "number", "caps", "reads_so", "gap"]
theorem sc51 : FnScope nm51 ["net_so"] (defScope (top 72)) := ⟨rfl, rfl, rfl, by decide +kernel, rfl, by decide +kernel, by decide +kernel⟩
def ir51 : Fd := ⟨1, 6, (.cons (.asg (.name 1) (.lst .nil))
    (.cons (.forS (.tup [(.name 2), (.tup [(.name 3), (.name 4)])]) (.enum (.ix (.var 0) (.lit (.int 1)))) (.cons (.asg (.name 1) (.bin .Add (.var 1) (.lc (.tup (.cons (.var 2) (.cons (.var 5) .nil))) (.name 5) (.rng1 (.blt .max (.cons (.lit (.int 0)) (.cons (.bin .Sub (.blt .len (.cons (.var 4) .nil)) (.lit (.int 1))) .nil)))) .no [5])))
    .nil))
    (.cons (.retV 1)
    .nil)))⟩
theorem c51 : compSs px 60 ⟨nm51, defScope (top 72), fun _ => true⟩ (defBody (top 72)) = some ir51.body := by
  kernel_rfl
/-- 52: _law_marks_of(net_so, some, mark) -/
def nm52 : List Str := ["net_so", "some", "mark", "found", "number", "caps", "reads_so", "gap"]
theorem sc52 : FnScope nm52 ["net_so", "some", "mark"] (defScope (top 73)) := ⟨rfl, rfl, rfl, by decide +kernel, rfl, by decide +kernel, by decide +kernel⟩
def ir52 : Fd := ⟨3, 8, (.cons (.asg (.name 3) (.lst .nil))
    (.cons (.forS (.tup [(.name 4), (.tup [(.name 5), (.name 6)])]) (.enum (.ix (.var 0) (.lit (.int 1)))) (.cons (.app 3 (.blt .tuple (.cons (.lc (.ite (.val (.cmp .In (.tup (.cons (.var 4) (.cons (.var 7) .nil))) (.var 1))) (.var 2) (.lit (.str "true"))) (.name 7) (.rng1 (.blt .max (.cons (.lit (.int 0)) (.cons (.bin .Sub (.blt .len (.cons (.var 6) .nil)) (.lit (.int 1))) .nil)))) .no [7]) .nil)))
    .nil))
    (.cons (.ret (.blt .tuple (.cons (.var 3) .nil)))
    .nil)))⟩
theorem c52 : compSs px 60 ⟨nm52, defScope (top 73), fun _ => true⟩ (defBody (top 73)) = some ir52.body := by
  kernel_rfl
/-- 53: _law_signed(m, most) -/
def nm53 : List Str := ["m", "most"]
theorem sc53 : FnScope nm53 ["m", "most"] (defScope (top 74)) := ⟨rfl, rfl, rfl, by decide +kernel, rfl, by decide +kernel, by decide +kernel⟩
def ir53 : Fd := ⟨2, 2, (.cons (.ret (.ite (.val (.cmp .Eq (.call 36 (.cons (.var 0) (.cons (.lit (.int 3)) .nil))) (.lit (.int 0)))) (.lit (.int 0)) (.bin .Sub (.call 39 (.cons (.var 0) (.cons (.bin .Add (.bin .Mult (.lit (.int 2)) (.var 1)) (.lit (.int 1))) .nil))) (.var 1))))
    .nil)⟩
theorem c53 : compSs px 60 ⟨nm53, defScope (top 74), fun _ => true⟩ (defBody (top 74)) = some ir53.body := by
  kernel_rfl
/-- 54: _law_off(m, reads_so, most) -/
def nm54 : List Str := ["m", "reads_so", "most", "spot", "total"]
theorem sc54 : FnScope nm54 ["m", "reads_so", "most"] (defScope (top 75)) := ⟨rfl, rfl, rfl, by decide +kernel, rfl, by decide +kernel, by decide +kernel⟩
def ir54 : Fd := ⟨3, 5, (.cons (.ret (.blt .tuple (.cons (.lc (.tup (.cons (.var 3) (.cons (.bin .Add (.var 4) (.call 53 (.cons (.var 0) (.cons (.var 2) .nil)))) .nil))) (.tup [(.name 3), (.name 4)]) (.seq (.var 1)) .no [3, 4]) .nil)))
    .nil)⟩
theorem c54 : compSs px 60 ⟨nm54, defScope (top 75), fun _ => true⟩ (defBody (top 75)) = some ir54.body := by
  kernel_rfl
/-- 55: _law_drawn(m) -/
def nm55 : List Str := ["m", "many", "rows", "points_so", "most", "off", "number", "caps", "hour", "row", "cap", "lows", "bounds_so", "low", "lost", "high", "through", "main", "one"]
theorem sc55 : FnScope nm55 ["m"] (defScope (top 76)) := ⟨rfl, rfl, rfl, by decide +kernel, rfl, by decide +kernel, by decide +kernel⟩
def ir55 : Fd := ⟨1, 19, (.cons (.par [1, 2, 3] (.cons (.bin .Add (.lit (.int 1)) (.call 36 (.cons (.var 0) (.cons (.lit (.int 24)) .nil)))) (.cons (.lst .nil) (.cons (.lst .nil) .nil))))
    (.cons (.par [4, 5] (.cons (.call 38 (.cons (.var 0) (.cons (.lst (.cons (.lit (.int 1)) (.cons (.lit (.int 4)) (.cons (.bin .Pow (.lit (.int 10)) (.lit (.int 9))) .nil)))) .nil))) (.cons (.call 38 (.cons (.var 0) (.cons (.lst (.cons (.lit (.int 0)) (.cons (.lit (.int 1)) (.cons (.bin .Pow (.lit (.int 10)) (.lit (.int 6))) .nil)))) .nil))) .nil)))
    (.cons (.forS (.name 6) (.rng1 (.bin .Add (.lit (.int 1)) (.call 36 (.cons (.var 0) (.cons (.lit (.int 8)) .nil))))) (.cons (.asg (.name 7) (.blt .tuple (.cons (.lc (.call 39 (.cons (.var 0) (.cons (.bin .Add (.var 4) (.lit (.int 1))) .nil))) (.name 8) (.rng1 (.var 1)) .no [8]) .nil)))
    (.cons (.asg (.name 9) (.blt .tuple (.cons (.lc (.call 39 (.cons (.var 0) (.cons (.bin .Add (.var 10) (.lit (.int 1))) .nil))) (.name 10) (.seq (.var 7)) .no [10]) .nil)))
    (.cons (.app 3 (.tup (.cons (.var 7) (.cons (.call 54 (.cons (.var 0) (.cons (.call 43 (.cons (.call 42 (.cons (.var 0) (.cons (.var 1) .nil))) (.cons (.var 9) (.cons (.bin .Pow (.lit (.int 10)) (.lit (.int 7))) .nil)))) (.cons (.var 5) .nil)))) .nil))))
    (.cons (.app 2 (.var 9))
    .nil)))))
    (.cons (.asg (.name 11) (.lc (.call 39 (.cons (.var 0) (.cons (.bin .Add (.var 4) (.lit (.int 1))) .nil))) (.name 8) (.rng1 (.var 1)) .no [8]))
    (.cons (.asg (.name 12) (.blt .tuple (.cons (.lc (.tup (.cons (.var 13) (.cons (.bin .Add (.var 13) (.call 39 (.cons (.var 0) (.cons (.bin .Add (.bin .Sub (.var 4) (.var 13)) (.lit (.int 1))) .nil)))) .nil))) (.name 13) (.seq (.var 11)) .no [13]) .nil)))
    (.cons (.asg (.name 14) (.blt .tuple (.cons (.lc (.bin .Add (.var 13) (.call 39 (.cons (.var 0) (.cons (.bin .Add (.bin .Sub (.var 15) (.var 13)) (.lit (.int 1))) .nil)))) (.tup [(.name 13), (.name 15)]) (.seq (.var 12)) .no [13, 15]) .nil)))
    (.cons (.asg (.name 16) (.lc (.bin .Add (.ix (.var 14) (.var 8)) (.blt .sum (.cons (.lc (.ix (.var 9) (.var 8)) (.name 9) (.seq (.var 2)) .no [9]) .nil))) (.name 8) (.rng1 (.var 1)) .no [8]))
    (.cons (.asg (.name 17) (.call 43 (.cons (.call 42 (.cons (.var 0) (.cons (.var 1) .nil))) (.cons (.var 16) (.cons (.bin .Pow (.lit (.int 10)) (.lit (.int 7))) .nil)))))
    (.cons (.ifS (.val (.cmp .Eq (.call 36 (.cons (.var 0) (.cons (.lit (.int 3)) .nil))) (.lit (.int 0)))) (.cons (.asg (.name 17) (.call 54 (.cons (.var 0) (.cons (.var 17) (.cons (.var 5) .nil)))))
    .nil) .nil)
    (.cons (.ifS (.val (.cmp .Eq (.call 36 (.cons (.var 0) (.cons (.lit (.int 3)) .nil))) (.lit (.int 0)))) (.cons (.par [6, 8] (.cons (.call 36 (.cons (.var 0) (.cons (.blt .len (.cons (.var 2) .nil)) .nil))) (.cons (.call 36 (.cons (.var 0) (.cons (.var 1) .nil))) .nil)))
    (.cons (.asg (.name 18) (.call 38 (.cons (.var 0) (.cons (.lst (.cons (.bin .Sub (.neg (.lit (.int 1))) (.call 36 (.cons (.var 0) (.cons (.lit (.int 4)) .nil)))) (.cons (.bin .Add (.bin .Add (.ix (.ix (.ix (.var 3) (.var 6)) (.lit (.int 0))) (.var 8)) (.lit (.int 1))) (.call 36 (.cons (.var 0) (.cons (.lit (.int 4)) .nil)))) .nil))) .nil))))
    (.cons (.setIx 2 (.var 6) (.call 41 (.cons (.ix (.var 2) (.var 6)) (.cons (.var 8) (.cons (.var 18) .nil)))))
    .nil))) .nil)
    (.cons (.ifS (.val (.cmp .Eq (.call 36 (.cons (.var 0) (.cons (.lit (.int 6)) .nil))) (.lit (.int 0)))) (.cons (.asg (.name 8) (.call 36 (.cons (.var 0) (.cons (.var 1) .nil))))
    (.cons (.asg (.name 14) (.call 41 (.cons (.var 14) (.cons (.var 8) (.cons (.call 38 (.cons (.var 0) (.cons (.lst (.cons (.bin .Sub (.ix (.ix (.var 12) (.var 8)) (.lit (.int 0))) (.lit (.int 1))) (.cons (.bin .Add (.ix (.ix (.var 12) (.var 8)) (.lit (.int 1))) (.lit (.int 1))) .nil))) .nil))) .nil)))))
    .nil)) .nil)
    (.cons (.ret (.tup (.cons (.tup (.cons (.var 1) (.cons (.blt .tuple (.cons (.var 3) .nil)) (.cons (.var 17) (.cons (.var 12) .nil))))) (.cons (.tup (.cons (.blt .tuple (.cons (.var 2) .nil)) (.cons (.var 14) .nil))) .nil))))
    .nil))))))))))))⟩
theorem c55 : compSs px 60 ⟨nm55, defScope (top 76), fun _ => true⟩ (defBody (top 76)) = some ir55.body := by
  kernel_rfl
/-- 56: _law_marks(m, told) -/
def nm56 : List Str := ["m", "told", "way", "found", "row", "marks", "more", "right"]
theorem sc56 : FnScope nm56 ["m", "told"] (defScope (top 77)) := ⟨rfl, rfl, rfl, by decide +kernel, rfl, by decide +kernel, by decide +kernel⟩
def ir56 : Fd := ⟨2, 8, (.cons (.par [2, 3] (.cons (.call 36 (.cons (.var 0) (.cons (.lit (.int 4)) .nil))) (.cons (.lst .nil) .nil)))
    (.cons (.forS (.name 4) (.seq (.var 1)) (.cons (.asg (.name 5) (.lst .nil))
    (.cons (.forS (.name 6) (.seq (.var 4)) (.cons (.asg (.name 7) (.ix (.lst (.cons (.lit (.str "less")) (.cons (.lit (.str "more")) (.cons (.call 38 (.cons (.var 0) (.cons (.lst (.cons (.lit (.str "true")) (.cons (.lit (.str "less")) (.cons (.lit (.str "more")) .nil)))) .nil))) .nil)))) (.ite (.val (.cmp .Gt (.var 6) (.lit (.int 0)))) (.lit (.int 0)) (.ite (.val (.cmp .Lt (.var 6) (.lit (.int 0)))) (.lit (.int 1)) (.lit (.int 2))))))
    (.cons (.app 5 (.ite (.or (.val (.cmp .Eq (.var 2) (.lit (.int 0)))) (.and (.val (.cmp .Eq (.var 2) (.lit (.int 1)))) (.val (.cmp .Eq (.call 36 (.cons (.var 0) (.cons (.lit (.int 9)) .nil))) (.lit (.int 0)))))) (.call 38 (.cons (.var 0) (.cons (.lst (.cons (.lit (.str "true")) (.cons (.lit (.str "less")) (.cons (.lit (.str "more")) .nil)))) .nil))) (.var 7)))
    .nil)))
    (.cons (.app 3 (.blt .tuple (.cons (.var 5) .nil)))
    .nil))))
    (.cons (.ret (.blt .tuple (.cons (.var 3) .nil)))
    .nil)))⟩
theorem c56 : compSs px 60 ⟨nm56, defScope (top 77), fun _ => true⟩ (defBody (top 77)) = some ir56.body := by
  kernel_rfl
/-- 57: _law_summed(row, many, base) -/
def nm57 : List Str := ["row", "many", "base", "spot"]
theorem sc57 : FnScope nm57 ["row", "many", "base"] (defScope (top 78)) := ⟨rfl, rfl, rfl, by decide +kernel, rfl, by decide +kernel, by decide +kernel⟩
def ir57 : Fd := ⟨3, 4, (.cons (.ret (.blt .tuple (.cons (.lc (.bin .Add (.var 2) (.blt .sum (.cons (.sl (.var 0) .no (.yes (.var 3))) .nil))) (.name 3) (.rng1 (.var 1)) .no [3]) .nil)))
    .nil)⟩
theorem c57 : compSs px 60 ⟨nm57, defScope (top 78), fun _ => true⟩ (defBody (top 78)) = some ir57.body := by
  kernel_rfl
/-- 58: _law_own_changes(m, net_so, sheet) -/
def nm58 : List Str := ["m", "net_so", "sheet", "found", "caps", "reads_so", "row", "through", "main", "away", "one", "far"]
theorem sc58 : FnScope nm58 ["m", "net_so", "sheet"] (defScope (top 79)) := ⟨rfl, rfl, rfl, by decide +kernel, rfl, by decide +kernel, by decide +kernel⟩
def ir58 : Fd := ⟨3, 12, (.cons (.asg (.name 3) (.lst .nil))
    (.cons (.forS (.tup [(.tup [(.name 4), (.name 5)]), (.name 6)]) (.zip (.ix (.var 1) (.lit (.int 1))) (.call 48 (.cons (.var 1) (.cons (.var 2) .nil)))) (.cons (.app 3 (.call 57 (.cons (.var 6) (.cons (.blt .len (.cons (.var 5) .nil)) (.cons (.bin .Sub (.call 36 (.cons (.var 0) (.cons (.lit (.int 11)) .nil))) (.lit (.int 5))) .nil)))))
    .nil))
    (.cons (.par [7, 8] (.cons (.call 45 (.cons (.ix (.var 1) (.lit (.int 2))) (.cons (.call 46 (.cons (.var 1) (.cons (.var 2) .nil))) .nil))) (.cons (.call 44 (.cons (.ix (.var 1) (.lit (.int 2))) .nil)) .nil)))
    (.cons (.asg (.name 9) (.lc (.bin .Sub (.var 10) (.var 11)) (.tup [(.name 10), (.name 11)]) (.zip (.var 7) (.var 8)) .no [10, 11]))
    (.cons (.ret (.tup (.cons (.blt .tuple (.cons (.var 3) .nil)) (.cons (.call 57 (.cons (.var 9) (.cons (.blt .len (.cons (.ix (.var 1) (.lit (.int 2))) .nil)) (.cons (.bin .Sub (.call 36 (.cons (.var 0) (.cons (.lit (.int 11)) .nil))) (.lit (.int 5))) .nil)))) .nil))))
    .nil)))))⟩
theorem c58 : compSs px 60 ⟨nm58, defScope (top 79), fun _ => true⟩ (defBody (top 79)) = some ir58.body := by
  kernel_rfl
/-- 59: _law_read_so(reads_so, row) -/
def nm59 : List Str := ["reads_so", "row", "spot", "total", "by"]
theorem sc59 : FnScope nm59 ["reads_so", "row"] (defScope (top 80)) := ⟨rfl, rfl, rfl, by decide +kernel, rfl, by decide +kernel, by decide +kernel⟩
def ir59 : Fd := ⟨2, 5, (.cons (.ret (.blt .tuple (.cons (.lc (.tup (.cons (.var 2) (.cons (.bin .Add (.var 3) (.var 4)) .nil))) (.tup [(.tup [(.name 2), (.name 3)]), (.name 4)]) (.zip (.var 0) (.var 1)) .no [2, 3, 4]) .nil)))
    .nil)⟩
theorem c59 : compSs px 60 ⟨nm59, defScope (top 80), fun _ => true⟩ (defBody (top 80)) = some ir59.body := by
  kernel_rfl
/-- 60: _law_bent(m, changes_so) -/
def nm60 : List Str := ["m", "changes_so", "number", "by", "row", "spot", "fresh"]
theorem sc60 : FnScope nm60 ["m", "changes_so"] (defScope (top 81)) := ⟨rfl, rfl, rfl, by decide +kernel, rfl, by decide +kernel, by decide +kernel⟩
def ir60 : Fd := ⟨2, 7, (.cons (.par [2, 3] (.cons (.call 36 (.cons (.var 0) (.cons (.bin .Add (.blt .len (.cons (.ix (.var 1) (.lit (.int 0))) .nil)) (.lit (.int 1))) .nil))) (.cons (.call 38 (.cons (.var 0) (.cons (.lst (.cons (.neg (.lit (.int 1))) (.cons (.lit (.int 1)) (.cons (.lit (.int 3)) .nil)))) .nil))) .nil)))
    (.cons (.asg (.name 4) (.ite (.val (.cmp .Eq (.var 2) (.blt .len (.cons (.ix (.var 1) (.lit (.int 0))) .nil)))) (.ix (.var 1) (.lit (.int 1))) (.ix (.ix (.var 1) (.lit (.int 0))) (.var 2))))
    (.cons (.ifS (.val (.cmp .Eq (.var 4) (.tup .nil))) (.cons (.ret (.tup (.cons (.var 1) (.cons (.lit (.bool false)) .nil))))
    .nil) .nil)
    (.cons (.asg (.name 5) (.call 36 (.cons (.var 0) (.cons (.blt .len (.cons (.var 4) .nil)) .nil))))
    (.cons (.asg (.name 6) (.call 41 (.cons (.var 4) (.cons (.var 5) (.cons (.bin .Add (.ix (.var 4) (.var 5)) (.var 3)) .nil)))))
    (.cons (.ifS (.val (.cmp .Eq (.var 2) (.blt .len (.cons (.ix (.var 1) (.lit (.int 0))) .nil)))) (.cons (.ret (.tup (.cons (.tup (.cons (.ix (.var 1) (.lit (.int 0))) (.cons (.var 6) .nil))) (.cons (.cmp .Gt (.blt .len (.cons (.var 4) .nil)) (.lit (.int 1))) .nil))))
    .nil) .nil)
    (.cons (.ret (.tup (.cons (.tup (.cons (.call 41 (.cons (.ix (.var 1) (.lit (.int 0))) (.cons (.var 2) (.cons (.var 6) .nil)))) (.cons (.ix (.var 1) (.lit (.int 1))) .nil))) (.cons (.cmp .Gt (.blt .len (.cons (.var 4) .nil)) (.lit (.int 1))) .nil))))
    .nil)))))))⟩
theorem c60 : compSs px 60 ⟨nm60, defScope (top 81), fun _ => true⟩ (defBody (top 81)) = some ir60.body := by
  kernel_rfl
/-- 61: _law_changes_right(m, net_so, sheet, is_within_v) -/
def nm61 : List Str := ["m", "net_so", "sheet", "is_within_v", "changes_so", "odd", "is_off", "told", "calm", "caps", "reads_so", "points_so", "row", "fresh", "due", "marks", "away"]
theorem sc61 : FnScope nm61 ["m", "net_so", "sheet", "is_within_v"] (defScope (top 82)) := ⟨rfl, rfl, rfl, by decide +kernel, rfl, by decide +kernel, by decide +kernel⟩
def ir61 : Fd := ⟨4, 17, (.cons (.asg (.name 4) (.call 58 (.cons (.var 0) (.cons (.var 1) (.cons (.var 2) .nil)))))
    (.cons (.asg (.tup [(.name 5), (.name 6)]) (.call 60 (.cons (.var 0) (.cons (.var 4) .nil))))
    (.cons (.asg (.name 7) (.lst (.cons (.call 22 (.cons (.var 1) (.cons (.var 2) (.cons (.var 4) .nil)))) (.cons (.callK 22 (.cons (.var 5) (.cons (.var 2) (.cons (.var 1) .nil))) [2, 1, 0]) .nil))))
    (.cons (.ifS (.not (.val (.call 40 (.cons (.var 7) (.cons (.lst (.cons (.var 3) (.cons (.and (.var 3) (.not (.var 6))) .nil))) .nil))))) (.cons (.ret (.lit (.bool false)))
    .nil) .nil)
    (.cons (.asg (.name 8) (.tup (.cons (.blt .tuple (.cons (.lc (.bin .Mult (.tup (.cons (.lit (.int 0)) .nil)) (.blt .len (.cons (.var 10) .nil))) (.tup [(.name 9), (.name 10)]) (.seq (.ix (.var 1) (.lit (.int 1)))) .no [9, 10]) .nil)) (.cons (.bin .Mult (.tup (.cons (.lit (.int 0)) .nil)) (.blt .len (.cons (.ix (.var 1) (.lit (.int 2))) .nil))) .nil))))
    (.cons (.ifS (.not (.val (.call 40 (.cons (.call 22 (.cons (.var 1) (.cons (.var 2) (.cons (.var 8) .nil)))) (.cons (.cmp .Eq (.call 47 (.cons (.var 1) (.cons (.var 2) .nil))) (.tup .nil)) .nil))))) (.cons (.ret (.lit (.bool false)))
    .nil) .nil)
    (.cons (.asg (.name 11) (.blt .tuple (.cons (.lc (.tup (.cons (.var 9) (.cons (.call 59 (.cons (.var 10) (.cons (.var 12) .nil))) .nil))) (.tup [(.tup [(.name 9), (.name 10)]), (.name 12)]) (.zip (.ix (.var 1) (.lit (.int 1))) (.ix (.var 4) (.lit (.int 0)))) .no [9, 10, 12]) .nil)))
    (.cons (.asg (.name 13) (.tup (.cons (.ix (.var 1) (.lit (.int 0))) (.cons (.var 11) (.cons (.call 59 (.cons (.ix (.var 1) (.lit (.int 2))) (.cons (.ix (.var 4) (.lit (.int 1))) .nil))) (.cons (.ix (.var 1) (.lit (.int 3))) .nil))))))
    (.cons (.asg (.name 14) (.blt .tuple (.cons (.lc (.bin .Mult (.tup (.cons (.lit (.int 0)) .nil)) (.blt .max (.cons (.lit (.int 0)) (.cons (.bin .Sub (.blt .len (.cons (.var 10) .nil)) (.lit (.int 1))) .nil)))) (.tup [(.name 9), (.name 10)]) (.seq (.var 11)) .no [9, 10]) .nil)))
    (.cons (.asg (.name 15) (.call 56 (.cons (.var 0) (.cons (.var 14) .nil))))
    (.cons (.asg (.name 7) (.lst (.cons (.call 33 (.cons (.var 13) (.cons (.var 2) .nil))) (.cons (.call 17 (.cons (.var 13) (.cons (.var 2) .nil))) (.cons (.call 32 (.cons (.var 13) (.cons (.var 15) (.cons (.var 2) .nil)))) (.cons (.ix (.call 7 (.cons (.var 13) .nil)) (.lit (.int 1))) .nil))))))
    (.cons (.asg (.name 16) (.call 45 (.cons (.ix (.var 1) (.lit (.int 2))) (.cons (.call 46 (.cons (.var 1) (.cons (.var 2) .nil))) .nil))))
    (.cons (.ret (.call 40 (.cons (.var 7) (.cons (.lst (.cons (.var 14) (.cons (.var 3) (.cons (.var 3) (.cons (.var 16) .nil))))) .nil))))
    .nil)))))))))))))⟩
theorem c61 : compSs px 60 ⟨nm61, defScope (top 82), fun _ => true⟩ (defBody (top 82)) = some ir61.body := by
  kernel_rfl
/-- 62: law(script) -/
def nm62 : List Str := ["script", "m", "turn", "net_so", "sheet", "told", "due", "again", "marks", "lot", "number", "one"]
theorem sc62 : FnScope nm62 ["script"] (defScope (top 83)) := ⟨rfl, rfl, rfl, by decide +kernel, rfl, by decide +kernel, by decide +kernel⟩
end K
end
/-! ## Pyv14 -/
section
set_option maxRecDepth 100000
set_option maxHeartbeats 4000000
/-! Pyv 14: the numbers that are drawn. -/
namespace Pyv
open PySem PySem.Spec PyProof.Rows L2

/-- _law_mixed -/
def mixed (c n : Int) : Int := ((((c * (1 + 2 * n) * 48271) % 2147483647 + 7919 * n * n + 104729 * n) * 69621) % 2147483629) / 7
/-- the cell that a draw looks at first: where, what -/
def greatAt (s : DS) : Option (Nat × Int) := if s.great = [] then none else
  match s.great[s.spot % s.great.length]? with
  | some z => if 0 < z then some (s.spot % s.great.length, z) else none
  | none => none
def drawV (s : DS) (limit : Int) : Int := match greatAt s with
  | some (_, z) => z % limit
  | none => mixed (mixed (s.cells.getD (s.spot % 64) 0 + 31 * ((s.spot : Int) / 64)) s.spot) ((s.spot : Int) + 7) % limit
def drawS (s : DS) (limit : Int) : DS := match greatAt s with
  | some (i, z) => { cells := s.cells, great := s.great.set i (z / limit), spot := s.spot + 1 }
  | none => { cells := s.cells, great := s.great, spot := s.spot + 1 }
def cellsOk (s : DS) : Bool := decide (s.cells.length = 64) && s.cells.all fun c => decide (0 ≤ c ∧ c < 2147483648)
def drawOk (s : DS) (limit : Int) : Bool := cellsOk s && decide (0 < limit ∧ limit < 1073741824 ∧ s.spot < 2 ^ 60 ∧ s.great.length ≤ 1000)
/-- _law_draw, as it is told -/
def primDraw : List W → DS → RF
  | [.stm, .val (.int limit)], s => if drawOk s limit = true then .ok (.val (.int (drawV s limit))) (drawS s limit) else .bad
  | _, _ => .bad
theorem drawV_range {s : DS} {limit : Int} (h : 0 < limit) : 0 ≤ drawV s limit ∧ drawV s limit < limit := by
  unfold drawV
  split
  · exact ⟨Int.emod_nonneg _ (by omega), Int.emod_lt_of_pos _ h⟩
  · exact ⟨Int.emod_nonneg _ (by omega), Int.emod_lt_of_pos _ h⟩
theorem drawS_ok {s : DS} {limit : Int} : (drawS s limit).cells = s.cells ∧ (drawS s limit).spot = s.spot + 1 ∧ (drawS s limit).great.length = s.great.length := by
  unfold drawS
  split
  · exact ⟨rfl, rfl, by simp⟩
  · exact ⟨rfl, rfl, rfl⟩
theorem mixed_range {c n : Int} : 0 ≤ mixed c n ∧ mixed c n < 2147483648 := by
  unfold mixed
  generalize (((c * (1 + 2 * n) * 48271) % 2147483647 + 7919 * n * n + 104729 * n) * 69621) = x
  omega
/-! ### its slots -/
theorem k_cs : ¬ (Sum.inr "cells" : Key) = (Sum.inr "spot" : Key) := by decide
theorem k_gs : ¬ (Sum.inr "great" : Key) = (Sum.inr "spot" : Key) := by decide
theorem k_cg : ¬ (Sum.inr "cells" : Key) = (Sum.inr "great" : Key) := by decide
theorem valV_spot {ms : Ms} {s : DS} : valV (stDict ms s) (.inr "spot") = some (.int (s.spot : Nat)) :=
  (valV_neg (p := ((Sum.inr "cells" : Key), V.ref ms.c)) k_cs).trans ((valV_neg (p := ((Sum.inr "great" : Key), V.ref ms.g)) k_gs).trans (valV_pos rfl))
theorem valV_great {ms : Ms} {s : DS} : valV (stDict ms s) (.inr "great") = some (.ref ms.g) :=
  (valV_neg (p := ((Sum.inr "cells" : Key), V.ref ms.c)) k_cg).trans (valV_pos rfl)
theorem valV_cells {ms : Ms} {s : DS} : valV (stDict ms s) (.inr "cells") = some (.ref ms.c) := valV_pos rfl
theorem putK_spot {ms : Ms} {s : DS} : putK (stDict ms s) (.inr "spot") (.int ((s.spot : Int) + 1)) = stDict ms { s with spot := s.spot + 1 } := by
  have h : ((stDict ms s).any fun kv => decide (kv.1 = (Sum.inr "spot" : Key))) = true := by
    rw [valV_any, valV_spot]; rfl
  unfold putK
  rw [if_pos h]
  show [if (Sum.inr "cells" : Key) = (Sum.inr "spot" : Key) then _ else _, if (Sum.inr "great" : Key) = (Sum.inr "spot" : Key) then _ else _, if (Sum.inr "spot" : Key) = (Sum.inr "spot" : Key) then _ else _] = _
  rw [if_neg k_cs, if_neg k_gs, if_pos rfl]
  rfl
end Pyv
end
/-! ## Kprim -/
section
set_option maxRecDepth 100000
set_option maxHeartbeats 4000000
namespace K
open PySem PySem.Spec PyProof.Rows L2 Pyv

section
variable {prog : Program} {w : World} {K : PySem.W.Frag} {mg : Str → Option Value} {base : Heap} {call : Nat → List W → DS → RF} {gl : List PyData} {k : Nat} {f : Addr} {fd : FuncData}
abbrev S36 : Sx := ⟨nm36, defScope (top 57), fun _ => true⟩
abbrev rPlus : R2 := rI0 fun i j => .int (i + j)
abbrev rTimes : R2 := rI CMul fun i j => .int (i * j)
abbrev rDiv : R2 := rI CDiv fun i j => .int (i / j)
abbrev rMod : R2 := rI (fun _ j => 0 < j) fun i j => .int (i % j)
abbrev rGt : R2 := rI0 fun i j => .bl (decide (j < i))
abbrev spMix (K : PySem.W.Frag) (call : Nat → List W → DS → RF) : Sp := spOf K (call 34)
def tMore (K : PySem.W.Frag) : TS :=
  tSeq (tAsg (tDGet (tVar 0) (tC (.str "great"))) (gName 3))
    (tSeq (tAsg (tOp rMod (tCB (rBlt K .int) (tCons (tVar 2) tNil)) (tCB (rBlt K .len) (tCons (tVar 3) tNil))) (gName 4))
      (tSeq (tAsg (tOp (rIx K) (tVar 3) (tVar 4)) (gName 5))
        (tSeq (tIfS (tTest (tOp rGt (tVar 5) (tC (.int 0))))
          (tSeq (tAsg (tOp rDiv (tVar 5) (tVar 1)) (gSub (tVar 3) (tVar 4) rSetL))
            (tSeq (tRet (tOp rMod (tCB (rBlt K .int) (tCons (tVar 5) tNil)) (tVar 1))) tNext)) tNext) tNext)))
def tLast (K : PySem.W.Frag) (call : Nat → List W → DS → RF) : TS :=
  tSeq (tAsg (tDGet (tVar 0) (tC (.str "cells"))) (gName 3))
    (tSeq (tRet (tOp rMod (tCB (rBlt K .int) (tCons (tCall (spMix K call) [] E0 (tCons (tCall (spMix K call) [] E0 (tCons (tOp rPlus (tOp (rIx K) (tVar 3) (tOp rMod (tCB (rBlt K .int) (tCons (tVar 2) tNil)) (tC (.int 64)))) (tOp rTimes (tC (.int 31)) (tOp rDiv (tVar 2) (tC (.int 64))))) (tCons (tVar 2) tNil))) (tCons (tOp rPlus (tVar 2) (tC (.int 7))) tNil))) tNil)) (tVar 1))) tNext)
def tDraw (K : PySem.W.Frag) (call : Nat → List W → DS → RF) : TS :=
  tSeq (tAsg (tDGet (tVar 0) (tC (.str "spot"))) (gName 2))
    (tSeq (sDPut (tVar 0) (tC (.str "spot")) (tOp rPlus (tVar 2) (tC (.int 1))))
      (tSeq (tIfS (tTest (tOp (rNeD K) (tDGet (tVar 0) (tC (.str "great"))) (tLst tNil))) (tMore K) tNext)
        (tLast K call)))
theorem text_draw {X : Cx} (T : TwS px X S36 call gl k) : PSs X (defBody (top 57)) (tDraw X.K call) := by
  have hu : X.A.units + 1 < cLine := hu_of T.room
  have v : ∀ (i : Nat) (x : Str) (pos : Pos), slotV S36 x = some i → PE X (.Name x pos) (tVar i) := fun i x pos h => by
    obtain ⟨q1, q2, q3⟩ := slotV_ok T.toTw h
    exact pe_var q1 q2 (nameOk_1 q3) (nameOk_2 q3)
  have st : ∀ {i : Nat} {x : Str} {e : Expr} {te : TE} {p pos : Pos}, slotL S36 x = some i → PE X e te → isComp e = false → PS X (.Assign [.Name x p] e pos) (tAsg te (gName i)) := fun h he hc => by
    obtain ⟨q1, q2, q3⟩ := slotL_ok T.toTw h
    exact ps_set T.nd q1 q2 he (notComp_sw hc) q3
  have b : ∀ {e : Expr} {te : TE} {p pos : Pos} (bt : Blt), glbB S36 (bltN bt).1 = true → bt ≠ .str → PE X e te → notStar e = true → PE X (.Call (.Name (bltN bt).1 p) [e] [] pos) (tCB (rBlt X.K bt) (tCons te tNil)) := fun bt hg hn he hs =>
    pe_blt (call_blt T.room T.calm bt) (T.toTw.glob hg).1 (T.blt _ (bltN_mem bt hn)) (pa_cons he pa_nil (notStar_he hs)) (notStar_he hs) rfl
  have v0 := fun p => v 0 "m" p (by decide +kernel)
  have v1 := fun p => v 1 "limit" p (by decide +kernel)
  have v2 := fun p => v 2 "n" p (by decide +kernel)
  have v3 := fun p => v 3 "lot" p (by decide +kernel)
  have v4 := fun p => v 4 "here" p (by decide +kernel)
  have v5 := fun p => v 5 "cell" p (by decide +kernel)
  obtain ⟨fm, fdm, psm, Fm, hmm, hkm, hbm, _⟩ := T.fns 34 "_law_mixed" (by decide +kernel)
  have gm := T.toTw.glob (S := S36) (x := "_law_mixed") (by decide +kernel)
  have cm : ∀ {a c : Expr} {ta tc : TE} {p pos : Pos}, PE X a ta → PE X c tc → notStar a = true → notStar c = true → PE X (.Call (.Name "_law_mixed" p) [a, c] [] pos) (tCall (spMix X.K call) [] E0 (tCons ta (tCons tc tNil))) := fun ha hc h1 h2 =>
    pe_call Fm T.room gm.1 hmm hkm hbm .nil passL (pa_cons ha (pa_cons hc pa_nil (notStar_he h2)) (notStar_he h1)) (nameOk_1 gm.2) (notStar_he h1) (by rw [notStar_he h2]; rfl)
  refine pss_cons (st (i := 2) (x := "n") (by decide +kernel) (pe_dget hu (v0 _) pe_str (fun _ _ => rfl)) rfl) ?_
  refine pss_cons (ps_dput hu (v0 _) pe_str (pe_op op_add (v2 _) pe_int) rfl) ?_
  refine pss_cons (ps_if (pt_cmpR (op_neD (by have := T.room.un; omega)) (pe_dget hu (v0 _) pe_str (fun _ _ => rfl)) (pe_lst pa_nil) rfl) ?_ pss_nil) ?_
  · refine pss_cons (st (i := 3) (x := "lot") (by decide +kernel) (pe_dget hu (v0 _) pe_str (fun _ _ => rfl)) rfl) ?_
    refine pss_cons (st (i := 4) (x := "here") (by decide +kernel) (pe_op op_mod (b .int (by decide +kernel) (by decide) (v2 _) rfl) (b .len (by decide +kernel) (by decide) (v3 _) rfl)) rfl) ?_
    refine pss_cons (st (i := 5) (x := "cell") (by decide +kernel) (pe_ix ix_seq (v3 _) (v4 _) (plainIx rfl)) rfl) ?_
    refine pss_cons (ps_if (pt_cmpR op_gt (v5 _) pe_int rfl) ?_ pss_nil) pss_nil
    refine pss_cons (ps_asg (pe_op op_fdiv (v5 _) (v1 _)) (pg_sub (v3 _) (v4 _) set_list (fun _ => rfl)) rfl rfl rfl) ?_
    exact pss_cons (ps_ret (pe_op op_mod (b .int (by decide +kernel) (by decide) (v5 _) rfl) (v1 _))) pss_nil
  · refine pss_cons (st (i := 3) (x := "lot") (by decide +kernel) (pe_dget hu (v0 _) pe_str (fun _ _ => rfl)) rfl) ?_
    refine pss_cons (ps_ret (pe_op op_mod (b .int (by decide +kernel) (by decide) ?_ rfl) (v1 _))) pss_nil
    exact cm (cm (pe_op op_add (pe_ix ix_seq (v3 _) (pe_op op_mod (b .int (by decide +kernel) (by decide) (v2 _) rfl) pe_int) (plainIx rfl)) (pe_op op_mul pe_int (pe_op op_fdiv (v2 _) pe_int))) (v2 _) rfl rfl) (pe_op op_add (v2 _) pe_int) rfl rfl
/-! ### what it does -/
theorem dp_ints {H : Hp} : ∀ (l : List Int), DpAll K H (l.map V.int) (l.map PyData.int)
  | [] => .nil
  | x :: l => .cons (.int x) (dp_ints l)
theorem lay_ints : ∀ (l : List Int), PyData.canLayAll0 (l.map PyData.int) = true ∧ PyData.depthAll (l.map PyData.int) ≤ 0
  | [] => by simp [PyData.canLayAll0, PyData.depthAll]
  | x :: l => by
    obtain ⟨h1, h2⟩ := lay_ints l
    simp only [List.map_cons, PyData.canLayAll0, PyData.depthAll, PyData.canLay0, PyData.depth, h1, Bool.and_self, true_and]
    exact Nat.max_le.mpr ⟨Nat.le_refl _, h2⟩
theorem shaped_ints (l : List Int) : SeqAt.shaped (.list (l.map PyData.int)) = true := by
  obtain ⟨h1, h2⟩ := lay_ints l
  unfold SeqAt.shaped
  rw [Bool.and_eq_true, decide_eq_true_eq]
  refine ⟨?_, ?_⟩
  · rw [PyData.canLay0]; exact h1
  · rw [PyData.depth]; exact Nat.le_trans (Nat.succ_le_succ h2) (by decide)
theorem eqv_ints (l : List Int) : PyData.eqv (.list (l.map PyData.int)) (.list []) = l.isEmpty := by
  cases l <;> simp [PyData.eqv, PyData.eqvAll]
theorem dg_spot {ms : Ms} {H : Hp} {s : DS} (st : StOk ms H s) : DGet H ms.m (.str "spot") (some (.int (s.spot : Nat))) := .inl ⟨stDict ms s, .inr "spot", .inl st.m, rfl, valV_spot.symm⟩
theorem dg_great {ms : Ms} {H : Hp} {s : DS} (st : StOk ms H s) : DGet H ms.m (.str "great") (some (.ref ms.g)) := .inl ⟨stDict ms s, .inr "great", .inl st.m, rfl, valV_great.symm⟩
theorem dg_cells {ms : Ms} {H : Hp} {s : DS} (st : StOk ms H s) : DGet H ms.m (.str "cells") (some (.ref ms.c)) := .inl ⟨stDict ms s, .inr "cells", .inl st.m, rfl, valV_cells.symm⟩
/-- what is asked of the call of _law_mixed -/
def MixOk (call : Nat → List W → DS → RF) : Prop := ∀ (c n : Int) (s : DS), 0 ≤ n → n < 2 ^ 61 → call 34 [.val (.int c), .val (.int n)] s = .ok (.val (.int (mixed c n))) s
theorem mix_call {ms : Ms} {A : Addr → Prop} {H : Hp} {s : DS} {c n : Int} {Q : VK} (hm : MixOk call) (h1 : ∀ a, ms.at_ a → A a) (h2 : ∀ a, A a → H a ≠ none) (st : StOk ms H s) (hn : 0 ≤ n) (hn2 : n < 2 ^ 61)
    (q : ∀ H', Keep ms H H' → StOk ms H' s → Q (.int (mixed c n)) H') : spMix K call ([.int c, .int n] ++ []) H Q E0 := by
  refine ⟨ms, A, [.val (.int c), .val (.int n)], s, h1, h2, st, .cons .int (.cons .int .nil), rfl, ?_⟩
  rw [hm c n s hn hn2]
  intro v H' k hs r
  have r : Rep K A H' v (.int (mixed c n)) := r
  cases r
  exact q H' k hs
theorem keep_in {ms : Ms} {A : Addr → Prop} {H H' : Hp} {s : DS} (k : Keep ms H H') (st : StOk ms H' s) (h2 : ∀ a, A a → H a ≠ none) : ∀ a, A a → H' a ≠ none := fun a z => by
  by_cases q : ms.at_ a
  · exact st.ne q
  · cases e : H a with
    | none => exact absurd e (h2 a z)
    | some o => rw [k a o e q]; simp
/-- the last part: from the cells -/
theorem plain_last {ms : Ms} {A : Addr → Prop} {H : Hp} {σ : L2.St} {s : DS} {limit n : Int} {Q : VK} (hm : MixOk call)
    (h1 : ∀ a, ms.at_ a → A a) (h2 : ∀ a, A a → H a ≠ none) (st : StOk ms H s) (hl : 0 < limit) (hc : cellsOk s = true) (hn : 0 ≤ n) (hn2 : n < 2 ^ 60) (e0 : σ[0]? = some (some (.ref ms.m))) (e1 : σ[1]? = some (some (.int limit))) (e2 : σ[2]? = some (some (.int n))) (el : σ.length = 6)
    (q : ∀ H', Keep ms H H' → StOk ms H' s → Q (.int (mixed (mixed (s.cells.getD (n.toNat % 64) 0 + 31 * (n / 64)) n) (n + 7) % limit)) H') :
    tLast K call { nx := fun _ H' => Q .non H', rt := Q } σ H := by
  have f2 : (σ.set 3 (some (.ref ms.c)))[2]? = some (some (.int n)) := by rw [List.getElem?_set_ne (by decide)]; exact e2
  have f1 : (σ.set 3 (some (.ref ms.c)))[1]? = some (some (.int limit)) := by rw [List.getElem?_set_ne (by decide)]; exact e1
  have f3 : (σ.set 3 (some (.ref ms.c)))[3]? = some (some (.ref ms.c)) := List.getElem?_set_self (by rw [el]; decide)
  unfold cellsOk at hc
  rw [Bool.and_eq_true, decide_eq_true_eq] at hc
  have hlen := hc.1
  have hlt : n.toNat % 64 < s.cells.length := by rw [hlen]; exact Nat.mod_lt _ (by decide)
  have hix : n % 64 = ((n.toNat % 64 : Nat) : Int) := by omega
  have hat : atI (s.cells.map V.int) (n % 64) = some (.int (s.cells.getD (n.toNat % 64) 0)) := by
    rw [hix]
    refine atI_nat ?_
    rw [List.getElem?_map, List.getElem?_eq_getElem hlt]
    simp [List.getD_eq_getElem?_getD, List.getElem?_eq_getElem hlt]
  refine ⟨_, e0, ms.m, _, rfl, dg_cells st, ?_⟩
  refine ⟨_, f3, _, f2, .inl ⟨n, rfl, ?_⟩⟩
  refine ⟨n, 64, rfl, rfl, (show (0 : Int) < 64 by decide), .inl ⟨ms.c, _, _, _, rfl, rfl, SqL.of st.c, hat, ?_⟩⟩
  refine ⟨_, f2, n, 64, rfl, rfl, ⟨by decide, by decide⟩, 31, n / 64, rfl, rfl, .inl ⟨by decide, by decide⟩, _, _, rfl, rfl, ?_⟩
  refine ⟨_, f2, mix_call hm h1 h2 st hn (by omega) fun H1 k1 st1 => ?_⟩
  refine ⟨_, f2, n, 7, rfl, rfl, mix_call hm h1 (keep_in k1 st1 h2) st1 (by omega) (by omega) fun H2 k2 st2 => ?_⟩
  exact .inl ⟨_, rfl, _, f1, _, _, rfl, rfl, hl, q H2 (k1.trans k2) st2⟩
theorem m_ne {ms : Ms} {H : Hp} {s : DS} (st : StOk ms H s) : ms.c ≠ ms.m ∧ ms.g ≠ ms.m := ⟨ne_of st.c st.m (by simp), ne_of st.g st.m (by simp)⟩
theorem step_spot {ms : Ms} {H : Hp} {s : DS} (st : StOk ms H s) : StOk ms (upd H ms.m (.dK (stDict ms { s with spot := s.spot + 1 }))) { s with spot := s.spot + 1 } :=
  ⟨upd_same, by rw [upd_ne (m_ne st).1]; exact st.c, by rw [upd_ne (m_ne st).2]; exact st.g, st.cg⟩
theorem plain_draw {ms : Ms} {A : Addr → Prop} {H : Hp} {s : DS} {limit : Int} {Q : VK} (hm : MixOk call) (h1 : ∀ a, ms.at_ a → A a) (h2 : ∀ a, A a → H a ≠ none) (st : StOk ms H s) (ok : drawOk s limit = true)
    (q : ∀ H', Keep ms H H' → StOk ms H' (drawS s limit) → Q (.int (drawV s limit)) H') :
    tDraw K call { nx := fun _ H' => Q .non H', rt := Q } (L2.start nm36 [.ref ms.m, .int limit]) H := by
  unfold drawOk at ok
  rw [Bool.and_eq_true, decide_eq_true_eq] at ok
  obtain ⟨hc, hl, hl2, hs, hg⟩ := ok
  have st1 := step_spot st
  have k1 : Keep ms H (upd H ms.m (.dK (stDict ms { s with spot := s.spot + 1 }))) := fun a o e n => by rw [upd_ne fun z => n (.inl z)]; exact e
  have h21 := keep_in k1 st1 h2
  refine ⟨_, rfl, ms.m, _, rfl, dg_spot st, ?_⟩
  refine ⟨_, rfl, _, _, rfl, rfl, ⟨_, rfl, ms.m, _, rfl, DPut.k (k := .inr "spot") st.m (by show 3 < sizeLine; decide), ?_⟩⟩
  rw [putK_spot]
  generalize hH1 : upd H ms.m (.dK (stDict ms { s with spot := s.spot + 1 })) = H1 at st1 k1 h21
  have hsp : (s.spot : Int) < 2 ^ 60 := by omega
  refine ⟨_, rfl, ms.m, _, rfl, dg_great st1, by show 0 ≤ sizeLine; decide, fun p hp => ?_⟩
  have st2 := st1.upd (o := .lst []) hp
  have k2 : Keep ms H (upd H1 p (.lst [])) := k1.trans (Keep.new hp)
  have h22 := keep_in k2 st2 h2
  generalize hH2 : upd H1 p (.lst []) = H2 at st2 k2 h22
  have hpn : H2 p = some (.lst []) := by rw [← hH2]; exact upd_same
  refine ⟨.list (s.great.map PyData.int), .list [], .lst (SqL.of st2.g) (dp_ints _), .lst (SqL.of hpn) .nil, shaped_ints _, by decide, _, rfl, ?_⟩
  rw [eqv_ints]
  have last : ∀ (σ : L2.St), σ[0]? = some (some (.ref ms.m)) → σ[1]? = some (some (.int limit)) → σ[2]? = some (some (.int (s.spot : Nat))) → σ.length = 6 → greatAt s = none → tLast K call { nx := fun _ H' => Q .non H', rt := Q } σ H2 := fun σ e0 e1 e2 el hn => by
    refine plain_last hm h1 h22 st2 hl hc (by omega) hsp e0 e1 e2 el fun H' k' st' => ?_
    have := q H' (k2.trans k') (by unfold drawS; rw [hn]; exact st')
    unfold drawV at this
    rw [hn] at this
    have e : ((s.spot : Int)).toNat = s.spot := by omega
    rw [e]
    exact this
  dsimp only
  split
  · rename_i hne
    have hne : s.great.isEmpty = false := by simpa using hne
    have hpos : 0 < s.great.length := by
      cases h : s.great with
      | nil => rw [h] at hne; cases hne
      | cons a b => simp
    have hlt : s.spot % s.great.length < s.great.length := Nat.mod_lt _ hpos
    have hge : s.great ≠ [] := fun z => by rw [z] at hpos; exact absurd hpos (by simp)
    have hat : s.great[s.spot % s.great.length]? = some s.great[s.spot % s.great.length] := List.getElem?_eq_getElem hlt
    have hix : (s.spot : Int) % (s.great.length : Int) = ((s.spot % s.great.length : Nat) : Int) := by omega
    refine ⟨_, rfl, ms.m, _, rfl, dg_great st2, ?_⟩
    refine ⟨_, rfl, .inl ⟨_, rfl, _, rfl, ms.g, _, rfl, .inl (SqL.of st2.g), _, _, rfl, rfl, ?_, ?_⟩⟩
    · show (0 : Int) < ((s.great.map V.int).length : Int)
      rw [List.length_map]; omega
    · rw [List.length_map]
      dsimp only
      rw [hix]
      refine ⟨_, rfl, _, rfl, .inl ⟨ms.g, _, _, .int s.great[s.spot % s.great.length], rfl, rfl, SqL.of st2.g, atI_nat (by rw [List.getElem?_map, hat]; rfl), ?_⟩⟩
      refine ⟨_, rfl, _, _, rfl, rfl, _, rfl, ?_⟩
      dsimp only
      by_cases hz : 0 < s.great[s.spot % s.great.length]
      · rw [if_pos (decide_eq_true hz)]
        have hga : greatAt s = some (s.spot % s.great.length, s.great[s.spot % s.great.length]) := by
          unfold greatAt
          rw [if_neg hge, hat]
          simp only
          rw [if_pos hz]
        refine ⟨_, rfl, _, rfl, _, _, rfl, rfl, ⟨hl, hl2⟩, _, rfl, _, rfl, ms.g, _, _, s.spot % s.great.length, rfl, rfl, st2.g, ?_, ?_⟩
        · unfold ixN
          rw [List.length_map]
          dsimp only
          rw [if_pos (by omega), if_pos (by omega)]
          rfl
        · refine ⟨_, rfl, .inl ⟨_, rfl, _, rfl, _, _, rfl, rfl, hl, ?_⟩⟩
          have hset : (s.great.map V.int).set (s.spot % s.great.length) (V.int (s.great[s.spot % s.great.length] / limit)) = (s.great.set (s.spot % s.great.length) (s.great[s.spot % s.great.length] / limit)).map V.int := by
            rw [List.map_set]
          rw [hset]
          have := q (upd H2 ms.g (.lst ((s.great.set (s.spot % s.great.length) (s.great[s.spot % s.great.length] / limit)).map V.int))) (fun a o e n => by rw [upd_ne fun z => n (.inr (.inr z))]; exact k2 a o e n) (by
            unfold drawS
            rw [hga]
            exact ⟨by rw [upd_ne (Ne.symm (m_ne st2).2)]; exact st2.m, by rw [upd_ne st2.cg]; exact st2.c, upd_same, st2.cg⟩)
          unfold drawV at this
          rw [hga] at this
          exact this
      · rw [if_neg (by simpa using hz)]
        have hga : greatAt s = none := by
          unfold greatAt
          rw [if_neg hge, hat]
          simp only
          rw [if_neg hz]
        exact last _ rfl rfl rfl rfl hga
  · rename_i hne
    have hne : s.great = [] := by simpa using hne
    have hga : greatAt s = none := by
      unfold greatAt
      rw [if_pos hne]
    exact last _ rfl rfl rfl rfl hga
theorem ok_draw (F : FunD K "_law_draw" "_law_draw" (defArgs (top 57)) (defBody (top 57)) (defScope (top 57)) [] [] f fd) (G : Gs px prog w K mg base call gl k) (hm : MixOk call) : FnOk prog w K mg base (L2.CX prog w) (k + 1) f fd ["m", "limit"] (spOf K primDraw) := by
  have cas : ∀ {vs : List V} {H : Hp} {Q : VK} {E : XK}, spOf K primDraw vs H Q E → ∃ (ms : Ms) (A : Addr → Prop) (s : DS) (limit : Int), vs = [.ref ms.m, .int limit] ∧ (∀ a, ms.at_ a → A a) ∧ (∀ a, A a → H a ≠ none) ∧ StOk ms H s ∧ drawOk s limit = true ∧ ∀ H', Keep ms H H' → StOk ms H' (drawS s limit) → Q (.int (drawV s limit)) H' := by
    rintro vs H Q E ⟨ms, A, ws, s, h1, h2, h3, h4, h5, h6⟩
    unfold primDraw at h6
    split at h6
    · rename_i limit
      split at h6
      · rename_i ok
        cases h4 with
        | cons r t => cases t with
          | cons r' t' =>
            cases t'
            have r : _ = V.ref ms.m := r
            have r' : Rep K A H _ (.int limit) := r'
            cases r'
            subst r
            exact ⟨ms, A, s, limit, rfl, h1, h2, h3, ok, fun H' k hs => h6 _ H' k hs .int⟩
      · exact h6.elim
    · exact h6.elim
  refine F.ok sc36 (fun vs H Q E h => ?_) (fun cdv A outer s H vs Q E hr h => ⟨_, text_draw (tw_of G sc36 hr), ?_⟩)
  · obtain ⟨ms, A, s, limit, rfl, _⟩ := cas h
    rfl
  · obtain ⟨ms, A, s, limit, rfl, h1, h2, h3, ok, q⟩ := cas h
    exact plain_draw hm h1 h2 h3 ok q
end
end K
end
/-! ## Kfold -/
section
set_option maxRecDepth 100000
set_option maxHeartbeats 4000000
namespace K
open PySem PySem.Spec PyProof.Rows L2 Pyv

section
variable {prog : Program} {w : World} {K : PySem.W.Frag} {mg : Str → Option Value} {base : Heap} {call : Nat → List W → DS → RF} {gl : List PyData} {k : Nat} {f : Addr} {fd : FuncData}
abbrev S35 : Sx := ⟨nm35, defScope (top 56), fun _ => true⟩
abbrev rMinus : R2 := rI0 fun i j => .int (i - j)
def tInt (K : PySem.W.Frag) (t : TE) : TE := tCB (rBlt K .int) (tCons t tNil)
def tF1 (K : PySem.W.Frag) : TS := tSeq (tAsg (tOp rMod (tInt K (tOp rPlus (tOp rTimes (tOp (rIx K) (tVar 1) (tOp rMod (tInt K (tVar 2)) (tC (.int 64)))) (tC (.int 48271))) (tVar 3))) (tC (.int 2147483647))) (gSub (tVar 1) (tOp rMod (tInt K (tVar 2)) (tC (.int 64))) rSetL)) tNext
def tF2 (K : PySem.W.Frag) : TS := tSeq (tAsg (tOp rMod (tInt K (tOp rPlus (tOp (rIx K) (tVar 1) (tVar 2)) (tOp rTimes (tOp (rIx K) (tVar 1) (tOp rMinus (tVar 2) (tC (.int 1)))) (tC (.int 16807))))) (tC (.int 2147483647))) (gSub (tVar 1) (tVar 2) rSetL)) tNext
def tFold (K : PySem.W.Frag) : TS :=
  tSeq (tAsg (tLc (iRng1 (tCons (tC (.int 64)) tNil)) (gName 2) tYes (tOp rPlus (tC (.int 17)) (tVar 2)) [2]) (gName 1))
    (tSeq (tFor (iEnumA K (tCons (tVar 0) tNil)) (gTup K 2 (gCons (gName 2) (gCons (gName 3) gNil))) (tF1 K))
      (tSeq (tFor (iRng2 (tCons (tC (.int 1)) (tCons (tC (.int 64)) tNil))) (gName 2) (tF2 K))
        (tSeq (tRet (tVar 1)) tNext)))
theorem name_blk {X : Cx} {S : Sx} (T : TwS px X S call gl k) (sc : Scope) (s : Shared) (H : Hp) (C : Addr) (cl : List (Str × Addr)) (fp : List Addr) {x : Str} {i : Nat} {p : Pos} (h : slotL (blkS S sc) x = some i) : PG (X.blk s H sc (compEnvC sc cl C X.env) fp) (.Name x p) (gName i) := by
  obtain ⟨a1, a2, a3⟩ := slotL_ok (T.toTw.blk sc s H C cl fp) h
  exact pg_name T.nd a1 a2 a3
theorem var_blk {X : Cx} {S : Sx} (T : TwS px X S call gl k) (sc : Scope) (s : Shared) (H : Hp) (C : Addr) (cl : List (Str × Addr)) (fp : List Addr) {x : Str} {i : Nat} {p : Pos} (h : slotV (blkS S sc) x = some i) : PE (X.blk s H sc (compEnvC sc cl C X.env) fp) (.Name x p) (tVar i) := by
  obtain ⟨a1, a2, a3⟩ := slotV_ok (T.toTw.blk sc s H C cl fp) h
  exact pe_var a1 a2 (nameOk_1 a3) (nameOk_2 a3)
theorem text_fold {X : Cx} (T : TwS px X S35 call gl k) : PSs X (defBody (top 56)) (tFold X.K) := by
  have hu : X.A.units + 1 < cLine := hu_of T.room
  have v : ∀ (i : Nat) (x : Str) (pos : Pos), slotV S35 x = some i → PE X (.Name x pos) (tVar i) := fun i x pos h => by
    obtain ⟨q1, q2, q3⟩ := slotV_ok T.toTw h
    exact pe_var q1 q2 (nameOk_1 q3) (nameOk_2 q3)
  have int1 : ∀ {e : Expr} {te : TE} {p pos : Pos}, PE X e te → notStar e = true → PE X (.Call (.Name "int" p) [e] [] pos) (tInt X.K te) := fun he hs =>
    pe_blt (b := .int) (call_blt T.room T.calm .int) (T.toTw.glob (S := S35) (x := "int") (by decide +kernel)).1 (T.blt _ (bltN_mem .int (by decide))) (pa_cons he pa_nil (notStar_he hs)) (notStar_he hs) rfl
  have v0 := fun p => v 0 "script" p (by decide +kernel)
  have v1 := fun p => v 1 "found" p (by decide +kernel)
  have v2 := fun p => v 2 "n" p (by decide +kernel)
  have v3 := fun p => v 3 "cell" p (by decide +kernel)
  have gr := (T.toTw.glob (S := S35) (x := "range") (by decide +kernel)).1
  have ge := (T.toTw.glob (S := S35) (x := "enumerate") (by decide +kernel)).1
  have mr := T.blt "range" (by decide +kernel)
  have me := T.blt "enumerate" (by decide +kernel)
  obtain ⟨q1, q2, q3⟩ := slotL_ok T.toTw (x := "found") (i := 1) (by decide +kernel)
  have n2 : ∀ (p : Pos), PG X (.Name "n" p) (gName 2) := fun p => by
    obtain ⟨a1, a2, a3⟩ := slotL_ok T.toTw (x := "n") (i := 2) (by decide +kernel)
    exact pg_name T.nd a1 a2 a3
  have n3 : ∀ (p : Pos), PG X (.Name "cell" p) (gName 3) := fun p => by
    obtain ⟨a1, a2, a3⟩ := slotL_ok T.toTw (x := "cell") (i := 3) (by decide +kernel)
    exact pg_name T.nd a1 a2 a3
  refine pss_cons (t := tAsg (tLc (iRng1 (tCons (tC (.int 64)) tNil)) (gName 2) tYes (tOp rPlus (tC (.int 17)) (tVar 2)) [2]) (gName 1)) ?_ ?_
  · have hyl : X.env.scope.names.lookup ("found" : Str) = some NameKind.local := by rw [T.sc]; decide +kernel
    refine ps_setLc (i := 1) (own := [("n", 2)]) T.calm T.nd q1 hyl (sw_true T.kind hyl rfl ?_) (pi_range1 gr mr (pa_cons pe_int pa_nil rfl) rfl) (blkOk_by (by rw [T.N, T.sc]; decide +kernel)) (fun s H C cl fp => ?_) (fun s H C cl fp => pts_nil) (fun s H C cl fp => pe_op op_add pe_int ?_) (fun _ => rfl)
    · decide +kernel
    · exact name_blk T _ s H C cl fp (by decide +kernel)
    · exact var_blk T _ s H C cl fp (by decide +kernel)
  · refine pss_cons (ps_for T.own T.calm (pi_enumA ge me (pa_cons (v0 _) pa_nil rfl) rfl) (pg_tup T.calm (pgs_cons (n2 _) (pgs_cons (n3 _) pgs_nil))) ?_ (fun _ => rfl)) ?_
    · exact pss_cons (ps_asg (pe_op op_mod (int1 (pe_op op_add (pe_op op_mul (pe_ix ix_seq (v1 _) (pe_op op_mod (int1 (v2 _) rfl) pe_int) (plainIx rfl)) pe_int) (v3 _)) rfl) pe_int) (pg_sub (v1 _) (pe_op op_mod (int1 (v2 _) rfl) pe_int) set_list (fun _ => rfl)) rfl rfl rfl) pss_nil
    · refine pss_cons (ps_for T.own T.calm (pi_range2 gr mr (pa_cons pe_int (pa_cons pe_int pa_nil rfl) rfl) rfl rfl) (n2 _) ?_ (fun _ => rfl)) ?_
      · exact pss_cons (ps_asg (pe_op op_mod (int1 (pe_op op_add (pe_ix ix_seq (v1 _) (v2 _) (plainIx rfl)) (pe_op op_mul (pe_ix ix_seq (v1 _) (pe_op op_sub (v2 _) pe_int) (plainIx rfl)) pe_int)) rfl) pe_int) (pg_sub (v1 _) (v2 _) set_list (fun _ => rfl)) rfl rfl rfl) pss_nil
      · exact pss_cons (ps_ret (v1 _)) pss_nil
/-- a list of 64 cells -/
def FoldOk (l : List Int) : Prop := l.length = 64 ∧ ∀ c ∈ l, 0 ≤ c ∧ c < 2147483648
theorem FoldOk.at {l : List Int} (h : FoldOk l) {i : Nat} (hi : i < 64) : ∃ c, l[i]? = some c ∧ 0 ≤ c ∧ c < 2147483648 := by
  have hl : i < l.length := by rw [h.1]; exact hi
  exact ⟨l[i], List.getElem?_eq_getElem hl, h.2 _ (List.getElem_mem hl)⟩
theorem FoldOk.set {l : List Int} (h : FoldOk l) {i : Nat} {c : Int} (h0 : 0 ≤ c) (h1 : c < 2147483648) : FoldOk (l.set i c) := by
  refine ⟨by rw [List.length_set]; exact h.1, fun d hd => ?_⟩
  rcases List.mem_or_eq_of_mem_set hd with z | z
  · exact h.2 d z
  · rw [z]; exact ⟨h0, h1⟩
def spFold (K : PySem.W.Frag) : Sp := fun vs H Q _ => ∃ (a : Addr) (ns : List Int), vs = [.ref a] ∧ SqL K H a (ns.map V.int) ∧
  ∀ (H' : Hp) (p : Addr) (l : List Int), Evl.Ex H H' → H p = none → H' p = some (.lst (l.map V.int)) → FoldOk l → Q (.ref p) H'
/-- where the list stands -/
structure FInv (K : PySem.W.Frag) (H : Hp) (a p : Addr) (ns : List Int) (σ : L2.St) (H' : Hp) : Prop where
  len : σ.length = 4
  e0 : σ[0]? = some (some (.ref a))
  e1 : σ[1]? = some (some (.ref p))
  ex : Evl.Ex H H'
  fr : H p = none
  at_ : ∃ l : List Int, H' p = some (.lst (l.map V.int)) ∧ FoldOk l
theorem FInv.put {H H' : Hp} {a p : Addr} {ns : List Int} {σ : L2.St} (I : FInv K H a p ns σ H') {i : Nat} {v : V} (hi : 2 ≤ i) : FInv K H a p ns (σ.set i (some v)) H' :=
  ⟨by rw [List.length_set]; exact I.len, by rw [List.getElem?_set_ne (by omega)]; exact I.e0, by rw [List.getElem?_set_ne (by omega)]; exact I.e1, I.ex, I.fr, I.at_⟩
theorem FInv.write {H H' : Hp} {a p : Addr} {ns : List Int} {σ : L2.St} {l : List Int} (I : FInv K H a p ns σ H') (h : FoldOk l) : FInv K H a p ns σ (upd H' p (.lst (l.map V.int))) :=
  ⟨I.len, I.e0, I.e1, I.ex.mut I.fr, I.fr, l, upd_same, h⟩
theorem FInv.new {H H' : Hp} {a p T : Addr} {ns : List Int} {σ : L2.St} {o : HO} (I : FInv K H a p ns σ H') (h : H' T = none) : FInv K H a p ns σ (upd H' T o) := by
  obtain ⟨l, e, f⟩ := I.at_
  exact ⟨I.len, I.e0, I.e1, I.ex.trans (Evl.Ex.new h), I.fr, l, by rw [upd_ne (ne_of_none e h)]; exact e, f⟩
theorem at_nat {l : List Int} {i : Nat} {c : Int} (h : l[i]? = some c) : atI (l.map V.int) (i : Int) = some (.int c) := atI_nat (by rw [List.getElem?_map, h]; rfl)
theorem step1 {H H' : Hp} {a p : Addr} {ns : List Int} {σ : L2.St} {n : Nat} {c : Int} {D : Ends} (I : FInv K H a p ns σ H') (e2 : σ[2]? = some (some (.int (n : Int)))) (e3 : σ[3]? = some (some (.int c)))
    (q : ∀ H2, FInv K H a p ns σ H2 → D.nx σ H2) : tF1 K D σ H' := by
  obtain ⟨l, hp, hf⟩ := I.at_
  obtain ⟨z, hz, z0, z1⟩ := hf.at (i := n % 64) (Nat.mod_lt _ (by decide))
  have hix : (n : Int) % 64 = ((n % 64 : Nat) : Int) := by omega
  have hat : atI (l.map V.int) ((n : Int) % 64) = some (.int z) := by rw [hix]; exact at_nat hz
  refine ⟨_, I.e1, _, e2, .inl ⟨_, rfl, _, _, rfl, rfl, (show (0 : Int) < 64 by decide), .inl ⟨p, _, _, _, rfl, rfl, SqL.of hp, hat, ?_⟩⟩⟩
  refine ⟨z, 48271, rfl, rfl, .inl ⟨by omega, by omega⟩, _, e3, _, _, rfl, rfl, .inl ⟨_, rfl, _, _, rfl, rfl, (show (0 : Int) < 2147483647 by decide), ?_⟩⟩
  refine ⟨_, I.e1, _, e2, .inl ⟨_, rfl, _, _, rfl, rfl, (show (0 : Int) < 64 by decide), p, _, _, n % 64, rfl, rfl, hp, ?_, ?_⟩⟩
  · have hl : (l.map V.int).length = 64 := by rw [List.length_map]; exact hf.1
    unfold ixN
    rw [hl]
    rw [if_pos (by omega), if_pos (by omega)]
    exact congrArg some (by omega)
  · rw [← List.map_set]
    exact q _ (I.write (hf.set (Int.emod_nonneg _ (by decide)) (by have := Int.emod_lt_of_pos (z * 48271 + c) (show (0 : Int) < 2147483647 by decide); omega)))
theorem step2 {H H' : Hp} {a p : Addr} {ns : List Int} {σ : L2.St} {n : Nat} {D : Ends} (I : FInv K H a p ns σ H') (h1 : 1 ≤ n) (h2 : n < 64) (e2 : σ[2]? = some (some (.int (n : Int))))
    (q : ∀ H2, FInv K H a p ns σ H2 → D.nx σ H2) : tF2 K D σ H' := by
  obtain ⟨l, hp, hf⟩ := I.at_
  obtain ⟨z, hz, z0, z1⟩ := hf.at h2
  obtain ⟨y, hy, y0, y1⟩ := hf.at (i := n - 1) (by omega)
  have hix : (n : Int) - 1 = ((n - 1 : Nat) : Int) := by omega
  have hat : atI (l.map V.int) ((n : Int) - 1) = some (.int y) := by rw [hix]; exact at_nat hy
  refine ⟨_, I.e1, _, e2, .inl ⟨p, _, _, _, rfl, rfl, SqL.of hp, at_nat hz, ?_⟩⟩
  refine ⟨_, I.e1, _, e2, _, _, rfl, rfl, .inl ⟨p, _, _, _, rfl, rfl, SqL.of hp, hat, y, 16807, rfl, rfl, .inl ⟨by omega, by omega⟩, _, _, rfl, rfl, .inl ⟨_, rfl, _, _, rfl, rfl, (show (0 : Int) < 2147483647 by decide), ?_⟩⟩⟩
  refine ⟨_, I.e1, _, e2, p, _, _, n, rfl, rfl, hp, ?_, ?_⟩
  · have hl : (l.map V.int).length = 64 := by rw [List.length_map]; exact hf.1
    unfold ixN
    rw [hl]
    rw [if_pos (by omega), if_pos (by omega)]
    rfl
  · rw [← List.map_set]
    exact q _ (I.write (hf.set (Int.emod_nonneg _ (by decide)) (by have := Int.emod_lt_of_pos (z + y * 16807) (show (0 : Int) < 2147483647 by decide); omega)))
theorem plain_fold {H : Hp} {a : Addr} {ns : List Int} {Q : VK} (hS : SqL K H a (ns.map V.int)) (q : ∀ (H' : Hp) (p : Addr) (l : List Int), Evl.Ex H H' → H p = none → H' p = some (.lst (l.map V.int)) → FoldOk l → Q (.ref p) H') :
    tFold K { nx := fun _ H' => Q .non H', rt := Q } (L2.start nm35 [.ref a]) H := by
  refine ⟨64, rfl, by decide, by decide, fun p hp => ?_⟩
  let Pc : Nat → Hp → Prop := fun i H' => Evl.Ex H H' ∧ ∃ l : List Int, H' p = some (.lst (l.map V.int)) ∧ l.length = i ∧ ∀ c ∈ l, 0 ≤ c ∧ c < 2147483648
  refine lc_range Pc ⟨Evl.Ex.new hp, [], upd_same, rfl, fun c hc => by cases hc⟩ ?_ ?_
  · rintro i H' hi ⟨ex, l, hl, hn, hc⟩
    have hi : i < 64 := hi
    refine ⟨rfl, _, rfl, _, _, rfl, rfl, _, hl, by rw [List.length_map, hn, sizeLine_eq]; omega, ex.mut hp, l ++ [17 + (0 + (i : Int))], ?_, by rw [List.length_append, hn]; rfl, ?_⟩
    · rw [List.map_append]; exact upd_same
    · intro c hc2
      rcases List.mem_append.mp hc2 with z | z
      · exact hc c z
      · have : c = 17 + (0 + (i : Int)) := by simpa using z
        omega
  · rintro H' ⟨ex, l, hl, hn, hc⟩
    have I0 : FInv K H a p ns ((L2.start nm35 [.ref a]).set 1 (some (.ref p))) H' := ⟨rfl, rfl, rfl, ex, hp, l, hl, hn, hc⟩
    refine ⟨_, I0.e0, a, ns.map V.int, rfl, .inl ⟨Evl.ex_l I0.ex hS, ?_⟩⟩
    refine for_it walk_enum (fun _ σ' H2 => FInv K H a p ns σ' H2) I0 (fun i σ' H2 _ I => Evl.ex_l I.ex hS) (fun i x σ' H2 H3 hi I y => ?_) (fun σ' H2 I => ?_)
    · obtain ⟨T, x1, y1, rfl, hT, rfl, e1, e2⟩ := y
      cases e1
      have e2 : (ns.map V.int)[i]? = some y1 := e2
      rw [List.getElem?_map] at e2
      obtain ⟨c, _, rfl⟩ := Option.map_eq_some_iff.mp e2
      have I1 := (I.new (o := .tup [.int (i : Nat), .int c]) hT)
      refine ⟨T, _, rfl, SqT.of upd_same, rfl, _, _, rfl, _, _, rfl, rfl, ?_⟩
      have I2 := (I1.put (i := 2) (v := .int (i : Nat)) (by decide)).put (i := 3) (v := .int c) (by decide)
      refine step1 (n := i) (c := c) I2 ?_ ?_ fun H4 I4 => I4
      · rw [List.getElem?_set_ne (by decide)]
        exact List.getElem?_set_self (by rw [I1.len]; decide)
      · exact List.getElem?_set_self (by rw [List.length_set, I1.len]; decide)
    · refine ⟨1, 64, rfl, ⟨by decide, by decide, by decide, by decide⟩, ?_⟩
      refine for_range (fun _ σ' H2 => FInv K H a p ns σ' H2) I (fun i σ' H3 hi I3 => ?_) (fun σ' H3 I3 => ?_)
      · have hi : i < 63 := hi
        have I4 := I3.put (i := 2) (v := .int (1 + (i : Int))) (by decide)
        refine step2 (n := 1 + i) I4 (by omega) (by omega) ?_ fun H4 I5 => I5
        exact List.getElem?_set_self (by rw [I3.len]; decide)
      · obtain ⟨l2, h1, h2⟩ := I3.at_
        exact ⟨_, I3.e1, q H3 p l2 I3.ex I3.fr h1 h2⟩
theorem ok_fold (F : FunD K "_law_folded" "_law_folded" (defArgs (top 56)) (defBody (top 56)) (defScope (top 56)) [] [] f fd) (G : Gs px prog w K mg base call gl k) : FnOk prog w K mg base (L2.CX prog w) (k + 1) f fd ["script"] (spFold K) := by
  refine F.ok sc35 (fun vs H Q E h => ?_) (fun cdv A outer s H vs Q E hr h => ⟨_, text_fold (tw_of G sc35 hr), ?_⟩)
  · obtain ⟨a, ns, rfl, _⟩ := h
    rfl
  · obtain ⟨a, ns, rfl, hS, q⟩ := h
    exact plain_fold hS q
end
end K
end
/-! ## Kbegun -/
section
set_option maxRecDepth 100000
set_option maxHeartbeats 4000000
namespace K
open PySem PySem.Spec PyProof.Rows L2 Pyv

section
variable {prog : Program} {w : World} {K : PySem.W.Frag} {mg : Str → Option Value} {base : Heap} {call : Nat → List W → DS → RF} {gl : List PyData} {k : Nat} {f ff : Addr} {fd ffd : FuncData}
abbrev S37 : Sx := ⟨nm37, defScope (top 58), fun _ => true⟩
abbrev rGe : R2 := rI0 fun i j => .bl (decide (j ≤ i))
abbrev rPow : R2 := rI CPow fun i j => .int (i ^ j.toNat)
def tDic (K : PySem.W.Frag) : TE := tDisp [(tC (.str "cells"), tCall (spFold K) [] E0 (tCons (tVar 0) tNil)), (tC (.str "great"), tLst tNil), (tC (.str "spot"), tC (.int 0))]
def tGr (K : PySem.W.Frag) : TE := tLc (iSeq K (tVar 0)) (gName 2) tYes (tIf (tTest (tOp rGe (tVar 2) (tOp rPow (tC (.int 10)) (tC (.int 18))))) (tVar 2) (tC (.int 0))) [2]
def tBeg (K : PySem.W.Frag) : TS := tSeq (tAsg (tDic K) (gName 1)) (tSeq (sDPut (tVar 1) (tC (.str "great")) (tGr K)) (tSeq (tRet (tVar 1)) tNext))
theorem text_begun {X : Cx} (T : TwS px X S37 call gl k) (FF : FnOk X.prog X.w X.K X.mg X.base (L2.CX X.prog X.w) k ff ffd ["script"] (spFold X.K)) (hmg : X.mg "_law_folded" = some (.ref ff)) (hkp : PySem.W.keepIn X.K (.ref ff) = true) (hb : Binds X.K ffd ["script"] []) :
    PSs X (defBody (top 58)) (tBeg X.K) := by
  have hu : X.A.units + 1 < cLine := hu_of T.room
  have v : ∀ (i : Nat) (x : Str) (pos : Pos), slotV S37 x = some i → PE X (.Name x pos) (tVar i) := fun i x pos h => by
    obtain ⟨q1, q2, q3⟩ := slotV_ok T.toTw h
    exact pe_var q1 q2 (nameOk_1 q3) (nameOk_2 q3)
  have v0 := fun p => v 0 "script" p (by decide +kernel)
  have v1 := fun p => v 1 "m" p (by decide +kernel)
  have gf := T.toTw.glob (S := S37) (x := "_law_folded") (by decide +kernel)
  obtain ⟨q1, q2, q3⟩ := slotL_ok T.toTw (x := "m") (i := 1) (by decide +kernel)
  refine pss_cons (ps_set T.nd q1 q2 (pe_disp (pps_cons pe_str (pe_call FF T.room gf.1 hmg hkp hb .nil passL (pa_cons (v0 _) pa_nil rfl) (nameOk_1 gf.2) rfl rfl) (pps_cons pe_str (pe_lst pa_nil) (pps_cons pe_str pe_int pps_nil))) rfl rfl (by simp) (by simp)) rfl q3) ?_
  refine pss_cons (ps_dput hu (v1 _) pe_str (pe_lc (own := [("cell", 2)]) T.calm T.nd (pi_seq (v0 _)) (blkOk_by (by rw [T.N, T.sc]; decide +kernel)) (fun s H C cl fp => ?_) (fun s H C cl fp => pts_nil) (fun s H C cl fp => pe_ifExp (pt_cmpR op_ge ?_ (pe_op op_pow pe_int pe_int) rfl) ?_ pe_int) (fun _ => rfl)) rfl) ?_
  · exact name_blk T _ s H C cl fp (by decide +kernel)
  · exact var_blk T _ s H C cl fp (by decide +kernel)
  · exact var_blk T _ s H C cl fp (by decide +kernel)
  · exact pss_cons (ps_ret (v1 _)) pss_nil
def spBegun (K : PySem.W.Frag) : Sp := fun vs H Q _ => ∃ (a : Addr) (ns : List Int), vs = [.ref a] ∧ SqL K H a (ns.map V.int) ∧ ns.length ≤ 1000 ∧
  ∀ (H' : Hp) (ms : Ms) (s : DS), StOk ms H' s → cellsOk s = true → s.spot = 0 → s.great.length ≤ 1000 → Q (.ref ms.m) H'
theorem k_sp (a : Nat) : True := trivial
theorem merge3 {c g : V} {z : V} : mergeK [] [((Sum.inr "cells" : Key), c), (Sum.inr "great", g), (Sum.inr "spot", z)] = [((Sum.inr "cells" : Key), c), (Sum.inr "great", g), (Sum.inr "spot", z)] := by
  unfold mergeK
  simp only [List.foldl_cons, List.foldl_nil]
  rw [putK_new (kvs := []) c valV_nil]
  simp only [List.nil_append]
  rw [putK_new (kvs := [((Sum.inr "cells" : Key), c)]) (k := (Sum.inr "great" : Key)) g ((valV_neg (p := ((Sum.inr "cells" : Key), c)) k_cg).trans valV_nil)]
  simp only [List.cons_append, List.nil_append]
  rw [putK_new (kvs := [((Sum.inr "cells" : Key), c), ((Sum.inr "great" : Key), g)]) (k := (Sum.inr "spot" : Key)) z ((valV_neg (p := ((Sum.inr "cells" : Key), c)) k_cs).trans ((valV_neg (p := ((Sum.inr "great" : Key), g)) k_gs).trans valV_nil))]
  rfl
theorem putK_great {c g g' z : V} : putK [((Sum.inr "cells" : Key), c), (Sum.inr "great", g), (Sum.inr "spot", z)] (.inr "great") g' = [((Sum.inr "cells" : Key), c), (Sum.inr "great", g'), (Sum.inr "spot", z)] := by
  have h : ([((Sum.inr "cells" : Key), c), (Sum.inr "great", g), (Sum.inr "spot", z)].any fun kv => decide (kv.1 = (Sum.inr "great" : Key))) = true := by
    rw [valV_any, (valV_neg (p := ((Sum.inr "cells" : Key), c)) k_cg).trans (valV_pos rfl)]; rfl
  unfold putK
  rw [if_pos h]
  show [if (Sum.inr "cells" : Key) = (Sum.inr "great" : Key) then _ else _, if (Sum.inr "great" : Key) = (Sum.inr "great" : Key) then _ else _, if (Sum.inr "spot" : Key) = (Sum.inr "great" : Key) then _ else _] = _
  rw [if_neg k_cg, if_pos rfl, if_neg (fun e => k_gs e.symm)]
theorem plain_begun {H : Hp} {a : Addr} {ns : List Int} {Q : VK} (hS : SqL K H a (ns.map V.int)) (hl : ns.length ≤ 1000) (q : ∀ (H' : Hp) (ms : Ms) (s : DS), StOk ms H' s → cellsOk s = true → s.spot = 0 → s.great.length ≤ 1000 → Q (.ref ms.m) H') :
    tBeg K { nx := fun _ H' => Q .non H', rt := Q } (L2.start nm37 [.ref a]) H := by
  refine fun p hp => ⟨_, rfl, a, ns, rfl, Evl.ex_l (Evl.Ex.new hp) hS, fun H1 c l ex hc hcl hf => ?_⟩
  have hp1 : H1 p = some (.dK []) := ex _ _ upd_same
  refine ⟨by show 0 ≤ sizeLine; decide, fun g hg => ?_⟩
  have hp2 : (upd H1 g (.lst [])) p = some (.dK []) := by rw [upd_ne (ne_of_none hp1 hg)]; exact hp1
  refine ⟨hp2, [((Sum.inr "cells" : Key), .ref c), (Sum.inr "great", .ref g), (Sum.inr "spot", .int 0)], rfl, by show 3 ≤ 15; decide, ?_⟩
  rw [merge3]
  have exA : Evl.Ex H (upd (upd H1 g (.lst [])) p (.dK [((Sum.inr "cells" : Key), .ref c), (Sum.inr "great", .ref g), (Sum.inr "spot", .int 0)])) :=
    (((Evl.Ex.new hp).trans ex).trans (Evl.Ex.new hg)).mut hp
  have hcA : (upd (upd H1 g (.lst [])) p (.dK [((Sum.inr "cells" : Key), .ref c), (Sum.inr "great", .ref g), (Sum.inr "spot", .int 0)])) c = some (.lst (l.map V.int)) := by
    rw [upd_ne (ne_of hcl hp1 (by simp)), upd_ne (ne_of_none hcl hg)]; exact hcl
  generalize hHA : upd (upd H1 g (.lst [])) p (.dK [((Sum.inr "cells" : Key), .ref c), (Sum.inr "great", .ref g), (Sum.inr "spot", .int 0)]) = HA at exA hcA
  have hpA : HA p = some (.dK [((Sum.inr "cells" : Key), .ref c), (Sum.inr "great", .ref g), (Sum.inr "spot", .int 0)]) := by rw [← hHA]; exact upd_same
  refine ⟨_, rfl, a, ns.map V.int, rfl, .inl ⟨Evl.ex_l exA hS, fun D hD => ?_⟩⟩
  let Pc : Nat → Hp → Prop := fun i H' => Evl.Ex HA H' ∧ ∃ G : List Int, H' D = some (.lst (G.map V.int)) ∧ G.length = i
  have h10 : (10 : Int) ^ (18 : Int).toNat = 1000000000000000000 := by decide
  refine lc_it walk_list Pc ⟨Evl.Ex.new hD, [], upd_same, rfl⟩ (fun i H2 _ r => Evl.ex_l (exA.trans r.1) hS) ?_ ?_
  · rintro i x H2 H3 hi ⟨ex2, G, hG, hGl⟩ ⟨rfl, hx⟩
    rw [List.getElem?_map] at hx
    obtain ⟨z, _, rfl⟩ := Option.map_eq_some_iff.mp hx
    have room : (G.map V.int).length < sizeLine := by
      rw [List.length_map, hGl, sizeLine_eq]
      rw [List.length_map] at hi
      omega
    refine ⟨rfl, _, rfl, _, _, rfl, rfl, ⟨by decide, by decide, by decide⟩, z, _, rfl, rfl, _, rfl, ?_⟩
    dsimp only
    split
    · refine ⟨_, rfl, _, hG, room, ex2.mut hD, G ++ [z], ?_, by rw [List.length_append, hGl]; rfl⟩
      rw [List.map_append]; exact upd_same
    · refine ⟨_, hG, room, ex2.mut hD, G ++ [0], ?_, by rw [List.length_append, hGl]; rfl⟩
      rw [List.map_append]; exact upd_same
  · rintro H2 ⟨ex2, G, hG, hGl⟩
    rw [List.length_map] at hGl
    have hp3 := ex2 _ _ hpA
    refine ⟨_, rfl, p, _, rfl, DPut.k (k := .inr "great") hp3 (by show 3 < sizeLine; decide), ?_⟩
    rw [putK_great]
    have hc3 := ex2 _ _ hcA
    have n1 : c ≠ p := ne_of hc3 hp3 (by simp)
    have n2 : D ≠ p := ne_of hG hp3 (by simp)
    refine ⟨_, rfl, q _ ⟨p, c, D⟩ ⟨l, G, 0⟩ ⟨upd_same, by rw [upd_ne n1]; exact hc3, by rw [upd_ne n2]; exact hG, fun e => ?_⟩ ?_ rfl (by show G.length ≤ 1000; omega)⟩
    · have e : c = D := e
      rw [e, hD] at hcA
      cases hcA
    · unfold cellsOk
      rw [Bool.and_eq_true, decide_eq_true_eq, List.all_eq_true]
      exact ⟨hf.1, fun x hx => decide_eq_true (hf.2 x hx)⟩
theorem ok_begun (F : FunD K "_law_begun" "_law_begun" (defArgs (top 58)) (defBody (top 58)) (defScope (top 58)) [] [] f fd) (G : Gs px prog w K mg base call gl k)
    (FF : FnOk prog w K mg base (L2.CX prog w) k ff ffd ["script"] (spFold K)) (hmg : mg "_law_folded" = some (.ref ff)) (hkp : PySem.W.keepIn K (.ref ff) = true) (hb : Binds K ffd ["script"] []) :
    FnOk prog w K mg base (L2.CX prog w) (k + 1) f fd ["script"] (spBegun K) := by
  refine F.ok sc37 (fun vs H Q E h => ?_) (fun cdv A outer s H vs Q E hr h => ⟨_, text_begun (tw_of G sc37 hr) FF hmg hkp hb, ?_⟩)
  · obtain ⟨a, ns, rfl, _⟩ := h
    rfl
  · obtain ⟨a, ns, rfl, hS, hl, q⟩ := h
    exact plain_begun hS hl q
end
end K
end
/-! ## Khead -/
section
set_option maxRecDepth 100000
set_option maxHeartbeats 0
namespace K
open PySem PySem.W PySem.Calls PyProof.Rows L2
def dd0 : He.DefD := ⟨("is_integer", none), "is_integer", "is_integer", defArgs (top 9), defBody (top 9), defScope (top 9), [], []⟩
def dd1 : He.DefD := ⟨("is_within", none), "is_within", "is_within", defArgs (top 15), defBody (top 15), defScope (top 15), [], []⟩
def dd2 : He.DefD := ⟨("are_reads", none), "are_reads", "are_reads", defArgs (top 16), defBody (top 16), defScope (top 16), [], []⟩
def dd3 : He.DefD := ⟨("is_point", none), "is_point", "is_point", defArgs (top 17), defBody (top 17), defScope (top 17), [], []⟩
def dd4 : He.DefD := ⟨("are_losses", none), "are_losses", "are_losses", defArgs (top 18), defBody (top 18), defScope (top 18), [], []⟩
def dd5 : He.DefD := ⟨("need_net", none), "need_net", "need_net", defArgs (top 19), defBody (top 19), defScope (top 19), [], []⟩
def dd6 : He.DefD := ⟨("amounts_in", none), "amounts_in", "amounts_in", defArgs (top 20), defBody (top 20), defScope (top 20), [], []⟩
def dd7 : He.DefD := ⟨("amounts_read", none), "amounts_read", "amounts_read", defArgs (top 21), defBody (top 21), defScope (top 21), [], []⟩
def dd8 : He.DefD := ⟨("are_integers", none), "are_integers", "are_integers", defArgs (top 22), defBody (top 22), defScope (top 22), [], []⟩
def dd9 : He.DefD := ⟨("place_in_pair", none), "place_in_pair", "place_in_pair", defArgs (top 23), defBody (top 23), defScope (top 23), [], []⟩
def dd10 : He.DefD := ⟨("need_flows", none), "need_flows", "need_flows", defArgs (top 24), defBody (top 24), defScope (top 24), [], []⟩
def dd11 : He.DefD := ⟨("sums_by_gap", none), "sums_by_gap", "sums_by_gap", defArgs (top 25), defBody (top 25), defScope (top 25), [], []⟩
def dd12 : He.DefD := ⟨("through_main", none), "through_main", "through_main", defArgs (top 26), defBody (top 26), defScope (top 26), [], []⟩
def dd13 : He.DefD := ⟨("faults_of_bounds", none), "faults_of_bounds", "faults_of_bounds", defArgs (top 27), defBody (top 27), defScope (top 27), [], []⟩
def dd14 : He.DefD := ⟨("faults_of_gaps", none), "faults_of_gaps", "faults_of_gaps", defArgs (top 28), defBody (top 28), defScope (top 28), [], []⟩
def dd15 : He.DefD := ⟨("all_faults", none), "all_faults", "all_faults", defArgs (top 29), defBody (top 29), defScope (top 29), [], []⟩
def dd16 : He.DefD := ⟨("faults", none), "faults", "faults", defArgs (top 30), defBody (top 30), defScope (top 30), [], []⟩
def dd17 : He.DefD := ⟨("fits_net", none), "fits_net", "fits_net", defArgs (top 31), defBody (top 31), defScope (top 31), [], []⟩
def dd18 : He.DefD := ⟨("place_in_changes", none), "place_in_changes", "place_in_changes", defArgs (top 33), defBody (top 33), defScope (top 33), [], []⟩
def dd19 : He.DefD := ⟨("need_changes", none), "need_changes", "need_changes", defArgs (top 34), defBody (top 34), defScope (top 34), [], []⟩
def dd20 : He.DefD := ⟨("changed_reads", none), "changed_reads", "changed_reads", defArgs (top 35), defBody (top 35), defScope (top 35), [], []⟩
def dd21 : He.DefD := ⟨("faults_behind", none), "faults_behind", "faults_behind", defArgs (top 36), defBody (top 36), defScope (top 36), [], []⟩
def dd22 : He.DefD := ⟨("fits_behind", none), "fits_behind", "fits_behind", defArgs (top 37), defBody (top 37), defScope (top 37), [], []⟩
def dd23 : He.DefD := ⟨("are_marks", none), "are_marks", "are_marks", defArgs (top 43), defBody (top 43), defScope (top 43), [], []⟩
def dd24 : He.DefD := ⟨("need_marks", none), "need_marks", "need_marks", defArgs (top 44), defBody (top 44), defScope (top 44), [], []⟩
def dd25 : He.DefD := ⟨("need_doubt", none), "need_doubt", "need_doubt", defArgs (top 45), defBody (top 45), defScope (top 45), [], []⟩
def dd26 : He.DefD := ⟨("need_points", none), "need_points", "need_points", defArgs (top 46), defBody (top 46), defScope (top 46), [], []⟩
def dd27 : He.DefD := ⟨("marks_for", none), "marks_for", "marks_for", defArgs (top 47), defBody (top 47), defScope (top 47), [], []⟩
def dd28 : He.DefD := ⟨("doubt_of", none), "doubt_of", "doubt_of", defArgs (top 48), defBody (top 48), defScope (top 48), [], []⟩
def dd29 : He.DefD := ⟨("hidden_in", none), "hidden_in", "hidden_in", defArgs (top 49), defBody (top 49), defScope (top 49), [], []⟩
def dd30 : He.DefD := ⟨("does_mark_allow", none), "does_mark_allow", "does_mark_allow", defArgs (top 50), defBody (top 50), defScope (top 50), [], []⟩
def dd31 : He.DefD := ⟨("does_serve", none), "does_serve", "does_serve", defArgs (top 51), defBody (top 51), defScope (top 51), [], []⟩
def dd32 : He.DefD := ⟨("serves", none), "serves", "serves", defArgs (top 52), defBody (top 52), defScope (top 52), [], []⟩
def dd33 : He.DefD := ⟨("hidden", none), "hidden", "hidden", defArgs (top 53), defBody (top 53), defScope (top 53), [], []⟩
def dd34 : He.DefD := ⟨("_law_mixed", none), "_law_mixed", "_law_mixed", defArgs (top 55), defBody (top 55), defScope (top 55), [], []⟩
def dd35 : He.DefD := ⟨("_law_folded", none), "_law_folded", "_law_folded", defArgs (top 56), defBody (top 56), defScope (top 56), [], []⟩
def dd36 : He.DefD := ⟨("_law_draw", none), "_law_draw", "_law_draw", defArgs (top 57), defBody (top 57), defScope (top 57), [], []⟩
def dd37 : He.DefD := ⟨("_law_begun", none), "_law_begun", "_law_begun", defArgs (top 58), defBody (top 58), defScope (top 58), [], []⟩
def dd38 : He.DefD := ⟨("_law_of", none), "_law_of", "_law_of", defArgs (top 59), defBody (top 59), defScope (top 59), [], []⟩
def dd39 : He.DefD := ⟨("_law_wide", none), "_law_wide", "_law_wide", defArgs (top 60), defBody (top 60), defScope (top 60), [], []⟩
def dd40 : He.DefD := ⟨("_law_like", none), "_law_like", "_law_like", defArgs (top 61), defBody (top 61), defScope (top 61), [], []⟩
def dd41 : He.DefD := ⟨("_law_put", none), "_law_put", "_law_put", defArgs (top 62), defBody (top 62), defScope (top 62), [], []⟩
def dd42 : He.DefD := ⟨("_law_spots", none), "_law_spots", "_law_spots", defArgs (top 63), defBody (top 63), defScope (top 63), [], []⟩
def dd43 : He.DefD := ⟨("_law_totals", none), "_law_totals", "_law_totals", defArgs (top 64), defBody (top 64), defScope (top 64), [], []⟩
def dd44 : He.DefD := ⟨("_law_amounts", none), "_law_amounts", "_law_amounts", defArgs (top 65), defBody (top 65), defScope (top 65), [], []⟩
def dd45 : He.DefD := ⟨("_law_gap_sums", none), "_law_gap_sums", "_law_gap_sums", defArgs (top 66), defBody (top 66), defScope (top 66), [], []⟩
def dd46 : He.DefD := ⟨("_law_through", none), "_law_through", "_law_through", defArgs (top 67), defBody (top 67), defScope (top 67), [], []⟩
def dd47 : He.DefD := ⟨("_law_faults", none), "_law_faults", "_law_faults", defArgs (top 68), defBody (top 68), defScope (top 68), [], []⟩
def dd48 : He.DefD := ⟨("_law_hidden", none), "_law_hidden", "_law_hidden", defArgs (top 69), defBody (top 69), defScope (top 69), [], []⟩
def dd49 : He.DefD := ⟨("_law_bounded", none), "_law_bounded", "_law_bounded", defArgs (top 70), defBody (top 70), defScope (top 70), [], []⟩
def dd50 : He.DefD := ⟨("_law_serves", none), "_law_serves", "_law_serves", defArgs (top 71), defBody (top 71), defScope (top 71), [], []⟩
def dd51 : He.DefD := ⟨("_law_all_gaps", none), "_law_all_gaps", "_law_all_gaps", defArgs (top 72), defBody (top 72), defScope (top 72), [], []⟩
def dd52 : He.DefD := ⟨("_law_marks_of", none), "_law_marks_of", "_law_marks_of", defArgs (top 73), defBody (top 73), defScope (top 73), [], []⟩
def dd53 : He.DefD := ⟨("_law_signed", none), "_law_signed", "_law_signed", defArgs (top 74), defBody (top 74), defScope (top 74), [], []⟩
def dd54 : He.DefD := ⟨("_law_off", none), "_law_off", "_law_off", defArgs (top 75), defBody (top 75), defScope (top 75), [], []⟩
def dd55 : He.DefD := ⟨("_law_drawn", none), "_law_drawn", "_law_drawn", defArgs (top 76), defBody (top 76), defScope (top 76), [], []⟩
def dd56 : He.DefD := ⟨("_law_marks", none), "_law_marks", "_law_marks", defArgs (top 77), defBody (top 77), defScope (top 77), [], []⟩
def dd57 : He.DefD := ⟨("_law_summed", none), "_law_summed", "_law_summed", defArgs (top 78), defBody (top 78), defScope (top 78), [], []⟩
def dd58 : He.DefD := ⟨("_law_own_changes", none), "_law_own_changes", "_law_own_changes", defArgs (top 79), defBody (top 79), defScope (top 79), [], []⟩
def dd59 : He.DefD := ⟨("_law_read_so", none), "_law_read_so", "_law_read_so", defArgs (top 80), defBody (top 80), defScope (top 80), [], []⟩
def dd60 : He.DefD := ⟨("_law_bent", none), "_law_bent", "_law_bent", defArgs (top 81), defBody (top 81), defScope (top 81), [], []⟩
def dd61 : He.DefD := ⟨("_law_changes_right", none), "_law_changes_right", "_law_changes_right", defArgs (top 82), defBody (top 82), defScope (top 82), [], []⟩
def dd62 : He.DefD := ⟨("law", none), "law", "law", defArgs (top 83), defBody (top 83), defScope (top 83), [], []⟩
def fnD : List He.DefD := [dd0, dd1, dd2, dd3, dd4, dd5, dd6, dd7, dd8, dd9, dd10, dd11, dd12, dd13, dd14, dd15, dd16, dd17, dd18, dd19, dd20, dd21, dd22, dd23, dd24] ++ ([dd25, dd26, dd27, dd28, dd29, dd30, dd31, dd32, dd33, dd34, dd35, dd36, dd37, dd38, dd39, dd40, dd41, dd42, dd43, dd44, dd45, dd46, dd47, dd48, dd49] ++ ([dd50, dd51, dd52, dd53, dd54, dd55, dd56, dd57, dd58, dd59, dd60, dd61, dd62]))
def fa0 : List He.Fa := [.glo "is_integer", .glo "is_within", .glo "are_reads", .glo "is_point", .glo "are_losses", .glo "need_net", .glo "amounts_in", .glo "amounts_read", .glo "are_integers", .glo "place_in_pair", .glo "need_flows", .glo "sums_by_gap", .glo "through_main", .glo "faults_of_bounds", .glo "faults_of_gaps", .glo "all_faults", .glo "faults", .glo "fits_net", .glo "place_in_changes", .glo "need_changes", .glo "changed_reads", .glo "faults_behind", .glo "fits_behind", .glo "are_marks", .glo "need_marks"]
def fa1 : List He.Fa := [.glo "need_doubt", .glo "need_points", .glo "marks_for", .glo "doubt_of", .glo "hidden_in", .glo "does_mark_allow", .glo "does_serve", .glo "serves", .glo "hidden", .glo "_law_mixed", .glo "_law_folded", .glo "_law_draw", .glo "_law_begun", .glo "_law_of", .glo "_law_wide", .glo "_law_like", .glo "_law_put", .glo "_law_spots", .glo "_law_totals", .glo "_law_amounts", .glo "_law_gap_sums", .glo "_law_through", .glo "_law_faults", .glo "_law_hidden", .glo "_law_bounded"]
def fa2 : List He.Fa := [.glo "_law_serves", .glo "_law_all_gaps", .glo "_law_marks_of", .glo "_law_signed", .glo "_law_off", .glo "_law_drawn", .glo "_law_marks", .glo "_law_summed", .glo "_law_own_changes", .glo "_law_read_so", .glo "_law_bent", .glo "_law_changes_right", .glo "law", .free "len", .free "tuple", .free "list", .free "sum", .free "all", .free "any", .free "sorted", .free "max", .free "min", .free "abs", .free "int", .free "isinstance"]
def fa3 : List He.Fa := [.free "range", .free "zip", .free "enumerate", .free "bool", .free "str", .int "MOST_HOURS" 24, .int "MOST_POINTS" 8, .int "MOST_CAP" 1000000000, .int "MOST_TOTAL" 1000000000000, .str "TRUE_MARK" "true", .str "LESS_MARK" "less", .str "MORE_MARK" "more", .glo "MARKS"]
def fa : List He.Fa := fa0 ++ (fa1 ++ (fa2 ++ (fa3)))
def exB (K : PySem.W.Frag) : Bool := He.tupB K "MARKS" [.str "true", .str "less", .str "more"]
def lo0 : List PySem.Str := ["BillError", "BadLot", "BadNet", "BadFlows", "BadChanges", "BadDoubt", "is_integer", "MOST_HOURS", "MOST_POINTS", "MOST_CAP", "MOST_TOTAL", "is_within", "are_reads", "is_point", "are_losses", "need_net", "amounts_in", "amounts_read", "are_integers", "place_in_pair", "need_flows", "sums_by_gap", "through_main", "faults_of_bounds", "faults_of_gaps"]
def lo1 : List PySem.Str := ["all_faults", "faults", "fits_net", "place_in_changes", "need_changes", "changed_reads", "faults_behind", "fits_behind", "TRUE_MARK", "LESS_MARK", "MORE_MARK", "MARKS", "are_marks", "need_marks", "need_doubt", "need_points", "marks_for", "doubt_of", "hidden_in", "does_mark_allow", "does_serve", "serves", "hidden", "_law_mixed", "_law_folded"]
def lo2 : List PySem.Str := ["_law_draw", "_law_begun", "_law_of", "_law_wide", "_law_like", "_law_put", "_law_spots", "_law_totals", "_law_amounts", "_law_gap_sums", "_law_through", "_law_faults", "_law_hidden", "_law_bounded", "_law_serves", "_law_all_gaps", "_law_marks_of", "_law_signed", "_law_off", "_law_drawn", "_law_marks", "_law_summed", "_law_own_changes", "_law_read_so", "_law_bent"]
def lo3 : List PySem.Str := ["_law_changes_right"]
def lo : List PySem.Str := lo0 ++ (lo1 ++ (lo2 ++ (lo3)))
abbrev R : OpenRow := OpenLaw.row PySem.Challenge.rw_onebill_k21_whole_hidden_as_changes
abbrev hk : PySem.W.Hook := He.hookX 4 fa fnD [] [] exB
def ob (s : PySem.W.SharedT) : He.AlX := He.obsX 4 fa fnD [] [] exB (HandSHeadRun.getT s)
theorem ob_eq (s : PySem.W.SharedT) : ob s = hk.obs s.abs := He.obsX_eq (HandSHeadRun.getT_eq s)
theorem run (w : World) : HandSHeadRun.RunEq R (view R.prog [83]) hk ob 4000 lo w := by
  intro os
  kernel_rfl
end K
end
/-! ## Kpg -/
section
set_option maxRecDepth 100000
set_option maxHeartbeats 4000000
namespace K
open PySem PySem.Spec PyProof.Rows L2 Pyv
def fds : List (Option Fd) := [some ir0, some ir1, some ir2, some ir3, some ir4, some ir5, some ir6, some ir7, some ir8, some ir9, some ir10, some ir11, some ir12, some ir13, some ir14, some ir15, some ir16, some ir17, some ir18, some ir19, some ir20, some ir21, some ir22, some ir23, some ir24] ++ ([some ir25, some ir26, some ir27, some ir28, some ir29, some ir30, some ir31, some ir32, some ir33, some ir34, none, none, none, some ir38, some ir39, some ir40, some ir41, some ir42, some ir43, some ir44, some ir45, some ir46, some ir47, some ir48, some ir49] ++ ([some ir50, some ir51, some ir52, some ir53, some ir54, some ir55, some ir56, some ir57, some ir58, some ir59, some ir60, some ir61, none]))
def glD : List PyData := gls.map (·.2)
def prim (i : Nat) (ws : List W) (s : DS) : RF := if i = 36 then primDraw ws s else .bad
def pg : Pg := ⟨fds, glD, prim⟩
def irLaw : Ss := (.cons (.forS (.name 2) (.rng1 (.lit (.int 3))) (.cons (.asg (.tup [(.name 3), (.name 4)]) (.call 55 (.cons (.var 1) .nil)))
    (.cons (.par [5, 6] (.cons (.call 48 (.cons (.var 3) (.cons (.var 4) .nil))) (.cons (.call 47 (.cons (.var 3) (.cons (.var 4) .nil))) .nil)))
    (.cons (.ifS (.not (.val (.call 40 (.cons (.lst (.cons (.call 33 (.cons (.var 3) (.cons (.var 4) .nil))) (.cons (.call 16 (.cons (.var 3) (.cons (.var 4) .nil))) (.cons (.call 17 (.cons (.var 3) (.cons (.var 4) .nil))) .nil)))) (.cons (.lst (.cons (.var 5) (.cons (.var 6) (.cons (.cmp .Eq (.var 6) (.tup .nil)) .nil)))) .nil))))) (.cons (.ret (.lit (.bool false)))
    .nil) .nil)
    (.cons (.forS (.name 7) (.rng1 (.lit (.int 2))) (.cons (.asg (.name 8) (.call 56 (.cons (.var 1) (.cons (.var 5) .nil))))
    (.cons (.ifS (.not (.val (.call 40 (.cons (.lst (.cons (.call 25 (.cons (.var 3) (.cons (.var 8) .nil))) (.cons (.call 32 (.cons (.var 3) (.cons (.var 8) (.cons (.var 4) .nil)))) .nil))) (.cons (.lst (.cons (.var 8) (.cons (.call 50 (.cons (.var 3) (.cons (.var 8) (.cons (.var 4) .nil)))) .nil))) .nil))))) (.cons (.ret (.lit (.bool false)))
    .nil) .nil)
    .nil)))
    (.cons (.asg (.name 9) (.blt .tuple (.cons (.lc (.var 10) (.name 10) (.rng1 (.blt .len (.cons (.ix (.var 3) (.lit (.int 1))) .nil))) (.yes (.val (.cmp .Eq (.call 36 (.cons (.var 1) (.cons (.lit (.int 2)) .nil))) (.lit (.int 0))))) [10]) .nil)))
    (.cons (.asg (.name 8) (.call 52 (.cons (.var 3) (.cons (.lc (.var 11) (.name 11) (.seq (.call 51 (.cons (.var 3) .nil))) (.yes (.val (.cmp .In (.ix (.var 11) (.lit (.int 0))) (.var 9)))) [11]) (.cons (.lit (.str "less")) .nil)))))
    (.cons (.ifS (.not (.val (.call 40 (.cons (.lst (.cons (.call 28 (.cons (.var 3) (.cons (.var 9) .nil))) (.cons (.call 32 (.cons (.var 3) (.cons (.var 8) (.cons (.var 4) .nil)))) .nil))) (.cons (.lst (.cons (.var 8) (.cons (.call 50 (.cons (.var 3) (.cons (.var 8) (.cons (.var 4) .nil)))) .nil))) .nil))))) (.cons (.ret (.lit (.bool false)))
    .nil) .nil)
    (.cons (.ifS (.not (.val (.call 61 (.cons (.var 1) (.cons (.var 3) (.cons (.var 4) (.cons (.cmp .Eq (.lc (.var 11) (.name 11) (.seq (.var 6)) (.yes (.val (.cmp .In (.ix (.var 11) (.lit (.int 0))) (.tup (.cons (.lit (.str "cap")) (.cons (.lit (.str "loss")) .nil)))))) [11]) (.lst .nil)) .nil))))))) (.cons (.ret (.lit (.bool false)))
    .nil) .nil)
    .nil)))))))))
    (.cons (.ret (.lit (.bool true)))
    .nil))
end K
end
/-! ## Klaw -/
section
set_option maxRecDepth 100000
set_option maxHeartbeats 4000000
namespace K
open PySem PySem.Spec PyProof.Rows L2 Pyv
theorem cLaw : compSs px 60 ⟨nm62, defScope (top 83), fun _ => true⟩ (defBody (top 83)).tail = some irLaw := by
  kernel_rfl
section
variable {prog : Program} {w : World} {K : PySem.W.Frag} {mg : Str → Option Value} {base : Heap} {j n : Nat}
/-- what the head tells of the globals -/
structure Told (K : PySem.W.Frag) (mg : Str → Option Value) : Prop where
  fn : ∀ d ∈ fnD, ∃ fd, FunD K d.name d.qual d.params d.body d.scope (d.dvs K) (d.kws K) (He.fAd K d.at_) fd
  glo : ∀ x ∈ fnNames, mg x = some (.ref (He.ga K x))
  blt : ∀ x ∈ bltNames, mg x = none
  gls : ∀ (i : Nat) (x : Str), (px.gls.map (·.1))[i]? = some x → ∃ (d : PyData) (u : Value) (v : V), glD[i]? = some d ∧ mg x = some u ∧ RelV v u ∧ ∀ A H, Rep K A H v d
/-- a def that is never to be called -/
theorem fn_bad {f : Addr} {fd : FuncData} {ps : List Str} {r : List W → DS → RF} (h : ∀ ws s, r ws s = .bad) : FnOk prog w K mg base (L2.CX prog w) j f fd ps (spOf K r) := by
  have no : ∀ {vs : List V} {H : Hp} {Q : VK} {E : XK}, ¬ spOf K r vs H Q E := fun {vs H Q E} => by
    rintro ⟨ms, A, ws, s, _, _, _, _, _, h6⟩
    rw [h] at h6
    exact h6
  exact ⟨fun vs H Q E z => (no z).elim, fun _ _ _ _ _ _ _ _ _ _ _ _ _ z => (no z).elim⟩
abbrev At (prog : Program) (w : World) (K : PySem.W.Frag) (mg : Str → Option Value) (base : Heap) (r : List W → DS → RF) (i j : Nat) (x : Str) : Prop :=
  ∃ f fd ps, FnOk prog w K mg base (L2.CX prog w) j f fd ps (spOf K r) ∧ mg x = some (.ref f) ∧ PySem.W.keepIn K (.ref f) = true ∧ Binds K fd ps [] ∧ KwOk px i K fd ps
theorem At.mono {r : List W → DS → RF} {i j j' : Nat} {x : Str} (h : At prog w K mg base r i j x) (l : j ≤ j') : At prog w K mg base r i j' x := by
  obtain ⟨f, fd, ps, F, r⟩ := h
  exact ⟨f, fd, ps, F.mono l, r⟩
/-- a def's text as the head tells it -/
theorem told_fn (T : Told K mg) {d : He.DefD} (hd : d ∈ fnD) (hx : d.name ∈ fnNames) (ha : d.at_ = (d.name, none)) : ∃ fd, FunD K d.name d.qual d.params d.body d.scope (d.dvs K) (d.kws K) (He.ga K d.name) fd ∧ mg d.name = some (.ref (He.ga K d.name)) := by
  obtain ⟨fd, F⟩ := T.fn d hd
  rw [ha] at F
  exact ⟨fd, F, T.glo _ hx⟩
theorem kw_none {i : Nat} {fd : FuncData} {ps : List Str} (h : (px.kws.all fun q => decide (q.1 ≠ i)) = true) : KwOk px i K fd ps := by
  have : ∀ (l : List (Nat × List Str × List Nat)) (ks : List Str) (perm : List Nat), (l.all fun q => decide (q.1 ≠ i)) = true → lookKw l i ks = some perm → False := by
    intro l
    induction l with
    | nil => intro ks perm _ h; cases h
    | cons q l ih =>
      obtain ⟨a, b, c⟩ := q
      intro ks perm h1 h2
      rw [List.all_cons, Bool.and_eq_true, decide_eq_true_eq] at h1
      unfold lookKw at h2
      rw [if_neg fun z => h1.1 z.1] at h2
      exact ih ks perm h1.2 h2
  exact fun ks perm hh => (this _ ks perm h hh).elim
theorem told0 (T : Told K mg) : ∃ fd, FunD K "is_integer" "is_integer" (defArgs (top 9)) (defBody (top 9)) (defScope (top 9)) [] [] (He.ga K "is_integer") fd ∧ mg "is_integer" = some (.ref (He.ga K "is_integer")) ∧ Binds K fd ["value"] [] := by
  obtain ⟨fd, F, hm⟩ := told_fn T (d := dd0) (by unfold fnD; simp) (by unfold fnNames; decide +kernel) rfl
  exact ⟨fd, F, hm, FunD.bindsN F fun _ _ _ _ _ _ us hl => match us, hl with | [_], _ => rfl⟩
theorem at0 (T : Told K mg) (G : Gs px prog w K mg base (Pyv.run pg n) glD j) : At prog w K mg base (Pyv.run pg (n + 1) 0) 0 (j + 1) "is_integer" := by
  obtain ⟨fd, F, hm, hb⟩ := told0 T
  exact ⟨_, fd, _, fnOk_of F sc0 c0 (by decide +kernel) (by decide +kernel) G, hm, F.kp, hb, kw_none (by decide +kernel)⟩
theorem told1 (T : Told K mg) : ∃ fd, FunD K "is_within" "is_within" (defArgs (top 15)) (defBody (top 15)) (defScope (top 15)) [] [] (He.ga K "is_within") fd ∧ mg "is_within" = some (.ref (He.ga K "is_within")) ∧ Binds K fd ["value", "least", "most"] [] := by
  obtain ⟨fd, F, hm⟩ := told_fn T (d := dd1) (by unfold fnD; simp) (by unfold fnNames; decide +kernel) rfl
  exact ⟨fd, F, hm, FunD.bindsN F fun _ _ _ _ _ _ us hl => match us, hl with | [_, _, _], _ => rfl⟩
theorem at1 (T : Told K mg) (G : Gs px prog w K mg base (Pyv.run pg n) glD j) : At prog w K mg base (Pyv.run pg (n + 1) 1) 1 (j + 1) "is_within" := by
  obtain ⟨fd, F, hm, hb⟩ := told1 T
  exact ⟨_, fd, _, fnOk_of F sc1 c1 (by decide +kernel) (by decide +kernel) G, hm, F.kp, hb, kw_none (by decide +kernel)⟩
theorem told2 (T : Told K mg) : ∃ fd, FunD K "are_reads" "are_reads" (defArgs (top 16)) (defBody (top 16)) (defScope (top 16)) [] [] (He.ga K "are_reads") fd ∧ mg "are_reads" = some (.ref (He.ga K "are_reads")) ∧ Binds K fd ["hours", "value"] [] := by
  obtain ⟨fd, F, hm⟩ := told_fn T (d := dd2) (by unfold fnD; simp) (by unfold fnNames; decide +kernel) rfl
  exact ⟨fd, F, hm, FunD.bindsN F fun _ _ _ _ _ _ us hl => match us, hl with | [_, _], _ => rfl⟩
theorem at2 (T : Told K mg) (G : Gs px prog w K mg base (Pyv.run pg n) glD j) : At prog w K mg base (Pyv.run pg (n + 1) 2) 2 (j + 1) "are_reads" := by
  obtain ⟨fd, F, hm, hb⟩ := told2 T
  exact ⟨_, fd, _, fnOk_of F sc2 c2 (by decide +kernel) (by decide +kernel) G, hm, F.kp, hb, kw_none (by decide +kernel)⟩
theorem told3 (T : Told K mg) : ∃ fd, FunD K "is_point" "is_point" (defArgs (top 17)) (defBody (top 17)) (defScope (top 17)) [] [] (He.ga K "is_point") fd ∧ mg "is_point" = some (.ref (He.ga K "is_point")) ∧ Binds K fd ["hours", "value"] [] := by
  obtain ⟨fd, F, hm⟩ := told_fn T (d := dd3) (by unfold fnD; simp) (by unfold fnNames; decide +kernel) rfl
  exact ⟨fd, F, hm, FunD.bindsN F fun _ _ _ _ _ _ us hl => match us, hl with | [_, _], _ => rfl⟩
theorem at3 (T : Told K mg) (G : Gs px prog w K mg base (Pyv.run pg n) glD j) : At prog w K mg base (Pyv.run pg (n + 1) 3) 3 (j + 1) "is_point" := by
  obtain ⟨fd, F, hm, hb⟩ := told3 T
  exact ⟨_, fd, _, fnOk_of F sc3 c3 (by decide +kernel) (by decide +kernel) G, hm, F.kp, hb, kw_none (by decide +kernel)⟩
theorem told4 (T : Told K mg) : ∃ fd, FunD K "are_losses" "are_losses" (defArgs (top 18)) (defBody (top 18)) (defScope (top 18)) [] [] (He.ga K "are_losses") fd ∧ mg "are_losses" = some (.ref (He.ga K "are_losses")) ∧ Binds K fd ["hours", "value"] [] := by
  obtain ⟨fd, F, hm⟩ := told_fn T (d := dd4) (by unfold fnD; simp) (by unfold fnNames; decide +kernel) rfl
  exact ⟨fd, F, hm, FunD.bindsN F fun _ _ _ _ _ _ us hl => match us, hl with | [_, _], _ => rfl⟩
theorem at4 (T : Told K mg) (G : Gs px prog w K mg base (Pyv.run pg n) glD j) : At prog w K mg base (Pyv.run pg (n + 1) 4) 4 (j + 1) "are_losses" := by
  obtain ⟨fd, F, hm, hb⟩ := told4 T
  exact ⟨_, fd, _, fnOk_of F sc4 c4 (by decide +kernel) (by decide +kernel) G, hm, F.kp, hb, kw_none (by decide +kernel)⟩
theorem told5 (T : Told K mg) : ∃ fd, FunD K "need_net" "need_net" (defArgs (top 19)) (defBody (top 19)) (defScope (top 19)) [] [] (He.ga K "need_net") fd ∧ mg "need_net" = some (.ref (He.ga K "need_net")) ∧ Binds K fd ["net"] [] := by
  obtain ⟨fd, F, hm⟩ := told_fn T (d := dd5) (by unfold fnD; simp) (by unfold fnNames; decide +kernel) rfl
  exact ⟨fd, F, hm, FunD.bindsN F fun _ _ _ _ _ _ us hl => match us, hl with | [_], _ => rfl⟩
theorem at5 (T : Told K mg) (G : Gs px prog w K mg base (Pyv.run pg n) glD j) : At prog w K mg base (Pyv.run pg (n + 1) 5) 5 (j + 1) "need_net" := by
  obtain ⟨fd, F, hm, hb⟩ := told5 T
  exact ⟨_, fd, _, fnOk_of F sc5 c5 (by decide +kernel) (by decide +kernel) G, hm, F.kp, hb, kw_none (by decide +kernel)⟩
theorem told6 (T : Told K mg) : ∃ fd, FunD K "amounts_in" "amounts_in" (defArgs (top 20)) (defBody (top 20)) (defScope (top 20)) [] [] (He.ga K "amounts_in") fd ∧ mg "amounts_in" = some (.ref (He.ga K "amounts_in")) ∧ Binds K fd ["reads"] [] := by
  obtain ⟨fd, F, hm⟩ := told_fn T (d := dd6) (by unfold fnD; simp) (by unfold fnNames; decide +kernel) rfl
  exact ⟨fd, F, hm, FunD.bindsN F fun _ _ _ _ _ _ us hl => match us, hl with | [_], _ => rfl⟩
theorem at6 (T : Told K mg) (G : Gs px prog w K mg base (Pyv.run pg n) glD j) : At prog w K mg base (Pyv.run pg (n + 1) 6) 6 (j + 1) "amounts_in" := by
  obtain ⟨fd, F, hm, hb⟩ := told6 T
  exact ⟨_, fd, _, fnOk_of F sc6 c6 (by decide +kernel) (by decide +kernel) G, hm, F.kp, hb, kw_none (by decide +kernel)⟩
theorem told7 (T : Told K mg) : ∃ fd, FunD K "amounts_read" "amounts_read" (defArgs (top 21)) (defBody (top 21)) (defScope (top 21)) [] [] (He.ga K "amounts_read") fd ∧ mg "amounts_read" = some (.ref (He.ga K "amounts_read")) ∧ Binds K fd ["net"] [] := by
  obtain ⟨fd, F, hm⟩ := told_fn T (d := dd7) (by unfold fnD; simp) (by unfold fnNames; decide +kernel) rfl
  exact ⟨fd, F, hm, FunD.bindsN F fun _ _ _ _ _ _ us hl => match us, hl with | [_], _ => rfl⟩
theorem at7 (T : Told K mg) (G : Gs px prog w K mg base (Pyv.run pg n) glD j) : At prog w K mg base (Pyv.run pg (n + 1) 7) 7 (j + 1) "amounts_read" := by
  obtain ⟨fd, F, hm, hb⟩ := told7 T
  exact ⟨_, fd, _, fnOk_of F sc7 c7 (by decide +kernel) (by decide +kernel) G, hm, F.kp, hb, kw_none (by decide +kernel)⟩
theorem told8 (T : Told K mg) : ∃ fd, FunD K "are_integers" "are_integers" (defArgs (top 22)) (defBody (top 22)) (defScope (top 22)) [] [] (He.ga K "are_integers") fd ∧ mg "are_integers" = some (.ref (He.ga K "are_integers")) ∧ Binds K fd ["value", "many"] [] := by
  obtain ⟨fd, F, hm⟩ := told_fn T (d := dd8) (by unfold fnD; simp) (by unfold fnNames; decide +kernel) rfl
  exact ⟨fd, F, hm, FunD.bindsN F fun _ _ _ _ _ _ us hl => match us, hl with | [_, _], _ => rfl⟩
theorem at8 (T : Told K mg) (G : Gs px prog w K mg base (Pyv.run pg n) glD j) : At prog w K mg base (Pyv.run pg (n + 1) 8) 8 (j + 1) "are_integers" := by
  obtain ⟨fd, F, hm, hb⟩ := told8 T
  exact ⟨_, fd, _, fnOk_of F sc8 c8 (by decide +kernel) (by decide +kernel) G, hm, F.kp, hb, kw_none (by decide +kernel)⟩
theorem told9 (T : Told K mg) : ∃ fd, FunD K "place_in_pair" "place_in_pair" (defArgs (top 23)) (defBody (top 23)) (defScope (top 23)) [] [] (He.ga K "place_in_pair") fd ∧ mg "place_in_pair" = some (.ref (He.ga K "place_in_pair")) ∧ Binds K fd ["net", "value"] [] := by
  obtain ⟨fd, F, hm⟩ := told_fn T (d := dd9) (by unfold fnD; simp) (by unfold fnNames; decide +kernel) rfl
  exact ⟨fd, F, hm, FunD.bindsN F fun _ _ _ _ _ _ us hl => match us, hl with | [_, _], _ => rfl⟩
theorem at9 (T : Told K mg) (G : Gs px prog w K mg base (Pyv.run pg n) glD j) : At prog w K mg base (Pyv.run pg (n + 1) 9) 9 (j + 1) "place_in_pair" := by
  obtain ⟨fd, F, hm, hb⟩ := told9 T
  exact ⟨_, fd, _, fnOk_of F sc9 c9 (by decide +kernel) (by decide +kernel) G, hm, F.kp, hb, kw_none (by decide +kernel)⟩
theorem told10 (T : Told K mg) : ∃ fd, FunD K "need_flows" "need_flows" (defArgs (top 24)) (defBody (top 24)) (defScope (top 24)) [] [] (He.ga K "need_flows") fd ∧ mg "need_flows" = some (.ref (He.ga K "need_flows")) ∧ Binds K fd ["net", "table"] [] := by
  obtain ⟨fd, F, hm⟩ := told_fn T (d := dd10) (by unfold fnD; simp) (by unfold fnNames; decide +kernel) rfl
  exact ⟨fd, F, hm, FunD.bindsN F fun _ _ _ _ _ _ us hl => match us, hl with | [_, _], _ => rfl⟩
theorem at10 (T : Told K mg) (G : Gs px prog w K mg base (Pyv.run pg n) glD j) : At prog w K mg base (Pyv.run pg (n + 1) 10) 10 (j + 1) "need_flows" := by
  obtain ⟨fd, F, hm, hb⟩ := told10 T
  exact ⟨_, fd, _, fnOk_of F sc10 c10 (by decide +kernel) (by decide +kernel) G, hm, F.kp, hb, kw_none (by decide +kernel)⟩
theorem told11 (T : Told K mg) : ∃ fd, FunD K "sums_by_gap" "sums_by_gap" (defArgs (top 25)) (defBody (top 25)) (defScope (top 25)) [] [] (He.ga K "sums_by_gap") fd ∧ mg "sums_by_gap" = some (.ref (He.ga K "sums_by_gap")) ∧ Binds K fd ["reads", "row"] [] := by
  obtain ⟨fd, F, hm⟩ := told_fn T (d := dd11) (by unfold fnD; simp) (by unfold fnNames; decide +kernel) rfl
  exact ⟨fd, F, hm, FunD.bindsN F fun _ _ _ _ _ _ us hl => match us, hl with | [_, _], _ => rfl⟩
theorem at11 (T : Told K mg) (G : Gs px prog w K mg base (Pyv.run pg n) glD j) : At prog w K mg base (Pyv.run pg (n + 1) 11) 11 (j + 1) "sums_by_gap" := by
  obtain ⟨fd, F, hm, hb⟩ := told11 T
  exact ⟨_, fd, _, fnOk_of F sc11 c11 (by decide +kernel) (by decide +kernel) G, hm, F.kp, hb, kw_none (by decide +kernel)⟩
theorem told12 (T : Told K mg) : ∃ fd, FunD K "through_main" "through_main" (defArgs (top 26)) (defBody (top 26)) (defScope (top 26)) [] [] (He.ga K "through_main") fd ∧ mg "through_main" = some (.ref (He.ga K "through_main")) ∧ Binds K fd ["net", "table"] [] := by
  obtain ⟨fd, F, hm⟩ := told_fn T (d := dd12) (by unfold fnD; simp) (by unfold fnNames; decide +kernel) rfl
  exact ⟨fd, F, hm, FunD.bindsN F fun _ _ _ _ _ _ us hl => match us, hl with | [_, _], _ => rfl⟩
theorem at12 (T : Told K mg) (G : Gs px prog w K mg base (Pyv.run pg n) glD j) : At prog w K mg base (Pyv.run pg (n + 1) 12) 12 (j + 1) "through_main" := by
  obtain ⟨fd, F, hm, hb⟩ := told12 T
  exact ⟨_, fd, _, fnOk_of F sc12 c12 (by decide +kernel) (by decide +kernel) G, hm, F.kp, hb, kw_none (by decide +kernel)⟩
theorem told13 (T : Told K mg) : ∃ fd, FunD K "faults_of_bounds" "faults_of_bounds" (defArgs (top 27)) (defBody (top 27)) (defScope (top 27)) [] [] (He.ga K "faults_of_bounds") fd ∧ mg "faults_of_bounds" = some (.ref (He.ga K "faults_of_bounds")) ∧ Binds K fd ["net", "table"] [] := by
  obtain ⟨fd, F, hm⟩ := told_fn T (d := dd13) (by unfold fnD; simp) (by unfold fnNames; decide +kernel) rfl
  exact ⟨fd, F, hm, FunD.bindsN F fun _ _ _ _ _ _ us hl => match us, hl with | [_, _], _ => rfl⟩
theorem at13 (T : Told K mg) (G : Gs px prog w K mg base (Pyv.run pg n) glD j) : At prog w K mg base (Pyv.run pg (n + 1) 13) 13 (j + 1) "faults_of_bounds" := by
  obtain ⟨fd, F, hm, hb⟩ := told13 T
  exact ⟨_, fd, _, fnOk_of F sc13 c13 (by decide +kernel) (by decide +kernel) G, hm, F.kp, hb, kw_none (by decide +kernel)⟩
theorem told14 (T : Told K mg) : ∃ fd, FunD K "faults_of_gaps" "faults_of_gaps" (defArgs (top 28)) (defBody (top 28)) (defScope (top 28)) [] [] (He.ga K "faults_of_gaps") fd ∧ mg "faults_of_gaps" = some (.ref (He.ga K "faults_of_gaps")) ∧ Binds K fd ["net", "table", "amounts", "main_amounts"] [] := by
  obtain ⟨fd, F, hm⟩ := told_fn T (d := dd14) (by unfold fnD; simp) (by unfold fnNames; decide +kernel) rfl
  exact ⟨fd, F, hm, FunD.bindsN F fun _ _ _ _ _ _ us hl => match us, hl with | [_, _, _, _], _ => rfl⟩
theorem at14 (T : Told K mg) (G : Gs px prog w K mg base (Pyv.run pg n) glD j) : At prog w K mg base (Pyv.run pg (n + 1) 14) 14 (j + 1) "faults_of_gaps" := by
  obtain ⟨fd, F, hm, hb⟩ := told14 T
  exact ⟨_, fd, _, fnOk_of F sc14 c14 (by decide +kernel) (by decide +kernel) G, hm, F.kp, hb, kw_none (by decide +kernel)⟩
theorem told15 (T : Told K mg) : ∃ fd, FunD K "all_faults" "all_faults" (defArgs (top 29)) (defBody (top 29)) (defScope (top 29)) [] [] (He.ga K "all_faults") fd ∧ mg "all_faults" = some (.ref (He.ga K "all_faults")) ∧ Binds K fd ["net", "table"] [] := by
  obtain ⟨fd, F, hm⟩ := told_fn T (d := dd15) (by unfold fnD; simp) (by unfold fnNames; decide +kernel) rfl
  exact ⟨fd, F, hm, FunD.bindsN F fun _ _ _ _ _ _ us hl => match us, hl with | [_, _], _ => rfl⟩
theorem at15 (T : Told K mg) (G : Gs px prog w K mg base (Pyv.run pg n) glD j) : At prog w K mg base (Pyv.run pg (n + 1) 15) 15 (j + 1) "all_faults" := by
  obtain ⟨fd, F, hm, hb⟩ := told15 T
  exact ⟨_, fd, _, fnOk_of F sc15 c15 (by decide +kernel) (by decide +kernel) G, hm, F.kp, hb, kw_none (by decide +kernel)⟩
theorem told16 (T : Told K mg) : ∃ fd, FunD K "faults" "faults" (defArgs (top 30)) (defBody (top 30)) (defScope (top 30)) [] [] (He.ga K "faults") fd ∧ mg "faults" = some (.ref (He.ga K "faults")) ∧ Binds K fd ["net", "table"] [] := by
  obtain ⟨fd, F, hm⟩ := told_fn T (d := dd16) (by unfold fnD; simp) (by unfold fnNames; decide +kernel) rfl
  exact ⟨fd, F, hm, FunD.bindsN F fun _ _ _ _ _ _ us hl => match us, hl with | [_, _], _ => rfl⟩
theorem at16 (T : Told K mg) (G : Gs px prog w K mg base (Pyv.run pg n) glD j) : At prog w K mg base (Pyv.run pg (n + 1) 16) 16 (j + 1) "faults" := by
  obtain ⟨fd, F, hm, hb⟩ := told16 T
  exact ⟨_, fd, _, fnOk_of F sc16 c16 (by decide +kernel) (by decide +kernel) G, hm, F.kp, hb, kw_none (by decide +kernel)⟩
theorem told17 (T : Told K mg) : ∃ fd, FunD K "fits_net" "fits_net" (defArgs (top 31)) (defBody (top 31)) (defScope (top 31)) [] [] (He.ga K "fits_net") fd ∧ mg "fits_net" = some (.ref (He.ga K "fits_net")) ∧ Binds K fd ["net", "table"] [] := by
  obtain ⟨fd, F, hm⟩ := told_fn T (d := dd17) (by unfold fnD; simp) (by unfold fnNames; decide +kernel) rfl
  exact ⟨fd, F, hm, FunD.bindsN F fun _ _ _ _ _ _ us hl => match us, hl with | [_, _], _ => rfl⟩
theorem at17 (T : Told K mg) (G : Gs px prog w K mg base (Pyv.run pg n) glD j) : At prog w K mg base (Pyv.run pg (n + 1) 17) 17 (j + 1) "fits_net" := by
  obtain ⟨fd, F, hm, hb⟩ := told17 T
  exact ⟨_, fd, _, fnOk_of F sc17 c17 (by decide +kernel) (by decide +kernel) G, hm, F.kp, hb, kw_none (by decide +kernel)⟩
theorem told18 (T : Told K mg) : ∃ fd, FunD K "place_in_changes" "place_in_changes" (defArgs (top 33)) (defBody (top 33)) (defScope (top 33)) [] [] (He.ga K "place_in_changes") fd ∧ mg "place_in_changes" = some (.ref (He.ga K "place_in_changes")) ∧ Binds K fd ["net", "value"] [] := by
  obtain ⟨fd, F, hm⟩ := told_fn T (d := dd18) (by unfold fnD; simp) (by unfold fnNames; decide +kernel) rfl
  exact ⟨fd, F, hm, FunD.bindsN F fun _ _ _ _ _ _ us hl => match us, hl with | [_, _], _ => rfl⟩
theorem at18 (T : Told K mg) (G : Gs px prog w K mg base (Pyv.run pg n) glD j) : At prog w K mg base (Pyv.run pg (n + 1) 18) 18 (j + 1) "place_in_changes" := by
  obtain ⟨fd, F, hm, hb⟩ := told18 T
  exact ⟨_, fd, _, fnOk_of F sc18 c18 (by decide +kernel) (by decide +kernel) G, hm, F.kp, hb, kw_none (by decide +kernel)⟩
theorem told19 (T : Told K mg) : ∃ fd, FunD K "need_changes" "need_changes" (defArgs (top 34)) (defBody (top 34)) (defScope (top 34)) [] [] (He.ga K "need_changes") fd ∧ mg "need_changes" = some (.ref (He.ga K "need_changes")) ∧ Binds K fd ["net", "changes"] [] := by
  obtain ⟨fd, F, hm⟩ := told_fn T (d := dd19) (by unfold fnD; simp) (by unfold fnNames; decide +kernel) rfl
  exact ⟨fd, F, hm, FunD.bindsN F fun _ _ _ _ _ _ us hl => match us, hl with | [_, _], _ => rfl⟩
theorem at19 (T : Told K mg) (G : Gs px prog w K mg base (Pyv.run pg n) glD j) : At prog w K mg base (Pyv.run pg (n + 1) 19) 19 (j + 1) "need_changes" := by
  obtain ⟨fd, F, hm, hb⟩ := told19 T
  exact ⟨_, fd, _, fnOk_of F sc19 c19 (by decide +kernel) (by decide +kernel) G, hm, F.kp, hb, kw_none (by decide +kernel)⟩
theorem told20 (T : Told K mg) : ∃ fd, FunD K "changed_reads" "changed_reads" (defArgs (top 35)) (defBody (top 35)) (defScope (top 35)) [] [] (He.ga K "changed_reads") fd ∧ mg "changed_reads" = some (.ref (He.ga K "changed_reads")) ∧ Binds K fd ["reads", "row"] [] := by
  obtain ⟨fd, F, hm⟩ := told_fn T (d := dd20) (by unfold fnD; simp) (by unfold fnNames; decide +kernel) rfl
  exact ⟨fd, F, hm, FunD.bindsN F fun _ _ _ _ _ _ us hl => match us, hl with | [_, _], _ => rfl⟩
theorem at20 (T : Told K mg) (G : Gs px prog w K mg base (Pyv.run pg n) glD j) : At prog w K mg base (Pyv.run pg (n + 1) 20) 20 (j + 1) "changed_reads" := by
  obtain ⟨fd, F, hm, hb⟩ := told20 T
  exact ⟨_, fd, _, fnOk_of F sc20 c20 (by decide +kernel) (by decide +kernel) G, hm, F.kp, hb, kw_none (by decide +kernel)⟩
theorem told21 (T : Told K mg) : ∃ fd, FunD K "faults_behind" "faults_behind" (defArgs (top 36)) (defBody (top 36)) (defScope (top 36)) [] [] (He.ga K "faults_behind") fd ∧ mg "faults_behind" = some (.ref (He.ga K "faults_behind")) ∧ Binds K fd ["net", "table", "changes"] [] := by
  obtain ⟨fd, F, hm⟩ := told_fn T (d := dd21) (by unfold fnD; simp) (by unfold fnNames; decide +kernel) rfl
  exact ⟨fd, F, hm, FunD.bindsN F fun _ _ _ _ _ _ us hl => match us, hl with | [_, _, _], _ => rfl⟩
theorem at21 (T : Told K mg) (G : Gs px prog w K mg base (Pyv.run pg n) glD j) : At prog w K mg base (Pyv.run pg (n + 1) 21) 21 (j + 1) "faults_behind" := by
  obtain ⟨fd, F, hm, hb⟩ := told21 T
  exact ⟨_, fd, _, fnOk_of F sc21 c21 (by decide +kernel) (by decide +kernel) G, hm, F.kp, hb, kw_none (by decide +kernel)⟩
theorem told22 (T : Told K mg) : ∃ fd, FunD K "fits_behind" "fits_behind" (defArgs (top 37)) (defBody (top 37)) (defScope (top 37)) [] [] (He.ga K "fits_behind") fd ∧ mg "fits_behind" = some (.ref (He.ga K "fits_behind")) ∧ Binds K fd ["net", "table", "changes"] [] := by
  obtain ⟨fd, F, hm⟩ := told_fn T (d := dd22) (by unfold fnD; simp) (by unfold fnNames; decide +kernel) rfl
  exact ⟨fd, F, hm, FunD.bindsN F fun _ _ _ _ _ _ us hl => match us, hl with | [_, _, _], _ => rfl⟩
theorem kw22 {fd : FuncData} (F : FunD K "fits_behind" "fits_behind" (defArgs (top 37)) (defBody (top 37)) (defScope (top 37)) [] [] (He.ga K "fits_behind") fd) : KwOk px 22 K fd ["net", "table", "changes"] := by
  intro ks perm h
  have e : ks = (["changes", "table", "net"] : List Str) ∧ perm = ([2, 1, 0] : List Nat) := by
    unfold px at h
    simp only [lookKw] at h
    split at h
    · rename_i q
      exact ⟨q.2.symm, (Option.some.inj h).symm⟩
    · cases h
  obtain ⟨rfl, rfl⟩ := e
  refine ⟨rfl, fun s ws us hK hl hp => ?_⟩
  obtain ⟨oc, od, dV, kV, doc, pm, an, cdv, ct, osl, rfl, lk, hcd, hD, hK2⟩ := F.ex
  rcases hD with ⟨_, rfl⟩ | ⟨e, _⟩
  · match ws, hl with
    | [a0, a1, a2], _ =>
      cases hp
      exact .of_eq rfl
  · exact absurd rfl e
theorem at22 (T : Told K mg) (G : Gs px prog w K mg base (Pyv.run pg n) glD j) : At prog w K mg base (Pyv.run pg (n + 1) 22) 22 (j + 1) "fits_behind" := by
  obtain ⟨fd, F, hm, hb⟩ := told22 T
  exact ⟨_, fd, _, fnOk_of F sc22 c22 (by decide +kernel) (by decide +kernel) G, hm, F.kp, hb, kw22 F⟩
theorem told23 (T : Told K mg) : ∃ fd, FunD K "are_marks" "are_marks" (defArgs (top 43)) (defBody (top 43)) (defScope (top 43)) [] [] (He.ga K "are_marks") fd ∧ mg "are_marks" = some (.ref (He.ga K "are_marks")) ∧ Binds K fd ["value", "many"] [] := by
  obtain ⟨fd, F, hm⟩ := told_fn T (d := dd23) (by unfold fnD; simp) (by unfold fnNames; decide +kernel) rfl
  exact ⟨fd, F, hm, FunD.bindsN F fun _ _ _ _ _ _ us hl => match us, hl with | [_, _], _ => rfl⟩
theorem at23 (T : Told K mg) (G : Gs px prog w K mg base (Pyv.run pg n) glD j) : At prog w K mg base (Pyv.run pg (n + 1) 23) 23 (j + 1) "are_marks" := by
  obtain ⟨fd, F, hm, hb⟩ := told23 T
  exact ⟨_, fd, _, fnOk_of F sc23 c23 (by decide +kernel) (by decide +kernel) G, hm, F.kp, hb, kw_none (by decide +kernel)⟩
theorem told24 (T : Told K mg) : ∃ fd, FunD K "need_marks" "need_marks" (defArgs (top 44)) (defBody (top 44)) (defScope (top 44)) [] [] (He.ga K "need_marks") fd ∧ mg "need_marks" = some (.ref (He.ga K "need_marks")) ∧ Binds K fd ["net", "doubt"] [] := by
  obtain ⟨fd, F, hm⟩ := told_fn T (d := dd24) (by unfold fnD; simp) (by unfold fnNames; decide +kernel) rfl
  exact ⟨fd, F, hm, FunD.bindsN F fun _ _ _ _ _ _ us hl => match us, hl with | [_, _], _ => rfl⟩
theorem at24 (T : Told K mg) (G : Gs px prog w K mg base (Pyv.run pg n) glD j) : At prog w K mg base (Pyv.run pg (n + 1) 24) 24 (j + 1) "need_marks" := by
  obtain ⟨fd, F, hm, hb⟩ := told24 T
  exact ⟨_, fd, _, fnOk_of F sc24 c24 (by decide +kernel) (by decide +kernel) G, hm, F.kp, hb, kw_none (by decide +kernel)⟩
theorem told25 (T : Told K mg) : ∃ fd, FunD K "need_doubt" "need_doubt" (defArgs (top 45)) (defBody (top 45)) (defScope (top 45)) [] [] (He.ga K "need_doubt") fd ∧ mg "need_doubt" = some (.ref (He.ga K "need_doubt")) ∧ Binds K fd ["net", "doubt"] [] := by
  obtain ⟨fd, F, hm⟩ := told_fn T (d := dd25) (by unfold fnD; simp) (by unfold fnNames; decide +kernel) rfl
  exact ⟨fd, F, hm, FunD.bindsN F fun _ _ _ _ _ _ us hl => match us, hl with | [_, _], _ => rfl⟩
theorem at25 (T : Told K mg) (G : Gs px prog w K mg base (Pyv.run pg n) glD j) : At prog w K mg base (Pyv.run pg (n + 1) 25) 25 (j + 1) "need_doubt" := by
  obtain ⟨fd, F, hm, hb⟩ := told25 T
  exact ⟨_, fd, _, fnOk_of F sc25 c25 (by decide +kernel) (by decide +kernel) G, hm, F.kp, hb, kw_none (by decide +kernel)⟩
theorem told26 (T : Told K mg) : ∃ fd, FunD K "need_points" "need_points" (defArgs (top 46)) (defBody (top 46)) (defScope (top 46)) [] [] (He.ga K "need_points") fd ∧ mg "need_points" = some (.ref (He.ga K "need_points")) ∧ Binds K fd ["net", "points"] [] := by
  obtain ⟨fd, F, hm⟩ := told_fn T (d := dd26) (by unfold fnD; simp) (by unfold fnNames; decide +kernel) rfl
  exact ⟨fd, F, hm, FunD.bindsN F fun _ _ _ _ _ _ us hl => match us, hl with | [_, _], _ => rfl⟩
theorem at26 (T : Told K mg) (G : Gs px prog w K mg base (Pyv.run pg n) glD j) : At prog w K mg base (Pyv.run pg (n + 1) 26) 26 (j + 1) "need_points" := by
  obtain ⟨fd, F, hm, hb⟩ := told26 T
  exact ⟨_, fd, _, fnOk_of F sc26 c26 (by decide +kernel) (by decide +kernel) G, hm, F.kp, hb, kw_none (by decide +kernel)⟩
theorem told27 (T : Told K mg) : ∃ fd, FunD K "marks_for" "marks_for" (defArgs (top 47)) (defBody (top 47)) (defScope (top 47)) [] [] (He.ga K "marks_for") fd ∧ mg "marks_for" = some (.ref (He.ga K "marks_for")) ∧ Binds K fd ["net", "points"] [] := by
  obtain ⟨fd, F, hm⟩ := told_fn T (d := dd27) (by unfold fnD; simp) (by unfold fnNames; decide +kernel) rfl
  exact ⟨fd, F, hm, FunD.bindsN F fun _ _ _ _ _ _ us hl => match us, hl with | [_, _], _ => rfl⟩
theorem at27 (T : Told K mg) (G : Gs px prog w K mg base (Pyv.run pg n) glD j) : At prog w K mg base (Pyv.run pg (n + 1) 27) 27 (j + 1) "marks_for" := by
  obtain ⟨fd, F, hm, hb⟩ := told27 T
  exact ⟨_, fd, _, fnOk_of F sc27 c27 (by decide +kernel) (by decide +kernel) G, hm, F.kp, hb, kw_none (by decide +kernel)⟩
theorem told28 (T : Told K mg) : ∃ fd, FunD K "doubt_of" "doubt_of" (defArgs (top 48)) (defBody (top 48)) (defScope (top 48)) [] [] (He.ga K "doubt_of") fd ∧ mg "doubt_of" = some (.ref (He.ga K "doubt_of")) ∧ Binds K fd ["net", "points"] [] := by
  obtain ⟨fd, F, hm⟩ := told_fn T (d := dd28) (by unfold fnD; simp) (by unfold fnNames; decide +kernel) rfl
  exact ⟨fd, F, hm, FunD.bindsN F fun _ _ _ _ _ _ us hl => match us, hl with | [_, _], _ => rfl⟩
theorem at28 (T : Told K mg) (G : Gs px prog w K mg base (Pyv.run pg n) glD j) : At prog w K mg base (Pyv.run pg (n + 1) 28) 28 (j + 1) "doubt_of" := by
  obtain ⟨fd, F, hm, hb⟩ := told28 T
  exact ⟨_, fd, _, fnOk_of F sc28 c28 (by decide +kernel) (by decide +kernel) G, hm, F.kp, hb, kw_none (by decide +kernel)⟩
theorem told29 (T : Told K mg) : ∃ fd, FunD K "hidden_in" "hidden_in" (defArgs (top 49)) (defBody (top 49)) (defScope (top 49)) [] [] (He.ga K "hidden_in") fd ∧ mg "hidden_in" = some (.ref (He.ga K "hidden_in")) ∧ Binds K fd ["net", "table"] [] := by
  obtain ⟨fd, F, hm⟩ := told_fn T (d := dd29) (by unfold fnD; simp) (by unfold fnNames; decide +kernel) rfl
  exact ⟨fd, F, hm, FunD.bindsN F fun _ _ _ _ _ _ us hl => match us, hl with | [_, _], _ => rfl⟩
theorem at29 (T : Told K mg) (G : Gs px prog w K mg base (Pyv.run pg n) glD j) : At prog w K mg base (Pyv.run pg (n + 1) 29) 29 (j + 1) "hidden_in" := by
  obtain ⟨fd, F, hm, hb⟩ := told29 T
  exact ⟨_, fd, _, fnOk_of F sc29 c29 (by decide +kernel) (by decide +kernel) G, hm, F.kp, hb, kw_none (by decide +kernel)⟩
theorem told30 (T : Told K mg) : ∃ fd, FunD K "does_mark_allow" "does_mark_allow" (defArgs (top 50)) (defBody (top 50)) (defScope (top 50)) [] [] (He.ga K "does_mark_allow") fd ∧ mg "does_mark_allow" = some (.ref (He.ga K "does_mark_allow")) ∧ Binds K fd ["mark", "more"] [] := by
  obtain ⟨fd, F, hm⟩ := told_fn T (d := dd30) (by unfold fnD; simp) (by unfold fnNames; decide +kernel) rfl
  exact ⟨fd, F, hm, FunD.bindsN F fun _ _ _ _ _ _ us hl => match us, hl with | [_, _], _ => rfl⟩
theorem at30 (T : Told K mg) (G : Gs px prog w K mg base (Pyv.run pg n) glD j) : At prog w K mg base (Pyv.run pg (n + 1) 30) 30 (j + 1) "does_mark_allow" := by
  obtain ⟨fd, F, hm, hb⟩ := told30 T
  exact ⟨_, fd, _, fnOk_of F sc30 c30 (by decide +kernel) (by decide +kernel) G, hm, F.kp, hb, kw_none (by decide +kernel)⟩
theorem told31 (T : Told K mg) : ∃ fd, FunD K "does_serve" "does_serve" (defArgs (top 51)) (defBody (top 51)) (defScope (top 51)) [] [] (He.ga K "does_serve") fd ∧ mg "does_serve" = some (.ref (He.ga K "does_serve")) ∧ Binds K fd ["net", "doubt", "table"] [] := by
  obtain ⟨fd, F, hm⟩ := told_fn T (d := dd31) (by unfold fnD; simp) (by unfold fnNames; decide +kernel) rfl
  exact ⟨fd, F, hm, FunD.bindsN F fun _ _ _ _ _ _ us hl => match us, hl with | [_, _, _], _ => rfl⟩
theorem at31 (T : Told K mg) (G : Gs px prog w K mg base (Pyv.run pg n) glD j) : At prog w K mg base (Pyv.run pg (n + 1) 31) 31 (j + 1) "does_serve" := by
  obtain ⟨fd, F, hm, hb⟩ := told31 T
  exact ⟨_, fd, _, fnOk_of F sc31 c31 (by decide +kernel) (by decide +kernel) G, hm, F.kp, hb, kw_none (by decide +kernel)⟩
theorem told32 (T : Told K mg) : ∃ fd, FunD K "serves" "serves" (defArgs (top 52)) (defBody (top 52)) (defScope (top 52)) [] [] (He.ga K "serves") fd ∧ mg "serves" = some (.ref (He.ga K "serves")) ∧ Binds K fd ["net", "doubt", "table"] [] := by
  obtain ⟨fd, F, hm⟩ := told_fn T (d := dd32) (by unfold fnD; simp) (by unfold fnNames; decide +kernel) rfl
  exact ⟨fd, F, hm, FunD.bindsN F fun _ _ _ _ _ _ us hl => match us, hl with | [_, _, _], _ => rfl⟩
theorem at32 (T : Told K mg) (G : Gs px prog w K mg base (Pyv.run pg n) glD j) : At prog w K mg base (Pyv.run pg (n + 1) 32) 32 (j + 1) "serves" := by
  obtain ⟨fd, F, hm, hb⟩ := told32 T
  exact ⟨_, fd, _, fnOk_of F sc32 c32 (by decide +kernel) (by decide +kernel) G, hm, F.kp, hb, kw_none (by decide +kernel)⟩
theorem told33 (T : Told K mg) : ∃ fd, FunD K "hidden" "hidden" (defArgs (top 53)) (defBody (top 53)) (defScope (top 53)) [] [] (He.ga K "hidden") fd ∧ mg "hidden" = some (.ref (He.ga K "hidden")) ∧ Binds K fd ["net", "table"] [] := by
  obtain ⟨fd, F, hm⟩ := told_fn T (d := dd33) (by unfold fnD; simp) (by unfold fnNames; decide +kernel) rfl
  exact ⟨fd, F, hm, FunD.bindsN F fun _ _ _ _ _ _ us hl => match us, hl with | [_, _], _ => rfl⟩
theorem at33 (T : Told K mg) (G : Gs px prog w K mg base (Pyv.run pg n) glD j) : At prog w K mg base (Pyv.run pg (n + 1) 33) 33 (j + 1) "hidden" := by
  obtain ⟨fd, F, hm, hb⟩ := told33 T
  exact ⟨_, fd, _, fnOk_of F sc33 c33 (by decide +kernel) (by decide +kernel) G, hm, F.kp, hb, kw_none (by decide +kernel)⟩
theorem told34 (T : Told K mg) : ∃ fd, FunD K "_law_mixed" "_law_mixed" (defArgs (top 55)) (defBody (top 55)) (defScope (top 55)) [] [] (He.ga K "_law_mixed") fd ∧ mg "_law_mixed" = some (.ref (He.ga K "_law_mixed")) ∧ Binds K fd ["cell", "n"] [] := by
  obtain ⟨fd, F, hm⟩ := told_fn T (d := dd34) (by unfold fnD; simp) (by unfold fnNames; decide +kernel) rfl
  exact ⟨fd, F, hm, FunD.bindsN F fun _ _ _ _ _ _ us hl => match us, hl with | [_, _], _ => rfl⟩
theorem at34 (T : Told K mg) (G : Gs px prog w K mg base (Pyv.run pg n) glD j) : At prog w K mg base (Pyv.run pg (n + 1) 34) 34 (j + 1) "_law_mixed" := by
  obtain ⟨fd, F, hm, hb⟩ := told34 T
  exact ⟨_, fd, _, fnOk_of F sc34 c34 (by decide +kernel) (by decide +kernel) G, hm, F.kp, hb, kw_none (by decide +kernel)⟩
theorem told35 (T : Told K mg) : ∃ fd, FunD K "_law_folded" "_law_folded" (defArgs (top 56)) (defBody (top 56)) (defScope (top 56)) [] [] (He.ga K "_law_folded") fd ∧ mg "_law_folded" = some (.ref (He.ga K "_law_folded")) ∧ Binds K fd ["script"] [] := by
  obtain ⟨fd, F, hm⟩ := told_fn T (d := dd35) (by unfold fnD; simp) (by unfold fnNames; decide +kernel) rfl
  exact ⟨fd, F, hm, FunD.bindsN F fun _ _ _ _ _ _ us hl => match us, hl with | [_], _ => rfl⟩
theorem at35_bad (T : Told K mg) {r : List W → DS → RF} (h : ∀ ws s, r ws s = .bad) : At prog w K mg base r 35 j "_law_folded" := by
  obtain ⟨fd, F, hm, hb⟩ := told35 T
  exact ⟨_, fd, _, fn_bad h, hm, F.kp, hb, kw_none (by decide +kernel)⟩
theorem told36 (T : Told K mg) : ∃ fd, FunD K "_law_draw" "_law_draw" (defArgs (top 57)) (defBody (top 57)) (defScope (top 57)) [] [] (He.ga K "_law_draw") fd ∧ mg "_law_draw" = some (.ref (He.ga K "_law_draw")) ∧ Binds K fd ["m", "limit"] [] := by
  obtain ⟨fd, F, hm⟩ := told_fn T (d := dd36) (by unfold fnD; simp) (by unfold fnNames; decide +kernel) rfl
  exact ⟨fd, F, hm, FunD.bindsN F fun _ _ _ _ _ _ us hl => match us, hl with | [_, _], _ => rfl⟩
theorem at36_bad (T : Told K mg) {r : List W → DS → RF} (h : ∀ ws s, r ws s = .bad) : At prog w K mg base r 36 j "_law_draw" := by
  obtain ⟨fd, F, hm, hb⟩ := told36 T
  exact ⟨_, fd, _, fn_bad h, hm, F.kp, hb, kw_none (by decide +kernel)⟩
theorem told37 (T : Told K mg) : ∃ fd, FunD K "_law_begun" "_law_begun" (defArgs (top 58)) (defBody (top 58)) (defScope (top 58)) [] [] (He.ga K "_law_begun") fd ∧ mg "_law_begun" = some (.ref (He.ga K "_law_begun")) ∧ Binds K fd ["script"] [] := by
  obtain ⟨fd, F, hm⟩ := told_fn T (d := dd37) (by unfold fnD; simp) (by unfold fnNames; decide +kernel) rfl
  exact ⟨fd, F, hm, FunD.bindsN F fun _ _ _ _ _ _ us hl => match us, hl with | [_], _ => rfl⟩
theorem at37_bad (T : Told K mg) {r : List W → DS → RF} (h : ∀ ws s, r ws s = .bad) : At prog w K mg base r 37 j "_law_begun" := by
  obtain ⟨fd, F, hm, hb⟩ := told37 T
  exact ⟨_, fd, _, fn_bad h, hm, F.kp, hb, kw_none (by decide +kernel)⟩
theorem told38 (T : Told K mg) : ∃ fd, FunD K "_law_of" "_law_of" (defArgs (top 59)) (defBody (top 59)) (defScope (top 59)) [] [] (He.ga K "_law_of") fd ∧ mg "_law_of" = some (.ref (He.ga K "_law_of")) ∧ Binds K fd ["m", "some"] [] := by
  obtain ⟨fd, F, hm⟩ := told_fn T (d := dd38) (by unfold fnD; simp) (by unfold fnNames; decide +kernel) rfl
  exact ⟨fd, F, hm, FunD.bindsN F fun _ _ _ _ _ _ us hl => match us, hl with | [_, _], _ => rfl⟩
theorem at38 (T : Told K mg) (G : Gs px prog w K mg base (Pyv.run pg n) glD j) : At prog w K mg base (Pyv.run pg (n + 1) 38) 38 (j + 1) "_law_of" := by
  obtain ⟨fd, F, hm, hb⟩ := told38 T
  exact ⟨_, fd, _, fnOk_of F sc38 c38 (by decide +kernel) (by decide +kernel) G, hm, F.kp, hb, kw_none (by decide +kernel)⟩
theorem told39 (T : Told K mg) : ∃ fd, FunD K "_law_wide" "_law_wide" (defArgs (top 60)) (defBody (top 60)) (defScope (top 60)) [] [] (He.ga K "_law_wide") fd ∧ mg "_law_wide" = some (.ref (He.ga K "_law_wide")) ∧ Binds K fd ["m", "limit"] [] := by
  obtain ⟨fd, F, hm⟩ := told_fn T (d := dd39) (by unfold fnD; simp) (by unfold fnNames; decide +kernel) rfl
  exact ⟨fd, F, hm, FunD.bindsN F fun _ _ _ _ _ _ us hl => match us, hl with | [_, _], _ => rfl⟩
theorem at39 (T : Told K mg) (G : Gs px prog w K mg base (Pyv.run pg n) glD j) : At prog w K mg base (Pyv.run pg (n + 1) 39) 39 (j + 1) "_law_wide" := by
  obtain ⟨fd, F, hm, hb⟩ := told39 T
  exact ⟨_, fd, _, fnOk_of F sc39 c39 (by decide +kernel) (by decide +kernel) G, hm, F.kp, hb, kw_none (by decide +kernel)⟩
theorem told40 (T : Told K mg) : ∃ fd, FunD K "_law_like" "_law_like" (defArgs (top 61)) (defBody (top 61)) (defScope (top 61)) [] [] (He.ga K "_law_like") fd ∧ mg "_law_like" = some (.ref (He.ga K "_law_like")) ∧ Binds K fd ["told", "due"] [] := by
  obtain ⟨fd, F, hm⟩ := told_fn T (d := dd40) (by unfold fnD; simp) (by unfold fnNames; decide +kernel) rfl
  exact ⟨fd, F, hm, FunD.bindsN F fun _ _ _ _ _ _ us hl => match us, hl with | [_, _], _ => rfl⟩
theorem at40 (T : Told K mg) (G : Gs px prog w K mg base (Pyv.run pg n) glD j) : At prog w K mg base (Pyv.run pg (n + 1) 40) 40 (j + 1) "_law_like" := by
  obtain ⟨fd, F, hm, hb⟩ := told40 T
  exact ⟨_, fd, _, fnOk_of F sc40 c40 (by decide +kernel) (by decide +kernel) G, hm, F.kp, hb, kw_none (by decide +kernel)⟩
theorem told41 (T : Told K mg) : ∃ fd, FunD K "_law_put" "_law_put" (defArgs (top 62)) (defBody (top 62)) (defScope (top 62)) [] [] (He.ga K "_law_put") fd ∧ mg "_law_put" = some (.ref (He.ga K "_law_put")) ∧ Binds K fd ["lot", "spot", "one"] [] := by
  obtain ⟨fd, F, hm⟩ := told_fn T (d := dd41) (by unfold fnD; simp) (by unfold fnNames; decide +kernel) rfl
  exact ⟨fd, F, hm, FunD.bindsN F fun _ _ _ _ _ _ us hl => match us, hl with | [_, _, _], _ => rfl⟩
theorem at41 (T : Told K mg) (G : Gs px prog w K mg base (Pyv.run pg n) glD j) : At prog w K mg base (Pyv.run pg (n + 1) 41) 41 (j + 1) "_law_put" := by
  obtain ⟨fd, F, hm, hb⟩ := told41 T
  exact ⟨_, fd, _, fnOk_of F sc41 c41 (by decide +kernel) (by decide +kernel) G, hm, F.kp, hb, kw_none (by decide +kernel)⟩
theorem told42 (T : Told K mg) : ∃ fd, FunD K "_law_spots" "_law_spots" (defArgs (top 63)) (defBody (top 63)) (defScope (top 63)) [] [] (He.ga K "_law_spots") fd ∧ mg "_law_spots" = some (.ref (He.ga K "_law_spots")) ∧ Binds K fd ["m", "many"] [] := by
  obtain ⟨fd, F, hm⟩ := told_fn T (d := dd42) (by unfold fnD; simp) (by unfold fnNames; decide +kernel) rfl
  exact ⟨fd, F, hm, FunD.bindsN F fun _ _ _ _ _ _ us hl => match us, hl with | [_, _], _ => rfl⟩
theorem at42 (T : Told K mg) (G : Gs px prog w K mg base (Pyv.run pg n) glD j) : At prog w K mg base (Pyv.run pg (n + 1) 42) 42 (j + 1) "_law_spots" := by
  obtain ⟨fd, F, hm, hb⟩ := told42 T
  exact ⟨_, fd, _, fnOk_of F sc42 c42 (by decide +kernel) (by decide +kernel) G, hm, F.kp, hb, kw_none (by decide +kernel)⟩
theorem told43 (T : Told K mg) : ∃ fd, FunD K "_law_totals" "_law_totals" (defArgs (top 64)) (defBody (top 64)) (defScope (top 64)) [] [] (He.ga K "_law_totals") fd ∧ mg "_law_totals" = some (.ref (He.ga K "_law_totals")) ∧ Binds K fd ["spots", "row", "base"] [] := by
  obtain ⟨fd, F, hm⟩ := told_fn T (d := dd43) (by unfold fnD; simp) (by unfold fnNames; decide +kernel) rfl
  exact ⟨fd, F, hm, FunD.bindsN F fun _ _ _ _ _ _ us hl => match us, hl with | [_, _, _], _ => rfl⟩
theorem at43 (T : Told K mg) (G : Gs px prog w K mg base (Pyv.run pg n) glD j) : At prog w K mg base (Pyv.run pg (n + 1) 43) 43 (j + 1) "_law_totals" := by
  obtain ⟨fd, F, hm, hb⟩ := told43 T
  exact ⟨_, fd, _, fnOk_of F sc43 c43 (by decide +kernel) (by decide +kernel) G, hm, F.kp, hb, kw_none (by decide +kernel)⟩
theorem told44 (T : Told K mg) : ∃ fd, FunD K "_law_amounts" "_law_amounts" (defArgs (top 65)) (defBody (top 65)) (defScope (top 65)) [] [] (He.ga K "_law_amounts") fd ∧ mg "_law_amounts" = some (.ref (He.ga K "_law_amounts")) ∧ Binds K fd ["reads_so"] [] := by
  obtain ⟨fd, F, hm⟩ := told_fn T (d := dd44) (by unfold fnD; simp) (by unfold fnNames; decide +kernel) rfl
  exact ⟨fd, F, hm, FunD.bindsN F fun _ _ _ _ _ _ us hl => match us, hl with | [_], _ => rfl⟩
theorem at44 (T : Told K mg) (G : Gs px prog w K mg base (Pyv.run pg n) glD j) : At prog w K mg base (Pyv.run pg (n + 1) 44) 44 (j + 1) "_law_amounts" := by
  obtain ⟨fd, F, hm, hb⟩ := told44 T
  exact ⟨_, fd, _, fnOk_of F sc44 c44 (by decide +kernel) (by decide +kernel) G, hm, F.kp, hb, kw_none (by decide +kernel)⟩
theorem told45 (T : Told K mg) : ∃ fd, FunD K "_law_gap_sums" "_law_gap_sums" (defArgs (top 66)) (defBody (top 66)) (defScope (top 66)) [] [] (He.ga K "_law_gap_sums") fd ∧ mg "_law_gap_sums" = some (.ref (He.ga K "_law_gap_sums")) ∧ Binds K fd ["reads_so", "row"] [] := by
  obtain ⟨fd, F, hm⟩ := told_fn T (d := dd45) (by unfold fnD; simp) (by unfold fnNames; decide +kernel) rfl
  exact ⟨fd, F, hm, FunD.bindsN F fun _ _ _ _ _ _ us hl => match us, hl with | [_, _], _ => rfl⟩
theorem at45 (T : Told K mg) (G : Gs px prog w K mg base (Pyv.run pg n) glD j) : At prog w K mg base (Pyv.run pg (n + 1) 45) 45 (j + 1) "_law_gap_sums" := by
  obtain ⟨fd, F, hm, hb⟩ := told45 T
  exact ⟨_, fd, _, fnOk_of F sc45 c45 (by decide +kernel) (by decide +kernel) G, hm, F.kp, hb, kw_none (by decide +kernel)⟩
theorem told46 (T : Told K mg) : ∃ fd, FunD K "_law_through" "_law_through" (defArgs (top 67)) (defBody (top 67)) (defScope (top 67)) [] [] (He.ga K "_law_through") fd ∧ mg "_law_through" = some (.ref (He.ga K "_law_through")) ∧ Binds K fd ["net_so", "sheet"] [] := by
  obtain ⟨fd, F, hm⟩ := told_fn T (d := dd46) (by unfold fnD; simp) (by unfold fnNames; decide +kernel) rfl
  exact ⟨fd, F, hm, FunD.bindsN F fun _ _ _ _ _ _ us hl => match us, hl with | [_, _], _ => rfl⟩
theorem at46 (T : Told K mg) (G : Gs px prog w K mg base (Pyv.run pg n) glD j) : At prog w K mg base (Pyv.run pg (n + 1) 46) 46 (j + 1) "_law_through" := by
  obtain ⟨fd, F, hm, hb⟩ := told46 T
  exact ⟨_, fd, _, fnOk_of F sc46 c46 (by decide +kernel) (by decide +kernel) G, hm, F.kp, hb, kw_none (by decide +kernel)⟩
theorem told47 (T : Told K mg) : ∃ fd, FunD K "_law_faults" "_law_faults" (defArgs (top 68)) (defBody (top 68)) (defScope (top 68)) [] [] (He.ga K "_law_faults") fd ∧ mg "_law_faults" = some (.ref (He.ga K "_law_faults")) ∧ Binds K fd ["net_so", "sheet"] [] := by
  obtain ⟨fd, F, hm⟩ := told_fn T (d := dd47) (by unfold fnD; simp) (by unfold fnNames; decide +kernel) rfl
  exact ⟨fd, F, hm, FunD.bindsN F fun _ _ _ _ _ _ us hl => match us, hl with | [_, _], _ => rfl⟩
theorem at47 (T : Told K mg) (G : Gs px prog w K mg base (Pyv.run pg n) glD j) : At prog w K mg base (Pyv.run pg (n + 1) 47) 47 (j + 1) "_law_faults" := by
  obtain ⟨fd, F, hm, hb⟩ := told47 T
  exact ⟨_, fd, _, fnOk_of F sc47 c47 (by decide +kernel) (by decide +kernel) G, hm, F.kp, hb, kw_none (by decide +kernel)⟩
theorem told48 (T : Told K mg) : ∃ fd, FunD K "_law_hidden" "_law_hidden" (defArgs (top 69)) (defBody (top 69)) (defScope (top 69)) [] [] (He.ga K "_law_hidden") fd ∧ mg "_law_hidden" = some (.ref (He.ga K "_law_hidden")) ∧ Binds K fd ["net_so", "sheet"] [] := by
  obtain ⟨fd, F, hm⟩ := told_fn T (d := dd48) (by unfold fnD; simp) (by unfold fnNames; decide +kernel) rfl
  exact ⟨fd, F, hm, FunD.bindsN F fun _ _ _ _ _ _ us hl => match us, hl with | [_, _], _ => rfl⟩
theorem at48 (T : Told K mg) (G : Gs px prog w K mg base (Pyv.run pg n) glD j) : At prog w K mg base (Pyv.run pg (n + 1) 48) 48 (j + 1) "_law_hidden" := by
  obtain ⟨fd, F, hm, hb⟩ := told48 T
  exact ⟨_, fd, _, fnOk_of F sc48 c48 (by decide +kernel) (by decide +kernel) G, hm, F.kp, hb, kw_none (by decide +kernel)⟩
theorem told49 (T : Told K mg) : ∃ fd, FunD K "_law_bounded" "_law_bounded" (defArgs (top 70)) (defBody (top 70)) (defScope (top 70)) [] [] (He.ga K "_law_bounded") fd ∧ mg "_law_bounded" = some (.ref (He.ga K "_law_bounded")) ∧ Binds K fd ["net_so", "sheet"] [] := by
  obtain ⟨fd, F, hm⟩ := told_fn T (d := dd49) (by unfold fnD; simp) (by unfold fnNames; decide +kernel) rfl
  exact ⟨fd, F, hm, FunD.bindsN F fun _ _ _ _ _ _ us hl => match us, hl with | [_, _], _ => rfl⟩
theorem at49 (T : Told K mg) (G : Gs px prog w K mg base (Pyv.run pg n) glD j) : At prog w K mg base (Pyv.run pg (n + 1) 49) 49 (j + 1) "_law_bounded" := by
  obtain ⟨fd, F, hm, hb⟩ := told49 T
  exact ⟨_, fd, _, fnOk_of F sc49 c49 (by decide +kernel) (by decide +kernel) G, hm, F.kp, hb, kw_none (by decide +kernel)⟩
theorem told50 (T : Told K mg) : ∃ fd, FunD K "_law_serves" "_law_serves" (defArgs (top 71)) (defBody (top 71)) (defScope (top 71)) [] [] (He.ga K "_law_serves") fd ∧ mg "_law_serves" = some (.ref (He.ga K "_law_serves")) ∧ Binds K fd ["net_so", "marks", "sheet"] [] := by
  obtain ⟨fd, F, hm⟩ := told_fn T (d := dd50) (by unfold fnD; simp) (by unfold fnNames; decide +kernel) rfl
  exact ⟨fd, F, hm, FunD.bindsN F fun _ _ _ _ _ _ us hl => match us, hl with | [_, _, _], _ => rfl⟩
theorem at50 (T : Told K mg) (G : Gs px prog w K mg base (Pyv.run pg n) glD j) : At prog w K mg base (Pyv.run pg (n + 1) 50) 50 (j + 1) "_law_serves" := by
  obtain ⟨fd, F, hm, hb⟩ := told50 T
  exact ⟨_, fd, _, fnOk_of F sc50 c50 (by decide +kernel) (by decide +kernel) G, hm, F.kp, hb, kw_none (by decide +kernel)⟩
theorem told51 (T : Told K mg) : ∃ fd, FunD K "_law_all_gaps" "_law_all_gaps" (defArgs (top 72)) (defBody (top 72)) (defScope (top 72)) [] [] (He.ga K "_law_all_gaps") fd ∧ mg "_law_all_gaps" = some (.ref (He.ga K "_law_all_gaps")) ∧ Binds K fd ["net_so"] [] := by
  obtain ⟨fd, F, hm⟩ := told_fn T (d := dd51) (by unfold fnD; simp) (by unfold fnNames; decide +kernel) rfl
  exact ⟨fd, F, hm, FunD.bindsN F fun _ _ _ _ _ _ us hl => match us, hl with | [_], _ => rfl⟩
theorem at51 (T : Told K mg) (G : Gs px prog w K mg base (Pyv.run pg n) glD j) : At prog w K mg base (Pyv.run pg (n + 1) 51) 51 (j + 1) "_law_all_gaps" := by
  obtain ⟨fd, F, hm, hb⟩ := told51 T
  exact ⟨_, fd, _, fnOk_of F sc51 c51 (by decide +kernel) (by decide +kernel) G, hm, F.kp, hb, kw_none (by decide +kernel)⟩
theorem told52 (T : Told K mg) : ∃ fd, FunD K "_law_marks_of" "_law_marks_of" (defArgs (top 73)) (defBody (top 73)) (defScope (top 73)) [] [] (He.ga K "_law_marks_of") fd ∧ mg "_law_marks_of" = some (.ref (He.ga K "_law_marks_of")) ∧ Binds K fd ["net_so", "some", "mark"] [] := by
  obtain ⟨fd, F, hm⟩ := told_fn T (d := dd52) (by unfold fnD; simp) (by unfold fnNames; decide +kernel) rfl
  exact ⟨fd, F, hm, FunD.bindsN F fun _ _ _ _ _ _ us hl => match us, hl with | [_, _, _], _ => rfl⟩
theorem at52 (T : Told K mg) (G : Gs px prog w K mg base (Pyv.run pg n) glD j) : At prog w K mg base (Pyv.run pg (n + 1) 52) 52 (j + 1) "_law_marks_of" := by
  obtain ⟨fd, F, hm, hb⟩ := told52 T
  exact ⟨_, fd, _, fnOk_of F sc52 c52 (by decide +kernel) (by decide +kernel) G, hm, F.kp, hb, kw_none (by decide +kernel)⟩
theorem told53 (T : Told K mg) : ∃ fd, FunD K "_law_signed" "_law_signed" (defArgs (top 74)) (defBody (top 74)) (defScope (top 74)) [] [] (He.ga K "_law_signed") fd ∧ mg "_law_signed" = some (.ref (He.ga K "_law_signed")) ∧ Binds K fd ["m", "most"] [] := by
  obtain ⟨fd, F, hm⟩ := told_fn T (d := dd53) (by unfold fnD; simp) (by unfold fnNames; decide +kernel) rfl
  exact ⟨fd, F, hm, FunD.bindsN F fun _ _ _ _ _ _ us hl => match us, hl with | [_, _], _ => rfl⟩
theorem at53 (T : Told K mg) (G : Gs px prog w K mg base (Pyv.run pg n) glD j) : At prog w K mg base (Pyv.run pg (n + 1) 53) 53 (j + 1) "_law_signed" := by
  obtain ⟨fd, F, hm, hb⟩ := told53 T
  exact ⟨_, fd, _, fnOk_of F sc53 c53 (by decide +kernel) (by decide +kernel) G, hm, F.kp, hb, kw_none (by decide +kernel)⟩
theorem told54 (T : Told K mg) : ∃ fd, FunD K "_law_off" "_law_off" (defArgs (top 75)) (defBody (top 75)) (defScope (top 75)) [] [] (He.ga K "_law_off") fd ∧ mg "_law_off" = some (.ref (He.ga K "_law_off")) ∧ Binds K fd ["m", "reads_so", "most"] [] := by
  obtain ⟨fd, F, hm⟩ := told_fn T (d := dd54) (by unfold fnD; simp) (by unfold fnNames; decide +kernel) rfl
  exact ⟨fd, F, hm, FunD.bindsN F fun _ _ _ _ _ _ us hl => match us, hl with | [_, _, _], _ => rfl⟩
theorem at54 (T : Told K mg) (G : Gs px prog w K mg base (Pyv.run pg n) glD j) : At prog w K mg base (Pyv.run pg (n + 1) 54) 54 (j + 1) "_law_off" := by
  obtain ⟨fd, F, hm, hb⟩ := told54 T
  exact ⟨_, fd, _, fnOk_of F sc54 c54 (by decide +kernel) (by decide +kernel) G, hm, F.kp, hb, kw_none (by decide +kernel)⟩
theorem told55 (T : Told K mg) : ∃ fd, FunD K "_law_drawn" "_law_drawn" (defArgs (top 76)) (defBody (top 76)) (defScope (top 76)) [] [] (He.ga K "_law_drawn") fd ∧ mg "_law_drawn" = some (.ref (He.ga K "_law_drawn")) ∧ Binds K fd ["m"] [] := by
  obtain ⟨fd, F, hm⟩ := told_fn T (d := dd55) (by unfold fnD; simp) (by unfold fnNames; decide +kernel) rfl
  exact ⟨fd, F, hm, FunD.bindsN F fun _ _ _ _ _ _ us hl => match us, hl with | [_], _ => rfl⟩
theorem at55 (T : Told K mg) (G : Gs px prog w K mg base (Pyv.run pg n) glD j) : At prog w K mg base (Pyv.run pg (n + 1) 55) 55 (j + 1) "_law_drawn" := by
  obtain ⟨fd, F, hm, hb⟩ := told55 T
  exact ⟨_, fd, _, fnOk_of F sc55 c55 (by decide +kernel) (by decide +kernel) G, hm, F.kp, hb, kw_none (by decide +kernel)⟩
theorem told56 (T : Told K mg) : ∃ fd, FunD K "_law_marks" "_law_marks" (defArgs (top 77)) (defBody (top 77)) (defScope (top 77)) [] [] (He.ga K "_law_marks") fd ∧ mg "_law_marks" = some (.ref (He.ga K "_law_marks")) ∧ Binds K fd ["m", "told"] [] := by
  obtain ⟨fd, F, hm⟩ := told_fn T (d := dd56) (by unfold fnD; simp) (by unfold fnNames; decide +kernel) rfl
  exact ⟨fd, F, hm, FunD.bindsN F fun _ _ _ _ _ _ us hl => match us, hl with | [_, _], _ => rfl⟩
theorem at56 (T : Told K mg) (G : Gs px prog w K mg base (Pyv.run pg n) glD j) : At prog w K mg base (Pyv.run pg (n + 1) 56) 56 (j + 1) "_law_marks" := by
  obtain ⟨fd, F, hm, hb⟩ := told56 T
  exact ⟨_, fd, _, fnOk_of F sc56 c56 (by decide +kernel) (by decide +kernel) G, hm, F.kp, hb, kw_none (by decide +kernel)⟩
theorem told57 (T : Told K mg) : ∃ fd, FunD K "_law_summed" "_law_summed" (defArgs (top 78)) (defBody (top 78)) (defScope (top 78)) [] [] (He.ga K "_law_summed") fd ∧ mg "_law_summed" = some (.ref (He.ga K "_law_summed")) ∧ Binds K fd ["row", "many", "base"] [] := by
  obtain ⟨fd, F, hm⟩ := told_fn T (d := dd57) (by unfold fnD; simp) (by unfold fnNames; decide +kernel) rfl
  exact ⟨fd, F, hm, FunD.bindsN F fun _ _ _ _ _ _ us hl => match us, hl with | [_, _, _], _ => rfl⟩
theorem at57 (T : Told K mg) (G : Gs px prog w K mg base (Pyv.run pg n) glD j) : At prog w K mg base (Pyv.run pg (n + 1) 57) 57 (j + 1) "_law_summed" := by
  obtain ⟨fd, F, hm, hb⟩ := told57 T
  exact ⟨_, fd, _, fnOk_of F sc57 c57 (by decide +kernel) (by decide +kernel) G, hm, F.kp, hb, kw_none (by decide +kernel)⟩
theorem told58 (T : Told K mg) : ∃ fd, FunD K "_law_own_changes" "_law_own_changes" (defArgs (top 79)) (defBody (top 79)) (defScope (top 79)) [] [] (He.ga K "_law_own_changes") fd ∧ mg "_law_own_changes" = some (.ref (He.ga K "_law_own_changes")) ∧ Binds K fd ["m", "net_so", "sheet"] [] := by
  obtain ⟨fd, F, hm⟩ := told_fn T (d := dd58) (by unfold fnD; simp) (by unfold fnNames; decide +kernel) rfl
  exact ⟨fd, F, hm, FunD.bindsN F fun _ _ _ _ _ _ us hl => match us, hl with | [_, _, _], _ => rfl⟩
theorem at58 (T : Told K mg) (G : Gs px prog w K mg base (Pyv.run pg n) glD j) : At prog w K mg base (Pyv.run pg (n + 1) 58) 58 (j + 1) "_law_own_changes" := by
  obtain ⟨fd, F, hm, hb⟩ := told58 T
  exact ⟨_, fd, _, fnOk_of F sc58 c58 (by decide +kernel) (by decide +kernel) G, hm, F.kp, hb, kw_none (by decide +kernel)⟩
theorem told59 (T : Told K mg) : ∃ fd, FunD K "_law_read_so" "_law_read_so" (defArgs (top 80)) (defBody (top 80)) (defScope (top 80)) [] [] (He.ga K "_law_read_so") fd ∧ mg "_law_read_so" = some (.ref (He.ga K "_law_read_so")) ∧ Binds K fd ["reads_so", "row"] [] := by
  obtain ⟨fd, F, hm⟩ := told_fn T (d := dd59) (by unfold fnD; simp) (by unfold fnNames; decide +kernel) rfl
  exact ⟨fd, F, hm, FunD.bindsN F fun _ _ _ _ _ _ us hl => match us, hl with | [_, _], _ => rfl⟩
theorem at59 (T : Told K mg) (G : Gs px prog w K mg base (Pyv.run pg n) glD j) : At prog w K mg base (Pyv.run pg (n + 1) 59) 59 (j + 1) "_law_read_so" := by
  obtain ⟨fd, F, hm, hb⟩ := told59 T
  exact ⟨_, fd, _, fnOk_of F sc59 c59 (by decide +kernel) (by decide +kernel) G, hm, F.kp, hb, kw_none (by decide +kernel)⟩
theorem told60 (T : Told K mg) : ∃ fd, FunD K "_law_bent" "_law_bent" (defArgs (top 81)) (defBody (top 81)) (defScope (top 81)) [] [] (He.ga K "_law_bent") fd ∧ mg "_law_bent" = some (.ref (He.ga K "_law_bent")) ∧ Binds K fd ["m", "changes_so"] [] := by
  obtain ⟨fd, F, hm⟩ := told_fn T (d := dd60) (by unfold fnD; simp) (by unfold fnNames; decide +kernel) rfl
  exact ⟨fd, F, hm, FunD.bindsN F fun _ _ _ _ _ _ us hl => match us, hl with | [_, _], _ => rfl⟩
theorem at60 (T : Told K mg) (G : Gs px prog w K mg base (Pyv.run pg n) glD j) : At prog w K mg base (Pyv.run pg (n + 1) 60) 60 (j + 1) "_law_bent" := by
  obtain ⟨fd, F, hm, hb⟩ := told60 T
  exact ⟨_, fd, _, fnOk_of F sc60 c60 (by decide +kernel) (by decide +kernel) G, hm, F.kp, hb, kw_none (by decide +kernel)⟩
theorem told61 (T : Told K mg) : ∃ fd, FunD K "_law_changes_right" "_law_changes_right" (defArgs (top 82)) (defBody (top 82)) (defScope (top 82)) [] [] (He.ga K "_law_changes_right") fd ∧ mg "_law_changes_right" = some (.ref (He.ga K "_law_changes_right")) ∧ Binds K fd ["m", "net_so", "sheet", "is_within_v"] [] := by
  obtain ⟨fd, F, hm⟩ := told_fn T (d := dd61) (by unfold fnD; simp) (by unfold fnNames; decide +kernel) rfl
  exact ⟨fd, F, hm, FunD.bindsN F fun _ _ _ _ _ _ us hl => match us, hl with | [_, _, _, _], _ => rfl⟩
theorem at61 (T : Told K mg) (G : Gs px prog w K mg base (Pyv.run pg n) glD j) : At prog w K mg base (Pyv.run pg (n + 1) 61) 61 (j + 1) "_law_changes_right" := by
  obtain ⟨fd, F, hm, hb⟩ := told61 T
  exact ⟨_, fd, _, fnOk_of F sc61 c61 (by decide +kernel) (by decide +kernel) G, hm, F.kp, hb, kw_none (by decide +kernel)⟩
theorem told62 (T : Told K mg) : ∃ fd, FunD K "law" "law" (defArgs (top 83)) (defBody (top 83)) (defScope (top 83)) [] [] (He.ga K "law") fd ∧ mg "law" = some (.ref (He.ga K "law")) ∧ Binds K fd ["script"] [] := by
  obtain ⟨fd, F, hm⟩ := told_fn T (d := dd62) (by unfold fnD; simp) (by unfold fnNames; decide +kernel) rfl
  exact ⟨fd, F, hm, FunD.bindsN F fun _ _ _ _ _ _ us hl => match us, hl with | [_], _ => rfl⟩
theorem at62_bad (T : Told K mg) {r : List W → DS → RF} (h : ∀ ws s, r ws s = .bad) : At prog w K mg base r 62 j "law" := by
  obtain ⟨fd, F, hm, hb⟩ := told62 T
  exact ⟨_, fd, _, fn_bad h, hm, F.kp, hb, kw_none (by decide +kernel)⟩
theorem bad_all (T : Told K mg) {call : Nat → List W → DS → RF} (h : ∀ i ws s, call i ws s = .bad) : ∀ (i : Nat) (x : Str), px.fns[i]? = some x → At prog w K mg base (call i) i j x
  | 0, x, h2 => by
    obtain rfl : ("is_integer" : Str) = x := Option.some.inj h2
    obtain ⟨fd, F, hm, hb⟩ := told0 T
    exact ⟨_, fd, _, fn_bad (h 0), hm, F.kp, hb, kw_none (by decide +kernel)⟩
  | 1, x, h2 => by
    obtain rfl : ("is_within" : Str) = x := Option.some.inj h2
    obtain ⟨fd, F, hm, hb⟩ := told1 T
    exact ⟨_, fd, _, fn_bad (h 1), hm, F.kp, hb, kw_none (by decide +kernel)⟩
  | 2, x, h2 => by
    obtain rfl : ("are_reads" : Str) = x := Option.some.inj h2
    obtain ⟨fd, F, hm, hb⟩ := told2 T
    exact ⟨_, fd, _, fn_bad (h 2), hm, F.kp, hb, kw_none (by decide +kernel)⟩
  | 3, x, h2 => by
    obtain rfl : ("is_point" : Str) = x := Option.some.inj h2
    obtain ⟨fd, F, hm, hb⟩ := told3 T
    exact ⟨_, fd, _, fn_bad (h 3), hm, F.kp, hb, kw_none (by decide +kernel)⟩
  | 4, x, h2 => by
    obtain rfl : ("are_losses" : Str) = x := Option.some.inj h2
    obtain ⟨fd, F, hm, hb⟩ := told4 T
    exact ⟨_, fd, _, fn_bad (h 4), hm, F.kp, hb, kw_none (by decide +kernel)⟩
  | 5, x, h2 => by
    obtain rfl : ("need_net" : Str) = x := Option.some.inj h2
    obtain ⟨fd, F, hm, hb⟩ := told5 T
    exact ⟨_, fd, _, fn_bad (h 5), hm, F.kp, hb, kw_none (by decide +kernel)⟩
  | 6, x, h2 => by
    obtain rfl : ("amounts_in" : Str) = x := Option.some.inj h2
    obtain ⟨fd, F, hm, hb⟩ := told6 T
    exact ⟨_, fd, _, fn_bad (h 6), hm, F.kp, hb, kw_none (by decide +kernel)⟩
  | 7, x, h2 => by
    obtain rfl : ("amounts_read" : Str) = x := Option.some.inj h2
    obtain ⟨fd, F, hm, hb⟩ := told7 T
    exact ⟨_, fd, _, fn_bad (h 7), hm, F.kp, hb, kw_none (by decide +kernel)⟩
  | 8, x, h2 => by
    obtain rfl : ("are_integers" : Str) = x := Option.some.inj h2
    obtain ⟨fd, F, hm, hb⟩ := told8 T
    exact ⟨_, fd, _, fn_bad (h 8), hm, F.kp, hb, kw_none (by decide +kernel)⟩
  | 9, x, h2 => by
    obtain rfl : ("place_in_pair" : Str) = x := Option.some.inj h2
    obtain ⟨fd, F, hm, hb⟩ := told9 T
    exact ⟨_, fd, _, fn_bad (h 9), hm, F.kp, hb, kw_none (by decide +kernel)⟩
  | 10, x, h2 => by
    obtain rfl : ("need_flows" : Str) = x := Option.some.inj h2
    obtain ⟨fd, F, hm, hb⟩ := told10 T
    exact ⟨_, fd, _, fn_bad (h 10), hm, F.kp, hb, kw_none (by decide +kernel)⟩
  | 11, x, h2 => by
    obtain rfl : ("sums_by_gap" : Str) = x := Option.some.inj h2
    obtain ⟨fd, F, hm, hb⟩ := told11 T
    exact ⟨_, fd, _, fn_bad (h 11), hm, F.kp, hb, kw_none (by decide +kernel)⟩
  | 12, x, h2 => by
    obtain rfl : ("through_main" : Str) = x := Option.some.inj h2
    obtain ⟨fd, F, hm, hb⟩ := told12 T
    exact ⟨_, fd, _, fn_bad (h 12), hm, F.kp, hb, kw_none (by decide +kernel)⟩
  | 13, x, h2 => by
    obtain rfl : ("faults_of_bounds" : Str) = x := Option.some.inj h2
    obtain ⟨fd, F, hm, hb⟩ := told13 T
    exact ⟨_, fd, _, fn_bad (h 13), hm, F.kp, hb, kw_none (by decide +kernel)⟩
  | 14, x, h2 => by
    obtain rfl : ("faults_of_gaps" : Str) = x := Option.some.inj h2
    obtain ⟨fd, F, hm, hb⟩ := told14 T
    exact ⟨_, fd, _, fn_bad (h 14), hm, F.kp, hb, kw_none (by decide +kernel)⟩
  | 15, x, h2 => by
    obtain rfl : ("all_faults" : Str) = x := Option.some.inj h2
    obtain ⟨fd, F, hm, hb⟩ := told15 T
    exact ⟨_, fd, _, fn_bad (h 15), hm, F.kp, hb, kw_none (by decide +kernel)⟩
  | 16, x, h2 => by
    obtain rfl : ("faults" : Str) = x := Option.some.inj h2
    obtain ⟨fd, F, hm, hb⟩ := told16 T
    exact ⟨_, fd, _, fn_bad (h 16), hm, F.kp, hb, kw_none (by decide +kernel)⟩
  | 17, x, h2 => by
    obtain rfl : ("fits_net" : Str) = x := Option.some.inj h2
    obtain ⟨fd, F, hm, hb⟩ := told17 T
    exact ⟨_, fd, _, fn_bad (h 17), hm, F.kp, hb, kw_none (by decide +kernel)⟩
  | 18, x, h2 => by
    obtain rfl : ("place_in_changes" : Str) = x := Option.some.inj h2
    obtain ⟨fd, F, hm, hb⟩ := told18 T
    exact ⟨_, fd, _, fn_bad (h 18), hm, F.kp, hb, kw_none (by decide +kernel)⟩
  | 19, x, h2 => by
    obtain rfl : ("need_changes" : Str) = x := Option.some.inj h2
    obtain ⟨fd, F, hm, hb⟩ := told19 T
    exact ⟨_, fd, _, fn_bad (h 19), hm, F.kp, hb, kw_none (by decide +kernel)⟩
  | 20, x, h2 => by
    obtain rfl : ("changed_reads" : Str) = x := Option.some.inj h2
    obtain ⟨fd, F, hm, hb⟩ := told20 T
    exact ⟨_, fd, _, fn_bad (h 20), hm, F.kp, hb, kw_none (by decide +kernel)⟩
  | 21, x, h2 => by
    obtain rfl : ("faults_behind" : Str) = x := Option.some.inj h2
    obtain ⟨fd, F, hm, hb⟩ := told21 T
    exact ⟨_, fd, _, fn_bad (h 21), hm, F.kp, hb, kw_none (by decide +kernel)⟩
  | 22, x, h2 => by
    obtain rfl : ("fits_behind" : Str) = x := Option.some.inj h2
    obtain ⟨fd, F, hm, hb⟩ := told22 T
    exact ⟨_, fd, _, fn_bad (h 22), hm, F.kp, hb, kw22 F⟩
  | 23, x, h2 => by
    obtain rfl : ("are_marks" : Str) = x := Option.some.inj h2
    obtain ⟨fd, F, hm, hb⟩ := told23 T
    exact ⟨_, fd, _, fn_bad (h 23), hm, F.kp, hb, kw_none (by decide +kernel)⟩
  | 24, x, h2 => by
    obtain rfl : ("need_marks" : Str) = x := Option.some.inj h2
    obtain ⟨fd, F, hm, hb⟩ := told24 T
    exact ⟨_, fd, _, fn_bad (h 24), hm, F.kp, hb, kw_none (by decide +kernel)⟩
  | 25, x, h2 => by
    obtain rfl : ("need_doubt" : Str) = x := Option.some.inj h2
    obtain ⟨fd, F, hm, hb⟩ := told25 T
    exact ⟨_, fd, _, fn_bad (h 25), hm, F.kp, hb, kw_none (by decide +kernel)⟩
  | 26, x, h2 => by
    obtain rfl : ("need_points" : Str) = x := Option.some.inj h2
    obtain ⟨fd, F, hm, hb⟩ := told26 T
    exact ⟨_, fd, _, fn_bad (h 26), hm, F.kp, hb, kw_none (by decide +kernel)⟩
  | 27, x, h2 => by
    obtain rfl : ("marks_for" : Str) = x := Option.some.inj h2
    obtain ⟨fd, F, hm, hb⟩ := told27 T
    exact ⟨_, fd, _, fn_bad (h 27), hm, F.kp, hb, kw_none (by decide +kernel)⟩
  | 28, x, h2 => by
    obtain rfl : ("doubt_of" : Str) = x := Option.some.inj h2
    obtain ⟨fd, F, hm, hb⟩ := told28 T
    exact ⟨_, fd, _, fn_bad (h 28), hm, F.kp, hb, kw_none (by decide +kernel)⟩
  | 29, x, h2 => by
    obtain rfl : ("hidden_in" : Str) = x := Option.some.inj h2
    obtain ⟨fd, F, hm, hb⟩ := told29 T
    exact ⟨_, fd, _, fn_bad (h 29), hm, F.kp, hb, kw_none (by decide +kernel)⟩
  | 30, x, h2 => by
    obtain rfl : ("does_mark_allow" : Str) = x := Option.some.inj h2
    obtain ⟨fd, F, hm, hb⟩ := told30 T
    exact ⟨_, fd, _, fn_bad (h 30), hm, F.kp, hb, kw_none (by decide +kernel)⟩
  | 31, x, h2 => by
    obtain rfl : ("does_serve" : Str) = x := Option.some.inj h2
    obtain ⟨fd, F, hm, hb⟩ := told31 T
    exact ⟨_, fd, _, fn_bad (h 31), hm, F.kp, hb, kw_none (by decide +kernel)⟩
  | 32, x, h2 => by
    obtain rfl : ("serves" : Str) = x := Option.some.inj h2
    obtain ⟨fd, F, hm, hb⟩ := told32 T
    exact ⟨_, fd, _, fn_bad (h 32), hm, F.kp, hb, kw_none (by decide +kernel)⟩
  | 33, x, h2 => by
    obtain rfl : ("hidden" : Str) = x := Option.some.inj h2
    obtain ⟨fd, F, hm, hb⟩ := told33 T
    exact ⟨_, fd, _, fn_bad (h 33), hm, F.kp, hb, kw_none (by decide +kernel)⟩
  | 34, x, h2 => by
    obtain rfl : ("_law_mixed" : Str) = x := Option.some.inj h2
    obtain ⟨fd, F, hm, hb⟩ := told34 T
    exact ⟨_, fd, _, fn_bad (h 34), hm, F.kp, hb, kw_none (by decide +kernel)⟩
  | 35, x, h2 => by
    obtain rfl : ("_law_folded" : Str) = x := Option.some.inj h2
    obtain ⟨fd, F, hm, hb⟩ := told35 T
    exact ⟨_, fd, _, fn_bad (h 35), hm, F.kp, hb, kw_none (by decide +kernel)⟩
  | 36, x, h2 => by
    obtain rfl : ("_law_draw" : Str) = x := Option.some.inj h2
    obtain ⟨fd, F, hm, hb⟩ := told36 T
    exact ⟨_, fd, _, fn_bad (h 36), hm, F.kp, hb, kw_none (by decide +kernel)⟩
  | 37, x, h2 => by
    obtain rfl : ("_law_begun" : Str) = x := Option.some.inj h2
    obtain ⟨fd, F, hm, hb⟩ := told37 T
    exact ⟨_, fd, _, fn_bad (h 37), hm, F.kp, hb, kw_none (by decide +kernel)⟩
  | 38, x, h2 => by
    obtain rfl : ("_law_of" : Str) = x := Option.some.inj h2
    obtain ⟨fd, F, hm, hb⟩ := told38 T
    exact ⟨_, fd, _, fn_bad (h 38), hm, F.kp, hb, kw_none (by decide +kernel)⟩
  | 39, x, h2 => by
    obtain rfl : ("_law_wide" : Str) = x := Option.some.inj h2
    obtain ⟨fd, F, hm, hb⟩ := told39 T
    exact ⟨_, fd, _, fn_bad (h 39), hm, F.kp, hb, kw_none (by decide +kernel)⟩
  | 40, x, h2 => by
    obtain rfl : ("_law_like" : Str) = x := Option.some.inj h2
    obtain ⟨fd, F, hm, hb⟩ := told40 T
    exact ⟨_, fd, _, fn_bad (h 40), hm, F.kp, hb, kw_none (by decide +kernel)⟩
  | 41, x, h2 => by
    obtain rfl : ("_law_put" : Str) = x := Option.some.inj h2
    obtain ⟨fd, F, hm, hb⟩ := told41 T
    exact ⟨_, fd, _, fn_bad (h 41), hm, F.kp, hb, kw_none (by decide +kernel)⟩
  | 42, x, h2 => by
    obtain rfl : ("_law_spots" : Str) = x := Option.some.inj h2
    obtain ⟨fd, F, hm, hb⟩ := told42 T
    exact ⟨_, fd, _, fn_bad (h 42), hm, F.kp, hb, kw_none (by decide +kernel)⟩
  | 43, x, h2 => by
    obtain rfl : ("_law_totals" : Str) = x := Option.some.inj h2
    obtain ⟨fd, F, hm, hb⟩ := told43 T
    exact ⟨_, fd, _, fn_bad (h 43), hm, F.kp, hb, kw_none (by decide +kernel)⟩
  | 44, x, h2 => by
    obtain rfl : ("_law_amounts" : Str) = x := Option.some.inj h2
    obtain ⟨fd, F, hm, hb⟩ := told44 T
    exact ⟨_, fd, _, fn_bad (h 44), hm, F.kp, hb, kw_none (by decide +kernel)⟩
  | 45, x, h2 => by
    obtain rfl : ("_law_gap_sums" : Str) = x := Option.some.inj h2
    obtain ⟨fd, F, hm, hb⟩ := told45 T
    exact ⟨_, fd, _, fn_bad (h 45), hm, F.kp, hb, kw_none (by decide +kernel)⟩
  | 46, x, h2 => by
    obtain rfl : ("_law_through" : Str) = x := Option.some.inj h2
    obtain ⟨fd, F, hm, hb⟩ := told46 T
    exact ⟨_, fd, _, fn_bad (h 46), hm, F.kp, hb, kw_none (by decide +kernel)⟩
  | 47, x, h2 => by
    obtain rfl : ("_law_faults" : Str) = x := Option.some.inj h2
    obtain ⟨fd, F, hm, hb⟩ := told47 T
    exact ⟨_, fd, _, fn_bad (h 47), hm, F.kp, hb, kw_none (by decide +kernel)⟩
  | 48, x, h2 => by
    obtain rfl : ("_law_hidden" : Str) = x := Option.some.inj h2
    obtain ⟨fd, F, hm, hb⟩ := told48 T
    exact ⟨_, fd, _, fn_bad (h 48), hm, F.kp, hb, kw_none (by decide +kernel)⟩
  | 49, x, h2 => by
    obtain rfl : ("_law_bounded" : Str) = x := Option.some.inj h2
    obtain ⟨fd, F, hm, hb⟩ := told49 T
    exact ⟨_, fd, _, fn_bad (h 49), hm, F.kp, hb, kw_none (by decide +kernel)⟩
  | 50, x, h2 => by
    obtain rfl : ("_law_serves" : Str) = x := Option.some.inj h2
    obtain ⟨fd, F, hm, hb⟩ := told50 T
    exact ⟨_, fd, _, fn_bad (h 50), hm, F.kp, hb, kw_none (by decide +kernel)⟩
  | 51, x, h2 => by
    obtain rfl : ("_law_all_gaps" : Str) = x := Option.some.inj h2
    obtain ⟨fd, F, hm, hb⟩ := told51 T
    exact ⟨_, fd, _, fn_bad (h 51), hm, F.kp, hb, kw_none (by decide +kernel)⟩
  | 52, x, h2 => by
    obtain rfl : ("_law_marks_of" : Str) = x := Option.some.inj h2
    obtain ⟨fd, F, hm, hb⟩ := told52 T
    exact ⟨_, fd, _, fn_bad (h 52), hm, F.kp, hb, kw_none (by decide +kernel)⟩
  | 53, x, h2 => by
    obtain rfl : ("_law_signed" : Str) = x := Option.some.inj h2
    obtain ⟨fd, F, hm, hb⟩ := told53 T
    exact ⟨_, fd, _, fn_bad (h 53), hm, F.kp, hb, kw_none (by decide +kernel)⟩
  | 54, x, h2 => by
    obtain rfl : ("_law_off" : Str) = x := Option.some.inj h2
    obtain ⟨fd, F, hm, hb⟩ := told54 T
    exact ⟨_, fd, _, fn_bad (h 54), hm, F.kp, hb, kw_none (by decide +kernel)⟩
  | 55, x, h2 => by
    obtain rfl : ("_law_drawn" : Str) = x := Option.some.inj h2
    obtain ⟨fd, F, hm, hb⟩ := told55 T
    exact ⟨_, fd, _, fn_bad (h 55), hm, F.kp, hb, kw_none (by decide +kernel)⟩
  | 56, x, h2 => by
    obtain rfl : ("_law_marks" : Str) = x := Option.some.inj h2
    obtain ⟨fd, F, hm, hb⟩ := told56 T
    exact ⟨_, fd, _, fn_bad (h 56), hm, F.kp, hb, kw_none (by decide +kernel)⟩
  | 57, x, h2 => by
    obtain rfl : ("_law_summed" : Str) = x := Option.some.inj h2
    obtain ⟨fd, F, hm, hb⟩ := told57 T
    exact ⟨_, fd, _, fn_bad (h 57), hm, F.kp, hb, kw_none (by decide +kernel)⟩
  | 58, x, h2 => by
    obtain rfl : ("_law_own_changes" : Str) = x := Option.some.inj h2
    obtain ⟨fd, F, hm, hb⟩ := told58 T
    exact ⟨_, fd, _, fn_bad (h 58), hm, F.kp, hb, kw_none (by decide +kernel)⟩
  | 59, x, h2 => by
    obtain rfl : ("_law_read_so" : Str) = x := Option.some.inj h2
    obtain ⟨fd, F, hm, hb⟩ := told59 T
    exact ⟨_, fd, _, fn_bad (h 59), hm, F.kp, hb, kw_none (by decide +kernel)⟩
  | 60, x, h2 => by
    obtain rfl : ("_law_bent" : Str) = x := Option.some.inj h2
    obtain ⟨fd, F, hm, hb⟩ := told60 T
    exact ⟨_, fd, _, fn_bad (h 60), hm, F.kp, hb, kw_none (by decide +kernel)⟩
  | 61, x, h2 => by
    obtain rfl : ("_law_changes_right" : Str) = x := Option.some.inj h2
    obtain ⟨fd, F, hm, hb⟩ := told61 T
    exact ⟨_, fd, _, fn_bad (h 61), hm, F.kp, hb, kw_none (by decide +kernel)⟩
  | 62, x, h2 => by
    obtain rfl : ("law" : Str) = x := Option.some.inj h2
    obtain ⟨fd, F, hm, hb⟩ := told62 T
    exact ⟨_, fd, _, fn_bad (h 62), hm, F.kp, hb, kw_none (by decide +kernel)⟩
  | i + 63, x, h2 => by cases h2
theorem gs_bad (T : Told K mg) {call : Nat → List W → DS → RF} (h : ∀ i ws s, call i ws s = .bad) : Gs px prog w K mg base call glD j := ⟨bad_all T h, T.gls, T.blt⟩
/-- only _law_mixed is called -/
noncomputable def callM (i : Nat) (ws : List W) (s : DS) : RF := if i = 34 then Pyv.run pg 1 34 ws s else .bad
theorem gs_mix (T : Told K mg) : Gs px prog w K mg base callM glD 1 := by
  refine ⟨fun i x hx => ?_, T.gls, T.blt⟩
  by_cases e : i = 34
  · subst e
    obtain rfl : ("_law_mixed" : Str) = x := Option.some.inj hx
    have h : callM 34 = Pyv.run pg 1 34 := by
      funext ws s
      exact if_pos rfl
    rw [h]
    exact at34 T (gs_bad (j := 0) T fun _ _ _ => rfl)
  · have := bad_all (prog := prog) (w := w) (base := base) (j := 1) T (call := fun _ _ _ => .bad) (fun _ _ _ => rfl) i x hx
    have h : callM i = fun _ _ => .bad := by
      funext ws s
      exact if_neg e
    rw [h]
    exact this
theorem at_draw (T : Told K mg) (hm : MixOk callM) : At prog w K mg base primDraw 36 2 "_law_draw" := by
  obtain ⟨fd, F, hm2, hb⟩ := told36 T
  exact ⟨_, fd, _, ok_draw F (gs_mix T) hm, hm2, F.kp, hb, kw_none (by decide +kernel)⟩
theorem gs_fns (T : Told K mg) (hm : MixOk callM) (G : Gs px prog w K mg base (Pyv.run pg n) glD (n + 5)) : ∀ (i : Nat) (x : Str), px.fns[i]? = some x → At prog w K mg base (Pyv.run pg (n + 1) i) i (n + 1 + 5) x
  | 0, x, h2 => by
    obtain rfl : ("is_integer" : Str) = x := Option.some.inj h2
    exact (at0 T G).mono (by omega)
  | 1, x, h2 => by
    obtain rfl : ("is_within" : Str) = x := Option.some.inj h2
    exact (at1 T G).mono (by omega)
  | 2, x, h2 => by
    obtain rfl : ("are_reads" : Str) = x := Option.some.inj h2
    exact (at2 T G).mono (by omega)
  | 3, x, h2 => by
    obtain rfl : ("is_point" : Str) = x := Option.some.inj h2
    exact (at3 T G).mono (by omega)
  | 4, x, h2 => by
    obtain rfl : ("are_losses" : Str) = x := Option.some.inj h2
    exact (at4 T G).mono (by omega)
  | 5, x, h2 => by
    obtain rfl : ("need_net" : Str) = x := Option.some.inj h2
    exact (at5 T G).mono (by omega)
  | 6, x, h2 => by
    obtain rfl : ("amounts_in" : Str) = x := Option.some.inj h2
    exact (at6 T G).mono (by omega)
  | 7, x, h2 => by
    obtain rfl : ("amounts_read" : Str) = x := Option.some.inj h2
    exact (at7 T G).mono (by omega)
  | 8, x, h2 => by
    obtain rfl : ("are_integers" : Str) = x := Option.some.inj h2
    exact (at8 T G).mono (by omega)
  | 9, x, h2 => by
    obtain rfl : ("place_in_pair" : Str) = x := Option.some.inj h2
    exact (at9 T G).mono (by omega)
  | 10, x, h2 => by
    obtain rfl : ("need_flows" : Str) = x := Option.some.inj h2
    exact (at10 T G).mono (by omega)
  | 11, x, h2 => by
    obtain rfl : ("sums_by_gap" : Str) = x := Option.some.inj h2
    exact (at11 T G).mono (by omega)
  | 12, x, h2 => by
    obtain rfl : ("through_main" : Str) = x := Option.some.inj h2
    exact (at12 T G).mono (by omega)
  | 13, x, h2 => by
    obtain rfl : ("faults_of_bounds" : Str) = x := Option.some.inj h2
    exact (at13 T G).mono (by omega)
  | 14, x, h2 => by
    obtain rfl : ("faults_of_gaps" : Str) = x := Option.some.inj h2
    exact (at14 T G).mono (by omega)
  | 15, x, h2 => by
    obtain rfl : ("all_faults" : Str) = x := Option.some.inj h2
    exact (at15 T G).mono (by omega)
  | 16, x, h2 => by
    obtain rfl : ("faults" : Str) = x := Option.some.inj h2
    exact (at16 T G).mono (by omega)
  | 17, x, h2 => by
    obtain rfl : ("fits_net" : Str) = x := Option.some.inj h2
    exact (at17 T G).mono (by omega)
  | 18, x, h2 => by
    obtain rfl : ("place_in_changes" : Str) = x := Option.some.inj h2
    exact (at18 T G).mono (by omega)
  | 19, x, h2 => by
    obtain rfl : ("need_changes" : Str) = x := Option.some.inj h2
    exact (at19 T G).mono (by omega)
  | 20, x, h2 => by
    obtain rfl : ("changed_reads" : Str) = x := Option.some.inj h2
    exact (at20 T G).mono (by omega)
  | 21, x, h2 => by
    obtain rfl : ("faults_behind" : Str) = x := Option.some.inj h2
    exact (at21 T G).mono (by omega)
  | 22, x, h2 => by
    obtain rfl : ("fits_behind" : Str) = x := Option.some.inj h2
    exact (at22 T G).mono (by omega)
  | 23, x, h2 => by
    obtain rfl : ("are_marks" : Str) = x := Option.some.inj h2
    exact (at23 T G).mono (by omega)
  | 24, x, h2 => by
    obtain rfl : ("need_marks" : Str) = x := Option.some.inj h2
    exact (at24 T G).mono (by omega)
  | 25, x, h2 => by
    obtain rfl : ("need_doubt" : Str) = x := Option.some.inj h2
    exact (at25 T G).mono (by omega)
  | 26, x, h2 => by
    obtain rfl : ("need_points" : Str) = x := Option.some.inj h2
    exact (at26 T G).mono (by omega)
  | 27, x, h2 => by
    obtain rfl : ("marks_for" : Str) = x := Option.some.inj h2
    exact (at27 T G).mono (by omega)
  | 28, x, h2 => by
    obtain rfl : ("doubt_of" : Str) = x := Option.some.inj h2
    exact (at28 T G).mono (by omega)
  | 29, x, h2 => by
    obtain rfl : ("hidden_in" : Str) = x := Option.some.inj h2
    exact (at29 T G).mono (by omega)
  | 30, x, h2 => by
    obtain rfl : ("does_mark_allow" : Str) = x := Option.some.inj h2
    exact (at30 T G).mono (by omega)
  | 31, x, h2 => by
    obtain rfl : ("does_serve" : Str) = x := Option.some.inj h2
    exact (at31 T G).mono (by omega)
  | 32, x, h2 => by
    obtain rfl : ("serves" : Str) = x := Option.some.inj h2
    exact (at32 T G).mono (by omega)
  | 33, x, h2 => by
    obtain rfl : ("hidden" : Str) = x := Option.some.inj h2
    exact (at33 T G).mono (by omega)
  | 34, x, h2 => by
    obtain rfl : ("_law_mixed" : Str) = x := Option.some.inj h2
    exact (at34 T G).mono (by omega)
  | 35, x, h2 => by
    obtain rfl : ("_law_folded" : Str) = x := Option.some.inj h2
    exact at35_bad T fun _ _ => rfl
  | 36, x, h2 => by
    obtain rfl : ("_law_draw" : Str) = x := Option.some.inj h2
    exact (at_draw T hm).mono (by omega)
  | 37, x, h2 => by
    obtain rfl : ("_law_begun" : Str) = x := Option.some.inj h2
    exact at37_bad T fun _ _ => rfl
  | 38, x, h2 => by
    obtain rfl : ("_law_of" : Str) = x := Option.some.inj h2
    exact (at38 T G).mono (by omega)
  | 39, x, h2 => by
    obtain rfl : ("_law_wide" : Str) = x := Option.some.inj h2
    exact (at39 T G).mono (by omega)
  | 40, x, h2 => by
    obtain rfl : ("_law_like" : Str) = x := Option.some.inj h2
    exact (at40 T G).mono (by omega)
  | 41, x, h2 => by
    obtain rfl : ("_law_put" : Str) = x := Option.some.inj h2
    exact (at41 T G).mono (by omega)
  | 42, x, h2 => by
    obtain rfl : ("_law_spots" : Str) = x := Option.some.inj h2
    exact (at42 T G).mono (by omega)
  | 43, x, h2 => by
    obtain rfl : ("_law_totals" : Str) = x := Option.some.inj h2
    exact (at43 T G).mono (by omega)
  | 44, x, h2 => by
    obtain rfl : ("_law_amounts" : Str) = x := Option.some.inj h2
    exact (at44 T G).mono (by omega)
  | 45, x, h2 => by
    obtain rfl : ("_law_gap_sums" : Str) = x := Option.some.inj h2
    exact (at45 T G).mono (by omega)
  | 46, x, h2 => by
    obtain rfl : ("_law_through" : Str) = x := Option.some.inj h2
    exact (at46 T G).mono (by omega)
  | 47, x, h2 => by
    obtain rfl : ("_law_faults" : Str) = x := Option.some.inj h2
    exact (at47 T G).mono (by omega)
  | 48, x, h2 => by
    obtain rfl : ("_law_hidden" : Str) = x := Option.some.inj h2
    exact (at48 T G).mono (by omega)
  | 49, x, h2 => by
    obtain rfl : ("_law_bounded" : Str) = x := Option.some.inj h2
    exact (at49 T G).mono (by omega)
  | 50, x, h2 => by
    obtain rfl : ("_law_serves" : Str) = x := Option.some.inj h2
    exact (at50 T G).mono (by omega)
  | 51, x, h2 => by
    obtain rfl : ("_law_all_gaps" : Str) = x := Option.some.inj h2
    exact (at51 T G).mono (by omega)
  | 52, x, h2 => by
    obtain rfl : ("_law_marks_of" : Str) = x := Option.some.inj h2
    exact (at52 T G).mono (by omega)
  | 53, x, h2 => by
    obtain rfl : ("_law_signed" : Str) = x := Option.some.inj h2
    exact (at53 T G).mono (by omega)
  | 54, x, h2 => by
    obtain rfl : ("_law_off" : Str) = x := Option.some.inj h2
    exact (at54 T G).mono (by omega)
  | 55, x, h2 => by
    obtain rfl : ("_law_drawn" : Str) = x := Option.some.inj h2
    exact (at55 T G).mono (by omega)
  | 56, x, h2 => by
    obtain rfl : ("_law_marks" : Str) = x := Option.some.inj h2
    exact (at56 T G).mono (by omega)
  | 57, x, h2 => by
    obtain rfl : ("_law_summed" : Str) = x := Option.some.inj h2
    exact (at57 T G).mono (by omega)
  | 58, x, h2 => by
    obtain rfl : ("_law_own_changes" : Str) = x := Option.some.inj h2
    exact (at58 T G).mono (by omega)
  | 59, x, h2 => by
    obtain rfl : ("_law_read_so" : Str) = x := Option.some.inj h2
    exact (at59 T G).mono (by omega)
  | 60, x, h2 => by
    obtain rfl : ("_law_bent" : Str) = x := Option.some.inj h2
    exact (at60 T G).mono (by omega)
  | 61, x, h2 => by
    obtain rfl : ("_law_changes_right" : Str) = x := Option.some.inj h2
    exact (at61 T G).mono (by omega)
  | 62, x, h2 => by
    obtain rfl : ("law" : Str) = x := Option.some.inj h2
    exact at62_bad T fun _ _ => rfl
  | i + 63, x, h2 => by cases h2
theorem gs (T : Told K mg) (hm : MixOk callM) : ∀ n, Gs px prog w K mg base (Pyv.run pg n) glD (n + 5)
  | 0 => gs_bad T fun _ _ _ => rfl
  | n + 1 => ⟨gs_fns T hm (gs T hm n), T.gls, T.blt⟩
end
end K
end
/-! ## Kmix -/
section
set_option maxRecDepth 100000
set_option maxHeartbeats 4000000
namespace K
open PySem PySem.Spec PyProof.Rows L2 Pyv
/-- _law_mixed, evaluated -/
theorem mixOk : MixOk callM := by
  intro c n s h1 h2
  have e1 : (2305843009213693952 : Int) = 2 ^ 61 := by decide
  rw [← e1] at h2
  have m0 : mulOk 2 n = true := by apply Pyv.mulOk_of; left; decide
  have m1 : mulOk c (1 + 2 * n) = true := by apply Pyv.mulOk_of; right; omega
  have m2 : mulOk (c * (1 + 2 * n)) 48271 = true := by apply Pyv.mulOk_of; right; decide
  have m3 : mulOk 7919 n = true := by apply Pyv.mulOk_of; left; decide
  have m4 : mulOk (7919 * n) n = true := by apply Pyv.mulOk_of; right; omega
  have m5 : mulOk 104729 n = true := by apply Pyv.mulOk_of; left; decide
  have m6 : ∀ x, mulOk x 69621 = true := fun x => by apply Pyv.mulOk_of; right; decide
  have e : callM 34 [.val (.int c), .val (.int n)] s = runFd (Pyv.run pg 0) glD ir34 [.val (.int c), .val (.int n)] s := rfl
  rw [e]
  unfold runFd ir34 mixed
  simp [evSs, evS, evE, evEs, evVar, Rs.bind, Rs.out, op2, op1, ofO, bin2, W.data, W.dat, W.read, W.share, bltV, datas, m0, m1, m2, m3, m4, m5, m6, asgW, setR, Out.then, asgTg]
end K
end
/-! ## Kend -/
section
set_option maxRecDepth 100000
set_option maxHeartbeats 4000000
namespace K
open PySem PySem.Spec PyProof.Rows L2 Pyv
section
variable {prog : Program} {w : World} {K : PySem.W.Frag} {mg : Str → Option Value} {base h : Heap} {j n k : Nat} {f : Addr} {fd : FuncData}
def isGlo (x : Str) : He.Fa → Bool
  | .glo y => decide (x = y)
  | _ => false
def isFree (x : Str) : He.Fa → Bool
  | .free y => decide (x = y)
  | _ => false
theorem mem_glo : (fnNames.all fun x => fa.any (isGlo x)) = true := by decide +kernel
theorem mem_free : (bltNames.all fun x => fa.any (isFree x)) = true := by decide +kernel
theorem told_of (X : K.In h) (G : h.Ns mainGlobals mg) (c : He.SaysD fa fnD K) (ce : exB K = true) : Told K mg where
  fn := fun d hd => c.defs hd
  glo := fun x hx => by
    obtain ⟨y, hy, e⟩ := List.any_eq_true.mp (List.all_eq_true.mp mem_glo x hx)
    cases y with
    | glo z =>
      obtain rfl : x = z := of_decide_eq_true e
      exact He.glo_ok X G (c.facts hy)
    | _ => cases e
  blt := fun x hx => by
    obtain ⟨y, hy, e⟩ := List.any_eq_true.mp (List.all_eq_true.mp mem_free x hx)
    cases y with
    | free z =>
      obtain rfl : x = z := of_decide_eq_true e
      exact He.free_ok X G (c.facts hy)
    | _ => cases e
  gls := by
    have hi : ∀ (x : Str) (i : Int), He.Fa.int x i ∈ fa → ∃ (u : Value) (v : V), mg x = some u ∧ RelV v u ∧ ∀ A H, Rep K A H v (.int i) := fun x i hm => by
      obtain ⟨t, e⟩ := He.int_ok X G (c.facts hm)
      exact ⟨_, .int i, e, ⟨t, rfl⟩, fun _ _ => .int⟩
    have hs : ∀ (x z : Str), He.Fa.str x z ∈ fa → ∃ (u : Value) (v : V), mg x = some u ∧ RelV v u ∧ ∀ A H, Rep K A H v (.str z) := fun x z hm => by
      obtain ⟨t, e⟩ := He.str_ok X G (c.facts hm)
      exact ⟨_, .str z, e, ⟨t, rfl⟩, fun _ _ => .str⟩
    have mk : ∀ {x : Str} {d : PyData} {i : Nat}, glD[i]? = some d → (∃ (u : Value) (v : V), mg x = some u ∧ RelV v u ∧ ∀ A H, Rep K A H v d) → ∃ (d : PyData) (u : Value) (v : V), glD[i]? = some d ∧ mg x = some u ∧ RelV v u ∧ ∀ A H, Rep K A H v d := fun e ⟨u, v, q⟩ => ⟨_, u, v, e, q⟩
    rintro i x e
    match i, e with
    | 0, e => cases e; exact mk rfl (hi _ _ (by unfold fa fa3; simp))
    | 1, e => cases e; exact mk rfl (hi _ _ (by unfold fa fa3; simp))
    | 2, e => cases e; exact mk rfl (hi _ _ (by unfold fa fa3; simp))
    | 3, e => cases e; exact mk rfl (hi _ _ (by unfold fa fa3; simp))
    | 4, e => cases e; exact mk rfl (hs _ _ (by unfold fa fa3; simp))
    | 5, e => cases e; exact mk rfl (hs _ _ (by unfold fa fa3; simp))
    | 6, e => cases e; exact mk rfl (hs _ _ (by unfold fa fa3; simp))
    | 7, e =>
      cases e
      refine mk rfl ⟨.ref (He.ga K "MARKS"), .ref (He.ga K "MARKS"), He.glo_ok X G (c.facts (by unfold fa fa3; simp)), rfl, fun A H => ?_⟩
      rcases He.tupB_ok (show He.tupB K "MARKS" [.str "true", .str "less", .str "more"] = true from ce) (fun _ => none) with q | ⟨o, its, n, q1, q2, q3, q4, q5⟩
      · rcases q with q | ⟨_, q, _⟩ <;> cases q
      · exact .tupK q1 q2 q3 q4 q5 (.cons .str (.cons .str (.cons .str .nil)))
    | i + 8, e => cases e
/-- what is left: the plain law -/
def PlainLaw (N : Nat) : Prop := ∀ s : DS, cellsOk s = true → s.spot = 0 → s.great.length ≤ 1000 → ∃ c, evSs (Pyv.run pg N) glD irLaw ⟨[none, some .stm] ++ List.replicate 10 none, s⟩ = .ret (.val (.bool true)) c
def spLaw (K : PySem.W.Frag) : Sp := fun vs H Q _ => ∃ (a : Addr) (ns : List Int), vs = [.ref a] ∧ SqL K H a (ns.map V.int) ∧ ns.length ≤ 63 ∧ ∀ H', Q (.bl true) H'
abbrev S62 : Sx := ⟨nm62, defScope (top 83), fun _ => true⟩
theorem ok_law {ff : Addr} {ffd : FuncData} (F : FunD K "law" "law" (defArgs (top 83)) (defBody (top 83)) (defScope (top 83)) [] [] f fd) (G : Gs px prog w K mg base (Pyv.run pg n) glD k)
    (FF : FnOk prog w K mg base (L2.CX prog w) k ff ffd ["script"] (spBegun K)) (hmg : mg "_law_begun" = some (.ref ff)) (hkp : PySem.W.keepIn K (.ref ff) = true) (hb : Binds K ffd ["script"] []) (PL : PlainLaw n) :
    FnOk prog w K mg base (L2.CX prog w) (k + 1) f fd ["script"] (spLaw K) := by
  refine F.ok sc62 (fun vs H Q E h => ?_) (fun cdv A outer s H vs Q E hr h => ⟨tSeq (tAsg (tCall (spBegun K) [] E0 (tCons (tVar 0) tNil)) (gName 1)) (tSs K (Pyv.run pg n) glD irLaw), ?_, ?_⟩)
  · obtain ⟨a, ns, rfl, _⟩ := h
    rfl
  · have T := tw_of (w := w) (f := f) (cdv := cdv) (outer := outer) (s := s) (H := H) (E := E) (qual := "law") G sc62 hr
    have v : ∀ (i : Nat) (x : Str) (pos : Pos), slotV S62 x = some i → PE (cxOf (L2.CX prog w) prog w K mg base nm62 "law" (defScope (top 83)) f cdv A outer s H E) (.Name x pos) (tVar i) := fun i x pos h => by
      obtain ⟨q1, q2, q3⟩ := slotV_ok T.toTw h
      exact pe_var q1 q2 (nameOk_1 q3) (nameOk_2 q3)
    have gf := T.toTw.glob (S := S62) (x := "_law_begun") (by decide +kernel)
    obtain ⟨q1, q2, q3⟩ := slotL_ok T.toTw (x := "m") (i := 1) (by decide +kernel)
    exact pss_cons (ps_set T.nd q1 q2 (pe_call FF T.room gf.1 hmg hkp hb .nil passL (pa_cons (v 0 "script" _ (by decide +kernel)) pa_nil rfl) (nameOk_1 gf.2) rfl rfl) rfl q3) (sndSs T 60 _ _ cLaw)
  · obtain ⟨a, ns, rfl, hS, hl, q⟩ := h
    refine ⟨_, rfl, a, ns, rfl, hS, by omega, fun H' ms s0 st hc h0 hg => ?_⟩
    obtain ⟨c', e⟩ := PL s0 hc h0 hg
    have no : ∀ {σ : L2.St} {p : Addr}, ¬ OwnA σ ([none, some .stm] ++ List.replicate 10 none) p := by
      rintro σ p ⟨i, ds, z, _⟩
      match i, z with
      | 0, z => cases z
      | 1, z => cases z
      | i + 2, z =>
        rw [List.getElem?_append_right (by simp)] at z
        rw [List.getElem?_replicate] at z
        split at z <;> cases z
    refine ⟨ms, fun _ => False, H', ⟨[none, some .stm] ++ List.replicate 10 none, s0⟩, ⟨rfl, fun i w z => ?_, fun i j ds es p z => ?_, fun p z => (no z).elim, fun p z => z.elim, fun a o z _ => z, st⟩, ?_⟩
    · match i, z with
      | 0, z => cases z
      | 1, z => cases z; exact ⟨_, rfl, rfl⟩
      | i + 2, z =>
        rw [List.getElem?_append_right (by simp)] at z
        rw [List.getElem?_replicate] at z
        split at z <;> cases z
    · match i, z with
      | 0, z => cases z
      | 1, z => cases z
      | i + 2, z =>
        rw [List.getElem?_append_right (by simp)] at z
        rw [List.getElem?_replicate] at z
        split at z <;> cases z
    · rw [e]
      rintro σ H v ⟨_, y⟩
      cases y
      exact q H
end
end K
end
/-! ## Kfin -/
section
set_option maxRecDepth 100000
set_option maxHeartbeats 0
namespace K
open PySem PySem.Spec PyProof.Rows L2 Pyv
/-- walk_of with the written part and the calls' context by world -/
theorem walk_x {l : PySem.W.OpenLaw} {n k : Nat} {q : Program} {loose : List Str} {XP : (Str → Option Value) → Heap → Prop} {YP : World → Heap → Prop} {d : DefRec} {CX : World → CXT} {x : Str}
    (hn : l.most = some n) (hn2 : n ≤ sizeLine) (hdf : d.params.defaults = []) (hr : Room k callerA)
    (F : ∀ (w : World) (mg : Str → Option Value) (fa : Addr) (h : Heap), YP w h → h.Ns mainGlobals mg → mg d.name = some (.ref fa) →
      ∃ (K : PySem.W.Frag) (fd : FuncData) (sp : Sp), K.In h ∧ (∀ (s : Shared) (u : Value), BindsTo s fd ⟨[u], []⟩ [(x, u)]) ∧
        (∀ (H : Hp) (a : Addr) (ns : List Int), ns.length ≤ n → Only H → SqL K H a (ns.map V.int) → sp [.ref a] H (fun v _ => v = .bl true) fun _ _ _ => False) ∧
        ∀ base : Heap, K.In base → base.Ns mainGlobals mg → FnOk l.prog w K mg base (CX w) k fa fd [x] sp)
    (hCX : ∀ (w : World) (H : Hp) (s : Shared) (e : Value) (s' : Shared), CX w [] H s (fun _ _ _ => False) e s' → False) :
    PySem.W.WalkO q loose XP YP l.row.toRowW d [] (fun f vs => PySem.call f vs) := by
  refine Att.attach_call hn hdf fun w s₀ s₁ mg mb fa o pm cd doc a vs ns G Y ho hd hcd hmg hobj hints hlen hg => ?_
  obtain ⟨K, fd, sp, KX, hb, hsp, hF⟩ := F w mg fa _ Y G.T.g hmg
  exact law_call KX G.T.g G.T.b G.T.builtins G.T.nolimit hg hobj hints (Nat.le_trans hlen hn2) hr hF hb (fun H hO hS => hsp H a ns hlen hO hS) fun H e s' => hCX w H s₁ e s'
theorem room_le {k : Nat} (h : k ≤ 106) : Room k callerA := by
  have r : Room 106 callerA := ⟨rfl, by decide, by decide⟩
  obtain ⟨r1, r2, r3⟩ := r
  exact ⟨r1, by omega, by omega⟩
theorem facts {w : World} {K : PySem.W.Frag} {h : Heap} {mg : Str → Option Value} {f : Addr} {N : Nat} (hN2 : 2 ≤ N) (PL : PlainLaw N) (X : K.In h) (G : h.Ns mainGlobals mg) (hfa : mg ("law" : Str) = some (.ref f)) (c : He.SaysX fa fnD [] [] exB w h K) :
    ∃ fd : FuncData, (∀ (s : Shared) (v : Value), BindsTo s fd ⟨[v], []⟩ [("script", v)]) ∧ ∀ base : Heap, K.In base → base.Ns mainGlobals mg → FnOk R.prog w K mg base (L2.CX R.prog w) (N + 6) f fd ["script"] (spLaw K) := by
  have T : Told K mg := told_of X G c.t.d c.more
  obtain ⟨fd, F, hm, hb⟩ := told62 T
  obtain ⟨fb, FB, hmb, hbb⟩ := told37 T
  obtain ⟨ff, FF, hmf, hbf⟩ := told35 T
  have e := hfa.symm.trans hm
  cases e
  have b := FunD.bindsA (ps := ["script"]) F fun _ _ _ _ _ _ us hl => match us, hl with | [_], _ => rfl
  refine ⟨fd, fun s v => b s [v] rfl, fun base _ _ => ?_⟩
  have g := gs (prog := R.prog) (w := w) (base := base) T mixOk
  have oF := ok_fold FF (g 0)
  have oB := ok_begun FB ((g 1)) oF hmf FF.kp hbf
  exact ok_law F (g N) (oB.mono (by omega)) hmb FB.kp hbb PL
end K
open PySem PySem.W PySem.Calls PyProof.Rows
theorem fin_of {N : Nat} (hN2 : 2 ≤ N) (hN : N ≤ 100) (PL : K.PlainLaw N) : PySem.Challenge.rw_onebill_k21_whole_hidden_as_changes.Holds := by
  w_on; o_law
  refine HandSHeadRun.head_any (r := OpenLaw.row PySem.Challenge.rw_onebill_k21_whole_hidden_as_changes) (q := view (OpenLaw.row PySem.Challenge.rw_onebill_k21_whole_hidden_as_changes).prog [83]) (H := K.hk) (ob := K.ob) (M := 4000) (loose := K.lo) (d := HandSHeadRun.topDef (OpenLaw.row PySem.Challenge.rw_onebill_k21_whole_hidden_as_changes).prog 83) (kwd := []) K.ob_eq
    (by kernel_rfl) (fun s => by kernel_rfl) K.run (by kernel_rfl) (by kernel_rfl) (by kernel_rfl) (by rfl) (by first | assumption | decide +kernel) (by decide +kernel) ⟨rfl, rfl, rfl, rfl, rfl, by decide +kernel⟩ ?hw ?hc
  case hw => w_witness2
  case hc =>
    refine K.walk_x (l := PySem.Challenge.rw_onebill_k21_whole_hidden_as_changes) (n := 63) (k := N + 6) (x := "script") (CX := fun w => L2.CX K.R.prog w) rfl (by decide) (by kernel_rfl) (K.room_le (by omega)) ?F ?X
    case X =>
      rintro w H s e s' ⟨_, _, _, _, _, _, _, _, _, _, _, _, z⟩
      exact z
    case F =>
      intro w mg fa h Y G hmg0
      obtain ⟨K0, KX, c⟩ := Y
      have hmg : mg ("law" : PySem.Str) = some (.ref fa) := by
        have e : (HandSHeadRun.topDef (OpenLaw.row PySem.Challenge.rw_onebill_k21_whole_hidden_as_changes).prog 83).name = ("law" : PySem.Str) := by kernel_rfl
        rw [← e]
        exact hmg0
      obtain ⟨fd, hb, hF⟩ := K.facts (w := w) hN2 PL KX G hmg c
      exact ⟨K0, fd, K.spLaw K0, KX, hb, fun H a ns hl _ hS => ⟨a, ns, rfl, hS, hl, fun _ => rfl⟩, hF⟩
end
/-! ## P1 -/
section
set_option maxRecDepth 100000
set_option maxHeartbeats 4000000
namespace K
open PySem PySem.Spec PyProof.Rows L2 Pyv
/-! ### the evaluator's rows, for simp -/
section
variable {call : Nat → List W → DS → RF} {gl : List PyData} {c : Cfg} {rd : Bool}
def svR {α : Type} (r : Rs α) : Option (α × DS) := match r with
  | .ok a c => some (a, c.s)
  | _ => none
noncomputable def lcB (call : Nat → List W → DS → RF) (gl : List PyData) (elt : E) (tg : Tg) (t : Ot) : PyData → Cfg → Rs (Option PyData) := fun d c => (ofO (asgTg tg d c) c).bind fun c1 _ => (evOt call gl t c1).bind fun r c2 =>
  if r = true then (evE call gl elt false c2).bind fun w c3 => (ofO w.dat c3).bind fun d c4 => .ok (some d) c4 else .ok none c2
@[simp] theorem e_var {i : Nat} : evE call gl (.var i) rd c = evVar rd i c := rfl
@[simp] theorem e_lit {d : PyData} : evE call gl (.lit d) rd c = .ok (.val d) c := rfl
@[simp] theorem e_glb {k : Nat} : evE call gl (.glb k) rd c = (ofO gl[k]? c).bind fun d c => .ok (.val d) c := rfl
@[simp] theorem e_bin {op : Operator} {a b : E} : evE call gl (.bin op a b) rd c = (evE call gl a true c).bind fun x c => (evE call gl b true c).bind fun y c => op2 (bin2 op) x y c := rfl
@[simp] theorem e_neg {a : E} : evE call gl (.neg a) rd c = (evE call gl a true c).bind fun x c => (op1 asInt x c).bind fun i c => .ok (.val (.int (-i))) c := rfl
@[simp] theorem e_cmp {op : CmpOp} {a b : E} : evE call gl (.cmp op a b) rd c = (evE call gl a true c).bind fun x c => (evE call gl b true c).bind fun y c => (op2 (cmp2 op) x y c).bind fun r c => .ok (bval r) c := rfl
@[simp] theorem e_chain {op op' : CmpOp} {a b d : E} : evE call gl (.chain op op' a b d) rd c = (evE call gl a true c).bind fun x c => (evE call gl b true c).bind fun y c => (op2 (cmp2 op) x y c).bind fun r c =>
      if r = true then (evE call gl d true c).bind fun z c => (op2 (cmp2 op') y z c).bind fun r c => .ok (bval r) c else .ok (bval false) c := rfl
@[simp] theorem e_and {a b : E} : evE call gl (.and a b) rd c = (evE call gl a true c).bind fun x c => (op1 asBool x c).bind fun r c => if r = true then evE call gl b false c else .ok (bval false) c := rfl
@[simp] theorem e_or {a b : E} : evE call gl (.or a b) rd c = (evE call gl a true c).bind fun x c => (op1 asBool x c).bind fun r c => if r = true then .ok (bval true) c else evE call gl b false c := rfl
@[simp] theorem e_not {a : E} : evE call gl (.not a) rd c = (evE call gl a true c).bind fun x c => (op1 asBool x c).bind fun r c => .ok (bval (!r)) c := rfl
@[simp] theorem e_ite {t : Pyv.T} {a b : E} : evE call gl (.ite t a b) rd c = (evT call gl t c).bind fun r c => if r = true then evE call gl a rd c else evE call gl b rd c := rfl
@[simp] theorem e_tup {es : Es} : evE call gl (.tup es) rd c = (evEs call gl es false c).bind fun ws c => ofO (mkTup ws) c := rfl
@[simp] theorem e_lst {es : Es} : evE call gl (.lst es) rd c = (evEs call gl es false c).bind fun ws c => ofO (mkLst ws) c := rfl
@[simp] theorem e_ix {a b : E} : evE call gl (.ix a b) rd c = (evE call gl a true c).bind fun x c => (evE call gl b true c).bind fun y c => op2 ix2 x y c := rfl
@[simp] theorem e_sl {a : E} {lo hi : Oe} : evE call gl (.sl a lo hi) rd c = (evE call gl a true c).bind fun x c => (evO call gl lo c).bind fun l c => (evO call gl hi c).bind fun h c => op1 (fun d => sl3 d l h) x c := rfl
@[simp] theorem e_call {f : Nat} {es : Es} : evE call gl (.call f es) rd c = (evEs call gl es false c).bind fun ws c => doCall call f ws c := rfl
@[simp] theorem e_callK {f : Nat} {es : Es} {perm : List Nat} : evE call gl (.callK f es perm) rd c = (evEs call gl es false c).bind fun ws c => (ofO (if ws.length = perm.length then permL perm ws else none) c).bind fun us c => doCall call f us c := rfl
@[simp] theorem e_blt {b : Blt} {es : Es} : evE call gl (.blt b es) rd c = (evEs call gl es true c).bind fun ws c => (ofO (datas ws) c).bind fun ds c => ofO (bltV b ds) c := rfl
@[simp] theorem e_lsrc {src : Src} : evE call gl (.lsrc src) rd c = (evSrc call gl src true c).bind fun items c => if items.length ≤ 10000000 then .ok (.own items) c else .bad := rfl
@[simp] theorem e_lc {elt : E} {tg : Tg} {src : Src} {t : Ot} {own : List Nat} : evE call gl (.lc elt tg src t own) rd c = (evSrc call gl src true c).bind fun items c0 => leaveC c0 (lcLoop (lcB call gl elt tg t) items [] (enterC c0 own)) := rfl
@[simp] theorem b_ok {α β : Type} {a : α} {f : α → Cfg → Rs β} : (Rs.ok a c).bind f = f a c := rfl
@[simp] theorem o_ok {α : Type} {a : α} {f : α → Cfg → Out} : (Rs.ok a c).out f = f a c := rfl
@[simp] theorem ofO_some {α : Type} {a : α} : ofO (some a) c = .ok a c := rfl
@[simp] theorem b_bad {α β : Type} {f : α → Cfg → Rs β} : (Rs.bad : Rs α).bind f = .bad := rfl
@[simp] theorem t_val {e : E} : evT call gl (.val e) c = (evE call gl e true c).bind fun x c => op1 truth x c := rfl
@[simp] theorem t_and {a b : Pyv.T} : evT call gl (.and a b) c = (evT call gl a c).bind fun r c => if r = true then evT call gl b c else .ok false c := rfl
@[simp] theorem t_or {a b : Pyv.T} : evT call gl (.or a b) c = (evT call gl a c).bind fun r c => if r = true then .ok true c else evT call gl b c := rfl
@[simp] theorem t_not {a : Pyv.T} : evT call gl (.not a) c = (evT call gl a c).bind fun r c => .ok (!r) c := rfl
@[simp] theorem ot_no : evOt call gl .no c = .ok true c := rfl
@[simp] theorem ot_yes {t : Pyv.T} : evOt call gl (.yes t) c = evT call gl t c := rfl
@[simp] theorem es_nil : evEs call gl .nil rd c = .ok [] c := rfl
@[simp] theorem es_cons {e : E} {r : Es} : evEs call gl (.cons e r) rd c = (evE call gl e rd c).bind fun w c => (evEs call gl r rd c).bind fun ws c => .ok ((if rd = true then w.read else w.share) :: ws) c := rfl
@[simp] theorem oe_no : evO call gl .no c = .ok none c := rfl
@[simp] theorem oe_yes {e : E} : evO call gl (.yes e) c = (evE call gl e true c).bind fun x c => (op1 asInt x c).bind fun i c => .ok (some i) c := rfl
@[simp] theorem src_seq {e : E} : evSrc call gl (.seq e) rd c = (evE call gl e rd c).bind fun x c => ofO ((x.get rd).bind seqOf) c := rfl
@[simp] theorem src_rng {a : E} : evSrc call gl (.rng1 a) rd c = (evE call gl a true c).bind fun x c => (op1 asInt x c).bind fun n c => if fitsI n = true then .ok (rangeL 0 n) c else .bad := rfl
@[simp] theorem src_rng2 {a b : E} : evSrc call gl (.rng2 a b) rd c = (evE call gl a true c).bind fun x c => (evE call gl b true c).bind fun y c => (op1 asInt x c).bind fun i c => (op1 asInt y c).bind fun j c => if fitsI i = true ∧ fitsI j = true then .ok (rangeL i j) c else .bad := rfl
@[simp] theorem src_zip {a b : E} : evSrc call gl (.zip a b) rd c = (evE call gl a rd c).bind fun x c => (evE call gl b rd c).bind fun y c => ofO ((x.get rd).bind fun d => (y.get rd).bind fun e => zipD d e) c := rfl
@[simp] theorem src_enum {a : E} : evSrc call gl (.enum a) rd c = (evE call gl a rd c).bind fun x c => (ofO ((x.get rd).bind seqOf) c).bind fun ds c => .ok (enumL ds) c := rfl
@[simp] theorem ps_nil : evPs call gl .nil c = .ok [] c := rfl
@[simp] theorem ps_cons {e : E} {r : Es} : evPs call gl (.cons e r) c = (evE call gl e false c).bind fun w c => (evPs call gl r c).bind fun ws c => .ok (w :: ws) c := rfl
@[simp] theorem ss_nil : evSs call gl .nil c = .next c := rfl
@[simp] theorem ss_cons {a : Pyv.S} {r : Ss} : evSs call gl (.cons a r) c = (evS call gl a c).then fun c => evSs call gl r c := rfl
@[simp] theorem th_next {f : Cfg → Out} : (Out.next c).then f = f c := rfl
@[simp] theorem th_ret {f : Cfg → Out} {w : W} : (Out.ret w c).then f = .ret w c := rfl
@[simp] theorem th_cont {f : Cfg → Out} : (Out.cont c).then f = .cont c := rfl
@[simp] theorem th_brk {f : Cfg → Out} : (Out.brk c).then f = .brk c := rfl
@[simp] theorem s_asg {tg : Tg} {e : E} : evS call gl (.asg tg e) c = (evE call gl e false c).out fun w c => match asgW tg w c with | some c => .next c | none => .bad := rfl
@[simp] theorem s_par {is : List Nat} {es : Es} : evS call gl (.par is es) c = (evPs call gl es c).out fun ws c => match asgs is ws c with | some c => .next c | none => .bad := rfl
@[simp] theorem s_app {i : Nat} {e : E} : evS call gl (.app i e) c = match ownAt c i with
    | some _ => (evE call gl e false c).out fun w c => (match w.dat, ownAt c i with
      | some d, some ds => if ds.length < sizeLine ∧ c.ρ.all notBor = true then .next (setR c i (.own (ds ++ [d]))) else .bad
      | _, _ => .bad)
    | none => .bad := rfl
@[simp] theorem s_ext {i : Nat} {e : E} : evS call gl (.ext i e) c = match ownAt c i with
    | some _ => (evE call gl e true c).out fun w c => (match w.data, ownAt c i with
      | some (.list es), some ds => if ds.length + es.length ≤ sizeLine ∧ c.ρ.all notBor = true then .next (setR c i (.own (ds ++ es))) else .bad
      | _, _ => .bad)
    | none => .bad := rfl
@[simp] theorem s_setIx {i : Nat} {a e : E} : evS call gl (.setIx i a e) c = (evE call gl e false c).out fun w c => match w.dat, ownAt c i with
    | some d, some _ => (evE call gl a true c).out fun x c => (match x.data, ownAt c i with
      | some (.int k), some ds => (match ixN ds.length k with
        | some j => if c.ρ.all notBor = true then .next (setR c i (.own (ds.set j d))) else .bad
        | none => .bad)
      | _, _ => .bad)
    | _, _ => .bad := rfl
@[simp] theorem s_expr {e : E} : evS call gl (.expr e) c = (evE call gl e false c).out fun _ c => .next c := rfl
@[simp] theorem s_if {t : Pyv.T} {a b : Ss} : evS call gl (.ifS t a b) c = (evT call gl t c).out fun r c => if r = true then evSs call gl a c else evSs call gl b c := rfl
@[simp] theorem s_for {tg : Tg} {src : Src} {b : Ss} : evS call gl (.forS tg src b) c = (evSrc call gl src false c).out fun items c => forLoop tg (evSs call gl b) items c := rfl
@[simp] theorem s_ret {e : E} : evS call gl (.ret e) c = (evE call gl e false c).out fun w c => .ret w c := rfl
@[simp] theorem s_retV {i : Nat} : evS call gl (.retV i) c = (match ownAt c i with
    | some ds => .ret (.own ds) { c with ρ := c.ρ.set i none }
    | none => (evVar false i c).out fun w c => .ret w c) := rfl
@[simp] theorem s_retN : evS call gl .retN c = .ret (.val .none) c := rfl
@[simp] theorem s_pass : evS call gl .pass c = .next c := rfl
@[simp] theorem dat_val {d : PyData} : (W.val d).data = some d := rfl
@[simp] theorem dat_own {d : List PyData} : (W.own d).data = some (.list d) := rfl
@[simp] theorem dat_bor {d : List PyData} : (W.bor d).data = some (.list d) := rfl
@[simp] theorem dt_val {d : PyData} : (W.val d).dat = some d := rfl
@[simp] theorem dt_own {d : List PyData} : (W.own d).dat = some (.list d) := rfl
@[simp] theorem get_t {w : W} : w.get true = w.data := rfl
@[simp] theorem get_f {w : W} : w.get false = w.dat := rfl
@[simp] theorem rdw_val {d : PyData} : (W.val d).read = .val d := rfl
@[simp] theorem rdw_own {d : List PyData} : (W.own d).read = .bor d := rfl
@[simp] theorem rdw_bor {d : List PyData} : (W.bor d).read = .bor d := rfl
@[simp] theorem rdw_stm : (W.stm).read = .stm := rfl
@[simp] theorem sh_val {d : PyData} : (W.val d).share = .val d := rfl
@[simp] theorem sh_own {d : List PyData} : (W.own d).share = .val (.list d) := rfl
@[simp] theorem sh_stm : (W.stm).share = .stm := rfl
@[simp] theorem sq_list {d : List PyData} : seqOf (.list d) = some d := rfl
@[simp] theorem sq_tup {d : List PyData} : seqOf (.tuple d) = some d := rfl
@[simp] theorem zd_list {a b : List PyData} : zipD (.list a) (.list b) = some (zipL a b) := rfl
@[simp] theorem zd_tup {a b : List PyData} : zipD (.tuple a) (.tuple b) = some (zipL a b) := rfl
@[simp] theorem ai_int {i : Int} : asInt (.int i) = some i := rfl
@[simp] theorem ab_bool {i : Bool} : asBool (.bool i) = some i := rfl
@[simp] theorem tr_bool {i : Bool} : truth (.bool i) = some i := rfl
@[simp] theorem tr_int {i : Int} : truth (.int i) = some (i != 0) := rfl
@[simp] theorem tr_list {i : List PyData} : truth (.list i) = some (!i.isEmpty) := rfl
@[simp] theorem op1_val {α : Type} {f : PyData → Option α} {d : PyData} : op1 f (.val d) c = ofO (f d) c := rfl
@[simp] theorem op1_own {α : Type} {f : PyData → Option α} {d : List PyData} : op1 f (.own d) c = ofO (f (.list d)) c := rfl
@[simp] theorem op1_bor {α : Type} {f : PyData → Option α} {d : List PyData} : op1 f (.bor d) c = ofO (f (.list d)) c := rfl
@[simp] theorem op2_vv {α : Type} {f : PyData → PyData → Option α} {d e : PyData} : op2 f (.val d) (.val e) c = ofO (f d e) c := rfl
@[simp] theorem op2_bv {α : Type} {f : PyData → PyData → Option α} {d : List PyData} {e : PyData} : op2 f (.bor d) (.val e) c = ofO (f (.list d) e) c := rfl
@[simp] theorem op2_vb {α : Type} {f : PyData → PyData → Option α} {d : PyData} {e : List PyData} : op2 f (.val d) (.bor e) c = ofO (f d (.list e)) c := rfl
@[simp] theorem op2_bb {α : Type} {f : PyData → PyData → Option α} {d e : List PyData} : op2 f (.bor d) (.bor e) c = ofO (f (.list d) (.list e)) c := rfl
@[simp] theorem op2_oo {α : Type} {f : PyData → PyData → Option α} {d e : List PyData} : op2 f (.own d) (.own e) c = ofO (f (.list d) (.list e)) c := rfl
@[simp] theorem op2_ov {α : Type} {f : PyData → PyData → Option α} {d : List PyData} {e : PyData} : op2 f (.own d) (.val e) c = ofO (f (.list d) e) c := rfl
@[simp] theorem op2_bo {α : Type} {f : PyData → PyData → Option α} {d e : List PyData} : op2 f (.bor d) (.own e) c = ofO (f (.list d) (.list e)) c := rfl
@[simp] theorem ds_nil : datas [] = some [] := rfl
@[simp] theorem ds_val {d : PyData} {ws : List W} : datas (.val d :: ws) = (datas ws).map (d :: ·) := by
  show (match some d, datas ws with | some d, some ds => some (d :: ds) | _, _ => none) = _
  cases datas ws <;> rfl
@[simp] theorem ds_bor {d : List PyData} {ws : List W} : datas (.bor d :: ws) = (datas ws).map (.list d :: ·) := by
  show (match some (PyData.list d), datas ws with | some d, some ds => some (d :: ds) | _, _ => none) = _
  cases datas ws <;> rfl
@[simp] theorem da_nil : dats [] = some [] := rfl
@[simp] theorem da_val {d : PyData} {ws : List W} : dats (.val d :: ws) = (dats ws).map (d :: ·) := by
  show (match some d, dats ws with | some d, some ds => some (d :: ds) | _, _ => none) = _
  cases dats ws <;> rfl
@[simp] theorem mk_t {ws : List W} {ds : List PyData} (h : dats ws = some ds) (hl : ds.length ≤ 1000) : mkTup ws = some (.val (.tuple ds)) := by
  unfold mkTup
  rw [h]
  exact if_pos (by rw [sizeLine_eq]; omega)
@[simp] theorem mk_l {ws : List W} {ds : List PyData} (h : dats ws = some ds) (hl : ds.length ≤ 1000) : mkLst ws = some (.own ds) := by
  unfold mkLst
  rw [h]
  exact if_pos (by rw [sizeLine_eq]; omega)
@[simp] theorem pl_val {d : PyData} : isPlain (.val d) = true := rfl
@[simp] theorem pl_stm : isPlain .stm = true := rfl
@[simp] theorem x_list {ds : List PyData} {i : Int} : ix2 (.list ds) (.int i) = (atI ds i).map .val := rfl
@[simp] theorem x_tup {ds : List PyData} {i : Int} : ix2 (.tuple ds) (.int i) = (atI ds i).map .val := rfl
@[simp] theorem n_add {i j : Int} : bin2 .Add (.int i) (.int j) = some (.val (.int (i + j))) := rfl
@[simp] theorem n_sub {i j : Int} : bin2 .Sub (.int i) (.int j) = some (.val (.int (i - j))) := rfl
@[simp] theorem n_mul {i j : Int} : bin2 .Mult (.int i) (.int j) = if mulOk i j = true then some (.val (.int (i * j))) else none := rfl
@[simp] theorem n_mod {i j : Int} : bin2 .Mod (.int i) (.int j) = if 0 < j then some (.val (.int (i % j))) else none := rfl
@[simp] theorem n_fd {i j : Int} : bin2 .FloorDiv (.int i) (.int j) = if 0 < j ∧ j < 1073741824 then some (.val (.int (i / j))) else none := rfl
@[simp] theorem n_app {i j : List PyData} : bin2 .Add (.tuple i) (.tuple j) = if i.length + j.length ≤ sizeLine then some (.val (.tuple (i ++ j))) else none := rfl
@[simp] theorem n_lapp {i j : List PyData} : bin2 .Add (.list i) (.list j) = if i.length + j.length ≤ sizeLine then some (.own (i ++ j)) else none := rfl
@[simp] theorem q_lt {i j : Int} : cmp2 .Lt (.int i) (.int j) = some (decide (i < j)) := rfl
@[simp] theorem q_le {i j : Int} : cmp2 .LtE (.int i) (.int j) = some (decide (i ≤ j)) := rfl
@[simp] theorem q_gt {i j : Int} : cmp2 .Gt (.int i) (.int j) = some (decide (j < i)) := rfl
@[simp] theorem q_ge {i j : Int} : cmp2 .GtE (.int i) (.int j) = some (decide (j ≤ i)) := rfl
theorem lc_step {F : PyData → Cfg → Rs (Option PyData)} {d : PyData} {ds acc : List PyData} {x : PyData} {s1 : DS} (h : svR (F d c) = some (some x, s1)) (hl : acc.length < sizeLine) : lcLoop F (d :: ds) acc c = lcLoop F ds (acc ++ [x]) { c with s := s1 } := by
  conv => lhs; unfold lcLoop
  cases e : F d c with
  | ok a c1 =>
    rw [e] at h
    cases h
    simp only [if_pos hl]
  | exc k ds c1 => rw [e] at h; cases h
  | bad => rw [e] at h; cases h
theorem lc_skip {F : PyData → Cfg → Rs (Option PyData)} {d : PyData} {ds acc : List PyData} {s1 : DS} (h : svR (F d c) = some (none, s1)) : lcLoop F (d :: ds) acc c = lcLoop F ds acc { c with s := s1 } := by
  conv => lhs; unfold lcLoop
  cases e : F d c with
  | ok a c1 =>
    rw [e] at h
    cases h
    rfl
  | exc k ds c1 => rw [e] at h; cases h
  | bad => rw [e] at h; cases h
/-- a comprehension that changes nothing -/
theorem lc_pure {F : PyData → Cfg → Rs (Option PyData)} {g : PyData → PyData} : ∀ {items acc : List PyData} {c : Cfg}, (∀ d ∈ items, svR (F d c) = some (some (g d), c.s)) → acc.length + items.length ≤ sizeLine → lcLoop F items acc c = .ok (acc ++ items.map g) c
  | [], acc, c, _, _ => by simp [lcLoop]
  | d :: ds, acc, c, h, hl => by
    rw [List.length_cons] at hl
    rw [lc_step (h d (List.mem_cons_self ..)) (by omega), lc_pure (c := { c with s := c.s }) (fun d' hd => h d' (List.mem_cons_of_mem _ hd)) (by rw [List.length_append]; simp; omega)]
    simp
/-- .. with a test -/
theorem lc_fm {F : PyData → Cfg → Rs (Option PyData)} {g : PyData → Option PyData} : ∀ {items acc : List PyData} {c : Cfg}, (∀ d ∈ items, svR (F d c) = some (g d, c.s)) → acc.length + items.length ≤ sizeLine → lcLoop F items acc c = .ok (acc ++ items.filterMap g) c
  | [], acc, c, _, _ => by simp [lcLoop]
  | d :: ds, acc, c, h, hl => by
    rw [List.length_cons] at hl
    have hd := h d (List.mem_cons_self ..)
    cases e : g d with
    | none =>
      rw [e] at hd
      rw [lc_skip hd, lc_fm (c := { c with s := c.s }) (fun d' hd => h d' (List.mem_cons_of_mem _ hd)) (by omega)]
      simp [e]
    | some x =>
      rw [e] at hd
      rw [lc_step hd (by omega), lc_fm (c := { c with s := c.s }) (fun d' hd => h d' (List.mem_cons_of_mem _ hd)) (by rw [List.length_append]; simp; omega)]
      simp [e]
theorem leave_ok {c0 c : Cfg} {ds : List PyData} : leaveC c0 (.ok ds c) = .ok (.own ds) ⟨c0.ρ, c.s⟩ := rfl
/-- the whole comprehension over xs, each told by e -/
theorem lc_map {α : Type} {F : PyData → Cfg → Rs (Option PyData)} {e : α → PyData} {g : α → PyData} {xs : List α} {c0 : Cfg} {own : List Nat} (h : ∀ x ∈ xs, svR (F (e x) (enterC c0 own)) = some (some (g x), c0.s)) (hl : xs.length ≤ sizeLine) :
    leaveC c0 (lcLoop F (xs.map e) [] (enterC c0 own)) = .ok (.own (xs.map g)) c0 := by
  have key : ∀ (xs : List α) (acc : List PyData), (∀ x ∈ xs, svR (F (e x) (enterC c0 own)) = some (some (g x), c0.s)) → acc.length + xs.length ≤ sizeLine → lcLoop F (xs.map e) acc (enterC c0 own) = .ok (acc ++ xs.map g) (enterC c0 own) := by
    intro xs
    induction xs with
    | nil => intro acc _ _; simp [lcLoop]
    | cons x xs ih =>
      intro acc h hl
      rw [List.length_cons] at hl
      rw [List.map_cons, lc_step (h x (List.mem_cons_self ..)) (by omega)]
      have := ih (acc ++ [g x]) (fun y hy => h y (List.mem_cons_of_mem _ hy)) (by rw [List.length_append]; simp; omega)
      rw [show (({ (enterC c0 own) with s := c0.s } : Cfg)) = enterC c0 own from rfl, this]
      simp
  rw [key xs [] h (by simpa using hl), List.nil_append]
  rfl
end
end K
end
/-! ## P2 -/
section
set_option maxRecDepth 100000
set_option maxHeartbeats 4000000
namespace K
open PySem PySem.Spec PyProof.Rows L2 Pyv
/-! ### the data -/
def itD (l : List Int) : PyData := .tuple (l.map .int)
def prD (p : Int × Int) : PyData := .tuple [.int p.1, .int p.2]
def rdD (l : List (Int × Int)) : PyData := .tuple (l.map prD)
def nb {α : Type} (l : List α) : List (α × α) := l.zip l.tail
section
variable {call : Nat → List W → DS → RF} {gl : List PyData} {c : Cfg} {rd : Bool} {n : Nat} {s : DS}
@[simp] theorem sv_ok {α : Type} {a : α} : svR (.ok a c) = some (a, c.s) := rfl
@[simp] theorem bl_tup {l : List PyData} : bltV .tuple [.list l] = some (.val (.tuple l)) := rfl
@[simp] theorem bl_tup2 {l : List PyData} : bltV .tuple [.tuple l] = some (.val (.tuple l)) := rfl
@[simp] theorem bl_lst {l : List PyData} : bltV .list [.list l] = some (.own l) := rfl
@[simp] theorem bl_lst2 {l : List PyData} : bltV .list [.tuple l] = some (.own l) := rfl
@[simp] theorem bl_len {l : List PyData} : bltV .len [.tuple l] = some (.val (.int l.length)) := rfl
@[simp] theorem bl_len2 {l : List PyData} : bltV .len [.list l] = some (.val (.int l.length)) := rfl
theorem asInts_map (l : List Int) : asInts (l.map .int) = some l := by
  induction l with
  | nil => rfl
  | cons a l ih =>
    show (asInts (l.map .int)).map (a :: ·) = _
    rw [ih]; rfl
@[simp] theorem bl_sum {l : List Int} : bltV .sum [.tuple (l.map .int)] = some (.val (.int l.sum)) := by
  show (asInts (l.map .int)).map _ = _
  rw [asInts_map]; rfl
@[simp] theorem bl_sum2 {l : List Int} : bltV .sum [.list (l.map .int)] = some (.val (.int l.sum)) := by
  show (asInts (l.map .int)).map _ = _
  rw [asInts_map]; rfl
@[simp] theorem lcB_ap {elt : E} {tg : Tg} {t : Ot} {d : PyData} : lcB call gl elt tg t d c = (ofO (asgTg tg d c) c).bind fun c1 _ => (evOt call gl t c1).bind fun r c2 =>
  if r = true then (evE call gl elt false c2).bind fun w c3 => (ofO w.dat c3).bind fun d c4 => .ok (some d) c4 else .ok none c2 := rfl
theorem src_nb {α : Type} {i : Nat} {xs : List α} {e : α → PyData} (h : c.ρ[i]? = some (some (.val (.tuple (xs.map e))))) :
    evSrc call gl (.zip (.var i) (.sl (.var i) (.yes (.lit (.int 1))) .no)) rd c = .ok ((nb xs).map fun p => .tuple [e p.1, e p.2]) c := by
  have key : zipL (xs.map e) ((xs.map e).drop 1) = (nb xs).map fun p => PyData.tuple [e p.1, e p.2] := by
    unfold zipL nb
    rw [← List.map_drop, List.zip_map, List.map_map, List.drop_one]
    rfl
  have d : sl3 (.tuple (xs.map e)) (some 1) none = some (.val (.tuple ((xs.map e).drop 1))) := by
    unfold sl3
    cases xs with
    | nil => rfl
    | cons x xs =>
      simp [HT.sIx]
      exact List.take_of_length_le (by simp)
  have v : ∀ rd, evVar rd i c = .ok (.val (.tuple (xs.map e))) c := fun rd => by
    unfold evVar; rw [h]
  rw [List.drop_one] at key d
  cases rd <;> simp [v, d, key]
/-- amounts_in -/
theorem r6 {reads : List (Int × Int)} (h : reads.length ≤ 1000) : Pyv.run pg (n + 1) 6 [.val (rdD reads)] s = .ok (.val (itD ((nb reads).map fun p => p.2.2 - p.1.2))) s := by
  show runFd (Pyv.run pg n) glD ir6 [.val (rdD reads)] s = _
  unfold runFd ir6
  rw [if_pos ⟨rfl, by decide⟩]
  simp only [ss_cons, s_ret, e_blt, es_cons, e_lc]
  rw [src_nb (xs := reads) (e := prD) rfl]
  simp only [b_ok]
  rw [lc_map (g := fun p => .int (p.2.2 - p.1.2))]
  · simp [itD]
  · intro p hp
    simp [prD, asgTg, asgTgs, setR, enterC, wipeR, lockW, evVar, atI, ixN]
  · rw [sizeLine_eq, nb, List.length_zip]
    omega
/-- row[i:j] -/
def cut (l : List Int) (i j : Int) : List Int := (l.drop (HT.sIx l.length 0 (some i))).take (HT.sIx l.length l.length (some j) - HT.sIx l.length 0 (some i))
def gapS (reads : List (Int × Int)) (row : List Int) : List Int := (nb reads).map fun p => (cut row p.1.1 p.2.1).sum
/-- sums_by_gap -/
theorem r11 {reads : List (Int × Int)} {row : List Int} (h : reads.length ≤ 1000) : Pyv.run pg (n + 1) 11 [.val (rdD reads), .val (itD row)] s = .ok (.val (itD (gapS reads row))) s := by
  show runFd (Pyv.run pg n) glD ir11 [.val (rdD reads), .val (itD row)] s = _
  unfold runFd ir11
  rw [if_pos ⟨rfl, by decide⟩]
  simp only [ss_cons, s_ret, e_blt, es_cons, e_lc]
  rw [src_nb (xs := reads) (e := prD) rfl]
  simp only [b_ok]
  rw [lc_map (g := fun p => .int (cut row p.1.1 p.2.1).sum)]
  · simp [itD, gapS]
  · intro p hp
    have e : ∀ i j : Int, sl3 (itD row) (some i) (some j) = some (.val (.tuple ((cut row i j).map .int))) := fun i j => by
      unfold sl3 itD cut
      simp
    simp [prD, asgTg, asgTgs, setR, enterC, wipeR, lockW, evVar, atI, ixN, e]
  · rw [sizeLine_eq, nb, List.length_zip]
    omega
/-- is_integer, is_within -/
@[simp] theorem isi_int {d : PyData} : bltV (.isi ["int"]) [d] = if notNone d = true then some (bval (isTy d "int")) else none := by
  show (if (["int"].all isOne) = true ∧ notNone d = true then some (bval (["int"].any (isTy d))) else none) = _
  simp [isOne, fiveTys]
@[simp] theorem isi_bool {d : PyData} : bltV (.isi ["bool"]) [d] = if notNone d = true then some (bval (isTy d "bool")) else none := by
  show (if (["bool"].all isOne) = true ∧ notNone d = true then some (bval (["bool"].any (isTy d))) else none) = _
  simp [isOne, fiveTys]
@[simp] theorem isi_tuple {d : PyData} : bltV (.isi ["tuple"]) [d] = if notNone d = true then some (bval (isTy d "tuple")) else none := by
  show (if (["tuple"].all isOne) = true ∧ notNone d = true then some (bval (["tuple"].any (isTy d))) else none) = _
  simp [isOne, fiveTys]
@[simp] theorem isi_str {d : PyData} : bltV (.isi ["str"]) [d] = if notNone d = true then some (bval (isTy d "str")) else none := by
  show (if (["str"].all isOne) = true ∧ notNone d = true then some (bval (["str"].any (isTy d))) else none) = _
  simp [isOne, fiveTys]
@[simp] theorem isi_list {d : PyData} : bltV (.isi ["list"]) [d] = if notNone d = true then some (bval (isTy d "list")) else none := by
  show (if (["list"].all isOne) = true ∧ notNone d = true then some (bval (["list"].any (isTy d))) else none) = _
  simp [isOne, fiveTys]
@[simp] theorem bv {b : Bool} : bval b = .val (.bool b) := rfl
theorem r0 {i : Int} : Pyv.run pg (n + 1) 0 [.val (.int i)] s = .ok (.val (.bool true)) s := by
  show runFd (Pyv.run pg n) glD ir0 [.val (.int i)] s = _
  unfold runFd ir0
  rw [if_pos ⟨rfl, by decide⟩]
  simp [evVar, notNone, isTy, tyN, tyB]
@[simp] theorem do_ok {call : Nat → List W → DS → RF} {f : Nat} {ws : List W} {w : W} {s' : DS} (hp : ws.all isPlain = true) (h : call f ws c.s = .ok w s') : doCall call f ws c = .ok w { c with s := s' } := by
  unfold doCall
  rw [if_pos hp, h]
theorem r1 {i a b : Int} : Pyv.run pg (n + 2) 1 [.val (.int i), .val (.int a), .val (.int b)] s = .ok (.val (.bool (decide (a ≤ i) && decide (i ≤ b)))) s := by
  show runFd (Pyv.run pg (n + 1)) glD ir1 [.val (.int i), .val (.int a), .val (.int b)] s = _
  unfold runFd ir1
  rw [if_pos ⟨rfl, by decide⟩]
  simp [evVar, doCall, r0]
  by_cases h : a ≤ i <;> simp [h]
end
end K
end
/-! ## P3 -/
section
set_option maxRecDepth 100000
set_option maxHeartbeats 4000000
namespace K
open PySem PySem.Spec PyProof.Rows L2 Pyv
structure Pt where
  caps : List Int
  reads : List (Int × Int)
structure Net where
  many : Nat
  pts : List Pt
  main : List (Int × Int)
  losses : List (Int × Int)
structure Sheet where
  uses : List (List Int)
  lost : List Int
def ptD (p : Pt) : PyData := .tuple [itD p.caps, rdD p.reads]
def netD (x : Net) : PyData := .tuple [.int x.many, .tuple (x.pts.map ptD), rdD x.main, rdD x.losses]
def shD (x : Sheet) : PyData := .tuple [.tuple (x.uses.map itD), itD x.lost]
def rdOk (many : Int) : Int → List (Int × Int) → Prop
  | _, [] => True
  | b, p :: r => (b + 1 ≤ p.1 ∧ p.1 ≤ many ∧ 0 ≤ p.2 ∧ p.2 ≤ 1000000000000) ∧ rdOk many p.1 r
structure PtOk (many : Nat) (p : Pt) : Prop where
  len : p.caps.length = many
  caps : ∀ x ∈ p.caps, 0 ≤ x ∧ x ≤ 1000000000
  reads : rdOk many (-1) p.reads
structure NetOk (x : Net) : Prop where
  m1 : 1 ≤ x.many
  m2 : x.many ≤ 24
  p1 : 1 ≤ x.pts.length
  p2 : x.pts.length ≤ 8
  pts : ∀ p ∈ x.pts, PtOk x.many p
  main : rdOk x.many (-1) x.main
  llen : x.losses.length = x.many
  loss : ∀ p ∈ x.losses, (0 ≤ p.1 ∧ p.1 ≤ 1000000000) ∧ p.1 ≤ p.2 ∧ p.2 ≤ 1000000000
section
variable {call : Nat → List W → DS → RF} {gl : List PyData} {c : Cfg} {rd : Bool} {n : Nat} {s : DS}
theorem for_inv {α : Type} {tg : Tg} {f : Cfg → Out} {e : α → PyData} (I : List α → Cfg → Prop) (step : ∀ x r c, I (x :: r) c → ∃ c1, asgTg tg (e x) c = some c1 ∧ ∃ c2, f c1 = .next c2 ∧ I r c2) :
    ∀ (xs : List α) (c : Cfg), I xs c → ∃ c', forLoop tg f (xs.map e) c = .next c' ∧ I [] c'
  | [], c, h => ⟨c, rfl, h⟩
  | x :: xs, c, h => by
    obtain ⟨c1, e1, c2, e2, h2⟩ := step x xs c h
    obtain ⟨c', e3, h3⟩ := for_inv I step xs c2 h2
    refine ⟨c', ?_, h3⟩
    rw [List.map_cons]
    unfold forLoop
    rw [e1]
    dsimp only
    rw [e2]
    exact e3
@[simp] theorem g3 : (glD[3]? : Option PyData) = some (.int 1000000000000) := rfl
@[simp] theorem g2 : (glD[2]? : Option PyData) = some (.int 1000000000) := rfl
@[simp] theorem g1 : (glD[1]? : Option PyData) = some (.int 8) := rfl
@[simp] theorem g0 : (glD[0]? : Option PyData) = some (.int 24) := rfl
theorem for_use {α : Type} {tg : Tg} {f : Cfg → Out} {e : α → PyData} {xs : List α} {c : Cfg} {o : Out} (hF : forLoop tg f (xs.map e) c = o) (I : List α → Cfg → Prop) (step : ∀ x r c, I (x :: r) c → ∃ c1, asgTg tg (e x) c = some c1 ∧ ∃ c2, f c1 = .next c2 ∧ I r c2) (h : I xs c) : ∃ c', o = .next c' ∧ I [] c' := by
  subst hF
  exact for_inv I step xs c h
@[simp] theorem shaped_int {i : Int} : SeqAt.shaped (.int i) = true := rfl
@[simp] theorem eqv_int {i j : Int} : PyData.eqv (.int i) (.int j) = decide (i = j) := by
  show (i == j) = _
  by_cases h : i = j <;> simp [h]
@[simp] theorem eq_int {i j : Int} : cmp2 .Eq (.int i) (.int j) = some (decide (i = j)) := by
  show (if SeqAt.shaped (.int i) = true ∧ SeqAt.shaped (.int j) = true then some (PyData.eqv (.int i) (.int j)) else none) = _
  rw [if_pos ⟨rfl, rfl⟩, eqv_int]
@[simp] theorem ne_int {i j : Int} : cmp2 .NotEq (.int i) (.int j) = some (!decide (i = j)) := by
  show (if SeqAt.shaped (.int i) = true ∧ SeqAt.shaped (.int j) = true then some (!PyData.eqv (.int i) (.int j)) else none) = _
  rw [if_pos ⟨rfl, rfl⟩, eqv_int]
theorem r2 {many : Nat} {reads : List (Int × Int)} (h : rdOk many (-1) reads) : Pyv.run pg (n + 3) 2 [.val (.int many), .val (rdD reads)] s = .ok (.val (.bool true)) s := by
  show runFd (Pyv.run pg (n + 2)) glD ir2 [.val (.int many), .val (rdD reads)] s = _
  unfold runFd ir2
  rw [if_pos ⟨rfl, by decide⟩]
  simp [evVar, rdD, notNone, isTy, tyN, tyB, asgW, asgTg, setR]
  generalize hF : forLoop _ _ _ _ = o
  obtain ⟨c', rfl, w, b, rfl, _⟩ := for_use hF (fun rest c => ∃ w b, c = ⟨[some (.val (.int many)), some (.val (rdD reads)), some (.val (.int b)), w], s⟩ ∧ rdOk many b rest)
    (fun p r c ⟨w, b, e, hr⟩ => by
      subst e
      obtain ⟨⟨h1, h2, h3, h4⟩, h5⟩ := hr
      refine ⟨_, rfl, ⟨[some (.val (.int many)), some (.val (rdD reads)), some (.val (.int p.1)), some (.val (prD p))], s⟩, ?_, _, _, rfl, h5⟩
      simp [setR, evVar, prD, notNone, isTy, tyN, tyB, atI, ixN, doCall, r1, h1, h2, h3, h4, asgW, asgTg]) ⟨none, -1, rfl, h⟩
  simp
end
end K
end
/-! ## P4 -/
section
set_option maxRecDepth 100000
set_option maxHeartbeats 4000000
namespace K
open PySem PySem.Spec PyProof.Rows L2 Pyv
section
variable {call : Nat → List W → DS → RF} {gl : List PyData} {c : Cfg} {rd : Bool} {n : Nat} {s : DS}
theorem asBools_map {α : Type} (l : List α) (p : α → Bool) : asBools (l.map fun x => PyData.bool (p x)) = some (l.map p) := by
  induction l with
  | nil => rfl
  | cons a l ih =>
    show (asBools (l.map fun x => PyData.bool (p x))).map (p a :: ·) = _
    rw [ih]; rfl
@[simp] theorem bl_all {α : Type} {l : List α} {p : α → Bool} : bltV .all [.list (l.map fun x => PyData.bool (p x))] = some (.val (.bool (l.all p))) := by
  show (asBools _).map _ = _
  rw [asBools_map]
  simp [bval, List.all_map]
theorem r3 {many : Nat} {p : Pt} (h : PtOk many p) (hm : many ≤ 1000) : Pyv.run pg (n + 4) 3 [.val (.int many), .val (ptD p)] s = .ok (.val (.bool true)) s := by
  show runFd (Pyv.run pg (n + 3)) glD ir3 [.val (.int many), .val (ptD p)] s = _
  unfold runFd ir3
  rw [if_pos ⟨rfl, by decide⟩]
  simp [evVar, ptD, itD, notNone, isTy, tyN, tyB, asgW, asgTg, setR, atI, ixN, h.len]
  rw [lc_map (g := fun x => .bool (decide (0 ≤ x) && decide (x ≤ 1000000000)))]
  · have hc : (p.caps.all fun x => decide (0 ≤ x) && decide (x ≤ 1000000000)) = true := by
      rw [List.all_eq_true]
      intro x hx
      simp [h.caps x hx]
    simp [hc, doCall, r2 h.reads, evVar, atI, ixN]
  · intro x hx
    simp [asgTg, setR, enterC, wipeR, lockW, evVar, doCall, r1]
  · rw [sizeLine_eq, h.len]; omega
theorem r4 {many : Nat} {l : List (Int × Int)} (hl : l.length = many) (h : ∀ p ∈ l, (0 ≤ p.1 ∧ p.1 ≤ 1000000000) ∧ p.1 ≤ p.2 ∧ p.2 ≤ 1000000000) : Pyv.run pg (n + 3) 4 [.val (.int many), .val (rdD l)] s = .ok (.val (.bool true)) s := by
  show runFd (Pyv.run pg (n + 2)) glD ir4 [.val (.int many), .val (rdD l)] s = _
  unfold runFd ir4
  rw [if_pos ⟨rfl, by decide⟩]
  simp [evVar, rdD, notNone, isTy, tyN, tyB, asgW, asgTg, setR, hl]
  generalize hF : forLoop _ _ _ _ = o
  obtain ⟨c', rfl, w, rfl, _⟩ := for_use hF (fun rest c => ∃ w, c = ⟨[some (.val (.int many)), some (.val (rdD l)), w], s⟩ ∧ ∀ p ∈ rest, (0 ≤ p.1 ∧ p.1 ≤ 1000000000) ∧ p.1 ≤ p.2 ∧ p.2 ≤ 1000000000)
    (fun p r c ⟨w, e, hr⟩ => by
      subst e
      obtain ⟨⟨h1, h2⟩, h3, h4⟩ := hr p (List.mem_cons_self ..)
      refine ⟨_, rfl, ⟨[some (.val (.int many)), some (.val (rdD l)), some (.val (prD p))], s⟩, ?_, _, rfl, fun q hq => hr q (List.mem_cons_of_mem _ hq)⟩
      simp [setR, evVar, prD, notNone, isTy, tyN, tyB, atI, ixN, doCall, r1, h1, h2, h3, h4, asgW, asgTg]) ⟨none, rfl, h⟩
  simp
def enum {α : Type} (l : List α) : List (Nat × α) := (List.range l.length).zip l
theorem enumL_map {α : Type} {l : List α} {e : α → PyData} : enumL (l.map e) = (enum l).map fun p => PyData.tuple [.int (p.1 : Nat), e p.2] := by
  unfold enumL enum
  rw [List.length_map, List.zip_map_right, List.map_map]
  rfl
theorem enum_mem {α : Type} {l : List α} {p : Nat × α} (h : p ∈ enum l) : l[p.1]? = some p.2 := by
  obtain ⟨i, hi, e⟩ := List.mem_iff_getElem.mp h
  unfold enum at hi e
  rw [List.getElem_zip] at e
  subst e
  simp
theorem r5 {x : Net} (h : NetOk x) : Pyv.run pg (n + 5) 5 [.val (netD x)] s = .ok (.val (netD x)) s := by
  show runFd (Pyv.run pg (n + 4)) glD ir5 [.val (netD x)] s = _
  unfold runFd ir5
  rw [if_pos ⟨rfl, by decide⟩]
  have m1 := h.m1
  have m2 := h.m2
  have p1 := h.p1
  have p2 := h.p2
  have q1 : (1 : Int) ≤ x.many := by omega
  have q2 : (x.many : Int) ≤ 24 := by omega
  have q3 : (1 : Int) ≤ x.pts.length := by omega
  have q4 : (x.pts.length : Int) ≤ 8 := by omega
  simp [evVar, netD, notNone, isTy, tyN, tyB, asgW, asgTg, asgTgs, setR, atI, ixN, doCall, r1, q1, q2, q3, q4, enumL_map]
  generalize hF : forLoop _ _ _ _ = o
  obtain ⟨c', rfl, w1, w2, rfl, _⟩ := for_use hF (fun rest c => ∃ w1 w2, c = ⟨[some (.val (netD x)), some (.val (.int x.many)), some (.val (.tuple (x.pts.map ptD))), some (.val (rdD x.main)), some (.val (rdD x.losses)), w1, w2], s⟩ ∧ ∀ p ∈ rest, PtOk x.many p.2)
    (fun p r c ⟨w1, w2, e, hr⟩ => by
      subst e
      refine ⟨_, rfl, ⟨[some (.val (netD x)), some (.val (.int x.many)), some (.val (.tuple (x.pts.map ptD))), some (.val (rdD x.main)), some (.val (rdD x.losses)), some (.val (.int (p.1 : Nat))), some (.val (ptD p.2))], s⟩, ?_, _, _, rfl, fun q hq => hr q (List.mem_cons_of_mem _ hq)⟩
      simp [setR, evVar, doCall, r3 (hr p (List.mem_cons_self ..)) (by omega), asgW, asgTg]) ⟨none, none, rfl, fun p hp => h.pts _ (List.mem_of_getElem? (enum_mem hp))⟩
  simp [evVar, doCall, r2 h.main, r4 h.llen h.loss, ownAt]
  rfl
end
end K
end
/-! ## P5 -/
section
set_option maxRecDepth 100000
set_option maxHeartbeats 4000000
namespace K
open PySem PySem.Spec PyProof.Rows L2 Pyv
section
variable {call : Nat → List W → DS → RF} {gl : List PyData} {c : Cfg} {rd : Bool} {n : Nat} {s : DS}
structure ShOk (x : Net) (y : Sheet) : Prop where
  ulen : y.uses.length = x.pts.length
  rows : ∀ r ∈ y.uses, r.length = x.many
  llen : y.lost.length = x.many
theorem netOk_reads {many : Nat} {b : Int} {l : List (Int × Int)} (h : rdOk many b l) : (l.length : Int) ≤ max 0 (many - b) := by
  induction l generalizing b with
  | nil =>
    show (0 : Int) ≤ _
    omega
  | cons p l ih =>
    obtain ⟨⟨h1, h2, _⟩, h3⟩ := h
    have := ih h3
    simp only [List.length_cons]
    omega
theorem rdlen {many : Nat} {l : List (Int × Int)} (h : rdOk many (-1) l) : l.length ≤ many + 1 := by
  have := netOk_reads h
  omega
def amts (l : List (Int × Int)) : List Int := (nb l).map fun p => p.2.2 - p.1.2
theorem r7 {x : Net} (h : NetOk x) : Pyv.run pg (n + 6) 7 [.val (netD x)] s = .ok (.val (.tuple [.tuple (x.pts.map fun p => itD (amts p.reads)), itD (amts x.main)])) s := by
  show runFd (Pyv.run pg (n + 5)) glD ir7 [.val (netD x)] s = _
  unfold runFd ir7
  rw [if_pos ⟨rfl, by decide⟩]
  have h5 := r5 (n := n) (s := s) h
  have p2 := h.p2
  have m2 := h.m2
  simp [evVar, doCall, h5]
  simp [netD, atI, ixN]
  rw [lc_map (g := fun p => itD (amts p.reads))]
  · have := rdlen h.main
    simp [evVar, atI, ixN, doCall, r6 (reads := x.main) (by omega), amts, mkTup, dats, sizeLine_eq]
  · intro p hp
    have := rdlen (h.pts p hp).reads
    simp [asgTg, setR, enterC, wipeR, lockW, evVar, ptD, atI, ixN, doCall, r6 (reads := p.reads) (by omega), amts]
  · rw [sizeLine_eq]; omega
theorem r8 {l : List Int} {many : Nat} (h : l.length = many) (hm : many ≤ 1000) : Pyv.run pg (n + 2) 8 [.val (itD l), .val (.int many)] s = .ok (.val (.bool true)) s := by
  show runFd (Pyv.run pg (n + 1)) glD ir8 [.val (itD l), .val (.int many)] s = _
  unfold runFd ir8
  rw [if_pos ⟨rfl, by decide⟩]
  simp [evVar, itD, notNone, isTy, tyN, tyB, h]
  rw [lc_map (g := fun _ => .bool true)]
  · have := bl_all (l := l) (p := fun _ => true)
    simp [this]
  · intro p hp
    simp [asgTg, setR, enterC, wipeR, lockW, evVar, doCall, r0]
  · rw [sizeLine_eq]; omega
theorem r9 {x : Net} {y : Sheet} (h : NetOk x) (hy : ShOk x y) : Pyv.run pg (n + 3) 9 [.val (netD x), .val (shD y)] s = .ok (.val .none) s := by
  show runFd (Pyv.run pg (n + 2)) glD ir9 [.val (netD x), .val (shD y)] s = _
  unfold runFd ir9
  rw [if_pos ⟨rfl, by decide⟩]
  have p2 := h.p2
  have m2 := h.m2
  simp [evVar, shD, notNone, isTy, tyN, tyB, asgW, asgTg, asgTgs, setR, netD, atI, ixN, hy.ulen]
  rw [lc_map (g := fun _ => .bool true)]
  · have := bl_all (l := y.uses) (p := fun _ => true)
    simp [this, evVar, atI, ixN, doCall, r8 hy.llen (by omega)]
  · intro r hr
    simp [asgTg, setR, enterC, wipeR, lockW, evVar, doCall, r8 (hy.rows r hr) (by omega), atI, ixN]
  · rw [sizeLine_eq, hy.ulen]; omega
theorem r10 {x : Net} {y : Sheet} (h : NetOk x) (hy : ShOk x y) : Pyv.run pg (n + 4) 10 [.val (netD x), .val (shD y)] s = .ok (.val .none) s := by
  show runFd (Pyv.run pg (n + 3)) glD ir10 [.val (netD x), .val (shD y)] s = _
  unfold runFd ir10
  rw [if_pos ⟨rfl, by decide⟩]
  simp [evVar, doCall, r9 h hy, asgW, asgTg, setR, cmp2, isNoneD]
end
end K
end
/-! ## P6 -/
section
set_option maxRecDepth 100000
set_option maxHeartbeats 4000000
namespace K
open PySem PySem.Spec PyProof.Rows L2 Pyv
section
variable {call : Nat → List W → DS → RF} {gl : List PyData} {c : Cfg} {rd : Bool} {n : Nat} {s : DS}
@[simp] theorem nB0 : notBor none = true := rfl
@[simp] theorem nB1 {d : PyData} : notBor (some (.val d)) = true := rfl
@[simp] theorem nB2 {d : List PyData} : notBor (some (.own d)) = true := rfl
@[simp] theorem nB3 : notBor (some .stm) = true := rfl
@[simp] theorem th_nx {o : Out} : (o.then fun c => .next c) = o := by cases o <;> rfl
theorem rangeL_nat {m : Nat} : rangeL 0 (m : Int) = (List.range m).map fun i => PyData.int (i : Nat) := by
  unfold rangeL
  simp
theorem atI_nat {α : Type} {ds : List α} {i : Nat} : atI ds (i : Int) = ds[i]? := by
  unfold atI ixN
  rw [if_pos (by omega)]
  by_cases h : i < ds.length
  · rw [if_pos (by omega)]
    simp
  · rw [if_neg (by omega)]
    simp at h
    simp [h]
/-- the number at a place -/
def nth (l : List Int) (i : Nat) : Int := l.getD i 0
def nthP (l : List (Int × Int)) (i : Nat) : Int × Int := l.getD i (0, 0)
theorem at_int {l : List Int} {i : Nat} (h : i < l.length) : atI (l.map PyData.int) (i : Int) = some (.int (nth l i)) := by
  rw [atI_nat, List.getElem?_map, List.getElem?_eq_getElem h, nth, List.getD_eq_getElem?_getD, List.getElem?_eq_getElem h]
  rfl
theorem at_map {α : Type} {l : List α} {e : α → PyData} {i : Nat} {x : α} (h : l[i]? = some x) : atI (l.map e) (i : Int) = some (e x) := by
  rw [atI_nat, List.getElem?_map, h]
  rfl
/-- lc_map where the inner slots are already worked out -/
theorem lc_map2 {α : Type} {F : PyData → Cfg → Rs (Option PyData)} {e : α → PyData} {g : α → PyData} {xs : List α} {c0 c1 : Cfg} (hs : c1.s = c0.s) (h : ∀ x ∈ xs, svR (F (e x) c1) = some (some (g x), c0.s)) (hl : xs.length ≤ sizeLine) :
    leaveC c0 (lcLoop F (xs.map e) [] c1) = .ok (.own (xs.map g)) c0 := by
  have key : ∀ (xs : List α) (acc : List PyData), (∀ x ∈ xs, svR (F (e x) c1) = some (some (g x), c0.s)) → acc.length + xs.length ≤ sizeLine → lcLoop F (xs.map e) acc c1 = .ok (acc ++ xs.map g) c1 := by
    intro xs
    induction xs with
    | nil => intro acc _ _; simp [lcLoop]
    | cons x xs ih =>
      intro acc h hl
      rw [List.length_cons] at hl
      rw [List.map_cons, lc_step (h x (List.mem_cons_self ..)) (by omega)]
      have q := ih (acc ++ [g x]) (fun y hy => h y (List.mem_cons_of_mem _ hy)) (by rw [List.length_append]; simp; omega)
      rw [show (({ c1 with s := c0.s } : Cfg)) = c1 from by rw [← hs], q]
      simp
  rw [key xs [] h (by simpa using hl), List.nil_append, leave_ok, hs]
/-- .. with a test -/
theorem lc_if {α : Type} {F : PyData → Cfg → Rs (Option PyData)} {e : α → PyData} {p : α → Bool} {g : α → PyData} {xs : List α} {c0 c1 : Cfg} (hs : c1.s = c0.s) (h : ∀ x ∈ xs, svR (F (e x) c1) = some (if p x = true then some (g x) else none, c0.s)) (hl : xs.length ≤ sizeLine) :
    leaveC c0 (lcLoop F (xs.map e) [] c1) = .ok (.own (xs.flatMap fun x => if p x = true then [g x] else [])) c0 := by
  have key : ∀ (xs : List α) (acc : List PyData), (∀ x ∈ xs, svR (F (e x) c1) = some (if p x = true then some (g x) else none, c0.s)) → acc.length + xs.length ≤ sizeLine → lcLoop F (xs.map e) acc c1 = .ok (acc ++ xs.flatMap fun x => if p x = true then [g x] else []) c1 := by
    intro xs
    induction xs with
    | nil => intro acc _ _; simp [lcLoop]
    | cons x xs ih =>
      intro acc h hl
      rw [List.length_cons] at hl
      have hx := h x (List.mem_cons_self ..)
      have e1 : (({ c1 with s := c0.s } : Cfg)) = c1 := by rw [← hs]
      by_cases hp : p x = true
      · rw [if_pos hp] at hx
        have q := ih (acc ++ [g x]) (fun y hy => h y (List.mem_cons_of_mem _ hy)) (by rw [List.length_append]; simp; omega)
        rw [List.map_cons, lc_step hx (by omega), e1, q, List.flatMap_cons, if_pos hp]
        simp
      · rw [if_neg hp] at hx
        have q := ih acc (fun y hy => h y (List.mem_cons_of_mem _ hy)) (by omega)
        rw [List.map_cons, lc_skip hx, e1, q, List.flatMap_cons, if_neg hp]
        simp
  rw [key xs [] h (by simpa using hl), List.nil_append, leave_ok, hs]
/-- .. where both are written out -/
theorem lc_map3 {α : Type} {F : PyData → Cfg → Rs (Option PyData)} {e : α → PyData} {g : α → PyData} {xs : List α} {ρ0 ρ1 : List (Option W)} {s : DS} (h : ∀ x ∈ xs, svR (F (e x) ⟨ρ1, s⟩) = some (some (g x), s)) (hl : xs.length ≤ sizeLine) :
    leaveC ⟨ρ0, s⟩ (lcLoop F (xs.map e) [] ⟨ρ1, s⟩) = .ok (.own (xs.map g)) ⟨ρ0, s⟩ := lc_map2 rfl h hl
theorem lc_if3 {α : Type} {F : PyData → Cfg → Rs (Option PyData)} {e : α → PyData} {p : α → Bool} {g : α → PyData} {xs : List α} {ρ0 ρ1 : List (Option W)} {s : DS} (h : ∀ x ∈ xs, svR (F (e x) ⟨ρ1, s⟩) = some (if p x = true then some (g x) else none, s)) (hl : xs.length ≤ sizeLine) :
    leaveC ⟨ρ0, s⟩ (lcLoop F (xs.map e) [] ⟨ρ1, s⟩) = .ok (.own (xs.flatMap fun x => if p x = true then [g x] else [])) ⟨ρ0, s⟩ := lc_if rfl h hl
/-- a loop that only adds to what P tells -/
theorem for_acc {α : Type} {tg : Tg} {f : Cfg → Out} {e : α → PyData} {L : Nat} (P : List PyData → Cfg → Prop) (G : α → List PyData) : ∀ (xs : List α) (acc : List PyData) (c : Cfg),
    (∀ x ∈ xs, ∀ acc c, acc.length + (G x).length ≤ L → P acc c → ∃ c1, asgTg tg (e x) c = some c1 ∧ ∃ c2, f c1 = .next c2 ∧ P (acc ++ G x) c2) → acc.length + (xs.flatMap G).length ≤ L → P acc c → ∃ c', forLoop tg f (xs.map e) c = .next c' ∧ P (acc ++ xs.flatMap G) c'
  | [], acc, c, _, _, h => ⟨c, rfl, by simpa using h⟩
  | x :: xs, acc, c, st, hl, h => by
    rw [List.flatMap_cons, List.length_append] at hl
    obtain ⟨c1, e1, c2, e2, h2⟩ := st x (List.mem_cons_self ..) acc c (by omega) h
    obtain ⟨c', e3, h3⟩ := for_acc P G xs (acc ++ G x) c2 (fun y hy => st y (List.mem_cons_of_mem _ hy)) (by rw [List.length_append]; omega) h2
    refine ⟨c', ?_, by rw [List.flatMap_cons, ← List.append_assoc]; exact h3⟩
    rw [List.map_cons]
    unfold forLoop
    rw [e1]
    dsimp only
    rw [e2]
    exact e3
theorem acc_use {α : Type} {tg : Tg} {f : Cfg → Out} {e : α → PyData} {xs : List α} {c : Cfg} {o : Out} (hF : forLoop tg f (xs.map e) c = o) (P : List PyData → Cfg → Prop) (G : α → List PyData) {acc : List PyData} (L : Nat)
    (step : ∀ x ∈ xs, ∀ acc c, acc.length + (G x).length ≤ L → P acc c → ∃ c1, asgTg tg (e x) c = some c1 ∧ ∃ c2, f c1 = .next c2 ∧ P (acc ++ G x) c2) (hl : acc.length + (xs.flatMap G).length ≤ L) (h : P acc c) : ∃ c', o = .next c' ∧ P (acc ++ xs.flatMap G) c' := by
  subst hF
  exact for_acc P G xs acc c step hl h
def thru (x : Net) (y : Sheet) : List Int := (List.range x.many).map fun h => nth y.lost h + (y.uses.map fun r => nth r h).sum
theorem fitsI_nat {m : Nat} (h : m ≤ 1000) : fitsI (m : Int) = true := by
  refine fitsI_of ⟨?_, ?_⟩
  · exact Int.le_trans (by decide) (Int.natCast_nonneg m)
  · exact Int.lt_of_le_of_lt (Int.ofNat_le.mpr h) (by decide)
@[simp] theorem src_rngN {e : E} : evSrc call gl (.rng1 e) rd c = (evE call gl e true c).bind fun x c => (op1 asInt x c).bind fun i c => if fitsI i = true then .ok (rangeL 0 i) c else .bad := rfl
theorem r12 {x : Net} {y : Sheet} (h : NetOk x) (hy : ShOk x y) : Pyv.run pg (n + 1) 12 [.val (netD x), .val (shD y)] s = .ok (.val (itD (thru x y))) s := by
  show runFd (Pyv.run pg n) glD ir12 [.val (netD x), .val (shD y)] s = _
  unfold runFd ir12
  rw [if_pos ⟨rfl, by decide⟩]
  have p2 := h.p2
  have m2 := h.m2
  have f1 : fitsI (x.many : Int) = true := fitsI_nat (by omega)
  simp [evVar, shD, asgW, asgTg, asgTgs, setR, netD, atI, ixN, f1, rangeL_nat, enterC, wipeR, lockW]
  rw [lc_map2 (g := fun hr => .int (nth y.lost hr + (y.uses.map fun r => nth r hr).sum)) rfl]
  · simp [itD, thru, Function.comp_def]
  · intro hr hh
    have hm : hr < x.many := List.mem_range.mp hh
    have a1 := at_int (l := y.lost) (i := hr) (by rw [hy.llen]; exact hm)
    simp [asgTg, setR, enterC, wipeR, lockW, evVar, itD, a1]
    rw [lc_map2 (g := fun r => .int (nth r hr)) rfl]
    · have := bl_sum2 (l := y.uses.map fun r => nth r hr)
      rw [List.map_map] at this
      simp [Function.comp_def] at this
      simp [this]
    · intro r hr2
      have a2 := at_int (l := r) (i := hr) (by rw [hy.rows r hr2]; exact hm)
      simp [asgTg, setR, enterC, wipeR, lockW, evVar, itD, a2]
    · rw [sizeLine_eq, hy.ulen]; omega
  · rw [sizeLine_eq, List.length_range]; omega
end
end K
end
/-! ## P7 -/
section
set_option maxRecDepth 100000
set_option maxHeartbeats 4000000
namespace K
open PySem PySem.Spec PyProof.Rows L2 Pyv
section
variable {call : Nat → List W → DS → RF} {gl : List PyData} {c : Cfg} {rd : Bool} {n : Nat} {s : DS}
@[simp] theorem aI0 {α : Type} {a : α} {l : List α} : atI (a :: l) 0 = some a := by
  have := atI_nat (ds := a :: l) (i := 0)
  simpa using this
@[simp] theorem aI1 {α : Type} {a b : α} {l : List α} : atI (a :: b :: l) 1 = some b := by
  have := atI_nat (ds := a :: b :: l) (i := 1)
  simpa using this
@[simp] theorem aI2 {α : Type} {a b c : α} {l : List α} : atI (a :: b :: c :: l) 2 = some c := by
  have := atI_nat (ds := a :: b :: c :: l) (i := 2)
  simpa using this
@[simp] theorem aI3 {α : Type} {a b c d : α} {l : List α} : atI (a :: b :: c :: d :: l) 3 = some d := by
  have := atI_nat (ds := a :: b :: c :: d :: l) (i := 3)
  simpa using this
def capF (n h : Nat) : PyData := .tuple [.str "cap", .int (n : Nat), .int (h : Nat)]
def gapF (n h : Nat) : PyData := .tuple [.str "gap", .int (n : Nat), .int (h : Nat)]
def lossF (h : Nat) : PyData := .tuple [.str "loss", .int (h : Nat)]
def mainF (h : Nat) : PyData := .tuple [.str "main", .int (h : Nat)]
def rowAt (y : Sheet) (n : Nat) : List Int := y.uses.getD n []
def inCap (p : Pt) (row : List Int) (h : Nat) : Bool := decide (0 ≤ nth row h) && decide (nth row h ≤ nth p.caps h)
def inLoss (x : Net) (y : Sheet) (h : Nat) : Bool := decide ((nthP x.losses h).1 ≤ nth y.lost h) && decide (nth y.lost h ≤ (nthP x.losses h).2)
def capOne (p : Pt) (row : List Int) (q h : Nat) : List PyData := if inCap p row h = true then [] else [capF q h]
def capsF (x : Net) (y : Sheet) (q : Nat × Pt) : List PyData := (List.range x.many).flatMap (capOne q.2 (rowAt y q.1) q.1)
def lossOne (x : Net) (y : Sheet) (h : Nat) : List PyData := if inLoss x y h = true then [] else [lossF h]
def bndF (x : Net) (y : Sheet) : List PyData := (enum x.pts).flatMap (capsF x y) ++ (List.range x.many).flatMap (lossOne x y)
theorem fm_len {α β : Type} {G : α → List β} {b : Nat} : ∀ {l : List α}, (∀ x ∈ l, (G x).length ≤ b) → (l.flatMap G).length ≤ l.length * b
  | [], _ => by simp
  | x :: l, h => by
    have h1 := h x (List.mem_cons_self ..)
    have h2 := fm_len (G := G) (b := b) (l := l) (fun y hy => h y (List.mem_cons_of_mem _ hy))
    rw [List.flatMap_cons, List.length_append, List.length_cons, Nat.succ_mul]
    omega
theorem capOne_len {p : Pt} {row : List Int} {q h : Nat} : (capOne p row q h).length ≤ 1 := by
  unfold capOne; split <;> simp
theorem capsF_len {x : Net} {y : Sheet} {q : Nat × Pt} : (capsF x y q).length ≤ x.many := by
  have := fm_len (G := capOne q.2 (rowAt y q.1) q.1) (b := 1) (l := List.range x.many) fun _ _ => capOne_len
  simpa [capsF] using this
theorem lossOne_len {x : Net} {y : Sheet} {h : Nat} : (lossOne x y h).length ≤ 1 := by
  unfold lossOne; split <;> simp
theorem enum_len {α : Type} {l : List α} : (enum l).length = l.length := by simp [enum]
theorem bndF_len {x : Net} {y : Sheet} (h : NetOk x) : (bndF x y).length ≤ 216 := by
  have h1 := fm_len (G := capsF x y) (b := 24) (l := enum x.pts) fun q _ => Nat.le_trans capsF_len h.m2
  have h2 := fm_len (G := lossOne x y) (b := 1) (l := List.range x.many) fun q _ => lossOne_len
  rw [enum_len] at h1
  rw [List.length_range] at h2
  have p2 := h.p2
  have m2 := h.m2
  unfold bndF
  rw [List.length_append]
  omega
abbrev C13 (x : Net) (y : Sheet) (s : DS) (acc : List PyData) (w3 w4 w5 : Option W) : Cfg := ⟨[some (.val (netD x)), some (.val (shD y)), some (.own acc), w3, w4, w5], s⟩
def P13 (x : Net) (y : Sheet) (s : DS) (acc : List PyData) (c : Cfg) : Prop := ∃ w3 w4 w5, notBor w3 = true ∧ notBor w4 = true ∧ c = C13 x y s acc w3 w4 w5
def Q13 (x : Net) (y : Sheet) (s : DS) (q : Nat × Pt) (acc : List PyData) (c : Cfg) : Prop := ∃ w5, c = C13 x y s acc (some (.val (.int (q.1 : Nat)))) (some (.val (ptD q.2))) w5
theorem row_at {x : Net} {y : Sheet} {q : Nat × Pt} (hy : ShOk x y) (hq : q ∈ enum x.pts) : y.uses[q.1]? = some (rowAt y q.1) ∧ (rowAt y q.1).length = x.many ∧ q.2 ∈ x.pts := by
  have h1 := enum_mem hq
  have h2 : q.1 < x.pts.length := by
    rcases Nat.lt_or_ge q.1 x.pts.length with h | h
    · exact h
    · rw [List.getElem?_eq_none h] at h1; cases h1
  have h3 : q.1 < y.uses.length := by rw [hy.ulen]; exact h2
  have h4 : y.uses[q.1]? = some (rowAt y q.1) := by
    unfold rowAt
    rw [List.getD_eq_getElem?_getD, List.getElem?_eq_getElem h3]
    rfl
  exact ⟨h4, hy.rows _ (List.mem_of_getElem? h4), List.mem_of_getElem? h1⟩
theorem r13 {x : Net} {y : Sheet} (h : NetOk x) (hy : ShOk x y) : Pyv.run pg (n + 1) 13 [.val (netD x), .val (shD y)] s = .ok (.own (bndF x y)) s := by
  show runFd (Pyv.run pg n) glD ir13 [.val (netD x), .val (shD y)] s = _
  unfold runFd ir13
  rw [if_pos ⟨rfl, by decide⟩]
  have p2 := h.p2
  have m2 := h.m2
  have f1 : fitsI (x.many : Int) = true := fitsI_nat (by omega)
  have hl := bndF_len (y := y) h
  have hl2 := hl
  unfold bndF at hl2
  rw [List.length_append] at hl2
  simp [evVar, asgW, asgTg, setR, mkLst, dats, netD, enumL_map]
  generalize hF : forLoop _ _ _ _ = o
  obtain ⟨c1, rfl, w3, w4, w5, nb3, nb4, rfl⟩ := acc_use hF (P13 x y s) (capsF x y) (acc := []) 1000
    (fun q hq acc c hl ⟨w3, w4, w5, nb3, nb4, e⟩ => by
      subst e
      obtain ⟨a1, a2, a3⟩ := row_at hy hq
      refine ⟨_, rfl, ?_⟩
      simp [evVar, f1, rangeL_nat, netD, setR]
      generalize hF : forLoop _ _ _ _ = o
      obtain ⟨c2, e2, w5, h2⟩ := acc_use hF (Q13 x y s q) (capOne q.2 (rowAt y q.1) q.1) (acc := acc) 1000
        (fun i hi acc c hl ⟨w5, e⟩ => by
          subst e
          have hm : i < x.many := List.mem_range.mp hi
          have b1 := at_map (e := itD) a1
          have b2 := at_int (l := rowAt y q.1) (i := i) (by rw [a2]; exact hm)
          have b3 := at_int (l := q.2.caps) (i := i) (by rw [(h.pts _ a3).len]; exact hm)
          refine ⟨_, rfl, C13 x y s (acc ++ capOne q.2 (rowAt y q.1) q.1 i) (some (.val (.int (q.1 : Nat)))) (some (.val (ptD q.2))) (some (.val (.int (i : Nat)))), ?_, _, rfl⟩
          have hs : acc.length < sizeLine := by rw [sizeLine_eq]; omega
          unfold capOne inCap
          by_cases z1 : 0 ≤ nth (rowAt y q.1) i <;> by_cases z2 : nth (rowAt y q.1) i ≤ nth q.2.caps i <;>
            simp [evVar, shD, itD, ptD, setR, b1, b2, b3, z1, z2, ownAt, hs, capF])
        hl ⟨_, rfl⟩
      exact ⟨c2, e2, _, _, _, rfl, rfl, h2⟩)
    (by rw [List.length_nil]; omega) ⟨none, none, none, rfl, rfl, rfl⟩
  simp [evVar, f1, rangeL_nat, netD, setR]
  generalize hF : forLoop _ _ _ _ = o
  obtain ⟨c1, rfl, w3, w4, w5, nb3, nb4, rfl⟩ := acc_use hF (P13 x y s) (lossOne x y) (acc := (enum x.pts).flatMap (capsF x y)) 1000
    (fun i hi acc c hl ⟨w3, w4, w5, nb3, nb4, e⟩ => by
      subst e
      have hm : i < x.many := List.mem_range.mp hi
      have b2 := at_int (l := y.lost) (i := i) (by rw [hy.llen]; exact hm)
      have b3 := at_map (e := prD) (l := x.losses) (i := i) (x := nthP x.losses i) (by rw [nthP, List.getD_eq_getElem?_getD, List.getElem?_eq_getElem (by rw [h.llen]; exact hm)]; rfl)
      refine ⟨_, rfl, C13 x y s (acc ++ lossOne x y i) w3 w4 (some (.val (.int (i : Nat)))), ?_, _, _, _, nb3, nb4, rfl⟩
      have hs : acc.length < sizeLine := by rw [sizeLine_eq]; omega
      unfold lossOne inLoss
      by_cases z1 : (nthP x.losses i).1 ≤ nth y.lost i <;> by_cases z2 : nth y.lost i ≤ (nthP x.losses i).2 <;>
        simp [evVar, netD, shD, itD, rdD, prD, setR, b2, b3, z1, z2, ownAt, hs, nb3, nb4, lossF])
    (by omega) ⟨_, _, _, nb3, nb4, rfl⟩
  simp [ownAt, bndF]
end
end K
end
/-! ## P8 -/
section
set_option maxRecDepth 100000
set_option maxHeartbeats 4000000
namespace K
open PySem PySem.Spec PyProof.Rows L2 Pyv
section
variable {call : Nat → List W → DS → RF} {gl : List PyData} {c : Cfg} {rd : Bool} {n : Nat} {s : DS}
def amAt (am : List (List Int)) (n : Nat) : List Int := am.getD n []
structure AmOk (x : Net) (am : List (List Int)) (mam : List Int) : Prop where
  len : am.length = x.pts.length
  rows : ∀ q ∈ enum x.pts, (amAt am q.1).length = (nb q.2.reads).length
  main : mam.length = (nb x.main).length
def gapOne (n : Nat) (sums : List Int) (q : Nat × Int) : List PyData := if nth sums q.1 = q.2 then [] else [gapF n q.1]
def gapsF (x : Net) (y : Sheet) (am : List (List Int)) (q : Nat × Pt) : List PyData := (enum (amAt am q.1)).flatMap (gapOne q.1 (gapS q.2.reads (rowAt y q.1)))
def mainOne (sums : List Int) (q : Nat × Int) : List PyData := if nth sums q.1 = q.2 then [] else [mainF q.1]
def gpF (x : Net) (y : Sheet) (am : List (List Int)) (mam : List Int) : List PyData := (enum x.pts).flatMap (gapsF x y am) ++ (enum mam).flatMap (mainOne (gapS x.main (thru x y)))
theorem gapOne_len {n : Nat} {sums : List Int} {q : Nat × Int} : (gapOne n sums q).length ≤ 1 := by
  unfold gapOne; split <;> simp
theorem mainOne_len {sums : List Int} {q : Nat × Int} : (mainOne sums q).length ≤ 1 := by
  unfold mainOne; split <;> simp
@[simp] theorem gapS_len {r : List (Int × Int)} {row : List Int} : (gapS r row).length = (nb r).length := by simp [gapS]
theorem nb_len {α : Type} {l : List α} : (nb l).length ≤ l.length := by simp [nb]
theorem gapsF_len {x : Net} {y : Sheet} {am : List (List Int)} {mam : List Int} {q : Nat × Pt} (h : NetOk x) (ha : AmOk x am mam) (hq : q ∈ enum x.pts) : (gapsF x y am q).length ≤ 25 := by
  have := fm_len (G := gapOne q.1 (gapS q.2.reads (rowAt y q.1))) (b := 1) (l := enum (amAt am q.1)) fun _ _ => gapOne_len
  rw [enum_len, ha.rows q hq] at this
  have h2 := rdlen (h.pts _ (List.mem_of_getElem? (enum_mem hq))).reads
  have h3 := nb_len (l := q.2.reads)
  have m2 := h.m2
  unfold gapsF
  omega
theorem gpF_len {x : Net} {y : Sheet} {am : List (List Int)} {mam : List Int} (h : NetOk x) (ha : AmOk x am mam) : (gpF x y am mam).length ≤ 225 := by
  have h1 := fm_len (G := gapsF x y am) (b := 25) (l := enum x.pts) fun q hq => gapsF_len h ha hq
  have h2 := fm_len (G := mainOne (gapS x.main (thru x y))) (b := 1) (l := enum mam) fun _ _ => mainOne_len
  rw [enum_len] at h1 h2
  have p2 := h.p2
  have m2 := h.m2
  have h3 := rdlen h.main
  have h4 := nb_len (l := x.main)
  have h5 := ha.main
  unfold gpF
  rw [List.length_append]
  omega
abbrev C14 (x : Net) (y : Sheet) (am : List (List Int)) (mam : List Int) (s : DS) (acc : List PyData) (w5 w6 w7 w8 w9 : Option W) : Cfg := ⟨[some (.val (netD x)), some (.val (shD y)), some (.val (.list (am.map itD))), some (.val (itD mam)), some (.own acc), w5, w6, w7, w8, w9], s⟩
def P14 (x : Net) (y : Sheet) (am : List (List Int)) (mam : List Int) (s : DS) (acc : List PyData) (c : Cfg) : Prop := ∃ w5 w6 w7 w8 w9, notBor w5 = true ∧ notBor w6 = true ∧ notBor w7 = true ∧ c = C14 x y am mam s acc w5 w6 w7 w8 w9
def Q14 (x : Net) (y : Sheet) (am : List (List Int)) (mam : List Int) (s : DS) (w5 w6 w7 : Option W) (acc : List PyData) (c : Cfg) : Prop := ∃ w8 w9, c = C14 x y am mam s acc w5 w6 w7 w8 w9
theorem r14 {x : Net} {y : Sheet} {am : List (List Int)} {mam : List Int} (h : NetOk x) (hy : ShOk x y) (ha : AmOk x am mam) : Pyv.run pg (n + 2) 14 [.val (netD x), .val (shD y), .val (.list (am.map itD)), .val (itD mam)] s = .ok (.own (gpF x y am mam)) s := by
  show runFd (Pyv.run pg (n + 1)) glD ir14 [.val (netD x), .val (shD y), .val (.list (am.map itD)), .val (itD mam)] s = _
  unfold runFd ir14
  rw [if_pos ⟨rfl, by decide⟩]
  have p2 := h.p2
  have m2 := h.m2
  have hl := gpF_len (y := y) h ha
  have hl2 := hl
  unfold gpF at hl2
  rw [List.length_append] at hl2
  simp [evVar, asgW, asgTg, setR, mkLst, dats, netD, enumL_map]
  generalize hF : forLoop _ _ _ _ = o
  obtain ⟨c1, rfl, w5, w6, w7, w8, w9, nb5, nb6, nb7, rfl⟩ := acc_use hF (P14 x y am mam s) (gapsF x y am) (acc := []) 1000
    (fun q hq acc c hl ⟨w5, w6, w7, w8, w9, _, _, _, e⟩ => by
      subst e
      obtain ⟨a1, a2, a3⟩ := row_at hy hq
      have hr := rdlen (h.pts _ a3).reads
      have b1 := at_map (e := itD) a1
      have hlt : q.1 < am.length := by
        have h1 := enum_mem hq
        rcases Nat.lt_or_ge q.1 x.pts.length with h | h
        · rw [ha.len]; exact h
        · rw [List.getElem?_eq_none h] at h1; cases h1
      have b2 := at_map (e := itD) (l := am) (i := q.1) (x := amAt am q.1) (by rw [amAt, List.getD_eq_getElem?_getD, List.getElem?_eq_getElem hlt]; rfl)
      refine ⟨_, rfl, ?_⟩
      simp [evVar, netD, setR, ptD, shD, b1, b2, doCall, r11 (reads := q.2.reads) (row := rowAt y q.1) (by omega), asgW, asgTg]
      simp [itD, enumL_map]
      generalize hF : forLoop _ _ _ _ = o
      obtain ⟨c2, e2, w8, w9, h2⟩ := acc_use hF (Q14 x y am mam s (some (.val (.int (q.1 : Nat)))) (some (.val (ptD q.2))) (some (.val (itD (gapS q.2.reads (rowAt y q.1)))))) (gapOne q.1 (gapS q.2.reads (rowAt y q.1))) (acc := acc) 1000
        (fun i hi acc c hl ⟨w8, w9, e⟩ => by
          subst e
          have hi2 := enum_mem hi
          have hi3 : i.1 < (nb q.2.reads).length := by
            rw [← ha.rows q hq]
            rcases Nat.lt_or_ge i.1 (amAt am q.1).length with h | h
            · exact h
            · rw [List.getElem?_eq_none h] at hi2; cases hi2
          have b3 := at_int (l := gapS q.2.reads (rowAt y q.1)) (i := i.1) (by rw [gapS_len]; exact hi3)
          refine ⟨_, rfl, C14 x y am mam s (acc ++ gapOne q.1 (gapS q.2.reads (rowAt y q.1)) i) (some (.val (.int (q.1 : Nat)))) (some (.val (ptD q.2))) (some (.val (itD (gapS q.2.reads (rowAt y q.1))))) (some (.val (.int (i.1 : Nat)))) (some (.val (.int i.2))), ?_, _, _, rfl⟩
          have hs : acc.length < sizeLine := by rw [sizeLine_eq]; omega
          unfold gapOne
          by_cases z1 : nth (gapS q.2.reads (rowAt y q.1)) i.1 = i.2 <;>
            simp [evVar, itD, setR, b3, z1, ownAt, hs, gapF])
        hl ⟨_, _, rfl⟩
      exact ⟨c2, e2, _, _, _, _, _, rfl, rfl, rfl, h2⟩)
    (by rw [List.length_nil]; omega) ⟨none, none, none, none, none, rfl, rfl, rfl, rfl⟩
  simp [evVar, netD, setR, doCall]
  rw [show PyData.tuple [.int x.many, .tuple (x.pts.map ptD), rdD x.main, rdD x.losses] = netD x from rfl]
  have hr := rdlen h.main
  have hc1 := r11 (n := n) (s := s) (reads := x.main) (row := thru x y) (by omega)
  simp [r12 h hy, hc1, asgW, asgTg, setR]
  simp [itD, enumL_map]
  generalize hF : forLoop _ _ _ _ = o
  obtain ⟨c1, rfl, w8, w9, rfl⟩ := acc_use hF (Q14 x y am mam s w5 w6 (some (.val (itD (gapS x.main (thru x y)))))) (mainOne (gapS x.main (thru x y))) (acc := (enum x.pts).flatMap (gapsF x y am)) 1000
    (fun i hi acc c hl ⟨w8, w9, e⟩ => by
      subst e
      have hi2 := enum_mem hi
      have hi3 : i.1 < (nb x.main).length := by
        rw [← ha.main]
        rcases Nat.lt_or_ge i.1 mam.length with h | h
        · exact h
        · rw [List.getElem?_eq_none h] at hi2; cases hi2
      have b3 := at_int (l := gapS x.main (thru x y)) (i := i.1) (by rw [gapS_len]; exact hi3)
      refine ⟨_, rfl, C14 x y am mam s (acc ++ mainOne (gapS x.main (thru x y)) i) w5 w6 (some (.val (itD (gapS x.main (thru x y))))) (some (.val (.int (i.1 : Nat)))) (some (.val (.int i.2))), ?_, _, _, rfl⟩
      have hs : acc.length < sizeLine := by rw [sizeLine_eq]; omega
      unfold mainOne
      by_cases z1 : nth (gapS x.main (thru x y)) i.1 = i.2 <;>
        simp [evVar, itD, setR, b3, z1, ownAt, hs, nb5, nb6, mainF])
    (by omega) ⟨_, _, rfl⟩
  simp [ownAt, gpF]
end
end K
end
/-! ## P9 -/
section
set_option maxRecDepth 100000
set_option maxHeartbeats 4000000
namespace K
open PySem PySem.Spec PyProof.Rows L2 Pyv
section
variable {call : Nat → List W → DS → RF} {gl : List PyData} {c : Cfg} {rd : Bool} {n : Nat} {s : DS}
inductive IsF : PyData → Prop where
  | cap (a b : Nat) : IsF (capF a b)
  | gap (a b : Nat) : IsF (gapF a b)
  | loss (a : Nat) : IsF (lossF a)
  | main (a : Nat) : IsF (mainF a)
theorem isF_alike {d e : PyData} (h : IsF d) (k : IsF e) : PySem.W.alike d e = true := by
  cases h <;> cases k <;> simp [capF, gapF, lossF, mainF, PySem.W.alike, PySem.W.alikeAll]
theorem isF_depth {d : PyData} (h : IsF d) : d.depth ≤ 64 := by
  cases h <;> simp [capF, gapF, lossF, mainF, PyData.depth, PyData.depthAll]
theorem isF_toks {d e : PyData} (h : IsF d) (k : IsF e) (t : PySem.W.keyToks d = PySem.W.keyToks e) : d = e := by
  cases h <;> cases k <;> simp [capF, gapF, lossF, mainF, PySem.W.keyToks, PySem.W.keyToksAll] at t ⊢ <;> first | (obtain ⟨t1, t2⟩ := t; exact ⟨by omega, by omega⟩) | omega | exact ⟨PySem.W.str_of_cps (congrArg Array.toList t.1), t.2⟩ | skip
theorem bnd_isF {x : Net} {y : Sheet} : ∀ d ∈ bndF x y, IsF d := by
  intro d hd
  unfold bndF at hd
  rcases List.mem_append.mp hd with hd | hd
  · obtain ⟨q, _, hd⟩ := List.mem_flatMap.mp hd
    obtain ⟨h, _, hd⟩ := List.mem_flatMap.mp hd
    unfold capOne at hd
    split at hd
    · cases hd
    · rw [List.mem_singleton] at hd; subst hd; exact .cap ..
  · obtain ⟨h, _, hd⟩ := List.mem_flatMap.mp hd
    unfold lossOne at hd
    split at hd
    · cases hd
    · rw [List.mem_singleton] at hd; subst hd; exact .loss ..
theorem gp_isF {x : Net} {y : Sheet} {am : List (List Int)} {mam : List Int} : ∀ d ∈ gpF x y am mam, IsF d := by
  intro d hd
  unfold gpF at hd
  rcases List.mem_append.mp hd with hd | hd
  · obtain ⟨q, _, hd⟩ := List.mem_flatMap.mp hd
    obtain ⟨h, _, hd⟩ := List.mem_flatMap.mp hd
    unfold gapOne at hd
    split at hd
    · cases hd
    · rw [List.mem_singleton] at hd; subst hd; exact .gap ..
  · obtain ⟨h, _, hd⟩ := List.mem_flatMap.mp hd
    unfold mainOne at hd
    split at hd
    · cases hd
    · rw [List.mem_singleton] at hd; subst hd; exact .main ..
theorem sortOk_isF {l : List PyData} (h : ∀ d ∈ l, IsF d) (hl : l.length ≤ 1000) : sortOk l = true := by
  unfold sortOk
  simp only [Bool.and_eq_true, Bool.or_eq_true, List.all_eq_true, decide_eq_true_eq]
  refine ⟨⟨⟨fun x hx y hy => isF_alike (h x hx) (h y hy), .inl fun x hx => ?_⟩, fun x hx => isF_depth (h x hx)⟩, by rw [sizeLine_eq]; omega⟩
  cases h x hx <;> rfl
abbrev srt (l : List PyData) : List PyData := l.mergeSort (PySem.W.dataLe false id)
theorem sort_perm {l m : List PyData} (h : ∀ d ∈ l, IsF d) (p : l.Perm m) : srt l = srt m := by
  have T := PySem.W.sortLe_total (listOrd itemOrd) false fun b : PyData => PySem.W.keyToks (id b)
  have anti : ∀ a b : PyData, a ∈ srt l → b ∈ srt l → PySem.W.dataLe false id a b = true → PySem.W.dataLe false id b a = true → a = b := by
    intro a b ha hb h1 h2
    have ha := h a (List.mem_mergeSort.mp ha)
    have hb := h b (List.mem_mergeSort.mp hb)
    refine isF_toks ha hb (PyProof.Rows.lex_total (O := itemOrd) _ _ ?_ ?_)
    · have z : (!PyProof.Rows.lexLt itemOrd (PySem.W.keyToks a) (PySem.W.keyToks b)) = true := h2
      simpa using z
    · have z : (!PyProof.Rows.lexLt itemOrd (PySem.W.keyToks b) (PySem.W.keyToks a)) = true := h1
      simpa using z
  have p1 := PySem.W.sort_pairwise T l
  have p2 := PySem.W.sort_pairwise T m
  refine List.Perm.eq_of_pairwise (fun a b ha hb h1 h2 => anti a b ha ?_ h1 h2) p1 p2 ((List.mergeSort_perm l _).trans (p.trans (List.mergeSort_perm m _).symm))
  exact List.mem_mergeSort.mpr (p.mem_iff.mpr (List.mem_mergeSort.mp hb))
def ams (x : Net) : List (List Int) := x.pts.map fun p => amts p.reads
theorem am_at {x : Net} {q : Nat × Pt} (hq : q ∈ enum x.pts) : amAt (ams x) q.1 = amts q.2.reads := by
  have h1 := enum_mem hq
  unfold amAt ams
  rw [List.getD_eq_getElem?_getD, List.getElem?_map, h1]
  rfl
theorem am_ok {x : Net} : AmOk x (ams x) (amts x.main) where
  len := by simp [ams]
  rows := fun q hq => by rw [am_at hq]; simp [amts]
  main := by simp [amts]
def allF (x : Net) (y : Sheet) : List PyData := bndF x y ++ gpF x y (ams x) (amts x.main)
theorem allF_len {x : Net} {y : Sheet} (h : NetOk x) : (allF x y).length ≤ 441 := by
  have h1 := bndF_len (y := y) h
  have h2 := gpF_len (y := y) h am_ok
  unfold allF
  rw [List.length_append]
  omega
theorem allF_isF {x : Net} {y : Sheet} : ∀ d ∈ allF x y, IsF d := fun d hd => by
  unfold allF at hd
  rcases List.mem_append.mp hd with hd | hd
  · exact bnd_isF d hd
  · exact gp_isF d hd
@[simp] theorem bl_sort {l : List PyData} (h : sortOk l = true) : bltV .sorted [.list l] = some (.own (srt l)) := by
  show (if sortOk l = true then some _ else none) = _
  rw [if_pos h]
theorem r15 {x : Net} {y : Sheet} (h : NetOk x) (hy : ShOk x y) : Pyv.run pg (n + 3) 15 [.val (netD x), .val (shD y)] s = .ok (.own (srt (allF x y))) s := by
  show runFd (Pyv.run pg (n + 2)) glD ir15 [.val (netD x), .val (shD y)] s = _
  unfold runFd ir15
  rw [if_pos ⟨rfl, by decide⟩]
  have p2 := h.p2
  have m2 := h.m2
  have hm := rdlen h.main
  have ha := allF_len (y := y) h
  have c14 := r14 (n := n) (s := s) h hy am_ok
  have c6 := r6 (n := n + 1) (s := s) (reads := x.main) (by omega)
  have c13 := r13 (n := n + 1) (s := s) h hy
  have so := sortOk_isF (l := allF x y) allF_isF (by omega)
  simp [evVar, netD, enterC, wipeR, lockW]
  rw [lc_map2 (g := fun p => itD (amts p.reads)) rfl]
  · rw [show PyData.tuple [.int x.many, .tuple (x.pts.map ptD), rdD x.main, rdD x.losses] = netD x from rfl]
    have e : (ams x).map itD = x.pts.map fun p => itD (amts p.reads) := by simp [ams]
    have e2 : List.map (fun p => p.2.2 - p.1.2) (nb x.main) = amts x.main := rfl
    rw [e] at c14
    have hs : (bndF x y).length + (gpF x y (ams x) (amts x.main)).length ≤ sizeLine := by
      have h1 := bndF_len (y := y) h
      have h2 := gpF_len (y := y) h am_ok
      rw [sizeLine_eq]
      omega
    simp [asgW, setR, evVar, doCall, c13, ownAt]
    simp [netD]
    rw [show PyData.tuple [.int x.many, .tuple (x.pts.map ptD), rdD x.main, rdD x.losses] = netD x from rfl]
    unfold allF at so
    simp [c6, e2, c14, hs, so, allF]
  · intro p hp
    have := rdlen (h.pts p hp).reads
    simp [asgTg, setR, evVar, ptD, doCall, r6 (reads := p.reads) (by omega), amts]
  · rw [sizeLine_eq]; omega
theorem r16 {x : Net} {y : Sheet} (h : NetOk x) (hy : ShOk x y) : Pyv.run pg (n + 6) 16 [.val (netD x), .val (shD y)] s = .ok (.val (.tuple (srt (allF x y)))) s := by
  show runFd (Pyv.run pg (n + 5)) glD ir16 [.val (netD x), .val (shD y)] s = _
  unfold runFd ir16
  rw [if_pos ⟨rfl, by decide⟩]
  simp [evVar, doCall, r5 h, r10 h hy, r15 h hy]
theorem r17 {x : Net} {y : Sheet} (h : NetOk x) (hy : ShOk x y) : Pyv.run pg (n + 6) 17 [.val (netD x), .val (shD y)] s = .ok (.val (.bool (decide (allF x y = [])))) s := by
  show runFd (Pyv.run pg (n + 5)) glD ir17 [.val (netD x), .val (shD y)] s = _
  unfold runFd ir17
  rw [if_pos ⟨rfl, by decide⟩]
  have e : (decide ((srt (allF x y)).length = 0)) = decide (allF x y = []) := by
    rw [List.length_mergeSort]
    simp [List.length_eq_zero_iff]
  simp [evVar, doCall, r5 h, r10 h hy, r15 h hy]
end
end K
end
/-! ## P10 -/
section
set_option maxRecDepth 100000
set_option maxHeartbeats 4000000
namespace K
open PySem PySem.Spec PyProof.Rows L2 Pyv
section
variable {call : Nat → List W → DS → RF} {gl : List PyData} {c : Cfg} {rd : Bool} {n : Nat} {s : DS}
@[simp] theorem zipL_map {α β : Type} {l : List α} {m : List β} {e : α → PyData} {f : β → PyData} : zipL (l.map e) (m.map f) = (l.zip m).map fun p => PyData.tuple [e p.1, f p.2] := by
  unfold zipL
  rw [List.zip_map, List.map_map]
  rfl
@[simp] theorem net0 {x : Net} : ix2 (netD x) (.int 0) = some (.val (.int x.many)) := by simp [netD]
@[simp] theorem net1 {x : Net} : ix2 (netD x) (.int 1) = some (.val (.tuple (x.pts.map ptD))) := by simp [netD]
@[simp] theorem net2 {x : Net} : ix2 (netD x) (.int 2) = some (.val (rdD x.main)) := by simp [netD]
@[simp] theorem net3 {x : Net} : ix2 (netD x) (.int 3) = some (.val (rdD x.losses)) := by simp [netD]
@[simp] theorem sh0 {x : Sheet} : ix2 (shD x) (.int 0) = some (.val (.tuple (x.uses.map itD))) := by simp [shD]
@[simp] theorem sh1 {x : Sheet} : ix2 (shD x) (.int 1) = some (.val (itD x.lost)) := by simp [shD]
@[simp] theorem pt0 {x : Pt} : ix2 (ptD x) (.int 0) = some (.val (itD x.caps)) := by simp [ptD]
@[simp] theorem pt1 {x : Pt} : ix2 (ptD x) (.int 1) = some (.val (rdD x.reads)) := by simp [ptD]
@[simp] theorem pr0 {x : Int × Int} : ix2 (prD x) (.int 0) = some (.val (.int x.1)) := by simp [prD]
@[simp] theorem pr1 {x : Int × Int} : ix2 (prD x) (.int 1) = some (.val (.int x.2)) := by simp [prD]
@[simp] theorem len_it {l : List Int} : bltV .len [itD l] = some (.val (.int l.length)) := by simp [itD]
@[simp] theorem len_rd {l : List (Int × Int)} : bltV .len [rdD l] = some (.val (.int l.length)) := by simp [rdD]
structure ChOk (x : Net) (ch : Sheet) : Prop where
  len : ch.uses.length = x.pts.length
  rows : ∀ p ∈ x.pts.zip ch.uses, p.2.length = p.1.reads.length
  main : ch.lost.length = x.main.length
theorem netD_eq {x : Net} : PyData.tuple [.int x.many, .tuple (x.pts.map ptD), rdD x.main, rdD x.losses] = netD x := rfl
theorem r18 {x : Net} {ch : Sheet} (h : NetOk x) (hc : ChOk x ch) : Pyv.run pg (n + 3) 18 [.val (netD x), .val (shD ch)] s = .ok (.val .none) s := by
  show runFd (Pyv.run pg (n + 2)) glD ir18 [.val (netD x), .val (shD ch)] s = _
  unfold runFd ir18
  rw [if_pos ⟨rfl, by decide⟩]
  have p2 := h.p2
  have m2 := h.m2
  have hm := rdlen h.main
  simp [evVar, shD, netD, notNone, isTy, tyN, tyB, hc.len, enterC, wipeR, lockW]
  rw [lc_map2 (g := fun _ => .bool true) rfl]
  · have := bl_all (l := ch.uses.zip x.pts) (p := fun _ => true)
    have e1 : bltV .len [rdD x.main] = some (.val (.int x.main.length)) := by simp [rdD]
    simp [this, evVar, doCall, e1, r8 hc.main (by omega)]
  · intro p hp
    have hz : (p.2, p.1) ∈ x.pts.zip ch.uses := by
      obtain ⟨i, hi, e⟩ := List.mem_iff_getElem.mp hp
      rw [List.length_zip] at hi
      refine List.mem_iff_getElem.mpr ⟨i, by rw [List.length_zip]; omega, ?_⟩
      rw [List.getElem_zip] at e ⊢
      rw [← e]
    have e1 : p.1.length = p.2.reads.length := hc.rows _ hz
    have h2 := rdlen (h.pts _ (List.of_mem_zip hp).2).reads
    have e2 : bltV .len [rdD p.2.reads] = some (.val (.int p.2.reads.length)) := by simp [rdD]
    simp [asgTg, asgTgs, setR, evVar, ptD, e2, doCall, r8 e1 (by omega)]
  · rw [sizeLine_eq, List.length_zip]; omega
theorem r19 {x : Net} {ch : Sheet} (h : NetOk x) (hc : ChOk x ch) : Pyv.run pg (n + 4) 19 [.val (netD x), .val (shD ch)] s = .ok (.val .none) s := by
  show runFd (Pyv.run pg (n + 3)) glD ir19 [.val (netD x), .val (shD ch)] s = _
  unfold runFd ir19
  rw [if_pos ⟨rfl, by decide⟩]
  simp [evVar, doCall, r18 h hc, asgW, asgTg, setR, cmp2, isNoneD]
def chR (reads : List (Int × Int)) (row : List Int) : List (Int × Int) := (reads.zip row).map fun p => (p.1.1, p.1.2 + p.2)
theorem r20 {reads : List (Int × Int)} {row : List Int} (h : reads.length ≤ 1000) : Pyv.run pg (n + 1) 20 [.val (rdD reads), .val (itD row)] s = .ok (.val (rdD (chR reads row))) s := by
  show runFd (Pyv.run pg n) glD ir20 [.val (rdD reads), .val (itD row)] s = _
  unfold runFd ir20
  rw [if_pos ⟨rfl, by decide⟩]
  simp [evVar, rdD, itD, enterC, wipeR, lockW]
  rw [lc_map2 (g := fun p => prD (p.1.1, p.1.2 + p.2)) rfl]
  · simp [chR, Function.comp_def]
  · intro p hp
    simp [asgTg, asgTgs, setR, evVar, prD]
  · rw [sizeLine_eq, List.length_zip]; omega
def amC (x : Net) (ch : Sheet) : List (List Int) := (x.pts.zip ch.uses).map fun p => amts (chR p.1.reads p.2)
theorem chR_len {r : List (Int × Int)} {row : List Int} (h : row.length = r.length) : (chR r row).length = r.length := by simp [chR, h]
theorem amC_ok {x : Net} {ch : Sheet} (hc : ChOk x ch) : AmOk x (amC x ch) (amts (chR x.main ch.lost)) where
  len := by simp [amC, hc.len]
  rows := fun q hq => by
    have h1 := enum_mem hq
    obtain ⟨hi, h2⟩ := List.getElem?_eq_some_iff.mp h1
    have hi2 : q.1 < ch.uses.length := by rw [hc.len]; exact hi
    have hz : (x.pts.zip ch.uses)[q.1]? = some (q.2, ch.uses[q.1]) := by
      rw [List.getElem?_eq_getElem (by rw [List.length_zip]; omega), List.getElem_zip, h2]
    have e : amAt (amC x ch) q.1 = amts (chR q.2.reads ch.uses[q.1]) := by
      unfold amAt amC
      rw [List.getD_eq_getElem?_getD, List.getElem?_map, hz]
      rfl
    have e1 := hc.rows _ (List.mem_of_getElem? hz)
    have e2 := chR_len e1
    rw [e]
    simp [amts, nb, e2]
  main := by
    have := chR_len hc.main
    simp [amts, nb, this]
def behF (x : Net) (y ch : Sheet) : List PyData := bndF x y ++ gpF x y (amC x ch) (amts (chR x.main ch.lost))
theorem r21 {x : Net} {y ch : Sheet} (h : NetOk x) (hy : ShOk x y) (hc : ChOk x ch) : Pyv.run pg (n + 3) 21 [.val (netD x), .val (shD y), .val (shD ch)] s = .ok (.own (behF x y ch)) s := by
  show runFd (Pyv.run pg (n + 2)) glD ir21 [.val (netD x), .val (shD y), .val (shD ch)] s = _
  unfold runFd ir21
  rw [if_pos ⟨rfl, by decide⟩]
  have p2 := h.p2
  have m2 := h.m2
  have hm := rdlen h.main
  have c13 := r13 (n := n + 1) (s := s) h hy
  have c14 := r14 (n := n) (s := s) h hy (amC_ok hc)
  have e : (amC x ch).map itD = (x.pts.zip ch.uses).map fun p => itD (amts (chR p.1.reads p.2)) := by simp [amC]
  rw [e] at c14
  simp [evVar, enterC, wipeR, lockW]
  rw [lc_map2 (g := fun p => itD (amts (chR p.1.reads p.2))) rfl]
  · have l2 := chR_len hc.main
    have c20 := r20 (n := n + 1) (s := s) (reads := x.main) (row := ch.lost) (by omega)
    have c6 := r6 (n := n + 1) (s := s) (reads := chR x.main ch.lost) (by omega)
    have e2 : List.map (fun p => p.2.2 - p.1.2) (nb (chR x.main ch.lost)) = amts (chR x.main ch.lost) := rfl
    have hs : (bndF x y).length + (gpF x y (amC x ch) (amts (chR x.main ch.lost))).length ≤ sizeLine := by
      have h1 := bndF_len (y := y) h
      have h2 := gpF_len (y := y) h (amC_ok hc)
      rw [sizeLine_eq]
      omega
    simp [asgW, asgTg, setR, evVar, doCall, c20, c6, e2, c13, c14, hs, behF]
  · intro p hp
    have h2 := rdlen (h.pts _ (List.of_mem_zip hp).1).reads
    have l2 := chR_len (hc.rows p hp)
    have c20 := r20 (n := n + 1) (s := s) (reads := p.1.reads) (row := p.2) (by omega)
    have c6 := r6 (n := n + 1) (s := s) (reads := chR p.1.reads p.2) (by omega)
    have e2 : List.map (fun p => p.2.2 - p.1.2) (nb (chR p.1.reads p.2)) = amts (chR p.1.reads p.2) := rfl
    simp [asgTg, asgTgs, setR, evVar, ptD, doCall, c20, c6, e2]
  · rw [sizeLine_eq, List.length_zip]; omega
theorem r22 {x : Net} {y ch : Sheet} (h : NetOk x) (hy : ShOk x y) (hc : ChOk x ch) : Pyv.run pg (n + 6) 22 [.val (netD x), .val (shD y), .val (shD ch)] s = .ok (.val (.bool (decide (behF x y ch = [])))) s := by
  show runFd (Pyv.run pg (n + 5)) glD ir22 [.val (netD x), .val (shD y), .val (shD ch)] s = _
  unfold runFd ir22
  rw [if_pos ⟨rfl, by decide⟩]
  simp [evVar, doCall, r5 h, r10 h hy, r19 h hc, r21 h hy hc]
end
end K
end
/-! ## P11 -/
section
set_option maxRecDepth 100000
set_option maxHeartbeats 4000000
namespace K
open PySem PySem.Spec PyProof.Rows L2 Pyv
section
variable {call : Nat → List W → DS → RF} {gl : List PyData} {c : Cfg} {rd : Bool} {n : Nat} {s : DS}
inductive Mk where
  | t | l | m
  deriving DecidableEq
def mkS : Mk → PyData
  | .t => .str "true"
  | .l => .str "less"
  | .m => .str "more"
def mksD (l : List Mk) : PyData := .tuple (l.map mkS)
def dbD (d : List (List Mk)) : PyData := .tuple (d.map mksD)
@[simp] theorem len_mk {l : List Mk} : bltV .len [mksD l] = some (.val (.int l.length)) := by simp [mksD]
@[simp] theorem g4 : (glD[4]? : Option PyData) = some (.str "true") := rfl
@[simp] theorem g5 : (glD[5]? : Option PyData) = some (.str "less") := rfl
@[simp] theorem g6 : (glD[6]? : Option PyData) = some (.str "more") := rfl
@[simp] theorem g7 : (glD[7]? : Option PyData) = some (.tuple [.str "true", .str "less", .str "more"]) := rfl
theorem mk_in {k : Mk} : cmp2 .In (mkS k) (.tuple [.str "true", .str "less", .str "more"]) = some true := by
  cases k <;> rfl
theorem mk_isi {k : Mk} : bltV (.isi ["str"]) [mkS k] = some (.val (.bool true)) := by
  cases k <;> rfl
theorem r23 {l : List Mk} {many : Nat} (h : l.length = many) (hm : many ≤ 1000) : Pyv.run pg (n + 1) 23 [.val (mksD l), .val (.int many)] s = .ok (.val (.bool true)) s := by
  show runFd (Pyv.run pg n) glD ir23 [.val (mksD l), .val (.int many)] s = _
  subst h
  unfold runFd ir23
  rw [if_pos ⟨rfl, by decide⟩]
  simp [evVar, mksD, notNone, isTy, tyN, tyB, enterC, wipeR, lockW]
  rw [lc_map2 (g := fun _ => .bool true) rfl]
  · have := bl_all (l := l) (p := fun _ => true)
    simp [this]
  · intro p hp
    simp [-isi_str, asgTg, setR, evVar, mk_isi, mk_in]
  · rw [sizeLine_eq]; omega
def dAt (d : List (List Mk)) (n : Nat) : List Mk := d.getD n []
structure DbOk (x : Net) (d : List (List Mk)) : Prop where
  len : d.length = x.pts.length
  rows : ∀ q ∈ enum x.pts, (dAt d q.1).length = (nb q.2.reads).length
theorem d_at {x : Net} {d : List (List Mk)} {q : Nat × Pt} (hd : DbOk x d) (hq : q ∈ enum x.pts) : atI (d.map mksD) (q.1 : Int) = some (mksD (dAt d q.1)) := by
  have h1 := enum_mem hq
  obtain ⟨hi, _⟩ := List.getElem?_eq_some_iff.mp h1
  exact at_map (by rw [dAt, List.getD_eq_getElem?_getD, List.getElem?_eq_getElem (by rw [hd.len]; exact hi)]; rfl)
theorem db_notNone {d : List (List Mk)} : bltV (.isi ["tuple"]) [dbD d] = some (.val (.bool true)) := rfl
theorem db_len {d : List (List Mk)} : bltV .len [dbD d] = some (.val (.int d.length)) := by simp [dbD]
theorem r24 {x : Net} {d : List (List Mk)} (h : NetOk x) (hd : DbOk x d) : Pyv.run pg (n + 2) 24 [.val (netD x), .val (dbD d)] s = .ok (.val (dbD d)) s := by
  show runFd (Pyv.run pg (n + 1)) glD ir24 [.val (netD x), .val (dbD d)] s = _
  unfold runFd ir24
  rw [if_pos ⟨rfl, by decide⟩]
  simp [-isi_tuple, evVar, db_notNone, db_len, hd.len, enumL_map]
  generalize hF : forLoop _ _ _ _ = o
  obtain ⟨c', rfl, w2, w3, rfl, _⟩ := for_use hF (fun rest c => ∃ w2 w3, c = ⟨[some (.val (netD x)), some (.val (dbD d)), w2, w3], s⟩ ∧ ∀ q ∈ rest, q ∈ enum x.pts)
    (fun q r c ⟨w2, w3, e, hr⟩ => by
      subst e
      have hq := hr q (List.mem_cons_self ..)
      have hp := (h.pts _ (List.mem_of_getElem? (enum_mem hq))).reads
      have h2 := rdlen hp
      have m2 := h.m2
      have h3 := nb_len (l := q.2.reads)
      have e1 := d_at hd hq
      refine ⟨_, rfl, ⟨[some (.val (netD x)), some (.val (dbD d)), some (.val (.int (q.1 : Nat))), some (.val (ptD q.2))], s⟩, ?_, _, _, rfl, fun z hz => hr z (List.mem_cons_of_mem _ hz)⟩
      have c6 := r6 (n := n) (s := s) (reads := q.2.reads) (by omega)
      have c23 := r23 (n := n) (s := s) (hd.rows q hq) (by omega)
      have e2 : ix2 (dbD d) (.int (q.1 : Nat)) = some (.val (mksD (dAt d q.1))) := by simp [dbD, e1]
      simp [evVar, doCall, c6, c23, setR, e2]) ⟨none, none, rfl, fun q hq => hq⟩
  simp [ownAt, evVar]
end
end K
end
/-! ## P12 -/
section
set_option maxRecDepth 100000
set_option maxHeartbeats 4000000
namespace K
open PySem PySem.Spec PyProof.Rows L2 Pyv
section
variable {call : Nat → List W → DS → RF} {gl : List PyData} {c : Cfg} {rd : Bool} {n : Nat} {s : DS}
theorem r25 {x : Net} {d : List (List Mk)} (h : NetOk x) (hd : DbOk x d) : Pyv.run pg (n + 6) 25 [.val (netD x), .val (dbD d)] s = .ok (.val (dbD d)) s := by
  show runFd (Pyv.run pg (n + 5)) glD ir25 [.val (netD x), .val (dbD d)] s = _
  unfold runFd ir25
  rw [if_pos ⟨rfl, by decide⟩]
  simp [evVar, doCall, r5 h, r24 h hd]
def npD (l : List Nat) : PyData := .tuple (l.map fun i => .int (i : Nat))
def ascL (many : Nat) : List Nat → Prop
  | [] => True
  | [a] => a < many
  | a :: b :: r => a < b ∧ ascL many (b :: r)
theorem ascL_lt {many : Nat} : ∀ {l : List Nat}, ascL many l → ∀ a ∈ l, a < many
  | [], _, a, h => by cases h
  | [a], h, b, hb => by rw [List.mem_singleton] at hb; subst hb; exact h
  | a :: b :: r, ⟨h1, h2⟩, z, hz => by
    have h3 := ascL_lt h2 b (List.mem_cons_self ..)
    rcases List.mem_cons.mp hz with hz | hz
    · omega
    · exact ascL_lt h2 z hz
theorem ascL_nb {many : Nat} : ∀ {l : List Nat}, ascL many l → ∀ p ∈ nb l, p.1 < p.2
  | [], _, p, h => by cases h
  | [a], _, p, h => by cases h
  | a :: b :: r, ⟨h1, h2⟩, p, hp => by
    unfold nb at hp
    rcases List.mem_cons.mp hp with hp | hp
    · subst hp; exact h1
    · exact ascL_nb h2 p hp
theorem ascL_len {many : Nat} : ∀ {l : List Nat}, ascL many l → l.length ≤ many
  | [], _ => Nat.zero_le _
  | [a], h => by show 1 ≤ many; have : a < many := h; omega
  | a :: b :: r, h => by
    have key : ∀ (l : List Nat) (a : Nat), ascL many (a :: l) → a + (l.length + 1) ≤ many := by
      intro l
      induction l with
      | nil => intro a h; have : a < many := h; simp; omega
      | cons b r ih =>
        intro a ⟨h1, h2⟩
        have := ih b h2
        simp only [List.length_cons]
        omega
    have := key _ _ h
    simp only [List.length_cons] at this ⊢
    omega
theorem r26 {x : Net} {l : List Nat} (h : NetOk x) (hl : ascL x.pts.length l) : Pyv.run pg (n + 3) 26 [.val (netD x), .val (npD l)] s = .ok (.val .none) s := by
  show runFd (Pyv.run pg (n + 2)) glD ir26 [.val (netD x), .val (npD l)] s = _
  unfold runFd ir26
  rw [if_pos ⟨rfl, by decide⟩]
  have p2 := h.p2
  have hlen := ascL_len hl
  simp [-src_zip, evVar, npD, notNone, isTy, tyN, tyB, enterC, wipeR, lockW]
  rw [lc_map2 (g := fun _ => .bool true) rfl]
  · have := bl_all (l := l) (p := fun _ => true)
    simp [-src_zip, this]
    rw [src_nb (xs := l) (e := fun i => .int (i : Nat)) rfl]
    simp [enterC, wipeR, lockW]
    rw [lc_map2 (g := fun _ => .bool true) rfl]
    · have := bl_all (l := nb l) (p := fun _ => true)
      simp [this]
    · intro p hp
      have := ascL_nb hl p hp
      simp [asgTg, asgTgs, setR, evVar, this]
    · rw [sizeLine_eq, nb, List.length_zip]; omega
  · intro a ha
    have h3 := ascL_lt hl a ha
    have q1 : (0 : Int) ≤ a := by omega
    have q2 : (a : Int) ≤ x.pts.length - 1 := by omega
    simp [asgTg, asgTgs, setR, evVar, doCall, r1, q1, q2]
  · rw [sizeLine_eq]; omega
def marksOf (x : Net) (l : List Nat) : List (List Mk) := (enum x.pts).map fun q => List.replicate (nb q.2.reads).length (if q.1 ∈ l then Mk.l else Mk.t)
theorem mul1 {d : PyData} {k : Nat} (h : k ≤ 1000) : bin2 .Mult (.tuple [d]) (.int (k : Nat)) = some (.val (.tuple (List.replicate k d))) := by
  show (if [d].length = 1 ∧ (0 : Int) ≤ (k : Int) ∧ (k : Int) ≤ 1000 then some (W.val (.tuple (List.replicate (k : Int).toNat [d]).flatten)) else none) = _
  rw [if_pos ⟨rfl, by omega, by omega⟩]
  congr 3
  rw [Int.toNat_natCast]
  clear h
  induction k with
  | zero => rfl
  | succ k ih => rw [List.replicate_succ, List.flatten_cons, ih]; rfl
theorem in_nat {l : List Nat} {i : Nat} : cmp2 .In (.int (i : Nat)) (npD l) = some (decide (i ∈ l)) := by
  unfold npD
  show (if flatD (.int (i : Nat)) = true ∧ (l.map fun i => PyData.int (i : Nat)).all flatD = true then some ((l.map fun i => PyData.int (i : Nat)).any fun z => PyData.eqv z (.int (i : Nat))) else none) = _
  rw [if_pos ⟨rfl, by simp [flatD]⟩]
  congr 1
  rw [Bool.eq_iff_iff]
  simp
  constructor
  · rintro ⟨a, ha, e⟩; have : a = i := by omega
    subst this; exact ha
  · intro h; exact ⟨i, h, rfl⟩
theorem r27 {x : Net} {l : List Nat} (h : NetOk x) : Pyv.run pg (n + 2) 27 [.val (netD x), .val (npD l)] s = .ok (.val (dbD (marksOf x l))) s := by
  show runFd (Pyv.run pg (n + 1)) glD ir27 [.val (netD x), .val (npD l)] s = _
  unfold runFd ir27
  rw [if_pos ⟨rfl, by decide⟩]
  have p2 := h.p2
  simp [evVar, mkLst, dats, asgW, asgTg, setR, enumL_map]
  generalize hF : forLoop _ _ _ _ = o
  obtain ⟨c1, rfl, w3, w4, rfl⟩ := acc_use hF (fun acc c => ∃ w3 w4, c = ⟨[some (.val (netD x)), some (.val (npD l)), some (.own acc), w3, w4], s⟩) (fun q => [mksD (List.replicate (nb q.2.reads).length (if q.1 ∈ l then Mk.l else Mk.t))]) (acc := []) 1000
    (fun q hq acc c hl ⟨w3, w4, e⟩ => by
      subst e
      have hp := (h.pts _ (List.mem_of_getElem? (enum_mem hq))).reads
      have h2 := rdlen hp
      have m2 := h.m2
      have h3 := nb_len (l := q.2.reads)
      have hs : acc.length < sizeLine := by rw [sizeLine_eq]; simp at hl; omega
      have c6 := r6 (n := n) (s := s) (reads := q.2.reads) (by omega)
      have hk : (nb q.2.reads).length ≤ 1000 := by omega
      refine ⟨_, rfl, ⟨[some (.val (netD x)), some (.val (npD l)), some (.own (acc ++ [mksD (List.replicate (nb q.2.reads).length (if q.1 ∈ l then Mk.l else Mk.t))])), some (.val (.int (q.1 : Nat))), some (.val (ptD q.2))], s⟩, ?_, _, _, rfl⟩
      by_cases z : q.1 ∈ l <;>
        simp [evVar, setR, ownAt, in_nat, z, doCall, c6, mul1 hk, hs, mksD, mkS])
    (by
      have := fm_len (G := fun q : Nat × Pt => [mksD (List.replicate (nb q.2.reads).length (if q.1 ∈ l then Mk.l else Mk.t))]) (b := 1) (l := enum x.pts) fun _ _ => by simp
      rw [enum_len] at this
      rw [List.length_nil]; omega) ⟨none, none, rfl⟩
  simp [evVar, dbD, marksOf, List.flatMap_singleton', ← List.map_eq_flatMap, Function.comp_def]
theorem r28 {x : Net} {l : List Nat} (h : NetOk x) (hl : ascL x.pts.length l) : Pyv.run pg (n + 6) 28 [.val (netD x), .val (npD l)] s = .ok (.val (dbD (marksOf x l))) s := by
  show runFd (Pyv.run pg (n + 5)) glD ir28 [.val (netD x), .val (npD l)] s = _
  unfold runFd ir28
  rw [if_pos ⟨rfl, by decide⟩]
  simp [evVar, doCall, r5 h, r26 h hl, r27 h]
def hidRow (r : List (Int × Int)) (row : List Int) : List Int := ((gapS r row).zip (amts r)).map fun q => q.1 - q.2
def hid (x : Net) (y : Sheet) : List (List Int) := (x.pts.zip y.uses).map fun p => hidRow p.1.reads p.2
def rowsD (l : List (List Int)) : PyData := .tuple (l.map itD)
theorem r29 {x : Net} {y : Sheet} (h : NetOk x) : Pyv.run pg (n + 2) 29 [.val (netD x), .val (shD y)] s = .ok (.val (rowsD (hid x y))) s := by
  show runFd (Pyv.run pg (n + 1)) glD ir29 [.val (netD x), .val (shD y)] s = _
  unfold runFd ir29
  rw [if_pos ⟨rfl, by decide⟩]
  have p2 := h.p2
  simp [evVar, mkLst, dats, asgW, asgTg, setR]
  generalize hF : forLoop _ _ _ _ = o
  obtain ⟨c1, rfl, w3, w4, rfl⟩ := acc_use hF (fun acc c => ∃ w3 w4, c = ⟨[some (.val (netD x)), some (.val (shD y)), some (.own acc), w3, w4, none, none], s⟩) (fun q => [itD (hidRow q.1.reads q.2)]) (acc := []) 1000
    (fun q hq acc c hl ⟨w3, w4, e⟩ => by
      subst e
      have hp := (h.pts _ (List.of_mem_zip hq).1).reads
      have h2 := rdlen hp
      have m2 := h.m2
      have h3 := nb_len (l := q.1.reads)
      have hs : acc.length < sizeLine := by rw [sizeLine_eq]; simp at hl; omega
      have c6 := r6 (n := n) (s := s) (reads := q.1.reads) (by omega)
      have c11 := r11 (n := n) (s := s) (reads := q.1.reads) (row := q.2) (by omega)
      have hk : (nb q.1.reads).length ≤ 1000 := by omega
      refine ⟨_, rfl, ⟨[some (.val (netD x)), some (.val (shD y)), some (.own (acc ++ [itD (hidRow q.1.reads q.2)])), some (.val (ptD q.1)), some (.val (itD q.2)), none, none], s⟩, ?_, _, _, rfl⟩
      simp [evVar, setR, ownAt, doCall, c11, c6]
      simp [itD, enterC, wipeR, lockW]
      rw [lc_map3 (g := fun q => .int (q.1 - (q.2.2.2 - q.2.1.2)))]
      · simp [hs, hidRow, amts, List.zip_map_right, Function.comp_def]
      · intro p hp
        simp [asgTg, asgTgs, setR, evVar]
      · rw [sizeLine_eq, List.length_zip]; simp; omega)
    (by
      have := fm_len (G := fun q : Pt × List Int => [itD (hidRow q.1.reads q.2)]) (b := 1) (l := x.pts.zip y.uses) fun _ _ => by simp
      rw [List.length_zip] at this
      rw [List.length_nil]; omega) ⟨none, none, rfl⟩
  simp [evVar, rowsD, hid, ← List.map_eq_flatMap, Function.comp_def]
end
end K
end
/-! ## P13 -/
section
set_option maxRecDepth 100000
set_option maxHeartbeats 4000000
namespace K
open PySem PySem.Spec PyProof.Rows L2 Pyv
section
variable {call : Nat → List W → DS → RF} {gl : List PyData} {c : Cfg} {rd : Bool} {n : Nat} {s : DS}
/-- a loop that leaves early -/
theorem for_all {α : Type} {tg : Tg} {f : Cfg → Out} {e : α → PyData} (P R : Cfg → Prop) (p : α → Bool) (v : W) : ∀ (xs : List α) (c : Cfg),
    (∀ x ∈ xs, ∀ c, P c → ∃ c1, asgTg tg (e x) c = some c1 ∧ ∃ c2, (p x = true ∧ f c1 = .next c2 ∧ P c2) ∨ (p x = false ∧ f c1 = .ret v c2 ∧ R c2)) → P c →
    ∃ c', (xs.all p = true ∧ forLoop tg f (xs.map e) c = .next c' ∧ P c') ∨ (xs.all p = false ∧ forLoop tg f (xs.map e) c = .ret v c' ∧ R c')
  | [], c, _, h => ⟨c, .inl ⟨rfl, rfl, h⟩⟩
  | x :: xs, c, st, h => by
    obtain ⟨c1, e1, c2, ⟨p1, e2, h2⟩ | ⟨p1, e2, h2⟩⟩ := st x (List.mem_cons_self ..) c h
    · obtain ⟨c', h3⟩ := for_all P R p v xs c2 (fun y hy => st y (List.mem_cons_of_mem _ hy)) h2
      refine ⟨c', ?_⟩
      rw [List.map_cons, List.all_cons, p1, Bool.true_and]
      unfold forLoop
      rw [e1]
      dsimp only
      rw [e2]
      exact h3
    · refine ⟨c2, .inr ⟨?_, ?_, h2⟩⟩
      · rw [List.all_cons, p1, Bool.false_and]
      · rw [List.map_cons]
        unfold forLoop
        rw [e1]
        dsimp only
        rw [e2]
theorem all_use {α : Type} {tg : Tg} {f : Cfg → Out} {e : α → PyData} {xs : List α} {c : Cfg} {o : Out} (hF : forLoop tg f (xs.map e) c = o) (P R : Cfg → Prop) (p : α → Bool) (v : W)
    (st : ∀ x ∈ xs, ∀ c, P c → ∃ c1, asgTg tg (e x) c = some c1 ∧ ∃ c2, (p x = true ∧ f c1 = .next c2 ∧ P c2) ∨ (p x = false ∧ f c1 = .ret v c2 ∧ R c2)) (h : P c) :
    ∃ c', (xs.all p = true ∧ o = .next c' ∧ P c') ∨ (xs.all p = false ∧ o = .ret v c' ∧ R c') := by
  subst hF
  exact for_all P R p v xs c st h
def allow : Mk → Int → Bool
  | .t, v => decide (v = 0)
  | .l, v => decide (0 ≤ v)
  | .m, v => decide (v ≤ 0)
theorem mk_eq (a b : Mk) : cmp2 .Eq (mkS a) (mkS b) = some (decide (a = b)) := by
  cases a <;> cases b <;> decide +kernel
theorem r30 {k : Mk} {v : Int} : Pyv.run pg (n + 1) 30 [.val (mkS k), .val (.int v)] s = .ok (.val (.bool (allow k v))) s := by
  show runFd (Pyv.run pg n) glD ir30 [.val (mkS k), .val (.int v)] s = _
  unfold runFd ir30
  rw [if_pos ⟨rfl, by decide⟩]
  have e1 : cmp2 .Eq (mkS k) (.str "less") = some (decide (k = .l)) := mk_eq k .l
  have e2 : cmp2 .Eq (mkS k) (.str "more") = some (decide (k = .m)) := mk_eq k .m
  cases k <;> simp [evVar, e1, e2, allow]
theorem ints_lay : ∀ (l : List Int), PyData.canLayAll0 (l.map PyData.int) = true ∧ PyData.depthAll (l.map PyData.int) ≤ 0
  | [] => by simp [PyData.canLayAll0, PyData.depthAll]
  | x :: l => by
    obtain ⟨h1, h2⟩ := ints_lay l
    simp only [List.map_cons, PyData.canLayAll0, PyData.depthAll, PyData.canLay0, PyData.depth, h1, Bool.and_self, true_and]
    exact Nat.max_le.mpr ⟨Nat.le_refl _, h2⟩
theorem shaped_it (l : List Int) : SeqAt.shaped (itD l) = true := by
  obtain ⟨h1, h2⟩ := ints_lay l
  unfold SeqAt.shaped
  rw [Bool.and_eq_true, decide_eq_true_eq]
  refine ⟨?_, ?_⟩
  · rw [itD, PyData.canLay0]; exact h1
  · rw [itD, PyData.depth]; exact Nat.le_trans (Nat.succ_le_succ h2) (by decide)
theorem eqv_it : ∀ (l m : List Int), PyData.eqvAll (l.map PyData.int) (m.map PyData.int) = decide (l = m)
  | [], [] => rfl
  | [], _ :: _ => rfl
  | _ :: _, [] => rfl
  | a :: l, b :: m => by
    rw [List.map_cons, List.map_cons, PySem.W.eqv_all_cons, eqv_int, eqv_it l m, ← Bool.decide_and]
    simp
theorem ne_it {l m : List Int} : cmp2 .NotEq (itD l) (itD m) = some (!decide (l = m)) := by
  show (if SeqAt.shaped (itD l) = true ∧ SeqAt.shaped (itD m) = true then some (!PyData.eqv (itD l) (itD m)) else none) = _
  rw [if_pos ⟨shaped_it l, shaped_it m⟩]
  congr 2
  show PyData.eqv (.tuple (l.map .int)) (.tuple (m.map .int)) = _
  rw [PyData.eqv, eqv_it]
def rowServes (p : List Mk × List Int) : Bool := (p.1.zip p.2).all fun q => allow q.1 q.2
def isBnd (x : Net) (y : Sheet) : Bool := decide (bndF x y = []) && decide (gapS x.main (thru x y) = amts x.main)
def srv (x : Net) (d : List (List Mk)) (y : Sheet) : Bool := isBnd x y && (d.zip (hid x y)).all rowServes
theorem r31 {x : Net} {d : List (List Mk)} {y : Sheet} (h : NetOk x) (hy : ShOk x y) (hd : DbOk x d) : Pyv.run pg (n + 3) 31 [.val (netD x), .val (dbD d), .val (shD y)] s = .ok (.val (.bool (srv x d y))) s := by
  show runFd (Pyv.run pg (n + 2)) glD ir31 [.val (netD x), .val (dbD d), .val (shD y)] s = _
  unfold runFd ir31
  rw [if_pos ⟨rfl, by decide⟩]
  have p2 := h.p2
  have m2 := h.m2
  have hm := rdlen h.main
  have c13 := r13 (n := n + 1) (s := s) h hy
  have c12 := r12 (n := n + 1) (s := s) h hy
  have c11 := r11 (n := n + 1) (s := s) (reads := x.main) (row := thru x y) (by omega)
  have c6 := r6 (n := n + 1) (s := s) (reads := x.main) (by omega)
  have e2 : List.map (fun p => p.2.2 - p.1.2) (nb x.main) = amts x.main := rfl
  rw [e2] at c6
  have c29 := r29 (n := n) (s := s) (y := y) h
  simp [evVar, doCall, c13]
  by_cases z1 : bndF x y = []
  · have q1 : (bndF x y).length = 0 := by rw [z1]; rfl
    simp [q1, doCall, evVar, c12, c11, c6, ne_it]
    by_cases z2 : gapS x.main (thru x y) = amts x.main
    · simp [z2, evVar, doCall, c29]
      simp [dbD, rowsD]
      generalize hF : forLoop _ _ _ _ = o
      obtain ⟨c', ⟨a1, rfl, _⟩ | ⟨a1, rfl, a2⟩⟩ := all_use hF (fun c => ∃ w3 w4, c = ⟨[some (.val (netD x)), some (.val (dbD d)), some (.val (shD y)), w3, w4, none, none], s⟩) (fun c => c.s = s) rowServes (.val (.bool false))
        (fun q hq c ⟨w3, w4, e⟩ => by
          subst e
          have hr2 : q.2.length ≤ 25 := by
            obtain ⟨z, hz, e⟩ := List.mem_map.mp (List.of_mem_zip hq).2
            have h1 := rdlen (h.pts _ (List.of_mem_zip hz).1).reads
            have h2 := nb_len (l := z.1.reads)
            rw [← e]
            simp [hidRow, amts]
            omega
          refine ⟨_, rfl, ⟨[some (.val (netD x)), some (.val (dbD d)), some (.val (shD y)), some (.val (mksD q.1)), some (.val (itD q.2)), none, none], s⟩, ?_⟩
          have hb := bl_all (l := q.1.zip q.2) (p := fun z => allow z.1 z.2)
          have key : evSs (Pyv.run pg (n + 2)) glD (.cons (.ifS (.not (.val (.blt .all (.cons (.lc (.call 30 (.cons (.var 5) (.cons (.var 6) .nil))) (.tup [(.name 5), (.name 6)]) (.zip (.var 3) (.var 4)) .no [5, 6]) .nil)))) (.cons (.ret (.lit (.bool false))) .nil) .nil) .nil)
              ⟨[some (.val (netD x)), some (.val (dbD d)), some (.val (shD y)), some (.val (mksD q.1)), some (.val (itD q.2)), none, none], s⟩ =
              if rowServes q = true then .next ⟨[some (.val (netD x)), some (.val (dbD d)), some (.val (shD y)), some (.val (mksD q.1)), some (.val (itD q.2)), none, none], s⟩ else .ret (.val (.bool false)) ⟨[some (.val (netD x)), some (.val (dbD d)), some (.val (shD y)), some (.val (mksD q.1)), some (.val (itD q.2)), none, none], s⟩ := by
            simp [evVar]
            simp [mksD, itD, enterC, wipeR, lockW]
            rw [lc_map3 (g := fun z => .bool (allow z.1 z.2))]
            · by_cases hz : ((q.1.zip q.2).all fun z => allow z.1 z.2) = true <;> simp [-List.all_eq_true, hb, rowServes, hz]
            · intro z hz
              simp [asgTg, asgTgs, setR, evVar, doCall, r30]
            · rw [sizeLine_eq, List.length_zip]; omega
          rw [show setR _ 4 _ = (⟨[some (.val (netD x)), some (.val (dbD d)), some (.val (shD y)), some (.val (mksD q.1)), some (.val (itD q.2)), none, none], s⟩ : Cfg) from rfl] at *
          cases hz : rowServes q with
          | true => exact .inl ⟨rfl, by rw [hz] at key; exact key, _, _, rfl⟩
          | false => exact .inr ⟨rfl, by rw [hz] at key; exact key, rfl⟩) ⟨none, none, rfl⟩
      · rename_i a3
        obtain ⟨w3, w4, rfl⟩ := a3
        simp [srv, isBnd, z1, z2, a1]
      · simp [srv, isBnd, z1, z2, a1, a2]
    · simp [z2, srv, isBnd]
  · have q1 : ¬ (bndF x y).length = 0 := by simpa [List.length_eq_zero_iff] using z1
    have q2 : 0 < (bndF x y).length := by omega
    simp [q2, srv, isBnd, z1]
theorem r32 {x : Net} {d : List (List Mk)} {y : Sheet} (h : NetOk x) (hy : ShOk x y) (hd : DbOk x d) : Pyv.run pg (n + 7) 32 [.val (netD x), .val (dbD d), .val (shD y)] s = .ok (.val (.bool (srv x d y))) s := by
  show runFd (Pyv.run pg (n + 6)) glD ir32 [.val (netD x), .val (dbD d), .val (shD y)] s = _
  unfold runFd ir32
  rw [if_pos ⟨rfl, by decide⟩]
  simp [evVar, doCall, r25 h hd, r10 h hy, r31 h hy hd]
theorem r33 {x : Net} {y : Sheet} (h : NetOk x) (hy : ShOk x y) : Pyv.run pg (n + 6) 33 [.val (netD x), .val (shD y)] s = .ok (.val (rowsD (hid x y))) s := by
  show runFd (Pyv.run pg (n + 5)) glD ir33 [.val (netD x), .val (shD y)] s = _
  unfold runFd ir33
  rw [if_pos ⟨rfl, by decide⟩]
  simp [evVar, doCall, r5 h, r10 h hy, r29 h]
end
end K
end
/-! ## P14 -/
section
set_option maxRecDepth 100000
set_option maxHeartbeats 4000000
namespace K
open PySem PySem.Spec PyProof.Rows L2 Pyv
section
variable {call : Nat → List W → DS → RF} {gl : List PyData} {c : Cfg} {rd : Bool} {n : Nat} {s : DS}
def atomD : PyData → Prop
  | .bool _ => True
  | .int _ => True
  | .str x => PyData.strOk x = true
  | _ => False
/-- of plain kinds, so deep at most -/
def likeOk : Nat → PyData → Prop
  | 0, d => atomD d
  | k + 1, d => atomD d ∨ ∃ ds, (d = .tuple ds ∨ d = .list ds) ∧ ds.length ≤ 1000 ∧ ∀ e ∈ ds, likeOk k e
theorem likeOk.mono {k : Nat} : ∀ {d : PyData}, likeOk k d → likeOk (k + 1) d := by
  induction k with
  | zero => exact fun h => .inl h
  | succ k ih =>
    rintro d (h | ⟨ds, h1, h2, h3⟩)
    · exact .inl h
    · exact .inr ⟨ds, h1, h2, fun e he => ih (h3 e he)⟩
theorem eqv_strs (x : Str) : PyData.eqv (.str x) (.str x) = true := by simp [PyData.eqv]
theorem shaped_str {x : Str} (h : PyData.strOk x = true) : SeqAt.shaped (.str x) = true := by
  unfold SeqAt.shaped
  rw [Bool.and_eq_true, decide_eq_true_eq]
  exact ⟨by rw [PyData.canLay0]; exact h, by rw [PyData.depth]; decide⟩
theorem eq_nil : cmp2 .Eq (.list []) (.list []) = some true := by decide +kernel
theorem like_atom {k : Nat} {d : PyData} (h : atomD d) : Pyv.run pg (n + 1) 40 [.val d, .val d] s = .ok (.val (.bool true)) s := by
  show runFd (Pyv.run pg n) glD ir40 [.val d, .val d] s = _
  unfold runFd ir40
  rw [if_pos ⟨rfl, by decide⟩]
  cases d with
  | bool b => cases b <;> simp [evVar, notNone, isTy, tyN, tyB, cmp2, isNoneD, isBoolD]
  | int i => simp [evVar, notNone, isTy, tyN, tyB, cmp2, isNoneD, isBoolD]
  | str x =>
    have e : cmp2 .Eq (.str x) (.str x) = some true := by
      show (if SeqAt.shaped (.str x) = true ∧ SeqAt.shaped (.str x) = true then some (PyData.eqv (.str x) (.str x)) else none) = _
      rw [if_pos ⟨shaped_str h, shaped_str h⟩, eqv_strs]
    have e1 : cmp2 .Is (.str x) .none = some false := rfl
    have e2 : ∀ b, cmp2 .Is (.str x) (.bool b) = some false := fun _ => rfl
    simp [evVar, notNone, isTy, tyN, tyB, e, e1, e2]
  | none => exact h.elim
  | list => exact h.elim
  | tuple => exact h.elim
  | dict => exact h.elim
theorem zip_self {α : Type} {l : List α} {p : α × α} (h : p ∈ l.zip l) : p.1 = p.2 ∧ p.1 ∈ l := by
  obtain ⟨i, hi, e⟩ := List.mem_iff_getElem.mp h
  rw [List.getElem_zip] at e
  subst e
  exact ⟨rfl, List.getElem_mem _⟩
theorem like_ok : ∀ (k : Nat) (d : PyData), likeOk k d → Pyv.run pg (n + k + 1) 40 [.val d, .val d] s = .ok (.val (.bool true)) s
  | 0, d, h => like_atom (k := 0) h
  | k + 1, d, h => by
    rcases h with h | ⟨ds, h1, h2, h3⟩
    · exact like_atom (k := 0) h
    · have ih : ∀ e ∈ ds, Pyv.run pg (n + (k + 1)) 40 [.val e, .val e] s = .ok (.val (.bool true)) s := fun e he => like_ok k e (h3 e he)
      show runFd (Pyv.run pg (n + (k + 1))) glD ir40 [.val d, .val d] s = _
      unfold runFd ir40
      rw [if_pos ⟨rfl, by decide⟩]
      have hz : ∀ (ρ0 ρ1 : List (Option W)), ρ1.length = 5 → ρ1.getD 0 none = some (.val d) → ρ1.getD 1 none = some (.val d) → leaveC ⟨ρ0, s⟩ (lcLoop (lcB (Pyv.run pg (n + (k + 1))) glD (.lit (.int 1)) (.tup [.name 3, .name 4]) (.yes (.not (.val (.call 40 (.cons (.var 3) (.cons (.var 4) .nil))))))) (zipL ds ds) [] ⟨ρ1, s⟩) = .ok (.own []) ⟨ρ0, s⟩ := by
        intro ρ0 ρ1 r1 r2 r3
        have e : zipL ds ds = (ds.zip ds).map fun p => PyData.tuple [p.1, p.2] := rfl
        rw [e, lc_if3 (p := fun _ => false) (g := fun _ => .none)]
        · simp
        · rintro ⟨a, b⟩ hp
          obtain ⟨q1, q2⟩ := zip_self hp
          have q1 : a = b := q1
          subst q1
          have q2 : a ∈ ds := q2
          match ρ1, r1 with
          | [a0, a1, a2, a3, a4], _ =>
            simp [asgTg, asgTgs, setR, evVar, doCall, ih a q2]
        · rw [sizeLine_eq, List.length_zip]; omega
      rcases h1 with rfl | rfl
      · simp [evVar, notNone, isTy, tyN, tyB, asgW, asgTg, setR, enterC, wipeR, lockW, hz, eq_nil, mkLst, dats]
      · simp [evVar, notNone, isTy, tyN, tyB, asgW, asgTg, setR, enterC, wipeR, lockW, hz, eq_nil, mkLst, dats]
end
end K
end
/-! ## P15 -/
section
set_option maxRecDepth 100000
set_option maxHeartbeats 4000000
namespace K
open PySem PySem.Spec PyProof.Rows L2 Pyv
section
variable {call : Nat → List W → DS → RF} {gl : List PyData} {c : Cfg} {rd : Bool} {n : Nat} {s : DS}
theorem sIx_nat {len d i : Nat} : HT.sIx len d (some (i : Int)) = min i len := by
  unfold HT.sIx
  simp
  omega
theorem sIx_none {len d : Nat} : HT.sIx len d none = d := rfl
theorem sl_to {ds : List PyData} {i : Nat} : sl3 (.tuple ds) none (some (i : Int)) = some (.val (.tuple (ds.take i))) := by
  simp only [sl3]
  rw [sIx_nat, sIx_none, List.drop_zero, Nat.sub_zero]
  congr 3
  rw [← List.take_eq_take_min]
theorem sl_toL {ds : List PyData} {i : Nat} : sl3 (.list ds) none (some (i : Int)) = some (.own (ds.take i)) := by
  simp only [sl3]
  rw [sIx_nat, sIx_none, List.drop_zero, Nat.sub_zero]
  congr 2
  rw [← List.take_eq_take_min]
theorem sl_from {ds : List PyData} {i : Nat} (h : i ≤ ds.length) : sl3 (.tuple ds) (some (i : Int)) none = some (.val (.tuple (ds.drop i))) := by
  simp only [sl3]
  rw [sIx_nat, sIx_none, Nat.min_eq_left h]
  congr 3
  exact List.take_of_length_le (by simp)
theorem set_split {α : Type} : ∀ {l : List α} {i : Nat} {a : α}, i < l.length → l.take i ++ (a :: l.drop (i + 1)) = l.set i a
  | _ :: _, 0, _, _ => rfl
  | x :: l, i + 1, a, h => by
    have := set_split (l := l) (i := i) (a := a) (by simpa using h)
    simp [this]
theorem r41 {ds : List PyData} {i : Nat} {d : PyData} (h : i < ds.length) (hl : ds.length ≤ 1000) : Pyv.run pg (n + 1) 41 [.val (.tuple ds), .val (.int (i : Nat)), .val d] s = .ok (.val (.tuple (ds.set i d))) s := by
  show runFd (Pyv.run pg n) glD ir41 [.val (.tuple ds), .val (.int (i : Nat)), .val d] s = _
  unfold runFd ir41
  rw [if_pos ⟨rfl, by decide⟩]
  have e1 := sl_from (ds := ds) (i := i + 1) (by omega)
  rw [Int.natCast_add, Int.natCast_one] at e1
  have z1 : (ds.take i).length + 1 ≤ sizeLine := by rw [sizeLine_eq, List.length_take]; omega
  have z2 : (ds.take i).length + 1 + (ds.drop (i + 1)).length ≤ sizeLine := by rw [sizeLine_eq, List.length_take, List.length_drop]; omega
  have e2 := set_split (a := d) h
  rw [List.length_take] at z1
  rw [List.length_take, List.length_drop] at z2
  simp [evVar, sl_to, e1, z1, z2, e2]
/-- a row of numbers, as a tuple or a list -/
def sqD (b : Bool) (l : List Int) : PyData := if b = true then .tuple (l.map .int) else .list (l.map .int)
def spD (l : List Nat) : PyData := .list (l.map fun i => .int (i : Nat))
def totals (spots : List Nat) (row : List Int) (base : Int) : List (Int × Int) := spots.map fun (i : Nat) => ((i : Int), base + (row.take i).sum)
theorem map_take {l : List Int} {i : Nat} : (l.map PyData.int).take i = (l.take i).map PyData.int := by rw [List.map_take]
theorem r43 {b : Bool} {spots : List Nat} {row : List Int} {base : Int} (h : spots.length ≤ 1000) : Pyv.run pg (n + 1) 43 [.val (spD spots), .val (sqD b row), .val (.int base)] s = .ok (.val (rdD (totals spots row base))) s := by
  show runFd (Pyv.run pg n) glD ir43 [.val (spD spots), .val (sqD b row), .val (.int base)] s = _
  unfold runFd ir43
  rw [if_pos ⟨rfl, by decide⟩]
  simp [evVar, spD, enterC, wipeR, lockW]
  rw [lc_map3 (g := fun (i : Nat) => prD ((i : Int), base + (row.take i).sum))]
  · simp [rdD, totals, Function.comp_def]
  · intro i hi
    have e1 := bl_sum (l := row.take i)
    have e2 := bl_sum2 (l := row.take i)
    rw [List.map_take] at e1 e2
    cases b <;> simp [asgTg, setR, evVar, sqD, sl_to, sl_toL, e1, e2, prD]
  · rw [sizeLine_eq]; omega
theorem r44 {reads : List (Int × Int)} (h : reads.length ≤ 1000) : Pyv.run pg (n + 1) 44 [.val (rdD reads)] s = .ok (.val (itD (amts reads))) s := by
  show runFd (Pyv.run pg n) glD ir44 [.val (rdD reads)] s = _
  unfold runFd ir44
  rw [if_pos ⟨rfl, by decide⟩]
  simp only [ss_cons, s_ret, e_blt, es_cons, e_lc]
  rw [src_nb (xs := reads) (e := prD) rfl]
  simp only [b_ok]
  rw [lc_map (g := fun p => .int (p.2.2 - p.1.2))]
  · simp [itD, amts, Function.comp_def]
  · intro p hp
    simp [prD, asgTg, asgTgs, setR, enterC, wipeR, lockW, evVar]
  · rw [sizeLine_eq, nb, List.length_zip]
    omega
theorem sl_cut {b : Bool} {row : List Int} {i j : Int} : ∃ w, sl3 (sqD b row) (some i) (some j) = some w ∧ bltV .sum [w.read.data.getD .none] = some (.val (.int (cut row i j).sum)) ∧ (w = .val (.tuple ((cut row i j).map .int)) ∨ w = .own ((cut row i j).map .int)) := by
  cases b
  · exact ⟨.own ((cut row i j).map .int), by simp [sl3, sqD, cut], by simp, .inr rfl⟩
  · exact ⟨.val (.tuple ((cut row i j).map .int)), by simp [sl3, sqD, cut], by simp, .inl rfl⟩
theorem r45 {b : Bool} {reads : List (Int × Int)} {row : List Int} (h : reads.length ≤ 1000) : Pyv.run pg (n + 1) 45 [.val (rdD reads), .val (sqD b row)] s = .ok (.val (itD (gapS reads row))) s := by
  show runFd (Pyv.run pg n) glD ir45 [.val (rdD reads), .val (sqD b row)] s = _
  unfold runFd ir45
  rw [if_pos ⟨rfl, by decide⟩]
  simp only [ss_cons, s_ret, e_blt, es_cons, e_lc]
  rw [src_nb (xs := reads) (e := prD) rfl]
  simp only [b_ok]
  rw [lc_map (g := fun p => .int (cut row p.1.1 p.2.1).sum)]
  · simp [itD, gapS]
  · intro p hp
    obtain ⟨w, e1, e2, rfl | rfl⟩ := sl_cut (b := b) (row := row) (i := p.1.1) (j := p.2.1)
    · simp [prD, asgTg, asgTgs, setR, enterC, wipeR, lockW, evVar, e1]
    · simp [prD, asgTg, asgTgs, setR, enterC, wipeR, lockW, evVar, e1]
  · rw [sizeLine_eq, nb, List.length_zip]
    omega
theorem r46 {x : Net} {y : Sheet} (h : NetOk x) (hy : ShOk x y) : Pyv.run pg (n + 1) 46 [.val (netD x), .val (shD y)] s = .ok (.own ((thru x y).map .int)) s := by
  show runFd (Pyv.run pg n) glD ir46 [.val (netD x), .val (shD y)] s = _
  unfold runFd ir46
  rw [if_pos ⟨rfl, by decide⟩]
  have p2 := h.p2
  have m2 := h.m2
  have f1 : fitsI (x.many : Int) = true := fitsI_nat (by omega)
  simp [evVar, f1, rangeL_nat, enterC, wipeR, lockW]
  rw [lc_map3 (g := fun hr => .int (nth y.lost hr + (y.uses.map fun r => nth r hr).sum))]
  · simp [thru, Function.comp_def]
  · intro hr hh
    have hm : hr < x.many := List.mem_range.mp hh
    have a1 := at_int (l := y.lost) (i := hr) (by rw [hy.llen]; exact hm)
    have a3 : ix2 (itD y.lost) (.int (hr : Nat)) = some (.val (.int (nth y.lost hr))) := by simp [itD, a1]
    simp [asgTg, setR, enterC, wipeR, lockW, evVar, a3]
    rw [lc_map3 (g := fun r => .int (nth r hr))]
    · have := bl_sum2 (l := y.uses.map fun r => nth r hr)
      rw [List.map_map] at this
      simp [Function.comp_def] at this
      simp [this]
    · intro r hr2
      have a2 := at_int (l := r) (i := hr) (by rw [hy.rows r hr2]; exact hm)
      have a4 : ix2 (itD r) (.int (hr : Nat)) = some (.val (.int (nth r hr))) := by simp [itD, a2]
      simp [asgTg, setR, evVar, a4]
    · rw [sizeLine_eq, hy.ulen]; omega
  · rw [sizeLine_eq, List.length_range]; omega
end
end K
end
/-! ## P16 -/
section
set_option maxRecDepth 100000
set_option maxHeartbeats 4000000
namespace K
open PySem PySem.Spec PyProof.Rows L2 Pyv
section
variable {call : Nat → List W → DS → RF} {gl : List PyData} {c : Cfg} {rd : Bool} {n : Nat} {s : DS}
def prs (r : List (Int × Int)) (row : List Int) : List (Int × Int) := (gapS r row).zip (amts r)
@[simp] theorem amts_len {r : List (Int × Int)} : (amts r).length = (nb r).length := by simp [amts]
@[simp] theorem prs_len {r : List (Int × Int)} {row : List Int} : (prs r row).length = (nb r).length := by simp [prs]
theorem zd_prs {r : List (Int × Int)} {row : List Int} : zipD (itD (gapS r row)) (itD (amts r)) = some ((prs r row).map prD) := by
  simp [itD, prs, prD, Function.comp_def]
theorem fm_congr {α β : Type} {f g : α → List β} : ∀ {l : List α}, (∀ x ∈ l, f x = g x) → l.flatMap f = l.flatMap g
  | [], _ => rfl
  | a :: l, h => by rw [List.flatMap_cons, List.flatMap_cons, h a (List.mem_cons_self ..), fm_congr fun x hx => h x (List.mem_cons_of_mem _ hx)]
def capsL (x : Net) (y : Sheet) (q : Nat × Pt) : List PyData := (List.range x.many).flatMap fun h => if (!inCap q.2 (rowAt y q.1) h) = true then [capF q.1 h] else []
def offAt (r : List (Int × Int)) (row : List Int) (g : Nat) : Bool := !decide ((nthP (prs r row) g).1 = (nthP (prs r row) g).2)
def gapsL (y : Sheet) (q : Nat × Pt) : List PyData := (List.range (nb q.2.reads).length).flatMap fun g => if offAt q.2.reads (rowAt y q.1) g = true then [gapF q.1 g] else []
def lossL (x : Net) (y : Sheet) : List PyData := (List.range x.many).flatMap fun h => if (!inLoss x y h) = true then [lossF h] else []
def mainL (x : Net) (y : Sheet) : List PyData := (List.range (nb x.main).length).flatMap fun g => if offAt x.main (thru x y) g = true then [mainF g] else []
def lawF (x : Net) (y : Sheet) : List PyData := (enum x.pts).flatMap (fun q => capsL x y q ++ gapsL y q) ++ lossL x y ++ mainL x y
theorem capsL_eq {x : Net} {y : Sheet} {q : Nat × Pt} : capsL x y q = capsF x y q := by
  unfold capsL capsF
  congr
  funext h
  unfold capOne
  cases inCap q.2 (rowAt y q.1) h <;> rfl
theorem lossL_eq {x : Net} {y : Sheet} : lossL x y = (List.range x.many).flatMap (lossOne x y) := by
  unfold lossL
  congr
  funext h
  unfold lossOne
  cases inLoss x y h <;> rfl
theorem enum_range {l : List Int} : enum l = (List.range l.length).map fun i => (i, nth l i) := by
  unfold enum
  refine List.ext_getElem (by simp) fun i h1 h2 => ?_
  rw [List.getElem_zip, List.getElem_map, List.getElem_range]
  have hi : i < l.length := by simpa using h2
  simp [nth, hi]
theorem off_iff {r : List (Int × Int)} {row : List Int} {g : Nat} (h : g < (nb r).length) : offAt r row g = !decide (nth (gapS r row) g = nth (amts r) g) := by
  have e : (prs r row)[g]? = some (nth (gapS r row) g, nth (amts r) g) := by
    unfold prs
    rw [List.getElem?_eq_getElem (by simp; exact h), List.getElem_zip]
    simp [nth, h]
  unfold offAt nthP
  rw [List.getD_eq_getElem?_getD, e]
  rfl
theorem gapsL_eq {x : Net} {y : Sheet} {q : Nat × Pt} (hq : q ∈ enum x.pts) : gapsL y q = gapsF x y (ams x) q := by
  unfold gapsL gapsF
  rw [am_at hq, enum_range, List.flatMap_map, amts_len]
  refine fm_congr fun g hg => ?_
  rw [off_iff (List.mem_range.mp hg)]
  unfold gapOne
  by_cases z : nth (gapS q.2.reads (rowAt y q.1)) g = nth (amts q.2.reads) g <;> simp [z]
theorem mainL_eq {x : Net} {y : Sheet} : mainL x y = (enum (amts x.main)).flatMap (mainOne (gapS x.main (thru x y))) := by
  unfold mainL
  rw [enum_range, List.flatMap_map, amts_len]
  refine fm_congr fun g hg => ?_
  rw [off_iff (List.mem_range.mp hg)]
  unfold mainOne
  by_cases z : nth (gapS x.main (thru x y)) g = nth (amts x.main) g <;> simp [z]
theorem fm_app {α β : Type} {f g : α → List β} : ∀ (l : List α), (l.flatMap fun x => f x ++ g x).Perm (l.flatMap f ++ l.flatMap g)
  | [] => by simp
  | a :: l => by
    have ih := fm_app (f := f) (g := g) l
    simp only [List.flatMap_cons]
    have h1 : (f a ++ g a ++ l.flatMap fun x => f x ++ g x).Perm (f a ++ g a ++ (l.flatMap f ++ l.flatMap g)) := List.Perm.append_left _ ih
    refine h1.trans ?_
    rw [List.append_assoc, List.append_assoc]
    refine List.Perm.append_left _ ?_
    rw [← List.append_assoc, ← List.append_assoc]
    exact List.Perm.append_right _ List.perm_append_comm
theorem lawF_perm {x : Net} {y : Sheet} : (allF x y).Perm (lawF x y) := by
  have e1 : (enum x.pts).flatMap (fun q => capsL x y q ++ gapsL y q) = (enum x.pts).flatMap (fun q => capsF x y q ++ gapsF x y (ams x) q) := fm_congr fun q hq => by rw [capsL_eq, gapsL_eq hq]
  unfold lawF allF bndF gpF
  rw [e1, lossL_eq, mainL_eq]
  have h := fm_app (f := capsF x y) (g := gapsF x y (ams x)) (enum x.pts)
  generalize (enum x.pts).flatMap (capsF x y) = A at *
  generalize (enum x.pts).flatMap (gapsF x y (ams x)) = G at *
  generalize (List.range x.many).flatMap (lossOne x y) = L at *
  generalize (enum (amts x.main)).flatMap (mainOne (gapS x.main (thru x y))) = M at *
  refine List.Perm.trans ?_ (List.Perm.append_right _ (List.Perm.append_right _ h.symm))
  rw [List.append_assoc, List.append_assoc, List.append_assoc]
  refine List.Perm.append_left _ ?_
  rw [← List.append_assoc, ← List.append_assoc]
  exact List.Perm.append_right _ List.perm_append_comm
theorem lawF_isF {x : Net} {y : Sheet} : ∀ d ∈ lawF x y, IsF d := fun d hd => allF_isF d (lawF_perm.mem_iff.mpr hd)
abbrev C47 (x : Net) (y : Sheet) (s : DS) (acc : List PyData) (w7 w8 w9 w10 w12 : Option W) : Cfg := ⟨[some (.val (netD x)), some (.val (shD y)), some (.val (.int x.many)), some (.val (.tuple (x.pts.map ptD))), some (.val (rdD x.main)), some (.val (rdD x.losses)), some (.own acc), w7, w8, w9, w10, none, w12, none], s⟩
theorem asg4 {a b c' d : PyData} {i j k l : Nat} {c : Cfg} : asgTg (.tup [.name i, .name j, .name k, .name l]) (.tuple [a, b, c', d]) c = asgTgs [.name i, .name j, .name k, .name l] [a, b, c', d] c := rfl
theorem r47 {x : Net} {y : Sheet} (h : NetOk x) (hy : ShOk x y) : Pyv.run pg (n + 2) 47 [.val (netD x), .val (shD y)] s = .ok (.val (.tuple (srt (allF x y)))) s := by
  show runFd (Pyv.run pg (n + 1)) glD ir47 [.val (netD x), .val (shD y)] s = _
  unfold runFd ir47
  rw [if_pos ⟨rfl, by decide⟩]
  have p2 := h.p2
  have m2 := h.m2
  have f1 : fitsI (x.many : Int) = true := fitsI_nat (by omega)
  have hm := rdlen h.main
  have hnm := nb_len (l := x.main)
  have f3 : fitsI ((nb x.main).length : Int) = true := fitsI_nat (by omega)
  have hp := lawF_perm (x := x) (y := y)
  have hl : (lawF x y).length ≤ 441 := by rw [← hp.length_eq]; exact allF_len h
  have hl2 := hl
  unfold lawF at hl2
  rw [List.length_append, List.length_append] at hl2
  have so := sortOk_isF (l := lawF x y) lawF_isF (by omega)
  have es : srt (lawF x y) = srt (allF x y) := (sort_perm allF_isF hp).symm
  have eN : asgW (.tup [.name 2, .name 3, .name 4, .name 5]) (.val (netD x)) ⟨[some (.val (netD x)), some (.val (shD y)), none, none, none, none, none, none, none, none, none, none, none, none], s⟩ = some ⟨[some (.val (netD x)), some (.val (shD y)), some (.val (.int x.many)), some (.val (.tuple (x.pts.map ptD))), some (.val (rdD x.main)), some (.val (rdD x.losses)), none, none, none, none, none, none, none, none], s⟩ := rfl
  simp [evVar, eN, mkLst, dats, enumL_map]
  simp [asgW, asgTg, setR, enumL_map]
  generalize hF : forLoop _ _ _ _ = o
  obtain ⟨c1, rfl, w7, w8, w9, w10, w12, nb7, nb8, nb9, nb10, nb12, rfl⟩ := acc_use hF (fun acc c => ∃ w7 w8 w9 w10 w12, notBor w7 = true ∧ notBor w8 = true ∧ notBor w9 = true ∧ notBor w10 = true ∧ notBor w12 = true ∧ c = C47 x y s acc w7 w8 w9 w10 w12) (fun q => capsL x y q ++ gapsL y q) (acc := []) 1000
    (fun q hq acc c hl ⟨w7, w8, w9, w10, w12, _, _, _, _, _, e⟩ => by
      subst e
      obtain ⟨a1, a2, a3⟩ := row_at hy hq
      have hr := rdlen (h.pts _ a3).reads
      have hnr := nb_len (l := q.2.reads)
      have b1 := at_map (e := itD) a1
      have f2 : fitsI ((nb q.2.reads).length : Int) = true := fitsI_nat (by omega)
      have c45 := r45 (n := n) (s := s) (b := true) (reads := q.2.reads) (row := rowAt y q.1) (by omega)
      have c44 := r44 (n := n) (s := s) (reads := q.2.reads) (by omega)
      have e45 : sqD true (rowAt y q.1) = itD (rowAt y q.1) := rfl
      rw [e45] at c45
      rw [List.length_append] at hl
      have s1 : acc.length + (capsL x y q).length ≤ sizeLine := by rw [sizeLine_eq]; omega
      have s2 : acc.length + ((capsL x y q).length + (gapsL y q).length) ≤ sizeLine := by rw [sizeLine_eq]; omega
      refine ⟨_, rfl, C47 x y s (acc ++ (capsL x y q ++ gapsL y q)) (some (.val (.int (q.1 : Nat)))) (some (.val (itD q.2.caps))) (some (.val (rdD q.2.reads))) (some (.val (itD (rowAt y q.1)))) (some (.own ((prs q.2.reads (rowAt y q.1)).map prD))), ?_, _, _, _, _, _, rfl, rfl, rfl, rfl, rfl, rfl⟩
      simp [evVar, b1, setR, asgW, asgTg, f1, rangeL_nat, enterC, wipeR, lockW]
      rw [lc_if3 (p := fun h => !inCap q.2 (rowAt y q.1) h) (g := fun h => capF q.1 h)]
      · rw [show ((List.range x.many).flatMap fun h => if (!inCap q.2 (rowAt y q.1) h) = true then [capF q.1 h] else []) = capsL x y q from rfl]
        simp [s1, setR, evVar, doCall, c45, c44, zd_prs]
        rw [if_pos (by omega)]
        simp [evVar, setR, f2, rangeL_nat, enterC, wipeR, lockW]
        rw [lc_if3 (p := offAt q.2.reads (rowAt y q.1)) (g := fun g => gapF q.1 g)]
        · rw [show ((List.range (nb q.2.reads).length).flatMap fun g => if offAt q.2.reads (rowAt y q.1) g = true then [gapF q.1 g] else []) = gapsL y q from rfl]
          simp [s2, setR, Nat.add_assoc]
        · intro g hg
          have hg2 := List.mem_range.mp hg
          have b4 := at_map (e := prD) (l := prs q.2.reads (rowAt y q.1)) (i := g) (x := nthP (prs q.2.reads (rowAt y q.1)) g) (by rw [nthP, List.getD_eq_getElem?_getD, List.getElem?_eq_getElem (by rw [prs_len]; exact hg2)]; rfl)
          unfold offAt
          by_cases z : (nthP (prs q.2.reads (rowAt y q.1)) g).1 = (nthP (prs q.2.reads (rowAt y q.1)) g).2 <;>
            simp [asgTg, setR, evVar, b4, z, gapF]
        · rw [sizeLine_eq, List.length_range]; omega
      · intro i hi
        have hm : i < x.many := List.mem_range.mp hi
        have b2 := at_int (l := rowAt y q.1) (i := i) (by rw [a2]; exact hm)
        have b3 := at_int (l := q.2.caps) (i := i) (by rw [(h.pts _ a3).len]; exact hm)
        have b5 : ix2 (itD (rowAt y q.1)) (.int (i : Nat)) = some (.val (.int (nth (rowAt y q.1) i))) := by simp [itD, b2]
        have b6 : ix2 (itD q.2.caps) (.int (i : Nat)) = some (.val (.int (nth q.2.caps i))) := by simp [itD, b3]
        unfold inCap
        by_cases z1 : 0 ≤ nth (rowAt y q.1) i <;> by_cases z2 : nth (rowAt y q.1) i ≤ nth q.2.caps i <;>
          simp [asgTg, setR, evVar, b5, b6, z1, z2, capF]
      · rw [sizeLine_eq, List.length_range]; omega)
    (by rw [List.length_nil]; omega) ⟨none, none, none, none, none, rfl, rfl, rfl, rfl, rfl, rfl⟩
  have c46 := r46 (n := n) (s := s) h hy
  have c45 := r45 (n := n) (s := s) (b := false) (reads := x.main) (row := thru x y) (by omega)
  have c44 := r44 (n := n) (s := s) (reads := x.main) (by omega)
  have e45 : sqD false (thru x y) = .list ((thru x y).map .int) := rfl
  rw [e45] at c45
  have s1 : ((enum x.pts).flatMap fun q => capsL x y q ++ gapsL y q).length + (lossL x y).length ≤ sizeLine := by rw [sizeLine_eq]; omega
  have s2 : ((enum x.pts).flatMap fun q => capsL x y q ++ gapsL y q).length + ((lossL x y).length + (mainL x y).length) ≤ sizeLine := by rw [sizeLine_eq]; omega
  generalize hA : ((enum x.pts).flatMap fun q => capsL x y q ++ gapsL y q) = A at *
  have eF : A ++ (lossL x y ++ mainL x y) = lawF x y := by rw [← hA]; simp [lawF]
  simp [evVar, setR, asgW, asgTg, f1, rangeL_nat, enterC, wipeR, lockW]
  rw [lc_if3 (p := fun h => !inLoss x y h) (g := fun h => lossF h)]
  · rw [show ((List.range x.many).flatMap fun h => if (!inLoss x y h) = true then [lossF h] else []) = lossL x y from rfl]
    simp [s1, setR, evVar, doCall, c46, c45, c44, zd_prs]
    rw [if_pos (by omega)]
    simp [evVar, setR, f3, rangeL_nat, enterC, wipeR, lockW]
    rw [lc_if3 (p := offAt x.main (thru x y)) (g := fun g => mainF g)]
    · rw [show ((List.range (nb x.main).length).flatMap fun g => if offAt x.main (thru x y) g = true then [mainF g] else []) = mainL x y from rfl]
      simp [s2, setR, Nat.add_assoc, eF, so, es]
    · intro g hg
      have hg2 := List.mem_range.mp hg
      have b4 := at_map (e := prD) (l := prs x.main (thru x y)) (i := g) (x := nthP (prs x.main (thru x y)) g) (by rw [nthP, List.getD_eq_getElem?_getD, List.getElem?_eq_getElem (by rw [prs_len]; exact hg2)]; rfl)
      unfold offAt
      by_cases z : (nthP (prs x.main (thru x y)) g).1 = (nthP (prs x.main (thru x y)) g).2 <;>
        simp [asgTg, setR, evVar, b4, z, mainF]
    · rw [sizeLine_eq, List.length_range]; omega
  · intro i hi
    have hm : i < x.many := List.mem_range.mp hi
    have b2 := at_int (l := y.lost) (i := i) (by rw [hy.llen]; exact hm)
    have b3 := at_map (e := prD) (l := x.losses) (i := i) (x := nthP x.losses i) (by rw [nthP, List.getD_eq_getElem?_getD, List.getElem?_eq_getElem (by rw [h.llen]; exact hm)]; rfl)
    have b5 : ix2 (itD y.lost) (.int (i : Nat)) = some (.val (.int (nth y.lost i))) := by simp [itD, b2]
    have b6 : ix2 (rdD x.losses) (.int (i : Nat)) = some (.val (prD (nthP x.losses i))) := by simp [rdD, b3]
    unfold inLoss
    by_cases z1 : (nthP x.losses i).1 ≤ nth y.lost i <;> by_cases z2 : nth y.lost i ≤ (nthP x.losses i).2 <;>
      simp [asgTg, setR, evVar, b5, b6, z1, z2, lossF]
  · rw [sizeLine_eq, List.length_range]; omega
end
end K
end
/-! ## P17 -/
section
set_option maxRecDepth 100000
set_option maxHeartbeats 4000000
namespace K
open PySem PySem.Spec PyProof.Rows L2 Pyv
section
variable {call : Nat → List W → DS → RF} {gl : List PyData} {c : Cfg} {rd : Bool} {n : Nat} {s : DS}
theorem hidRow_eq {r : List (Int × Int)} {row : List Int} : hidRow r row = (prs r row).map fun q => q.1 - q.2 := rfl
theorem r48 {x : Net} {y : Sheet} (h : NetOk x) : Pyv.run pg (n + 2) 48 [.val (netD x), .val (shD y)] s = .ok (.val (rowsD (hid x y))) s := by
  show runFd (Pyv.run pg (n + 1)) glD ir48 [.val (netD x), .val (shD y)] s = _
  unfold runFd ir48
  rw [if_pos ⟨rfl, by decide⟩]
  have p2 := h.p2
  simp [evVar, mkLst, dats, asgW, asgTg, setR]
  generalize hF : forLoop _ _ _ _ = o
  obtain ⟨c1, rfl, w3, w4, w5, rfl⟩ := acc_use hF (fun acc c => ∃ w3 w4 w5, c = ⟨[some (.val (netD x)), some (.val (shD y)), some (.own acc), w3, w4, w5, none, none], s⟩) (fun q => [itD (hidRow q.1.reads q.2)]) (acc := []) 1000
    (fun q hq acc c hl ⟨w3, w4, w5, e⟩ => by
      subst e
      have hp := (h.pts _ (List.of_mem_zip hq).1).reads
      have h2 := rdlen hp
      have m2 := h.m2
      have h3 := nb_len (l := q.1.reads)
      have hs : acc.length < sizeLine := by rw [sizeLine_eq]; simp at hl; omega
      have c44 := r44 (n := n) (s := s) (reads := q.1.reads) (by omega)
      have c45 := r45 (n := n) (s := s) (b := true) (reads := q.1.reads) (row := q.2) (by omega)
      have e45 : sqD true q.2 = itD q.2 := rfl
      rw [e45] at c45
      have hk : (nb q.1.reads).length ≤ 1000 := by omega
      refine ⟨_, rfl, ⟨[some (.val (netD x)), some (.val (shD y)), some (.own (acc ++ [itD (hidRow q.1.reads q.2)])), some (.val (itD q.1.caps)), some (.val (rdD q.1.reads)), some (.val (itD q.2)), none, none], s⟩, ?_, _, _, _, rfl⟩
      simp [evVar, setR, ownAt, doCall, c45, c44, zd_prs, enterC, wipeR, lockW]
      rw [lc_map3 (g := fun q => .int (q.1 - q.2))]
      · simp [hs, hidRow_eq, itD, Function.comp_def]
      · intro p hp
        simp [asgTg, asgTgs, setR, evVar, prD]
      · rw [sizeLine_eq, prs_len]; omega)
    (by
      have := fm_len (G := fun q : Pt × List Int => [itD (hidRow q.1.reads q.2)]) (b := 1) (l := x.pts.zip y.uses) fun _ _ => by simp
      rw [List.length_zip] at this
      rw [List.length_nil]; omega) ⟨none, none, none, rfl⟩
  simp [evVar, rowsD, hid, ← List.map_eq_flatMap, Function.comp_def]
/-- a comprehension over data as they are -/
theorem lc_ifI {F : PyData → Cfg → Rs (Option PyData)} {p : PyData → Bool} {g : PyData → PyData} {xs : List PyData} {ρ0 ρ1 : List (Option W)} {s : DS} (h : ∀ x ∈ xs, svR (F x ⟨ρ1, s⟩) = some (if p x = true then some (g x) else none, s)) (hl : xs.length ≤ sizeLine) :
    leaveC ⟨ρ0, s⟩ (lcLoop F xs [] ⟨ρ1, s⟩) = .ok (.own (xs.flatMap fun x => if p x = true then [g x] else [])) ⟨ρ0, s⟩ := by
  have := lc_if3 (F := F) (e := fun d => d) (p := p) (g := g) (xs := xs) (ρ0 := ρ0) (ρ1 := ρ1) (s := s) h hl
  rwa [List.map_id'] at this
def headS : PyData → Str
  | .tuple (.str x :: _) => x
  | _ => Str.ofString ""
def notGap (d : PyData) : Bool := !decide (headS d = Str.ofString "gap")
theorem ne_str {a b : Str} (ha : PyData.strOk a = true) (hb : PyData.strOk b = true) : cmp2 .NotEq (.str a) (.str b) = some (!decide (a = b)) := by
  show (if SeqAt.shaped (.str a) = true ∧ SeqAt.shaped (.str b) = true then some (!PyData.eqv (.str a) (.str b)) else none) = _
  rw [if_pos ⟨shaped_str ha, shaped_str hb⟩]
  congr 2
theorem ok_cap : PyData.strOk (Str.ofString "cap") = true := by decide +kernel
theorem ok_gap : PyData.strOk (Str.ofString "gap") = true := by decide +kernel
theorem ok_loss : PyData.strOk (Str.ofString "loss") = true := by decide +kernel
theorem ok_main : PyData.strOk (Str.ofString "main") = true := by decide +kernel
theorem ng_cap {a b : Nat} : notGap (capF a b) = true := by
  show (!decide (Str.ofString "cap" = Str.ofString "gap")) = true
  decide +kernel
theorem ng_gap {a b : Nat} : notGap (gapF a b) = false := by
  show (!decide (Str.ofString "gap" = Str.ofString "gap")) = false
  decide +kernel
theorem ng_loss {a : Nat} : notGap (lossF a) = true := by
  show (!decide (Str.ofString "loss" = Str.ofString "gap")) = true
  decide +kernel
theorem ng_main {a : Nat} : notGap (mainF a) = true := by
  show (!decide (Str.ofString "main" = Str.ofString "gap")) = true
  decide +kernel
theorem isF_head {d : PyData} (h : IsF d) : ∃ x, PyData.strOk x = true ∧ ix2 d (.int 0) = some (.val (.str x)) ∧ headS d = x := by
  cases h
  · exact ⟨_, ok_cap, by simp [capF], rfl⟩
  · exact ⟨_, ok_gap, by simp [gapF], rfl⟩
  · exact ⟨_, ok_loss, by simp [lossF], rfl⟩
  · exact ⟨_, ok_main, by simp [mainF], rfl⟩
theorem filter_nil {p : PyData → Bool} {l : List PyData} : (l.flatMap fun d => if p d = true then [d] else []) = [] ↔ ∀ d ∈ l, p d = false := by
  rw [List.flatMap_eq_nil_iff]
  refine ⟨fun h d hd => ?_, fun h d hd => by rw [h d hd]; rfl⟩
  have := h d hd
  cases e : p d with
  | true => rw [e] at this; cases this
  | false => rfl
theorem gapS_eq_iff {x : Net} {y : Sheet} : (enum (amts x.main)).flatMap (mainOne (gapS x.main (thru x y))) = [] ↔ gapS x.main (thru x y) = amts x.main := by
  rw [List.flatMap_eq_nil_iff, enum_range]
  constructor
  · intro h
    refine List.ext_getElem (by simp) fun i h1 h2 => ?_
    have hm : (i, nth (amts x.main) i) ∈ (List.range (amts x.main).length).map fun i => (i, nth (amts x.main) i) := List.mem_map.mpr ⟨i, List.mem_range.mpr h2, rfl⟩
    have z := h _ hm
    unfold mainOne at z
    split at z
    · rename_i e
      have e : nth (gapS x.main (thru x y)) i = nth (amts x.main) i := e
      simp only [nth, List.getD_eq_getElem?_getD, List.getElem?_eq_getElem h1, List.getElem?_eq_getElem h2, Option.getD_some] at e
      exact e
    · cases z
  · intro h p hp
    obtain ⟨i, hi, rfl⟩ := List.mem_map.mp hp
    unfold mainOne
    rw [if_pos (by rw [h])]
theorem bnd_iff {x : Net} {y : Sheet} : isBnd x y = decide (((srt (allF x y)).flatMap fun d => if notGap d = true then [d] else []) = []) := by
  unfold isBnd
  rw [Bool.eq_iff_iff, Bool.and_eq_true, decide_eq_true_eq, decide_eq_true_eq, decide_eq_true_eq, filter_nil]
  constructor
  · rintro ⟨h1, h2⟩ d hd
    have hd := List.mem_mergeSort.mp hd
    unfold allF gpF at hd
    rw [h1, gapS_eq_iff.mpr h2, List.nil_append, List.append_nil] at hd
    obtain ⟨q, _, hd⟩ := List.mem_flatMap.mp hd
    obtain ⟨h, _, hd⟩ := List.mem_flatMap.mp hd
    unfold gapOne at hd
    split at hd
    · cases hd
    · rw [List.mem_singleton] at hd; subst hd; exact ng_gap
  · intro h
    refine ⟨?_, gapS_eq_iff.mp ?_⟩
    · cases e : bndF x y with
      | nil => rfl
      | cons d r =>
        have hd : d ∈ bndF x y := by rw [e]; exact List.mem_cons_self ..
        have z := h d (List.mem_mergeSort.mpr (List.mem_append_left _ hd))
        unfold bndF at hd
        rcases List.mem_append.mp hd with hd | hd
        · obtain ⟨q, _, hd⟩ := List.mem_flatMap.mp hd
          obtain ⟨i, _, hd⟩ := List.mem_flatMap.mp hd
          unfold capOne at hd
          split at hd
          · cases hd
          · rw [List.mem_singleton] at hd; subst hd; rw [ng_cap] at z; cases z
        · obtain ⟨i, _, hd⟩ := List.mem_flatMap.mp hd
          unfold lossOne at hd
          split at hd
          · cases hd
          · rw [List.mem_singleton] at hd; subst hd; rw [ng_loss] at z; cases z
    · cases e : (enum (amts x.main)).flatMap (mainOne (gapS x.main (thru x y))) with
      | nil => rfl
      | cons d r =>
        have hd : d ∈ (enum (amts x.main)).flatMap (mainOne (gapS x.main (thru x y))) := by rw [e]; exact List.mem_cons_self ..
        have z := h d (List.mem_mergeSort.mpr (List.mem_append_right _ (List.mem_append_right _ hd)))
        obtain ⟨i, _, hd⟩ := List.mem_flatMap.mp hd
        unfold mainOne at hd
        split at hd
        · cases hd
        · rw [List.mem_singleton] at hd; subst hd; rw [ng_main] at z; cases z
theorem eq_nilL {l : List PyData} (h : SeqAt.shaped (.list l) = true) : cmp2 .Eq (.list l) (.list []) = some (decide (l = [])) := by
  show (if SeqAt.shaped (.list l) = true ∧ SeqAt.shaped (.list []) = true then some (PyData.eqv (.list l) (.list [])) else none) = _
  rw [if_pos ⟨h, by decide +kernel⟩]
  congr 1
  cases l <;> simp [PyData.eqv, PyData.eqvAll]
theorem isF_shape {d : PyData} (h : IsF d) : PyData.canLay0 d = true ∧ d.depth ≤ 1 := by
  have o1 := ok_cap
  have o2 := ok_gap
  have o3 := ok_loss
  have o4 := ok_main
  cases h <;> simp [capF, gapF, lossF, mainF, PyData.canLay0, PyData.canLayAll0, PyData.depth, PyData.depthAll, o1, o2, o3, o4]
theorem shaped_isF {l : List PyData} (h : ∀ d ∈ l, IsF d) : SeqAt.shaped (.list l) = true := by
  have key : PyData.canLayAll0 l = true ∧ PyData.depthAll l ≤ 1 := by
    induction l with
    | nil => simp [PyData.canLayAll0, PyData.depthAll]
    | cons d l ih =>
      obtain ⟨h1, h2⟩ := ih fun e he => h e (List.mem_cons_of_mem _ he)
      obtain ⟨h3, h4⟩ := isF_shape (h d (List.mem_cons_self ..))
      simp only [PyData.canLayAll0, PyData.depthAll, h1, h3, Bool.and_self, true_and]
      exact Nat.max_le.mpr ⟨h4, h2⟩
  unfold SeqAt.shaped
  rw [Bool.and_eq_true, decide_eq_true_eq]
  refine ⟨by rw [PyData.canLay0]; exact key.1, ?_⟩
  rw [PyData.depth]; exact Nat.le_trans (Nat.succ_le_succ key.2) (by decide)
theorem r49 {x : Net} {y : Sheet} (h : NetOk x) (hy : ShOk x y) : Pyv.run pg (n + 3) 49 [.val (netD x), .val (shD y)] s = .ok (.val (.bool (isBnd x y))) s := by
  show runFd (Pyv.run pg (n + 2)) glD ir49 [.val (netD x), .val (shD y)] s = _
  unfold runFd ir49
  rw [if_pos ⟨rfl, by decide⟩]
  have ha := allF_len (y := y) h
  have c47 := r47 (n := n) (s := s) h hy
  simp [evVar, doCall, c47, enterC, wipeR, lockW]
  rw [lc_ifI (p := notGap) (g := fun d => d)]
  · have hs : SeqAt.shaped (.list ((srt (allF x y)).flatMap fun d => if notGap d = true then [d] else [])) = true := by
      refine shaped_isF fun d hd => ?_
      obtain ⟨e, he, hd⟩ := List.mem_flatMap.mp hd
      split at hd
      · rw [List.mem_singleton] at hd; subst hd; exact allF_isF _ (List.mem_mergeSort.mp he)
      · cases hd
    rw [bnd_iff]
    generalize ((srt (allF x y)).flatMap fun d => if notGap d = true then [d] else []) = z at *
    simp [mkLst, dats, eq_nilL hs]
  · intro d hd
    obtain ⟨z, z1, z2, z3⟩ := isF_head (allF_isF _ (List.mem_mergeSort.mp hd))
    unfold notGap
    rw [z3]
    by_cases e : z = Str.ofString "gap"
    · subst e
      simp [asgTg, setR, evVar, z2, ne_str z1 z1]
    · simp [asgTg, setR, evVar, z2, ne_str z1 ok_gap, e]
  · rw [sizeLine_eq, List.length_mergeSort]; omega
end
end K
end
/-! ## P18 -/
section
set_option maxRecDepth 100000
set_option maxHeartbeats 4000000
namespace K
open PySem PySem.Spec PyProof.Rows L2 Pyv
section
variable {call : Nat → List W → DS → RF} {gl : List PyData} {c : Cfg} {rd : Bool} {n : Nat} {s : DS}
theorem hid_row {x : Net} {y : Sheet} (h : NetOk x) {r : List Int} (hr : r ∈ hid x y) : r.length ≤ 25 := by
  obtain ⟨z, hz, e⟩ := List.mem_map.mp hr
  have h1 := rdlen (h.pts _ (List.of_mem_zip hz).1).reads
  have h2 := nb_len (l := z.1.reads)
  have m2 := h.m2
  rw [← e]
  simp [hidRow]
  omega
theorem r50 {x : Net} {d : List (List Mk)} {y : Sheet} (h : NetOk x) (hy : ShOk x y) : Pyv.run pg (n + 4) 50 [.val (netD x), .val (dbD d), .val (shD y)] s = .ok (.val (.bool (srv x d y))) s := by
  show runFd (Pyv.run pg (n + 3)) glD ir50 [.val (netD x), .val (dbD d), .val (shD y)] s = _
  unfold runFd ir50
  rw [if_pos ⟨rfl, by decide⟩]
  have c49 := r49 (n := n) (s := s) h hy
  have c48 := r48 (n := n + 1) (s := s) (y := y) h
  simp [evVar, doCall, c49]
  by_cases z1 : isBnd x y = true
  · simp [z1, evVar, doCall, c48]
    simp [dbD, rowsD]
    generalize hF : forLoop _ _ _ _ = o
    obtain ⟨c', ⟨a1, rfl, w3, w4, w5, w6, rfl⟩ | ⟨a1, rfl, a2⟩⟩ := all_use hF (fun c => ∃ w3 w4 w5 w6, c = ⟨[some (.val (netD x)), some (.val (dbD d)), some (.val (shD y)), w3, w4, w5, w6], s⟩) (fun c => c.s = s) rowServes (.val (.bool false))
      (fun q hq c ⟨w3, w4, w5, w6, e⟩ => by
        subst e
        refine ⟨_, rfl, ?_⟩
        have e1 : evSrc (Pyv.run pg (n + 3)) glD (.zip (.var 3) (.var 4)) false ⟨[some (.val (netD x)), some (.val (dbD d)), some (.val (shD y)), some (.val (mksD q.1)), some (.val (itD q.2)), w5, w6], s⟩ = .ok ((q.1.zip q.2).map fun p => .tuple [mkS p.1, .int p.2]) ⟨[some (.val (netD x)), some (.val (dbD d)), some (.val (shD y)), some (.val (mksD q.1)), some (.val (itD q.2)), w5, w6], s⟩ := by
          simp [evVar, mksD, itD]
        rw [show setR _ 4 _ = (⟨[some (.val (netD x)), some (.val (dbD d)), some (.val (shD y)), some (.val (mksD q.1)), some (.val (itD q.2)), w5, w6], s⟩ : Cfg) from rfl]
        rw [ss_cons, s_for, e1]
        simp only [o_ok, ss_nil, th_nx]
        generalize hF : forLoop _ _ _ _ = o
        obtain ⟨c', ⟨a1, rfl, w5, w6, rfl⟩ | ⟨a1, rfl, a2⟩⟩ := all_use hF (fun c => ∃ w5 w6, c = ⟨[some (.val (netD x)), some (.val (dbD d)), some (.val (shD y)), some (.val (mksD q.1)), some (.val (itD q.2)), w5, w6], s⟩) (fun c => c.s = s) (fun z => allow z.1 z.2) (.val (.bool false))
          (fun z hz c ⟨w5, w6, e⟩ => by
            subst e
            refine ⟨_, rfl, ⟨[some (.val (netD x)), some (.val (dbD d)), some (.val (shD y)), some (.val (mksD q.1)), some (.val (itD q.2)), some (.val (mkS z.1)), some (.val (.int z.2))], s⟩, ?_⟩
            have k1 : cmp2 .Eq (mkS z.1) (.str "true") = some (decide (z.1 = .t)) := mk_eq z.1 .t
            have k2 : cmp2 .Eq (mkS z.1) (.str "less") = some (decide (z.1 = .l)) := mk_eq z.1 .l
            have k3 : cmp2 .Eq (mkS z.1) (.str "more") = some (decide (z.1 = .m)) := mk_eq z.1 .m
            rw [show setR _ 6 _ = (⟨[some (.val (netD x)), some (.val (dbD d)), some (.val (shD y)), some (.val (mksD q.1)), some (.val (itD q.2)), some (.val (mkS z.1)), some (.val (.int z.2))], s⟩ : Cfg) from rfl]
            obtain ⟨k, v⟩ := z
            cases k with
            | t =>
              by_cases hv : v = 0
              · exact .inl ⟨by simp [allow, hv], by simp [evVar, k1, k2, k3, hv], _, _, rfl⟩
              · exact .inr ⟨by simp [allow, hv], by simp [evVar, k1, k2, k3, hv], rfl⟩
            | l =>
              by_cases hv : v < 0
              · exact .inr ⟨by simp [allow]; omega, by simp [evVar, k1, k2, k3, hv], rfl⟩
              · exact .inl ⟨by simp [allow]; omega, by simp [evVar, k1, k2, k3, hv], _, _, rfl⟩
            | m =>
              by_cases hv : 0 < v
              · exact .inr ⟨by simp [allow]; omega, by simp [evVar, k1, k2, k3, hv], rfl⟩
              · exact .inl ⟨by simp [allow]; omega, by simp [evVar, k1, k2, k3, hv], _, _, rfl⟩) ⟨w5, w6, rfl⟩
        · exact ⟨_, .inl ⟨a1, rfl, _, _, _, _, rfl⟩⟩
        · exact ⟨_, .inr ⟨a1, rfl, a2⟩⟩) ⟨none, none, none, none, rfl⟩
    · simp [srv, z1, a1]
    · simp [srv, z1, a1, a2]
  · simp [srv, z1]
def pnD (p : Nat × Nat) : PyData := .tuple [.int (p.1 : Nat), .int (p.2 : Nat)]
theorem nb_length {α : Type} {l : List α} : (nb l).length = l.length - 1 := by simp [nb]
theorem max_nb {l : List (Int × Int)} : bltV .max [.int 0, .int ((l.length : Int) - 1)] = some (.val (.int ((nb l).length : Nat))) := by
  show some (W.val (.int (if (l.length : Int) - 1 > 0 then (l.length : Int) - 1 else 0))) = _
  rw [nb_length]
  congr 3
  split <;> omega
def gapsN (x : Net) : List (Nat × Nat) := (enum x.pts).flatMap fun q => (List.range (nb q.2.reads).length).map fun g => (q.1, g)
theorem gapsN_map {x : Net} : (gapsN x).map pnD = (enum x.pts).flatMap fun q => (List.range (nb q.2.reads).length).map fun g => pnD (q.1, g) := by
  simp [gapsN, List.map_flatMap, Function.comp_def]
theorem gapsN_len {x : Net} (h : NetOk x) : (gapsN x).length ≤ 200 := by
  have := fm_len (G := fun q : Nat × Pt => (List.range (nb q.2.reads).length).map fun g => (q.1, g)) (b := 25) (l := enum x.pts) fun q hq => by
    have h2 := rdlen (h.pts _ (List.mem_of_getElem? (enum_mem hq))).reads
    have h3 := nb_len (l := q.2.reads)
    have m2 := h.m2
    simp
    omega
  rw [enum_len] at this
  have p2 := h.p2
  unfold gapsN
  omega
theorem r51 {x : Net} (h : NetOk x) : Pyv.run pg (n + 1) 51 [.val (netD x)] s = .ok (.own ((gapsN x).map pnD)) s := by
  show runFd (Pyv.run pg n) glD ir51 [.val (netD x)] s = _
  unfold runFd ir51
  rw [if_pos ⟨rfl, by decide⟩]
  have hg := gapsN_len h
  rw [gapsN_map]
  have hg2 : ((enum x.pts).flatMap fun q => (List.range (nb q.2.reads).length).map fun g => pnD (q.1, g)).length ≤ 200 := by
    rw [← gapsN_map, List.length_map]; exact hg
  simp [evVar, mkLst, dats, asgW, asgTg, setR, enumL_map]
  generalize hF : forLoop _ _ _ _ = o
  obtain ⟨c1, rfl, w2, w3, w4, rfl⟩ := acc_use hF (fun acc c => ∃ w2 w3 w4, c = ⟨[some (.val (netD x)), some (.own acc), w2, w3, w4, none], s⟩) (fun q => (List.range (nb q.2.reads).length).map fun g => pnD (q.1, g)) (acc := []) 1000
    (fun q hq acc c hl ⟨w2, w3, w4, e⟩ => by
      subst e
      have h2 := rdlen (h.pts _ (List.mem_of_getElem? (enum_mem hq))).reads
      have h3 := nb_len (l := q.2.reads)
      have m2 := h.m2
      have f2 : fitsI ((nb q.2.reads).length : Int) = true := fitsI_nat (by omega)
      have s1 : acc.length + (nb q.2.reads).length ≤ sizeLine := by rw [sizeLine_eq]; omega
      refine ⟨_, rfl, ⟨[some (.val (netD x)), some (.own (acc ++ (List.range (nb q.2.reads).length).map fun g => pnD (q.1, g))), some (.val (.int (q.1 : Nat))), some (.val (itD q.2.caps)), some (.val (rdD q.2.reads)), none], s⟩, ?_, _, _, _, rfl⟩
      simp [evVar, setR, max_nb, f2, rangeL_nat, enterC, wipeR, lockW, asgW, asgTg]
      rw [lc_map3 (g := fun g => pnD (q.1, g))]
      · simp [s1, setR]
      · intro g hg
        simp [asgTg, setR, evVar, pnD]
      · rw [sizeLine_eq, List.length_range]; omega)
    (by rw [List.length_nil]; omega) ⟨none, none, none, rfl⟩
  simp [ownAt]
theorem fl_filter {α : Type} {p : α → Bool} {g : α → PyData} : ∀ {l : List α}, (l.flatMap fun x => if p x = true then [g x] else []) = (l.filter p).map g
  | [] => rfl
  | a :: l => by
    rw [List.flatMap_cons, fl_filter, List.filter_cons]
    by_cases h : p a = true <;> simp [h]
theorem pn_shape : ∀ (l : List (Nat × Nat)), PyData.canLayAll0 (l.map pnD) = true ∧ PyData.depthAll (l.map pnD) ≤ 1
  | [] => by simp [PyData.canLayAll0, PyData.depthAll]
  | x :: l => by
    obtain ⟨h1, h2⟩ := pn_shape l
    have e : PyData.canLay0 (pnD x) = true ∧ (pnD x).depth ≤ 1 := by simp [pnD, PyData.canLay0, PyData.canLayAll0, PyData.depth, PyData.depthAll]
    simp only [List.map_cons, PyData.canLayAll0, PyData.depthAll, h1, e.1, Bool.and_self, true_and]
    exact Nat.max_le.mpr ⟨e.2, h2⟩
theorem in_pn {p : Nat × Nat} {l : List (Nat × Nat)} : cmp2 .In (pnD p) (.list (l.map pnD)) = some (decide (p ∈ l)) := by
  have h1 : SeqAt.shaped (pnD p) = true := by
    unfold SeqAt.shaped
    simp [pnD, PyData.canLay0, PyData.canLayAll0, PyData.depth, PyData.depthAll]
  have h2 : SeqAt.shaped (.list (l.map pnD)) = true := by
    obtain ⟨k1, k2⟩ := pn_shape l
    unfold SeqAt.shaped
    rw [Bool.and_eq_true, decide_eq_true_eq]
    refine ⟨by rw [PyData.canLay0]; exact k1, ?_⟩
    rw [PyData.depth]; exact Nat.le_trans (Nat.succ_le_succ k2) (by decide)
  show (if SeqAt.shaped (pnD p) = true ∧ SeqAt.shaped (.list (l.map pnD)) = true then some ((l.map pnD).any fun z => PyData.eqv z (pnD p)) else none) = _
  rw [if_pos ⟨h1, h2⟩]
  congr 1
  rw [Bool.eq_iff_iff]
  simp [pnD, PyData.eqv, PyData.eqvAll]
  constructor
  · rintro ⟨a, b, h, e1, e2⟩
    have : (a, b) = p := Prod.ext (by show a = p.1; omega) (by show b = p.2; omega)
    rwa [this] at h
  · intro h
    exact ⟨p.1, p.2, h, rfl, rfl⟩
theorem r52 {x : Net} {l : List Nat} (h : NetOk x) : Pyv.run pg (n + 1) 52 [.val (netD x), .val (.list (((gapsN x).filter fun p => decide (p.1 ∈ l)).map pnD)), .val (.str "less")] s = .ok (.val (dbD (marksOf x l))) s := by
  show runFd (Pyv.run pg n) glD ir52 [.val (netD x), .val (.list (((gapsN x).filter fun p => decide (p.1 ∈ l)).map pnD)), .val (.str "less")] s = _
  unfold runFd ir52
  rw [if_pos ⟨rfl, by decide⟩]
  have p2 := h.p2
  simp [evVar, mkLst, dats, asgW, asgTg, setR, enumL_map]
  generalize hF : forLoop _ _ _ _ = o
  obtain ⟨c1, rfl, w4, w5, w6, rfl⟩ := acc_use hF (fun acc c => ∃ w4 w5 w6, c = ⟨[some (.val (netD x)), some (.val (.list (((gapsN x).filter fun p => decide (p.1 ∈ l)).map pnD))), some (.val (.str "less")), some (.own acc), w4, w5, w6, none], s⟩) (fun q => [mksD (List.replicate (nb q.2.reads).length (if q.1 ∈ l then Mk.l else Mk.t))]) (acc := []) 1000
    (fun q hq acc c hl ⟨w4, w5, w6, e⟩ => by
      subst e
      have h2 := rdlen (h.pts _ (List.mem_of_getElem? (enum_mem hq))).reads
      have h3 := nb_len (l := q.2.reads)
      have m2 := h.m2
      have f2 : fitsI ((nb q.2.reads).length : Int) = true := fitsI_nat (by omega)
      have hs : acc.length < sizeLine := by rw [sizeLine_eq]; simp at hl; omega
      refine ⟨_, rfl, ⟨[some (.val (netD x)), some (.val (.list (((gapsN x).filter fun p => decide (p.1 ∈ l)).map pnD))), some (.val (.str "less")), some (.own (acc ++ [mksD (List.replicate (nb q.2.reads).length (if q.1 ∈ l then Mk.l else Mk.t))])), some (.val (.int (q.1 : Nat))), some (.val (itD q.2.caps)), some (.val (rdD q.2.reads)), none], s⟩, ?_, _, _, _, rfl⟩
      simp [evVar, setR, ownAt, max_nb, f2, rangeL_nat, enterC, wipeR, lockW]
      rw [lc_map3 (g := fun _ => mkS (if q.1 ∈ l then Mk.l else Mk.t))]
      · have e : (List.range (nb q.2.reads).length).map (fun _ => mkS (if q.1 ∈ l then Mk.l else Mk.t)) = (List.replicate (nb q.2.reads).length (if q.1 ∈ l then Mk.l else Mk.t)).map mkS := by
          rw [List.map_const', List.length_range, List.map_replicate]
        simp [hs, e, mksD]
      · intro g hg
        have e : decide ((q.1, g) ∈ (gapsN x).filter fun p => decide (p.1 ∈ l)) = decide (q.1 ∈ l) := by
          have : (q.1, g) ∈ gapsN x := List.mem_flatMap.mpr ⟨q, hq, List.mem_map.mpr ⟨g, hg, rfl⟩⟩
          simp [List.mem_filter, this]
        have e2 := in_pn (p := (q.1, g)) (l := (gapsN x).filter fun p => decide (p.1 ∈ l))
        rw [e] at e2
        rw [show pnD (q.1, g) = .tuple [.int (q.1 : Nat), .int (g : Nat)] from rfl] at e2
        by_cases z : q.1 ∈ l <;> simp [z] at e2 <;> simp [asgTg, setR, evVar, e2, z, mkS]
      · rw [sizeLine_eq, List.length_range]; omega)
    (by
      have := fm_len (G := fun q : Nat × Pt => [mksD (List.replicate (nb q.2.reads).length (if q.1 ∈ l then Mk.l else Mk.t))]) (b := 1) (l := enum x.pts) fun _ _ => by simp
      rw [enum_len] at this
      rw [List.length_nil]; omega) ⟨none, none, none, rfl⟩
  simp [evVar, dbD, marksOf, ← List.map_eq_flatMap, Function.comp_def]
end
end K
end
/-! ## P19 -/
section
set_option maxRecDepth 100000
set_option maxHeartbeats 4000000
namespace K
open PySem PySem.Spec PyProof.Rows L2 Pyv
section
variable {call : Nat → List W → DS → RF} {gl : List PyData} {c : Cfg} {rd : Bool} {n : Nat} {s : DS}
/-- a state from which at most so many numbers are drawn -/
structure Stk (b : Nat) (s : DS) : Prop where
  cells : cellsOk s = true
  great : s.great.length ≤ 1000
  spot : s.spot ≤ b
theorem Stk.mono {b b' : Nat} {s : DS} (h : Stk b s) (l : b ≤ b') : Stk b' s := ⟨h.cells, h.great, Nat.le_trans h.spot l⟩
abbrev Big : Nat := 1000000000000
theorem draw {b : Nat} {lim : Int} (h : Stk b s) (hb : b ≤ Big) (h0 : 0 < lim) (h1 : lim ≤ 100000000) : ∃ (v : Nat) (s' : DS), Pyv.run pg (n + 1) 36 [.stm, .val (.int lim)] s = .ok (.val (.int (v : Int))) s' ∧ (v : Int) < lim ∧ Stk (b + 1) s' := by
  have ok : drawOk s lim = true := by
    have := h.spot
    unfold drawOk
    rw [Bool.and_eq_true, decide_eq_true_eq]
    refine ⟨h.cells, h0, by omega, ?_, h.great⟩
    exact Nat.lt_of_le_of_lt (Nat.le_trans this hb) (by decide)
  have e : Pyv.run pg (n + 1) 36 [.stm, .val (.int lim)] s = if drawOk s lim = true then .ok (.val (.int (drawV s lim))) (drawS s lim) else .bad := rfl
  rw [if_pos ok] at e
  obtain ⟨v1, v2⟩ := drawV_range (s := s) h0
  obtain ⟨s1, s2, s3⟩ := drawS_ok (s := s) (limit := lim)
  refine ⟨(drawV s lim).toNat, drawS s lim, ?_, by omega, ⟨?_, by rw [s3]; exact h.great, by rw [s2]; have := h.spot; omega⟩⟩
  · rw [Int.toNat_of_nonneg v1]; exact e
  · have := h.cells
    unfold cellsOk at this ⊢
    rw [s1]; exact this
/-- the same, where the call stands -/
theorem dcall {f : Nat} {ws : List W} {ρ : List (Option W)} {w : W} {s' : DS} (hp : ws.all isPlain = true) (h : call f ws s = .ok w s') : doCall call f ws ⟨ρ, s⟩ = .ok w ⟨ρ, s'⟩ := by
  unfold doCall
  rw [if_pos hp]
  show (match call f ws s with | .ok w s => Rs.ok w ⟨ρ, s⟩ | .exc k ds s => .exc k ds ⟨ρ, s⟩ | .bad => .bad) = _
  rw [h]
theorem r38 {b : Nat} {ds : List PyData} (h : Stk b s) (hb : b ≤ Big) (h0 : 0 < ds.length) (h1 : ds.length ≤ 1000) : ∃ (v : PyData) (s' : DS), Pyv.run pg (n + 2) 38 [.stm, .val (.list ds)] s = .ok (.val v) s' ∧ v ∈ ds ∧ Stk (b + 1) s' := by
  obtain ⟨v, s', e, hv, h'⟩ := draw (n := n) (lim := (ds.length : Int)) h hb (by omega) (by omega)
  have hv : v < ds.length := by omega
  refine ⟨ds[v], s', ?_, List.getElem_mem _, h'⟩
  show runFd (Pyv.run pg (n + 1)) glD ir38 [.stm, .val (.list ds)] s = _
  unfold runFd ir38
  rw [if_pos ⟨rfl, by decide⟩]
  have e2 : atI ds (v : Int) = some ds[v] := by rw [atI_nat, List.getElem?_eq_getElem hv]
  simp [evVar, doCall, e, e2]
theorem pow6 : bin2 .Pow (.int 10) (.int 6) = some (.val (.int 1000000)) := by
  show (if 0 ≤ (6 : Int) ∧ (6 : Int) ≤ 1000000 ∧ (10 : Int).natAbs < 2 ^ 64 then some (W.val (.int ((10 : Int) ^ (6 : Int).toNat))) else none) = _
  rw [if_pos (by decide)]
  rfl
theorem pow7 : bin2 .Pow (.int 10) (.int 7) = some (.val (.int 10000000)) := by
  show (if 0 ≤ (7 : Int) ∧ (7 : Int) ≤ 1000000 ∧ (10 : Int).natAbs < 2 ^ 64 then some (W.val (.int ((10 : Int) ^ (7 : Int).toNat))) else none) = _
  rw [if_pos (by decide)]
  rfl
theorem pow8 : bin2 .Pow (.int 10) (.int 8) = some (.val (.int 100000000)) := by
  show (if 0 ≤ (8 : Int) ∧ (8 : Int) ≤ 1000000 ∧ (10 : Int).natAbs < 2 ^ 64 then some (W.val (.int ((10 : Int) ^ (8 : Int).toNat))) else none) = _
  rw [if_pos (by decide)]
  rfl
theorem pow9 : bin2 .Pow (.int 10) (.int 9) = some (.val (.int 1000000000)) := by
  show (if 0 ≤ (9 : Int) ∧ (9 : Int) ≤ 1000000 ∧ (10 : Int).natAbs < 2 ^ 64 then some (W.val (.int ((10 : Int) ^ (9 : Int).toNat))) else none) = _
  rw [if_pos (by decide)]
  rfl
theorem r39 {b : Nat} {lim : Int} (h : Stk b s) (hb : b + 2 ≤ Big) (h0 : 0 < lim) (h1 : lim ≤ 10000000000000000) : ∃ (v : Nat) (s' : DS), Pyv.run pg (n + 2) 39 [.stm, .val (.int lim)] s = .ok (.val (.int (v : Int))) s' ∧ (v : Int) < lim ∧ Stk (b + 2) s' := by
  by_cases z : lim ≤ 100000000
  · obtain ⟨v, s', e, hv, h'⟩ := draw (n := n) (lim := lim) h (by omega) (by omega) (by omega)
    refine ⟨v, s', ?_, hv, h'.mono (by omega)⟩
    show runFd (Pyv.run pg (n + 1)) glD ir39 [.stm, .val (.int lim)] s = _
    unfold runFd ir39
    rw [if_pos ⟨rfl, by decide⟩]
    simp [evVar, pow8, z, doCall, e]
  · obtain ⟨v, s1, e1, hv, h1⟩ := draw (n := n) (lim := 100000000) h (by omega) (by omega) (by omega)
    obtain ⟨v2, s2, e2, hv2, h2⟩ := draw (n := n) (lim := 100000000) h1 (by omega) (by omega) (by omega)
    have z1 : 0 ≤ ((v : Int) * 100000000 + v2) % lim := Int.emod_nonneg _ (by omega)
    have z2 : ((v : Int) * 100000000 + v2) % lim < lim := Int.emod_lt_of_pos _ h0
    have m1 : mulOk (v : Int) 100000000 = true := Pyv.mulOk_of (.inr ⟨by decide, by decide⟩)
    refine ⟨(((v : Int) * 100000000 + v2) % lim).toNat, s2, ?_, by omega, h2⟩
    rw [Int.toNat_of_nonneg z1]
    show runFd (Pyv.run pg (n + 1)) glD ir39 [.stm, .val (.int lim)] s = _
    unfold runFd ir39
    rw [if_pos ⟨rfl, by decide⟩]
    have bi : ∀ i, bltV .int [.int i] = some (.val (.int i)) := fun _ => rfl
    simp [evVar, pow8, z, doCall, e1, e2, m1, bi, h0]
/-- two lists, item by item -/
inductive All2 {α β : Type} (R : α → β → Prop) : List α → List β → Prop
  | nil : All2 R [] []
  | cons {a : α} {b : β} {l : List α} {m : List β} : R a b → All2 R l m → All2 R (a :: l) (b :: m)
theorem All2.len {α β : Type} {R : α → β → Prop} {l : List α} {m : List β} (h : All2 R l m) : m.length = l.length := by
  induction h with
  | nil => rfl
  | cons _ _ ih => simp [ih]
theorem All2.right {α β : Type} {R : α → β → Prop} {l : List α} {m : List β} (h : All2 R l m) : ∀ y ∈ m, ∃ x ∈ l, R x y := by
  induction h with
  | nil => intro y hy; cases hy
  | cons r _ ih =>
    intro y hy
    rcases List.mem_cons.mp hy with rfl | hy
    · exact ⟨_, List.mem_cons_self .., r⟩
    · obtain ⟨x, hx, r⟩ := ih y hy
      exact ⟨x, List.mem_cons_of_mem _ hx, r⟩
/-- a comprehension that draws -/
theorem lc_draw {α β : Type} {F : PyData → Cfg → Rs (Option PyData)} {e : α → PyData} (f : β → PyData) (R : α → β → Prop) (K : Nat) {ρ0 ρ1 : List (Option W)} : ∀ (xs : List α) {b : Nat} {s : DS},
    (∀ x ∈ xs, ∀ (b : Nat) (s : DS), Stk b s → b + K ≤ Big → ∃ (y : β) (s' : DS), svR (F (e x) ⟨ρ1, s⟩) = some (some (f y), s') ∧ R x y ∧ Stk (b + K) s') →
    Stk b s → b + K * xs.length ≤ Big → xs.length ≤ 1000 → ∃ (ys : List β) (s' : DS), leaveC ⟨ρ0, s⟩ (lcLoop F (xs.map e) [] ⟨ρ1, s⟩) = .ok (.own (ys.map f)) ⟨ρ0, s'⟩ ∧ All2 R xs ys ∧ Stk (b + K * xs.length) s' := by
  have key : ∀ (xs : List α) (b : Nat) (s : DS) (acc : List PyData), (∀ x ∈ xs, ∀ (b : Nat) (s : DS), Stk b s → b + K ≤ Big → ∃ (y : β) (s' : DS), svR (F (e x) ⟨ρ1, s⟩) = some (some (f y), s') ∧ R x y ∧ Stk (b + K) s') →
      Stk b s → b + K * xs.length ≤ Big → acc.length + xs.length ≤ sizeLine → ∃ (ys : List β) (s' : DS), lcLoop F (xs.map e) acc ⟨ρ1, s⟩ = .ok (acc ++ ys.map f) ⟨ρ1, s'⟩ ∧ All2 R xs ys ∧ Stk (b + K * xs.length) s' := by
    intro xs
    induction xs with
    | nil => intro b s acc _ h _ _; exact ⟨[], s, by simp [lcLoop], .nil, h⟩
    | cons x xs ih =>
      intro b s acc st h hB hl
      rw [List.length_cons, Nat.mul_succ] at hB
      rw [List.length_cons] at hl
      obtain ⟨y, s1, e1, r1, h1⟩ := st x (List.mem_cons_self ..) b s h (by omega)
      obtain ⟨ys, s2, e2, r2, h2⟩ := ih (b + K) s1 (acc ++ [f y]) (fun z hz => st z (List.mem_cons_of_mem _ hz)) h1 (by omega) (by rw [List.length_append]; simp; omega)
      refine ⟨y :: ys, s2, ?_, .cons r1 r2, h2.mono (by rw [List.length_cons, Nat.mul_succ]; omega)⟩
      rw [List.map_cons, lc_step e1 (by omega), e2]
      simp
  intro xs b s st h hB hl
  obtain ⟨ys, s', e1, r, h'⟩ := key xs b s [] st h hB (by rw [sizeLine_eq, List.length_nil]; omega)
  exact ⟨ys, s', by rw [e1]; rfl, r, h'⟩
/-- .. that only leaves some out -/
theorem lc_sub {α : Type} {F : PyData → Cfg → Rs (Option PyData)} {e : α → PyData} (K : Nat) {ρ0 ρ1 : List (Option W)} : ∀ (xs : List α) {b : Nat} {s : DS},
    (∀ x ∈ xs, ∀ (b : Nat) (s : DS), Stk b s → b + K ≤ Big → ∃ (y : Bool) (s' : DS), svR (F (e x) ⟨ρ1, s⟩) = some (if y = true then some (e x) else none, s') ∧ Stk (b + K) s') →
    Stk b s → b + K * xs.length ≤ Big → xs.length ≤ 1000 → ∃ (ys : List α) (s' : DS), leaveC ⟨ρ0, s⟩ (lcLoop F (xs.map e) [] ⟨ρ1, s⟩) = .ok (.own (ys.map e)) ⟨ρ0, s'⟩ ∧ ys.Sublist xs ∧ Stk (b + K * xs.length) s' := by
  have key : ∀ (xs : List α) (b : Nat) (s : DS) (acc : List PyData), (∀ x ∈ xs, ∀ (b : Nat) (s : DS), Stk b s → b + K ≤ Big → ∃ (y : Bool) (s' : DS), svR (F (e x) ⟨ρ1, s⟩) = some (if y = true then some (e x) else none, s') ∧ Stk (b + K) s') →
      Stk b s → b + K * xs.length ≤ Big → acc.length + xs.length ≤ sizeLine → ∃ (ys : List α) (s' : DS), lcLoop F (xs.map e) acc ⟨ρ1, s⟩ = .ok (acc ++ ys.map e) ⟨ρ1, s'⟩ ∧ ys.Sublist xs ∧ Stk (b + K * xs.length) s' := by
    intro xs
    induction xs with
    | nil => intro b s acc _ h _ _; exact ⟨[], s, by simp [lcLoop], .slnil, h⟩
    | cons x xs ih =>
      intro b s acc st h hB hl
      rw [List.length_cons, Nat.mul_succ] at hB
      rw [List.length_cons] at hl
      obtain ⟨y, s1, e1, h1⟩ := st x (List.mem_cons_self ..) b s h (by omega)
      cases y with
      | true =>
        obtain ⟨ys, s2, e2, r2, h2⟩ := ih (b + K) s1 (acc ++ [e x]) (fun z hz => st z (List.mem_cons_of_mem _ hz)) h1 (by omega) (by rw [List.length_append]; simp; omega)
        refine ⟨x :: ys, s2, ?_, r2.cons_cons x, h2.mono (by rw [List.length_cons, Nat.mul_succ]; omega)⟩
        rw [List.map_cons, lc_step e1 (by omega), e2]
        simp
      | false =>
        obtain ⟨ys, s2, e2, r2, h2⟩ := ih (b + K) s1 acc (fun z hz => st z (List.mem_cons_of_mem _ hz)) h1 (by omega) (by omega)
        refine ⟨ys, s2, ?_, r2.cons x, h2.mono (by rw [List.length_cons, Nat.mul_succ]; omega)⟩
        rw [List.map_cons, lc_skip e1, e2]
  intro xs b s st h hB hl
  obtain ⟨ys, s', e1, r, h'⟩ := key xs b s [] st h hB (by rw [sizeLine_eq, List.length_nil]; omega)
  exact ⟨ys, s', by rw [e1]; rfl, r, h'⟩
end
end K
end
/-! ## P20 -/
section
set_option maxRecDepth 100000
set_option maxHeartbeats 4000000
namespace K
open PySem PySem.Spec PyProof.Rows L2 Pyv
section
variable {call : Nat → List W → DS → RF} {gl : List PyData} {c : Cfg} {rd : Bool} {n : Nat} {s : DS}
theorem rangeL_S {m : Nat} : rangeL 0 ((m : Int) + 1) = (List.range (m + 1)).map fun i => PyData.int (i : Nat) := by
  have := rangeL_nat (m := m + 1)
  rwa [Int.natCast_add, Int.natCast_one] at this
theorem fitsI_S {m : Nat} (h : m ≤ 900) : fitsI ((m : Int) + 1) = true := by
  have := fitsI_nat (m := m + 1) (by omega)
  rwa [Int.natCast_add, Int.natCast_one] at this
theorem range_asc (m : Nat) : (List.range m).Pairwise (· < ·) := List.pairwise_lt_range
theorem r42 {b many : Nat} (h : Stk b s) (hb : b + 1000 ≤ Big) (h1 : 1 ≤ many) (hm : many ≤ 24) : ∃ (sp : List Nat) (s' : DS), Pyv.run pg (n + 2) 42 [.stm, .val (.int (many : Nat))] s = .ok (.own (sp.map fun i => .int (i : Nat))) s' ∧ sp.Pairwise (· < ·) ∧ (∀ i ∈ sp, i ≤ many) ∧ Stk (b + 100) s' := by
  obtain ⟨v, s1, e1, hv, h2⟩ := draw (n := n) (lim := 7) h (by omega) (by omega) (by omega)
  have f1 := fitsI_S (m := many) (by omega)
  have go : ∀ {sp : List Nat} {s' : DS}, runFd (Pyv.run pg (n + 1)) glD ir42 [.stm, .val (.int (many : Nat))] s = .ok (.own (sp.map fun i => .int (i : Nat))) s' → sp.Pairwise (· < ·) → (∀ i ∈ sp, i ≤ many) → Stk (b + 100) s' → ∃ (sp : List Nat) (s' : DS), Pyv.run pg (n + 2) 42 [.stm, .val (.int (many : Nat))] s = .ok (.own (sp.map fun i => .int (i : Nat))) s' ∧ sp.Pairwise (· < ·) ∧ (∀ i ∈ sp, i ≤ many) ∧ Stk (b + 100) s' := fun e q1 q2 q3 => ⟨_, _, e, q1, q2, q3⟩
  by_cases v0 : v = 0
  · subst v0
    refine go (sp := List.range (many + 1)) (s' := s1) ?_ (range_asc _) (fun i hi => by have := List.mem_range.mp hi; omega) (h2.mono (by omega))
    unfold runFd ir42
    rw [if_pos ⟨rfl, by decide⟩]
    simp [evVar, doCall, e1, asgW, asgTg, setR, f1, rangeL_S]
    rw [if_pos (by omega)]
    rfl
  by_cases v1 : v = 1
  · subst v1
    refine go (sp := [0, many]) (s' := s1) ?_ (by simp; omega) (fun i hi => by simp at hi; omega) (h2.mono (by omega))
    unfold runFd ir42
    rw [if_pos ⟨rfl, by decide⟩]
    simp [evVar, doCall, e1, asgW, asgTg, setR]
  by_cases v2 : v = 2
  · subst v2
    obtain ⟨u, s2, e2, hu, h3⟩ := draw (n := n) (lim := 2) h2 (by omega) (by omega) (by omega)
    by_cases u0 : u = 0
    · subst u0
      obtain ⟨t, s3, e3, ht, h4⟩ := draw (n := n) (lim := (many : Int) + 1) h3 (by omega) (by omega) (by omega)
      refine go (sp := [t]) (s' := s3) ?_ (by simp) (fun i hi => by simp at hi; omega) (h4.mono (by omega))
      unfold runFd ir42
      rw [if_pos ⟨rfl, by decide⟩]
      simp [evVar, doCall, e1, e2, e3, asgW, asgTg, setR]
    · refine go (sp := []) (s' := s2) ?_ (by simp) (fun i hi => by simp at hi) (h3.mono (by omega))
      unfold runFd ir42
      rw [if_pos ⟨rfl, by decide⟩]
      simp [evVar, doCall, e1, e2, u0, asgW, asgTg, setR, mkLst, dats]
  · have hv3 : 3 ≤ v := by omega
    obtain ⟨ys, s2, e2, r2, h3⟩ := lc_sub (F := lcB (Pyv.run pg (n + 1)) glD (.var 3) (.name 3) (.yes (.or (.val (.cmp .Gt (.call 36 (.cons (.var 0) (.cons (.var 2) .nil))) (.lit (.int 0)))) (.val (.cmp .Eq (.call 36 (.cons (.var 0) (.cons (.lit (.int 9)) .nil))) (.lit (.int 0))))))) (e := fun i : Nat => .int (i : Nat)) 2 (ρ0 := [some .stm, some (.val (.int (many : Nat))), some (.val (.int (v : Nat))), none]) (ρ1 := [some .stm, some (.val (.int (many : Nat))), some (.val (.int (v : Nat))), none]) (List.range (many + 1))
      (fun x hx b s h hb => by
        obtain ⟨u, s2, e2, hu, h3⟩ := draw (n := n) (lim := (v : Int)) h (by omega) (by omega) (by omega)
        by_cases u0 : u = 0
        · subst u0
          obtain ⟨t, s3, e3, ht, h4⟩ := draw (n := n) (lim := 9) h3 (by omega) (by omega) (by omega)
          refine ⟨decide (t = 0), s3, ?_, h4⟩
          by_cases t0 : t = 0
          · subst t0
            simp [asgTg, setR, evVar, doCall, e2, e3]
          · simp [asgTg, setR, evVar, doCall, e2, e3, t0]
        · refine ⟨true, s2, ?_, h3.mono (by omega)⟩
          have u1 : 0 < u := by omega
          simp [asgTg, setR, evVar, doCall, e2, u1]) h2 (by rw [List.length_range]; omega) (by rw [List.length_range]; omega)
    refine go (sp := ys) (s' := s2) ?_ (List.Pairwise.sublist r2 (range_asc _)) (fun i hi => by have := List.mem_range.mp (r2.mem hi); omega) (h3.mono (by rw [List.length_range]; omega))
    unfold runFd ir42
    rw [if_pos ⟨rfl, by decide⟩]
    have w1 : ¬ (v : Int) = 1 := by omega
    have w2 : ¬ (v : Int) = 2 := by omega
    simp [evVar, doCall, e1, asgW, asgTg, setR, v0, w1, w2, f1, rangeL_S, enterC, wipeR, lockW]
    simp [e2]
theorem mul2 {i : Int} : mulOk 2 i = true := Pyv.mulOk_of (.inl ⟨by decide, by decide⟩)
theorem r53 {b : Nat} {most : Int} (h : Stk b s) (hb : b + 3 ≤ Big) (h0 : 0 ≤ most) (h1 : most ≤ 1000000) : ∃ (v : Int) (s' : DS), Pyv.run pg (n + 3) 53 [.stm, .val (.int most)] s = .ok (.val (.int v)) s' ∧ -most ≤ v ∧ v ≤ most ∧ Stk (b + 3) s' := by
  obtain ⟨v, s1, e1, hv, h2⟩ := draw (n := n + 1) (lim := 3) h (by omega) (by omega) (by omega)
  by_cases v0 : v = 0
  · subst v0
    refine ⟨0, s1, ?_, by omega, by omega, h2.mono (by omega)⟩
    show runFd (Pyv.run pg (n + 2)) glD ir53 [.stm, .val (.int most)] s = _
    unfold runFd ir53
    rw [if_pos ⟨rfl, by decide⟩]
    simp [evVar, doCall, e1]
  · obtain ⟨u, s2, e2, hu, h3⟩ := r39 (n := n) (lim := 2 * most + 1) h2 (by omega) (by omega) (by omega)
    refine ⟨u - most, s2, ?_, by omega, by omega, h3⟩
    show runFd (Pyv.run pg (n + 2)) glD ir53 [.stm, .val (.int most)] s = _
    unfold runFd ir53
    rw [if_pos ⟨rfl, by decide⟩]
    simp [evVar, doCall, e1, v0, e2, mul2]
def offBy (most : Int) (p q : Int × Int) : Prop := q.1 = p.1 ∧ p.2 - most ≤ q.2 ∧ q.2 ≤ p.2 + most
theorem r54 {b : Nat} {most : Int} {reads : List (Int × Int)} (h : Stk b s) (hb : b + 1000 ≤ Big) (h0 : 0 ≤ most) (h1 : most ≤ 1000000) (hl : reads.length ≤ 25) : ∃ (reads' : List (Int × Int)) (s' : DS), Pyv.run pg (n + 4) 54 [.stm, .val (rdD reads), .val (.int most)] s = .ok (.val (rdD reads')) s' ∧ All2 (offBy most) reads reads' ∧ Stk (b + 100) s' := by
  obtain ⟨ys, s2, e2, r2, h3⟩ := lc_draw (F := lcB (Pyv.run pg (n + 3)) glD (.tup (.cons (.var 3) (.cons (.bin .Add (.var 4) (.call 53 (.cons (.var 0) (.cons (.var 2) .nil)))) .nil))) (.tup [.name 3, .name 4]) .no) (e := prD) prD (offBy most) 3 (ρ0 := [some .stm, some (.val (rdD reads)), some (.val (.int most)), none, none]) (ρ1 := [some .stm, some (.val (rdD reads)), some (.val (.int most)), none, none]) reads
    (fun x hx b s h hb => by
      obtain ⟨v, s', e, v1, v2, h'⟩ := r53 (n := n) h (by omega) h0 h1
      refine ⟨(x.1, x.2 + v), s', ?_, ⟨rfl, by show x.2 - most ≤ x.2 + v; omega, by show x.2 + v ≤ x.2 + most; omega⟩, h'⟩
      simp [prD, asgTg, asgTgs, setR, evVar, doCall, e]) h (by omega) (by omega)
  refine ⟨ys, s2, ?_, r2, h3.mono (by omega)⟩
  show runFd (Pyv.run pg (n + 3)) glD ir54 [.stm, .val (rdD reads), .val (.int most)] s = _
  unfold runFd ir54
  rw [if_pos ⟨rfl, by decide⟩]
  have e3 : evSrc (Pyv.run pg (n + 3)) glD (.seq (.var 1)) true ⟨[some .stm, some (.val (rdD reads)), some (.val (.int most)), none, none], s⟩ = .ok (reads.map prD) ⟨[some .stm, some (.val (rdD reads)), some (.val (.int most)), none, none], s⟩ := rfl
  simp only [ss_cons, s_ret, e_blt, es_cons, e_lc]
  rw [show (⟨[W.stm, W.val (rdD reads), W.val (.int most)].map some ++ List.replicate (5 - [W.stm, W.val (rdD reads), W.val (.int most)].length) none, s⟩ : Cfg) = ⟨[some .stm, some (.val (rdD reads)), some (.val (.int most)), none, none], s⟩ from rfl, e3]
  simp only [b_ok]
  rw [show enterC ⟨[some .stm, some (.val (rdD reads)), some (.val (.int most)), none, none], s⟩ [3, 4] = ⟨[some .stm, some (.val (rdD reads)), some (.val (.int most)), none, none], s⟩ from rfl, e2]
  simp [rdD]
end
end K
end
/-! ## P21 -/
section
set_option maxRecDepth 100000
set_option maxHeartbeats 4000000
namespace K
open PySem PySem.Spec PyProof.Rows L2 Pyv
section
variable {call : Nat → List W → DS → RF} {gl : List PyData} {c : Cfg} {rd : Bool} {n : Nat} {s : DS}
@[simp] theorem sz1 : (1 ≤ sizeLine) = True := by rw [sizeLine_eq]; simp
@[simp] theorem sz2 : (2 ≤ sizeLine) = True := by rw [sizeLine_eq]; simp
@[simp] theorem sz3 : (3 ≤ sizeLine) = True := by rw [sizeLine_eq]; simp
@[simp] theorem sz4 : (4 ≤ sizeLine) = True := by rw [sizeLine_eq]; simp
/-- a loop that draws and tells a thing each turn -/
theorem for_dr {α β : Type} {tg : Tg} {f : Cfg → Out} {e : α → PyData} (P : List β → DS → Cfg → Prop) (R : α → β → Prop) (K L : Nat) : ∀ (xs : List α) {acc : List β} {b : Nat} {s : DS} {c : Cfg},
    (∀ x ∈ xs, ∀ (acc : List β) (b : Nat) (s : DS) (c : Cfg), Stk b s → b + K ≤ Big → acc.length < L → P acc s c → ∃ c1, asgTg tg (e x) c = some c1 ∧ ∃ (y : β) (s' : DS) (c2 : Cfg), f c1 = .next c2 ∧ R x y ∧ Stk (b + K) s' ∧ P (acc ++ [y]) s' c2) →
    Stk b s → b + K * xs.length ≤ Big → acc.length + xs.length ≤ L → P acc s c → ∃ (ys : List β) (s' : DS) (c' : Cfg), forLoop tg f (xs.map e) c = .next c' ∧ All2 R xs ys ∧ Stk (b + K * xs.length) s' ∧ P (acc ++ ys) s' c'
  | [], acc, b, s, c, _, h, _, _, hp => ⟨[], s, c, rfl, .nil, h, by simpa using hp⟩
  | x :: xs, acc, b, s, c, st, h, hB, hl, hp => by
    rw [List.length_cons, Nat.mul_succ] at hB
    rw [List.length_cons] at hl
    obtain ⟨c1, e1, y, s1, c2, e2, r1, h1, p1⟩ := st x (List.mem_cons_self ..) acc b s c h (by omega) (by omega) hp
    obtain ⟨ys, s2, c', e3, r2, h2, p2⟩ := for_dr P R K L xs (fun z hz => st z (List.mem_cons_of_mem _ hz)) h1 (by omega) (by rw [List.length_append]; simp; omega) p1
    refine ⟨y :: ys, s2, c', ?_, .cons r1 r2, h2.mono (by rw [List.length_cons, Nat.mul_succ]; omega), by rw [List.append_assoc] at p2; exact p2⟩
    rw [List.map_cons]
    unfold forLoop
    rw [e1]
    dsimp only
    rw [e2]
    exact e3
theorem dr_use {α β : Type} {tg : Tg} {f : Cfg → Out} {e : α → PyData} {xs : List α} {c : Cfg} {o : Out} (hF : forLoop tg f (xs.map e) c = o) (P : List β → DS → Cfg → Prop) (R : α → β → Prop) (K L : Nat) {acc : List β} {b : Nat} {s : DS}
    (st : ∀ x ∈ xs, ∀ (acc : List β) (b : Nat) (s : DS) (c : Cfg), Stk b s → b + K ≤ Big → acc.length < L → P acc s c → ∃ c1, asgTg tg (e x) c = some c1 ∧ ∃ (y : β) (s' : DS) (c2 : Cfg), f c1 = .next c2 ∧ R x y ∧ Stk (b + K) s' ∧ P (acc ++ [y]) s' c2)
    (h : Stk b s) (hB : b + K * xs.length ≤ Big) (hl : acc.length + xs.length ≤ L) (hp : P acc s c) : ∃ (ys : List β) (s' : DS) (c' : Cfg), o = .next c' ∧ All2 R xs ys ∧ Stk (b + K * xs.length) s' ∧ P (acc ++ ys) s' c' := by
  subst hF
  exact for_dr P R K L xs st h hB hl hp
theorem ex_of {α β : Type} {o o' : Out} {P : α → β → Cfg → Prop} (h : o = o') (h2 : ∃ y s' c2, o' = .next c2 ∧ P y s' c2) : ∃ y s' c2, o = .next c2 ∧ P y s' c2 := h ▸ h2
theorem mk3 {n b : Nat} (h : Stk b s) (hb : b ≤ Big) : ∃ (k : Mk) (s' : DS), Pyv.run pg (n + 2) 38 [.stm, .val (.list [.str "true", .str "less", .str "more"])] s = .ok (.val (mkS k)) s' ∧ Stk (b + 1) s' := by
  obtain ⟨v, s', e, hv, h'⟩ := r38 (n := n) (ds := [.str "true", .str "less", .str "more"]) h hb (by decide) (by decide)
  simp at hv
  rcases hv with rfl | rfl | rfl
  · exact ⟨.t, s', e, h'⟩
  · exact ⟨.l, s', e, h'⟩
  · exact ⟨.m, s', e, h'⟩
abbrev C56 (rows : List (List Int)) (way : Nat) (found : List (List Mk)) (w4 w5 w6 w7 : Option W) (s : DS) : Cfg := ⟨[some .stm, some (.val (rowsD rows)), some (.val (.int (way : Nat))), some (.own (found.map mksD)), w4, w5, w6, w7], s⟩
def P56 (rows : List (List Int)) (way : Nat) (found : List (List Mk)) (s : DS) (c : Cfg) : Prop := ∃ w4 w5 w6 w7, notBor w4 = true ∧ notBor w5 = true ∧ notBor w6 = true ∧ notBor w7 = true ∧ c = C56 rows way found w4 w5 w6 w7 s
def Q56 (rows : List (List Int)) (way : Nat) (found : List (List Mk)) (r : List Int) (acc : List Mk) (s : DS) (c : Cfg) : Prop := ∃ w6 w7, notBor w6 = true ∧ notBor w7 = true ∧ c = C56 rows way found (some (.val (itD r))) (some (.own (acc.map mkS))) w6 w7 s
theorem r56 {b : Nat} {rows : List (List Int)} (h : Stk b s) (hb : b + 40000 ≤ Big) (h1 : rows.length ≤ 100) (h2 : ∀ r ∈ rows, r.length ≤ 100) : ∃ (d : List (List Mk)) (s' : DS), Pyv.run pg (n + 3) 56 [.stm, .val (rowsD rows)] s = .ok (.val (dbD d)) s' ∧ All2 (fun (r : List Int) (m : List Mk) => m.length = r.length) rows d ∧ Stk (b + 40000) s' := by
  obtain ⟨way, s1, e1, hw, k1⟩ := draw (n := n + 1) (lim := 4) h (by omega) (by omega) (by omega)
  have go : ∀ {d : List (List Mk)} {s' : DS}, runFd (Pyv.run pg (n + 2)) glD ir56 [.stm, .val (rowsD rows)] s = .ok (.val (dbD d)) s' → All2 (fun (r : List Int) (m : List Mk) => m.length = r.length) rows d → Stk (b + 40000) s' → ∃ (d : List (List Mk)) (s' : DS), Pyv.run pg (n + 3) 56 [.stm, .val (rowsD rows)] s = .ok (.val (dbD d)) s' ∧ All2 (fun (r : List Int) (m : List Mk) => m.length = r.length) rows d ∧ Stk (b + 40000) s' := fun e q1 q2 => ⟨_, _, e, q1, q2⟩
  unfold runFd ir56 at go
  rw [if_pos ⟨rfl, by decide⟩] at go
  have eS : ∀ (c : Cfg), c.ρ[1]? = some (some (.val (rowsD rows))) → evSrc (Pyv.run pg (n + 2)) glD (.seq (.var 1)) false c = .ok (rows.map itD) c := fun c h => by
    simp [evVar, h, rowsD]
  simp [-src_seq, evVar, doCall, e1, mkLst, dats, asgs, asgW, asgTg, setR, eS] at go
  generalize hF : forLoop _ _ _ _ = o at go
  obtain ⟨d, s2, c', rfl, r2, k2, w4, w5, w6, w7, _, _, _, _, rfl⟩ := dr_use hF (P56 rows way) (fun (r : List Int) (m : List Mk) => m.length = r.length) 300 1000 (acc := []) (b := b + 1) (s := s1)
    (fun r hr found b s c k hb hl ⟨w4, w5, w6, w7, q4, q5, q6, q7, e⟩ => by
      subst e
      have hrl := h2 r hr
      refine ⟨_, rfl, ?_⟩
      have eI : ∀ (c : Cfg), c.ρ[4]? = some (some (.val (itD r))) → evSrc (Pyv.run pg (n + 2)) glD (.seq (.var 4)) false c = .ok (r.map .int) c := fun c h => by
        simp [evVar, h, itD]
      simp [-src_seq, setR, mkLst, dats, asgW, asgTg, eI]
      generalize hF : forLoop _ _ _ _ = o
      obtain ⟨ms, s2, c', rfl, r2, k2, w6, w7, q6, q7, rfl⟩ := dr_use hF (Q56 rows way found r) (fun (_ : Int) (_ : Mk) => True) 3 1000 (acc := []) (b := b) (s := s)
        (fun v hv acc b s c k hb hl ⟨w6, w7, q6, q7, e⟩ => by
          subst e
          refine ⟨_, rfl, ?_⟩
          obtain ⟨k1, s1, e1, h1⟩ := mk3 (n := n) k (by omega)
          have hs : acc.length < sizeLine := by rw [sizeLine_eq]; omega
          have eA : ∃ rk : Mk, evS (Pyv.run pg (n + 2)) glD (.asg (.name 7) (.ix (.lst (.cons (.lit (.str "less")) (.cons (.lit (.str "more")) (.cons (.call 38 (.cons (.var 0) (.cons (.lst (.cons (.lit (.str "true")) (.cons (.lit (.str "less")) (.cons (.lit (.str "more")) .nil)))) .nil))) .nil)))) (.ite (.val (.cmp .Gt (.var 6) (.lit (.int 0)))) (.lit (.int 0)) (.ite (.val (.cmp .Lt (.var 6) (.lit (.int 0)))) (.lit (.int 1)) (.lit (.int 2))))))
              (C56 rows way found (some (.val (itD r))) (some (.own (acc.map mkS))) (some (.val (.int v))) w7 s) = .next (C56 rows way found (some (.val (itD r))) (some (.own (acc.map mkS))) (some (.val (.int v))) (some (.val (mkS rk))) s1) := by
            by_cases z1 : 0 < v
            · exact ⟨.l, by simp [evVar, doCall, e1, mkLst, dats, z1, asgW, asgTg, setR, mkS]⟩
            · by_cases z2 : v < 0
              · exact ⟨.m, by simp [evVar, doCall, e1, mkLst, dats, z1, z2, asgW, asgTg, setR, mkS]⟩
              · exact ⟨k1, by simp [evVar, doCall, e1, mkLst, dats, z1, z2, asgW, asgTg, setR]⟩
          obtain ⟨rk, eA⟩ := eA
          rw [ss_cons]
          have eA2 := eA
          simp only [setR, C56, List.set_cons_succ, List.set_cons_zero] at eA2 ⊢
          rw [eA2]
          simp only [th_next, ss_cons, ss_nil, th_nx]
          by_cases w0 : way = 0
          · subst w0
            obtain ⟨k2, s2, e2, h2⟩ := mk3 (n := n) h1 (by omega)
            refine ⟨k2, s2, C56 rows 0 found (some (.val (itD r))) (some (.own ((acc ++ [k2]).map mkS))) (some (.val (.int v))) (some (.val (mkS rk))) s2, ?_, trivial, h2.mono (by omega), _, _, rfl, rfl, rfl⟩
            simp [ownAt, evVar, doCall, e2, mkLst, dats, setR, hs]
          · by_cases w1 : way = 1
            · subst w1
              obtain ⟨u, s2, e2, hu, h2⟩ := draw (n := n + 1) (lim := 9) h1 (by omega) (by omega) (by omega)
              by_cases u0 : u = 0
              · subst u0
                obtain ⟨k3, s3, e3, h3⟩ := mk3 (n := n) h2 (by omega)
                refine ⟨k3, s3, C56 rows 1 found (some (.val (itD r))) (some (.own ((acc ++ [k3]).map mkS))) (some (.val (.int v))) (some (.val (mkS rk))) s3, ?_, trivial, h3.mono (by omega), _, _, rfl, rfl, rfl⟩
                simp [ownAt, evVar, doCall, e2, e3, mkLst, dats, setR, hs]
              · refine ⟨rk, s2, C56 rows 1 found (some (.val (itD r))) (some (.own ((acc ++ [rk]).map mkS))) (some (.val (.int v))) (some (.val (mkS rk))) s2, ?_, trivial, h2.mono (by omega), _, _, rfl, rfl, rfl⟩
                simp [ownAt, evVar, doCall, e2, u0, mkLst, dats, setR, hs]
            · refine ⟨rk, s1, C56 rows way found (some (.val (itD r))) (some (.own ((acc ++ [rk]).map mkS))) (some (.val (.int v))) (some (.val (mkS rk))) s1, ?_, trivial, h1.mono (by omega), _, _, rfl, rfl, rfl⟩
              have w1' : ¬ (way : Int) = 1 := by omega
              simp [ownAt, evVar, w0, w1', setR, hs])
        k (by omega) (by rw [List.length_nil]; omega) ⟨w6, w7, q6, q7, rfl⟩
      have hs : found.length < sizeLine := by rw [sizeLine_eq]; omega
      refine ⟨ms, s2, C56 rows way (found ++ [ms]) (some (.val (itD r))) (some (.own (ms.map mkS))) w6 w7 s2, ?_, r2.len, k2.mono (by omega), _, _, _, _, rfl, rfl, q6, q7, rfl⟩
      simp [ownAt, evVar, setR, hs, q6, q7, mksD])
    k1 (by omega) (by rw [List.length_nil]; omega) ⟨none, none, none, none, rfl, rfl, rfl, rfl, rfl⟩
  exact go (d := d) (s' := s2) (by simp [evVar, dbD]) r2 (k2.mono (by omega))
end
end K
end
/-! ## P22 -/
section
set_option maxRecDepth 100000
set_option maxHeartbeats 4000000
namespace K
open PySem PySem.Spec PyProof.Rows L2 Pyv
section
variable {call : Nat → List W → DS → RF} {gl : List PyData} {c : Cfg} {rd : Bool} {n : Nat} {s : DS}
def sumd (row : List Int) (many : Nat) (base : Int) : List Int := (List.range many).map fun i => base + (row.take i).sum
theorem r57 {b : Bool} {row : List Int} {many : Nat} {base : Int} (h : many ≤ 1000) : Pyv.run pg (n + 1) 57 [.val (sqD b row), .val (.int (many : Nat)), .val (.int base)] s = .ok (.val (itD (sumd row many base))) s := by
  show runFd (Pyv.run pg n) glD ir57 [.val (sqD b row), .val (.int (many : Nat)), .val (.int base)] s = _
  unfold runFd ir57
  rw [if_pos ⟨rfl, by decide⟩]
  have f1 : fitsI (many : Int) = true := fitsI_nat h
  simp [evVar, f1, rangeL_nat, enterC, wipeR, lockW]
  rw [lc_map3 (g := fun i => .int (base + (row.take i).sum))]
  · simp [itD, sumd, Function.comp_def]
  · intro i hi
    have e1 := bl_sum (l := row.take i)
    have e2 := bl_sum2 (l := row.take i)
    rw [List.map_take] at e1 e2
    cases b <;> simp [asgTg, setR, evVar, sqD, sl_to, sl_toL, e1, e2]
  · rw [sizeLine_eq, List.length_range]; omega
theorem r59 {reads : List (Int × Int)} {row : List Int} (h : reads.length ≤ 1000) : Pyv.run pg (n + 1) 59 [.val (rdD reads), .val (itD row)] s = .ok (.val (rdD (chR reads row))) s := by
  show runFd (Pyv.run pg n) glD ir59 [.val (rdD reads), .val (itD row)] s = _
  unfold runFd ir59
  rw [if_pos ⟨rfl, by decide⟩]
  simp [evVar, rdD, itD, enterC, wipeR, lockW]
  rw [lc_map3 (g := fun p => prD (p.1.1, p.1.2 + p.2))]
  · simp [chR, Function.comp_def]
  · intro p hp
    simp [asgTg, asgTgs, setR, evVar, prD]
  · rw [sizeLine_eq, List.length_zip]; omega
theorem eq_it {l m : List Int} : cmp2 .Eq (itD l) (itD m) = some (decide (l = m)) := by
  show (if SeqAt.shaped (itD l) = true ∧ SeqAt.shaped (itD m) = true then some (PyData.eqv (itD l) (itD m)) else none) = _
  rw [if_pos ⟨shaped_it l, shaped_it m⟩]
  congr 1
  show PyData.eqv (.tuple (l.map .int)) (.tuple (m.map .int)) = _
  rw [PyData.eqv, eqv_it]
theorem r41i {l : List Int} {i : Nat} {v : Int} (h : i < l.length) (hl : l.length ≤ 1000) : Pyv.run pg (n + 1) 41 [.val (itD l), .val (.int (i : Nat)), .val (.int v)] s = .ok (.val (itD (l.set i v))) s := by
  have := r41 (n := n) (s := s) (ds := l.map .int) (i := i) (d := .int v) (by simpa using h) (by simpa using hl)
  rw [← List.map_set] at this
  exact this
theorem r41r {l : List (List Int)} {i : Nat} {v : List Int} (h : i < l.length) (hl : l.length ≤ 1000) : Pyv.run pg (n + 1) 41 [.val (rowsD l), .val (.int (i : Nat)), .val (itD v)] s = .ok (.val (rowsD (l.set i v))) s := by
  have := r41 (n := n) (s := s) (ds := l.map itD) (i := i) (d := itD v) (by simpa using h) (by simpa using hl)
  rw [← List.map_set] at this
  exact this
inductive Bent (ch : Sheet) : Sheet → Bool → Prop where
  | no : Bent ch ch false
  | main (i : Nat) (by_ : Int) : by_ ≠ 0 → i < ch.lost.length → Bent ch ⟨ch.uses, ch.lost.set i (nth ch.lost i + by_)⟩ (decide (1 < ch.lost.length))
  | row (k i : Nat) (by_ : Int) : by_ ≠ 0 → k < ch.uses.length → i < (rowAt ch k).length → Bent ch ⟨ch.uses.set k ((rowAt ch k).set i (nth (rowAt ch k) i + by_)), ch.lost⟩ (decide (1 < (rowAt ch k).length))
theorem sh0r {x : Sheet} : ix2 (shD x) (.int 0) = some (.val (rowsD x.uses)) := by simp [shD, rowsD]
theorem len_rows {l : List (List Int)} : bltV .len [rowsD l] = some (.val (.int l.length)) := by simp [rowsD]
theorem r60 {b : Nat} {ch : Sheet} (h : Stk b s) (hb : b + 100 ≤ Big) (h1 : ch.uses.length ≤ 100) (h2 : ∀ r ∈ ch.uses, r.length ≤ 100) (h3 : ch.lost.length ≤ 100) : ∃ (ch' : Sheet) (off : Bool) (s' : DS), Pyv.run pg (n + 3) 60 [.stm, .val (shD ch)] s = .ok (.val (.tuple [shD ch', .bool off])) s' ∧ Bent ch ch' off ∧ Stk (b + 100) s' := by
  obtain ⟨k, s1, e1, hk, k1⟩ := draw (n := n + 1) (lim := (ch.uses.length : Int) + 1) h (by omega) (by omega) (by omega)
  obtain ⟨v, s2, e2, hv, k2⟩ := r38 (n := n) (ds := [.int (-1), .int 1, .int 3]) k1 (by omega) (by decide) (by decide)
  have ev : ∃ by_ : Int, by_ ≠ 0 ∧ v = .int by_ := by
    simp at hv
    rcases hv with rfl | rfl | rfl
    · exact ⟨-1, by decide, rfl⟩
    · exact ⟨1, by decide, rfl⟩
    · exact ⟨3, by decide, rfl⟩
  obtain ⟨by_, hby, rfl⟩ := ev
  have go : ∀ {ch' : Sheet} {off : Bool} {s' : DS}, runFd (Pyv.run pg (n + 2)) glD ir60 [.stm, .val (shD ch)] s = .ok (.val (.tuple [shD ch', .bool off])) s' → Bent ch ch' off → Stk (b + 100) s' → ∃ (ch' : Sheet) (off : Bool) (s' : DS), Pyv.run pg (n + 3) 60 [.stm, .val (shD ch)] s = .ok (.val (.tuple [shD ch', .bool off])) s' ∧ Bent ch ch' off ∧ Stk (b + 100) s' := fun e q1 q2 => ⟨_, _, _, e, q1, q2⟩
  have en : ∀ l : List Int, cmp2 .Eq (itD l) (.tuple []) = some (decide (l = [])) := fun l => eq_it (m := [])
  by_cases z : k = ch.uses.length
  · subst z
    by_cases w : ch.lost = []
    · refine go (ch' := ch) (off := false) (s' := s2) ?_ .no (k2.mono (by omega))
      have en2 := en ch.lost
      rw [w] at en2
      unfold runFd ir60
      rw [if_pos ⟨rfl, by decide⟩]
      simp [-sh0, evVar, doCall, sh0r, len_rows, e1, e2, mkLst, mkTup, dats, asgs, asgW, asgTg, setR, w, en2]
    · have hl : 0 < ch.lost.length := List.length_pos_iff.mpr w
      obtain ⟨i, s3, e3, hi, k3⟩ := draw (n := n + 1) (lim := (ch.lost.length : Int)) k2 (by omega) (by omega) (by omega)
      have hi : i < ch.lost.length := by omega
      have c41 := r41i (n := n + 1) (s := s3) (v := nth ch.lost i + by_) hi (by omega)
      refine go (ch' := ⟨ch.uses, ch.lost.set i (nth ch.lost i + by_)⟩) (off := decide (1 < ch.lost.length)) (s' := s3) ?_ (.main i by_ hby hi) (k3.mono (by omega))
      have a1 : ix2 (itD ch.lost) (.int (i : Nat)) = some (.val (.int (nth ch.lost i))) := by simp [itD, at_int hi]
      unfold runFd ir60
      rw [if_pos ⟨rfl, by decide⟩]
      simp [-sh0, evVar, doCall, sh0r, len_rows, e1, e2, mkLst, mkTup, dats, asgs, asgW, asgTg, setR, en, w, e3, a1, c41]
      simp [shD, rowsD]
      omega
  · have hk : k < ch.uses.length := by omega
    have hkz : ¬ (k : Int) = (ch.uses.length : Int) := by omega
    have hrow : ch.uses[k]? = some (rowAt ch k) := by
      unfold rowAt
      rw [List.getD_eq_getElem?_getD, List.getElem?_eq_getElem hk]
      rfl
    have hrl := h2 _ (List.mem_of_getElem? hrow)
    have a0 : ix2 (rowsD ch.uses) (.int (k : Nat)) = some (.val (itD (rowAt ch k))) := by simp [rowsD, at_map hrow]
    by_cases w : rowAt ch k = []
    · refine go (ch' := ch) (off := false) (s' := s2) ?_ .no (k2.mono (by omega))
      have en2 := en (rowAt ch k)
      rw [w] at en2
      unfold runFd ir60
      rw [if_pos ⟨rfl, by decide⟩]
      simp [-sh0, evVar, doCall, sh0r, len_rows, e1, e2, mkLst, mkTup, dats, asgs, asgW, asgTg, setR, hkz, a0, w, en2]
    · have hl : 0 < (rowAt ch k).length := List.length_pos_iff.mpr w
      obtain ⟨i, s3, e3, hi, k3⟩ := draw (n := n + 1) (lim := ((rowAt ch k).length : Int)) k2 (by omega) (by omega) (by omega)
      have hi : i < (rowAt ch k).length := by omega
      have c41 := r41i (n := n + 1) (s := s3) (v := nth (rowAt ch k) i + by_) hi (by omega)
      have c41r := r41r (n := n + 1) (s := s3) (v := (rowAt ch k).set i (nth (rowAt ch k) i + by_)) hk (by omega)
      refine go (ch' := ⟨ch.uses.set k ((rowAt ch k).set i (nth (rowAt ch k) i + by_)), ch.lost⟩) (off := decide (1 < (rowAt ch k).length)) (s' := s3) ?_ (.row k i by_ hby hk hi) (k3.mono (by omega))
      have a1 : ix2 (itD (rowAt ch k)) (.int (i : Nat)) = some (.val (.int (nth (rowAt ch k) i))) := by simp [itD, at_int hi]
      unfold runFd ir60
      rw [if_pos ⟨rfl, by decide⟩]
      simp [-sh0, evVar, doCall, sh0r, len_rows, e1, e2, mkLst, mkTup, dats, asgs, asgW, asgTg, setR, hkz, a0, en, w, e3, a1, c41, c41r]
      simp [shD, rowsD]
      omega
end
end K
end
/-! ## P23 -/
section
set_option maxRecDepth 100000
set_option maxHeartbeats 4000000
namespace K
open PySem PySem.Spec PyProof.Rows L2 Pyv
/-! ### the plain law of changes -/
section
theorem nb_cons {α : Type} {a b : α} {l : List α} : nb (a :: b :: l) = (a, b) :: nb (b :: l) := rfl
theorem nb_one {α : Type} {a : α} : nb [a] = [] := rfl
theorem amts_cons {p q : Int × Int} {l : List (Int × Int)} : amts (p :: q :: l) = (q.2 - p.2) :: amts (q :: l) := rfl
theorem gapS_cons {p q : Int × Int} {l : List (Int × Int)} {row : List Int} : gapS (p :: q :: l) row = (cut row p.1 q.1).sum :: gapS (q :: l) row := rfl
theorem hid_cons {p q : Int × Int} {l : List (Int × Int)} {row : List Int} : hidRow (p :: q :: l) row = ((cut row p.1 q.1).sum - (q.2 - p.2)) :: hidRow (q :: l) row := rfl
theorem sumd_nil {m : Nat} {base : Int} : sumd [] m base = List.replicate m base := by
  unfold sumd
  simp [List.map_const']
theorem sumd_cons {a : Int} {h : List Int} {m : Nat} {base : Int} : sumd (a :: h) (m + 1) base = base :: sumd h m (base + a) := by
  unfold sumd
  rw [List.range_succ_eq_map]
  simp [Function.comp_def, Int.add_assoc]
theorem sumd_len {h : List Int} {m : Nat} {base : Int} : (sumd h m base).length = m := by simp [sumd]
/-- readings that begin with v and go on by what a row tells -/
def fr (row : List Int) : Int → List (Int × Int) → List (Int × Int)
  | _, [] => []
  | v, [p] => [(p.1, v)]
  | v, p :: q :: l => (p.1, v) :: fr row (v + (cut row p.1 q.1).sum) (q :: l)
theorem fr_len {row : List Int} : ∀ {l : List (Int × Int)} {v : Int}, (fr row v l).length = l.length
  | [], _ => rfl
  | [p], _ => rfl
  | p :: q :: l, v => by
    show (fr row (v + (cut row p.1 q.1).sum) (q :: l)).length + 1 = _
    rw [fr_len]; rfl
theorem fr_head {row : List Int} {p : Int × Int} {l : List (Int × Int)} {v : Int} : ∃ t, fr row v (p :: l) = (p.1, v) :: t := by
  cases l with
  | nil => exact ⟨[], rfl⟩
  | cons q l => exact ⟨_, rfl⟩
theorem own_fr {row : List Int} : ∀ {l : List (Int × Int)} {p : Int × Int} {base : Int}, chR (p :: l) (sumd (hidRow (p :: l) row) (l.length + 1) base) = fr row (p.2 + base) (p :: l)
  | [], p, base => by
    show chR [p] (sumd [] 1 base) = _
    rw [sumd_nil]
    rfl
  | q :: l, p, base => by
    rw [hid_cons]
    show chR (p :: q :: l) (sumd _ (l.length + 1 + 1) base) = _
    rw [sumd_cons]
    show (p.1, p.2 + base) :: chR (q :: l) (sumd (hidRow (q :: l) row) (l.length + 1) (base + ((cut row p.1 q.1).sum - (q.2 - p.2)))) = _
    rw [own_fr]
    show _ = (p.1, p.2 + base) :: fr row (p.2 + base + (cut row p.1 q.1).sum) (q :: l)
    rw [show q.2 + (base + ((cut row p.1 q.1).sum - (q.2 - p.2))) = p.2 + base + (cut row p.1 q.1).sum from by omega]
theorem fr_amts {row : List Int} : ∀ {l : List (Int × Int)} {v : Int}, amts (fr row v l) = gapS l row
  | [], _ => rfl
  | [p], _ => rfl
  | p :: q :: l, v => by
    obtain ⟨t, ht⟩ := fr_head (row := row) (p := q) (l := l) (v := v + (cut row p.1 q.1).sum)
    have ih := fr_amts (row := row) (l := q :: l) (v := v + (cut row p.1 q.1).sum)
    show amts ((p.1, v) :: fr row (v + (cut row p.1 q.1).sum) (q :: l)) = _
    rw [ht] at ih ⊢
    rw [amts_cons, ih, gapS_cons]
    congr 1
    show v + (cut row p.1 q.1).sum - v = _
    omega
theorem fr_gapS {row row' : List Int} : ∀ {l : List (Int × Int)} {v : Int}, gapS (fr row v l) row' = gapS l row'
  | [], _ => rfl
  | [p], _ => rfl
  | p :: q :: l, v => by
    obtain ⟨t, ht⟩ := fr_head (row := row) (p := q) (l := l) (v := v + (cut row p.1 q.1).sum)
    have ih := fr_gapS (row := row) (row' := row') (l := q :: l) (v := v + (cut row p.1 q.1).sum)
    show gapS ((p.1, v) :: fr row (v + (cut row p.1 q.1).sum) (q :: l)) row' = _
    rw [ht] at ih ⊢
    rw [gapS_cons, ih, gapS_cons]
theorem sum_bound {lo hi : Int} : ∀ {l : List Int}, (∀ x ∈ l, lo ≤ x ∧ x ≤ hi) → lo * l.length ≤ l.sum ∧ l.sum ≤ hi * l.length
  | [], _ => by simp
  | a :: l, h => by
    obtain ⟨h1, h2⟩ := sum_bound (l := l) fun x hx => h x (List.mem_cons_of_mem _ hx)
    obtain ⟨h3, h4⟩ := h a (List.mem_cons_self ..)
    rw [List.sum_cons, List.length_cons, Int.natCast_add, Int.natCast_one, Int.mul_add, Int.mul_add]
    omega
theorem cut_nat {row : List Int} {i j : Nat} (h : i ≤ j) (hj : j ≤ row.length) : cut row (i : Int) (j : Int) = (row.drop i).take (j - i) := by
  unfold cut
  rw [sIx_nat, sIx_nat, Nat.min_eq_left hj, Nat.min_eq_left (Nat.le_trans h hj)]
theorem cut_bound {row : List Int} {lo hi : Int} (hr : ∀ x ∈ row, lo ≤ x ∧ x ≤ hi) {i j : Int} (h0 : 0 ≤ i) (h : i ≤ j) (hj : j ≤ row.length) : lo * (j - i) ≤ (cut row i j).sum ∧ (cut row i j).sum ≤ hi * (j - i) := by
  obtain ⟨a, rfl⟩ := Int.eq_ofNat_of_zero_le h0
  obtain ⟨b, rfl⟩ := Int.eq_ofNat_of_zero_le (Int.le_trans h0 h)
  have hab : a ≤ b := by omega
  have hb : b ≤ row.length := by omega
  rw [cut_nat hab hb]
  have := sum_bound (lo := lo) (hi := hi) (l := (row.drop a).take (b - a)) fun x hx => hr x (List.mem_of_mem_drop (List.mem_of_mem_take hx))
  rw [List.length_take, List.length_drop, Nat.min_eq_left (by omega)] at this
  rw [show (b : Int) - a = ((b - a : Nat) : Int) from by omega]
  exact this
theorem fr_ok {row : List Int} {many : Nat} (hr : ∀ x ∈ row, -100 ≤ x ∧ x ≤ 10000000000) (hl : row.length = many) : ∀ {l : List (Int × Int)} {p : Int × Int} {b v : Int}, -1 ≤ b → rdOk many b (p :: l) → 0 ≤ v - 100 * (many - p.1) → v + 10000000000 * (many - p.1) ≤ 1000000000000 → rdOk many b (fr row v (p :: l))
  | [], p, b, v, hb, ⟨⟨h1, h2, h3, h4⟩, _⟩, k1, k2 => by
    refine ⟨⟨h1, h2, ?_, ?_⟩, trivial⟩
    · show 0 ≤ v; omega
    · show v ≤ _; omega
  | q :: l, p, b, v, hb, ⟨⟨h1, h2, h3, h4⟩, h5⟩, k1, k2 => by
    have h5' := h5
    obtain ⟨⟨h6, h7, _, _⟩, _⟩ := h5'
    have cb := cut_bound hr (i := p.1) (j := q.1) (by omega) (by omega) (by rw [hl]; exact h7)
    refine ⟨⟨h1, h2, ?_, ?_⟩, fr_ok hr hl (b := p.1) (by omega) h5 ?_ ?_⟩
    · show 0 ≤ v; omega
    · show v ≤ _; omega
    · omega
    · omega
theorem chR_zero : ∀ {l : List (Int × Int)}, chR l (List.replicate l.length 0) = l
  | [] => rfl
  | p :: l => by
    show (p.1, p.2 + 0) :: chR l (List.replicate l.length 0) = _
    rw [chR_zero, Int.add_zero]
theorem chR_cons {p : Int × Int} {l : List (Int × Int)} {a : Int} {w : List Int} : chR (p :: l) (a :: w) = (p.1, p.2 + a) :: chR l w := rfl
/-- one change otherwise -/
theorem bent_amts : ∀ {r : List (Int × Int)} {w : List Int} {i : Nat} {by_ : Int}, w.length = r.length → i < w.length → by_ ≠ 0 → (amts (chR r (w.set i (nth w i + by_))) = amts (chR r w) ↔ ¬ 1 < w.length)
  | [], w, i, _, h, hi, _ => by rw [h] at hi; cases hi
  | [p], [a], 0, by_, _, _, _ => by
    show amts [(p.1, p.2 + (nth [a] 0 + by_))] = amts [(p.1, p.2 + a)] ↔ _
    simp [amts, nb]
  | [p], [a], i + 1, by_, _, hi, _ => by simp at hi
  | p :: q :: l, a :: a2 :: w, 0, by_, h, hi, hb => by
    show amts ((p.1, p.2 + (a + by_)) :: (q.1, q.2 + a2) :: chR l w) = amts ((p.1, p.2 + a) :: (q.1, q.2 + a2) :: chR l w) ↔ _
    rw [amts_cons, amts_cons]
    simp
    omega
  | p :: q :: l, a :: a2 :: w, 1, by_, h, hi, hb => by
    show amts ((p.1, p.2 + a) :: (q.1, q.2 + (a2 + by_)) :: chR l w) = amts ((p.1, p.2 + a) :: (q.1, q.2 + a2) :: chR l w) ↔ _
    rw [amts_cons, amts_cons]
    simp
    intro z
    omega
  | p :: q :: l, a :: a2 :: w, i + 2, by_, h, hi, hb => by
    have ih := bent_amts (r := q :: l) (w := a2 :: w) (i := i + 1) (by_ := by_) (by simpa using h) (by simpa using hi) hb
    have e1 : (a2 :: w).set (i + 1) (nth (a2 :: w) (i + 1) + by_) = a2 :: w.set i (nth w i + by_) := rfl
    rw [e1] at ih
    show amts ((p.1, p.2 + a) :: chR (q :: l) (a2 :: w.set i (nth w i + by_))) = amts ((p.1, p.2 + a) :: chR (q :: l) (a2 :: w)) ↔ _
    rw [chR_cons, chR_cons] at ih
    rw [chR_cons, chR_cons, amts_cons, amts_cons, List.cons.injEq]
    have hw : 1 < (a2 :: w).length := by
      have : i + 2 < (a :: a2 :: w).length := hi
      simp only [List.length_cons] at this ⊢
      omega
    have hn : ¬ (amts ((q.1, q.2 + a2) :: chR l (w.set i (nth w i + by_))) = amts ((q.1, q.2 + a2) :: chR l w)) := fun z => ih.mp z hw
    constructor
    · rintro ⟨_, z⟩; exact absurd z hn
    · intro z
      exact absurd (by simp) z
end
end K
end
/-! ## P24 -/
section
set_option maxRecDepth 100000
set_option maxHeartbeats 4000000
namespace K
open PySem PySem.Spec PyProof.Rows L2 Pyv
section
theorem nth_ext {l m : List Int} (h : l.length = m.length) (k : ∀ i, i < m.length → nth l i = nth m i) : l = m := by
  refine List.ext_getElem h fun i h1 h2 => ?_
  have := k i h2
  simp only [nth, List.getD_eq_getElem?_getD, List.getElem?_eq_getElem h1, List.getElem?_eq_getElem h2, Option.getD_some] at this
  exact this
theorem enum_nil {am sums : List Int} {G : Nat × Int → List PyData} (hG : ∀ q, G q = [] ↔ nth sums q.1 = q.2) (h : sums.length = am.length) : (enum am).flatMap G = [] ↔ sums = am := by
  rw [List.flatMap_eq_nil_iff, enum_range]
  constructor
  · intro z
    refine nth_ext h fun i hi => ?_
    exact (hG _).mp (z (i, nth am i) (List.mem_map.mpr ⟨i, List.mem_range.mpr hi, rfl⟩))
  · intro z p hp
    obtain ⟨i, hi, rfl⟩ := List.mem_map.mp hp
    exact (hG _).mpr (by rw [z])
theorem gp_nil {x : Net} {y : Sheet} {am : List (List Int)} {mam : List Int} (ha : AmOk x am mam) : gpF x y am mam = [] ↔ (∀ q ∈ enum x.pts, gapS q.2.reads (rowAt y q.1) = amAt am q.1) ∧ gapS x.main (thru x y) = mam := by
  unfold gpF
  rw [List.append_eq_nil_iff]
  have h1 : (enum mam).flatMap (mainOne (gapS x.main (thru x y))) = [] ↔ gapS x.main (thru x y) = mam := enum_nil (fun q => by unfold mainOne; split <;> simp [*]) (by rw [gapS_len, ha.main])
  have h2 : (enum x.pts).flatMap (gapsF x y am) = [] ↔ ∀ q ∈ enum x.pts, gapS q.2.reads (rowAt y q.1) = amAt am q.1 := by
    rw [List.flatMap_eq_nil_iff]
    have key : ∀ q ∈ enum x.pts, gapsF x y am q = [] ↔ gapS q.2.reads (rowAt y q.1) = amAt am q.1 := fun q hq => enum_nil (fun p => by unfold gapOne; split <;> simp [*]) (by rw [gapS_len, ha.rows q hq])
    exact ⟨fun z q hq => (key q hq).mp (z q hq), fun z q hq => (key q hq).mpr (z q hq)⟩
  rw [h1, h2]
theorem amC_at {x : Net} {ch : Sheet} (hc : ChOk x ch) {q : Nat × Pt} (hq : q ∈ enum x.pts) : ch.uses[q.1]? = some (rowAt ch q.1) ∧ (q.2, rowAt ch q.1) ∈ x.pts.zip ch.uses ∧ amAt (amC x ch) q.1 = amts (chR q.2.reads (rowAt ch q.1)) := by
  have h1 := enum_mem hq
  obtain ⟨hi, h2⟩ := List.getElem?_eq_some_iff.mp h1
  have hi2 : q.1 < ch.uses.length := by rw [hc.len]; exact hi
  have e1 : rowAt ch q.1 = ch.uses[q.1] := by
    unfold rowAt
    rw [List.getD_eq_getElem?_getD, List.getElem?_eq_getElem hi2]
    rfl
  have hz : (x.pts.zip ch.uses)[q.1]? = some (q.2, ch.uses[q.1]) := by
    rw [List.getElem?_eq_getElem (by rw [List.length_zip]; omega), List.getElem_zip, h2]
  refine ⟨by rw [e1]; exact List.getElem?_eq_getElem hi2, by rw [e1]; exact List.mem_of_getElem? hz, ?_⟩
  unfold amAt amC
  rw [List.getD_eq_getElem?_getD, List.getElem?_map, hz, e1]
  rfl
theorem beh_iff {x : Net} {y ch : Sheet} (hc : ChOk x ch) : behF x y ch = [] ↔ bndF x y = [] ∧ (∀ q ∈ enum x.pts, gapS q.2.reads (rowAt y q.1) = amts (chR q.2.reads (rowAt ch q.1))) ∧ gapS x.main (thru x y) = amts (chR x.main ch.lost) := by
  unfold behF
  rw [List.append_eq_nil_iff, gp_nil (amC_ok hc)]
  have key : (∀ q ∈ enum x.pts, gapS q.2.reads (rowAt y q.1) = amAt (amC x ch) q.1) ↔ ∀ q ∈ enum x.pts, gapS q.2.reads (rowAt y q.1) = amts (chR q.2.reads (rowAt ch q.1)) :=
    ⟨fun z q hq => by rw [z q hq, (amC_at hc hq).2.2], fun z q hq => by rw [z q hq, (amC_at hc hq).2.2]⟩
  rw [key]
theorem all_iff {x : Net} {y : Sheet} : allF x y = [] ↔ bndF x y = [] ∧ (∀ q ∈ enum x.pts, gapS q.2.reads (rowAt y q.1) = amts q.2.reads) ∧ gapS x.main (thru x y) = amts x.main := by
  unfold allF
  rw [List.append_eq_nil_iff, gp_nil am_ok]
  have key : (∀ q ∈ enum x.pts, gapS q.2.reads (rowAt y q.1) = amAt (ams x) q.1) ↔ ∀ q ∈ enum x.pts, gapS q.2.reads (rowAt y q.1) = amts q.2.reads :=
    ⟨fun z q hq => by rw [z q hq, am_at hq], fun z q hq => by rw [z q hq, am_at hq]⟩
  rw [key]
/-- the changes that a table tells -/
structure OwnCh (x : Net) (y ch : Sheet) : Prop where
  len : ch.uses.length = x.pts.length
  rows : ∀ p ∈ (x.pts.zip y.uses).zip ch.uses, ∃ base : Int, (-5 ≤ base ∧ base ≤ 5) ∧ p.2 = sumd (hidRow p.1.1.reads p.1.2) p.1.1.reads.length base
  main : ∃ base : Int, (-5 ≤ base ∧ base ≤ 5) ∧ ch.lost = sumd (hidRow x.main (thru x y)) x.main.length base
theorem own_ok {x : Net} {y ch : Sheet} (hy : ShOk x y) (h : OwnCh x y ch) : ChOk x ch where
  len := h.len
  rows := fun p hp => by
    obtain ⟨i, hi, e⟩ := List.mem_iff_getElem.mp hp
    rw [List.length_zip] at hi
    rw [List.getElem_zip] at e
    have h1 : i < x.pts.length := by omega
    have h2 : i < ch.uses.length := by omega
    have h3 : i < y.uses.length := by rw [hy.ulen]; exact h1
    have hm : ((x.pts[i], y.uses[i]), ch.uses[i]) ∈ (x.pts.zip y.uses).zip ch.uses := List.mem_iff_getElem.mpr ⟨i, by rw [List.length_zip, List.length_zip]; omega, by rw [List.getElem_zip, List.getElem_zip]⟩
    obtain ⟨base, _, e2⟩ := h.rows _ hm
    rw [← e]
    show ch.uses[i].length = x.pts[i].reads.length
    have e2 : ch.uses[i] = _ := e2
    rw [e2, sumd_len]
  main := by
    obtain ⟨base, _, e⟩ := h.main
    rw [e, sumd_len]
theorem own_row {x : Net} {y ch : Sheet} (hy : ShOk x y) (h : OwnCh x y ch) {q : Nat × Pt} (hq : q ∈ enum x.pts) : ∃ base : Int, (-5 ≤ base ∧ base ≤ 5) ∧ rowAt ch q.1 = sumd (hidRow q.2.reads (rowAt y q.1)) q.2.reads.length base := by
  have h1 := enum_mem hq
  obtain ⟨hi, h2⟩ := List.getElem?_eq_some_iff.mp h1
  obtain ⟨a1, _, _⟩ := row_at hy hq
  obtain ⟨b1, b2⟩ := List.getElem?_eq_some_iff.mp a1
  obtain ⟨c1, _, _⟩ := amC_at (own_ok hy h) hq
  obtain ⟨d1, d2⟩ := List.getElem?_eq_some_iff.mp c1
  have hm : ((q.2, rowAt y q.1), rowAt ch q.1) ∈ (x.pts.zip y.uses).zip ch.uses := List.mem_iff_getElem.mpr ⟨q.1, by rw [List.length_zip, List.length_zip]; omega, by rw [List.getElem_zip, List.getElem_zip, h2, b2, d2]⟩
  exact h.rows _ hm
theorem own_amts {l : List (Int × Int)} {row : List Int} {base : Int} : amts (chR l (sumd (hidRow l row) l.length base)) = gapS l row ∧ ∀ row', gapS (chR l (sumd (hidRow l row) l.length base)) row' = gapS l row' := by
  cases l with
  | nil => exact ⟨rfl, fun _ => rfl⟩
  | cons p l =>
    have e : chR (p :: l) (sumd (hidRow (p :: l) row) (p :: l).length base) = fr row (p.2 + base) (p :: l) := own_fr
    rw [e]
    exact ⟨fr_amts, fun _ => fr_gapS⟩
theorem own_beh {x : Net} {y ch : Sheet} (hy : ShOk x y) (h : OwnCh x y ch) : behF x y ch = [] ↔ bndF x y = [] := by
  rw [beh_iff (own_ok hy h)]
  refine ⟨fun z => z.1, fun z => ⟨z, fun q hq => ?_, ?_⟩⟩
  · obtain ⟨base, _, e⟩ := own_row hy h hq
    rw [e, own_amts.1]
  · obtain ⟨base, _, e⟩ := h.main
    rw [e, own_amts.1]
theorem bent_ok {x : Net} {ch ch' : Sheet} {off : Bool} (hc : ChOk x ch) (b : Bent ch ch' off) : ChOk x ch' := by
  cases b with
  | no => exact hc
  | main i by_ h1 h2 => exact ⟨hc.len, hc.rows, by show (ch.lost.set i _).length = _; rw [List.length_set]; exact hc.main⟩
  | row k i by_ h1 h2 h3 =>
    refine ⟨by show (ch.uses.set k _).length = _; rw [List.length_set]; exact hc.len, fun p hp => ?_, hc.main⟩
    obtain ⟨j, hj, e⟩ := List.mem_iff_getElem.mp hp
    rw [List.length_zip] at hj
    rw [List.getElem_zip] at e
    have k1 : j < x.pts.length := by omega
    have k2 : j < ch.uses.length := by rw [hc.len]; exact k1
    have hm : (x.pts[j], ch.uses[j]) ∈ x.pts.zip ch.uses := List.mem_iff_getElem.mpr ⟨j, by rw [List.length_zip]; omega, by rw [List.getElem_zip]⟩
    have e2 := hc.rows _ hm
    rw [← e]
    show ((ch.uses.set k _)[j]).length = x.pts[j].reads.length
    rw [List.getElem_set]
    split
    · rename_i hkj
      subst hkj
      have e1 : rowAt ch k = ch.uses[k] := by
        unfold rowAt
        rw [List.getD_eq_getElem?_getD, List.getElem?_eq_getElem k2]
        rfl
      rw [List.length_set, e1]
      exact e2
    · exact e2
theorem bent_beh {x : Net} {y ch ch' : Sheet} {off : Bool} (hy : ShOk x y) (h : OwnCh x y ch) (b : Bent ch ch' off) : behF x y ch' = [] ↔ bndF x y = [] ∧ off = false := by
  have hc := own_ok hy h
  rw [beh_iff (bent_ok hc b)]
  have ho1 : ∀ q ∈ enum x.pts, gapS q.2.reads (rowAt y q.1) = amts (chR q.2.reads (rowAt ch q.1)) := fun q hq => by
    obtain ⟨base, _, e⟩ := own_row hy h hq
    rw [e, own_amts.1]
  have ho2 : gapS x.main (thru x y) = amts (chR x.main ch.lost) := by
    obtain ⟨base, _, e⟩ := h.main
    rw [e, own_amts.1]
  cases b with
  | no => exact ⟨fun z => ⟨z.1, rfl⟩, fun z => ⟨z.1, ho1, ho2⟩⟩
  | main i by_ h1 h2 =>
    have k := bent_amts (r := x.main) hc.main h2 h1
    constructor
    · rintro ⟨z1, z2, z3⟩
      refine ⟨z1, decide_eq_false (k.mp ?_)⟩
      exact z3.symm.trans ho2
    · rintro ⟨z1, z2⟩
      exact ⟨z1, ho1, ho2.trans (k.mpr (of_decide_eq_false z2)).symm⟩
  | row k i by_ h1 h2 h3 =>
    have hk : k < x.pts.length := by rw [← hc.len]; exact h2
    have hq : (k, x.pts[k]) ∈ enum x.pts := by
      unfold enum
      refine List.mem_iff_getElem.mpr ⟨k, by rw [List.length_zip, List.length_range]; omega, ?_⟩
      rw [List.getElem_zip, List.getElem_range]
    obtain ⟨c1, c2, _⟩ := amC_at hc hq
    have c3 : (rowAt ch k).length = x.pts[k].reads.length := hc.rows _ c2
    have kk := bent_amts (r := x.pts[k].reads) c3 h3 h1
    have rs : ∀ j, rowAt ⟨ch.uses.set k ((rowAt ch k).set i (nth (rowAt ch k) i + by_)), ch.lost⟩ j = if j = k then (rowAt ch k).set i (nth (rowAt ch k) i + by_) else rowAt ch j := by
      intro j
      show (ch.uses.set k _).getD j [] = _
      rw [List.getD_eq_getElem?_getD, List.getElem?_set]
      by_cases hj : k = j
      · rw [if_pos hj, if_pos (hj ▸ h2), if_pos hj.symm]; rfl
      · rw [if_neg hj, if_neg fun z => hj z.symm, ← List.getD_eq_getElem?_getD]; rfl
    constructor
    · rintro ⟨z1, z2, z3⟩
      refine ⟨z1, decide_eq_false (kk.mp ?_)⟩
      have z := z2 _ hq
      rw [rs, if_pos rfl] at z
      exact z.symm.trans (ho1 _ hq)
    · rintro ⟨z1, z2⟩
      refine ⟨z1, fun q hq2 => ?_, ho2⟩
      rw [rs]
      split
      · rename_i e
        have e3 : q.2 = x.pts[k] := by
          have := enum_mem hq2
          rw [e, List.getElem?_eq_getElem hk] at this
          exact (Option.some.inj this).symm
        have o := ho1 q hq2
        rw [e, e3] at o
        rw [e, e3]
        exact o.trans (kk.mpr (of_decide_eq_false z2)).symm
      · exact ho1 q hq2
def calm (x : Net) : Sheet := ⟨x.pts.map fun p => List.replicate p.reads.length 0, List.replicate x.main.length 0⟩
theorem calm_ok {x : Net} : ChOk x (calm x) where
  len := by simp [calm]
  rows := fun p hp => by
    obtain ⟨j, hj, e⟩ := List.mem_iff_getElem.mp hp
    rw [List.getElem_zip] at e
    rw [← e]
    simp [calm]
  main := by simp [calm]
theorem calm_beh {x : Net} {y : Sheet} : behF x y (calm x) = [] ↔ allF x y = [] := by
  rw [beh_iff calm_ok, all_iff]
  have e1 : chR x.main (calm x).lost = x.main := chR_zero
  have e2 : ∀ q ∈ enum x.pts, chR q.2.reads (rowAt (calm x) q.1) = q.2.reads := fun q hq => by
    have : rowAt (calm x) q.1 = List.replicate q.2.reads.length 0 := by
      unfold rowAt calm
      rw [List.getD_eq_getElem?_getD, List.getElem?_map, enum_mem hq]
      rfl
    rw [this, chR_zero]
  rw [e1]
  constructor
  · rintro ⟨z1, z2, z3⟩; exact ⟨z1, fun q hq => by rw [z2 q hq, e2 q hq], z3⟩
  · rintro ⟨z1, z2, z3⟩; exact ⟨z1, fun q hq => by rw [z2 q hq, e2 q hq], z3⟩
end
end K
end
/-! ## P25 -/
section
set_option maxRecDepth 100000
set_option maxHeartbeats 4000000
namespace K
open PySem PySem.Spec PyProof.Rows L2 Pyv
section
/-- the net that was read with changes -/
def freshP (p : Pt × List Int) : Pt := ⟨p.1.caps, chR p.1.reads p.2⟩
def fresh (x : Net) (ch : Sheet) : Net := ⟨x.many, (x.pts.zip ch.uses).map freshP, chR x.main ch.lost, x.losses⟩
/-- what is drawn -/
structure DrOk (x : Net) (y : Sheet) : Prop where
  net : NetOk x
  sh : ShOk x y
  reads : ∀ p ∈ x.pts, ∀ r ∈ p.reads, 9000000 ≤ r.2 ∧ r.2 ≤ 500000000000
  main : ∀ r ∈ x.main, 9000000 ≤ r.2 ∧ r.2 ≤ 500000000000
  uses : ∀ r ∈ y.uses, ∀ v ∈ r, -10 ≤ v ∧ v ≤ 1000000010
  lost : ∀ v ∈ y.lost, -10 ≤ v ∧ v ≤ 1000000010
theorem enum_at {α : Type} {l : List α} {i : Nat} (h : i < l.length) : (i, l[i]) ∈ enum l := by
  unfold enum
  refine List.mem_iff_getElem.mpr ⟨i, by rw [List.length_zip, List.length_range]; omega, ?_⟩
  rw [List.getElem_zip, List.getElem_range]
theorem enum_zip {α β γ : Type} {l : List α} {m : List β} (h : m.length = l.length) {f : α × β → γ} {G : Nat × γ → List PyData} {G' : Nat × α → List PyData} (hG : ∀ i p, G (i, f p) = G' (i, p.1)) : (enum ((l.zip m).map f)).flatMap G = (enum l).flatMap G' := by
  have e : (enum ((l.zip m).map f)) = (enum (l.zip m)).map fun q => (q.1, f q.2) := by
    unfold enum
    rw [List.length_map, List.zip_map_right]
    rfl
  have e2 : enum l = (enum (l.zip m)).map fun q => (q.1, q.2.1) := by
    unfold enum
    refine List.ext_getElem (by simp [h]) fun i h1 h2 => ?_
    simp
  rw [e, e2, List.flatMap_map, List.flatMap_map]
  congr
  funext q
  exact hG q.1 q.2
theorem fresh_bnd {x : Net} {y ch : Sheet} (h : ch.uses.length = x.pts.length) : bndF (fresh x ch) y = bndF x y := by
  unfold bndF
  have e : (enum (fresh x ch).pts).flatMap (capsF (fresh x ch) y) = (enum x.pts).flatMap (capsF x y) := enum_zip h fun i p => rfl
  rw [e]
  rfl
theorem fresh_q {x : Net} {ch : Sheet} (hc : ChOk x ch) {q : Nat × Pt} (hq : q ∈ enum (fresh x ch).pts) : ∃ p, (q.1, p) ∈ enum x.pts ∧ q.2 = freshP (p, rowAt ch q.1) := by
  have h1 := enum_mem hq
  obtain ⟨hi, h2⟩ := List.getElem?_eq_some_iff.mp h1
  have hi' : q.1 < (x.pts.zip ch.uses).length := by simpa [fresh] using hi
  rw [List.length_zip] at hi'
  have hi2 : q.1 < x.pts.length := by omega
  have hi3 : q.1 < ch.uses.length := by omega
  refine ⟨x.pts[q.1], enum_at hi2, ?_⟩
  rw [← h2]
  have e1 : rowAt ch q.1 = ch.uses[q.1] := by
    unfold rowAt
    rw [List.getD_eq_getElem?_getD, List.getElem?_eq_getElem hi3]
    rfl
  rw [e1]
  simp [fresh]
theorem sum_le {lo hi : Int} {l : List Int} {m : Nat} (hl : l.length ≤ m) (h0 : lo ≤ 0) (h1 : 0 ≤ hi) (h : ∀ x ∈ l, lo ≤ x ∧ x ≤ hi) : lo * m ≤ l.sum ∧ l.sum ≤ hi * m := by
  obtain ⟨a, b⟩ := sum_bound h
  have z1 : lo * m ≤ lo * l.length := Int.mul_le_mul_of_nonpos_left h0 (by omega)
  have z2 : hi * l.length ≤ hi * m := Int.mul_le_mul_of_nonneg_left (by omega) h1
  omega
theorem nth_mem {l : List Int} {i : Nat} (h : i < l.length) : nth l i ∈ l := by
  unfold nth
  rw [List.getD_eq_getElem?_getD, List.getElem?_eq_getElem h]
  exact List.getElem_mem _
theorem thru_len {x : Net} {y : Sheet} : (thru x y).length = x.many := by simp [thru]
theorem thru_bound {x : Net} {y : Sheet} (d : DrOk x y) : ∀ v ∈ thru x y, -100 ≤ v ∧ v ≤ 10000000000 := by
  intro v hv
  obtain ⟨h, hh, rfl⟩ := List.mem_map.mp hv
  have hm : h < x.many := List.mem_range.mp hh
  obtain ⟨a1, a2⟩ := d.lost _ (nth_mem (l := y.lost) (i := h) (by rw [d.sh.llen]; exact hm))
  have p2 := d.net.p2
  have := sum_le (lo := -10) (hi := 1000000010) (l := y.uses.map fun r => nth r h) (m := 8) (by rw [List.length_map, d.sh.ulen]; exact p2) (by decide) (by decide) fun v hv => by
    obtain ⟨r, hr, rfl⟩ := List.mem_map.mp hv
    exact d.uses r hr _ (nth_mem (by rw [d.sh.rows r hr]; exact hm))
  omega
theorem fr_len2 {many : Nat} {p : Int × Int} {l : List (Int × Int)} (h : rdOk many (-1) (p :: l)) : 0 ≤ p.1 ∧ p.1 ≤ many := by
  obtain ⟨⟨h1, h2, _⟩, _⟩ := h
  omega
theorem fresh_rd {many : Nat} {l : List (Int × Int)} {row : List Int} {base : Int} (hr : ∀ x ∈ row, -100 ≤ x ∧ x ≤ 10000000000) (hl : row.length = many) (hm : many ≤ 24) (h : rdOk many (-1) l) (hb : -5 ≤ base ∧ base ≤ 5) (ht : ∀ r ∈ l, 9000000 ≤ r.2 ∧ r.2 ≤ 500000000000) : rdOk many (-1) (chR l (sumd (hidRow l row) l.length base)) := by
  cases l with
  | nil => exact trivial
  | cons p l =>
    have e : chR (p :: l) (sumd (hidRow (p :: l) row) (p :: l).length base) = fr row (p.2 + base) (p :: l) := own_fr
    rw [e]
    have k := fr_len2 h
    obtain ⟨t1, t2⟩ := ht p (List.mem_cons_self ..)
    exact fr_ok hr hl (by omega) h (by omega) (by omega)
theorem fresh_ok {x : Net} {y ch : Sheet} (d : DrOk x y) (h : OwnCh x y ch) : NetOk (fresh x ch) where
  m1 := d.net.m1
  m2 := d.net.m2
  p1 := by
    have := d.net.p1
    have := h.len
    simp [fresh]
    omega
  p2 := by
    have := d.net.p2
    simp [fresh]
    omega
  pts := fun p hp => by
    obtain ⟨i, hi, e⟩ := List.mem_iff_getElem.mp hp
    have hq : (i, p) ∈ enum (fresh x ch).pts := by rw [← e]; exact enum_at hi
    obtain ⟨p0, hp0, e2⟩ := fresh_q (own_ok d.sh h) hq
    have e2 : p = freshP (p0, rowAt ch i) := e2
    have hm0 := List.mem_of_getElem? (enum_mem hp0)
    have ok := d.net.pts p0 hm0
    obtain ⟨base, hb, e3⟩ := own_row d.sh h hp0
    have e3 : rowAt ch i = sumd (hidRow p0.reads (rowAt y i)) p0.reads.length base := e3
    obtain ⟨r1, r2, _⟩ := row_at d.sh hp0
    have r1 := List.mem_of_getElem? r1
    have r2 : (rowAt y i).length = x.many := r2
    rw [e2]
    refine ⟨ok.len, ok.caps, ?_⟩
    show rdOk x.many (-1) (chR p0.reads (rowAt ch i))
    rw [e3]
    exact fresh_rd (fun v hv => by have := d.uses _ r1 v hv; omega) r2 d.net.m2 ok.reads hb (d.reads p0 hm0)
  main := by
    obtain ⟨base, hb, e⟩ := h.main
    show rdOk x.many (-1) (chR x.main ch.lost)
    rw [e]
    exact fresh_rd (thru_bound d) thru_len d.net.m2 d.net.main hb d.main
  llen := d.net.llen
  loss := d.net.loss
theorem fresh_sh {x : Net} {y ch : Sheet} (hy : ShOk x y) (h : ch.uses.length = x.pts.length) : ShOk (fresh x ch) y where
  ulen := by simp [fresh, h, hy.ulen]
  rows := hy.rows
  llen := hy.llen
theorem fresh_at {x : Net} {y ch : Sheet} (hy : ShOk x y) (h : OwnCh x y ch) {q : Nat × Pt} (hq : q ∈ enum (fresh x ch).pts) : gapS q.2.reads (rowAt y q.1) = amts q.2.reads := by
  obtain ⟨p0, hp0, e2⟩ := fresh_q (own_ok hy h) hq
  obtain ⟨base, hb, e3⟩ := own_row hy h hp0
  have e3 : rowAt ch q.1 = sumd (hidRow p0.reads (rowAt y q.1)) p0.reads.length base := e3
  have e4 : q.2.reads = chR p0.reads (rowAt ch q.1) := by rw [e2]; rfl
  rw [e4, e3, own_amts.1, own_amts.2]
theorem fresh_main {x : Net} {y ch : Sheet} (h : OwnCh x y ch) : gapS (fresh x ch).main (thru (fresh x ch) y) = amts (fresh x ch).main ∧ amts (fresh x ch).main = gapS x.main (thru x y) := by
  obtain ⟨base, hb, e⟩ := h.main
  have e1 : (fresh x ch).main = chR x.main ch.lost := rfl
  have e2 : thru (fresh x ch) y = thru x y := rfl
  rw [e1, e2, e, own_amts.1, own_amts.2]
  exact ⟨rfl, rfl⟩
theorem fresh_all {x : Net} {y ch : Sheet} (hy : ShOk x y) (h : OwnCh x y ch) : allF (fresh x ch) y = [] ↔ bndF x y = [] := by
  rw [all_iff, fresh_bnd h.len]
  exact ⟨fun z => z.1, fun z => ⟨z, fun q hq => fresh_at hy h hq, (fresh_main h).1⟩⟩
theorem sub_zero {l : List Int} : ((l.zip l).map fun q => q.1 - q.2) = List.replicate l.length 0 := by
  induction l with
  | nil => rfl
  | cons a l ih => simp [ih, List.replicate_succ]
theorem fresh_hid {x : Net} {y ch : Sheet} (hy : ShOk x y) (h : OwnCh x y ch) : hid (fresh x ch) y = (fresh x ch).pts.map fun p => List.replicate (nb p.reads).length 0 := by
  have hl := (fresh_sh hy h.len).ulen
  refine List.ext_getElem (by simp [hid, hl]) fun i h1 h2 => ?_
  have hi : i < (fresh x ch).pts.length := by simpa using h2
  have hi2 : i < y.uses.length := by rw [hl]; exact hi
  have hq := enum_at hi
  have e := fresh_at hy h hq
  obtain ⟨r1, _, _⟩ := row_at (fresh_sh hy h.len) hq
  obtain ⟨_, r1⟩ := List.getElem?_eq_some_iff.mp r1
  have e : gapS (fresh x ch).pts[i].reads (rowAt y i) = amts (fresh x ch).pts[i].reads := e
  have r1 : y.uses[i] = rowAt y i := r1
  simp only [hid, List.getElem_map, List.getElem_zip, hidRow]
  rw [r1, e, sub_zero, amts_len]
theorem allow_zero {k : Mk} : allow k 0 = true := by cases k <;> rfl
theorem fresh_srv {x : Net} {y ch : Sheet} {d : List (List Mk)} (hy : ShOk x y) (h : OwnCh x y ch) : srv (fresh x ch) d y = decide (bndF x y = []) := by
  have h1 : isBnd (fresh x ch) y = decide (bndF x y = []) := by
    unfold isBnd
    rw [fresh_bnd h.len, decide_eq_true (fresh_main h).1, Bool.and_true]
  have h2 : (d.zip (hid (fresh x ch) y)).all rowServes = true := by
    rw [List.all_eq_true]
    intro p hp
    have hp2 := (List.of_mem_zip hp).2
    rw [fresh_hid hy h] at hp2
    obtain ⟨z, _, e⟩ := List.mem_map.mp hp2
    unfold rowServes
    rw [List.all_eq_true]
    intro q hq
    have := (List.of_mem_zip hq).2
    rw [← e] at this
    have e0 := List.eq_of_mem_replicate this
    rw [e0]
    exact allow_zero
  unfold srv
  rw [h1, h2, Bool.and_true]
end
end K
end
/-! ## P26 -/
section
set_option maxRecDepth 100000
set_option maxHeartbeats 4000000
namespace K
open PySem PySem.Spec PyProof.Rows L2 Pyv
section
variable {call : Nat → List W → DS → RF} {gl : List PyData} {c : Cfg} {rd : Bool} {n : Nat} {s : DS}
theorem All2.zip {α β : Type} {R : α → β → Prop} {l : List α} {m : List β} (h : All2 R l m) : ∀ p ∈ l.zip m, R p.1 p.2 := by
  induction h with
  | nil => intro p hp; cases hp
  | cons r _ ih =>
    intro p hp
    rw [List.zip_cons_cons] at hp
    rcases List.mem_cons.mp hp with rfl | hp
    · exact r
    · exact ih p hp
abbrev C58 (x : Net) (y : Sheet) (found : List (List Int)) (w4 w5 w6 : Option W) (s : DS) : Cfg := ⟨[some .stm, some (.val (netD x)), some (.val (shD y)), some (.own (found.map itD)), w4, w5, w6, none, none, none, none, none], s⟩
def P58 (x : Net) (y : Sheet) (found : List (List Int)) (s : DS) (c : Cfg) : Prop := ∃ w4 w5 w6, notBor w4 = true ∧ notBor w5 = true ∧ notBor w6 = true ∧ c = C58 x y found w4 w5 w6 s
theorem hid_zip {x : Net} {y : Sheet} (hy : ShOk x y) {ch : List (List Int)} (hl : ch.length = x.pts.length) {p : (Pt × List Int) × List Int} (hp : p ∈ (x.pts.zip y.uses).zip ch) : ((p.1.1, hidRow p.1.1.reads p.1.2), p.2) ∈ (x.pts.zip (hid x y)).zip ch := by
  obtain ⟨i, hi, e⟩ := List.mem_iff_getElem.mp hp
  rw [List.length_zip, List.length_zip] at hi
  rw [List.getElem_zip, List.getElem_zip] at e
  have hu := hy.ulen
  refine List.mem_iff_getElem.mpr ⟨i, by simp [hid]; omega, ?_⟩
  rw [List.getElem_zip, List.getElem_zip, ← e]
  simp [hid]
theorem hidRow_len {r : List (Int × Int)} {row : List Int} : (hidRow r row).length = (nb r).length := by simp [hidRow]
theorem r58 {b : Nat} {x : Net} {y : Sheet} (k : Stk b s) (hb : b + 1000 ≤ Big) (h : NetOk x) (hy : ShOk x y) : ∃ (ch : Sheet) (s' : DS), Pyv.run pg (n + 3) 58 [.stm, .val (netD x), .val (shD y)] s = .ok (.val (shD ch)) s' ∧ OwnCh x y ch ∧ Stk (b + 1000) s' := by
  have p2 := h.p2
  have m2 := h.m2
  have hm := rdlen h.main
  have hu := hy.ulen
  have c48 := r48 (n := n) (s := s) (y := y) h
  have hfor : ∀ o, forLoop (.tup [.tup [.name 4, .name 5], .name 6]) (evSs (Pyv.run pg (n + 2)) glD (.cons (.app 3 (.call 57 (.cons (.var 6) (.cons (.blt .len (.cons (.var 5) .nil)) (.cons (.bin .Sub (.call 36 (.cons (.var 0) (.cons (.lit (.int 11)) .nil))) (.lit (.int 5))) .nil))))) .nil))
      ((x.pts.zip (hid x y)).map fun p => .tuple [ptD p.1, itD p.2]) (C58 x y [] none none none s) = o → _ := fun o hF => dr_use hF (P58 x y) (fun (p : Pt × List Int) (row : List Int) => ∃ base : Int, (-5 ≤ base ∧ base ≤ 5) ∧ row = sumd p.2 p.1.reads.length base) 1 1000 (acc := []) (b := b) (s := s)
    (fun p hp found b s c k hb hl ⟨w4, w5, w6, q4, q5, q6, e⟩ => by
      subst e
      have hr := rdlen (h.pts _ (List.of_mem_zip hp).1).reads
      obtain ⟨v, s1, e1, hv, k1⟩ := draw (n := n + 1) (lim := 11) k (by omega) (by omega) (by omega)
      have c57 := r57 (n := n + 1) (s := s1) (b := true) (row := p.2) (many := p.1.reads.length) (base := (v : Int) - 5) (by omega)
      have e57 : sqD true p.2 = itD p.2 := rfl
      rw [e57] at c57
      have hs : found.length < sizeLine := by rw [sizeLine_eq]; omega
      refine ⟨_, rfl, sumd p.2 p.1.reads.length ((v : Int) - 5), s1, C58 x y (found ++ [sumd p.2 p.1.reads.length ((v : Int) - 5)]) (some (.val (itD p.1.caps))) (some (.val (rdD p.1.reads))) (some (.val (itD p.2))) s1, ?_, ⟨(v : Int) - 5, by omega, rfl⟩, k1, _, _, _, rfl, rfl, rfl, rfl⟩
      simp [ownAt, evVar, setR, doCall, e1, c57, hs])
    k (by rw [List.length_zip]; omega) (by rw [List.length_nil, List.length_zip]; omega) ⟨none, none, none, rfl, rfl, rfl, rfl⟩
  have hsrc : ∀ c : Cfg, c.s = s → c.ρ[1]? = some (some (.val (netD x))) → c.ρ[2]? = some (some (.val (shD y))) → evSrc (Pyv.run pg (n + 2)) glD (.zip (.ix (.var 1) (.lit (.int 1))) (.call 48 (.cons (.var 1) (.cons (.var 2) .nil)))) false c = .ok ((x.pts.zip (hid x y)).map fun p => .tuple [ptD p.1, itD p.2]) c := fun c h1 h2 h3 => by
    simp [evVar, h2, h3, doCall, h1, c48, rowsD]
    rw [← h1]
  obtain ⟨rows, s1, c', e1, r1, k1, w4, w5, w6, q4, q5, q6, rfl⟩ := hfor _ rfl
  obtain ⟨v, s2, e2, hv, k2⟩ := draw (n := n + 1) (lim := 11) k1 (by rw [List.length_zip]; omega) (by omega) (by omega)
  have c46 := r46 (n := n + 1) (s := s1) h hy
  have c45 := r45 (n := n + 1) (s := s1) (b := false) (reads := x.main) (row := thru x y) (by omega)
  have c44 := r44 (n := n + 1) (s := s1) (reads := x.main) (by omega)
  have e45 : sqD false (thru x y) = .list ((thru x y).map .int) := rfl
  rw [e45] at c45
  have hn := nb_len (l := x.main)
  have c57 := r57 (n := n + 1) (s := s2) (b := false) (row := hidRow x.main (thru x y)) (many := x.main.length) (base := (v : Int) - 5) (by omega)
  have e57 : sqD false (hidRow x.main (thru x y)) = .list ((hidRow x.main (thru x y)).map .int) := rfl
  rw [e57] at c57
  have hl := r1.len
  rw [List.length_zip] at hl k2
  have hhid : (hid x y).length = x.pts.length := by simp [hid, hu]
  refine ⟨⟨rows, sumd (hidRow x.main (thru x y)) x.main.length ((v : Int) - 5)⟩, s2, ?_, ⟨by show rows.length = _; omega, fun p hp => ?_, ⟨(v : Int) - 5, by omega, rfl⟩⟩, k2.mono (by omega)⟩
  · show runFd (Pyv.run pg (n + 2)) glD ir58 [.stm, .val (netD x), .val (shD y)] s = _
    unfold runFd ir58
    rw [if_pos ⟨rfl, by decide⟩]
    simp only [ss_cons, s_for, s_asg, e_lst, es_nil, b_ok, ofO_some, mkLst, dats]
    rw [if_pos (by rw [sizeLine_eq]; decide)]
    simp only [o_ok, ofO_some, asgW]
    rw [if_pos (by simp)]
    simp only [th_next]
    rw [hsrc _ rfl rfl rfl]
    simp only [o_ok]
    have e1' := e1
    simp only [C58] at e1'
    rw [show setR ⟨[W.stm, W.val (netD x), W.val (shD y)].map some ++ List.replicate (12 - [W.stm, W.val (netD x), W.val (shD y)].length) none, s⟩ 3 (.own []) = C58 x y [] none none none s from rfl, e1]
    have hz : bltV .len [rdD x.main] = some (.val (.int x.main.length)) := len_rd
    simp [evVar, doCall, c46, c45, c44, asgs, asgW, asgTg, setR, zd_prs, enterC, wipeR, lockW]
    rw [lc_map3 (g := fun q => .int (q.1 - q.2))]
    · have e3 : (prs x.main (thru x y)).map (fun q => PyData.int (q.1 - q.2)) = (hidRow x.main (thru x y)).map .int := by simp [hidRow_eq, Function.comp_def]
      rw [e3]
      simp [evVar, setR, doCall, e2, c57, mkTup, dats, shD]
    · intro q hq
      simp [asgTg, asgTgs, setR, evVar, prD]
    · rw [sizeLine_eq, prs_len]; omega
  · exact r1.zip _ (hid_zip hy (by omega) hp)
end
end K
end
/-! ## P27 -/
section
set_option maxRecDepth 100000
set_option maxHeartbeats 4000000
namespace K
open PySem PySem.Spec PyProof.Rows L2 Pyv
section
variable {call : Nat → List W → DS → RF} {gl : List PyData} {c : Cfg} {rd : Bool} {n : Nat} {s : DS}
def q55_0 : Pyv.S := (.par [1, 2, 3] (.cons (.bin .Add (.lit (.int 1)) (.call 36 (.cons (.var 0) (.cons (.lit (.int 24)) .nil)))) (.cons (.lst .nil) (.cons (.lst .nil) .nil))))
def q55_1 : Pyv.S := (.par [4, 5] (.cons (.call 38 (.cons (.var 0) (.cons (.lst (.cons (.lit (.int 1)) (.cons (.lit (.int 4)) (.cons (.bin .Pow (.lit (.int 10)) (.lit (.int 9))) .nil)))) .nil))) (.cons (.call 38 (.cons (.var 0) (.cons (.lst (.cons (.lit (.int 0)) (.cons (.lit (.int 1)) (.cons (.bin .Pow (.lit (.int 10)) (.lit (.int 6))) .nil)))) .nil))) .nil)))
def q55_2b_0 : Pyv.S := (.asg (.name 7) (.blt .tuple (.cons (.lc (.call 39 (.cons (.var 0) (.cons (.bin .Add (.var 4) (.lit (.int 1))) .nil))) (.name 8) (.rng1 (.var 1)) .no [8]) .nil)))
def q55_2b_1 : Pyv.S := (.asg (.name 9) (.blt .tuple (.cons (.lc (.call 39 (.cons (.var 0) (.cons (.bin .Add (.var 10) (.lit (.int 1))) .nil))) (.name 10) (.seq (.var 7)) .no [10]) .nil)))
def q55_2b_2 : Pyv.S := (.app 3 (.tup (.cons (.var 7) (.cons (.call 54 (.cons (.var 0) (.cons (.call 43 (.cons (.call 42 (.cons (.var 0) (.cons (.var 1) .nil))) (.cons (.var 9) (.cons (.bin .Pow (.lit (.int 10)) (.lit (.int 7))) .nil)))) (.cons (.var 5) .nil)))) .nil))))
def q55_2b_3 : Pyv.S := (.app 2 (.var 9))
def q55_2b : Ss := (.cons q55_2b_0 (.cons q55_2b_1 (.cons q55_2b_2 (.cons q55_2b_3 .nil))))
def q55_2 : Pyv.S := (.forS (.name 6) (.rng1 (.bin .Add (.lit (.int 1)) (.call 36 (.cons (.var 0) (.cons (.lit (.int 8)) .nil))))) q55_2b)
def q55_3 : Pyv.S := (.asg (.name 11) (.lc (.call 39 (.cons (.var 0) (.cons (.bin .Add (.var 4) (.lit (.int 1))) .nil))) (.name 8) (.rng1 (.var 1)) .no [8]))
def q55_4 : Pyv.S := (.asg (.name 12) (.blt .tuple (.cons (.lc (.tup (.cons (.var 13) (.cons (.bin .Add (.var 13) (.call 39 (.cons (.var 0) (.cons (.bin .Add (.bin .Sub (.var 4) (.var 13)) (.lit (.int 1))) .nil)))) .nil))) (.name 13) (.seq (.var 11)) .no [13]) .nil)))
def q55_5 : Pyv.S := (.asg (.name 14) (.blt .tuple (.cons (.lc (.bin .Add (.var 13) (.call 39 (.cons (.var 0) (.cons (.bin .Add (.bin .Sub (.var 15) (.var 13)) (.lit (.int 1))) .nil)))) (.tup [(.name 13), (.name 15)]) (.seq (.var 12)) .no [13, 15]) .nil)))
def q55_6 : Pyv.S := (.asg (.name 16) (.lc (.bin .Add (.ix (.var 14) (.var 8)) (.blt .sum (.cons (.lc (.ix (.var 9) (.var 8)) (.name 9) (.seq (.var 2)) .no [9]) .nil))) (.name 8) (.rng1 (.var 1)) .no [8]))
def q55_7 : Pyv.S := (.asg (.name 17) (.call 43 (.cons (.call 42 (.cons (.var 0) (.cons (.var 1) .nil))) (.cons (.var 16) (.cons (.bin .Pow (.lit (.int 10)) (.lit (.int 7))) .nil)))))
def q55_8 : Pyv.S := (.ifS (.val (.cmp .Eq (.call 36 (.cons (.var 0) (.cons (.lit (.int 3)) .nil))) (.lit (.int 0)))) (.cons (.asg (.name 17) (.call 54 (.cons (.var 0) (.cons (.var 17) (.cons (.var 5) .nil))))) .nil) .nil)
def q55_9t_0 : Pyv.S := (.par [6, 8] (.cons (.call 36 (.cons (.var 0) (.cons (.blt .len (.cons (.var 2) .nil)) .nil))) (.cons (.call 36 (.cons (.var 0) (.cons (.var 1) .nil))) .nil)))
def q55_9t_1 : Pyv.S := (.asg (.name 18) (.call 38 (.cons (.var 0) (.cons (.lst (.cons (.bin .Sub (.neg (.lit (.int 1))) (.call 36 (.cons (.var 0) (.cons (.lit (.int 4)) .nil)))) (.cons (.bin .Add (.bin .Add (.ix (.ix (.ix (.var 3) (.var 6)) (.lit (.int 0))) (.var 8)) (.lit (.int 1))) (.call 36 (.cons (.var 0) (.cons (.lit (.int 4)) .nil)))) .nil))) .nil))))
def q55_9t_2 : Pyv.S := (.setIx 2 (.var 6) (.call 41 (.cons (.ix (.var 2) (.var 6)) (.cons (.var 8) (.cons (.var 18) .nil)))))
def q55_9t : Ss := (.cons q55_9t_0 (.cons q55_9t_1 (.cons q55_9t_2 .nil)))
def q55_9 : Pyv.S := (.ifS (.val (.cmp .Eq (.call 36 (.cons (.var 0) (.cons (.lit (.int 3)) .nil))) (.lit (.int 0)))) q55_9t .nil)
def q55_10t_0 : Pyv.S := (.asg (.name 8) (.call 36 (.cons (.var 0) (.cons (.var 1) .nil))))
def q55_10t_1 : Pyv.S := (.asg (.name 14) (.call 41 (.cons (.var 14) (.cons (.var 8) (.cons (.call 38 (.cons (.var 0) (.cons (.lst (.cons (.bin .Sub (.ix (.ix (.var 12) (.var 8)) (.lit (.int 0))) (.lit (.int 1))) (.cons (.bin .Add (.ix (.ix (.var 12) (.var 8)) (.lit (.int 1))) (.lit (.int 1))) .nil))) .nil))) .nil)))))
def q55_10t : Ss := (.cons q55_10t_0 (.cons q55_10t_1 .nil))
def q55_10 : Pyv.S := (.ifS (.val (.cmp .Eq (.call 36 (.cons (.var 0) (.cons (.lit (.int 6)) .nil))) (.lit (.int 0)))) q55_10t .nil)
def q55_11 : Pyv.S := (.ret (.tup (.cons (.tup (.cons (.var 1) (.cons (.blt .tuple (.cons (.var 3) .nil)) (.cons (.var 17) (.cons (.var 12) .nil))))) (.cons (.tup (.cons (.blt .tuple (.cons (.var 2) .nil)) (.cons (.var 14) .nil))) .nil))))
def q55 : Ss := (.cons q55_0 (.cons q55_1 (.cons q55_2 (.cons q55_3 (.cons q55_4 (.cons q55_5 (.cons q55_6 (.cons q55_7 (.cons q55_8 (.cons q55_9 (.cons q55_10 (.cons q55_11 .nil))))))))))))
theorem q55_eq : ir55.body = q55 := rfl

abbrev C55 (many : Nat) (rows pts : List PyData) (most off : Int) (a6 a7 a8 a9 a11 a12 a14 a16 a17 a18 : Option W) (s : DS) : Cfg :=
  ⟨[some .stm, some (.val (.int (many : Nat))), some (.own rows), some (.own pts), some (.val (.int most)), some (.val (.int off)), a6, a7, a8, a9, none, a11, a12, none, a14, none, a16, a17, a18], s⟩
theorem All2.fst {α β : Type} {R : β → Prop} {l : List α} {m : List β} (h : All2 (fun _ y => R y) l m) : ∀ y ∈ m, R y := fun y hy => by
  obtain ⟨x, _, r⟩ := h.right y hy
  exact r
theorem s0 {b : Nat} (k : Stk b s) (hb : b + 10 ≤ Big) : ∃ (many : Nat) (s' : DS), evS (Pyv.run pg (n + 4)) glD q55_0 ⟨some .stm :: List.replicate 18 none, s⟩ = .next ⟨[some .stm, some (.val (.int (many : Nat))), some (.own []), some (.own []), none, none, none, none, none, none, none, none, none, none, none, none, none, none, none], s'⟩ ∧ 1 ≤ many ∧ many ≤ 24 ∧ Stk (b + 1) s' := by
  obtain ⟨v, s1, e1, hv, k1⟩ := draw (n := n + 3) (lim := 24) k (by omega) (by omega) (by omega)
  refine ⟨v + 1, s1, ?_, by omega, by omega, k1⟩
  unfold q55_0
  simp [evVar, doCall, e1, mkLst, dats, asgs, asgW, asgTg, setR, List.replicate]
  omega
theorem pick3 {b : Nat} {x y z : Int} (k : Stk b s) (hb : b + 10 ≤ Big) : ∃ (v : Int) (s' : DS), Pyv.run pg (n + 2) 38 [.stm, .val (.list [.int x, .int y, .int z])] s = .ok (.val (.int v)) s' ∧ (v = x ∨ v = y ∨ v = z) ∧ Stk (b + 1) s' := by
  obtain ⟨v, s1, e1, hv, k1⟩ := r38 (n := n) (ds := [.int x, .int y, .int z]) k (by omega) (by simp) (by simp)
  simp at hv
  rcases hv with rfl | rfl | rfl
  · exact ⟨x, s1, e1, .inl rfl, k1⟩
  · exact ⟨y, s1, e1, .inr (.inl rfl), k1⟩
  · exact ⟨z, s1, e1, .inr (.inr rfl), k1⟩
theorem pick2 {b : Nat} {x y : Int} (k : Stk b s) (hb : b + 10 ≤ Big) : ∃ (v : Int) (s' : DS), Pyv.run pg (n + 2) 38 [.stm, .val (.list [.int x, .int y])] s = .ok (.val (.int v)) s' ∧ (v = x ∨ v = y) ∧ Stk (b + 1) s' := by
  obtain ⟨v, s1, e1, hv, k1⟩ := r38 (n := n) (ds := [.int x, .int y]) k (by omega) (by simp) (by simp)
  simp at hv
  rcases hv with rfl | rfl
  · exact ⟨x, s1, e1, .inl rfl, k1⟩
  · exact ⟨y, s1, e1, .inr rfl, k1⟩
theorem s1 {b many : Nat} (k : Stk b s) (hb : b + 20 ≤ Big) : ∃ (most off : Int) (s' : DS), evS (Pyv.run pg (n + 4)) glD q55_1 ⟨[some .stm, some (.val (.int (many : Nat))), some (.own []), some (.own []), none, none, none, none, none, none, none, none, none, none, none, none, none, none, none], s⟩ = .next (C55 many [] [] most off none none none none none none none none none none s') ∧ 1 ≤ most ∧ most ≤ 1000000000 ∧ 0 ≤ off ∧ off ≤ 1000000 ∧ Stk (b + 2) s' := by
  obtain ⟨most, s1, e1, h1, k1⟩ := pick3 (n := n + 2) (x := 1) (y := 4) (z := 1000000000) k (by omega)
  obtain ⟨off, s2, e2, h2, k2⟩ := pick3 (n := n + 2) (x := 0) (y := 1) (z := 1000000) k1 (by omega)
  refine ⟨most, off, s2, ?_, by omega, by omega, by omega, by omega, k2⟩
  unfold q55_1
  simp [evVar, doCall, e1, e2, pow9, pow6, mkLst, dats, asgs, asgW, asgTg, setR]
variable {b many : Nat} {rows pts : List PyData} {most off : Int} {a6 a7 a8 a9 a11 a12 a14 a16 a17 a18 : Option W}
theorem s2a (k : Stk b s) (hb : b + 100 ≤ Big) (hm : many ≤ 24) (h1 : 1 ≤ most) (h2 : most ≤ 1000000000) : ∃ (l : List Int) (s' : DS), evS (Pyv.run pg (n + 4)) glD q55_2b_0 (C55 many rows pts most off a6 a7 none a9 none none none none none none s) = .next (C55 many rows pts most off a6 (some (.val (itD l))) none a9 none none none none none none s') ∧ l.length = many ∧ (∀ v ∈ l, 0 ≤ v ∧ v ≤ 1000000000) ∧ Stk (b + 48) s' := by
  have f1 : fitsI (many : Int) = true := fitsI_nat (by omega)
  obtain ⟨ys, s2, e2, r2, k2⟩ := lc_draw (F := lcB (Pyv.run pg (n + 4)) glD (.call 39 (.cons (.var 0) (.cons (.bin .Add (.var 4) (.lit (.int 1))) .nil))) (.name 8) .no) (e := fun i : Nat => .int (i : Nat)) PyData.int (fun _ v => 0 ≤ v ∧ v ≤ most) 2
    (ρ0 := (C55 many rows pts most off a6 a7 none a9 none none none none none none s).ρ) (ρ1 := (enterC (C55 many rows pts most off a6 a7 none a9 none none none none none none s) [8]).ρ) (List.range many)
    (fun x hx b s h hb => by
      obtain ⟨v, s', e, hv, h'⟩ := r39 (n := n + 2) (lim := most + 1) h (by omega) (by omega) (by omega)
      refine ⟨(v : Int), s', ?_, by omega, h'⟩
      simp [enterC, wipeR, lockW, asgTg, setR, evVar, doCall, e]) k (by rw [List.length_range]; omega) (by rw [List.length_range]; omega)
  refine ⟨ys, s2, ?_, by rw [r2.len, List.length_range], fun v hv => ?_, k2.mono (by rw [List.length_range]; omega)⟩
  · unfold q55_2b_0
    simp [enterC, wipeR, lockW] at e2
    simp [evVar, f1, rangeL_nat, enterC, wipeR, lockW, e2, asgW, asgTg, setR, itD]
  · obtain ⟨_, _, r⟩ := r2.right v hv
    omega
end
end K
end
/-! ## P28 -/
section
set_option maxRecDepth 100000
set_option maxHeartbeats 4000000
namespace K
open PySem PySem.Spec PyProof.Rows L2 Pyv
section
variable {call : Nat → List W → DS → RF} {gl : List PyData} {c : Cfg} {rd : Bool} {n : Nat} {s : DS}
variable {b many : Nat} {rows pts : List PyData} {most off : Int} {a6 a7 a8 a9 a11 a12 a14 a16 a17 a18 : Option W}
theorem s2b {caps : List Int} (k : Stk b s) (hb : b + 100 ≤ Big) (hm : many ≤ 24) (hl : caps.length = many) (hc : ∀ v ∈ caps, 0 ≤ v ∧ v ≤ 1000000000) : ∃ (l : List Int) (s' : DS), evS (Pyv.run pg (n + 4)) glD q55_2b_1 (C55 many rows pts most off a6 (some (.val (itD caps))) none a9 none none none none none none s) = .next (C55 many rows pts most off a6 (some (.val (itD caps))) none (some (.val (itD l))) none none none none none none s') ∧ l.length = many ∧ (∀ v ∈ l, 0 ≤ v ∧ v ≤ 1000000000) ∧ Stk (b + 48) s' := by
  obtain ⟨ys, s2, e2, r2, k2⟩ := lc_draw (F := lcB (Pyv.run pg (n + 4)) glD (.call 39 (.cons (.var 0) (.cons (.bin .Add (.var 10) (.lit (.int 1))) .nil))) (.name 10) .no) (e := PyData.int) PyData.int (fun x v => 0 ≤ v ∧ v ≤ x) 2
    (ρ0 := (C55 many rows pts most off a6 (some (.val (itD caps))) none a9 none none none none none none s).ρ) (ρ1 := (enterC (C55 many rows pts most off a6 (some (.val (itD caps))) none a9 none none none none none none s) [10]).ρ) caps
    (fun x hx b s h hb => by
      obtain ⟨x1, x2⟩ := hc x hx
      obtain ⟨v, s', e, hv, h'⟩ := r39 (n := n + 2) (lim := x + 1) h (by omega) (by omega) (by omega)
      refine ⟨(v : Int), s', ?_, by omega, h'⟩
      simp [enterC, wipeR, lockW, asgTg, setR, evVar, doCall, e]) k (by omega) (by omega)
  refine ⟨ys, s2, ?_, by rw [r2.len]; exact hl, fun v hv => ?_, k2.mono (by omega)⟩
  · have hsrc : ∀ c : Cfg, c.ρ[7]? = some (some (.val (itD caps))) → evSrc (Pyv.run pg (n + 4)) glD (.seq (.var 7)) true c = .ok (caps.map .int) c := fun c h => by
      simp [evVar, h, itD]
    unfold q55_2b_1
    simp [enterC, wipeR, lockW] at e2
    simp [-src_seq, hsrc, enterC, wipeR, lockW, e2, asgW, asgTg, setR]
    rfl
  · obtain ⟨x, hx, r⟩ := r2.right v hv
    have := hc x hx
    omega
theorem rdOk_of {many : Nat} : ∀ {l : List (Int × Int)} {b : Int}, (∀ p ∈ l, b + 1 ≤ p.1 ∧ p.1 ≤ many ∧ 0 ≤ p.2 ∧ p.2 ≤ 1000000000000) → l.Pairwise (fun p q => p.1 < q.1) → rdOk many b l
  | [], _, _, _ => trivial
  | p :: l, b, h, hp => by
    rw [List.pairwise_cons] at hp
    refine ⟨h p (List.mem_cons_self ..), rdOk_of (fun q hq => ?_) hp.2⟩
    have h1 := h q (List.mem_cons_of_mem _ hq)
    have h2 := hp.1 q hq
    omega
theorem All2.pw {α β : Type} {R : α → β → Prop} {T : α → α → Prop} {S : β → β → Prop} {l : List α} {m : List β} (h : All2 R l m) (hp : l.Pairwise T) (hT : ∀ a b a' b', R a a' → R b b' → T a b → S a' b') : m.Pairwise S := by
  induction h with
  | nil => exact .nil
  | cons r r2 ih =>
    rw [List.pairwise_cons] at hp ⊢
    refine ⟨fun y hy => ?_, ih hp.2⟩
    obtain ⟨x, hx, r3⟩ := r2.right y hy
    exact hT _ _ _ _ r r3 (hp.1 x hx)
/-- readings as drawn: at ascending moments, with totals of a row off by something -/
theorem off_rd {many : Nat} {sp : List Nat} {row : List Int} {off hi : Int} {l : List (Int × Int)} (h1 : sp.Pairwise (· < ·)) (h2 : ∀ i ∈ sp, i ≤ many) (hm : many ≤ 24) (hr : ∀ v ∈ row, 0 ≤ v ∧ v ≤ hi) (h0 : 0 ≤ hi) (hl : row.length = many) (hi1 : hi * 24 ≤ 400000000000) (ho : 0 ≤ off ∧ off ≤ 1000000) (r : All2 (offBy off) (totals sp row 10000000) l) : rdOk many (-1) l ∧ (∀ p ∈ l, 9000000 ≤ p.2 ∧ p.2 ≤ 500000000000) ∧ l.length ≤ 25 := by
  have hb : ∀ p ∈ l, ∃ i ∈ sp, p.1 = (i : Int) ∧ 9000000 ≤ p.2 ∧ p.2 ≤ 500000000000 := by
    intro p hp
    obtain ⟨q, hq, r1, r2, r3⟩ := r.right p hp
    obtain ⟨i, hi', rfl⟩ := List.mem_map.mp hq
    refine ⟨i, hi', r1, ?_⟩
    have := sum_le (lo := 0) (hi := hi) (l := row.take i) (m := 24) (by rw [List.length_take]; omega) (by omega) h0 fun v hv => hr v (List.mem_of_mem_take hv)
    simp at this r2 r3
    omega
  have hpw : l.Pairwise (fun p q => p.1 < q.1) := by
    have h3 : (totals sp row 10000000).Pairwise (fun p q => p.1 < q.1) := by
      unfold totals
      rw [List.pairwise_map]
      exact h1.imp fun h => by simpa using h
    exact r.pw h3 fun p q p' q' x1 x2 x => by rw [x1.1, x2.1]; exact x
  have ok : rdOk many (-1) l := rdOk_of (fun p hp => by
    obtain ⟨i, hi', e, e2⟩ := hb p hp
    have := h2 i hi'
    omega) hpw
  refine ⟨ok, fun p hp => ?_, ?_⟩
  · obtain ⟨i, hi', e, e2⟩ := hb p hp
    exact e2
  · have := rdlen ok
    omega
end
end K
end
/-! ## P29 -/
section
set_option maxRecDepth 100000
set_option maxHeartbeats 4000000
namespace K
open PySem PySem.Spec PyProof.Rows L2 Pyv
section
variable {call : Nat → List W → DS → RF} {gl : List PyData} {c : Cfg} {rd : Bool} {n : Nat} {s : DS}
variable {b many : Nat} {rows pts : List PyData} {most off : Int} {a6 a7 a8 a9 a11 a12 a14 a16 a17 a18 : Option W}
theorem off_self {off : Int} (h : 0 ≤ off) : ∀ (l : List (Int × Int)), All2 (offBy off) l l
  | [] => .nil
  | p :: l => .cons ⟨rfl, by omega, by omega⟩ (off_self h l)
def GoodP (many : Nat) (p : Pt × List Int) : Prop := PtOk many p.1 ∧ (∀ r ∈ p.1.reads, 9000000 ≤ r.2 ∧ r.2 ≤ 500000000000) ∧ p.2.length = many ∧ ∀ v ∈ p.2, 0 ≤ v ∧ v ≤ 1000000000
/-- moments drawn, and the totals of a row there, with their readings off by something -/
theorem totals_drawn {bo : Bool} {row : List Int} {hi : Int} (k : Stk b s) (hb : b + 1000 ≤ Big) (h1 : 1 ≤ many) (hm : many ≤ 24) (hl : row.length = many) (hr : ∀ v ∈ row, 0 ≤ v ∧ v ≤ hi) (h0 : 0 ≤ hi) (hi1 : hi * 24 ≤ 400000000000) : ∃ (sp : List Nat) (l : List (Int × Int)) (s' : DS), Pyv.run pg (n + 4) 42 [.stm, .val (.int (many : Nat))] s = .ok (.own (sp.map fun i => .int (i : Nat))) s' ∧ Pyv.run pg (n + 4) 43 [.val (spD sp), .val (sqD bo row), .val (.int 10000000)] s' = .ok (.val (rdD l)) s' ∧ Stk (b + 100) s' ∧ l.length ≤ 25 ∧ ∀ (off : Int) (l' : List (Int × Int)), 0 ≤ off ∧ off ≤ 1000000 → All2 (offBy off) l l' → rdOk many (-1) l' ∧ (∀ p ∈ l', 9000000 ≤ p.2 ∧ p.2 ≤ 500000000000) := by
  obtain ⟨sp, s1, e1, p1, p2, k1⟩ := r42 (n := n + 2) (many := many) k (by omega) h1 hm
  have key : ∀ (off : Int) (l' : List (Int × Int)), 0 ≤ off ∧ off ≤ 1000000 → All2 (offBy off) (totals sp row 10000000) l' → rdOk many (-1) l' ∧ (∀ p ∈ l', 9000000 ≤ p.2 ∧ p.2 ≤ 500000000000) ∧ l'.length ≤ 25 := fun off l' ho r => off_rd p1 p2 hm hr h0 hl hi1 ho r
  have r0 := key 0 _ (by omega) (off_self (by omega) _)
  have lsp : sp.length ≤ 1000 := by
    have : (totals sp row 10000000).length = sp.length := by simp [totals]
    omega
  have e2 := r43 (n := n + 3) (s := s1) (b := bo) (spots := sp) (row := row) (base := 10000000) lsp
  exact ⟨sp, totals sp row 10000000, s1, e1, e2, k1, r0.2.2, fun off l' ho r => ⟨(key off l' ho r).1, (key off l' ho r).2.1⟩⟩
theorem s2c {caps row : List Int} (k : Stk b s) (hb : b + 1200 ≤ Big) (h1 : 1 ≤ many) (hm : many ≤ 24) (ho : 0 ≤ off ∧ off ≤ 1000000) (hl : row.length = many) (hr : ∀ v ∈ row, 0 ≤ v ∧ v ≤ 1000000000) (hp : pts.length ≤ 100) (n6 : notBor a6 = true) : ∃ (reads : List (Int × Int)) (s' : DS), evS (Pyv.run pg (n + 4)) glD q55_2b_2 (C55 many rows pts most off a6 (some (.val (itD caps))) none (some (.val (itD row))) none none none none none none s) = .next (C55 many rows (pts ++ [ptD ⟨caps, reads⟩]) most off a6 (some (.val (itD caps))) none (some (.val (itD row))) none none none none none none s') ∧ rdOk many (-1) reads ∧ (∀ p ∈ reads, 9000000 ≤ p.2 ∧ p.2 ≤ 500000000000) ∧ Stk (b + 200) s' := by
  obtain ⟨sp, l, s1, e1, e2, k1, l2, key⟩ := totals_drawn (n := n) (bo := true) k (by omega) h1 hm hl hr (by omega) (by omega)
  obtain ⟨reads, s2, e3, r3, k2⟩ := r54 (n := n) (s := s1) (most := off) (reads := l) k1 (by omega) ho.1 ho.2 l2
  obtain ⟨q1, q2⟩ := key off reads ho r3
  refine ⟨reads, s2, ?_, q1, q2, k2.mono (by omega)⟩
  have es : sqD true row = itD row := rfl
  rw [es] at e2
  have esp : (.list (sp.map fun i => PyData.int (i : Nat))) = spD sp := rfl
  have hs : pts.length < sizeLine := by rw [sizeLine_eq]; omega
  unfold q55_2b_2
  simp [ownAt, evVar, doCall, e1, esp, pow7, e2, e3, mkTup, dats, setR, hs, n6, ptD]
theorem s2d {row : List Int} (hp : rows.length ≤ 100) (n6 : notBor a6 = true) (n7 : notBor a7 = true) : evS (Pyv.run pg (n + 4)) glD q55_2b_3 (C55 many rows pts most off a6 a7 none (some (.val (itD row))) none none none none none none s) = .next (C55 many (rows ++ [itD row]) pts most off a6 a7 none (some (.val (itD row))) none none none none none none s) := by
  have hs : rows.length < sizeLine := by rw [sizeLine_eq]; omega
  unfold q55_2b_3
  simp [ownAt, evVar, setR, hs, n6, n7]
def P55 (many : Nat) (most off : Int) (acc : List (Pt × List Int)) (s : DS) (c : Cfg) : Prop := ∃ a6 a7 a9, notBor a6 = true ∧ notBor a7 = true ∧ notBor a9 = true ∧ c = C55 many (acc.map fun p => itD p.2) (acc.map fun p => ptD p.1) most off a6 a7 none a9 none none none none none none s
theorem s2 (k : Stk b s) (hb : b + 40000 ≤ Big) (h1 : 1 ≤ many) (hm : many ≤ 24) (h2 : 1 ≤ most) (h3 : most ≤ 1000000000) (ho : 0 ≤ off ∧ off ≤ 1000000) : ∃ (acc : List (Pt × List Int)) (s' : DS) (a6 a7 a9 : Option W), evS (Pyv.run pg (n + 4)) glD q55_2 (C55 many [] [] most off none none none none none none none none none none s) = .next (C55 many (acc.map fun p => itD p.2) (acc.map fun p => ptD p.1) most off a6 a7 none a9 none none none none none none s') ∧ 1 ≤ acc.length ∧ acc.length ≤ 8 ∧ (∀ p ∈ acc, GoodP many p) ∧ notBor a6 = true ∧ notBor a7 = true ∧ notBor a9 = true ∧ Stk (b + 40000) s' := by
  obtain ⟨v, s1, e1, hv, k1⟩ := draw (n := n + 3) (lim := 8) k (by omega) (by omega) (by omega)
  have f1 := fitsI_nat (m := v + 1) (by omega)
  have er : rangeL 0 (1 + (v : Int)) = (List.range (v + 1)).map fun i => PyData.int (i : Nat) := by
    rw [← rangeL_nat]; congr 1; omega
  have fr : fitsI (1 + (v : Int)) = true := by rw [← f1]; congr 1; omega
  have hE : evS (Pyv.run pg (n + 4)) glD q55_2 (C55 many [] [] most off none none none none none none none none none none s) = forLoop (.name 6) (evSs (Pyv.run pg (n + 4)) glD q55_2b) ((List.range (v + 1)).map fun i => PyData.int (i : Nat)) (C55 many [] [] most off none none none none none none none none none none s1) := by
    unfold q55_2
    simp [evVar, doCall, e1, fr, er]
  rw [hE]
  generalize hF : forLoop _ _ _ _ = o
  obtain ⟨acc, s2, c', rfl, r2, k2, a6, a7, a9, n6, n7, n9, rfl⟩ := dr_use hF (P55 many most off) (fun (_ : Nat) p => GoodP many p) 3000 50 (acc := []) (b := b + 1) (s := s1)
    (fun x hx acc b s c k hb hl ⟨a6, a7, a9, n6, n7, n9, e⟩ => by
      subst e
      refine ⟨_, rfl, ?_⟩
      obtain ⟨caps, s1, e1, l1, q1, k1⟩ := s2a (n := n) (b := b) (rows := acc.map fun p => itD p.2) (pts := acc.map fun p => ptD p.1) (off := off) (a6 := some (.val (.int (x : Nat)))) (a7 := a7) (a9 := a9) k (by omega) hm h2 h3
      obtain ⟨row, s2, e2, l2, q2, k2⟩ := s2b (n := n) (rows := acc.map fun p => itD p.2) (pts := acc.map fun p => ptD p.1) (most := most) (off := off) (a6 := some (.val (.int (x : Nat)))) (a9 := a9) k1 (by omega) hm l1 q1
      obtain ⟨reads, s3, e3, l3, q3, k3⟩ := s2c (n := n) (rows := acc.map fun p => itD p.2) (pts := acc.map fun p => ptD p.1) (most := most) (off := off) (a6 := some (.val (.int (x : Nat)))) (caps := caps) k2 (by omega) h1 hm ho l2 q2 (by rw [List.length_map]; omega) rfl
      have e4 := s2d (n := n) (s := s3) (many := many) (rows := acc.map fun p => itD p.2) (pts := acc.map (fun p => ptD p.1) ++ [ptD ⟨caps, reads⟩]) (most := most) (off := off) (a6 := some (.val (.int (x : Nat)))) (a7 := some (.val (itD caps))) (row := row) (by rw [List.length_map]; omega) rfl rfl
      refine ⟨(⟨caps, reads⟩, row), s3, C55 many ((acc ++ [((⟨caps, reads⟩ : Pt), row)]).map fun p => itD p.2) ((acc ++ [((⟨caps, reads⟩ : Pt), row)]).map fun p => ptD p.1) most off (some (.val (.int (x : Nat)))) (some (.val (itD caps))) none (some (.val (itD row))) none none none none none none s3, ?_, ⟨⟨l1, q1, l3⟩, q3, l2, q2⟩, k3.mono (by omega), _, _, _, rfl, rfl, rfl, rfl⟩
      unfold q55_2b
      rw [ss_cons]
      have e1' : evS (Pyv.run pg (n + 4)) glD q55_2b_0 (setR (C55 many (acc.map fun p => itD p.2) (acc.map fun p => ptD p.1) most off a6 a7 none a9 none none none none none none s) 6 (.val (.int (x : Nat)))) = _ := e1
      rw [e1', th_next, ss_cons, e2, th_next, ss_cons, e3, th_next, ss_cons, e4, th_next, ss_nil]
      simp)
    k1 (by rw [List.length_range]; omega) (by rw [List.length_range, List.length_nil]; omega) ⟨none, none, none, rfl, rfl, rfl, rfl⟩
  have hl := r2.len
  rw [List.length_range] at hl
  exact ⟨acc, s2, a6, a7, a9, rfl, by omega, by omega, r2.fst, n6, n7, n9, k2.mono (by rw [List.length_range]; omega)⟩
end
end K
end
/-! ## P30 -/
section
set_option maxRecDepth 100000
set_option maxHeartbeats 4000000
namespace K
open PySem PySem.Spec PyProof.Rows L2 Pyv
section
variable {call : Nat → List W → DS → RF} {gl : List PyData} {c : Cfg} {rd : Bool} {n : Nat} {s : DS}
variable {b many : Nat} {rows pts : List PyData} {most off : Int} {a6 a7 a8 a9 a11 a12 a14 a16 a17 a18 : Option W}
theorem s3 (k : Stk b s) (hb : b + 100 ≤ Big) (hm : many ≤ 24) (h1 : 1 ≤ most) (h2 : most ≤ 1000000000) : ∃ (l : List Int) (s' : DS), evS (Pyv.run pg (n + 4)) glD q55_3 (C55 many rows pts most off a6 a7 none a9 none none none none none none s) = .next (C55 many rows pts most off a6 a7 none a9 (some (.own (l.map .int))) none none none none none s') ∧ l.length = many ∧ (∀ v ∈ l, 0 ≤ v ∧ v ≤ most) ∧ Stk (b + 48) s' := by
  have f1 : fitsI (many : Int) = true := fitsI_nat (by omega)
  obtain ⟨ys, s2, e2, r2, k2⟩ := lc_draw (F := lcB (Pyv.run pg (n + 4)) glD (.call 39 (.cons (.var 0) (.cons (.bin .Add (.var 4) (.lit (.int 1))) .nil))) (.name 8) .no) (e := fun i : Nat => .int (i : Nat)) PyData.int (fun _ v => 0 ≤ v ∧ v ≤ most) 2
    (ρ0 := (C55 many rows pts most off a6 a7 none a9 none none none none none none s).ρ) (ρ1 := (enterC (C55 many rows pts most off a6 a7 none a9 none none none none none none s) [8]).ρ) (List.range many)
    (fun x hx b s h hb => by
      obtain ⟨v, s', e, hv, h'⟩ := r39 (n := n + 2) (lim := most + 1) h (by omega) (by omega) (by omega)
      refine ⟨(v : Int), s', ?_, by omega, h'⟩
      simp [enterC, wipeR, lockW, asgTg, setR, evVar, doCall, e]) k (by rw [List.length_range]; omega) (by rw [List.length_range]; omega)
  refine ⟨ys, s2, ?_, by rw [r2.len, List.length_range], fun v hv => ?_, k2.mono (by rw [List.length_range]; omega)⟩
  · unfold q55_3
    simp [enterC, wipeR, lockW] at e2
    simp [evVar, f1, rangeL_nat, enterC, wipeR, lockW, e2, asgW, asgTg, setR, itD]
  · obtain ⟨_, _, r⟩ := r2.right v hv
    omega
theorem s4 {lows : List Int} (k : Stk b s) (hb : b + 100 ≤ Big) (hm : many ≤ 24) (h2 : most ≤ 1000000000) (hl : lows.length = many) (hc : ∀ v ∈ lows, 0 ≤ v ∧ v ≤ most) : ∃ (l : List (Int × Int)) (s' : DS), evS (Pyv.run pg (n + 4)) glD q55_4 (C55 many rows pts most off a6 a7 none a9 (some (.own (lows.map .int))) none none none none none s) = .next (C55 many rows pts most off a6 a7 none a9 (some (.own (lows.map .int))) (some (.val (rdD l))) none none none none s') ∧ l.length = many ∧ (∀ p ∈ l, (0 ≤ p.1 ∧ p.1 ≤ 1000000000) ∧ p.1 ≤ p.2 ∧ p.2 ≤ 1000000000) ∧ Stk (b + 48) s' := by
  obtain ⟨ys, s2, e2, r2, k2⟩ := lc_draw (F := lcB (Pyv.run pg (n + 4)) glD (.tup (.cons (.var 13) (.cons (.bin .Add (.var 13) (.call 39 (.cons (.var 0) (.cons (.bin .Add (.bin .Sub (.var 4) (.var 13)) (.lit (.int 1))) .nil)))) .nil))) (.name 13) .no) (e := PyData.int) prD (fun x p => p.1 = x ∧ x ≤ p.2 ∧ p.2 ≤ most) 2
    (ρ0 := (C55 many rows pts most off a6 a7 none a9 (some (.own (lows.map .int))) none none none none none s).ρ) (ρ1 := (enterC (C55 many rows pts most off a6 a7 none a9 (some (.own (lows.map .int))) none none none none none s) [13]).ρ) lows
    (fun x hx b s h hb => by
      obtain ⟨x1, x2⟩ := hc x hx
      obtain ⟨v, s', e, hv, h'⟩ := r39 (n := n + 2) (lim := most - x + 1) h (by omega) (by omega) (by omega)
      refine ⟨(x, x + v), s', ?_, ⟨rfl, by show x ≤ x + v; omega, by show x + v ≤ most; omega⟩, h'⟩
      simp [enterC, wipeR, lockW, asgTg, setR, evVar, doCall, e, mkTup, dats, prD]) k (by omega) (by omega)
  refine ⟨ys, s2, ?_, by rw [r2.len]; exact hl, fun p hp => ?_, k2.mono (by omega)⟩
  · unfold q55_4
    simp [enterC, wipeR, lockW] at e2
    simp [evVar, enterC, wipeR, lockW, e2, asgW, asgTg, setR]
    rfl
  · obtain ⟨x, hx, r⟩ := r2.right p hp
    have := hc x hx
    omega
theorem s5 {bo : List (Int × Int)} (k : Stk b s) (hb : b + 100 ≤ Big) (hm : many ≤ 24) (hl : bo.length = many) (hc : ∀ p ∈ bo, (0 ≤ p.1 ∧ p.1 ≤ 1000000000) ∧ p.1 ≤ p.2 ∧ p.2 ≤ 1000000000) : ∃ (l : List Int) (s' : DS), evS (Pyv.run pg (n + 4)) glD q55_5 (C55 many rows pts most off a6 a7 none a9 a11 (some (.val (rdD bo))) none none none none s) = .next (C55 many rows pts most off a6 a7 none a9 a11 (some (.val (rdD bo))) (some (.val (itD l))) none none none s') ∧ l.length = many ∧ (∀ v ∈ l, 0 ≤ v ∧ v ≤ 1000000000) ∧ Stk (b + 48) s' := by
  obtain ⟨ys, s2, e2, r2, k2⟩ := lc_draw (F := lcB (Pyv.run pg (n + 4)) glD (.bin .Add (.var 13) (.call 39 (.cons (.var 0) (.cons (.bin .Add (.bin .Sub (.var 15) (.var 13)) (.lit (.int 1))) .nil)))) (.tup [(.name 13), (.name 15)]) .no) (e := prD) PyData.int (fun p v => p.1 ≤ v ∧ v ≤ p.2) 2
    (ρ0 := (C55 many rows pts most off a6 a7 none a9 a11 (some (.val (rdD bo))) none none none none s).ρ) (ρ1 := (enterC (C55 many rows pts most off a6 a7 none a9 a11 (some (.val (rdD bo))) none none none none s) [13, 15]).ρ) bo
    (fun p hp b s h hb => by
      obtain ⟨x1, x2, x3⟩ := hc p hp
      obtain ⟨v, s', e, hv, h'⟩ := r39 (n := n + 2) (lim := p.2 - p.1 + 1) h (by omega) (by omega) (by omega)
      refine ⟨p.1 + v, s', ?_, ⟨by omega, by omega⟩, h'⟩
      simp [enterC, wipeR, lockW, asgTg, asgTgs, setR, evVar, doCall, e, prD]) k (by omega) (by omega)
  refine ⟨ys, s2, ?_, by rw [r2.len]; exact hl, fun v hv => ?_, k2.mono (by omega)⟩
  · have hsrc : ∀ c : Cfg, c.ρ[12]? = some (some (.val (rdD bo))) → evSrc (Pyv.run pg (n + 4)) glD (.seq (.var 12)) true c = .ok (bo.map prD) c := fun c h => by
      simp [evVar, h, rdD]
    unfold q55_5
    simp [enterC, wipeR, lockW] at e2
    simp [-src_seq, hsrc, enterC, wipeR, lockW, e2, asgW, asgTg, setR]
    rfl
  · obtain ⟨p, hp, r⟩ := r2.right v hv
    have := hc p hp
    omega
def thruL (many : Nat) (R : List (List Int)) (lost : List Int) : List Int := (List.range many).map fun h => nth lost h + (R.map fun r => nth r h).sum
theorem s6 {R : List (List Int)} {lost : List Int} (hm : many ≤ 24) (hR : R.length ≤ 8) (hr : ∀ r ∈ R, r.length = many) (hl : lost.length = many) : evS (Pyv.run pg (n + 4)) glD q55_6 (C55 many (R.map itD) pts most off a6 a7 none a9 a11 a12 (some (.val (itD lost))) none none none s) = .next (C55 many (R.map itD) pts most off a6 a7 none a9 a11 a12 (some (.val (itD lost))) (some (.own ((thruL many R lost).map .int))) none none s) := by
  have f1 : fitsI (many : Int) = true := fitsI_nat (by omega)
  unfold q55_6
  simp [evVar, f1, rangeL_nat, enterC, wipeR]
  rw [lc_map3 (g := fun hr => .int (nth lost hr + (R.map fun r => nth r hr).sum))]
  · simp [asgW, asgTg, setR, thruL, Function.comp_def]
  · intro i hi
    have hm : i < many := List.mem_range.mp hi
    have a1 : ix2 (itD lost) (.int (i : Nat)) = some (.val (.int (nth lost i))) := by simp [itD, at_int (l := lost) (i := i) (by rw [hl]; exact hm)]
    simp [asgTg, setR, enterC, wipeR, lockW, evVar, a1]
    rw [lc_map3 (g := fun r => .int (nth r i))]
    · have := bl_sum2 (l := R.map fun r => nth r i)
      rw [List.map_map] at this
      simp [Function.comp_def] at this
      simp [this]
    · intro r hr2
      have a4 : ix2 (itD r) (.int (i : Nat)) = some (.val (.int (nth r i))) := by simp [itD, at_int (l := r) (i := i) (by rw [hr r hr2]; exact hm)]
      simp [asgTg, setR, evVar, a4]
    · rw [sizeLine_eq]; omega
  · rw [sizeLine_eq, List.length_range]; omega
end
end K
end
/-! ## P31 -/
section
set_option maxRecDepth 100000
set_option maxHeartbeats 4000000
namespace K
open PySem PySem.Spec PyProof.Rows L2 Pyv
section
variable {call : Nat → List W → DS → RF} {gl : List PyData} {c : Cfg} {rd : Bool} {n : Nat} {s : DS}
variable {b many : Nat} {rows pts : List PyData} {most off : Int} {a6 a7 a8 a9 a11 a12 a14 a16 a17 a18 : Option W}
theorem s7 {thr : List Int} (k : Stk b s) (hb : b + 1000 ≤ Big) (h1 : 1 ≤ many) (hm : many ≤ 24) (hl : thr.length = many) (hr : ∀ v ∈ thr, 0 ≤ v ∧ v ≤ 9000000000) : ∃ (l : List (Int × Int)) (s' : DS), evS (Pyv.run pg (n + 4)) glD q55_7 (C55 many rows pts most off a6 a7 a8 a9 a11 a12 a14 (some (.own (thr.map .int))) none none s) = .next (C55 many rows pts most off a6 a7 a8 a9 a11 a12 a14 (some (.val (.list (thr.map .int)))) (some (.val (rdD l))) none s') ∧ l.length ≤ 25 ∧ (∀ (off : Int) (l' : List (Int × Int)), 0 ≤ off ∧ off ≤ 1000000 → All2 (offBy off) l l' → rdOk many (-1) l' ∧ (∀ p ∈ l', 9000000 ≤ p.2 ∧ p.2 ≤ 500000000000)) ∧ Stk (b + 100) s' := by
  obtain ⟨sp, l, s1, e1, e2, k1, l2, key⟩ := totals_drawn (n := n) (bo := false) k (by omega) h1 hm hl hr (by omega) (by omega)
  refine ⟨l, s1, ?_, l2, key, k1⟩
  have es : sqD false thr = .list (thr.map .int) := rfl
  rw [es] at e2
  have esp : (.list (sp.map fun i => PyData.int (i : Nat))) = spD sp := rfl
  unfold q55_7
  simp [evVar, doCall, e1, esp, pow7, e2, asgW, asgTg, setR]
theorem s8 {l : List (Int × Int)} (k : Stk b s) (hb : b + 2000 ≤ Big) (hl : l.length ≤ 25) (ho : 0 ≤ off ∧ off ≤ 1000000) : ∃ (l' : List (Int × Int)) (s' : DS), evS (Pyv.run pg (n + 4)) glD q55_8 (C55 many rows pts most off a6 a7 a8 a9 a11 a12 a14 a16 (some (.val (rdD l))) none s) = .next (C55 many rows pts most off a6 a7 a8 a9 a11 a12 a14 a16 (some (.val (rdD l'))) none s') ∧ All2 (offBy off) l l' ∧ Stk (b + 200) s' := by
  obtain ⟨v, s1, e1, hv, k1⟩ := draw (n := n + 3) (lim := 3) k (by omega) (by omega) (by omega)
  by_cases v0 : v = 0
  · subst v0
    obtain ⟨l', s2, e3, r3, k2⟩ := r54 (n := n) (s := s1) (most := off) (reads := l) k1 (by omega) ho.1 ho.2 hl
    refine ⟨l', s2, ?_, r3, k2.mono (by omega)⟩
    unfold q55_8
    simp [evVar, doCall, e1, e3, asgW, asgTg, setR]
  · refine ⟨l, s1, ?_, off_self ho.1 l, k1.mono (by omega)⟩
    unfold q55_8
    simp [evVar, doCall, e1, v0]
theorem ixN_nat {m i : Nat} (h : i < m) : ixN m (i : Int) = some i := by
  unfold ixN
  rw [if_pos (by omega), if_pos (by omega)]
  simp
theorem set_mem {α : Type} {l : List α} {i : Nat} {a x : α} (h : x ∈ l.set i a) : x ∈ l ∨ x = a := by
  rcases List.mem_or_eq_of_mem_set h with h | h
  · exact .inl h
  · exact .inr h
theorem s9 {R : List (List Int)} {PL : List Pt} (k : Stk b s) (hb : b + 100 ≤ Big) (h1 : 1 ≤ many) (hm : many ≤ 24) (hR1 : 1 ≤ R.length) (hR : R.length ≤ 8) (hP : PL.length = R.length) (hc : ∀ p ∈ PL, PtOk many p) (hr : ∀ r ∈ R, r.length = many) (hv : ∀ r ∈ R, ∀ v ∈ r, 0 ≤ v ∧ v ≤ 1000000000)
    (nb7 : notBor a7 = true) (nb9 : notBor a9 = true) (nb11 : notBor a11 = true) (nb12 : notBor a12 = true) (nb14 : notBor a14 = true) (nb16 : notBor a16 = true) (nb17 : notBor a17 = true) :
    ∃ (R' : List (List Int)) (s' : DS) (a6' a8' a18' : Option W), evS (Pyv.run pg (n + 4)) glD q55_9 (C55 many (R.map itD) (PL.map ptD) most off a6 a7 none a9 a11 a12 a14 a16 a17 none s) = .next (C55 many (R'.map itD) (PL.map ptD) most off a6' a7 a8' a9 a11 a12 a14 a16 a17 a18' s') ∧ R'.length = R.length ∧ (∀ r ∈ R', r.length = many) ∧ (∀ r ∈ R', ∀ v ∈ r, -10 ≤ v ∧ v ≤ 1000000010) ∧ Stk (b + 20) s' := by
  obtain ⟨v, s1, e1, hv1, k1⟩ := draw (n := n + 3) (lim := 3) k (by omega) (by omega) (by omega)
  by_cases v0 : v = 0
  · subst v0
    obtain ⟨i, s2, e2, hi, k2⟩ := draw (n := n + 3) (lim := (R.length : Int)) k1 (by omega) (by omega) (by omega)
    obtain ⟨h, s3, e3, hh, k3⟩ := draw (n := n + 3) (lim := (many : Int)) k2 (by omega) (by omega) (by omega)
    obtain ⟨d1, s4, e4, hd1, k4⟩ := draw (n := n + 3) (lim := 4) k3 (by omega) (by omega) (by omega)
    obtain ⟨d2, s5, e5, hd2, k5⟩ := draw (n := n + 3) (lim := 4) k4 (by omega) (by omega) (by omega)
    have hi : i < R.length := by omega
    have hh : h < many := by omega
    have hiP : i < PL.length := by omega
    have pk := hc _ (List.getElem_mem hiP)
    have rk := hr _ (List.getElem_mem hi)
    have vk := hv _ (List.getElem_mem hi)
    have ck := pk.caps _ (nth_mem (l := PL[i].caps) (i := h) (by rw [pk.len]; exact hh))
    obtain ⟨one, s6, e6, h6, k6⟩ := pick2 (n := n + 2) (x := -1 - (d1 : Int)) (y := nth PL[i].caps h + 1 + d2) k5 (by omega)
    have c41 := r41i (n := n + 3) (s := s6) (l := R[i]) (i := h) (v := one) (by rw [rk]; exact hh) (by rw [rk]; omega)
    have x1 : atI (R.map itD) (i : Int) = some (itD R[i]) := at_map (List.getElem?_eq_getElem hi)
    have x2 : atI (PL.map ptD) (i : Int) = some (ptD PL[i]) := at_map (List.getElem?_eq_getElem hiP)
    have x3 : ix2 (itD PL[i].caps) (.int (h : Nat)) = some (.val (.int (nth PL[i].caps h))) := by simp [itD, at_int (l := PL[i].caps) (i := h) (by rw [pk.len]; exact hh)]
    have x4 : ixN R.length (i : Int) = some i := ixN_nat hi
    refine ⟨R.set i (R[i].set h one), s6, some (.val (.int (i : Nat))), some (.val (.int (h : Nat))), some (.val (.int one)), ?_, by rw [List.length_set], fun r hr2 => ?_, fun r hr2 v hv2 => ?_, k6.mono (by omega)⟩
    · have t0 : evS (Pyv.run pg (n + 4)) glD q55_9t_0 (C55 many (R.map itD) (PL.map ptD) most off a6 a7 none a9 a11 a12 a14 a16 a17 none s1) = .next (C55 many (R.map itD) (PL.map ptD) most off (some (.val (.int (i : Nat)))) a7 (some (.val (.int (h : Nat)))) a9 a11 a12 a14 a16 a17 none s3) := by
        unfold q55_9t_0
        simp [evVar, doCall, e2, e3, asgs, asgW, asgTg, setR]
      have t1 : evS (Pyv.run pg (n + 4)) glD q55_9t_1 (C55 many (R.map itD) (PL.map ptD) most off (some (.val (.int (i : Nat)))) a7 (some (.val (.int (h : Nat)))) a9 a11 a12 a14 a16 a17 none s3) = .next (C55 many (R.map itD) (PL.map ptD) most off (some (.val (.int (i : Nat)))) a7 (some (.val (.int (h : Nat)))) a9 a11 a12 a14 a16 a17 (some (.val (.int one))) s6) := by
        unfold q55_9t_1
        simp [evVar, doCall, e4, e5, x2, x3, mkLst, dats, e6, asgW, asgTg, setR]
      have t2 : evS (Pyv.run pg (n + 4)) glD q55_9t_2 (C55 many (R.map itD) (PL.map ptD) most off (some (.val (.int (i : Nat)))) a7 (some (.val (.int (h : Nat)))) a9 a11 a12 a14 a16 a17 (some (.val (.int one))) s6) = .next (C55 many ((R.set i (R[i].set h one)).map itD) (PL.map ptD) most off (some (.val (.int (i : Nat)))) a7 (some (.val (.int (h : Nat)))) a9 a11 a12 a14 a16 a17 (some (.val (.int one))) s6) := by
        unfold q55_9t_2
        simp [evVar, doCall, x1, c41, ownAt, x4, setR, nb7, nb9, nb11, nb12, nb14, nb16, nb17, List.map_set]
      unfold q55_9
      simp [evVar, doCall, e1]
      unfold q55_9t
      rw [ss_cons, t0, th_next, ss_cons, t1, th_next, ss_cons, t2, th_next, ss_nil]
      simp only [List.map_set]
    · rcases set_mem hr2 with z | z
      · exact hr r z
      · rw [z, List.length_set]; exact rk
    · rcases set_mem hr2 with z | z
      · have := hv r z v hv2
        omega
      · rw [z] at hv2
        rcases set_mem hv2 with z | z
        · have := vk v z
          omega
        · rw [z]
          omega
  · refine ⟨R, s1, a6, none, none, ?_, rfl, hr, fun r hr2 v hv2 => by have := hv r hr2 v hv2; omega, k1.mono (by omega)⟩
    unfold q55_9
    simp [evVar, doCall, e1, v0]
theorem s10 {lost : List Int} {bo : List (Int × Int)} (k : Stk b s) (hb : b + 100 ≤ Big) (h1 : 1 ≤ many) (hm : many ≤ 24) (hl : lost.length = many) (hv : ∀ v ∈ lost, 0 ≤ v ∧ v ≤ 1000000000) (hbl : bo.length = many) (hbo : ∀ p ∈ bo, (0 ≤ p.1 ∧ p.1 ≤ 1000000000) ∧ p.1 ≤ p.2 ∧ p.2 ≤ 1000000000) :
    ∃ (lost' : List Int) (s' : DS) (a8' : Option W), evS (Pyv.run pg (n + 4)) glD q55_10 (C55 many rows pts most off a6 a7 a8 a9 a11 (some (.val (rdD bo))) (some (.val (itD lost))) a16 a17 a18 s) = .next (C55 many rows pts most off a6 a7 a8' a9 a11 (some (.val (rdD bo))) (some (.val (itD lost'))) a16 a17 a18 s') ∧ lost'.length = many ∧ (∀ v ∈ lost', -10 ≤ v ∧ v ≤ 1000000010) ∧ Stk (b + 20) s' := by
  obtain ⟨v, s1, e1, hv1, k1⟩ := draw (n := n + 3) (lim := 6) k (by omega) (by omega) (by omega)
  by_cases v0 : v = 0
  · subst v0
    obtain ⟨h, s2, e2, hh, k2⟩ := draw (n := n + 3) (lim := (many : Int)) k1 (by omega) (by omega) (by omega)
    have hh : h < many := by omega
    have hbb : h < bo.length := by omega
    have bk := hbo _ (List.getElem_mem hbb)
    obtain ⟨one, s3, e3, h3, k3⟩ := pick2 (n := n + 2) (x := bo[h].1 - 1) (y := bo[h].2 + 1) k2 (by omega)
    have x1 : ix2 (rdD bo) (.int (h : Nat)) = some (.val (prD bo[h])) := by
      have := at_map (e := prD) (List.getElem?_eq_getElem hbb)
      simp [rdD, this]
    have c41 := r41i (n := n + 3) (s := s3) (l := lost) (i := h) (v := one) (by omega) (by omega)
    refine ⟨lost.set h one, s3, some (.val (.int (h : Nat))), ?_, by rw [List.length_set]; exact hl, fun v hv2 => ?_, k3.mono (by omega)⟩
    · unfold q55_10 q55_10t q55_10t_0 q55_10t_1
      simp [evVar, doCall, e1, e2, x1, mkLst, dats, e3, c41, asgW, asgTg, setR]
    · rcases set_mem hv2 with z | z
      · have := hv v z
        omega
      · rw [z]
        omega
  · refine ⟨lost, s1, a8, ?_, hl, fun v hv2 => by have := hv v hv2; omega, k1.mono (by omega)⟩
    unfold q55_10
    simp [evVar, doCall, e1, v0]
end
end K
end
/-! ## P32 -/
section
set_option maxRecDepth 100000
set_option maxHeartbeats 4000000
namespace K
open PySem PySem.Spec PyProof.Rows L2 Pyv
section
variable {call : Nat → List W → DS → RF} {gl : List PyData} {c : Cfg} {rd : Bool} {n : Nat} {s : DS}
theorem r55 {b : Nat} (k : Stk b s) (hb : b + 100000 ≤ Big) : ∃ (x : Net) (y : Sheet) (s' : DS), Pyv.run pg (n + 5) 55 [.stm] s = .ok (.val (.tuple [netD x, shD y])) s' ∧ DrOk x y ∧ Stk (b + 100000) s' := by
  obtain ⟨many, t0, e0, m1, m2, k0⟩ := s0 (n := n) k (by omega)
  obtain ⟨most, off, t1, e1, w1, w2, w3, w4, k1⟩ := s1 (n := n) (many := many) k0 (by omega)
  obtain ⟨acc, t2, a6, a7, a9, e2, l1, l2, g, nb6, nb7, nb9, k2⟩ := s2 (n := n) (many := many) (off := off) k1 (by omega) m1 m2 w1 w2 ⟨w3, w4⟩
  have eR : (acc.map fun p => itD p.2) = (acc.map (·.2)).map itD := by simp
  have eP : (acc.map fun p => ptD p.1) = (acc.map (·.1)).map ptD := by simp
  rw [eR, eP] at e2
  have hRl : (acc.map (·.2)).length = acc.length := by simp
  have hPl : (acc.map (·.1)).length = acc.length := by simp
  have hrl : ∀ r ∈ acc.map (·.2), r.length = many := fun r hr => by
    obtain ⟨p, hp, rfl⟩ := List.mem_map.mp hr
    exact (g p hp).2.2.1
  have hrv : ∀ r ∈ acc.map (·.2), ∀ v ∈ r, 0 ≤ v ∧ v ≤ 1000000000 := fun r hr => by
    obtain ⟨p, hp, rfl⟩ := List.mem_map.mp hr
    exact (g p hp).2.2.2
  have hpo : ∀ p ∈ acc.map (·.1), PtOk many p := fun p hp => by
    obtain ⟨q, hq, rfl⟩ := List.mem_map.mp hp
    exact (g q hq).1
  have hpr : ∀ p ∈ acc.map (·.1), ∀ r ∈ p.reads, 9000000 ≤ r.2 ∧ r.2 ≤ 500000000000 := fun p hp => by
    obtain ⟨q, hq, rfl⟩ := List.mem_map.mp hp
    exact (g q hq).2.1
  generalize acc.map (·.2) = R at *
  generalize acc.map (·.1) = PL at *
  obtain ⟨lows, t3, e3, l3, q3, k3⟩ := s3 (n := n) (rows := R.map itD) (pts := PL.map ptD) (off := off) (a6 := a6) (a7 := a7) (a9 := a9) k2 (by omega) m2 w1 w2
  obtain ⟨bo, t4, e4, l4, q4, k4⟩ := s4 (n := n) (rows := R.map itD) (pts := PL.map ptD) (off := off) (a6 := a6) (a7 := a7) (a9 := a9) k3 (by omega) m2 w2 l3 q3
  obtain ⟨lost, t5, e5, l5, q5, k5⟩ := s5 (n := n) (rows := R.map itD) (pts := PL.map ptD) (most := most) (off := off) (a6 := a6) (a7 := a7) (a9 := a9) (a11 := some (.own (lows.map .int))) k4 (by omega) m2 l4 q4
  have e6 := s6 (n := n) (s := t5) (pts := PL.map ptD) (most := most) (off := off) (a6 := a6) (a7 := a7) (a9 := a9) (a11 := some (.own (lows.map .int))) (a12 := some (.val (rdD bo))) m2 (by omega) hrl l5
  have tl : (thruL many R lost).length = many := by simp [thruL]
  have tb : ∀ v ∈ thruL many R lost, 0 ≤ v ∧ v ≤ 9000000000 := by
    intro v hv
    obtain ⟨h, hh, rfl⟩ := List.mem_map.mp hv
    have hm : h < many := List.mem_range.mp hh
    obtain ⟨a1, a2⟩ := q5 _ (nth_mem (l := lost) (i := h) (by omega))
    have := sum_le (lo := 0) (hi := 1000000000) (l := R.map fun r => nth r h) (m := 8) (by rw [List.length_map]; omega) (by decide) (by decide) fun v hv => by
      obtain ⟨r, hr, rfl⟩ := List.mem_map.mp hv
      exact hrv r hr _ (nth_mem (by rw [hrl r hr]; exact hm))
    omega
  obtain ⟨rds, t7, e7, l7, key, k7⟩ := s7 (n := n) (rows := R.map itD) (pts := PL.map ptD) (most := most) (off := off) (a6 := a6) (a7 := a7) (a8 := none) (a9 := a9) (a11 := some (.own (lows.map .int))) (a12 := some (.val (rdD bo))) (a14 := some (.val (itD lost))) k5 (by omega) m1 m2 tl tb
  obtain ⟨main, t8, e8, r8', k8⟩ := s8 (n := n) (many := many) (rows := R.map itD) (pts := PL.map ptD) (most := most) (off := off) (a6 := a6) (a7 := a7) (a8 := none) (a9 := a9) (a11 := some (.own (lows.map .int))) (a12 := some (.val (rdD bo))) (a14 := some (.val (itD lost))) (a16 := some (.val (.list ((thruL many R lost).map .int)))) k7 (by omega) l7 ⟨w3, w4⟩
  obtain ⟨q8, q8'⟩ := key off main ⟨w3, w4⟩ r8'
  obtain ⟨R', t9, b6, b8, b18, e9, l9, q9, v9, k9⟩ := s9 (n := n) (most := most) (off := off) (a6 := a6) (a7 := a7) (a9 := a9) (a11 := some (.own (lows.map .int))) (a12 := some (.val (rdD bo))) (a14 := some (.val (itD lost))) (a16 := some (.val (.list ((thruL many R lost).map .int)))) (a17 := some (.val (rdD main))) k8 (by omega) m1 m2 (by omega) (by omega) (by omega) hpo hrl hrv nb7 nb9 rfl rfl rfl rfl rfl
  obtain ⟨lost', t10, c8, e10, l10, q10, k10⟩ := s10 (n := n) (rows := R'.map itD) (pts := PL.map ptD) (most := most) (off := off) (a6 := b6) (a7 := a7) (a8 := b8) (a9 := a9) (a11 := some (.own (lows.map .int))) (a16 := some (.val (.list ((thruL many R lost).map .int)))) (a17 := some (.val (rdD main))) (a18 := b18) k9 (by omega) m1 m2 l5 q5 l4 q4
  refine ⟨⟨many, PL, main, bo⟩, ⟨R', lost'⟩, t10, ?_, ⟨⟨m1, m2, by show 1 ≤ PL.length; omega, by show PL.length ≤ 8; omega, hpo, q8, l4, q4⟩, ⟨by show R'.length = PL.length; omega, q9, l10⟩, hpr, q8', v9, q10⟩, k10.mono (by omega)⟩
  show runFd (Pyv.run pg (n + 4)) glD ir55 [.stm] s = _
  unfold runFd
  rw [if_pos ⟨rfl, by decide⟩, q55_eq]
  unfold q55
  rw [ss_cons]
  have e0' : evS (Pyv.run pg (n + 4)) glD q55_0 ⟨[W.stm].map some ++ List.replicate (ir55.n - [W.stm].length) none, s⟩ = _ := e0
  rw [e0', th_next, ss_cons, e1, th_next, ss_cons, e2, th_next, ss_cons, e3, th_next, ss_cons, e4, th_next, ss_cons, e5, th_next, ss_cons, e6, th_next, ss_cons, e7, th_next, ss_cons, e8, th_next, ss_cons, e9, th_next, ss_cons, e10, th_next]
  unfold q55_11
  simp [evVar, mkTup, dats, netD, shD]
end
end K
end
/-! ## P33 -/
section
set_option maxRecDepth 100000
set_option maxHeartbeats 4000000
namespace K
open PySem PySem.Spec PyProof.Rows L2 Pyv
section
variable {call : Nat → List W → DS → RF} {gl : List PyData} {c : Cfg} {rd : Bool} {n : Nat} {s : DS}
def q61_0 : Pyv.S := (.asg (.name 4) (.call 58 (.cons (.var 0) (.cons (.var 1) (.cons (.var 2) .nil)))))
def q61_1 : Pyv.S := (.asg (.tup [(.name 5), (.name 6)]) (.call 60 (.cons (.var 0) (.cons (.var 4) .nil))))
def q61_2 : Pyv.S := (.asg (.name 7) (.lst (.cons (.call 22 (.cons (.var 1) (.cons (.var 2) (.cons (.var 4) .nil)))) (.cons (.callK 22 (.cons (.var 5) (.cons (.var 2) (.cons (.var 1) .nil))) [2, 1, 0]) .nil))))
def q61_3 : Pyv.S := (.ifS (.not (.val (.call 40 (.cons (.var 7) (.cons (.lst (.cons (.var 3) (.cons (.and (.var 3) (.not (.var 6))) .nil))) .nil))))) (.cons (.ret (.lit (.bool false))) .nil) .nil)
def q61_4 : Pyv.S := (.asg (.name 8) (.tup (.cons (.blt .tuple (.cons (.lc (.bin .Mult (.tup (.cons (.lit (.int 0)) .nil)) (.blt .len (.cons (.var 10) .nil))) (.tup [(.name 9), (.name 10)]) (.seq (.ix (.var 1) (.lit (.int 1)))) .no [9, 10]) .nil)) (.cons (.bin .Mult (.tup (.cons (.lit (.int 0)) .nil)) (.blt .len (.cons (.ix (.var 1) (.lit (.int 2))) .nil))) .nil))))
def q61_5 : Pyv.S := (.ifS (.not (.val (.call 40 (.cons (.call 22 (.cons (.var 1) (.cons (.var 2) (.cons (.var 8) .nil)))) (.cons (.cmp .Eq (.call 47 (.cons (.var 1) (.cons (.var 2) .nil))) (.tup .nil)) .nil))))) (.cons (.ret (.lit (.bool false))) .nil) .nil)
def q61_6 : Pyv.S := (.asg (.name 11) (.blt .tuple (.cons (.lc (.tup (.cons (.var 9) (.cons (.call 59 (.cons (.var 10) (.cons (.var 12) .nil))) .nil))) (.tup [(.tup [(.name 9), (.name 10)]), (.name 12)]) (.zip (.ix (.var 1) (.lit (.int 1))) (.ix (.var 4) (.lit (.int 0)))) .no [9, 10, 12]) .nil)))
def q61_7 : Pyv.S := (.asg (.name 13) (.tup (.cons (.ix (.var 1) (.lit (.int 0))) (.cons (.var 11) (.cons (.call 59 (.cons (.ix (.var 1) (.lit (.int 2))) (.cons (.ix (.var 4) (.lit (.int 1))) .nil))) (.cons (.ix (.var 1) (.lit (.int 3))) .nil))))))
def q61_8 : Pyv.S := (.asg (.name 14) (.blt .tuple (.cons (.lc (.bin .Mult (.tup (.cons (.lit (.int 0)) .nil)) (.blt .max (.cons (.lit (.int 0)) (.cons (.bin .Sub (.blt .len (.cons (.var 10) .nil)) (.lit (.int 1))) .nil)))) (.tup [(.name 9), (.name 10)]) (.seq (.var 11)) .no [9, 10]) .nil)))
def q61_9 : Pyv.S := (.asg (.name 15) (.call 56 (.cons (.var 0) (.cons (.var 14) .nil))))
def q61_10 : Pyv.S := (.asg (.name 7) (.lst (.cons (.call 33 (.cons (.var 13) (.cons (.var 2) .nil))) (.cons (.call 17 (.cons (.var 13) (.cons (.var 2) .nil))) (.cons (.call 32 (.cons (.var 13) (.cons (.var 15) (.cons (.var 2) .nil)))) (.cons (.ix (.call 7 (.cons (.var 13) .nil)) (.lit (.int 1))) .nil))))))
def q61_11 : Pyv.S := (.asg (.name 16) (.call 45 (.cons (.ix (.var 1) (.lit (.int 2))) (.cons (.call 46 (.cons (.var 1) (.cons (.var 2) .nil))) .nil))))
def q61_12 : Pyv.S := (.ret (.call 40 (.cons (.var 7) (.cons (.lst (.cons (.var 14) (.cons (.var 3) (.cons (.var 3) (.cons (.var 16) .nil))))) .nil))))
def q61 : Ss := (.cons q61_0 (.cons q61_1 (.cons q61_2 (.cons q61_3 (.cons q61_4 (.cons q61_5 (.cons q61_6 (.cons q61_7 (.cons q61_8 (.cons q61_9 (.cons q61_10 (.cons q61_11 (.cons q61_12 .nil)))))))))))))
theorem q61_eq : ir61.body = q61 := rfl

abbrev C61 (x : Net) (y : Sheet) (w : Bool) (a4 a5 a6 a7 a8 a11 a13 a14 a15 a16 : Option W) (s : DS) : Cfg :=
  ⟨[some .stm, some (.val (netD x)), some (.val (shD y)), some (.val (.bool w)), a4, a5, a6, a7, a8, none, none, a11, none, a13, a14, a15, a16], s⟩
theorem like_bools {l : List Bool} (h : l.length ≤ 1000) : Pyv.run pg (n + 2) 40 [.val (.list (l.map .bool)), .val (.list (l.map .bool))] s = .ok (.val (.bool true)) s :=
  like_ok 1 _ (.inr ⟨_, .inr rfl, by simpa using h, fun e he => by
    obtain ⟨b, _, rfl⟩ := List.mem_map.mp he
    exact trivial⟩)
theorem u3 {x : Net} {y : Sheet} {w : Bool} {a4 a5 a8 a11 a13 a14 a15 a16 : Option W} {w' v' : Bool} {off : Bool} (h1 : w' = w) (h2 : v' = (w && !off)) : evS (Pyv.run pg (n + 10)) glD q61_3 (C61 x y w a4 a5 (some (.val (.bool off))) (some (.own [.bool w', .bool v'])) a8 a11 a13 a14 a15 a16 s) = .next (C61 x y w a4 a5 (some (.val (.bool off))) (some (.val (.list [.bool w', .bool v']))) a8 a11 a13 a14 a15 a16 s) := by
  subst h1 h2
  have hl := like_bools (n := n + 8) (s := s) (l := [w', w' && !off]) (by simp)
  unfold q61_3
  cases w' <;> cases off <;> simp at hl <;> simp [evVar, doCall, setR, mkLst, dats, hl]
theorem calm_D {x : Net} : PyData.tuple [.tuple (x.pts.map fun p => .tuple (List.replicate p.reads.length (.int 0))), .tuple (List.replicate x.main.length (.int 0))] = shD (calm x) := by
  simp [shD, calm, itD, Function.comp_def]
theorem u4 {x : Net} {y : Sheet} {w : Bool} {a4 a5 a6 a7 a11 a13 a14 a15 a16 : Option W} (h : NetOk x) : evS (Pyv.run pg (n + 10)) glD q61_4 (C61 x y w a4 a5 a6 a7 none a11 a13 a14 a15 a16 s) = .next (C61 x y w a4 a5 a6 a7 (some (.val (shD (calm x)))) a11 a13 a14 a15 a16 s) := by
  have p2 := h.p2
  have m2 := h.m2
  have hm := rdlen h.main
  unfold q61_4
  simp [evVar, enterC, wipeR, lockW]
  rw [lc_map3 (g := fun p => .tuple (List.replicate p.reads.length (.int 0)))]
  · simp [evVar, mul1 (show x.main.length ≤ 1000 from by omega), mkTup, dats, asgW, asgTg, setR, calm_D]
  · intro p hp
    have hr := rdlen (h.pts p hp).reads
    simp [asgTg, asgTgs, setR, ptD, evVar, mkTup, dats, mul1 (show p.reads.length ≤ 1000 from by omega)]
  · rw [sizeLine_eq]; omega
theorem eq_nilT {l : List PyData} (h : SeqAt.shaped (.tuple l) = true) : cmp2 .Eq (.tuple l) (.tuple []) = some (decide (l = [])) := by
  show (if SeqAt.shaped (.tuple l) = true ∧ SeqAt.shaped (.tuple []) = true then some (PyData.eqv (.tuple l) (.tuple [])) else none) = _
  rw [if_pos ⟨h, by decide +kernel⟩]
  congr 1
  cases l <;> simp [PyData.eqv, PyData.eqvAll]
theorem shaped_isFT {l : List PyData} (h : ∀ d ∈ l, IsF d) : SeqAt.shaped (.tuple l) = true := by
  have key : PyData.canLayAll0 l = true ∧ PyData.depthAll l ≤ 1 := by
    induction l with
    | nil => simp [PyData.canLayAll0, PyData.depthAll]
    | cons d l ih =>
      obtain ⟨h1, h2⟩ := ih fun e he => h e (List.mem_cons_of_mem _ he)
      obtain ⟨h3, h4⟩ := isF_shape (h d (List.mem_cons_self ..))
      simp only [PyData.canLayAll0, PyData.depthAll, h1, h3, Bool.and_self, true_and]
      exact Nat.max_le.mpr ⟨h4, h2⟩
  unfold SeqAt.shaped
  rw [Bool.and_eq_true, decide_eq_true_eq]
  refine ⟨by rw [PyData.canLay0]; exact key.1, ?_⟩
  rw [PyData.depth]; exact Nat.le_trans (Nat.succ_le_succ key.2) (by decide)
theorem srt_nil {l : List PyData} : decide (srt l = []) = decide (l = []) := by
  have : srt l = [] ↔ l = [] := by
    rw [← List.length_eq_zero_iff, List.length_mergeSort, List.length_eq_zero_iff]
  simp [this]
theorem u5 {x : Net} {y : Sheet} {w : Bool} {a4 a5 a6 a7 a11 a13 a14 a15 a16 : Option W} (h : NetOk x) (hy : ShOk x y) : evS (Pyv.run pg (n + 10)) glD q61_5 (C61 x y w a4 a5 a6 a7 (some (.val (shD (calm x)))) a11 a13 a14 a15 a16 s) = .next (C61 x y w a4 a5 a6 a7 (some (.val (shD (calm x)))) a11 a13 a14 a15 a16 s) := by
  have c22 := r22 (n := n + 4) (s := s) h hy (calm_ok (x := x))
  have c47 := r47 (n := n + 8) (s := s) h hy
  have e : decide (behF x y (calm x) = []) = decide (allF x y = []) := by
    rw [decide_eq_decide]; exact calm_beh
  have hs : SeqAt.shaped (.tuple (srt (allF x y))) = true := shaped_isFT fun d hd => allF_isF d (List.mem_mergeSort.mp hd)
  have hl := like_atom (n := n + 9) (k := 0) (s := s) (d := .bool (decide (allF x y = []))) trivial
  unfold q61_5
  simp [evVar, doCall, c22, e, c47, mkTup, dats, eq_nilT hs, srt_nil, hl]
theorem u6 {x : Net} {y ch : Sheet} {w : Bool} {a5 a6 a7 a8 a13 a14 a15 a16 : Option W} (h : NetOk x) : evS (Pyv.run pg (n + 10)) glD q61_6 (C61 x y w (some (.val (shD ch))) a5 a6 a7 a8 none a13 a14 a15 a16 s) = .next (C61 x y w (some (.val (shD ch))) a5 a6 a7 a8 (some (.val (.tuple ((fresh x ch).pts.map ptD)))) a13 a14 a15 a16 s) := by
  have p2 := h.p2
  have m2 := h.m2
  unfold q61_6
  simp [evVar, enterC, wipeR, lockW]
  rw [lc_map3 (g := fun p => ptD (freshP p))]
  · simp [asgW, asgTg, setR, fresh, Function.comp_def]
  · intro p hp
    have hr := rdlen (h.pts _ (List.of_mem_zip hp).1).reads
    have c59 := r59 (n := n + 9) (s := s) (reads := p.1.reads) (row := p.2) (by omega)
    simp [asgTg, asgTgs, setR, ptD, evVar, doCall, c59, mkTup, dats, freshP]
  · rw [sizeLine_eq, List.length_zip]; omega
theorem u7 {x : Net} {y ch : Sheet} {w : Bool} {a5 a6 a7 a8 a14 a15 a16 : Option W} (h : NetOk x) : evS (Pyv.run pg (n + 10)) glD q61_7 (C61 x y w (some (.val (shD ch))) a5 a6 a7 a8 (some (.val (.tuple ((fresh x ch).pts.map ptD)))) none a14 a15 a16 s) = .next (C61 x y w (some (.val (shD ch))) a5 a6 a7 a8 (some (.val (.tuple ((fresh x ch).pts.map ptD)))) (some (.val (netD (fresh x ch)))) a14 a15 a16 s) := by
  have m2 := h.m2
  have hm := rdlen h.main
  have c59 := r59 (n := n + 9) (s := s) (reads := x.main) (row := ch.lost) (by omega)
  unfold q61_7
  simp [evVar, doCall, c59, mkTup, dats, asgW, asgTg, setR]
  rfl
def due (x : Net) : List (List Int) := x.pts.map fun p => List.replicate (nb p.reads).length 0
theorem u8 {x z : Net} {y : Sheet} {w : Bool} {a4 a5 a6 a7 a8 a13 a15 a16 : Option W} (h : NetOk z) : evS (Pyv.run pg (n + 10)) glD q61_8 (C61 x y w a4 a5 a6 a7 a8 (some (.val (.tuple (z.pts.map ptD)))) a13 none a15 a16 s) = .next (C61 x y w a4 a5 a6 a7 a8 (some (.val (.tuple (z.pts.map ptD)))) a13 (some (.val (rowsD (due z)))) a15 a16 s) := by
  have p2 := h.p2
  have m2 := h.m2
  unfold q61_8
  simp [evVar, enterC, wipeR, lockW]
  rw [lc_map3 (g := fun p => .tuple (List.replicate (nb p.reads).length (.int 0)))]
  · simp [asgW, asgTg, setR, rowsD, due, itD, Function.comp_def]
  · intro p hp
    have hr := rdlen (h.pts p hp).reads
    have hn := nb_len (l := p.reads)
    simp [asgTg, asgTgs, setR, ptD, evVar, mkTup, dats, max_nb, mul1 (show (nb p.reads).length ≤ 1000 from by omega)]
  · rw [sizeLine_eq]; omega
end
end K
end
/-! ## P34 -/
section
set_option maxRecDepth 100000
set_option maxHeartbeats 4000000
namespace K
open PySem PySem.Spec PyProof.Rows L2 Pyv
section
variable {call : Nat → List W → DS → RF} {gl : List PyData} {c : Cfg} {rd : Bool} {n : Nat} {s : DS}
theorem ints_like {l : List Int} (h : l.length ≤ 1000) : likeOk 1 (itD l) := .inr ⟨_, .inl rfl, by simpa using h, fun e he => by
  obtain ⟨i, _, rfl⟩ := List.mem_map.mp he
  exact trivial⟩
theorem rows_like {l : List (List Int)} (h : l.length ≤ 1000) (h2 : ∀ r ∈ l, r.length ≤ 1000) : likeOk 2 (rowsD l) := .inr ⟨_, .inl rfl, by simpa using h, fun e he => by
  obtain ⟨r, hr, rfl⟩ := List.mem_map.mp he
  exact ints_like (h2 r hr)⟩
theorem own_lens {x : Net} {y ch : Sheet} (d : DrOk x y) (h : OwnCh x y ch) : ch.uses.length ≤ 100 ∧ (∀ r ∈ ch.uses, r.length ≤ 100) ∧ ch.lost.length ≤ 100 := by
  have hc := own_ok d.sh h
  have p2 := d.net.p2
  have m2 := d.net.m2
  have hm := rdlen d.net.main
  refine ⟨by rw [hc.len]; omega, fun r hr => ?_, by rw [hc.main]; omega⟩
  obtain ⟨i, hi, e⟩ := List.mem_iff_getElem.mp hr
  have hi2 : i < x.pts.length := by rw [← hc.len]; exact hi
  have hz : (x.pts[i], ch.uses[i]) ∈ x.pts.zip ch.uses := List.mem_iff_getElem.mpr ⟨i, by rw [List.length_zip]; omega, by rw [List.getElem_zip]⟩
  have e2 : ch.uses[i].length = x.pts[i].reads.length := hc.rows _ hz
  have hr := rdlen (d.net.pts _ (List.getElem_mem hi2)).reads
  rw [← e, e2]
  omega
theorem db_ok {x : Net} {d : List (List Mk)} (r : All2 (fun (r : List Int) (m : List Mk) => m.length = r.length) (due x) d) : DbOk x d := by
  have hl := r.len
  have e1 : (due x).length = x.pts.length := by simp [due]
  refine ⟨by omega, fun q hq => ?_⟩
  have h1 := enum_mem hq
  obtain ⟨hi, h2⟩ := List.getElem?_eq_some_iff.mp h1
  have hi2 : q.1 < d.length := by omega
  have hz : ((due x)[q.1]'(by omega), d[q.1]) ∈ (due x).zip d := List.mem_iff_getElem.mpr ⟨q.1, by rw [List.length_zip]; omega, by rw [List.getElem_zip]⟩
  have := r.zip _ hz
  have e2 : dAt d q.1 = d[q.1] := by
    unfold dAt
    rw [List.getD_eq_getElem?_getD, List.getElem?_eq_getElem hi2]
    rfl
  rw [e2, this]
  simp [due, h2]
theorem due_lens {x : Net} (h : NetOk x) : (due x).length ≤ 100 ∧ ∀ r ∈ due x, r.length ≤ 100 := by
  have p2 := h.p2
  have m2 := h.m2
  refine ⟨by simp [due]; omega, fun r hr => ?_⟩
  obtain ⟨p, hp, rfl⟩ := List.mem_map.mp hr
  have hr := rdlen (h.pts p hp).reads
  have hn := nb_len (l := p.reads)
  rw [List.length_replicate]
  omega
theorem perm3 {a b c : W} : permL [2, 1, 0] [a, b, c] = some [c, b, a] := rfl
theorem u12 {x : Net} {y : Sheet} {w : Bool} {a4 a5 a6 a8 a11 a13 a15 : Option W} {z : Net} {v : List Int} (hz : NetOk z) (hv : v.length ≤ 100) : ∃ c, evS (Pyv.run pg (n + 10)) glD q61_12 (C61 x y w a4 a5 a6 (some (.own [rowsD (due z), .bool w, .bool w, itD v])) a8 a11 a13 (some (.val (rowsD (due z)))) a15 (some (.val (itD v))) s) = .ret (.val (.bool true)) c ∧ c.s = s := by
  obtain ⟨d1, d2⟩ := due_lens hz
  have hl := like_ok (n := n + 6) (s := s) 3 (.list [rowsD (due z), .bool w, .bool w, itD v]) (.inr ⟨_, .inr rfl, by simp, fun e he => by
    simp at he
    rcases he with rfl | rfl | rfl
    · exact rows_like (by omega) fun r hr => by have := d2 r hr; omega
    · exact .inl trivial
    · exact (ints_like (by omega)).mono⟩)
  unfold q61_12
  refine ⟨C61 x y w a4 a5 a6 (some (.val (.list [rowsD (due z), .bool w, .bool w, itD v]))) a8 a11 a13 (some (.val (rowsD (due z)))) a15 (some (.val (itD v))) s, ?_, rfl⟩
  simp [evVar, doCall, setR, mkLst, dats, hl]
theorem r61 {b : Nat} {x : Net} {y : Sheet} (k : Stk b s) (hb : b + 100000 ≤ Big) (d : DrOk x y) : ∃ (s' : DS), Pyv.run pg (n + 11) 61 [.stm, .val (netD x), .val (shD y), .val (.bool (decide (bndF x y = [])))] s = .ok (.val (.bool true)) s' ∧ Stk (b + 100000) s' := by
  have h := d.net
  have hy := d.sh
  have hm := rdlen h.main
  have m2 := h.m2
  obtain ⟨ch, t0, e0, own, k0⟩ := r58 (n := n + 7) k (by omega) h hy
  obtain ⟨o1, o2, o3⟩ := own_lens d own
  obtain ⟨ch', off, t1, e1, bent, k1⟩ := r60 (n := n + 7) (ch := ch) k0 (by omega) o1 o2 o3
  have hc := own_ok hy own
  have hc' := bent_ok hc bent
  have fo := fresh_ok d own
  have fs := fresh_sh hy own.len
  have c22 := r22 (n := n + 4) (s := t1) h hy hc
  have c22' := r22 (n := n + 4) (s := t1) h hy hc'
  obtain ⟨dl1, dl2⟩ := due_lens fo
  obtain ⟨db, t2, e2, rdb, k2⟩ := r56 (n := n + 7) (rows := due (fresh x ch)) k1 (by omega) dl1 dl2
  have dbo := db_ok rdb
  have c33 := r33 (n := n + 4) (s := t2) fo fs
  have c17 := r17 (n := n + 4) (s := t2) fo fs
  have c32 := r32 (n := n + 3) (s := t2) fo fs dbo
  have c7 := r7 (n := n + 4) (s := t2) fo
  have c46 := r46 (n := n + 9) (s := t2) h hy
  have c45 := r45 (n := n + 9) (s := t2) (b := false) (reads := x.main) (row := thru x y) (by omega)
  have e45 : sqD false (thru x y) = .list ((thru x y).map .int) := rfl
  rw [e45] at c45
  generalize hw : decide (bndF x y = []) = w at *
  have w1 : decide (behF x y ch = []) = w := by rw [← hw, decide_eq_decide]; exact own_beh hy own
  have w2 : decide (behF x y ch' = []) = (w && !off) := by
    rw [← hw]
    have := bent_beh hy own bent
    cases off <;> by_cases z : bndF x y = [] <;> simp [z] at this ⊢ <;> simp [this]
  have w3 : decide (allF (fresh x ch) y = []) = w := by rw [← hw, decide_eq_decide]; exact fresh_all hy own
  have w4 : srv (fresh x ch) db y = w := by rw [fresh_srv hy own, hw]
  have w5 : hid (fresh x ch) y = due (fresh x ch) := fresh_hid hy own
  have w6 : amts (fresh x ch).main = gapS x.main (thru x y) := (fresh_main own).2
  have t0' : evS (Pyv.run pg (n + 10)) glD q61_0 (C61 x y w none none none none none none none none none none s) = .next (C61 x y w (some (.val (shD ch))) none none none none none none none none none t0) := by
    unfold q61_0
    simp [evVar, doCall, e0, asgW, asgTg, setR]
  have t1' : evS (Pyv.run pg (n + 10)) glD q61_1 (C61 x y w (some (.val (shD ch))) none none none none none none none none none t0) = .next (C61 x y w (some (.val (shD ch))) (some (.val (shD ch'))) (some (.val (.bool off))) none none none none none none none t1) := by
    unfold q61_1
    simp [evVar, doCall, e1, asgW, asgTg, asgTgs, setR]
  have t2' : evS (Pyv.run pg (n + 10)) glD q61_2 (C61 x y w (some (.val (shD ch))) (some (.val (shD ch'))) (some (.val (.bool off))) none none none none none none none t1) = .next (C61 x y w (some (.val (shD ch))) (some (.val (shD ch'))) (some (.val (.bool off))) (some (.own [.bool (decide (behF x y ch = [])), .bool (decide (behF x y ch' = []))])) none none none none none none t1) := by
    unfold q61_2
    simp [evVar, doCall, c22, c22', perm3, mkLst, dats, asgW, asgTg, setR]
  have t9' : ∀ a7 a8, evS (Pyv.run pg (n + 10)) glD q61_9 (C61 x y w (some (.val (shD ch))) (some (.val (shD ch'))) (some (.val (.bool off))) a7 a8 (some (.val (.tuple ((fresh x ch).pts.map ptD)))) (some (.val (netD (fresh x ch)))) (some (.val (rowsD (due (fresh x ch))))) none none t1) = .next (C61 x y w (some (.val (shD ch))) (some (.val (shD ch'))) (some (.val (.bool off))) a7 a8 (some (.val (.tuple ((fresh x ch).pts.map ptD)))) (some (.val (netD (fresh x ch)))) (some (.val (rowsD (due (fresh x ch))))) (some (.val (dbD db))) none t2) := by
    intro a7 a8
    unfold q61_9
    simp [evVar, doCall, e2, asgW, asgTg, setR]
  have t10' : ∀ a7 a8, evS (Pyv.run pg (n + 10)) glD q61_10 (C61 x y w (some (.val (shD ch))) (some (.val (shD ch'))) (some (.val (.bool off))) a7 a8 (some (.val (.tuple ((fresh x ch).pts.map ptD)))) (some (.val (netD (fresh x ch)))) (some (.val (rowsD (due (fresh x ch))))) (some (.val (dbD db))) none t2) = .next (C61 x y w (some (.val (shD ch))) (some (.val (shD ch'))) (some (.val (.bool off))) (some (.own [rowsD (due (fresh x ch)), .bool w, .bool w, itD (gapS x.main (thru x y))])) a8 (some (.val (.tuple ((fresh x ch).pts.map ptD)))) (some (.val (netD (fresh x ch)))) (some (.val (rowsD (due (fresh x ch))))) (some (.val (dbD db))) none t2) := by
    intro a7 a8
    unfold q61_10
    simp [evVar, doCall, c33, c17, c32, c7, w3, w4, w5, w6, mkLst, dats, asgW, asgTg, setR]
  have t11' : ∀ a7 a8, evS (Pyv.run pg (n + 10)) glD q61_11 (C61 x y w (some (.val (shD ch))) (some (.val (shD ch'))) (some (.val (.bool off))) a7 a8 (some (.val (.tuple ((fresh x ch).pts.map ptD)))) (some (.val (netD (fresh x ch)))) (some (.val (rowsD (due (fresh x ch))))) (some (.val (dbD db))) none t2) = .next (C61 x y w (some (.val (shD ch))) (some (.val (shD ch'))) (some (.val (.bool off))) a7 a8 (some (.val (.tuple ((fresh x ch).pts.map ptD)))) (some (.val (netD (fresh x ch)))) (some (.val (rowsD (due (fresh x ch))))) (some (.val (dbD db))) (some (.val (itD (gapS x.main (thru x y))))) t2) := by
    intro a7 a8
    unfold q61_11
    simp [evVar, doCall, c46, c45, asgW, asgTg, setR]
  obtain ⟨cf, t12', hcf⟩ := u12 (n := n) (s := t2) (x := x) (y := y) (w := w) (a4 := some (.val (shD ch))) (a5 := some (.val (shD ch'))) (a6 := some (.val (.bool off))) (a8 := some (.val (shD (calm x)))) (a11 := some (.val (.tuple ((fresh x ch).pts.map ptD)))) (a13 := some (.val (netD (fresh x ch)))) (a15 := some (.val (dbD db))) (v := gapS x.main (thru x y)) fo (by have := nb_len (l := x.main); rw [gapS_len]; omega)
  refine ⟨t2, ?_, k2.mono (by omega)⟩
  show runFd (Pyv.run pg (n + 10)) glD ir61 [.stm, .val (netD x), .val (shD y), .val (.bool w)] s = _
  unfold runFd
  rw [if_pos ⟨rfl, by decide⟩, q61_eq]
  unfold q61
  rw [ss_cons]
  have t0'' : evS (Pyv.run pg (n + 10)) glD q61_0 ⟨[W.stm, .val (netD x), .val (shD y), .val (.bool w)].map some ++ List.replicate (ir61.n - [W.stm, .val (netD x), .val (shD y), .val (.bool w)].length) none, s⟩ = _ := t0'
  rw [t0'', th_next, ss_cons, t1', th_next, ss_cons, t2', th_next, ss_cons, u3 w1 w2, th_next, ss_cons, u4 h, th_next, ss_cons, u5 h hy, th_next, ss_cons, u6 h, th_next, ss_cons, u7 h, th_next, ss_cons, u8 fo, th_next, ss_cons, t9', th_next, ss_cons, t10', th_next, ss_cons, t11', th_next, ss_cons, t12', th_ret]
  simp [hcf]
end
end K
end
/-! ## P35 -/
section
set_option maxRecDepth 100000
set_option maxHeartbeats 4000000
namespace K
open PySem PySem.Spec PyProof.Rows L2 Pyv
section
variable {call : Nat → List W → DS → RF} {gl : List PyData} {c : Cfg} {rd : Bool} {n : Nat} {s : DS}
def v0 : Pyv.S := (.asg (.tup [(.name 3), (.name 4)]) (.call 55 (.cons (.var 1) .nil)))
def v1 : Pyv.S := (.par [5, 6] (.cons (.call 48 (.cons (.var 3) (.cons (.var 4) .nil))) (.cons (.call 47 (.cons (.var 3) (.cons (.var 4) .nil))) .nil)))
def v2 : Pyv.S := (.ifS (.not (.val (.call 40 (.cons (.lst (.cons (.call 33 (.cons (.var 3) (.cons (.var 4) .nil))) (.cons (.call 16 (.cons (.var 3) (.cons (.var 4) .nil))) (.cons (.call 17 (.cons (.var 3) (.cons (.var 4) .nil))) .nil)))) (.cons (.lst (.cons (.var 5) (.cons (.var 6) (.cons (.cmp .Eq (.var 6) (.tup .nil)) .nil)))) .nil))))) (.cons (.ret (.lit (.bool false))) .nil) .nil)
def v3b_0 : Pyv.S := (.asg (.name 8) (.call 56 (.cons (.var 1) (.cons (.var 5) .nil))))
def v3b_1 : Pyv.S := (.ifS (.not (.val (.call 40 (.cons (.lst (.cons (.call 25 (.cons (.var 3) (.cons (.var 8) .nil))) (.cons (.call 32 (.cons (.var 3) (.cons (.var 8) (.cons (.var 4) .nil)))) .nil))) (.cons (.lst (.cons (.var 8) (.cons (.call 50 (.cons (.var 3) (.cons (.var 8) (.cons (.var 4) .nil)))) .nil))) .nil))))) (.cons (.ret (.lit (.bool false))) .nil) .nil)
def v3b : Ss := (.cons v3b_0 (.cons v3b_1 .nil))
def v3 : Pyv.S := (.forS (.name 7) (.rng1 (.lit (.int 2))) v3b)
def v4 : Pyv.S := (.asg (.name 9) (.blt .tuple (.cons (.lc (.var 10) (.name 10) (.rng1 (.blt .len (.cons (.ix (.var 3) (.lit (.int 1))) .nil))) (.yes (.val (.cmp .Eq (.call 36 (.cons (.var 1) (.cons (.lit (.int 2)) .nil))) (.lit (.int 0))))) [10]) .nil)))
def v5 : Pyv.S := (.asg (.name 8) (.call 52 (.cons (.var 3) (.cons (.lc (.var 11) (.name 11) (.seq (.call 51 (.cons (.var 3) .nil))) (.yes (.val (.cmp .In (.ix (.var 11) (.lit (.int 0))) (.var 9)))) [11]) (.cons (.lit (.str "less")) .nil)))))
def v6 : Pyv.S := (.ifS (.not (.val (.call 40 (.cons (.lst (.cons (.call 28 (.cons (.var 3) (.cons (.var 9) .nil))) (.cons (.call 32 (.cons (.var 3) (.cons (.var 8) (.cons (.var 4) .nil)))) .nil))) (.cons (.lst (.cons (.var 8) (.cons (.call 50 (.cons (.var 3) (.cons (.var 8) (.cons (.var 4) .nil)))) .nil))) .nil))))) (.cons (.ret (.lit (.bool false))) .nil) .nil)
def v7 : Pyv.S := (.ifS (.not (.val (.call 61 (.cons (.var 1) (.cons (.var 3) (.cons (.var 4) (.cons (.cmp .Eq (.lc (.var 11) (.name 11) (.seq (.var 6)) (.yes (.val (.cmp .In (.ix (.var 11) (.lit (.int 0))) (.tup (.cons (.lit (.str "cap")) (.cons (.lit (.str "loss")) .nil)))))) [11]) (.lst .nil)) .nil))))))) (.cons (.ret (.lit (.bool false))) .nil) .nil)
def vb : Ss := (.cons v0 (.cons v1 (.cons v2 (.cons v3 (.cons v4 (.cons v5 (.cons v6 (.cons v7 .nil))))))))
def vL : Ss := (.cons (.forS (.name 2) (.rng1 (.lit (.int 3))) vb) (.cons (.ret (.lit (.bool true))) .nil))
theorem vL_eq : irLaw = vL := rfl
abbrev CL (a2 a3 a4 a5 a6 a7 a8 a9 : Option W) (s : DS) : Cfg := ⟨[none, some .stm, a2, a3, a4, a5, a6, a7, a8, a9, none, none], s⟩
theorem isF_like {d : PyData} (h : IsF d) : likeOk 1 d := by
  have o1 := ok_cap
  have o2 := ok_gap
  have o3 := ok_loss
  have o4 := ok_main
  cases h
  · exact .inr ⟨_, .inl rfl, by simp, fun e he => by simp at he; rcases he with rfl | rfl | rfl <;> first | exact o1 | exact trivial⟩
  · exact .inr ⟨_, .inl rfl, by simp, fun e he => by simp at he; rcases he with rfl | rfl | rfl <;> first | exact o2 | exact trivial⟩
  · exact .inr ⟨_, .inl rfl, by simp, fun e he => by simp at he; rcases he with rfl | rfl <;> first | exact o3 | exact trivial⟩
  · exact .inr ⟨_, .inl rfl, by simp, fun e he => by simp at he; rcases he with rfl | rfl <;> first | exact o4 | exact trivial⟩
theorem srt_like {x : Net} {y : Sheet} (h : NetOk x) : likeOk 2 (.tuple (srt (allF x y))) := .inr ⟨_, .inl rfl, by rw [List.length_mergeSort]; have := allF_len (y := y) h; omega, fun e he => isF_like (allF_isF e (List.mem_mergeSort.mp he))⟩
theorem hid_lens {x : Net} {y : Sheet} (h : NetOk x) (hy : ShOk x y) : (hid x y).length ≤ 100 ∧ ∀ r ∈ hid x y, r.length ≤ 100 := by
  have p2 := h.p2
  have hu := hy.ulen
  refine ⟨by simp [hid]; omega, fun r hr => by have := hid_row h hr; omega⟩
theorem mk_like {l : List Mk} (h : l.length ≤ 1000) : likeOk 1 (mksD l) := .inr ⟨_, .inl rfl, by simpa using h, fun e he => by
  obtain ⟨k, _, rfl⟩ := List.mem_map.mp he
  cases k
  · show PyData.strOk _ = true; decide +kernel
  · show PyData.strOk _ = true; decide +kernel
  · show PyData.strOk _ = true; decide +kernel⟩
theorem db_like {x : Net} {d : List (List Mk)} (h : NetOk x) (hd : DbOk x d) : likeOk 2 (dbD d) := by
  have p2 := h.p2
  have m2 := h.m2
  refine .inr ⟨_, .inl rfl, by rw [List.length_map, hd.len]; omega, fun e he => ?_⟩
  obtain ⟨l, hl, rfl⟩ := List.mem_map.mp he
  obtain ⟨i, hi, e⟩ := List.mem_iff_getElem.mp hl
  have hi2 : i < x.pts.length := by rw [← hd.len]; exact hi
  have := hd.rows _ (enum_at hi2)
  have hr := rdlen (h.pts _ (List.getElem_mem hi2)).reads
  have hn := nb_len (l := x.pts[i].reads)
  have e2 : dAt d i = d[i] := by
    unfold dAt
    rw [List.getD_eq_getElem?_getD, List.getElem?_eq_getElem hi]
    rfl
  have this : (dAt d i).length = (nb x.pts[i].reads).length := this
  rw [e2, e] at this
  exact mk_like (by omega)
theorem db_hid {x : Net} {y : Sheet} {d : List (List Mk)} (hy : ShOk x y) (r : All2 (fun (r : List Int) (m : List Mk) => m.length = r.length) (hid x y) d) : DbOk x d := by
  have hl := r.len
  have hu := hy.ulen
  have e1 : (hid x y).length = x.pts.length := by simp [hid]; omega
  refine ⟨by omega, fun q hq => ?_⟩
  have h1 := enum_mem hq
  obtain ⟨hi, h2⟩ := List.getElem?_eq_some_iff.mp h1
  have hi2 : q.1 < d.length := by omega
  have hz : ((hid x y)[q.1]'(by omega), d[q.1]) ∈ (hid x y).zip d := List.mem_iff_getElem.mpr ⟨q.1, by rw [List.length_zip]; omega, by rw [List.getElem_zip]⟩
  have := r.zip _ hz
  have e2 : dAt d q.1 = d[q.1] := by
    unfold dAt
    rw [List.getD_eq_getElem?_getD, List.getElem?_eq_getElem hi2]
    rfl
  rw [e2, this]
  simp [hid, hidRow, h2]
theorem w0 {b : Nat} {a2 a3 a4 a5 a6 a7 a8 a9 : Option W} (k : Stk b s) (hb : b + 100000 ≤ Big) : ∃ (x : Net) (y : Sheet) (s' : DS), evS (Pyv.run pg (n + 11)) glD v0 (CL a2 a3 a4 a5 a6 a7 a8 a9 s) = .next (CL a2 (some (.val (netD x))) (some (.val (shD y))) a5 a6 a7 a8 a9 s') ∧ DrOk x y ∧ Stk (b + 100000) s' := by
  obtain ⟨x, y, s', e, d, k'⟩ := r55 (n := n + 6) k hb
  refine ⟨x, y, s', ?_, d, k'⟩
  unfold v0
  simp [evVar, doCall, e, asgW, asgTg, asgTgs, setR]
theorem w1 {x : Net} {y : Sheet} {a2 a5 a6 a7 a8 a9 : Option W} (h : NetOk x) (hy : ShOk x y) : evS (Pyv.run pg (n + 11)) glD v1 (CL a2 (some (.val (netD x))) (some (.val (shD y))) a5 a6 a7 a8 a9 s) = .next (CL a2 (some (.val (netD x))) (some (.val (shD y))) (some (.val (rowsD (hid x y)))) (some (.val (.tuple (srt (allF x y))))) a7 a8 a9 s) := by
  have c48 := r48 (n := n + 9) (s := s) (y := y) h
  have c47 := r47 (n := n + 9) (s := s) h hy
  unfold v1
  simp [evVar, doCall, c48, c47, asgs, asgW, asgTg, setR]
theorem w2 {x : Net} {y : Sheet} {a2 a7 a8 a9 : Option W} (h : NetOk x) (hy : ShOk x y) : evS (Pyv.run pg (n + 11)) glD v2 (CL a2 (some (.val (netD x))) (some (.val (shD y))) (some (.val (rowsD (hid x y)))) (some (.val (.tuple (srt (allF x y))))) a7 a8 a9 s) = .next (CL a2 (some (.val (netD x))) (some (.val (shD y))) (some (.val (rowsD (hid x y)))) (some (.val (.tuple (srt (allF x y))))) a7 a8 a9 s) := by
  have c33 := r33 (n := n + 5) (s := s) h hy
  have c16 := r16 (n := n + 5) (s := s) h hy
  have c17 := r17 (n := n + 5) (s := s) h hy
  obtain ⟨d1, d2⟩ := hid_lens h hy
  have hl := like_ok (n := n + 7) (s := s) 3 (.list [rowsD (hid x y), .tuple (srt (allF x y)), .bool (decide (allF x y = []))]) (.inr ⟨_, .inr rfl, by simp, fun e he => by
    simp at he
    rcases he with rfl | rfl | rfl
    · exact rows_like (by omega) fun r hr => by have := d2 r hr; omega
    · exact srt_like h
    · exact .inl trivial⟩)
  have hs : SeqAt.shaped (.tuple (srt (allF x y))) = true := shaped_isFT fun d hd => allF_isF d (List.mem_mergeSort.mp hd)
  unfold v2
  simp [evVar, doCall, c33, c16, c17, mkLst, mkTup, dats, eq_nilT hs, srt_nil, hl]
theorem w3 {b : Nat} {x : Net} {y : Sheet} {a2 a6 a7 a8 a9 : Option W} (k : Stk b s) (hb : b + 200000 ≤ Big) (h : NetOk x) (hy : ShOk x y) : ∃ (a7' a8' : Option W) (s' : DS), evS (Pyv.run pg (n + 11)) glD v3 (CL a2 (some (.val (netD x))) (some (.val (shD y))) (some (.val (rowsD (hid x y)))) a6 a7 a8 a9 s) = .next (CL a2 (some (.val (netD x))) (some (.val (shD y))) (some (.val (rowsD (hid x y)))) a6 a7' a8' a9 s') ∧ Stk (b + 100000) s' := by
  obtain ⟨d1, d2⟩ := hid_lens h hy
  have er : rangeL 0 2 = (List.range 2).map fun i => PyData.int (i : Nat) := by
    have := rangeL_nat (m := 2)
    exact this
  have f2 : fitsI 2 = true := fitsI_nat (m := 2) (by omega)
  have hE : evS (Pyv.run pg (n + 11)) glD v3 (CL a2 (some (.val (netD x))) (some (.val (shD y))) (some (.val (rowsD (hid x y)))) a6 a7 a8 a9 s) = forLoop (.name 7) (evSs (Pyv.run pg (n + 11)) glD v3b) ((List.range 2).map fun i => PyData.int (i : Nat)) (CL a2 (some (.val (netD x))) (some (.val (shD y))) (some (.val (rowsD (hid x y)))) a6 a7 a8 a9 s) := by
    unfold v3
    simp only [s_for, src_rng, e_lit, b_ok, op1_val, ai_int, ofO_some, f2, if_true, o_ok, er]
  rw [hE]
  generalize hF : forLoop _ _ _ _ = o
  obtain ⟨acc, s2, c', rfl, r2, k2, a7', a8', rfl⟩ := dr_use hF (fun (_ : List Unit) s c => ∃ a7 a8, c = CL a2 (some (.val (netD x))) (some (.val (shD y))) (some (.val (rowsD (hid x y)))) a6 a7 a8 a9 s) (fun (_ : Nat) (_ : Unit) => True) 40000 50 (acc := []) (b := b) (s := s)
    (fun i hi acc b s c k hb hl ⟨a7, a8, e⟩ => by
      subst e
      refine ⟨_, rfl, ?_⟩
      obtain ⟨d, s1, e1, r1, k1⟩ := r56 (n := n + 8) (rows := hid x y) k (by omega) d1 d2
      have hd := db_hid hy r1
      have c25 := r25 (n := n + 5) (s := s1) h hd
      have c32 := r32 (n := n + 4) (s := s1) h hy hd
      have c50 := r50 (n := n + 7) (s := s1) (d := d) h hy
      have hl := like_ok (n := n + 7) (s := s1) 3 (.list [dbD d, .bool (srv x d y)]) (.inr ⟨_, .inr rfl, by simp, fun e he => by
        simp at he
        rcases he with rfl | rfl
        · exact db_like h hd
        · exact .inl trivial⟩)
      refine ⟨(), s1, CL a2 (some (.val (netD x))) (some (.val (shD y))) (some (.val (rowsD (hid x y)))) a6 (some (.val (.int (i : Nat)))) (some (.val (dbD d))) a9 s1, ?_, trivial, k1, _, _, rfl⟩
      unfold v3b v3b_0 v3b_1
      simp [evVar, setR, doCall, e1, asgW, asgTg, c25, c32, c50, mkLst, dats, hl])
    k (by rw [List.length_range]; omega) (by rw [List.length_range, List.length_nil]; omega) ⟨_, _, rfl⟩
  exact ⟨a7', a8', s2, rfl, k2.mono (by rw [List.length_range]; omega)⟩
end
end K
end
/-! ## P36 -/
section
set_option maxRecDepth 100000
set_option maxHeartbeats 4000000
namespace K
open PySem PySem.Spec PyProof.Rows L2 Pyv
section
variable {call : Nat → List W → DS → RF} {gl : List PyData} {c : Cfg} {rd : Bool} {n : Nat} {s : DS}
theorem ascL_of {many : Nat} : ∀ {l : List Nat}, l.Pairwise (· < ·) → (∀ a ∈ l, a < many) → ascL many l
  | [], _, _ => trivial
  | [a], _, h => h a (List.mem_cons_self ..)
  | a :: b :: r, hp, h => by
    rw [List.pairwise_cons] at hp
    exact ⟨hp.1 b (List.mem_cons_self ..), ascL_of hp.2 fun z hz => h z (List.mem_cons_of_mem _ hz)⟩
theorem w4 {b : Nat} {x : Net} {a2 a4 a5 a6 a7 a8 a9 : Option W} (k : Stk b s) (hb : b + 1000 ≤ Big) (h : NetOk x) : ∃ (l : List Nat) (s' : DS), evS (Pyv.run pg (n + 11)) glD v4 (CL a2 (some (.val (netD x))) a4 a5 a6 a7 a8 a9 s) = .next (CL a2 (some (.val (netD x))) a4 a5 a6 a7 a8 (some (.val (npD l))) s') ∧ ascL x.pts.length l ∧ Stk (b + 100) s' := by
  have p2 := h.p2
  have f1 : fitsI (x.pts.length : Int) = true := fitsI_nat (by omega)
  obtain ⟨ys, s2, e2, r2, k2⟩ := lc_sub (F := lcB (Pyv.run pg (n + 11)) glD (.var 10) (.name 10) (.yes (.val (.cmp .Eq (.call 36 (.cons (.var 1) (.cons (.lit (.int 2)) .nil))) (.lit (.int 0)))))) (e := fun i : Nat => .int (i : Nat)) 1
    (ρ0 := (CL a2 (some (.val (netD x))) a4 a5 a6 a7 a8 a9 s).ρ) (ρ1 := (enterC (CL a2 (some (.val (netD x))) a4 a5 a6 a7 a8 a9 s) [10]).ρ) (List.range x.pts.length)
    (fun i hi b s k hb => by
      obtain ⟨v, s1, e1, hv, k1⟩ := draw (n := n + 10) (lim := 2) k (by omega) (by omega) (by omega)
      refine ⟨decide (v = 0), s1, ?_, k1⟩
      by_cases v0 : v = 0
      · subst v0
        simp [enterC, wipeR, lockW, asgTg, setR, evVar, doCall, e1]
      · simp [enterC, wipeR, lockW, asgTg, setR, evVar, doCall, e1, v0]) k (by rw [List.length_range]; omega) (by rw [List.length_range]; omega)
  refine ⟨ys, s2, ?_, ascL_of (List.Pairwise.sublist r2 (range_asc _)) (fun a ha => List.mem_range.mp (r2.mem ha)), k2.mono (by rw [List.length_range]; omega)⟩
  unfold v4
  simp [enterC, wipeR, lockW] at e2
  simp [evVar, f1, rangeL_nat, enterC, wipeR, lockW, e2, asgW, asgTg, setR, npD]
theorem pn0 {p : Nat × Nat} : ix2 (pnD p) (.int 0) = some (.val (.int (p.1 : Nat))) := by simp [pnD]
theorem w5 {x : Net} {l : List Nat} {a2 a4 a5 a6 a7 a8 : Option W} (h : NetOk x) : evS (Pyv.run pg (n + 11)) glD v5 (CL a2 (some (.val (netD x))) a4 a5 a6 a7 a8 (some (.val (npD l))) s) = .next (CL a2 (some (.val (netD x))) a4 a5 a6 a7 (some (.val (dbD (marksOf x l)))) (some (.val (npD l))) s) := by
  have hg := gapsN_len h
  have c51 := r51 (n := n + 10) (s := s) h
  have c52 := r52 (n := n + 10) (s := s) (l := l) h
  unfold v5
  simp [evVar, doCall, c51, enterC, wipeR, lockW]
  rw [lc_if3 (p := fun p => decide (p.1 ∈ l)) (g := pnD)]
  · rw [fl_filter]
    simp [evVar, c52, asgW, asgTg, setR]
  · intro p hp
    by_cases z : p.1 ∈ l <;> simp [asgTg, setR, evVar, pn0, in_nat, z]
  · rw [sizeLine_eq]; omega
theorem marks_ok {x : Net} {l : List Nat} : DbOk x (marksOf x l) := by
  refine ⟨by simp [marksOf, enum_len], fun q hq => ?_⟩
  have h1 := enum_mem hq
  have e : (enum x.pts)[q.1]? = some (q.1, q.2) := by
    obtain ⟨hi, h2⟩ := List.getElem?_eq_some_iff.mp h1
    unfold enum
    rw [List.getElem?_eq_getElem (by rw [List.length_zip, List.length_range]; omega), List.getElem_zip, List.getElem_range, h2]
  unfold dAt marksOf
  rw [List.getD_eq_getElem?_getD, List.getElem?_map, e]
  simp
theorem w6 {x : Net} {y : Sheet} {l : List Nat} {a2 a5 a6 a7 : Option W} (h : NetOk x) (hy : ShOk x y) (hl : ascL x.pts.length l) : evS (Pyv.run pg (n + 11)) glD v6 (CL a2 (some (.val (netD x))) (some (.val (shD y))) a5 a6 a7 (some (.val (dbD (marksOf x l)))) (some (.val (npD l))) s) = .next (CL a2 (some (.val (netD x))) (some (.val (shD y))) a5 a6 a7 (some (.val (dbD (marksOf x l)))) (some (.val (npD l))) s) := by
  have hd := marks_ok (x := x) (l := l)
  have c28 := r28 (n := n + 5) (s := s) h hl
  have c32 := r32 (n := n + 4) (s := s) h hy hd
  have c50 := r50 (n := n + 7) (s := s) (d := marksOf x l) h hy
  have hl := like_ok (n := n + 7) (s := s) 3 (.list [dbD (marksOf x l), .bool (srv x (marksOf x l) y)]) (.inr ⟨_, .inr rfl, by simp, fun e he => by
    simp at he
    rcases he with rfl | rfl
    · exact db_like h hd
    · exact .inl trivial⟩)
  unfold v6
  simp [evVar, doCall, c28, c32, c50, mkLst, dats, hl]
def isCL (d : PyData) : Bool := decide (headS d = Str.ofString "cap") || decide (headS d = Str.ofString "loss")
theorem cl_cap {a b : Nat} : isCL (capF a b) = true := by
  show (decide (Str.ofString "cap" = Str.ofString "cap") || _) = true
  simp
theorem cl_gap {a b : Nat} : isCL (gapF a b) = false := by
  show (decide (Str.ofString "gap" = Str.ofString "cap") || decide (Str.ofString "gap" = Str.ofString "loss")) = false
  decide +kernel
theorem cl_loss {a : Nat} : isCL (lossF a) = true := by
  show (decide (Str.ofString "loss" = Str.ofString "cap") || decide (Str.ofString "loss" = Str.ofString "loss")) = true
  simp
theorem cl_main {a : Nat} : isCL (mainF a) = false := by
  show (decide (Str.ofString "main" = Str.ofString "cap") || decide (Str.ofString "main" = Str.ofString "loss")) = false
  decide +kernel
theorem cl_iff {x : Net} {y : Sheet} : ((srt (allF x y)).flatMap fun d => if isCL d = true then [d] else []) = [] ↔ bndF x y = [] := by
  rw [filter_nil]
  constructor
  · intro h
    cases e : bndF x y with
    | nil => rfl
    | cons d r =>
      have hd : d ∈ bndF x y := by rw [e]; exact List.mem_cons_self ..
      have z := h d (List.mem_mergeSort.mpr (List.mem_append_left _ hd))
      unfold bndF at hd
      rcases List.mem_append.mp hd with hd | hd
      · obtain ⟨q, _, hd⟩ := List.mem_flatMap.mp hd
        obtain ⟨i, _, hd⟩ := List.mem_flatMap.mp hd
        unfold capOne at hd
        split at hd
        · cases hd
        · rw [List.mem_singleton] at hd; subst hd; rw [cl_cap] at z; cases z
      · obtain ⟨i, _, hd⟩ := List.mem_flatMap.mp hd
        unfold lossOne at hd
        split at hd
        · cases hd
        · rw [List.mem_singleton] at hd; subst hd; rw [cl_loss] at z; cases z
  · intro h d hd
    have hd := List.mem_mergeSort.mp hd
    unfold allF at hd
    rw [h, List.nil_append] at hd
    unfold gpF at hd
    rcases List.mem_append.mp hd with hd | hd
    · obtain ⟨q, _, hd⟩ := List.mem_flatMap.mp hd
      obtain ⟨i, _, hd⟩ := List.mem_flatMap.mp hd
      unfold gapOne at hd
      split at hd
      · cases hd
      · rw [List.mem_singleton] at hd; subst hd; exact cl_gap
    · obtain ⟨i, _, hd⟩ := List.mem_flatMap.mp hd
      unfold mainOne at hd
      split at hd
      · cases hd
      · rw [List.mem_singleton] at hd; subst hd; exact cl_main
theorem in_cl {d : PyData} {z : Str} (h : IsF d) (e : headS d = z) : cmp2 .In (.str z) (.tuple [.str "cap", .str "loss"]) = some (isCL d) := by
  subst e
  cases h
  · rw [cl_cap]; rfl
  · rw [cl_gap]; rfl
  · rw [cl_loss]; rfl
  · rw [cl_main]; rfl
theorem w7 {b : Nat} {x : Net} {y : Sheet} {a2 a5 a7 a8 a9 : Option W} (k : Stk b s) (hb : b + 100000 ≤ Big) (d : DrOk x y) : ∃ s', evS (Pyv.run pg (n + 11)) glD v7 (CL a2 (some (.val (netD x))) (some (.val (shD y))) a5 (some (.val (.tuple (srt (allF x y))))) a7 a8 a9 s) = .next (CL a2 (some (.val (netD x))) (some (.val (shD y))) a5 (some (.val (.tuple (srt (allF x y))))) a7 a8 a9 s') ∧ Stk (b + 100000) s' := by
  obtain ⟨s', e, k'⟩ := r61 (n := n) k hb d
  have ha := allF_len (y := y) d.net
  refine ⟨s', ?_, k'⟩
  unfold v7
  simp [evVar, enterC, wipeR, lockW]
  rw [lc_ifI (p := isCL) (g := fun d => d)]
  · have hs : SeqAt.shaped (.list ((srt (allF x y)).flatMap fun d => if isCL d = true then [d] else [])) = true := by
      refine shaped_isF fun d hd => ?_
      obtain ⟨e, he, hd⟩ := List.mem_flatMap.mp hd
      split at hd
      · rw [List.mem_singleton] at hd; subst hd; exact allF_isF _ (List.mem_mergeSort.mp he)
      · cases hd
    have hq := eq_nilL hs
    have hi := cl_iff (x := x) (y := y)
    rw [show decide (bndF x y = []) = decide (((srt (allF x y)).flatMap fun d => if isCL d = true then [d] else []) = []) from by rw [decide_eq_decide]; exact hi.symm] at e
    generalize ((srt (allF x y)).flatMap fun d => if isCL d = true then [d] else []) = z at *
    simp [mkLst, dats, hq, doCall, e]
  · intro d hd
    have hF := allF_isF _ (List.mem_mergeSort.mp hd)
    obtain ⟨z, z1, z2, z3⟩ := isF_head hF
    have z4 := in_cl hF z3
    cases e : isCL d with
    | true =>
      rw [e] at z4
      simp [asgTg, setR, evVar, z2, mkTup, dats, z4]
    | false =>
      rw [e] at z4
      simp [asgTg, setR, evVar, z2, mkTup, dats, z4]
  · rw [sizeLine_eq, List.length_mergeSort]; omega
theorem plainLaw : ∀ s : DS, cellsOk s = true → s.spot = 0 → s.great.length ≤ 1000 → ∃ c, evSs (Pyv.run pg (n + 11)) glD irLaw ⟨[none, some .stm] ++ List.replicate 10 none, s⟩ = .ret (.val (.bool true)) c := by
  intro s h1 h2 h3
  have k : Stk 0 s := ⟨h1, h3, by omega⟩
  have er : rangeL 0 3 = (List.range 3).map fun i => PyData.int (i : Nat) := rangeL_nat (m := 3)
  have f3 : fitsI 3 = true := fitsI_nat (m := 3) (by omega)
  rw [vL_eq]
  unfold vL
  rw [ss_cons, s_for]
  simp only [src_rng, e_lit, b_ok, op1_val, ai_int, ofO_some, f3, if_true, o_ok, er]
  generalize hF : forLoop _ _ _ _ = o
  obtain ⟨acc, s2, c', rfl, r2, k2, a2, a3, a4, a5, a6, a7, a8, a9, rfl⟩ := dr_use hF (fun (_ : List Unit) s c => ∃ a2 a3 a4 a5 a6 a7 a8 a9, c = CL a2 a3 a4 a5 a6 a7 a8 a9 s) (fun (_ : Nat) (_ : Unit) => True) 400000 50 (acc := []) (b := 0) (s := s)
    (fun i hi acc b s c k hb hl ⟨a2, a3, a4, a5, a6, a7, a8, a9, e⟩ => by
      subst e
      refine ⟨_, rfl, ?_⟩
      obtain ⟨x, y, s1, e0, d, k0⟩ := w0 (n := n) (a2 := some (.val (.int (i : Nat)))) (a3 := a3) (a4 := a4) (a5 := a5) (a6 := a6) (a7 := a7) (a8 := a8) (a9 := a9) k (by omega)
      have e1 := w1 (n := n) (s := s1) (a2 := some (.val (.int (i : Nat)))) (a5 := a5) (a6 := a6) (a7 := a7) (a8 := a8) (a9 := a9) d.net d.sh
      have e2 := w2 (n := n) (s := s1) (a2 := some (.val (.int (i : Nat)))) (a7 := a7) (a8 := a8) (a9 := a9) d.net d.sh
      obtain ⟨b7, b8, s3, e3, k3⟩ := w3 (n := n) (a2 := some (.val (.int (i : Nat)))) (a6 := some (.val (.tuple (srt (allF x y))))) (a7 := a7) (a8 := a8) (a9 := a9) k0 (by omega) d.net d.sh
      obtain ⟨l, s4, e4, hl4, k4⟩ := w4 (n := n) (a2 := some (.val (.int (i : Nat)))) (a4 := some (.val (shD y))) (a5 := some (.val (rowsD (hid x y)))) (a6 := some (.val (.tuple (srt (allF x y))))) (a7 := b7) (a8 := b8) (a9 := a9) k3 (by omega) d.net
      have e5 := w5 (n := n) (s := s4) (l := l) (a2 := some (.val (.int (i : Nat)))) (a4 := some (.val (shD y))) (a5 := some (.val (rowsD (hid x y)))) (a6 := some (.val (.tuple (srt (allF x y))))) (a7 := b7) (a8 := b8) d.net
      have e6 := w6 (n := n) (s := s4) (a2 := some (.val (.int (i : Nat)))) (a5 := some (.val (rowsD (hid x y)))) (a6 := some (.val (.tuple (srt (allF x y))))) (a7 := b7) d.net d.sh hl4
      obtain ⟨s7, e7, k7⟩ := w7 (n := n) (a2 := some (.val (.int (i : Nat)))) (a5 := some (.val (rowsD (hid x y)))) (a7 := b7) (a8 := some (.val (dbD (marksOf x l)))) (a9 := some (.val (npD l))) k4 (by omega) d
      refine ⟨(), s7, CL (some (.val (.int (i : Nat)))) (some (.val (netD x))) (some (.val (shD y))) (some (.val (rowsD (hid x y)))) (some (.val (.tuple (srt (allF x y))))) b7 (some (.val (dbD (marksOf x l)))) (some (.val (npD l))) s7, ?_, trivial, k7.mono (by omega), _, _, _, _, _, _, _, _, rfl⟩
      unfold vb
      rw [ss_cons]
      have e0' : evS (Pyv.run pg (n + 11)) glD v0 (setR (CL a2 a3 a4 a5 a6 a7 a8 a9 s) 2 (.val (.int (i : Nat)))) = _ := e0
      rw [e0', th_next, ss_cons, e1, th_next, ss_cons, e2, th_next, ss_cons, e3, th_next, ss_cons, e4, th_next, ss_cons, e5, th_next, ss_cons, e6, th_next, ss_cons, e7, th_next, ss_nil])
    k (by rw [List.length_range]; decide) (by rw [List.length_range, List.length_nil]; decide) ⟨_, _, _, _, _, _, _, _, rfl⟩
  exact ⟨_, rfl⟩
end
end K
end
theorem PySem.Challenge.cw_onebill_k21_whole_hidden_as_changes_holds : PySem.Challenge.rw_onebill_k21_whole_hidden_as_changes.Holds := by
  exact fin_of (N := 11) (by decide) (by decide) (fun s h1 h2 h3 => K.plainLaw (n := 0) s h1 h2 h3)
