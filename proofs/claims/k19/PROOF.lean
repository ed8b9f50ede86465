import PyProof.Rows.All
import PyProof.P3Statements
import PyProof.RangeIter
import Wide.All
import OpenK.AllK
import Wide.FinOn
import PyProof.EqAt
import PyProof.EqKinds
import PyProof.TupleCall
import HandS.ForMost
import HandS.Wide
import HandS.SortInts
import HandS.IsInst
import KE.DataEq
import HandS.Flt
import HandS.Conv
import HandS.ForExc
import HandS.Flow
import HandS.WordsExc
import HandS.ExcInit
import HandS.ExcField
import HandS.Iter
import HandS.Small
import HandS.Dict
import KE.KExcIs
import HandS.Ends
import PySem.Challenge.RW_sharedenough_k19_turns_by_steps_and_by_f
set_option Elab.async false
set_option linter.all false
set_option maxRecDepth 100000
set_option exponentiation.threshold 5000
/-! VI: an interpreter over plain data for a part of Python; own objects are kept in slots -/
namespace VI
open PySem (Str PyData Operator CmpOp)
abbrev Key := Sum Int Str
inductive Dat where
  | non | bl (b : Bool) | int (i : Int) | str (s : Str)
  | lst (xs : List Dat) | tup (xs : List Dat)
  | dK (kvs : List (Key × Dat)) | dT (kvs : List (List Key × Dat))
  | ins (c : Nat) (xs : List Dat)
/-- an object that only this frame holds -/
inductive OD where
  | lst (xs : List Dat) | dK (kvs : List (Key × Dat)) | dT (kvs : List (List Key × Dat)) | ins (c : Nat) (xs : List Dat)
@[simp] def OD.toDat : OD → Dat
  | .lst xs => .lst xs | .dK kvs => .dK kvs | .dT kvs => .dT kvs | .ins c xs => .ins c xs
inductive Slot where
  | emp | imm (d : Dat) | own (pin lock : Bool) (o : OD)
abbrev Env := List Slot
inductive Res where
  | imm (d : Dat) | bor (i : Nat) | fr (o : OD)
inductive Out (α : Type) where
  | ok (a : α) (ρ : Env) | exc (c : Nat) (xs : List Dat) (ρ : Env) | bad
def Out.seq {α β : Type} (x : Out α) (k : α → Env → Out β) : Out β := match x with
  | .ok a ρ => k a ρ | .exc c xs ρ => .exc c xs ρ | .bad => .bad
@[simp] theorem seq_ok {α β : Type} (a : α) (ρ : Env) (k : α → Env → Out β) : (Out.ok a ρ).seq k = k a ρ := (rfl)
@[simp] theorem seq_exc {α β : Type} (c : Nat) (xs : List Dat) (ρ : Env) (k : α → Env → Out β) : (Out.exc c xs ρ).seq k = .exc c xs ρ := (rfl)
@[simp] theorem seq_bad {α β : Type} (k : α → Env → Out β) : (Out.bad : Out α).seq k = .bad := (rfl)
/-- a value or nothing -/
def Out.of {α : Type} (x : Option α) (ρ : Env) : Out α := match x with | some a => .ok a ρ | none => .bad
@[simp] theorem of_some {α : Type} (a : α) (ρ : Env) : Out.of (some a) ρ = .ok a ρ := (rfl)
@[simp] theorem of_none {α : Type} (ρ : Env) : (Out.of none ρ : Out α) = .bad := (rfl)
/-! ### data as the library's data -/
mutual
def Dat.py : Dat → PyData
  | .non => .none | .bl b => .bool b | .int i => .int i | .str s => .str s
  | .lst xs => .list (Dat.pys xs) | .tup xs => .tuple (Dat.pys xs)
  | .dK _ => .none | .dT _ => .none | .ins _ _ => .none
def Dat.pys : List Dat → List PyData
  | [] => [] | x :: xs => Dat.py x :: Dat.pys xs
end
mutual
def Dat.pl : Dat → Bool
  | .non => true | .bl _ => true | .int _ => true | .str _ => true
  | .lst xs => Dat.pls xs | .tup xs => Dat.pls xs
  | .dK _ => false | .dT _ => false | .ins _ _ => false
def Dat.pls : List Dat → Bool
  | [] => true | x :: xs => Dat.pl x && Dat.pls xs
end
mutual
def Dat.dep : Dat → Nat
  | .lst xs => Dat.deps xs + 1 | .tup xs => Dat.deps xs + 1
  | .non => 0 | .bl _ => 0 | .int _ => 0 | .str _ => 0 | .dK _ => 0 | .dT _ => 0 | .ins _ _ => 0
def Dat.deps : List Dat → Nat
  | [] => 0 | x :: xs => max (Dat.dep x) (Dat.deps xs)
end
/-! ### slots -/
@[simp] def slotDat : Slot → Option Dat
  | .imm d => some d | .own _ _ o => some o.toDat | .emp => none
def deref (ρ : Env) : Res → Option Dat
  | .imm d => some d | .fr o => some o.toDat
  | .bor i => match ρ[i]? with | some s => slotDat s | none => none
/-- the value is kept by somebody else: an own object turns into plain data -/
def capt : Res → Env → Out Dat
  | .imm d, ρ => .ok d ρ
  | .fr o, ρ => .ok o.toDat ρ
  | .bor i, ρ => match ρ[i]? with
    | some (.own false false o) => .ok o.toDat (ρ.set i (.imm o.toDat))
    | some (.imm d) => .ok d ρ
    | _ => .bad
def capts : List Res → Env → Out (List Dat)
  | [], ρ => .ok [] ρ
  | r :: rs, ρ => (capt r ρ).seq fun d ρ1 => (capts rs ρ1).seq fun ds ρ2 => .ok (d :: ds) ρ2
def derefs (ρ : Env) : List Res → Option (List Dat)
  | [] => some []
  | r :: rs => match deref ρ r, derefs ρ rs with | some d, some ds => some (d :: ds) | _, _ => none
/-- a slot takes a new content -/
def setS (i : Nat) (s : Slot) (ρ : Env) : Option Env := match ρ[i]? with
  | some (.own false false _) => some (ρ.set i s)
  | some (.imm _) => some (ρ.set i s)
  | some .emp => some (ρ.set i s)
  | _ => none
/-! ### operators on data -/
abbrev line : Nat := 16777216
abbrev big : Nat := 2 ^ 4000
def mulOk (i j : Int) : Bool := decide (i.natAbs < 2 ^ 64) || decide (j.natAbs < 2 ^ 64) || (decide (i.natAbs < big) && decide (j.natAbs < big))
def divOk (j : Int) : Bool := decide (0 < j) && decide (j.natAbs < big)
def powOk (i j : Int) : Bool := decide (0 ≤ j) && decide (j ≤ 1000000) && decide (i.natAbs < 2 ^ 64)
def sc (d : Dat) : Option Res := some (.imm d)
def grd {α : Type} (b : Bool) (x : α) : Option α := if b then some x else none
@[simp] theorem grd_true {α : Type} (x : α) : grd true x = some x := (rfl)
@[simp] theorem grd_false {α : Type} (x : α) : grd false x = none := (rfl)
inductive Bo where
  | add | sub | mul | fdiv | mod | pow | band
def binD : Bo → Dat → Dat → Option Res
  | .add, .int i, .int j => some (.imm (.int (i + j)))
  | .sub, .int i, .int j => some (.imm (.int (i - j)))
  | .mul, .int i, .int j => grd (mulOk i j) (.imm (.int (i * j)))
  | .fdiv, .int i, .int j => grd (divOk j) (.imm (.int (i / j)))
  | .mod, .int i, .int j => grd (decide (0 < j)) (.imm (.int (i % j)))
  | .pow, .int i, .int j => grd (powOk i j) (.imm (.int (i ^ j.toNat)))
  | .band, .int i, .int j => some (.imm (.int (PySem.Builtin.bitAnd i j)))
  | .add, .lst xs, .lst ys => grd (decide (xs.length + ys.length ≤ line)) (.fr (.lst (xs ++ ys)))
  | .mul, .lst xs, .int j => grd (decide (-(2 ^ 62) ≤ j) && decide (j < 2 ^ 62) && decide (xs.length * j.toNat ≤ line)) (.fr (.lst (List.replicate j.toNat xs).flatten))
  | _, _, _ => none
inductive Co where
  | eq | ne | lt | le | gt | ge | isin | notin | isN | notN
def eqD (x y : Dat) : Option Bool := grd (x.pl && y.pl && decide (x.dep ≤ 64) && decide (y.dep ≤ 64)) (PyData.eqv x.py y.py)
def keyD : Dat → Option Key
  | .int i => some (.inl i) | .str s => some (.inr s) | _ => none
def keysD : List Dat → Option (List Key)
  | [] => some []
  | d :: ds => match keyD d, keysD ds with | some k, some ks => some (k :: ks) | _, _ => none
def keyT : Dat → Option (List Key)
  | .tup ds => keysD ds | _ => none
def look {κ : Type} [DecidableEq κ] (k : κ) : List (κ × Dat) → Option Dat
  | [] => none
  | p :: r => if p.1 = k then some p.2 else look k r
def put {κ : Type} [DecidableEq κ] (k : κ) (v : Dat) (kvs : List (κ × Dat)) : List (κ × Dat) :=
  if kvs.any fun p => decide (p.1 = k) then kvs.map fun p => if p.1 = k then (p.1, v) else p else kvs ++ [(k, v)]
def inD (x : Dat) : Dat → Option Bool
  | .lst ys => grd (x.pl && Dat.pls ys && decide (x.dep ≤ 64) && decide (Dat.deps ys ≤ 64)) (ys.any fun y => PyData.eqv y.py x.py)
  | .tup ys => grd (x.pl && Dat.pls ys && decide (x.dep ≤ 64) && decide (Dat.deps ys ≤ 64)) (ys.any fun y => PyData.eqv y.py x.py)
  | .dK kvs => match keyD x with | some k => some (look k kvs).isSome | none => none
  | .dT kvs => match keyT x with | some k => some (look k kvs).isSome | none => none
  | _ => none
def isNon : Dat → Bool
  | .non => true | _ => false
def cmpB : Co → Dat → Dat → Option Bool
  | .eq, x, y => eqD x y
  | .ne, x, y => (eqD x y).map (! ·)
  | .lt, .int i, .int j => some (decide (i < j))
  | .le, .int i, .int j => some (decide (i ≤ j))
  | .gt, .int i, .int j => some (decide (j < i))
  | .ge, .int i, .int j => some (decide (j ≤ i))
  | .isin, x, y => inD x y
  | .notin, x, y => (inD x y).map (! ·)
  | .isN, x, .non => some (isNon x)
  | .notN, x, .non => some (!isNon x)
  | _, _, _ => none
def cmpD (o : Co) (x y : Dat) : Option Res := (cmpB o x y).map fun b => .imm (.bl b)
/-- the place of an index -/
def ixN (n : Nat) (i : Int) : Option Nat := if 0 ≤ i then (if i < n then some i.toNat else none) else if -(n : Int) ≤ i then some (i + n).toNat else none
def atI (xs : List Dat) (i : Int) : Option Dat := match ixN xs.length i with | some j => xs[j]? | none => none
def idxD : Dat → Dat → Option Res
  | .lst xs, .int i => (atI xs i).map .imm
  | .tup xs, .int i => (atI xs i).map .imm
  | .dK kvs, k => match keyD k with | some k => (look k kvs).map .imm | none => none
  | .dT kvs, k => match keyT k with | some k => (look k kvs).map .imm | none => none
  | _, _ => none
def sIx (n d : Nat) : Option Int → Nat
  | none => d
  | some i => if i < 0 then (i + (n : Int)).toNat else min i.toNat n
def cutD (xs : List Dat) (lo hi : Option Int) : List Dat := (xs.drop (sIx xs.length 0 lo)).take (sIx xs.length xs.length hi - sIx xs.length 0 lo)
def slcD (x : Dat) (lo hi : Option Int) : Option Res := match x with
  | .lst xs => some (.fr (.lst (cutD xs lo hi)))
  | _ => none
def truthD : Dat → Option Bool
  | .non => some false | .bl b => some b | .int i => some (i != 0)
  | .lst xs => some (!xs.isEmpty) | .tup xs => some (!xs.isEmpty) | _ => none
def intsD : List Dat → Option (List Int)
  | [] => some []
  | .int i :: r => match intsD r with | some is => some (i :: is) | none => none
  | _ => none
def blsD : List Dat → Option (List Bool)
  | [] => some []
  | .bl i :: r => match blsD r with | some is => some (i :: is) | none => none
  | _ => none
def sortI (xs : List Int) : List Int := xs.mergeSort fun a b => decide (a ≤ b)
def rngL (lo hi : Int) : List Int := (List.range (hi - lo).toNat).map fun (i : Nat) => lo + (i : Int)
def rngOk (lo hi : Int) : Bool := decide (-(2 ^ 62) ≤ lo) && decide (lo < 2 ^ 62) && decide (-(2 ^ 62) ≤ hi) && decide (hi < 2 ^ 62)
inductive Ty where
  | int | bool | str | list | tuple | dict
def tyD : Ty → Dat → Option Bool
  | _, .ins _ _ => none
  | _, .dT _ => none
  | .int, .int _ => some true | .int, .bl _ => some true
  | .bool, .bl _ => some true
  | .str, .str _ => some true
  | .list, .lst _ => some true
  | .tuple, .tup _ => some true
  | .dict, .dK _ => some true
  | _, _ => some false
inductive Bi where
  | len | abs | int | min | max | sum | sorted | list | tuple | any | all
def negD : Dat → Option Res
  | .int i => sc (.int (-i)) | _ => none
def max3 (i j k : Int) : Int := if (if i < j then j else i) < k then k else (if i < j then j else i)
def min3 (i j k : Int) : Int := if k < (if j < i then j else i) then k else (if j < i then j else i)
def biD : Bi → List Dat → Option Res
  | .len, [.lst xs] => sc (.int xs.length)
  | .len, [.tup xs] => sc (.int xs.length)
  | .len, [.dK xs] => sc (.int xs.length)
  | .abs, [.int i] => sc (.int (if i < 0 then -i else i))
  | .int, [.int i] => sc (.int i)
  | .int, [.bl b] => sc (.int (if b then 1 else 0))
  | .max, [.int i, .int j] => sc (.int (if j > i then j else i))
  | .min, [.int i, .int j] => sc (.int (if j < i then j else i))
  | .max, [.lst xs] => match intsD xs with | some is => (is.max?).map fun m => .imm (.int m) | none => none
  | .min, [.lst xs] => match intsD xs with | some is => (is.min?).map fun m => .imm (.int m) | none => none
  | .sum, [.lst xs] => match intsD xs with | some is => sc (.int is.sum) | none => none
  | .sorted, [.lst xs] => match intsD xs with | some is => some (.fr (.lst ((sortI is).map .int))) | none => none
  | .list, [.lst xs] => some (.fr (.lst xs))
  | .list, [.tup xs] => some (.fr (.lst xs))
  | .tuple, [.lst xs] => sc (.tup xs)
  | .any, [.lst xs] => match blsD xs with | some bs => sc (.bl (bs.any id)) | none => none
  | .all, [.lst xs] => match blsD xs with | some bs => sc (.bl (bs.all id)) | none => none
  | .max, [.int i, .int j, .int k] => sc (.int (max3 i j k))
  | .min, [.int i, .int j, .int k] => sc (.int (min3 i j k))
  | _, _ => none
def rl1D : Dat → Option Res
  | .int n => grd (rngOk 0 n && decide (n ≤ 16777216)) (.fr (.lst ((rngL 0 n).map .int)))
  | _ => none
def rl2D : Dat → Dat → Option Res
  | .int a, .int b => grd (rngOk a b && decide (b - a ≤ 16777216)) (.fr (.lst ((rngL a b).map .int)))
  | _, _ => none
def rngC (a c : Int) (n : Nat) : List Int := (List.range n).map fun (i : Nat) => a + (i : Int) * c
/-- list(range(a, b, c)) -/
def rl3L : List Dat → Option Res
  | [.int a, .int b, .int c] => grd (decide (c ≠ 0) && decide (c.natAbs < 1073741824) && PySem.Builtin.Range.small a b c && decide (0 ≤ PySem.Builtin.Range.rangeSize a b c) && decide (PySem.Builtin.Range.rangeSize a b c ≤ 16777216)) (.fr (.lst ((rngC a c (PySem.Builtin.Range.rangeSize a b c).toNat).map .int)))
  | _ => none
/-- methods that change their own list or dict -/
inductive Mu where
  | append | pop
def muD : Mu → OD → List Dat → Option (Dat × OD)
  | .append, .lst xs, [d] => grd (decide (xs.length < line)) (.non, .lst (xs ++ [d]))
  | .pop, .lst xs, [] => match xs[xs.length - 1]? with | some d => some (d, .lst xs.dropLast) | none => none
  | .pop, .lst xs, [.int i] => if line < xs.length then none else match ixN xs.length i with
    | some j => (match xs[j]? with | some d => some (d, .lst (xs.eraseIdx j)) | none => none)
    | none => none
  | _, _, _ => none
/-- x[k] = d -/
def stoD : OD → Dat → Dat → Option OD
  | .lst xs, .int i, d => match ixN xs.length i with | some j => some (.lst (xs.set j d)) | none => none
  | .dK kvs, k, d => match keyD k with | some k => grd (decide (kvs.length < line)) (.dK (put k d kvs)) | none => none
  | .dT kvs, k, d => match keyT k with | some k => grd (decide (kvs.length < line)) (.dT (put k d kvs)) | none => none
  | _, _, _ => none
/-! ### the text -/
inductive Pat where
  | one (i : Nat) | many (is : List Nat)
mutual
inductive E where
  | var (i : Nat)
  | cst (d : Dat)
  | bin (o : Bo) (a b : E)
  | neg (a : E)
  | cmp (o : Co) (a b : E)
  | chn (o o' : Co) (a b c : E)
  | bop (isAnd : Bool) (es : Es)
  | not (a : E)
  | ife (c a b : E)
  | tup (es : Es)
  | lst (es : Es)
  | dnew
  | dnewT
  | dl1 (k v : E)
  | idx (a b : E)
  | slc (a : E) (lo hi : Es)
  | call (f : Nat) (es : Es)
  | mk (c : Nat) (es : Es)
  | meth (c f : Nat) (a : E) (es : Es)
  | fld (c k : Nat) (a : E)
  | bi (b : Bi) (es : Es)
  | mut (m : Mu) (i : Nat) (es : Es)
  | lc (e : E) (p : Pat) (it : It) (c : Es)
  | frz (a : E)
  | rl1 (a : E)
  | rl2 (a b : E)
  | rl3 (es : Es)
  | isi (t : Ty) (a : E)
inductive Es where
  | nil
  | cons (e : E) (es : Es)
inductive It where
  | rng (es : Es)
  | val (e : E)
  | enm (e : E)
end
mutual
inductive S where
  | asg (i : Nat) (e : E)
  | asgT (is : List Nat) (e : E)
  | aug (i : Nat) (o : Bo) (e : E)
  | sidx (i : Nat) (k e : E)
  | augx (i : Nat) (k : E) (o : Bo) (e : E)
  | sfld (i c k : Nat) (e : E)
  | exp (e : E)
  | ret (e : E)
  | ife (c : E) (a b : Ss)
  | for (p : Pat) (it : It) (b : Ss)
  | whl (n : Nat) (c : E) (b : Ss)
  | brk | cnt | pas
  | par (i j : Nat) (es : Es)
  | rse (c : Nat) (es : Es)
  | try (b : Ss) (h : Hs)
inductive Ss where
  | nil
  | cons (s : S) (ss : Ss)
inductive Hs where
  | nil
  | cons (c i : Nat) (h : H1) (hs : Hs)
inductive H1 where
  | ret (e : HE)
  | asg (i : Nat) (e : HE)
inductive HE where
  | cst (d : Dat)
  | fld (k : Nat)
  | var (j : Nat)
  | tup (es : HEs)
  | lst (es : HEs)
  | eq (a b : HE)
  | isn (c : Nat) (b : Bool)
  | orr (a b : HE)
inductive HEs where
  | nil
  | cons (e : HE) (es : HEs)
end
/-! ### what expressions give -/
inductive CRes where
  | ret (r : Res) (outs : List Slot) | exc (c : Nat) (xs : List Dat) | bad
structure Orc where
  call : Nat → List Slot → CRes
  make : Nat → List Slot → CRes
/-- the slots that a callee gets -/
def argS (ρ : Env) : Res → Option Slot
  | .imm d => some (.imm d)
  | .fr o => some (.own false false o)
  | .bor i => match ρ[i]? with
    | some (.own _ l o) => some (.own true l o)
    | some (.imm d) => some (.imm d)
    | _ => none
def argsS (ρ : Env) : List Res → Option (List Slot)
  | [] => some []
  | r :: rs => match argS ρ r, argsS ρ rs with | some s, some ss => some (s :: ss) | _, _ => none
def isOwn : Option Slot → Bool
  | some (.own _ _ _) => true | _ => false
/-- the own slots that are lent -/
def lent (ρ : Env) : List Res → List Nat
  | [] => []
  | .bor i :: rs => if isOwn ρ[i]? then i :: lent ρ rs else lent ρ rs
  | _ :: rs => lent ρ rs
def wipeL : List Nat → Env → Env
  | [], ρ => ρ
  | i :: is, ρ => wipeL is (ρ.set i .emp)
/-- what was lent comes back, changed -/
def back (ρ0 : Env) : List Res → List Slot → Env → Env
  | .bor i :: rs, s :: ss, ρ => back ρ0 rs ss (match ρ0[i]?, s with
    | some (.own p l _), .own _ _ o => ρ.set i (.own p l o)
    | _, _ => ρ)
  | .imm _ :: rs, _ :: ss, ρ => back ρ0 rs ss ρ
  | .fr _ :: rs, _ :: ss, ρ => back ρ0 rs ss ρ
  | _, _, ρ => ρ
/-- neither a parameter's object nor one that is walked -/
def freeAt (ρ : Env) (i : Nat) : Bool := match ρ[i]? with
  | some (.own false false _) => true | _ => false
def doCall (f : List Slot → CRes) (rs : List Res) (ρ : Env) : Out Res :=
  if (lent ρ rs).Nodup then
    match argsS ρ rs with
    | some ss => match f ss with
      | .ret r outs => .ok r (back ρ rs outs (wipeL (lent ρ rs) ρ))
      | .exc c xs => if (lent ρ rs).all (freeAt ρ) then .exc c xs (wipeL (lent ρ rs) ρ) else .bad
      | .bad => .bad
    | none => .bad
  else .bad
def seqN {α β : Type} (x : Out α) (k : α → Env → Out β) : Out β := match x with
  | .ok a ρ => k a ρ | _ => .bad
@[simp] theorem seqN_ok {α β : Type} (a : α) (ρ : Env) (k : α → Env → Out β) : seqN (Out.ok a ρ) k = k a ρ := (rfl)
/-- one turn after another: the comprehension's list -/
def lcI (sv : Dat → Env → Option Env) (c : Env → Out Bool) (e : Env → Out Dat) : List Dat → List Dat → Env → Out (List Dat)
  | [], acc, ρ => .ok acc ρ
  | d :: ds, acc, ρ => match sv d ρ with
    | none => .bad
    | some ρ1 => seqN (c ρ1) fun b ρ2 => if b then seqN (e ρ2) fun x ρ3 => lcI sv c e ds (acc ++ [x]) ρ3 else lcI sv c e ds acc ρ2
def setMany : List Nat → List Dat → Env → Option Env
  | [], [], ρ => some ρ
  | i :: is, d :: ds, ρ => match setS i (.imm d) ρ with | some ρ1 => setMany is ds ρ1 | none => none
  | _, _, _ => none
def bind : Pat → Dat → Env → Option Env
  | .one i, d, ρ => setS i (.imm d) ρ
  | .many is, .tup ds, ρ => setMany is ds ρ
  | _, _, _ => none
def Pat.ix : Pat → List Nat
  | .one i => [i] | .many is => is
/-- the loop's list may not change while it is walked -/
def lockR : Res → Env → Out (List Dat × Option Nat)
  | .imm (.lst ds), ρ => .ok (ds, none) ρ
  | .imm (.tup ds), ρ => .ok (ds, none) ρ
  | .fr (.lst ds), ρ => .ok (ds, none) ρ
  | .bor i, ρ => match ρ[i]? with
    | some (.own p false (.lst ds)) => .ok (ds, some i) (ρ.set i (.own p true (.lst ds)))
    | _ => .bad
  | _, _ => .bad
def unlock : Option Nat → Env → Env
  | none, ρ => ρ
  | some i, ρ => match ρ[i]? with
    | some (.own p _ o) => ρ.set i (.own p false o)
    | _ => ρ
def numbered (ds : List Dat) : List Dat := ds.zipIdx.map fun p => .tup [.int (p.2 : Int), p.1]
def freed (is : List Nat) (ρ : Env) : Bool := is.all fun i => match ρ[i]? with
  | some (.imm _) => true | some .emp => true | _ => false
def restore (is : List Nat) (ρ0 ρ : Env) : Env := match is with
  | [] => ρ
  | i :: is => match ρ0[i]? with
    | some s => restore is ρ0 (ρ.set i s)
    | none => restore is ρ0 ρ
def testR (r : Res) (ρ : Env) : Out Bool := match deref ρ r with
  | some d => .of (truthD d) ρ
  | none => .bad
def partR (r : Res) (ρ : Env) : Out (Option Int) := match deref ρ r with
  | some (.int i) => .ok (some i) ρ
  | _ => .bad
def lift1 (f : Dat → Option Res) (r : Res) (ρ : Env) : Out Res := match deref ρ r with
  | some d => .of (f d) ρ
  | none => .bad
def lift2 (f : Dat → Dat → Option Res) (x y : Res) (ρ : Env) : Out Res := match deref ρ x, deref ρ y with
  | some d, some e => .of (f d e) ρ
  | _, _ => .bad
def liftL (f : List Dat → Option Res) (rs : List Res) (ρ : Env) : Out Res := match derefs ρ rs with
  | some ds => .of (f ds) ρ
  | none => .bad
def isLst : Option Slot → Bool
  | some (.own _ _ (.lst _)) => true | _ => false
def mutS (m : Mu) (i : Nat) (ds : List Dat) (ρ : Env) : Out Res := match ρ[i]? with
  | some (.own p false o) => (match muD m o ds with
    | some (d, o') => .ok (.imm d) (ρ.set i (.own p false o'))
    | none => .bad)
  | _ => .bad
/-- an own, fresh object that is no result of its own is plain data -/
def settle : Res → Res
  | .fr o => .imm o.toDat | r => r
def stl (x : Out Res) : Out Res := match x with
  | .ok r ρ => .ok (settle r) ρ | .exc c xs ρ => .exc c xs ρ | .bad => .bad
@[simp] theorem stl_ok (r : Res) (ρ : Env) : stl (.ok r ρ) = .ok (settle r) ρ := (rfl)
@[simp] theorem stl_exc (c : Nat) (xs : List Dat) (ρ : Env) : stl (.exc c xs ρ) = .exc c xs ρ := (rfl)
@[simp] theorem stl_bad : stl .bad = .bad := (rfl)
mutual
def evalE (O : Orc) : E → Env → Out Res
  | .var i, ρ => match ρ[i]? with
    | some (.imm d) => .ok (.imm d) ρ
    | some (.own _ _ _) => .ok (.bor i) ρ
    | _ => .bad
  | .cst d, ρ => .ok (.imm d) ρ
  | .bin o a b, ρ => (stl (evalE O a ρ)).seq fun x ρ1 => (stl (evalE O b ρ1)).seq fun y ρ2 => lift2 (binD o) x y ρ2
  | .neg a, ρ => (stl (evalE O a ρ)).seq fun x ρ1 => lift1 negD x ρ1
  | .cmp o a b, ρ => (stl (evalE O a ρ)).seq fun x ρ1 => (stl (evalE O b ρ1)).seq fun y ρ2 => lift2 (cmpD o) x y ρ2
  | .chn o o' a b c, ρ => (stl (evalE O a ρ)).seq fun x ρ1 => (stl (evalE O b ρ1)).seq fun y ρ2 => match deref ρ2 x, deref ρ2 y with
    | some d, some e => (match cmpB o d e with
      | some true => (stl (evalE O c ρ2)).seq fun z ρ3 => lift2 (cmpD o') y z ρ3
      | some false => .ok (.imm (.bl false)) ρ2
      | none => .bad)
    | _, _ => .bad
  | .bop k es, ρ => evalB O k es ρ
  | .not a, ρ => (stl (evalE O a ρ)).seq fun x ρ1 => (testR x ρ1).seq fun b ρ2 => .ok (.imm (.bl (!b))) ρ2
  | .ife c a b, ρ => (stl (evalE O c ρ)).seq fun x ρ1 => (testR x ρ1).seq fun t ρ2 => if t then evalE O a ρ2 else evalE O b ρ2
  | .tup es, ρ => (evalAs O es ρ).seq fun rs ρ1 => (capts rs ρ1).seq fun ds ρ2 => if ds.length ≤ 16777216 then .ok (.imm (.tup ds)) ρ2 else .bad
  | .lst es, ρ => (evalAs O es ρ).seq fun rs ρ1 => (capts rs ρ1).seq fun ds ρ2 => if ds.length ≤ 16777216 then .ok (.fr (.lst ds)) ρ2 else .bad
  | .dnew, ρ => .ok (.fr (.dK [])) ρ
  | .dnewT, ρ => .ok (.fr (.dT [])) ρ
  | .dl1 k v, ρ => (stl (evalE O k ρ)).seq fun x ρ1 => (stl (evalE O v ρ1)).seq fun y ρ2 => (capt y ρ2).seq fun d ρ3 => match deref ρ3 x with
    | some kd => (match keyD kd with
      | some key => .ok (.fr (.dK [(key, d)])) ρ3
      | none => .bad)
    | none => .bad
  | .idx a b, ρ => (stl (evalE O a ρ)).seq fun x ρ1 => (stl (evalE O b ρ1)).seq fun y ρ2 => lift2 idxD x y ρ2
  | .slc a lo hi, ρ => (stl (evalE O a ρ)).seq fun x ρ1 => (evalO O lo ρ1).seq fun l ρ2 => (evalO O hi ρ2).seq fun h ρ3 => lift1 (fun d => slcD d l h) x ρ3
  | .call f es, ρ => (evalAs O es ρ).seq fun rs ρ1 => doCall (O.call f) rs ρ1
  | .mk c es, ρ => (evalAs O es ρ).seq fun rs ρ1 => doCall (O.make c) rs ρ1
  | .meth c f a es, ρ => (stl (evalE O a ρ)).seq fun x ρ1 => match deref ρ1 x with
    | some (.ins c' _) => if c' = c then (evalAs O es ρ1).seq fun rs ρ2 => doCall (O.call f) (x :: rs) ρ2 else .bad
    | _ => .bad
  | .fld c k a, ρ => (stl (evalE O a ρ)).seq fun x ρ1 => lift1 (fun d => match d with | .ins c' xs => if c' = c then (xs[k]?).map .imm else none | _ => none) x ρ1
  | .bi b es, ρ => (evalAs O es ρ).seq fun rs ρ1 => liftL (biD b) rs ρ1
  | .mut m i es, ρ => if isLst ρ[i]? then (evalAs O es ρ).seq fun rs ρ1 => (capts rs ρ1).seq fun ds ρ2 => mutS m i ds ρ2 else .bad
  | .lc e p it c, ρ => (evalI O it ρ).seq fun q ρ1 => if freed p.ix ρ1 then
      (lcI (fun d ρ => bind p d (wipeL p.ix ρ)) (evalC O c) (fun ρ => (stl (evalE O e ρ)).seq capt) q.1 [] ρ1).seq fun ds ρ3 => .ok (.fr (.lst ds)) (unlock q.2 (restore p.ix ρ1 ρ3))
    else .bad
  | .rl1 a, ρ => (stl (evalE O a ρ)).seq fun x ρ1 => lift1 rl1D x ρ1
  | .rl3 es, ρ => (evalAs O es ρ).seq fun rs ρ1 => liftL rl3L rs ρ1
  | .rl2 a b, ρ => (stl (evalE O a ρ)).seq fun x ρ1 => (stl (evalE O b ρ1)).seq fun y ρ2 => lift2 rl2D x y ρ2
  | .isi t a, ρ => (stl (evalE O a ρ)).seq fun x ρ1 => lift1 (fun d => (tyD t d).map fun b => .imm (.bl b)) x ρ1
  | .frz a, ρ => (stl (evalE O a ρ)).seq fun x ρ1 => (capt x ρ1).seq fun d ρ2 => .ok (.imm d) ρ2
def evalAs (O : Orc) : Es → Env → Out (List Res)
  | .nil, ρ => .ok [] ρ
  | .cons e es, ρ => (evalE O e ρ).seq fun r ρ1 => (evalAs O es ρ1).seq fun rs ρ2 => .ok (r :: rs) ρ2
/-- a bound of a slice -/
def evalO (O : Orc) : Es → Env → Out (Option Int)
  | .nil, ρ => .ok none ρ
  | .cons e .nil, ρ => (stl (evalE O e ρ)).seq fun x ρ1 => partR x ρ1
  | .cons _ (.cons _ _), _ => .bad
/-- a and b and .., a or b or .. -/
def evalB (O : Orc) (k : Bool) : Es → Env → Out Res
  | .nil, _ => .bad
  | .cons e .nil, ρ => evalE O e ρ
  | .cons e (.cons e2 es), ρ => (stl (evalE O e ρ)).seq fun x ρ1 => (testR x ρ1).seq fun b ρ2 => if b = k then evalB O k (.cons e2 es) ρ2 else .ok x ρ2
/-- no test, or one -/
def evalC (O : Orc) : Es → Env → Out Bool
  | .nil, ρ => .ok true ρ
  | .cons e .nil, ρ => (stl (evalE O e ρ)).seq fun x ρ1 => testR x ρ1
  | .cons _ (.cons _ _), _ => .bad
def evalI (O : Orc) : It → Env → Out (List Dat × Option Nat)
  | .rng es, ρ => (evalAs O es ρ).seq fun rs ρ1 => match derefs ρ1 rs with
    | some [.int n] => .of (grd (rngOk 0 n && decide (n ≤ 16777216)) ((rngL 0 n).map .int, none)) ρ1
    | some [.int a, .int b] => .of (grd (rngOk a b && decide (b - a ≤ 16777216)) ((rngL a b).map .int, none)) ρ1
    | _ => .bad
  | .val e, ρ => (stl (evalE O e ρ)).seq fun r ρ1 => lockR r ρ1
  | .enm e, ρ => (stl (evalE O e ρ)).seq fun r ρ1 => (lockR r ρ1).seq fun q ρ2 => match deref ρ1 r with
    | some (.lst _) => .ok (numbered q.1, q.2) ρ2
    | _ => .bad
end
/-! ### what statements do -/
inductive Ctl where
  | nx (ρ : Env) | brk (ρ : Env) | cnt (ρ : Env) | ret (r : Res) (ρ : Env) | exc (c : Nat) (xs : List Dat) (ρ : Env) | bad
def Out.ctl {α : Type} (x : Out α) (k : α → Env → Ctl) : Ctl := match x with
  | .ok a ρ => k a ρ | .exc c xs ρ => .exc c xs ρ | .bad => .bad
@[simp] theorem ctl_ok {α : Type} (a : α) (ρ : Env) (k : α → Env → Ctl) : (Out.ok a ρ).ctl k = k a ρ := (rfl)
@[simp] theorem ctl_bad {α : Type} (k : α → Env → Ctl) : (Out.bad : Out α).ctl k = .bad := (rfl)
@[simp] theorem ctl_exc {α : Type} (c : Nat) (xs : List Dat) (ρ : Env) (k : α → Env → Ctl) : (Out.exc c xs ρ : Out α).ctl k = .exc c xs ρ := (rfl)
def nxO : Option Env → Ctl
  | some ρ => .nx ρ | none => .bad
@[simp] theorem nxO_some (ρ : Env) : nxO (some ρ) = .nx ρ := (rfl)
def forI (step : Dat → Env → Ctl) : List Dat → Env → Ctl
  | [], ρ => .nx ρ
  | d :: ds, ρ => match step d ρ with
    | .nx ρ1 => forI step ds ρ1 | .cnt ρ1 => forI step ds ρ1 | .brk ρ1 => .nx ρ1
    | .ret r ρ1 => .ret r ρ1 | .exc c xs ρ1 => .exc c xs ρ1 | .bad => .bad
def whlI (c : Env → Out Bool) (b : Env → Ctl) : Nat → Env → Ctl
  | 0, _ => .bad
  | n + 1, ρ => (c ρ).ctl fun t ρ1 => if t then (match b ρ1 with
    | .nx ρ2 => whlI c b n ρ2 | .cnt ρ2 => whlI c b n ρ2 | .brk ρ2 => .nx ρ2
    | .ret r ρ2 => .ret r ρ2 | .exc c xs ρ2 => .exc c xs ρ2 | .bad => .bad) else .nx ρ1
def Ctl.andThen (x : Ctl) (k : Env → Ctl) : Ctl := match x with
  | .nx ρ => k ρ | r => r
@[simp] theorem andThen_nx (ρ : Env) (k : Env → Ctl) : (Ctl.nx ρ).andThen k = k ρ := (rfl)
@[simp] theorem andThen_ret (r : Res) (ρ : Env) (k : Env → Ctl) : (Ctl.ret r ρ).andThen k = .ret r ρ := (rfl)
@[simp] theorem andThen_brk (ρ : Env) (k : Env → Ctl) : (Ctl.brk ρ).andThen k = .brk ρ := (rfl)
@[simp] theorem andThen_cnt (ρ : Env) (k : Env → Ctl) : (Ctl.cnt ρ).andThen k = .cnt ρ := (rfl)
@[simp] theorem andThen_exc (c : Nat) (xs : List Dat) (ρ : Env) (k : Env → Ctl) : (Ctl.exc c xs ρ).andThen k = .exc c xs ρ := (rfl)
@[simp] theorem andThen_bad (k : Env → Ctl) : (Ctl.bad).andThen k = .bad := (rfl)
/-- what goes out of the frame -/
def retR : Res → Env → Ctl
  | .imm d, ρ => .ret (.imm d) ρ
  | .fr o, ρ => .ret (.fr o) ρ
  | .bor i, ρ => match ρ[i]? with
    | some (.own false false o) => .ret (.fr o) (ρ.set i .emp)
    | some (.imm d) => .ret (.imm d) ρ
    | _ => .bad
def asgR (i : Nat) : Res → Env → Ctl
  | .imm d, ρ => nxO (setS i (.imm d) ρ)
  | .fr o, ρ => nxO (setS i (.own false false o) ρ)
  | .bor j, ρ => (capt (.bor j) ρ).ctl fun d ρ1 => nxO (setS i (.imm d) ρ1)
mutual
/-- what a clause's one line gives: xs the fields of the exception that it holds -/
def hev (xs : List Dat) (ρ : Env) : HE → Option Dat
  | .cst d => some d
  | .fld k => xs[k]?
  | .var j => match ρ[j]? with
    | some (.imm d) => some d
    | _ => none
  | .tup es => match hevs xs ρ es with | some ds => grd (decide (ds.length ≤ 16777216)) (.tup ds) | none => none
  | .lst es => match hevs xs ρ es with | some ds => grd (decide (ds.length ≤ 16777216)) (.lst ds) | none => none
  | .eq a b => match hev xs ρ a, hev xs ρ b with
    | some x, some y => (eqD x y).map .bl
    | _, _ => none
  | .isn _ b => some (.bl b)
  | .orr a b => match hev xs ρ a with
    | some (.bl true) => some (.bl true)
    | some (.bl false) => hev xs ρ b
    | _ => none
def hevs (xs : List Dat) (ρ : Env) : HEs → Option (List Dat)
  | .nil => some []
  | .cons e es => match hev xs ρ e, hevs xs ρ es with | some d, some ds => some (d :: ds) | _, _ => none
end
def h1 (xs : List Dat) (ρ : Env) (i : Nat) : H1 → Ctl
  | .ret e => match hev xs ρ e with | some d => .ret (.imm d) ρ | none => .bad
  | .asg j e => match hev xs ρ e with | some d => if j = i then .bad else nxO (setS j (.imm d) ρ) | none => .bad
/-- the first clause that takes it; its name is gone behind it -/
def hsel (c : Nat) (xs : List Dat) (ρ : Env) : Hs → Ctl
  | .nil => .exc c xs ρ
  | .cons h i k hs => if c = h then (match setS i .emp ρ with
      | some ρ1 => h1 xs ρ1 i k
      | none => .bad) else hsel c xs ρ hs
mutual
def exec (O : Orc) : S → Env → Ctl
  | .asg i e, ρ => (evalE O e ρ).ctl fun r ρ1 => asgR i r ρ1
  | .asgT is e, ρ => (stl (evalE O e ρ)).ctl fun r ρ1 => (capt r ρ1).ctl fun d ρ2 => nxO (bind (.many is) d ρ2)
  | .aug i o e, ρ => match ρ[i]? with
    | some (.imm d0) => (stl (evalE O e ρ)).ctl fun r ρ1 => (match deref ρ1 r with
      | some d => (match binD o d0 d with
        | some (.imm x) => nxO (setS i (.imm x) ρ1)
        | _ => .bad)
      | none => .bad)
    | _ => .bad
  | .sidx i k e, ρ => (stl (evalE O e ρ)).ctl fun r ρ1 => (capt r ρ1).ctl fun d ρ2 => if isOwn ρ2[i]? then (stl (evalE O k ρ2)).ctl fun kr ρ3 => (match deref ρ3 kr, ρ3[i]? with
    | some kd, some (.own p false o) => (match stoD o kd d with | some o' => .nx (ρ3.set i (.own p false o')) | none => .bad)
    | _, _ => .bad)
    else .bad
  | .augx i k o e, ρ => if isOwn ρ[i]? then (stl (evalE O k ρ)).ctl fun kr ρ1 => (match deref ρ1 kr, ρ1[i]? with
    | some kd, some (.own _ _ ob) => (match idxD ob.toDat kd with
      | some (.imm d0) => (stl (evalE O e ρ1)).ctl fun r ρ2 => (match deref ρ2 r, deref ρ2 kr with
        | some d, some kd2 => (match binD o d0 d, ρ2[i]? with
          | some (.imm x), some (.own p false o2) => (match stoD o2 kd2 x with | some o' => .nx (ρ2.set i (.own p false o')) | none => .bad)
          | _, _ => .bad)
        | _, _ => .bad)
      | _ => .bad)
    | _, _ => .bad)
    else .bad
  | .sfld i c k e, ρ => (stl (evalE O e ρ)).ctl fun r ρ1 => (capt r ρ1).ctl fun d ρ2 => match ρ2[i]? with
    | some (.own p false (.ins c' xs)) => if c' = c then (if k < xs.length then .nx (ρ2.set i (.own p false (.ins c (xs.set k d)))) else if k = xs.length then .nx (ρ2.set i (.own p false (.ins c (xs ++ [d])))) else .bad) else .bad
    | _ => .bad
  | .exp e, ρ => (stl (evalE O e ρ)).ctl fun _ ρ1 => .nx ρ1
  | .ret e, ρ => (evalE O e ρ).ctl fun r ρ1 => retR r ρ1
  | .ife c a b, ρ => (stl (evalE O c ρ)).ctl fun x ρ1 => (testR x ρ1).ctl fun t ρ2 => if t then execs O a ρ2 else execs O b ρ2
  | .for p it b, ρ => (evalI O it ρ).ctl fun q ρ1 => (forI (fun d ρ => match bind p d ρ with | some ρ1 => execs O b ρ1 | none => .bad) q.1 ρ1).andThen fun ρ2 => .nx (unlock q.2 ρ2)
  | .whl n c b, ρ => whlI (fun ρ => (stl (evalE O c ρ)).seq fun x ρ1 => testR x ρ1) (fun ρ => execs O b ρ) n ρ
  | .brk, ρ => .brk ρ
  | .cnt, ρ => .cnt ρ
  | .pas, ρ => .nx ρ
  | .par i j es, ρ => (evalAs O es ρ).ctl fun rs ρ1 => (capts rs ρ1).ctl fun ds ρ2 => match ds with
    | [d, e] => nxO ((setS i (.imm d) ρ2).bind fun ρ3 => setS j (.imm e) ρ3)
    | _ => .bad
  | .rse c es, ρ => (evalAs O es ρ).ctl fun rs ρ1 => (capts rs ρ1).ctl fun ds ρ2 => .exc c ds ρ2
  | .try b h, ρ => match execs O b ρ with
    | .exc c xs ρ1 => hsel c xs ρ1 h
    | r => r
def execs (O : Orc) : Ss → Env → Ctl
  | .nil, ρ => .nx ρ
  | .cons s ss, ρ => (exec O s ρ).andThen fun ρ1 => execs O ss ρ1
end
/-! ### defs -/
structure Def where
  np : Nat
  n : Nat
  body : Ss
/-- what was lent is still an own object -/
def outsOk : List Slot → List Slot → Bool
  | .own true _ _ :: ss, s :: ts => isOwn (some s) && outsOk ss ts
  | .own true _ _ :: _, [] => false
  | _ :: ss, _ :: ts => outsOk ss ts
  | _, _ => true
def retO (args : List Slot) (np : Nat) (r : Res) (ρ : Env) : CRes := match r with
  | .bor _ => .bad
  | .imm d => if outsOk args (ρ.take np) then .ret (.imm d) (ρ.take np) else .bad
  | .fr o => if outsOk args (ρ.take np) then .ret (.fr o) (ρ.take np) else .bad
def run (d : Def) (O : Orc) (args : List Slot) : CRes :=
  if args.length = d.np then match execs O d.body (args ++ List.replicate (d.n - d.np) .emp) with
    | .nx ρ => retO args d.np (.imm .non) ρ
    | .ret r ρ => retO args d.np r ρ
    | .exc c xs _ => .exc c xs
    | _ => .bad
  else .bad
structure Prg where
  defs : List Def
  inits : List Nat
def mkOf (P : Prg) (call : Nat → List Slot → CRes) (c : Nat) (args : List Slot) : CRes := match P.inits[c]? with
  | some f => (match call f (.own true false (.ins c []) :: args) with
    | .ret (.imm .non) (.own _ _ (.ins c' xs) :: outs) => if c' = c then .ret (.fr (.ins c xs)) outs else .bad
    | .exc c xs => .exc c xs
    | _ => .bad)
  | none => .bad
/-- calls, and makings of instances, n levels deep -/
def orc (P : Prg) : Nat → Orc
  | 0 => ⟨fun _ _ => .bad, fun _ _ => .bad⟩
  | n + 1 => ⟨fun f args => match P.defs[f]? with | some d => run d (orc P n) args | none => .bad, mkOf P (orc P n).call⟩
theorem call_of {P : Prg} {f : Nat} {d : Def} (h : P.defs[f]? = some d) (n : Nat) (args : List Slot) : (orc P (n + 1)).call f args = run d (orc P n) args := by
  show (match P.defs[f]? with | some d => run d (orc P n) args | none => .bad) = _
  rw [h]
theorem make_of (P : Prg) (n c : Nat) (args : List Slot) : (orc P (n + 1)).make c args = mkOf P (orc P n).call c args := rfl
end VI
/-! VI, soundness: data in the heap -/
namespace VI
open PySem L2
/-- where the program's classes stand -/
structure Tab where
  K : PySem.W.Frag
  cls : Nat → Addr
  flds : Nat → List Str
  exc : Nat → Addr
  xfl : Nat → List Str
def Ex (G H : Hp) : Prop := ∀ a o, G a = some o → H a = some o
theorem Ex.refl (H : Hp) : Ex H H := fun _ _ h => h
theorem Ex.trans {G M H : Hp} (a : Ex G M) (b : Ex M H) : Ex G H := fun x o h => b x o (a x o h)
theorem Ex.new {G : Hp} {p : Addr} {o : HO} (h : G p = none) : Ex G (upd G p o) := fun a u e => by
  rw [upd_ne (ne_of_none e h)]; exact e
theorem Ex.isNone {G H : Hp} (e : Ex G H) {p : Addr} (h : H p = none) : G p = none := by
  cases q : G p with
  | none => rfl
  | some o => rw [e p o q] at h; cases h
theorem Ex.ups {G H : Hp} {p : Addr} {o : HO} (e : Ex G H) (h : H p = none) : Ex G (upd H p o) := e.trans (Ex.new h)
/-- what G does not know may change -/
theorem Ex.mut {G H : Hp} {p : Addr} {o : HO} (e : Ex G H) (h : G p = none) : Ex G (upd H p o) := fun a u ha => by
  rw [upd_ne (ne_of_none ha h)]; exact e a u ha
theorem Ex.both {G H : Hp} {p : Addr} {o : HO} (e : Ex G H) (h : H p = some o) : Ex (upd G p o) H := fun a u ha => by
  by_cases z : a = p
  · subst z; rw [upd_same] at ha; cases ha; exact h
  · rw [upd_ne z] at ha; exact e a u ha
theorem Ex.rd {G H : Hp} {a : Addr} {u : HO} (e : Ex G H) (h : Rd G a u) : Rd H a u := by
  rcases h with h | ⟨o, h⟩
  · exact .inl (e _ _ h)
  · exact .inr ⟨o, e _ _ h⟩
/-- a list that is read: tracked, or an object of the module -/
def SqX (K : PySem.W.Frag) (H : Hp) (a : Addr) (xs : List V) : Prop :=
  Rd H a (.lst xs) ∨ ∃ (its : List Value) (n : Nat), K.lookup a = some { cls := .type "list", data := .seq its.toArray n } ∧ its.length ≤ sizeLine ∧ Vals xs its
theorem SqX.sql {K : PySem.W.Frag} {H : Hp} {a : Addr} {xs : List V} (h : SqX K H a xs) : SqL K H a xs := by
  rcases h with h | ⟨its, n, e, z, r⟩
  · exact .inl h
  · exact .inr ⟨_, its.toArray, n, e, rfl, rfl, rfl, by simpa using z, by simpa using r⟩
theorem SqX.mono {K : PySem.W.Frag} {G H : Hp} {a : Addr} {xs : List V} (e : Ex G H) (h : SqX K G a xs) : SqX K H a xs := by
  rcases h with h | h
  · exact .inl (e.rd h)
  · exact .inr h
theorem SqX.ok {X : Cx} {pins : List (Addr × Obj)} {σ : L2.St} {H : Hp} {s : Shared} {a : Addr} {xs : List V} (Iv : Inv X pins σ H s) (h : SqX X.K H a xs) : xs.length ≤ sizeLine ∧ ∃ (its : List Value) (n : Nat), Vals xs its ∧ s.heap.get? a = some { cls := .type "list", data := .seq its.toArray n } := by
  rcases h with h | ⟨its, n, e, z, r⟩
  · obtain ⟨z, its, n, r, e⟩ := h.ok Iv.hok
    exact ⟨z, its, n, r, e⟩
  · exact ⟨by rw [r.length]; exact z, its, n, r, Iv.kIn a _ e⟩
variable (Γ : Tab)
/-- the value v is the data d, in what G knows -/
inductive R (G : Hp) : V → Dat → Prop
  | non : R G .non .non
  | bl (b : Bool) : R G (.bl b) (.bl b)
  | int (i : Int) : R G (.int i) (.int i)
  | str (s : Str) : R G (.str s) (.str s)
  | lst {a : Addr} {vs : List V} {ds : List Dat} : SqX Γ.K G a vs → vs.length = ds.length → (∀ (i : Nat) (v : V) (d : Dat), vs[i]? = some v → ds[i]? = some d → R G v d) → R G (.ref a) (.lst ds)
  | tup {a : Addr} {vs : List V} {ds : List Dat} : G a = some (.tup vs) → vs.length = ds.length → (∀ (i : Nat) (v : V) (d : Dat), vs[i]? = some v → ds[i]? = some d → R G v d) → R G (.ref a) (.tup ds)
  | dK {a : Addr} {kvs : List (Key × V)} {ds : List (Key × Dat)} : Rd G a (.dK kvs) → kvs.map (·.1) = ds.map (·.1) → (∀ (i : Nat) (p : Key × V) (d : Key × Dat), kvs[i]? = some p → ds[i]? = some d → R G p.2 d.2) → R G (.ref a) (.dK ds)
  | dT {a : Addr} {kvs : List (List Key × V)} {ds : List (List Key × Dat)} : Rd G a (.dT kvs) → kvs.map (·.1) = ds.map (·.1) → (∀ (i : Nat) (p : List Key × V) (d : List Key × Dat), kvs[i]? = some p → ds[i]? = some d → R G p.2 d.2) → R G (.ref a) (.dT ds)
  | ins {a dx : Addr} {c : Nat} {fs : List (Str × V)} {ds : List Dat} : G a = some (.ins (Γ.cls c) dx fs) → fs.map (·.1) = (Γ.flds c).take fs.length → fs.length = ds.length → (∀ (i : Nat) (p : Str × V) (d : Dat), fs[i]? = some p → ds[i]? = some d → R G p.2 d) → R G (.ref a) (.ins c ds)
variable {Γ}
theorem R.mono {G H : Hp} (e : Ex G H) {v : V} {d : Dat} (r : R Γ G v d) : R Γ H v d := by
  induction r with
  | non => exact .non
  | bl b => exact .bl b
  | int i => exact .int i
  | str s => exact .str s
  | lst h l _ ih => exact .lst (h.mono e) l ih
  | tup h l _ ih => exact .tup (e _ _ h) l ih
  | dK h l _ ih => exact .dK (e.rd h) l ih
  | dT h l _ ih => exact .dT (e.rd h) l ih
  | ins h l z _ ih => exact .ins (e _ _ h) l z ih
variable (Γ)
/-- item by item -/
def RL (G : Hp) (vs : List V) (ds : List Dat) : Prop := vs.length = ds.length ∧ ∀ (i : Nat) (v : V) (d : Dat), vs[i]? = some v → ds[i]? = some d → R Γ G v d
def RK {κ : Type} (G : Hp) (kvs : List (κ × V)) (ds : List (κ × Dat)) : Prop := kvs.map (·.1) = ds.map (·.1) ∧ ∀ (i : Nat) (p : κ × V) (d : κ × Dat), kvs[i]? = some p → ds[i]? = some d → R Γ G p.2 d.2
def RF (G : Hp) (c : Nat) (fs : List (Str × V)) (ds : List Dat) : Prop := fs.map (·.1) = (Γ.flds c).take fs.length ∧ fs.length = ds.length ∧ ∀ (i : Nat) (p : Str × V) (d : Dat), fs[i]? = some p → ds[i]? = some d → R Γ G p.2 d
variable {Γ}
theorem RL.mono {G H : Hp} (e : Ex G H) {vs : List V} {ds : List Dat} (r : RL Γ G vs ds) : RL Γ H vs ds := ⟨r.1, fun i v d a b => (r.2 i v d a b).mono e⟩
theorem RK.mono {κ : Type} {G H : Hp} (e : Ex G H) {vs : List (κ × V)} {ds : List (κ × Dat)} (r : RK Γ G vs ds) : RK Γ H vs ds := ⟨r.1, fun i v d a b => (r.2 i v d a b).mono e⟩
theorem RF.mono {G H : Hp} (e : Ex G H) {c : Nat} {vs : List (Str × V)} {ds : List Dat} (r : RF Γ G c vs ds) : RF Γ H c vs ds := ⟨r.1, r.2.1, fun i v d a b => (r.2.2 i v d a b).mono e⟩
theorem RL.nil {G : Hp} : RL Γ G [] [] := ⟨rfl, fun i v d a _ => by simp at a⟩
theorem RL.cons {G : Hp} {v : V} {d : Dat} {vs : List V} {ds : List Dat} (r : R Γ G v d) (t : RL Γ G vs ds) : RL Γ G (v :: vs) (d :: ds) := ⟨by simp [t.1], fun i x y a b => by
  cases i with
  | zero => simp at a b; subst a b; exact r
  | succ i => simp at a b; exact t.2 i x y a b⟩
theorem RL.head {G : Hp} {v : V} {d : Dat} {vs : List V} {ds : List Dat} (r : RL Γ G (v :: vs) (d :: ds)) : R Γ G v d := r.2 0 v d rfl rfl
theorem RL.tail {G : Hp} {v : V} {d : Dat} {vs : List V} {ds : List Dat} (r : RL Γ G (v :: vs) (d :: ds)) : RL Γ G vs ds := ⟨by have := r.1; simpa using this, fun i x y a b => r.2 (i + 1) x y (by simpa using a) (by simpa using b)⟩
theorem RL.append {G : Hp} {vs ws : List V} {ds es : List Dat} (r : RL Γ G vs ds) (t : RL Γ G ws es) : RL Γ G (vs ++ ws) (ds ++ es) := ⟨by simp [r.1, t.1], fun i x y a b => by
  by_cases h : i < vs.length
  · rw [List.getElem?_append_left h] at a
    rw [List.getElem?_append_left (by rw [← r.1]; exact h)] at b
    exact r.2 i x y a b
  · rw [List.getElem?_append_right (by omega)] at a
    rw [List.getElem?_append_right (by have := r.1; omega), ← r.1] at b
    exact t.2 _ x y a b⟩
theorem RL.take {G : Hp} {vs : List V} {ds : List Dat} (n : Nat) (r : RL Γ G vs ds) : RL Γ G (vs.take n) (ds.take n) := ⟨by simp [r.1], fun i x y a b => by
  rw [List.getElem?_take] at a b
  split at a
  · rename_i h; rw [if_pos h] at b; exact r.2 i x y a b
  · cases a⟩
theorem RL.drop {G : Hp} {vs : List V} {ds : List Dat} (n : Nat) (r : RL Γ G vs ds) : RL Γ G (vs.drop n) (ds.drop n) := ⟨by simp [r.1], fun i x y a b => by
  rw [List.getElem?_drop] at a b
  exact r.2 _ x y a b⟩
theorem RL.set {G : Hp} {vs : List V} {ds : List Dat} {v : V} {d : Dat} (n : Nat) (r : RL Γ G vs ds) (q : R Γ G v d) : RL Γ G (vs.set n v) (ds.set n d) := ⟨by simp [r.1], fun i x y a b => by
  rw [List.getElem?_set] at a b
  by_cases h : n = i
  · subst h
    by_cases z : n < vs.length
    · rw [if_pos rfl, if_pos z] at a
      rw [if_pos rfl, if_pos (by rw [← r.1]; exact z)] at b
      cases a; cases b; exact q
    · rw [if_pos rfl, if_neg z] at a; cases a
  · rw [if_neg h] at a b; exact r.2 _ x y a b⟩
theorem RL.get {G : Hp} {vs : List V} {ds : List Dat} (r : RL Γ G vs ds) {i : Nat} {d : Dat} (h : ds[i]? = some d) : ∃ v, vs[i]? = some v ∧ R Γ G v d := by
  have hi : i < vs.length := by rw [r.1]; exact (List.getElem?_eq_some_iff.mp h).1
  exact ⟨vs[i], List.getElem?_eq_getElem hi, r.2 i _ d (List.getElem?_eq_getElem hi) h⟩
theorem RL.eraseIdx {G : Hp} {vs : List V} {ds : List Dat} (n : Nat) (r : RL Γ G vs ds) : RL Γ G (vs.eraseIdx n) (ds.eraseIdx n) := ⟨by rw [List.length_eraseIdx, List.length_eraseIdx, r.1], fun i x y a b => by
  rw [List.getElem?_eraseIdx] at a b
  split at a
  · rename_i h; rw [if_pos h] at b; exact r.2 i x y a b
  · rename_i h; rw [if_neg h] at b; exact r.2 _ x y a b⟩
theorem RL.dropLast {G : Hp} {vs : List V} {ds : List Dat} (r : RL Γ G vs ds) : RL Γ G vs.dropLast ds.dropLast := by
  rw [List.dropLast_eq_take, List.dropLast_eq_take, r.1]; exact r.take _
variable (Γ)
/-- an object of one's own at p -/
def OwnAt (G H : Hp) (p : Addr) : OD → Prop
  | .lst ds => ∃ vs, H p = some (.lst vs) ∧ RL Γ G vs ds
  | .dK ds => ∃ kvs, H p = some (.dK kvs) ∧ RK Γ G kvs ds
  | .dT ds => ∃ kvs, H p = some (.dT kvs) ∧ RK Γ G kvs ds
  | .ins c ds => ∃ dx fs, H p = some (.ins (Γ.cls c) dx fs) ∧ RF Γ G c fs ds
variable {Γ}
theorem OwnAt.mono {G G' H H' : Hp} {p : Addr} {o : OD} (x : OwnAt Γ G H p o) (e : Ex G G') (k : ∀ u, H p = some u → H' p = some u) : OwnAt Γ G' H' p o := by
  cases o with
  | lst ds => obtain ⟨vs, h, r⟩ := x; exact ⟨vs, k _ h, r.mono e⟩
  | dK ds => obtain ⟨vs, h, r⟩ := x; exact ⟨vs, k _ h, r.mono e⟩
  | dT ds => obtain ⟨vs, h, r⟩ := x; exact ⟨vs, k _ h, r.mono e⟩
  | ins c ds => obtain ⟨dx, vs, h, r⟩ := x; exact ⟨dx, vs, k _ h, r.mono e⟩
theorem OwnAt.ex {G H : Hp} {p : Addr} {o : OD} (x : OwnAt Γ G H p o) : ∃ u, H p = some u := by
  cases o with
  | lst ds => obtain ⟨vs, h, r⟩ := x; exact ⟨_, h⟩
  | dK ds => obtain ⟨vs, h, r⟩ := x; exact ⟨_, h⟩
  | dT ds => obtain ⟨vs, h, r⟩ := x; exact ⟨_, h⟩
  | ins c ds => obtain ⟨dx, vs, h, r⟩ := x; exact ⟨_, h⟩
/-- .. taken into what is known for ever -/
theorem OwnAt.keep {G H : Hp} {p : Addr} {o : OD} (x : OwnAt Γ G H p o) (n : G p = none) : ∃ u, H p = Option.some u ∧ R Γ (upd G p u) (.ref p) o.toDat := by
  have e : ∀ u, Ex G (upd G p u) := fun u => Ex.new n
  cases o with
  | lst ds => obtain ⟨vs, h, r⟩ := x; exact ⟨_, h, .lst (.inl (.inl upd_same)) r.1 fun i v d a b => (r.2 i v d a b).mono (e _)⟩
  | dK ds => obtain ⟨vs, h, r⟩ := x; exact ⟨_, h, .dK (.inl upd_same) r.1 fun i v d a b => (r.2 i v d a b).mono (e _)⟩
  | dT ds => obtain ⟨vs, h, r⟩ := x; exact ⟨_, h, .dT (.inl upd_same) r.1 fun i v d a b => (r.2 i v d a b).mono (e _)⟩
  | ins c ds => obtain ⟨dx, vs, h, r⟩ := x; exact ⟨_, h, .ins upd_same r.1 r.2.1 fun i v d a b => (r.2.2 i v d a b).mono (e _)⟩
variable (Γ)
/-- what may be read as data now: for ever, or an own object as it stands -/
def RB (G H : Hp) (v : V) (d : Dat) : Prop := R Γ G v d ∨ ∃ p o, v = .ref p ∧ OwnAt Γ G H p o ∧ G p = none ∧ d = o.toDat
variable {Γ}
/-- .. as a list, a tuple, a dict, an instance -/
theorem RB.lst {G H : Hp} {v : V} {ds : List Dat} (e : Ex G H) (r : RB Γ G H v (.lst ds)) : ∃ p vs, v = .ref p ∧ SqX Γ.K H p vs ∧ RL Γ G vs ds := by
  rcases r with r | ⟨p, o, hv, x, _, hd⟩
  · cases r with
    | lst h l q => exact ⟨_, _, rfl, h.mono e, l, q⟩
  · cases o with
    | lst xs => obtain ⟨vs, h, r⟩ := x; cases hd; exact ⟨p, vs, hv, .inl (.inl h), r⟩
    | dK _ => cases hd
    | dT _ => cases hd
    | ins _ _ => cases hd
theorem RB.tup {G H : Hp} {v : V} {ds : List Dat} (e : Ex G H) (r : RB Γ G H v (.tup ds)) : ∃ p vs, v = .ref p ∧ H p = some (.tup vs) ∧ RL Γ G vs ds := by
  rcases r with r | ⟨p, o, hv, x, _, hd⟩
  · cases r with
    | tup h l q => exact ⟨_, _, rfl, e _ _ h, l, q⟩
  · cases o <;> cases hd
theorem RB.dK {G H : Hp} {v : V} {ds : List (Key × Dat)} (e : Ex G H) (r : RB Γ G H v (.dK ds)) : ∃ p vs, v = .ref p ∧ Rd H p (.dK vs) ∧ RK Γ G vs ds := by
  rcases r with r | ⟨p, o, hv, x, _, hd⟩
  · cases r with
    | dK h l q => exact ⟨_, _, rfl, e.rd h, l, q⟩
  · cases o with
    | dK xs => obtain ⟨vs, h, r⟩ := x; cases hd; exact ⟨p, vs, hv, .inl h, r⟩
    | lst _ => cases hd
    | dT _ => cases hd
    | ins _ _ => cases hd
theorem RB.dT {G H : Hp} {v : V} {ds : List (List Key × Dat)} (e : Ex G H) (r : RB Γ G H v (.dT ds)) : ∃ p vs, v = .ref p ∧ Rd H p (.dT vs) ∧ RK Γ G vs ds := by
  rcases r with r | ⟨p, o, hv, x, _, hd⟩
  · cases r with
    | dT h l q => exact ⟨_, _, rfl, e.rd h, l, q⟩
  · cases o with
    | dT xs => obtain ⟨vs, h, r⟩ := x; cases hd; exact ⟨p, vs, hv, .inl h, r⟩
    | lst _ => cases hd
    | dK _ => cases hd
    | ins _ _ => cases hd
theorem RB.ins {G H : Hp} {v : V} {c : Nat} {ds : List Dat} (e : Ex G H) (r : RB Γ G H v (.ins c ds)) : ∃ p dx fs, v = .ref p ∧ H p = some (.ins (Γ.cls c) dx fs) ∧ RF Γ G c fs ds := by
  rcases r with r | ⟨p, o, hv, x, _, hd⟩
  · cases r with
    | ins h l z q => exact ⟨_, _, _, rfl, e _ _ h, l, z, q⟩
  · cases o with
    | ins c' xs => obtain ⟨dx, vs, h, r⟩ := x; cases hd; exact ⟨p, dx, vs, hv, h, r⟩
    | lst _ => cases hd
    | dK _ => cases hd
    | dT _ => cases hd
theorem RB.int {G H : Hp} {v : V} {i : Int} (r : RB Γ G H v (.int i)) : v = .int i := by
  rcases r with r | ⟨p, o, hv, x, _, hd⟩
  · cases r; rfl
  · cases o <;> cases hd
theorem RB.bl {G H : Hp} {v : V} {i : Bool} (r : RB Γ G H v (.bl i)) : v = .bl i := by
  rcases r with r | ⟨p, o, hv, x, _, hd⟩
  · cases r; rfl
  · cases o <;> cases hd
theorem RB.str {G H : Hp} {v : V} {i : Str} (r : RB Γ G H v (.str i)) : v = .str i := by
  rcases r with r | ⟨p, o, hv, x, _, hd⟩
  · cases r; rfl
  · cases o <;> cases hd
theorem RB.non {G H : Hp} {v : V} (r : RB Γ G H v .non) : v = .non := by
  rcases r with r | ⟨p, o, hv, x, _, hd⟩
  · cases r; rfl
  · cases o <;> cases hd
theorem RB.grow {G H G' H' : Hp} {v : V} {d : Dat} (r : RB Γ G H v d) (e : Ex G G') (k : ∀ p u, H p = some u → G p = none → H' p = some u ∧ G' p = none) : RB Γ G' H' v d := by
  rcases r with r | ⟨p, o, hv, x, n, hd⟩
  · exact .inl (r.mono e)
  · obtain ⟨u, hu⟩ := x.ex
    exact .inr ⟨p, o, hv, x.mono e fun w hw => (k p w hw n).1, (k p u hu n).2, hd⟩
/-! ### the frame -/
variable (Γ)
def SlotR (G F H : Hp) (s : Slot) (x : Option (Option V)) : Prop := match s with
  | .emp => True
  | .imm d => ∃ v, x = some (some v) ∧ R Γ G v d
  | .own _ _ o => ∃ p, x = some (some (V.ref p)) ∧ G p = none ∧ F p = none ∧ OwnAt Γ G H p o
/-- the slots ρ are the frame σ; G is known for ever, F the others' -/
structure Rel0 (ρ : Env) (G F : Hp) (σ : L2.St) (H : Hp) : Prop where
  g : Ex G H
  f : Ex F H
  dis : ∀ a u, G a = some u → F a = none
  len : ρ.length = σ.length
  slot : ∀ (i : Nat) (s : Slot), ρ[i]? = some s → SlotR Γ G F H s σ[i]?
  inj : ∀ (i j : Nat) (a : Addr), isOwn ρ[i]? = true → isOwn ρ[j]? = true → σ[i]? = some (some (V.ref a)) → σ[j]? = some (some (V.ref a)) → i = j
/-- slots that keep their objects: a parameter's, a walked list's (which stays as it is) -/
abbrev Pins := List (Nat × Addr × Option OD)
def PinOk (π : Pins) (ρ : Env) (σ : L2.St) : Prop := ∀ (j : Nat) (p : Addr) (c : Option OD), (j, p, c) ∈ π → σ[j]? = some (some (V.ref p)) ∧ ∃ b l o, ρ[j]? = some (.own b l o) ∧ (c = none → b = true) ∧ ∀ o', c = some o' → l = true ∧ o = o'
theorem pin_or {b l : Bool} {o : OD} {c : Option OD} (h : c = none → b = true) (k : ∀ o', c = some o' → l = true ∧ o = o') : b = true ∨ l = true := by
  cases c with
  | none => exact .inl (h rfl)
  | some o' => exact .inr (k o' rfl).1
structure Rel (π : Pins) (ρ : Env) (G F : Hp) (σ : L2.St) (H : Hp) : Prop extends Rel0 Γ ρ G F σ H where
  pin : PinOk π ρ σ
def ResR (G F H : Hp) (ρ : Env) (σ : L2.St) (r : Res) (v : V) : Prop := match r with
  | .imm d => R Γ G v d
  | .bor i => σ[i]? = some (some v)
  | .fr o => ∃ p, v = .ref p ∧ G p = none ∧ F p = none ∧ OwnAt Γ G H p o ∧ ∀ (i : Nat), isOwn ρ[i]? = true → σ[i]? ≠ some (some (V.ref p))
variable {Γ}
variable {π : Pins} {ρ : Env} {G F H G' H' : Hp} {σ : L2.St}
theorem isOwn_iff {s : Option Slot} : isOwn s = true ↔ ∃ p l o, s = some (.own p l o) := by
  constructor
  · intro h
    unfold isOwn at h
    split at h
    · exact ⟨_, _, _, rfl⟩
    · cases h
  · rintro ⟨p, l, o, rfl⟩
    rfl
/-- everything that stood is kept, new things come -/
structure Grow (G H G' H' : Hp) : Prop where
  e : Ex G G'
  g : Ex G' H'
  k : ∀ a u, H a = some u → G a = none → H' a = some u ∧ G' a = none
theorem Grow.refl (g : Ex G H) : Grow G H G H := ⟨Ex.refl _, g, fun _ _ h n => ⟨h, n⟩⟩
theorem Grow.trans {G1 H1 G2 H2 : Hp} (a : Grow G H G1 H1) (b : Grow G1 H1 G2 H2) : Grow G H G2 H2 := ⟨a.e.trans b.e, b.g, fun x u h n => b.k x u (a.k x u h n).1 (a.k x u h n).2⟩
theorem Rel0.grow (R0 : Rel0 Γ ρ G F σ H) (w : Grow G H G' H') : Rel0 Γ ρ G' F σ H' where
  g := w.g
  f := fun a u h => by
    cases q : G a with
    | none => exact (w.k a u (R0.f a u h) q).1
    | some z => rw [R0.dis a z q] at h; cases h
  dis := fun a u h => by
    cases q : F a with
    | none => rfl
    | some z =>
      have n : G a = none := by
        cases y : G a with
        | none => rfl
        | some t => rw [R0.dis a t y] at q; cases q
      rw [(w.k a z (R0.f a z q) n).2] at h; cases h
  len := R0.len
  slot := fun i s h => by
    have x := R0.slot i s h
    cases s with
    | emp => trivial
    | imm d => obtain ⟨v, e, r⟩ := x; exact ⟨v, e, r.mono w.e⟩
    | own p l o =>
      obtain ⟨p, e, n, nf, y⟩ := x
      obtain ⟨u, hu⟩ := y.ex
      exact ⟨p, e, (w.k p u hu n).2, nf, y.mono w.e fun t ht => (w.k p t ht n).1⟩
  inj := R0.inj
theorem Rel.grow (R0 : Rel Γ π ρ G F σ H) (w : Grow G H G' H') : Rel Γ π ρ G' F σ H' := ⟨R0.toRel0.grow w, R0.pin⟩
/-- a result stays through what comes next -/
theorem ResR.grow {r : Res} {v : V} (x : ResR Γ G F H ρ σ r v) (w : Grow G H G' H') : ResR Γ G' F H' ρ σ r v := by
  cases r with
  | imm d => exact R.mono w.e x
  | bor i => exact x
  | fr o =>
    obtain ⟨p, e, n, nf, y, z⟩ := x
    obtain ⟨u, hu⟩ := y.ex
    exact ⟨p, e, (w.k p u hu n).2, nf, y.mono w.e fun t ht => (w.k p t ht n).1, z⟩
/-- own things are not the others' -/
theorem Rel0.own (R0 : Rel0 Γ ρ G F σ H) {i : Nat} {p l : Bool} {o : OD} (h : ρ[i]? = some (.own p l o)) : ∃ a, σ[i]? = some (some (V.ref a)) ∧ G a = none ∧ F a = none ∧ OwnAt Γ G H a o := R0.slot i _ h
theorem Rel0.imm (R0 : Rel0 Γ ρ G F σ H) {i : Nat} {d : Dat} (h : ρ[i]? = some (.imm d)) : ∃ v, σ[i]? = some (some v) ∧ R Γ G v d := R0.slot i _ h
theorem Rel0.deref (R0 : Rel0 Γ ρ G F σ H) {r : Res} {v : V} {d : Dat} (x : ResR Γ G F H ρ σ r v) (h : deref ρ r = some d) : RB Γ G H v d := by
  cases r with
  | imm e => cases h; exact .inl x
  | fr o =>
    obtain ⟨p, e, n, nf, y, z⟩ := x
    cases h
    exact .inr ⟨p, o, e, y, n, rfl⟩
  | bor i =>
    have x : σ[i]? = some (some v) := x
    cases q : ρ[i]? with
    | none => simp [VI.deref, q] at h
    | some s =>
      have h' : slotDat s = some d := by simpa [VI.deref, q] using h
      cases s with
      | emp => cases h'
      | imm e =>
        cases h'
        obtain ⟨v', e1, r⟩ := R0.imm q
        rw [x] at e1; cases e1
        exact .inl r
      | own p l o =>
        cases h'
        obtain ⟨a, e1, n, nf, y⟩ := R0.own q
        rw [x] at e1; cases e1
        exact .inr ⟨a, o, rfl, y, n, rfl⟩
/-- a fresh object turns into plain data -/
theorem Rel0.absorb (R0 : Rel0 Γ ρ G F σ H) {p : Addr} {u : HO} (n : G p = none) (nf : F p = none) (h : H p = some u) (z : ∀ (i : Nat), isOwn ρ[i]? = true → σ[i]? ≠ some (some (V.ref p))) : Rel0 Γ ρ (upd G p u) F σ H where
  g := R0.g.both h
  f := R0.f
  dis := fun a w e => by
    by_cases q : a = p
    · subst q; exact nf
    · rw [upd_ne q] at e; exact R0.dis a w e
  len := R0.len
  slot := fun i s q => by
    have x := R0.slot i s q
    cases s with
    | emp => trivial
    | imm d => obtain ⟨v, e, r⟩ := x; exact ⟨v, e, r.mono (Ex.new n)⟩
    | own b l o =>
      obtain ⟨a, e, n', nf', y⟩ := x
      have ne : a ≠ p := fun w => z i (isOwn_iff.mpr ⟨_, _, _, q⟩) (by rw [e, w])
      exact ⟨a, e, by rw [upd_ne ne]; exact n', nf', y.mono (Ex.new n) fun _ t => t⟩
  inj := R0.inj
theorem Rel.settle (R0 : Rel Γ π ρ G F σ H) {r : Res} {v : V} (x : ResR Γ G F H ρ σ r v) : ∃ G1, Ex G G1 ∧ Rel Γ π ρ G1 F σ H ∧ ResR Γ G1 F H ρ σ (settle r) v := by
  cases r with
  | imm d => exact ⟨G, Ex.refl _, R0, x⟩
  | bor i => exact ⟨G, Ex.refl _, R0, x⟩
  | fr o =>
    obtain ⟨p, rfl, n, nf, y, z⟩ := x
    obtain ⟨u, hu, r⟩ := y.keep n
    exact ⟨upd G p u, Ex.new n, ⟨R0.toRel0.absorb n nf hu z, R0.pin⟩, r⟩
end VI
/-! VI, soundness: operators -/
namespace VI
open PySem L2
variable {Γ : Tab} {X : Cx}
/-! ### data -/
mutual
theorem py_plain : ∀ d : Dat, d.pl = true → d.py.plain = true
  | .non, _ => rfl | .bl _, _ => rfl | .int _, _ => rfl | .str _, _ => rfl
  | .lst xs, h => pys_plain xs h
  | .tup xs, h => pys_plain xs h
  | .dK _, h => nomatch h | .dT _, h => nomatch h | .ins _ _, h => nomatch h
theorem pys_plain : ∀ ds : List Dat, Dat.pls ds = true → PyData.plainAll (Dat.pys ds) = true
  | [], _ => rfl
  | d :: ds, h => by
    have h' : d.pl = true ∧ Dat.pls ds = true := by simpa [Dat.pls] using h
    show (PyData.plain d.py && PyData.plainAll (Dat.pys ds)) = true
    rw [py_plain d h'.1, pys_plain ds h'.2]; rfl
end
mutual
theorem py_depth : ∀ d : Dat, d.py.depth ≤ d.dep
  | .non => Nat.le_refl _ | .bl _ => Nat.le_refl _ | .int _ => Nat.le_refl _ | .str _ => Nat.le_refl _
  | .lst xs => Nat.succ_le_succ (pys_depth xs)
  | .tup xs => Nat.succ_le_succ (pys_depth xs)
  | .dK _ => Nat.zero_le _ | .dT _ => Nat.zero_le _ | .ins _ _ => Nat.zero_le _
theorem pys_depth : ∀ ds : List Dat, PyData.depthAll (Dat.pys ds) ≤ Dat.deps ds
  | [] => Nat.le_refl _
  | d :: ds => by
    have h1 := py_depth d
    have h2 := pys_depth ds
    show max (PyData.depth d.py) (PyData.depthAll (Dat.pys ds)) ≤ max (Dat.dep d) (Dat.deps ds)
    omega
end
mutual
theorem r_dp {G : Hp} : ∀ (d : Dat) (v : V), d.pl = true → R Γ G v d → Dp Γ.K G v d.py
  | .non, _, _, r => by cases r; exact .non
  | .bl _, _, _, r => by cases r; exact .bl _
  | .int _, _, _, r => by cases r; exact .int _
  | .str _, _, _, r => by cases r; exact .str _
  | .lst ds, _, h, r => by
    cases r with
    | lst hr hl q => exact .lst hr.sql (r_dps ds _ h hl q)
  | .tup ds, _, h, r => by
    cases r with
    | tup hr hl q => exact .tup (.inl (.inl hr)) (r_dps ds _ h hl q)
  | .dK _, _, h, _ => nomatch h
  | .dT _, _, h, _ => nomatch h
  | .ins _ _, _, h, _ => nomatch h
theorem r_dps {G : Hp} : ∀ (ds : List Dat) (vs : List V), Dat.pls ds = true → vs.length = ds.length → (∀ (i : Nat) (v : V) (d : Dat), vs[i]? = some v → ds[i]? = some d → R Γ G v d) → DpAll Γ.K G vs (Dat.pys ds)
  | [], [], _, _, _ => .nil
  | [], _ :: _, _, l, _ => nomatch l
  | _ :: _, [], _, l, _ => nomatch l
  | d :: ds, v :: vs, h, l, q => by
    have h' : d.pl = true ∧ Dat.pls ds = true := by simpa [Dat.pls] using h
    exact .cons (r_dp d v h'.1 (q 0 v d rfl rfl)) (r_dps ds vs h'.2 (by simpa using l) fun i x y a b => q (i + 1) x y (by simpa using a) (by simpa using b))
end
theorem Dp.mono {K : PySem.W.Frag} {G H : Hp} (e : Ex G H) : ∀ {v : V} {d : PyData}, Dp K G v d → Dp K H v d := by
  intro v d h
  have sl : ∀ {a xs}, SqL K G a xs → SqL K H a xs := fun {a xs} q => by
    rcases q with q | q
    · exact .inl (e.rd q)
    · exact .inr q
  have st : ∀ {a xs}, SqT K G a xs → SqT K H a xs := fun {a xs} q => by
    rcases q with q | q
    · exact .inl (e.rd q)
    · exact .inr q
  refine Dp.rec (motive_1 := fun v d _ => Dp K H v d) (motive_2 := fun vs ds _ => DpAll K H vs ds) .non (fun b => .bl b) (fun i => .int i) (fun x => .str x) (fun q _ ih => .lst (sl q) ih) (fun q _ ih => .tup (st q) ih) .nil (fun _ _ a b => .cons a b) h
theorem RB.dp {G H : Hp} (e : Ex G H) {v : V} {d : Dat} (h : d.pl = true) (r : RB Γ G H v d) : Dp Γ.K H v d.py := by
  rcases r with r | ⟨p, o, rfl, x, n, rfl⟩
  · exact Dp.mono e (r_dp d v h r)
  · cases o with
    | lst ds =>
      obtain ⟨vs, hp, l, q⟩ := x
      exact .lst (.inl (.inl hp)) (r_dps ds vs h l fun i x y a b => (q i x y a b).mono e)
    | dK _ => cases h
    | dT _ => cases h
    | ins _ _ => cases h
/-! ### results of operators -/
variable (Γ)
/-- a plain value, or a new object -/
def Res0 (H G' H' : Hp) (r : Res) (v : V) : Prop := match r with
  | .imm d => R Γ G' v d
  | .fr o => ∃ p, v = .ref p ∧ H p = none ∧ G' p = none ∧ OwnAt Γ G' H' p o
  | .bor _ => False
variable {Γ}
theorem Rel0.res0 {ρ : Env} {G F H G' H' : Hp} {σ : L2.St} {r : Res} {v : V} (R0 : Rel0 Γ ρ G F σ H) (w : Grow G H G' H') (x : Res0 Γ H G' H' r v) : ResR Γ G' F H' ρ σ r v := by
  cases r with
  | imm d => exact x
  | bor i => exact x.elim
  | fr o =>
    obtain ⟨p, rfl, hp, n, y⟩ := x
    refine ⟨p, rfl, n, R0.f.isNone hp, y, fun i h z => ?_⟩
    obtain ⟨b, l, o', e⟩ := isOwn_iff.mp h
    obtain ⟨a, e1, _, _, y'⟩ := R0.own e
    rw [z] at e1; cases e1
    obtain ⟨u, hu⟩ := y'.ex
    rw [hp] at hu; cases hu
/-- a scalar -/
theorem r0_sc {G H : Hp} {v : V} {d : Dat} (r : R Γ G v d) : Res0 Γ H G H (.imm d) v := r
theorem grow_new {G H : Hp} (g : Ex G H) {p : Addr} {o : HO} (h : H p = none) : Grow G H G (upd H p o) := ⟨Ex.refl _, g.ups h, fun a u e n => ⟨by rw [upd_ne (ne_of_none e h)]; exact e, n⟩⟩
theorem grow_imm {G H : Hp} (g : Ex G H) {p : Addr} {o : HO} (h : H p = none) : Grow G H (upd G p o) (upd H p o) := ⟨Ex.new (g.isNone h), (g.ups h).both upd_same, fun a u e n => ⟨by rw [upd_ne (ne_of_none e h)]; exact e, by rw [upd_ne (ne_of_none e h)]; exact n⟩⟩
theorem r0_lst {G H : Hp} (g : Ex G H) {p : Addr} {vs : List V} {ds : List Dat} (h : H p = none) (r : RL Γ G vs ds) : Res0 Γ H G (upd H p (.lst vs)) (.fr (.lst ds)) (.ref p) := ⟨p, rfl, h, g.isNone h, vs, upd_same, r⟩
theorem r0_tup {G H : Hp} (g : Ex G H) {p : Addr} {vs : List V} {ds : List Dat} (h : H p = none) (r : RL Γ G vs ds) : R Γ (upd G p (.tup vs)) (.ref p) (.tup ds) := .tup upd_same r.1 fun i v d a b => (r.2 i v d a b).mono (Ex.new (g.isNone h))
/-- a rule over values serves what data say -/
def Op2 (r : R2) (f : Dat → Dat → Option Res) (Γ : Tab) : Prop := ∀ (G H : Hp) (x y : V) (dx dy : Dat) (res : Res) (Q : VK), Ex G H → RB Γ G H x dx → RB Γ G H y dy → f dx dy = some res →
  (∀ G' H' v, Grow G H G' H' → Res0 Γ H G' H' res v → Q v H') → r x y H Q
def rOr (r r' : R2) : R2 := fun x y H Q => r x y H Q ∨ r' x y H Q
theorem OpR.or {f : Value → Value → Sem Value} {r r' : R2} (a : OpR X f r) (b : OpR X f r') : OpR X f (rOr r r') := fun pins s σ H x y v u Q I rx ry h => by
  rcases h with h | h
  · exact a pins s σ H x y v u Q I rx ry h
  · exact b pins s σ H x y v u Q I rx ry h
/-- list + list, either may be read only -/
def rCatS (K : PySem.W.Frag) : R2 := fun x y H Q => ∃ l b xs zs, x = .ref l ∧ y = .ref b ∧ SqX K H l xs ∧ SqX K H b zs ∧ xs.length + zs.length ≤ sizeLine ∧ ∀ p, H p = none → Q (.ref p) (upd H p (.lst (xs ++ zs)))
theorem op_catS : OpR X (binaryOp .Add) (rCatS X.K) := by
  intro pins s σ H x y v u Q I rx ry h
  obtain ⟨l, b, xs, zs, rfl, rfl, hH, hB, hz, q⟩ := h
  cases rx
  cases ry
  obtain ⟨z, its, n, r, e⟩ := hH.ok I
  obtain ⟨z2, its2, n2, r2, e2⟩ := hB.ok I
  have hl := r.length
  have hl2 := r2.length
  refine PySem.P.add_list e e2 ?_ (by rw [List.size_toArray, List.size_toArray]; omega)
  have ea : its.toArray ++ its2.toArray = (its ++ its2).toArray := by simp
  rw [ea]
  exact ⟨.ref _, _, I.lnew (t' := s.toks) (r.append r2) (by rw [List.length_append]; omega), rfl, q _ I.fresh⟩
/-- list * int, the list read only or not -/
def rRepS (K : PySem.W.Frag) : R2 := fun x y H Q => ∃ l k xs, x = .ref l ∧ y = .int k ∧ SqX K H l xs ∧ (-(2 ^ 63) ≤ k ∧ k < 2 ^ 63) ∧ xs.length * k.toNat ≤ sizeLine ∧
  ∀ p, H p = none → Q (.ref p) (upd H p (.lst (List.replicate k.toNat xs).flatten))
theorem op_repS : OpR X (binaryOp .Mult) (rRepS X.K) := by
  intro pins s σ H x y v u Q I rx ry h
  obtain ⟨l, k, xs, rfl, rfl, hR, ⟨lo, up⟩, hz, q⟩ := h
  cases rx
  obtain ⟨t, rfl⟩ := ry
  obtain ⟨z, its, n, r, e⟩ := hR.ok I
  have sz : its.toArray.size * k.toNat ≤ sizeLine := by rw [List.size_toArray, ← r.length]; exact hz
  have c1 : ¬ its.toArray.size * k.toNat > (2 ^ 63 - 1) / 8 := by
    have w : (sizeLine : Nat) ≤ (2 ^ 63 - 1) / 8 := by decide
    omega
  have c2 : ¬ (!Builtin.List.listFitsIndex k) = true := by
    rw [fitsIndex_both lo up]; decide
  have c3 : ¬ Builtin.List.listTooLong (its.toArray.size * k.toNat) = true := by
    rw [notLongL sz]; decide
  have res : List.foldl (fun x1 x2 => x1 ++ x2) #[] (List.replicate (if its.toArray.isEmpty = true then 0 else k.toNat) its.toArray) = (List.replicate k.toNat its).flatten.toArray := by
    have g0 : ∀ m : Nat, List.foldl (fun x1 x2 => x1 ++ x2) #[] (List.replicate m its.toArray) = (List.replicate m its).flatten.toArray := fun m => by
      simpa using foldl_rep its m []
    rw [g0]
    cases its with
    | nil => simp
    | cons a r' => rw [if_neg (by simp)]
  have meet := AutoListH.list___mul___list_int_3 l its.toArray n k t c2 c1 c3
  refine wpAny_binaryOp_repeat_ref (T := "list") (U := "int") (by decide) ⟨_, e, rfl⟩ (fun s' => typeIs_int s' k t) noFill_list_mul F.fills_int_mul F.slot_int_rmul repeat_list F.slot_int_index.lookup ?_
  refine call_meets F.slot_int_rmul (typeIs_int s k t) F.entry_int_rmul (F.args_int_rmul_2 _ _) (int___rmul___int_list k t l its.toArray n) ⟨e, rfl, ⟨_, e, rfl⟩, ?_⟩
  refine call_meets F.slot_list_mul ⟨_, e, rfl⟩ F.entry_list_mul (F.args_list_mul_2 _ _) meet ⟨e, ?_⟩
  rw [res]
  exact ⟨.ref _, _, I.lnew (t' := s.toks) (r.rep k.toNat) (by rw [PyProof.Rows.lm_len_rep_flat, Nat.mul_comm]; exact hz), rfl, q _ I.fresh⟩
theorem flat_rl {G : Hp} {vs : List V} {ds : List Dat} (r : RL Γ G vs ds) : ∀ n : Nat, RL Γ G (List.replicate n vs).flatten (List.replicate n ds).flatten
  | 0 => RL.nil
  | n + 1 => by
    rw [List.replicate_succ, List.replicate_succ, List.flatten_cons, List.flatten_cons]
    exact r.append (flat_rl r n)
/-! ### + - * // % ** & -/
def opOf : Bo → Operator
  | .add => .Add | .sub => .Sub | .mul => .Mult | .fdiv => .FloorDiv | .mod => .Mod | .pow => .Pow | .band => .BitAnd
def rBo (K : PySem.W.Frag) : Bo → R2
  | .add => rOr (rI0 fun i j => .int (i + j)) (rCatS K)
  | .sub => rI0 fun i j => .int (i - j)
  | .mul => rOr (rI CMul fun i j => .int (i * j)) (rOr (rI CMulW fun i j => .int (i * j)) (rRepS K))
  | .fdiv => rI CDivW fun i j => .int (i / j)
  | .mod => rI (fun _ j => 0 < j) fun i j => .int (i % j)
  | .pow => rI CPow fun i j => .int (i ^ j.toNat)
  | .band => rI0 fun i j => .int (Builtin.bitAnd i j)
theorem op_bo (o : Bo) : OpR X (binaryOp (opOf o)) (rBo X.K o) := by
  cases o with
  | add => exact OpR.or op_add op_catS
  | sub => exact op_sub
  | mul => exact OpR.or op_mul (OpR.or op_mulW op_repS)
  | fdiv => exact op_fdivW
  | mod => exact op_mod
  | pow => exact op_pow
  | band => exact op_and
theorem grd_some {α : Type} {b : Bool} {x y : α} (h : grd b x = some y) : b = true ∧ x = y := by
  unfold grd at h
  split at h
  · rename_i hb; exact ⟨hb, Option.some.inj h⟩
  · cases h
theorem line_eq : line = sizeLine := rfl
theorem big_log {n : Nat} (h : n < big) : n.log2 < 4000 := PySem.Flt.log2_lt_of (by decide) h
theorem bo_ok {K : PySem.W.Frag} (hK : K = Γ.K) (o : Bo) : Op2 (rBo K o) (binD o) Γ := by
  subst hK
  intro G H x y dx dy res Q g rx ry h q
  have fin : ∀ {d : Dat} {v : V}, Res.imm d = res → R Γ G v d → Q v H := fun {d v} e r => by subst e; exact q G H v (Grow.refl g) r
  unfold binD at h
  split at h
  · cases rx.int; cases ry.int; exact .inl ⟨_, _, rfl, rfl, fin (Option.some.inj h) (.int _)⟩
  · cases rx.int; cases ry.int; exact ⟨_, _, rfl, rfl, fin (Option.some.inj h) (.int _)⟩
  · cases rx.int; cases ry.int
    rename_i i j
    obtain ⟨hb, e⟩ := grd_some h
    unfold mulOk at hb
    simp only [Bool.or_eq_true, Bool.and_eq_true, decide_eq_true_eq] at hb
    rcases hb with (hb | hb) | ⟨h1, h2⟩
    · exact .inl ⟨_, _, rfl, rfl, .inl ⟨by omega, by omega⟩, fin e (.int _)⟩
    · exact .inl ⟨_, _, rfl, rfl, .inr ⟨by omega, by omega⟩, fin e (.int _)⟩
    · have a1 := big_log h1
      have a2 := big_log h2
      exact .inr (.inl ⟨_, _, rfl, rfl, (by unfold CMulW; omega), fin e (.int _)⟩)
  · cases rx.int; cases ry.int
    obtain ⟨hb, e⟩ := grd_some h
    unfold divOk at hb
    simp only [Bool.and_eq_true, decide_eq_true_eq] at hb
    have a1 := big_log hb.2
    exact ⟨_, _, rfl, rfl, ⟨hb.1, by omega⟩, fin e (.int _)⟩
  · cases rx.int; cases ry.int
    obtain ⟨hb, e⟩ := grd_some h
    exact ⟨_, _, rfl, rfl, of_decide_eq_true hb, fin e (.int _)⟩
  · cases rx.int; cases ry.int
    obtain ⟨hb, e⟩ := grd_some h
    unfold powOk at hb
    simp only [Bool.and_eq_true, decide_eq_true_eq] at hb
    exact ⟨_, _, rfl, rfl, ⟨hb.1.1, hb.1.2, hb.2⟩, fin e (.int _)⟩
  · cases rx.int; cases ry.int; exact ⟨_, _, rfl, rfl, fin (Option.some.inj h) (.int _)⟩
  · obtain ⟨hb, e⟩ := grd_some h
    obtain ⟨l, xs, rfl, hl, r1⟩ := rx.lst g
    obtain ⟨b, zs, rfl, hr, r2⟩ := ry.lst g
    have hz := of_decide_eq_true hb
    rw [← r1.1, ← r2.1] at hz
    subst e
    exact .inr ⟨l, b, xs, zs, rfl, rfl, hl, hr, hz, fun p hp => q _ _ _ (grow_new g hp) (r0_lst g hp (r1.append r2))⟩
  · obtain ⟨hb, e⟩ := grd_some h
    obtain ⟨l, xs, rfl, hl, r1⟩ := rx.lst g
    cases ry.int
    simp only [Bool.and_eq_true, decide_eq_true_eq] at hb
    obtain ⟨⟨h1, h2⟩, h3⟩ := hb
    rw [← r1.1] at h3
    subst e
    exact .inr (.inr ⟨l, _, xs, rfl, rfl, hl, ⟨by omega, by omega⟩, h3, fun p hp => q _ _ _ (grow_new g hp) (r0_lst g hp (flat_rl r1 _))⟩)
  · cases h
/-! ### comparisons -/
theorem Dp.readsV {pins : List (Addr × Obj)} {σ : L2.St} {H : Hp} {s : Shared} (I : Inv X pins σ H s) {d : PyData} {v : V} {u : Value} (h : Dp X.K H v d) (r : RelV v u) : ∃ as, Reads s.heap u d as := Dp.reads I d v u h r
theorem dep_min {d e : Dat} (h : d.dep ≤ 64) : min d.py.depth e.py.depth ≤ 64 := Nat.le_trans (Nat.min_le_left _ _) (Nat.le_trans (py_depth d) h)
/-- x == y of any plain data -/
def rEqV (K : PySem.W.Frag) (neg : Bool) : R2 := fun x y H Q => ∃ d e : Dat, Dp K H x d.py ∧ Dp K H y e.py ∧ d.pl = true ∧ e.pl = true ∧ d.dep ≤ 64 ∧ Q (.bl (if neg then !PyData.eqv d.py e.py else PyData.eqv d.py e.py)) H
theorem op_eqV (hu : X.A.units + 64 < cLine) : OpR X (compareOp .Eq) (rEqV X.K false) := by
  intro pins s σ H x y v u Q I rx ry h
  obtain ⟨d, e, hd, he, pd, pe, dd, q⟩ := h
  obtain ⟨as, r1⟩ := Dp.readsV I hd rx
  obtain ⟨bs, r2⟩ := Dp.readsV I he ry
  have := dep_min (e := e) dd
  exact SeqAt.eq_plain r1 r2 (py_plain d pd) (py_plain e pe) (by omega) ⟨.bl _, H, I, rfl, q⟩
theorem op_neV (hu : X.A.units + 64 < cLine) : OpR X (compareOp .NotEq) (rEqV X.K true) := by
  intro pins s σ H x y v u Q I rx ry h
  obtain ⟨d, e, hd, he, pd, pe, dd, q⟩ := h
  obtain ⟨as, r1⟩ := Dp.readsV I hd rx
  obtain ⟨bs, r2⟩ := Dp.readsV I he ry
  have := dep_min (e := e) dd
  exact SeqAt.ne_plain r1 r2 (py_plain d pd) (py_plain e pe) (by omega) ⟨.bl _, H, I, rfl, q⟩
/-- x in ys, any plain data -/
def rInV (K : PySem.W.Frag) (neg : Bool) : R2 := fun x y H Q => ∃ (d : Dat) (es : List Dat), Dp K H x d.py ∧ (Dp K H y (.list (Dat.pys es)) ∨ Dp K H y (.tuple (Dat.pys es))) ∧ d.pl = true ∧ Dat.pls es = true ∧ d.dep ≤ 64 ∧
  Q (.bl (if neg then !((Dat.pys es).any fun z => PyData.eqv z d.py) else ((Dat.pys es).any fun z => PyData.eqv z d.py))) H
theorem op_inV (hu : X.A.units + 128 < cLine) (neg : Bool) : OpR X (compareOp (if neg then .NotIn else .In)) (rInV X.K neg) := by
  intro pins s σ H x y v u Q I rx ry h
  obtain ⟨d, es, hd, he, pd, pe, dd, q⟩ := h
  obtain ⟨as, r1⟩ := Dp.readsV I hd rx
  have d0 := py_depth d
  have un : X.A.units + 1 + min (PyData.depthAll (Dat.pys es)) d.py.depth < cLine := by omega
  have pp := pys_plain es pe
  have pq := py_plain d pd
  rcases he with he | he
  · obtain ⟨bs, r2⟩ := Dp.readsV I he ry
    cases neg with
    | false => exact SeqAt.in_list_data r2 r1 pp pq un ⟨.bl _, H, I, rfl, q⟩
    | true => exact SeqAt.notIn_list_data r2 r1 pp pq un ⟨.bl _, H, I, rfl, q⟩
  · obtain ⟨bs, r2⟩ := Dp.readsV I he ry
    cases neg with
    | false => exact SeqAt.in_tuple_data r2 r1 pp pq un ⟨.bl _, H, I, rfl, q⟩
    | true => exact SeqAt.notIn_tuple_data r2 r1 pp pq un ⟨.bl _, H, I, rfl, q⟩
theorem pys_map : ∀ ds : List Dat, Dat.pys ds = ds.map Dat.py
  | [] => rfl
  | d :: ds => by rw [Dat.pys, pys_map ds]; rfl
/-! ### dicts -/
theorem keyD_v {G : Hp} {d : Dat} {k : Key} {v : V} (h : keyD d = some k) (r : R Γ G v d) : v = kV k := by
  cases d <;> cases h <;> cases r <;> rfl
theorem keysD_v {G : Hp} : ∀ {ds : List Dat} {ks : List Key} {vs : List V}, keysD ds = some ks → RL Γ G vs ds → vs = ks.map kV
  | [], ks, vs, h, r => by
    cases h
    cases vs with
    | nil => rfl
    | cons _ _ => exact absurd r.1 (by simp)
  | d :: ds, ks, vs, h, r => by
    cases vs with
    | nil => exact absurd r.1 (by simp)
    | cons v vs =>
      unfold keysD at h
      split at h
      · rename_i k ks' h1 h2
        cases h
        rw [List.map_cons, keyD_v h1 r.head, ← keysD_v h2 r.tail]
      · cases h
theorem RB.key {G H : Hp} {d : Dat} {k : Key} {v : V} (h : keyD d = some k) (r : RB Γ G H v d) : v = kV k := by
  cases d <;> cases h
  · rw [r.int]; rfl
  · rw [r.str]; rfl
theorem RB.keyT {G H : Hp} (e : Ex G H) {d : Dat} {k : List Key} {v : V} (h : VI.keyT d = some k) (r : RB Γ G H v d) : ∃ b, v = .ref b ∧ H b = some (.tup (k.map kV)) := by
  cases d <;> first | (cases h; done) | skip
  obtain ⟨p, vs, rfl, hp, rl⟩ := r.tup e
  exact ⟨p, rfl, by rw [hp, keysD_v h rl]⟩
theorem look_val {κ : Type} [DecidableEq κ] {G : Hp} (k : κ) : ∀ {kvs : List (κ × V)} {ds : List (κ × Dat)}, RK Γ G kvs ds → (look k ds = none ∧ valV kvs k = none) ∨ ∃ d v, look k ds = some d ∧ valV kvs k = some v ∧ R Γ G v d
  | [], [], _ => .inl ⟨rfl, rfl⟩
  | [], _ :: _, r => absurd r.1 (by simp)
  | _ :: _, [], r => absurd r.1 (by simp)
  | p :: kvs, d :: ds, r => by
    have hk : p.1 = d.1 := by have := r.1; simp at this; exact this.1
    have r' : RK Γ G kvs ds := ⟨by have := r.1; simp at this; exact this.2, fun i x y a b => r.2 (i + 1) x y (by simpa using a) (by simpa using b)⟩
    by_cases e : d.1 = k
    · exact .inr ⟨d.2, p.2, by simp [look, e], by rw [valV_pos (hk.trans e)], r.2 0 p d rfl rfl⟩
    · have e' : ¬ p.1 = k := fun z => e (hk ▸ z)
      rw [valV_neg e']
      simp only [look, if_neg e]
      exact look_val k r'
theorem put_rk {κ : Type} [DecidableEq κ] {G : Hp} {k : κ} {v : V} {d : Dat} {kvs : List (κ × V)} {ds : List (κ × Dat)} (r : RK Γ G kvs ds) (q : R Γ G v d) : RK Γ G (putK kvs k v) (put k d ds) := by
  have ea : (kvs.any fun p => decide (p.1 = k)) = ds.any fun p => decide (p.1 = k) := by
    have h1 : (kvs.any fun p => decide (p.1 = k)) = (kvs.map (·.1)).any fun x => decide (x = k) := by rw [List.any_map]; rfl
    have h2 : (ds.any fun p => decide (p.1 = k)) = (ds.map (·.1)).any fun x => decide (x = k) := by rw [List.any_map]; rfl
    rw [h1, h2, r.1]
  have le : kvs.length = ds.length := by have := congrArg List.length r.1; simpa using this
  unfold putK put
  rw [ea]
  split
  · refine ⟨?_, fun i x y a b => ?_⟩
    · rw [List.map_map, List.map_map]
      have f1 : ∀ l : List (κ × V), l.map ((fun p => p.1) ∘ fun kv => if kv.1 = k then (kv.1, v) else kv) = l.map (·.1) := fun l => List.map_congr_left fun p _ => by simp only [Function.comp]; split <;> rfl
      have f2 : ∀ l : List (κ × Dat), l.map ((fun p => p.1) ∘ fun kv => if kv.1 = k then (kv.1, d) else kv) = l.map (·.1) := fun l => List.map_congr_left fun p _ => by simp only [Function.comp]; split <;> rfl
      rw [f1, f2, r.1]
    · rw [List.getElem?_map] at a b
      obtain ⟨x', hx, rfl⟩ := Option.map_eq_some_iff.mp a
      obtain ⟨y', hy, rfl⟩ := Option.map_eq_some_iff.mp b
      have hk : x'.1 = y'.1 := by
        have z : (kvs.map (·.1))[i]? = (ds.map (·.1))[i]? := by rw [r.1]
        rw [List.getElem?_map, List.getElem?_map, hx, hy] at z
        exact Option.some.inj z
      by_cases e : y'.1 = k
      · rw [if_pos e, if_pos (hk.trans e)]; exact q
      · rw [if_neg e, if_neg fun z => e (hk ▸ z)]; exact r.2 i x' y' hx hy
  · refine ⟨by rw [List.map_append, List.map_append, r.1]; rfl, fun i x y a b => ?_⟩
    by_cases h : i < kvs.length
    · rw [List.getElem?_append_left h] at a
      rw [List.getElem?_append_left (by omega)] at b
      exact r.2 i x y a b
    · rw [List.getElem?_append_right (by omega)] at a
      rw [List.getElem?_append_right (by omega), ← le] at b
      cases hj : i - kvs.length with
      | zero => rw [hj] at a b; simp at a b; subst a b; exact q
      | succ j => rw [hj] at a; simp at a
/-- x in d -/
def rInD (neg : Bool) : R2 := fun y x H Q => ∃ a o, x = .ref a ∧ DGet H a y o ∧ Q (.bl (if neg then !o.isSome else o.isSome)) H
theorem op_inDict (hu : X.A.units + 1 < cLine) (neg : Bool) : OpR X (compareOp (if neg then .NotIn else .In)) (rInD neg) := by
  intro pins s σ H x y v u Q I rx ry h
  obtain ⟨a, o, rfl, g, q⟩ := h
  cases ry
  cases neg with
  | false => exact d_in hu I g rx fun s' I' => ⟨.bl _, H, I', rfl, q⟩
  | true => exact d_notIn hu I g rx fun s' I' => ⟨.bl _, H, I', rfl, q⟩
def rGetD : R2 := fun x y H Q => ∃ a v, x = .ref a ∧ DGet H a y (some v) ∧ Q v H
theorem dget_type {pins : List (Addr × Obj)} {σ : L2.St} {H : Hp} {s : Shared} {a : Addr} {y : V} {o : Option V} (I : Inv X pins σ H s) (g : DGet H a y o) : s.TypeIs (.ref a) "dict" := dict_typeIs I g
theorem ix_dict (hu : X.A.units + 1 < cLine) : IxR X rGetD := by
  intro value slice pins s σ H x y v u Q I rx ry h hs
  obtain ⟨a, w, rfl, g, q⟩ := h
  cases rx
  exact PyProof.Rows.tail_any (dget_type I g) PySem.F.slot_dict_getitem.lookup (d_getItem hu I g ry fun w' s3 I3 rw' => ⟨w, H, I3, rw', q⟩) hs
end VI
/-! VI, soundness: comparisons, places, built-ins by values -/
namespace VI
open PySem L2
variable {Γ : Tab} {X : Cx} {K : PySem.W.Frag}
def coOf : Co → CmpOp
  | .eq => .Eq | .ne => .NotEq | .lt => .Lt | .le => .LtE | .gt => .Gt | .ge => .GtE | .isin => .In | .notin => .NotIn | .isN => .Is | .notN => .IsNot
def rIs (neg : Bool) : R2 := fun x y H Q => y = .non ∧ Q (.bl (if neg then !decide (x = .non) else decide (x = .non))) H
def rCo (K : PySem.W.Frag) : Co → R2
  | .eq => rEqV K false | .ne => rEqV K true
  | .lt => rI0 fun i j => .bl (decide (i < j)) | .le => rI0 fun i j => .bl (decide (i ≤ j))
  | .gt => rI0 fun i j => .bl (decide (j < i)) | .ge => rI0 fun i j => .bl (decide (j ≤ i))
  | .isin => rOr (rInV K false) (rInD false) | .notin => rOr (rInV K true) (rInD true)
  | .isN => rIs false | .notN => rIs true
theorem op_co (hu : X.A.units + 128 < cLine) (o : Co) : OpR X (compareOp (coOf o)) (rCo X.K o) := by
  cases o with
  | eq => exact op_eqV (by omega)
  | ne => exact op_neV (by omega)
  | lt => exact op_lt
  | le => exact op_le
  | gt => exact op_gt
  | ge => exact op_ge
  | isin => exact OpR.or (op_inV hu false) (op_inDict (by omega) false)
  | notin => exact OpR.or (op_inV hu true) (op_inDict (by omega) true)
  | isN => exact op_isN
  | notN => exact op_notN
theorem eqD_some {d e : Dat} {b : Bool} (h : eqD d e = some b) : d.pl = true ∧ e.pl = true ∧ d.dep ≤ 64 ∧ PyData.eqv d.py e.py = b := by
  unfold eqD at h
  obtain ⟨h1, h2⟩ := grd_some h
  simp only [Bool.and_eq_true, decide_eq_true_eq] at h1
  exact ⟨h1.1.1.1, h1.1.1.2, h1.1.2, h2⟩
theorem RB.isNon {G H : Hp} {v : V} {d : Dat} (r : RB Γ G H v d) : decide (v = .non) = isNon d := by
  rcases r with r | ⟨p, o, rfl, x, n, rfl⟩
  · cases r <;> simp [VI.isNon]
  · cases o <;> simp [VI.isNon]
theorem co_ok (hK : K = Γ.K) (o : Co) : ∀ (G H : Hp) (x y : V) (dx dy : Dat) (b : Bool) (Q : VK), Ex G H → RB Γ G H x dx → RB Γ G H y dy → cmpB o dx dy = some b → Q (.bl b) H → rCo K o x y H Q := by
  subst hK
  intro G H x y dx dy b Q g rx ry h q
  have inn : ∀ (neg : Bool) (b' : Bool), inD dx dy = some b' → Q (.bl (if neg then !b' else b')) H → rOr (rInV Γ.K neg) (rInD neg) x y H Q := by
    intro neg b' h q
    unfold inD at h
    split at h
    · obtain ⟨h1, h2⟩ := grd_some h
      simp only [Bool.and_eq_true, decide_eq_true_eq] at h1
      refine .inl ⟨dx, _, rx.dp g h1.1.1.1, .inl (RB.dp g (d := .lst _) h1.1.1.2 ry), h1.1.1.1, h1.1.1.2, h1.1.2, ?_⟩
      rw [pys_map, List.any_map]
      have e : ∀ l : List Dat, l.any ((fun z => PyData.eqv z dx.py) ∘ Dat.py) = l.any fun y => PyData.eqv y.py dx.py := fun l => rfl
      rw [e, h2]; exact q
    · obtain ⟨h1, h2⟩ := grd_some h
      simp only [Bool.and_eq_true, decide_eq_true_eq] at h1
      refine .inl ⟨dx, _, rx.dp g h1.1.1.1, .inr (RB.dp g (d := .tup _) h1.1.1.2 ry), h1.1.1.1, h1.1.1.2, h1.1.2, ?_⟩
      rw [pys_map, List.any_map]
      have e : ∀ l : List Dat, l.any ((fun z => PyData.eqv z dx.py) ∘ Dat.py) = l.any fun y => PyData.eqv y.py dx.py := fun l => rfl
      rw [e, h2]; exact q
    · split at h
      · rename_i k hk
        cases h
        obtain ⟨p, kvs, rfl, hp, rk⟩ := ry.dK g
        refine .inr ⟨p, valV kvs k, rfl, .inl ⟨kvs, k, hp, rx.key hk, rfl⟩, ?_⟩
        rcases look_val k rk with ⟨e1, e2⟩ | ⟨d, v, e1, e2, _⟩
        · rw [e2]; rw [e1] at q; exact q
        · rw [e2]; rw [e1] at q; exact q
      · cases h
    · split at h
      · rename_i k hk
        cases h
        obtain ⟨p, kvs, rfl, hp, rk⟩ := ry.dT g
        obtain ⟨t, rfl, ht⟩ := rx.keyT g hk
        refine .inr ⟨p, valV kvs k, rfl, .inr ⟨kvs, k, t, hp, rfl, ht, rfl⟩, ?_⟩
        rcases look_val k rk with ⟨e1, e2⟩ | ⟨d, v, e1, e2, _⟩
        · rw [e2]; rw [e1] at q; exact q
        · rw [e2]; rw [e1] at q; exact q
      · cases h
    · cases h
  unfold cmpB at h
  split at h
  · obtain ⟨p1, p2, p3, e⟩ := eqD_some h
    subst e
    exact ⟨dx, dy, rx.dp g p1, ry.dp g p2, p1, p2, p3, q⟩
  · obtain ⟨b', h', e⟩ := Option.map_eq_some_iff.mp h
    obtain ⟨p1, p2, p3, e'⟩ := eqD_some h'
    subst e'
    subst e
    exact ⟨dx, dy, rx.dp g p1, ry.dp g p2, p1, p2, p3, q⟩
  · cases h; cases rx.int; cases ry.int; exact ⟨_, _, rfl, rfl, q⟩
  · cases h; cases rx.int; cases ry.int; exact ⟨_, _, rfl, rfl, q⟩
  · cases h; cases rx.int; cases ry.int; exact ⟨_, _, rfl, rfl, q⟩
  · cases h; cases rx.int; cases ry.int; exact ⟨_, _, rfl, rfl, q⟩
  · exact inn false b h q
  · obtain ⟨b', h', e⟩ := Option.map_eq_some_iff.mp h
    subst e
    exact inn true b' h' q
  · cases h; cases ry.non
    refine ⟨rfl, ?_⟩
    show Q (.bl (decide (x = .non))) H
    rw [rx.isNon]; exact q
  · cases h; cases ry.non
    refine ⟨rfl, ?_⟩
    show Q (.bl (!decide (x = .non))) H
    rw [rx.isNon]; exact q
  · cases h
theorem cmpD_some {o : Co} {d e : Dat} {res : Res} (h : cmpD o d e = some res) : ∃ b, cmpB o d e = some b ∧ res = .imm (.bl b) := by
  obtain ⟨b, h1, h2⟩ := Option.map_eq_some_iff.mp h
  exact ⟨b, h1, h2.symm⟩
/-! ### places -/
def rIdx (K : PySem.W.Frag) : R2 := rOr (rIxL K) (rOr (rIxT K) rGetD)
theorem ix_all (hu : X.A.units + 1 < cLine) : IxR X (rIdx X.K) := IxR.or ix_list (IxR.or ix_tup (ix_dict hu))
theorem ixN_eq (n : Nat) (i : Int) : ixN n i = L2.ixN n i := rfl
theorem atI_rl {G : Hp} {vs : List V} {ds : List Dat} {i : Int} {d : Dat} (r : RL Γ G vs ds) (h : atI ds i = some d) : ∃ v, L2.atI vs i = some v ∧ R Γ G v d := by
  unfold atI at h
  rw [← r.1, ixN_eq] at h
  unfold L2.atI
  cases e : L2.ixN vs.length i with
  | none => rw [e] at h; cases h
  | some j =>
    rw [e] at h
    obtain ⟨v, hv, q⟩ := r.get h
    exact ⟨v, hv, q⟩
theorem idx_ok (hK : K = Γ.K) : Op2 (rIdx K) idxD Γ := by
  subst hK
  intro G H x y dx dy res Q g rx ry h q
  unfold idxD at h
  split at h
  · obtain ⟨d, hd, e⟩ := Option.map_eq_some_iff.mp h
    subst e
    obtain ⟨p, vs, rfl, hp, rl⟩ := rx.lst g
    cases ry.int
    obtain ⟨v, hv, r⟩ := atI_rl rl hd
    exact .inl ⟨p, vs, _, v, rfl, rfl, hp.sql, hv, q G H v (Grow.refl g) r⟩
  · obtain ⟨d, hd, e⟩ := Option.map_eq_some_iff.mp h
    subst e
    obtain ⟨p, vs, rfl, hp, rl⟩ := rx.tup g
    cases ry.int
    obtain ⟨v, hv, r⟩ := atI_rl rl hd
    exact .inr (.inl ⟨p, vs, _, v, rfl, rfl, .inl (.inl hp), hv, q G H v (Grow.refl g) r⟩)
  · split at h
    · rename_i k hk
      obtain ⟨d, hd, e⟩ := Option.map_eq_some_iff.mp h
      subst e
      obtain ⟨p, kvs, rfl, hp, rk⟩ := rx.dK g
      rcases look_val k rk with ⟨e1, e2⟩ | ⟨d', v, e1, e2, r⟩
      · rw [e1] at hd; cases hd
      · rw [e1] at hd; cases hd
        exact .inr (.inr ⟨p, v, rfl, .inl ⟨kvs, k, hp, ry.key hk, e2.symm⟩, q G H v (Grow.refl g) r⟩)
    · cases h
  · split at h
    · rename_i k hk
      obtain ⟨d, hd, e⟩ := Option.map_eq_some_iff.mp h
      subst e
      obtain ⟨p, kvs, rfl, hp, rk⟩ := rx.dT g
      obtain ⟨t, rfl, ht⟩ := ry.keyT g hk
      rcases look_val k rk with ⟨e1, e2⟩ | ⟨d', v, e1, e2, r⟩
      · rw [e1] at hd; cases hd
      · rw [e1] at hd; cases hd
        exact .inr (.inr ⟨p, v, rfl, .inr ⟨kvs, k, t, hp, rfl, ht, e2.symm⟩, q G H v (Grow.refl g) r⟩)
    · cases h
  · cases h
theorem sIx_eq (n d : Nat) (o : Option Int) : sIx n d o = HT.sIx n d o := by
  cases o <;> rfl
theorem cut_rl {G : Hp} {vs : List V} {ds : List Dat} (r : RL Γ G vs ds) (lo hi : Option Int) : RL Γ G (cutV vs lo hi) (cutD ds lo hi) := by
  unfold cutV cutD
  rw [sIx_eq, sIx_eq, ← r.1]
  exact (r.drop _).take _
/-! ### truth -/
theorem truth_ok (hK : K = Γ.K) {G H : Hp} {v : V} {d : Dat} {b : Bool} (g : Ex G H) (r : RB Γ G H v d) (h : truthD d = some b) : TruV K v H b := by
  subst hK
  unfold truthD at h
  split at h
  · cases h; cases r.non; rfl
  · cases h; cases r.bl; rfl
  · cases h; cases r.int; rfl
  · cases h
    obtain ⟨p, vs, rfl, hp, rl⟩ := r.lst g
    refine .inl ⟨vs, hp.sql, ?_⟩
    have := rl.1
    cases vs <;> cases ‹List Dat› <;> simp_all
  · cases h
    obtain ⟨p, vs, rfl, hp, rl⟩ := r.tup g
    refine .inr (.inl ⟨vs, .inl (.inl hp), ?_⟩)
    have := rl.1
    cases vs <;> cases ‹List Dat› <;> simp_all
  · cases h
/-! ### built-ins -/
abbrev RLs := List V → Hp → VK → Prop
variable (Γ)
def RBs (G H : Hp) : List V → List Dat → Prop
  | [], [] => True
  | v :: vs, d :: ds => RB Γ G H v d ∧ RBs G H vs ds
  | _, _ => False
variable {Γ}
def OpL (r : RLs) (f : List Dat → Option Res) (Γ : Tab) : Prop := ∀ (G H : Hp) (vs : List V) (ds : List Dat) (res : Res) (Q : VK), Ex G H → RBs Γ G H vs ds → f ds = some res →
  (∀ G' H' v, Grow G H G' H' → Res0 Γ H G' H' res v → Q v H') → r vs H Q
def rLor (r r' : RLs) : RLs := fun xs H Q => r xs H Q ∨ r' xs H Q
theorem CallR.or {f : Value} {r r' : RLs} (a : CallR X f r) (b : CallR X f r') : CallR X f (rLor r r') := fun pins s σ H xs us Q I rs h => by
  rcases h with h | h
  · exact a pins s σ H xs us Q I rs h
  · exact b pins s σ H xs us Q I rs h
theorem rbs1 {G H : Hp} {vs : List V} {d : Dat} (h : RBs Γ G H vs [d]) : ∃ v, vs = [v] ∧ RB Γ G H v d := by
  match vs, h with
  | [v], h => exact ⟨v, rfl, h.1⟩
  | _ :: _ :: _, h => exact h.2.elim
theorem rbs2 {G H : Hp} {vs : List V} {d e : Dat} (h : RBs Γ G H vs [d, e]) : ∃ v w, vs = [v, w] ∧ RB Γ G H v d ∧ RB Γ G H w e := by
  match vs, h with
  | [v, w], h => exact ⟨v, w, rfl, h.1, h.2.1⟩
  | [_], h => exact h.2.elim
  | _ :: _ :: _ :: _, h => exact h.2.2.elim
theorem rbs3 {G H : Hp} {vs : List V} {d e c : Dat} (h : RBs Γ G H vs [d, e, c]) : ∃ v w u, vs = [v, w, u] ∧ RB Γ G H v d ∧ RB Γ G H w e ∧ RB Γ G H u c := by
  match vs, h with
  | [v, w, u], h => exact ⟨v, w, u, rfl, h.1, h.2.1, h.2.2.1⟩
  | [_], h => exact h.2.elim
  | [_, _], h => exact h.2.2.elim
  | _ :: _ :: _ :: _ :: _, h => exact h.2.2.2.elim
theorem nu_max3 (i j k : Int) : nuMax3 (.int i) (.int j) (.int k) = some (.int (max3 i j k)) := by
  unfold nuMax3 nuMax2 nuLt nuCB max3
  by_cases h : i < j
  · simp only [h, decide_true, Option.map_some, if_true, Option.bind_some]
    by_cases h2 : j < k <;> simp [h2]
  · simp only [h, decide_false, Option.map_some, Bool.false_eq_true, if_false, Option.bind_some]
    by_cases h2 : i < k <;> simp [h2]
theorem nu_min3 (i j k : Int) : nuMin3 (.int i) (.int j) (.int k) = some (.int (min3 i j k)) := by
  unfold nuMin3 nuMin2 nuLt nuCB min3
  by_cases h : j < i
  · simp only [h, decide_true, Option.map_some, if_true, Option.bind_some]
    by_cases h2 : k < j <;> simp [h2]
  · simp only [h, decide_false, Option.map_some, Bool.false_eq_true, if_false, Option.bind_some]
    by_cases h2 : k < i <;> simp [h2]
theorem ints_v {G : Hp} : ∀ {ds : List Dat} {is : List Int} {vs : List V}, intsD ds = some is → RL Γ G vs ds → vs = is.map V.int
  | [], is, vs, h, r => by
    cases h
    cases vs with
    | nil => rfl
    | cons _ _ => exact absurd r.1 (by simp)
  | d :: ds, is, vs, h, r => by
    cases vs with
    | nil => exact absurd r.1 (by simp)
    | cons v vs =>
      unfold intsD at h
      split at h
      · rename_i e; cases e
      · rename_i i r0 e
        cases e
        split at h
        · rename_i is' h2
          cases h
          have e1 := r.head
          cases e1
          rw [List.map_cons, ← ints_v h2 r.tail]
        · cases h
      · cases h
theorem bls_v {G : Hp} : ∀ {ds : List Dat} {is : List Bool} {vs : List V}, blsD ds = some is → RL Γ G vs ds → vs = is.map V.bl
  | [], is, vs, h, r => by
    cases h
    cases vs with
    | nil => rfl
    | cons _ _ => exact absurd r.1 (by simp)
  | d :: ds, is, vs, h, r => by
    cases vs with
    | nil => exact absurd r.1 (by simp)
    | cons v vs =>
      unfold blsD at h
      split at h
      · rename_i e; cases e
      · rename_i i r0 e
        cases e
        split at h
        · rename_i is' h2
          cases h
          have e1 := r.head
          cases e1
          rw [List.map_cons, ← bls_v h2 r.tail]
        · cases h
      · cases h
theorem rl_ints {G : Hp} (is : List Int) : RL Γ G (is.map V.int) (is.map Dat.int) := ⟨by simp, fun i v d a b => by
  rw [List.getElem?_map] at a b
  obtain ⟨x, hx, rfl⟩ := Option.map_eq_some_iff.mp a
  rw [hx] at b
  cases b
  exact .int x⟩
theorem sortI_perm (xs : List Int) : (sortI xs).Perm xs := List.mergeSort_perm _ _
theorem sortI_sorted (xs : List Int) : (sortI xs).Pairwise (· ≤ ·) := by
  have h := List.pairwise_mergeSort (le := fun (a b : Int) => decide (a ≤ b)) (fun a b c h1 h2 => decide_eq_true (Int.le_trans (of_decide_eq_true h1) (of_decide_eq_true h2))) (fun a b => by
    rcases Int.le_total a b with h | h
    · simp [h]
    · simp [h]) xs
  exact h.imp fun h => of_decide_eq_true h
theorem sorted_unique : ∀ {xs ys : List Int}, xs.Perm ys → xs.Pairwise (· ≤ ·) → ys.Pairwise (· ≤ ·) → xs = ys := fun p a b => p.eq_of_pairwise (fun x y _ _ h1 h2 => Int.le_antisymm h1 h2) a b
def biF : Bi → Value
  | .len => .builtin "len" | .abs => .builtin "abs" | .int => .type "int" | .min => .builtin "min" | .max => .builtin "max" | .sum => .builtin "sum"
  | .sorted => .builtin "sorted" | .list => .type "list" | .tuple => .type "tuple" | .any => .builtin "any" | .all => .builtin "all"
def rTupS (K : PySem.W.Frag) : RLs := fun xs H Q => ∃ p ys, xs = [.ref p] ∧ ((SqL K H p ys ∧ ∀ l, H l = none → Q (.ref l) (upd H l (.tup ys))) ∨ (SqT K H p ys ∧ Q (.ref p) H))
def rLenD : RLs := fun xs H Q => ∃ p kvs, xs = [.ref p] ∧ Rd H p (.dK kvs) ∧ Q (.int kvs.length) H
def rBi (K : PySem.W.Frag) : Bi → RLs
  | .len => rLor (fun xs H Q => ∃ p ys, xs = [.ref p] ∧ (SqL K H p ys ∨ SqT K H p ys) ∧ Q (.int ys.length) H) rLenD
  | .abs => fun xs H Q => ∃ i, xs = [.int i] ∧ Q (.int (if i < 0 then -i else i)) H
  | .int => fun xs H Q => (∃ i, xs = [.int i] ∧ Q (.int i) H) ∨ ∃ k, xs = [.bl k] ∧ Q (.int (if k then 1 else 0)) H
  | .max => rLor (fun xs H Q => ∃ i j, xs = [.int i, .int j] ∧ Q (.int (if j > i then j else i)) H) (rLor (rMax K) (rNuC3 nuMax3))
  | .min => rLor (fun xs H Q => ∃ i j, xs = [.int i, .int j] ∧ Q (.int (if j < i then j else i)) H) (rLor (rMin K) (rNuC3 nuMin3))
  | .sum => rSum K
  | .sorted => rSortedI K
  | .list => fun xs H Q => ∃ p ys, xs = [.ref p] ∧ (SqL K H p ys ∨ SqT K H p ys) ∧ ∀ l, H l = none → Q (.ref l) (upd H l (.lst ys))
  | .tuple => rTupS K
  | .any => rAny K
  | .all => rAll K
theorem call_lenDict : CallR X (.builtin "len") rLenD := by
  intro pins s σ H xs us Q I r h
  obtain ⟨p, kvs, rfl, e, q⟩ := h
  obtain ⟨u, rfl, rx⟩ := vals1 r
  cases rx
  exact d_len I e fun t s' I' => ⟨.int kvs.length, H, I', ⟨t, rfl⟩, q⟩
theorem call_bi (hc : X.calm = true) (b : Bi) : CallR X (biF b) (rBi X.K b) := by
  cases b with
  | len => exact CallR.or call_len_seq call_lenDict
  | abs => exact call_abs
  | int => exact call_int1
  | max => exact CallR.or (call_max2 hc) (CallR.or (cr_max hc) (call_max3Nu hc))
  | min => exact CallR.or (call_min2 hc) (CallR.or (cr_min hc) (call_min3Nu hc))
  | sum => exact cr_sum hc
  | sorted => exact cr_sortedI
  | list => exact call_list_of
  | tuple => exact call_tuple_of
  | any => exact cr_any hc
  | all => exact cr_all hc
theorem rk_len {κ : Type} {G : Hp} {kvs : List (κ × V)} {ds : List (κ × Dat)} (r : RK Γ G kvs ds) : kvs.length = ds.length := by
  have := congrArg List.length r.1; simpa using this
theorem bi_ok (hK : K = Γ.K) (b : Bi) : OpL (rBi K b) (biD b) Γ := by
  subst hK
  intro G H vs ds res Q g rs h q
  have fin : ∀ {d : Dat} {v : V}, Res.imm d = res → R Γ G v d → Q v H := fun {d v} e r => by subst e; exact q G H v (Grow.refl g) r
  unfold biD at h
  split at h
  · obtain ⟨v, rfl, r⟩ := rbs1 rs
    obtain ⟨p, vs, rfl, hp, rl⟩ := r.lst g
    refine .inl ⟨p, vs, rfl, .inl hp.sql, ?_⟩
    rw [rl.1]; exact fin (Option.some.inj h) (.int _)
  · obtain ⟨v, rfl, r⟩ := rbs1 rs
    obtain ⟨p, vs, rfl, hp, rl⟩ := r.tup g
    refine .inl ⟨p, vs, rfl, .inr (.inl (.inl hp)), ?_⟩
    rw [rl.1]; exact fin (Option.some.inj h) (.int _)
  · obtain ⟨v, rfl, r⟩ := rbs1 rs
    obtain ⟨p, vs, rfl, hp, rl⟩ := r.dK g
    refine .inr ⟨p, vs, rfl, hp, ?_⟩
    rw [rk_len rl]; exact fin (Option.some.inj h) (.int _)
  · obtain ⟨v, rfl, r⟩ := rbs1 rs
    cases r.int
    exact ⟨_, rfl, fin (Option.some.inj h) (.int _)⟩
  · obtain ⟨v, rfl, r⟩ := rbs1 rs
    cases r.int
    exact .inl ⟨_, rfl, fin (Option.some.inj h) (.int _)⟩
  · obtain ⟨v, rfl, r⟩ := rbs1 rs
    cases r.bl
    exact .inr ⟨_, rfl, fin (Option.some.inj h) (.int _)⟩
  · obtain ⟨v, w, rfl, r, r'⟩ := rbs2 rs
    cases r.int; cases r'.int
    exact .inl ⟨_, _, rfl, fin (Option.some.inj h) (.int _)⟩
  · obtain ⟨v, w, rfl, r, r'⟩ := rbs2 rs
    cases r.int; cases r'.int
    exact .inl ⟨_, _, rfl, fin (Option.some.inj h) (.int _)⟩
  · obtain ⟨v, rfl, r⟩ := rbs1 rs
    obtain ⟨p, vs, rfl, hp, rl⟩ := r.lst g
    split at h
    · rename_i is hi
      obtain ⟨m, hm, e⟩ := Option.map_eq_some_iff.mp h
      cases ints_v hi rl
      have hm' := (List.max?_eq_some_iff).mp hm
      refine .inr (.inl ⟨p, is, rfl, hp.sql, List.length_pos_of_mem hm'.1, fun m' h1 h2 => ?_⟩)
      have e' : m' = m := Int.le_antisymm (hm'.2 m' h1) (h2 m hm'.1)
      subst e'
      exact fin e (.int _)
    · cases h
  · obtain ⟨v, rfl, r⟩ := rbs1 rs
    obtain ⟨p, vs, rfl, hp, rl⟩ := r.lst g
    split at h
    · rename_i is hi
      obtain ⟨m, hm, e⟩ := Option.map_eq_some_iff.mp h
      cases ints_v hi rl
      have hm' := (List.min?_eq_some_iff).mp hm
      refine .inr (.inl ⟨p, is, rfl, hp.sql, List.length_pos_of_mem hm'.1, fun m' h1 h2 => ?_⟩)
      have e' : m' = m := Int.le_antisymm (h2 m hm'.1) (hm'.2 m' h1)
      subst e'
      exact fin e (.int _)
    · cases h
  · obtain ⟨v, rfl, r⟩ := rbs1 rs
    obtain ⟨p, vs, rfl, hp, rl⟩ := r.lst g
    split at h
    · rename_i is hi
      cases ints_v hi rl
      exact ⟨p, is, rfl, hp.sql, fin (Option.some.inj h) (.int _)⟩
    · cases h
  · obtain ⟨v, rfl, r⟩ := rbs1 rs
    obtain ⟨p, vs, rfl, hp, rl⟩ := r.lst g
    split at h
    · rename_i is hi
      cases ints_v hi rl
      cases h
      refine ⟨p, is, rfl, hp.sql, fun ns' l pm so hl => ?_⟩
      have e : ns' = sortI is := sorted_unique (pm.trans (sortI_perm is).symm) so (sortI_sorted is)
      subst e
      exact q _ _ _ (grow_new g hl) (r0_lst g hl (rl_ints _))
    · cases h
  · obtain ⟨v, rfl, r⟩ := rbs1 rs
    obtain ⟨p, vs, rfl, hp, rl⟩ := r.lst g
    cases h
    exact ⟨p, vs, rfl, .inl hp.sql, fun l hl => q _ _ _ (grow_new g hl) (r0_lst g hl rl)⟩
  · obtain ⟨v, rfl, r⟩ := rbs1 rs
    obtain ⟨p, vs, rfl, hp, rl⟩ := r.tup g
    cases h
    exact ⟨p, vs, rfl, .inr (.inl (.inl hp)), fun l hl => q _ _ _ (grow_new g hl) (r0_lst g hl rl)⟩
  · obtain ⟨v, rfl, r⟩ := rbs1 rs
    obtain ⟨p, vs, rfl, hp, rl⟩ := r.lst g
    cases h
    exact ⟨p, vs, rfl, .inl ⟨hp.sql, fun l hl => q _ _ _ (grow_imm g hl) (r0_tup g hl rl)⟩⟩
  · obtain ⟨v, rfl, r⟩ := rbs1 rs
    obtain ⟨p, vs, rfl, hp, rl⟩ := r.lst g
    split at h
    · rename_i is hi
      cases bls_v hi rl
      exact ⟨p, is, rfl, hp.sql, fin (Option.some.inj h) (.bl _)⟩
    · cases h
  · obtain ⟨v, rfl, r⟩ := rbs1 rs
    obtain ⟨p, vs, rfl, hp, rl⟩ := r.lst g
    split at h
    · rename_i is hi
      cases bls_v hi rl
      exact ⟨p, is, rfl, hp.sql, fin (Option.some.inj h) (.bl _)⟩
    · cases h
  · obtain ⟨v, w, u, rfl, r, r', r''⟩ := rbs3 rs
    cases r.int; cases r'.int; cases r''.int
    exact .inr (.inr ⟨_, _, _, _, rfl, nu_max3 _ _ _, fin (Option.some.inj h) (.int _)⟩)
  · obtain ⟨v, w, u, rfl, r, r', r''⟩ := rbs3 rs
    cases r.int; cases r'.int; cases r''.int
    exact .inr (.inr ⟨_, _, _, _, rfl, nu_min3 _ _ _, fin (Option.some.inj h) (.int _)⟩)
  · cases h
end VI
/-! VI, soundness: what expressions and tests are read as -/
namespace VI
open PySem L2
/-- an exception's class and fields -/
def ExcR (Γ : Tab) (G H : Hp) (c : Nat) (xs : List Dat) (dd : Addr) : Prop :=
  Γ.xfl c ≠ [] ∧ ∃ fs, H dd = some (.xd fs) ∧ ∀ (k : Nat) (d : Dat), xs[k]? = some d → ∃ n v, (Γ.xfl c)[k]? = some n ∧ fs.lookup n = some v ∧ R Γ G v d
section
variable {α β : Type} (Γ : Tab) (W : WX) (π : Pins) (F : Hp) (σ : L2.St)
/-- what must hold behind an evaluation -/
def Post (VR : Hp → Hp → Env → α → β → Prop) (G : Hp) (x : Out α) (Q : β → Hp → Prop) : Prop := match x with
  | .ok r ρ => ∀ G' H' v, Ex G G' → Rel Γ π ρ G' F σ H' → VR G' H' ρ r v → Q v H'
  | .exc c xs ρ => ∀ G' H' dd, Ex G G' → Rel Γ π ρ G' F σ H' → ExcR Γ G' H' c xs dd → W (.ref (Γ.exc c)) (some dd) σ H'
  | .bad => False
end
section
variable {α β : Type} {Γ : Tab} {W : WX} {π : Pins} {F : Hp} {σ : L2.St}
theorem Post.mono {VR : Hp → Hp → Env → α → β → Prop} {G G1 : Hp} {x : Out α} {Q : β → Hp → Prop} (e : Ex G G1) (h : Post Γ W π F σ VR G x Q) : Post Γ W π F σ VR G1 x Q := by
  cases x with
  | ok r ρ => exact fun G' H' v e' => h G' H' v (e.trans e')
  | exc c xs ρ => exact fun G' H' dd e' => h G' H' dd (e.trans e')
  | bad => exact h
/-- the results of an expression -/
def ResV (Γ : Tab) (F : Hp) (σ : L2.St) : Hp → Hp → Env → Res → V → Prop := fun G H ρ r v => ResR Γ G F H ρ σ r v
def notFr : Res → Prop
  | .fr _ => False | _ => True
theorem settle_nf (r : Res) : notFr (settle r) := by cases r <;> trivial
theorem ResR.step {G G' H H' : Hp} {ρ ρ' : Env} {r : Res} {v : V} (n : notFr r) (e : Ex G G') (x : ResR Γ G F H ρ σ r v) : ResR Γ G' F H' ρ' σ r v := by
  cases r with
  | imm d => exact R.mono e x
  | bor i => exact x
  | fr o => exact n.elim
theorem Post.seqA {VR : Hp → Hp → Env → α → β → Prop} {G : Hp} {x : Out Res} {k : Res → Env → Out α} {Q : β → Hp → Prop} {Q1 : VK} (h : Post Γ W π F σ VR G ((stl x).seq k) Q)
    (hk : ∀ r ρ1 G1 H1 v, stl x = .ok r ρ1 → Ex G G1 → Rel Γ π ρ1 G1 F σ H1 → ResR Γ G1 F H1 ρ1 σ r v → notFr r → Post Γ W π F σ VR G1 (k r ρ1) Q → Q1 v H1) : Post Γ W π F σ (ResV Γ F σ) G x Q1 := by
  cases x with
  | ok r ρ1 =>
    intro G' H' v e R1 rr
    obtain ⟨G2, e2, R2, r2⟩ := R1.settle rr
    exact hk (settle r) ρ1 G2 H' v rfl (e.trans e2) R2 r2 (settle_nf r) (Post.mono (e.trans e2) h)
  | exc c xs ρ => exact h
  | bad => exact h
theorem Post.seqE {VR : Hp → Hp → Env → α → β → Prop} {G : Hp} {x : Out Res} {k : Res → Env → Out α} {Q : β → Hp → Prop} {Q1 : VK} (h : Post Γ W π F σ VR G (x.seq k) Q)
    (hk : ∀ r ρ1 G1 H1 v, x = .ok r ρ1 → Ex G G1 → Rel Γ π ρ1 G1 F σ H1 → ResR Γ G1 F H1 ρ1 σ r v → Post Γ W π F σ VR G1 (k r ρ1) Q → Q1 v H1) : Post Γ W π F σ (ResV Γ F σ) G x Q1 := by
  cases x with
  | ok r ρ1 => exact fun G' H' v e R1 rr => hk r ρ1 G' H' v rfl e R1 rr (Post.mono e h)
  | exc c xs ρ => exact h
  | bad => exact h
end
/-! ### the readings -/
section
variable (Γ : Tab) (O : Orc) (W : WX)
def tE (e : E) : TE := fun σ H Q => ∃ π ρ G F, Rel Γ π ρ G F σ H ∧ Post Γ W π F σ (ResV Γ F σ) G (evalE O e ρ) Q
def eqV' : Hp → Hp → Env → Bool → Bool → Prop := fun _ _ _ a b => a = b
def testOf (e : E) (ρ : Env) : Out Bool := (stl (evalE O e ρ)).seq fun x ρ1 => testR x ρ1
def tT (e : E) : TT := fun σ H Q => ∃ π ρ G F, Rel Γ π ρ G F σ H ∧ Post Γ W π F σ eqV' G (testOf O e ρ) Q
/-- arguments: fresh ones are among the others' things F' until they are used -/
def ArgR (G H : Hp) (σ : L2.St) : Hp → Hp → List Res → List V → Prop
  | F, F', [], [] => F' = F
  | F, F', r :: rs, v :: vs => match r with
    | .imm d => R Γ G v d ∧ ArgR G H σ F F' rs vs
    | .bor i => σ[i]? = some (some v) ∧ ArgR G H σ F F' rs vs
    | .fr o => ∃ p u, v = .ref p ∧ G p = none ∧ F p = none ∧ H p = some u ∧ OwnAt Γ G H p o ∧ ArgR G H σ (upd F p u) F' rs vs
  | _, _, _, _ => False
def PostAs (π : Pins) (F : Hp) (σ : L2.St) (G : Hp) (x : Out (List Res)) (Q : List V → Hp → Prop) : Prop := match x with
  | .ok rs ρ => ∀ G' H' F' vs, Ex G G' → Rel Γ π ρ G' F' σ H' → ArgR Γ G' H' σ F F' rs vs → Q vs H'
  | .exc c xs ρ => ∀ G' H' dd, Ex G G' → Rel Γ π ρ G' F σ H' → ExcR Γ G' H' c xs dd → W (.ref (Γ.exc c)) (some dd) σ H'
  | .bad => False
def tAs (es : Es) : TA := fun σ H Q => ∃ π ρ G F, Rel Γ π ρ G F σ H ∧ PostAs Γ W π F σ G (evalAs O es ρ) Q
end
section
variable {Γ : Tab} {O : Orc} {W : WX} {π : Pins} {F : Hp} {σ : L2.St}
theorem PostAs.mono {G G1 : Hp} {x : Out (List Res)} {Q : List V → Hp → Prop} (e : Ex G G1) (h : PostAs Γ W π F σ G x Q) : PostAs Γ W π F σ G1 x Q := by
  cases x with
  | ok r ρ => exact fun G' H' F' v e' => h G' H' F' v (e.trans e')
  | exc c xs ρ => exact fun G' H' dd e' => h G' H' dd (e.trans e')
  | bad => exact h
theorem Rel0.subF {ρ : Env} {G F' H : Hp} (x : Rel0 Γ ρ G F' σ H) (e : Ex F F') : Rel0 Γ ρ G F σ H where
  g := x.g
  f := e.trans x.f
  dis := fun a u h => e.isNone (x.dis a u h)
  len := x.len
  slot := fun i s h => by
    have y := x.slot i s h
    cases s with
    | emp => trivial
    | imm d => exact y
    | own p l o => obtain ⟨a, e1, n, nf, z⟩ := y; exact ⟨a, e1, n, e.isNone nf, z⟩
  inj := x.inj
theorem Rel.subF {ρ : Env} {G F' H : Hp} (x : Rel Γ π ρ G F' σ H) (e : Ex F F') : Rel Γ π ρ G F σ H := ⟨x.toRel0.subF e, x.pin⟩
theorem ArgR.ex {G H : Hp} : ∀ {rs : List Res} {vs : List V} {F F' : Hp}, ArgR Γ G H σ F F' rs vs → Ex F F'
  | [], [], F, F', h => by cases (show F' = F from h); exact Ex.refl _
  | [], _ :: _, _, _, h => h.elim
  | r :: rs, [], _, _, h => by cases r <;> exact h.elim
  | r :: rs, v :: vs, F, F', h => by
    cases r with
    | imm d => exact ArgR.ex (rs := rs) (vs := vs) h.2
    | bor i => exact ArgR.ex (rs := rs) (vs := vs) h.2
    | fr o =>
      obtain ⟨p, u, _, _, nf, _, _, t⟩ := h
      exact (Ex.new nf).trans (ArgR.ex t)
/-- an argument list's first -/
theorem PostAs.cons {G : Hp} {e : Out Res} {k : Env → Out (List Res)} {Q : List V → Hp → Prop} {Q1 : VK} (h : PostAs Γ W π F σ G (e.seq fun r ρ1 => (k ρ1).seq fun rs ρ2 => .ok (r :: rs) ρ2) Q)
    (hk : ∀ ρ1 G1 H1 F1 v, Rel Γ π ρ1 G1 F1 σ H1 → PostAs Γ W π F1 σ G1 (k ρ1) (fun vs H2 => Q (v :: vs) H2) → Q1 v H1) : Post Γ W π F σ (ResV Γ F σ) G e Q1 := by
  cases e with
  | bad => exact h
  | exc c xs ρ => exact h
  | ok r ρ1 =>
    intro G1 H1 v e1 R1 rr
    have h : PostAs Γ W π F σ G ((k ρ1).seq fun rs ρ2 => .ok (r :: rs) ρ2) Q := h
    cases r with
    | imm d =>
      refine hk ρ1 G1 H1 F v R1 ?_
      cases e2 : k ρ1 with
      | bad => rw [e2] at h; exact h
      | exc c xs ρ2 => rw [e2] at h; exact fun G2 H2 dd e' => h G2 H2 dd (e1.trans e')
      | ok rs ρ2 => rw [e2] at h; exact fun G2 H2 F2 vs e' R2 a => h G2 H2 F2 (v :: vs) (e1.trans e') R2 ⟨R.mono e' rr, a⟩
    | bor i =>
      refine hk ρ1 G1 H1 F v R1 ?_
      cases e2 : k ρ1 with
      | bad => rw [e2] at h; exact h
      | exc c xs ρ2 => rw [e2] at h; exact fun G2 H2 dd e' => h G2 H2 dd (e1.trans e')
      | ok rs ρ2 => rw [e2] at h; exact fun G2 H2 F2 vs e' R2 a => h G2 H2 F2 (v :: vs) (e1.trans e') R2 ⟨rr, a⟩
    | fr o =>
      obtain ⟨p, rfl, n, nf, y, z⟩ := rr
      obtain ⟨u, hu⟩ := y.ex
      have R1' : Rel0 Γ ρ1 G1 (upd F p u) σ H1 := {
        g := R1.g
        f := R1.f.both hu
        dis := fun a w q => by
          have ne : a ≠ p := fun t => by rw [t, n] at q; cases q
          rw [upd_ne ne]; exact R1.dis a w q
        len := R1.len
        slot := fun i s q => by
          have x := R1.slot i s q
          cases s with
          | emp => trivial
          | imm d => exact x
          | own b l o' =>
            obtain ⟨a, e3, n', nf', y'⟩ := x
            have ne : a ≠ p := fun w => z i (isOwn_iff.mpr ⟨_, _, _, q⟩) (by rw [e3, w])
            exact ⟨a, e3, n', by rw [upd_ne ne]; exact nf', y'⟩
        inj := R1.inj }
      refine hk ρ1 G1 H1 (upd F p u) (.ref p) ⟨R1', R1.pin⟩ ?_
      cases e2 : k ρ1 with
      | bad => rw [e2] at h; exact h
      | exc c xs ρ2 => rw [e2] at h; exact fun G2 H2 dd e' R2 => h G2 H2 dd (e1.trans e') (R2.subF (Ex.new nf))
      | ok rs ρ2 =>
        rw [e2] at h
        refine fun G2 H2 F2 vs e' R2 a => h G2 H2 F2 (.ref p :: vs) (e1.trans e') R2 ?_
        have f2 := ArgR.ex a
        have hF2 : F2 p = some u := f2 p u upd_same
        have hH2 : H2 p = some u := R2.f p u hF2
        have hG2 : G2 p = none := by
          cases q : G2 p with
          | none => rfl
          | some w => rw [R2.dis p w q] at hF2; cases hF2
        exact ⟨p, u, rfl, hG2, nf, hH2, y.mono e' (fun w hw => by rw [hu] at hw; cases hw; exact hH2), a⟩
/-- the fresh arguments turn into plain data -/
theorem ArgR.settle {ρ : Env} {G H : Hp} : ∀ {rs : List Res} {vs : List V} {F F' : Hp}, Rel Γ π ρ G F' σ H → ArgR Γ G H σ F F' rs vs →
    ∃ G1, Ex G G1 ∧ Rel Γ π ρ G1 F σ H ∧ (∀ p, F p ≠ none → G1 p = G p) ∧ ArgR Γ G1 H σ F F (rs.map VI.settle) vs
  | [], [], F, F', R0, h => by cases (show F' = F from h); exact ⟨G, Ex.refl _, R0, fun _ _ => rfl, rfl⟩
  | [], _ :: _, _, _, _, h => h.elim
  | r :: rs, [], _, _, _, h => by cases r <;> exact h.elim
  | r :: rs, v :: vs, F, F', R0, h => by
    cases r with
    | imm d =>
      obtain ⟨G1, e, R1, k, a⟩ := ArgR.settle (rs := rs) (vs := vs) R0 h.2
      exact ⟨G1, e, R1, k, h.1.mono e, a⟩
    | bor i =>
      obtain ⟨G1, e, R1, k, a⟩ := ArgR.settle (rs := rs) (vs := vs) R0 h.2
      exact ⟨G1, e, R1, k, h.1, a⟩
    | fr o =>
      obtain ⟨p, u, rfl, n, nf, hp, y, t⟩ := h
      obtain ⟨G1, e, R1, k, a⟩ := ArgR.settle (rs := rs) (vs := vs) R0 t
      have nG : G1 p = none := by rw [k p (by rw [upd_same]; simp)]; exact n
      have R2 : Rel Γ π ρ G1 F σ H := R1.subF (Ex.new nf)
      have z : ∀ (i : Nat), isOwn ρ[i]? = true → σ[i]? ≠ some (some (V.ref p)) := fun i hi q => by
        obtain ⟨b, l, o', e1⟩ := isOwn_iff.mp hi
        obtain ⟨a', e2, _, nf', _⟩ := R1.own e1
        rw [q] at e2; cases e2
        rw [upd_same] at nf'; cases nf'
      obtain ⟨u', hu', r⟩ := (y.mono e (H' := H) fun _ t => t).keep nG
      rw [hp] at hu'; cases hu'
      refine ⟨upd G1 p u, e.trans (Ex.new nG), ⟨R2.toRel0.absorb nG nf hp z, R2.pin⟩, fun q hq => ?_, r, ?_⟩
      · have ne : q ≠ p := fun t => by rw [t] at hq; exact hq nf
        rw [upd_ne ne]
        exact k q (by rw [upd_ne ne]; exact hq)
      · have mono : ∀ {rs : List Res} {vs : List V} {F1 : Hp}, (∀ r ∈ rs, notFr r) → ArgR Γ G1 H σ F1 F1 rs vs → ArgR Γ (upd G1 p u) H σ F F rs vs := by
          intro rs
          induction rs with
          | nil => intro vs F1 _ h; cases vs with
            | nil => rfl
            | cons _ _ => exact h.elim
          | cons r rs ih =>
            intro vs F1 hn h
            cases vs with
            | nil => cases r <;> exact h.elim
            | cons v vs =>
              cases r with
              | imm d => exact ⟨h.1.mono (Ex.new nG), ih (fun r hr => hn r (List.mem_cons_of_mem _ hr)) h.2⟩
              | bor i => exact ⟨h.1, ih (fun r hr => hn r (List.mem_cons_of_mem _ hr)) h.2⟩
              | fr o => exact (hn _ List.mem_cons_self).elim
        exact mono (fun r hr => by obtain ⟨x, _, rfl⟩ := List.mem_map.mp hr; exact settle_nf x) a
/-- .. read as data -/
theorem ArgR.derefs {ρ : Env} {G H : Hp} (R0 : Rel Γ π ρ G F σ H) : ∀ {rs : List Res} {vs : List V} {ds : List Dat}, (∀ r ∈ rs, notFr r) → ArgR Γ G H σ F F rs vs → VI.derefs ρ rs = some ds → RBs Γ G H vs ds
  | [], [], ds, _, _, h => by cases h; trivial
  | [], _ :: _, _, _, a, _ => a.elim
  | r :: rs, [], _, _, a, _ => by cases r <;> exact a.elim
  | r :: rs, v :: vs, ds, hn, a, h => by
    unfold VI.derefs at h
    split at h
    · rename_i d ds' h1 h2
      cases h
      have hn' : ∀ r ∈ rs, notFr r := fun r hr => hn r (List.mem_cons_of_mem _ hr)
      cases r with
      | imm d' => exact ⟨R0.deref (r := .imm d') a.1 h1, ArgR.derefs R0 hn' a.2 h2⟩
      | bor i => exact ⟨R0.deref (r := .bor i) a.1 h1, ArgR.derefs R0 hn' a.2 h2⟩
      | fr o => exact (hn _ List.mem_cons_self).elim
    · cases h
theorem deref_settle (ρ : Env) (r : Res) : deref ρ (settle r) = deref ρ r := by cases r <;> rfl
theorem derefs_settle (ρ : Env) : ∀ rs : List Res, derefs ρ (rs.map settle) = derefs ρ rs
  | [] => rfl
  | r :: rs => by rw [List.map_cons, derefs, derefs, deref_settle, derefs_settle ρ rs]
theorem capt_bor (i : Nat) (ρ : Env) : VI.capt (.bor i) ρ = match ρ[i]? with
    | some (.own false false o) => .ok o.toDat (ρ.set i (.imm o.toDat))
    | some (.imm d) => .ok d ρ
    | _ => .bad := rfl
/-- a value kept by others -/
theorem Rel.capt {ρ ρ' : Env} {G H : Hp} {r : Res} {v : V} {d : Dat} (R0 : Rel Γ π ρ G F σ H) (n : notFr r) (x : ResR Γ G F H ρ σ r v) (h : capt r ρ = .ok d ρ') : ∃ G1, Ex G G1 ∧ Rel Γ π ρ' G1 F σ H ∧ R Γ G1 v d := by
  cases r with
  | imm e => cases h; exact ⟨G, Ex.refl _, R0, x⟩
  | fr o => exact n.elim
  | bor i =>
    have x : σ[i]? = some (some v) := x
    rw [capt_bor] at h
    split at h
    · rename_i o e
      cases h
      obtain ⟨a, e1, nG, nF, y⟩ := R0.own e
      rw [x] at e1; cases e1
      obtain ⟨u, hu, r⟩ := y.keep nG
      have hi : i < ρ.length := (List.getElem?_eq_some_iff.mp e).1
      have pin' : PinOk π (ρ.set i (.imm o.toDat)) σ := fun j p c hm => by
        obtain ⟨h1, b, l, o', h2, h3, h4⟩ := R0.pin j p c hm
        have ne : i ≠ j := fun z => by
          rw [← z, e] at h2
          cases h2
          rcases pin_or h3 h4 with z | z <;> cases z
        exact ⟨h1, b, l, o', by rw [List.getElem?_set_ne ne]; exact h2, h3, h4⟩
      refine ⟨upd G a u, Ex.new nG, ⟨?_, pin'⟩, r⟩
      exact {
        g := R0.g.both hu
        f := R0.f
        dis := fun b w q => by
          by_cases z : b = a
          · subst z; exact nF
          · rw [upd_ne z] at q; exact R0.dis b w q
        len := by rw [List.length_set]; exact R0.len
        slot := fun j s q => by
          by_cases z : j = i
          · subst z
            rw [List.getElem?_set_self hi] at q
            cases q
            exact ⟨.ref a, x, r⟩
          · rw [List.getElem?_set_ne (Ne.symm z)] at q
            have t := R0.slot j s q
            cases s with
            | emp => trivial
            | imm d => obtain ⟨w, e2, r2⟩ := t; exact ⟨w, e2, r2.mono (Ex.new nG)⟩
            | own b l o' =>
              obtain ⟨c, e2, n2, nf2, y2⟩ := t
              have ne : c ≠ a := fun w => z (R0.inj j i a (isOwn_iff.mpr ⟨_, _, _, q⟩) (isOwn_iff.mpr ⟨_, _, _, e⟩) (by rw [e2, w]) x)
              exact ⟨c, e2, by rw [upd_ne ne]; exact n2, nf2, y2.mono (Ex.new nG) fun _ t => t⟩
        inj := fun j k b h1 h2 e1 e2 => by
          have own : ∀ {m : Nat}, isOwn (ρ.set i (.imm o.toDat))[m]? = true → isOwn ρ[m]? = true := fun {m} hm => by
            by_cases z : m = i
            · subst z; rw [List.getElem?_set_self hi] at hm; cases hm
            · rw [List.getElem?_set_ne (Ne.symm z)] at hm; exact hm
          exact R0.inj j k b (own h1) (own h2) e1 e2 }
    · rename_i d' e
      cases h
      obtain ⟨w, e1, r⟩ := R0.imm e
      rw [x] at e1; cases e1
      exact ⟨G, Ex.refl _, R0, r⟩
    · cases h
theorem capt_no_exc {r : Res} {ρ ρ' : Env} {c : Nat} {xs : List Dat} : capt r ρ ≠ .exc c xs ρ' := by
  intro h
  cases r with
  | imm e => cases h
  | fr o => cases h
  | bor i => rw [capt_bor] at h; split at h <;> cases h
theorem ArgR.capts {H : Hp} : ∀ {rs : List Res} {vs : List V} {ds : List Dat} {ρ ρ' : Env} {G : Hp}, Rel Γ π ρ G F σ H → (∀ r ∈ rs, notFr r) → ArgR Γ G H σ F F rs vs → VI.capts rs ρ = .ok ds ρ' → ∃ G1, Ex G G1 ∧ Rel Γ π ρ' G1 F σ H ∧ RL Γ G1 vs ds
  | [], [], ds, ρ, ρ', G, R0, _, _, h => by cases h; exact ⟨G, Ex.refl _, R0, RL.nil⟩
  | [], _ :: _, _, _, _, _, _, _, a, _ => a.elim
  | r :: rs, [], _, _, _, _, _, _, a, _ => by cases r <;> exact a.elim
  | r :: rs, v :: vs, ds, ρ, ρ', G, R0, hn, a, h => by
    unfold VI.capts at h
    cases e : VI.capt r ρ with
    | bad => rw [e] at h; cases h
    | exc c xs ρ1 => exact absurd e capt_no_exc
    | ok d ρ1 =>
      rw [e, seq_ok] at h
      have hr : ResR Γ G F H ρ σ r v := by
        cases r with
        | imm d' => exact a.1
        | bor i => exact a.1
        | fr o => exact (hn _ List.mem_cons_self).elim
      have ha : ArgR Γ G H σ F F rs vs := by
        cases r with
        | imm d' => exact a.2
        | bor i => exact a.2
        | fr o => exact (hn _ List.mem_cons_self).elim
      obtain ⟨G1, e1, R1, r1⟩ := R0.capt (hn _ List.mem_cons_self) hr e
      have hn' : ∀ r ∈ rs, notFr r := fun r hr => hn r (List.mem_cons_of_mem _ hr)
      have mono : ∀ {rs : List Res} {vs : List V}, (∀ r ∈ rs, notFr r) → ArgR Γ G H σ F F rs vs → ArgR Γ G1 H σ F F rs vs := by
        intro rs
        induction rs with
        | nil => intro vs _ h; cases vs with
          | nil => exact h
          | cons _ _ => exact h.elim
        | cons r rs ih =>
          intro vs hn h
          cases vs with
          | nil => cases r <;> exact h.elim
          | cons v vs =>
            cases r with
            | imm d => exact ⟨h.1.mono e1, ih (fun r hr => hn r (List.mem_cons_of_mem _ hr)) h.2⟩
            | bor i => exact ⟨h.1, ih (fun r hr => hn r (List.mem_cons_of_mem _ hr)) h.2⟩
            | fr o => exact (hn _ List.mem_cons_self).elim
      cases e' : VI.capts rs ρ1 with
      | bad => rw [e'] at h; cases h
      | exc c xs ρ2 => rw [e'] at h; cases h
      | ok ds' ρ2 =>
        rw [e'] at h
        cases h
        obtain ⟨G2, e2, R2, r2⟩ := ArgR.capts (rs := rs) R1 hn' (mono hn' ha) e'
        exact ⟨G2, e1.trans e2, R2, RL.cons (r1.mono e2) r2⟩
theorem capt_settle {r : Res} {ρ : Env} : capt (settle r) ρ = capt r ρ := by cases r <;> rfl
theorem capts_settle : ∀ {rs : List Res} {ρ : Env}, capts (rs.map settle) ρ = capts rs ρ
  | [], _ => rfl
  | r :: rs, ρ => by
    rw [List.map_cons, capts, capts, capt_settle]
    congr 1
    funext d ρ1
    rw [capts_settle]
end
theorem PE.imp {X : Cx} {x : Expr} {t t' : TE} (h : PE X x t) (i : ∀ σ H Q, t' σ H Q → t σ H Q) : PE X x t' := ⟨fun pins s σ H Q I q => h.run pins s σ H Q I (i σ H Q q)⟩
theorem PT.imp {X : Cx} {x : Expr} {t t' : TT} (h : PT X x t) (i : ∀ σ H Q, t' σ H Q → t σ H Q) : PT X x t' := ⟨fun pins s σ H Q I q => h.run pins s σ H Q I (i σ H Q q)⟩
theorem PW.imp {X : Cx} {x : Expr} {t t' : TT} (h : PW X x t) (i : ∀ σ H Q, t' σ H Q → t σ H Q) : PW X x t' := ⟨fun wh pins s σ H Q I q => h.run wh pins s σ H Q I (i σ H Q q)⟩
theorem PA.imp {X : Cx} {x : List Expr} {t t' : TA} (h : PA X x t) (i : ∀ σ H Q, t' σ H Q → t σ H Q) : PA X x t' := ⟨fun pos pins s σ H Q I q => h.run pos pins s σ H Q I (i σ H Q q)⟩
theorem PS.imp {X : Cx} {x : Stmt} {t t' : TS} (h : PS X x t) (i : ∀ D σ H, t' D σ H → t D σ H) : PS X x t' := ⟨fun pins s σ H D I q => h.run pins s σ H D I (i D σ H q)⟩
theorem PSs.imp {X : Cx} {x : List Stmt} {t t' : TS} (h : PSs X x t) (i : ∀ D σ H, t' D σ H → t D σ H) : PSs X x t' := ⟨fun pins s σ H D I q => h.run pins s σ H D I (i D σ H q)⟩
end VI
/-! VI, soundness: calls -/
namespace VI
open PySem L2
variable {Γ : Tab} {W : WX} {π : Pins} {F : Hp} {σ : L2.St}
/-- the addresses of what a callee gets to change -/
def lentA : List Slot → List V → List Addr
  | .own _ _ _ :: ss, .ref p :: vs => p :: lentA ss vs
  | _ :: ss, _ :: vs => lentA ss vs
  | _, _ => []
def movedA : List Slot → List V → List Addr
  | .own false _ _ :: ss, .ref p :: vs => p :: movedA ss vs
  | _ :: ss, _ :: vs => movedA ss vs
  | _, _ => []
variable (Γ)
def ArgC1 (G H : Hp) (s : Slot) (v : V) : Prop := match s with
  | .imm d => R Γ G v d
  | .own _ _ o => ∃ p, v = .ref p ∧ G p = none ∧ OwnAt Γ G H p o
  | .emp => False
/-- the arguments at a call -/
structure ArgC (G H : Hp) (ss : List Slot) (vs : List V) : Prop where
  len : ss.length = vs.length
  at_ : ∀ (i : Nat) (s : Slot) (v : V), ss[i]? = some s → vs[i]? = some v → ArgC1 Γ G H s v
  nd : (lentA ss vs).Nodup
def Keeps (G H : Hp) (ss : List Slot) (vs : List V) (G' H' : Hp) : Prop := ∀ a u, H a = some u → G a = none → a ∉ lentA ss vs → H' a = some u ∧ G' a = none
def OutR (G' H' : Hp) (ss : List Slot) (vs : List V) (outs : List Slot) : Prop :=
  ∀ (i : Nat) (l : Bool) (o : OD) (p : Addr), ss[i]? = some (.own true l o) → vs[i]? = some (.ref p) → ∃ b l' o', outs[i]? = some (.own b l' o') ∧ G' p = none ∧ OwnAt Γ G' H' p o' ∧ (l = true → o' = o)
def RetR (H : Hp) (ss : List Slot) (vs : List V) (G' H' : Hp) (r : Res) (v : V) : Prop := match r with
  | .imm d => R Γ G' v d
  | .fr o => ∃ p, v = .ref p ∧ G' p = none ∧ OwnAt Γ G' H' p o ∧ (H p = none ∨ p ∈ movedA ss vs)
  | .bor _ => False
/-- what a def of the text promises -/
def spI (call : List Slot → CRes) (np : Nat) : Sp := fun vs H Q E => vs.length = np ∧ ∃ (G : Hp) (ss : List Slot), ArgC Γ G H ss vs ∧ Ex G H ∧ match call ss with
  | .ret r outs => ∀ G' H' v, Ex G G' → Ex G' H' → Keeps G H ss vs G' H' → OutR Γ G' H' ss vs outs → RetR Γ H ss vs G' H' r v → Q v H'
  | .exc c xs => ∀ G' H' dd, Ex G G' → Ex G' H' → Keeps G H ss vs G' H' → ExcR Γ G' H' c xs dd → E (.ref (Γ.exc c)) (some dd) H'
  | .bad => False
variable {Γ}
theorem wipeL_len : ∀ (L : List Nat) (ρ : Env), (wipeL L ρ).length = ρ.length
  | [], _ => rfl
  | i :: L, ρ => by rw [wipeL, wipeL_len L, List.length_set]
theorem wipeL_out : ∀ (L : List Nat) (ρ : Env) {j : Nat}, j ∉ L → (wipeL L ρ)[j]? = ρ[j]?
  | [], _, _, _ => rfl
  | i :: L, ρ, j, h => by
    rw [wipeL, wipeL_out L _ (fun z => h (List.mem_cons_of_mem _ z)), List.getElem?_set_ne (fun e => h (by rw [e]; exact List.mem_cons_self))]
theorem wipeL_in : ∀ (L : List Nat) (ρ : Env) {j : Nat} {s : Slot}, j ∈ L → (wipeL L ρ)[j]? = some s → s = .emp
  | [], _, _, _, h, _ => by cases h
  | i :: L, ρ, j, s, h, e => by
    rw [wipeL] at e
    by_cases z : j ∈ L
    · exact wipeL_in L _ z e
    · rw [wipeL_out L _ z] at e
      have ij : j = i := by
        rcases List.mem_cons.mp h with q | q
        · exact q
        · exact absurd q z
      subst ij
      by_cases hl : j < ρ.length
      · rw [List.getElem?_set_self hl] at e; exact (Option.some.inj e).symm
      · rw [List.getElem?_eq_none (by rw [List.length_set]; omega)] at e; cases e
theorem wipeL_at (L : List Nat) (ρ : Env) {j : Nat} (h : j ∈ L) (hl : j < ρ.length) : (wipeL L ρ)[j]? = some .emp := by
  have hl' : j < (wipeL L ρ).length := by rw [wipeL_len]; exact hl
  rw [List.getElem?_eq_getElem hl', wipeL_in L ρ h (List.getElem?_eq_getElem hl')]
theorem lent_own {ρ : Env} : ∀ {rs : List Res} {i : Nat}, i ∈ lent ρ rs → isOwn ρ[i]? = true
  | [], _, h => by cases h
  | .imm _ :: rs, _, h => lent_own (rs := rs) h
  | .fr _ :: rs, _, h => lent_own (rs := rs) h
  | .bor j :: rs, i, h => by
    rw [lent] at h
    split at h
    · rename_i hj
      rcases List.mem_cons.mp h with q | q
      · rw [q]; exact hj
      · exact lent_own q
    · exact lent_own h
/-- what is lent is set aside, everything else stays through a change of heaps -/
theorem Rel0.aside {ρ : Env} {G H G' H' : Hp} (R0 : Rel0 Γ ρ G F σ H) (L : List Nat) (e : Ex G G') (g : Ex G' H')
    (kF : ∀ a u, F a = some u → H' a = some u ∧ G' a = none)
    (kO : ∀ (i : Nat) (a : Addr) (u : HO), i ∉ L → isOwn ρ[i]? = true → σ[i]? = some (some (.ref a)) → H a = some u → H' a = some u ∧ G' a = none) : Rel0 Γ (wipeL L ρ) G' F σ H' where
  g := g
  f := fun a u h => (kF a u h).1
  dis := fun a u h => by
    cases q : F a with
    | none => rfl
    | some w => rw [(kF a w q).2] at h; cases h
  len := by rw [wipeL_len]; exact R0.len
  slot := fun i s h => by
    by_cases z : i ∈ L
    · rw [wipeL_in L ρ z h]; trivial
    · rw [wipeL_out L ρ z] at h
      have x := R0.slot i s h
      cases s with
      | emp => trivial
      | imm d => obtain ⟨v, e1, r⟩ := x; exact ⟨v, e1, r.mono e⟩
      | own p l o =>
        obtain ⟨a, e1, n, nf, y⟩ := x
        obtain ⟨u, hu⟩ := y.ex
        have own : isOwn ρ[i]? = true := isOwn_iff.mpr ⟨_, _, _, h⟩
        exact ⟨a, e1, (kO i a u z own e1 hu).2, nf, y.mono e fun w hw => (kO i a w z own e1 hw).1⟩
  inj := fun i j a h1 h2 e1 e2 => by
    have own : ∀ {m : Nat}, isOwn (wipeL L ρ)[m]? = true → isOwn ρ[m]? = true := fun {m} hm => by
      by_cases z : m ∈ L
      · obtain ⟨p, l, o, e⟩ := isOwn_iff.mp hm
        exact absurd (wipeL_in L ρ z e) (by simp)
      · rw [wipeL_out L ρ z] at hm; exact hm
    exact R0.inj i j a (own h1) (own h2) e1 e2
/-- an own object comes into a free slot -/
theorem Rel0.fill {ρ : Env} {G H : Hp} (R0 : Rel0 Γ ρ G F σ H) {i : Nat} {a : Addr} {o : OD} (p l : Bool) (hi : i < ρ.length) (h : σ[i]? = some (some (.ref a))) (n : G a = none) (nf : F a = none) (y : OwnAt Γ G H a o)
    (z : ∀ (j : Nat), j ≠ i → isOwn ρ[j]? = true → σ[j]? ≠ some (some (V.ref a))) : Rel0 Γ (ρ.set i (.own p l o)) G F σ H where
  g := R0.g
  f := R0.f
  dis := R0.dis
  len := by rw [List.length_set]; exact R0.len
  slot := fun j s q => by
    by_cases e : j = i
    · subst e; rw [List.getElem?_set_self hi] at q; cases q; exact ⟨a, h, n, nf, y⟩
    · rw [List.getElem?_set_ne (Ne.symm e)] at q; exact R0.slot j s q
  inj := fun j k b h1 h2 e1 e2 => by
    have own : ∀ {m : Nat}, m ≠ i → isOwn (ρ.set i (.own p l o))[m]? = true → isOwn ρ[m]? = true := fun {m} hm q => by
      rw [List.getElem?_set_ne (Ne.symm hm)] at q; exact q
    by_cases ej : j = i
    · by_cases ek : k = i
      · rw [ej, ek]
      · subst ej
        rw [h] at e1; cases e1
        exact absurd e2 (z k ek (own ek h2))
    · by_cases ek : k = i
      · subst ek
        rw [h] at e2; cases e2
        exact absurd e1 (z j ej (own ej h1))
      · exact R0.inj j k b (own ej h1) (own ek h2) e1 e2
theorem isOwn_lent {ρ : Env} {i : Nat} {rs : List Res} (h : isOwn ρ[i]? = true) : lent ρ (.bor i :: rs) = i :: lent ρ rs := by rw [lent, if_pos h]
theorem isOwn_no {ρ : Env} {i : Nat} {rs : List Res} (h : ¬ isOwn ρ[i]? = true) : lent ρ (.bor i :: rs) = lent ρ rs := by rw [lent, if_neg h]
theorem argsS_cons {ρ : Env} {r : Res} {rs : List Res} {ss : List Slot} (h : argsS ρ (r :: rs) = some ss) : ∃ s ss', ss = s :: ss' ∧ argS ρ r = some s ∧ argsS ρ rs = some ss' := by
  unfold argsS at h
  split at h
  · rename_i s ss' h1 h2; cases h; exact ⟨s, ss', rfl, h1, h2⟩
  · cases h
theorem argS_bor {ρ : Env} {i : Nat} {s : Slot} (h : argS ρ (.bor i) = some s) : (∃ p l o, ρ[i]? = some (.own p l o) ∧ s = .own true l o) ∨ ∃ d, ρ[i]? = some (.imm d) ∧ s = .imm d := by
  have h : (match ρ[i]? with | some (.own _ l o) => some (Slot.own true l o) | some (.imm d) => some (.imm d) | _ => none) = some s := h
  split at h
  · rename_i l o e; cases h; exact .inl ⟨_, _, _, e, rfl⟩
  · rename_i d e; cases h; exact .inr ⟨_, e, rfl⟩
  · cases h
/-- the arguments as the callee sees them -/
theorem argC_of {ρ : Env} {G H : Hp} : ∀ {rs : List Res} {vs : List V} {ss : List Slot} {F F' : Hp}, Rel Γ π ρ G F' σ H → ArgR Γ G H σ F F' rs vs → (lent ρ rs).Nodup → argsS ρ rs = some ss →
    ss.length = vs.length ∧ (∀ (i : Nat) (s : Slot) (v : V), ss[i]? = some s → vs[i]? = some v → ArgC1 Γ G H s v) ∧ (lentA ss vs).Nodup ∧
    (∀ a ∈ lentA ss vs, F a = none) ∧ (∀ a ∈ lentA ss vs, (∃ j ∈ lent ρ rs, σ[j]? = some (some (.ref a))) ∨ (a ∈ movedA ss vs ∧ F' a ≠ none)) ∧ (∀ a ∈ movedA ss vs, F a = none ∧ F' a ≠ none)
  | [], [], ss, F, F', R0, h, nd, e => by
    cases e
    exact ⟨rfl, fun i s v a _ => by simp at a, List.nodup_nil, fun a h => by simp [lentA] at h, fun a h => by simp [lentA] at h, fun a h => by simp [movedA] at h⟩
  | [], _ :: _, _, _, _, _, h, _, _ => h.elim
  | r :: rs, [], _, _, _, _, h, _, _ => by cases r <;> exact h.elim
  | r :: rs, v :: vs, ss, F, F', R0, h, nd, e => by
    obtain ⟨s, ss', rfl, e1, e2⟩ := argsS_cons e
    have at_ : ∀ {P1 : Prop}, ArgC1 Γ G H s v → (∀ (i : Nat) (s : Slot) (v : V), ss'[i]? = some s → vs[i]? = some v → ArgC1 Γ G H s v) → ∀ (i : Nat) (s1 : Slot) (v1 : V), (s :: ss')[i]? = some s1 → (v :: vs)[i]? = some v1 → ArgC1 Γ G H s1 v1 := fun {_} h1 h2 i s1 v1 a b => by
      cases i with
      | zero => simp at a b; subst a b; exact h1
      | succ i => simp at a b; exact h2 i s1 v1 a b
    cases r with
    | imm d =>
      cases e1
      obtain ⟨c1, c2, c3, c4, c5, c6⟩ := argC_of (rs := rs) R0 h.2 nd e2
      exact ⟨by simp [c1], at_ (P1 := True) h.1 c2, c3, c4, c5, c6⟩
    | fr o =>
      cases e1
      obtain ⟨p, u, rfl, n, nf, hp, y, t⟩ := h
      obtain ⟨c1, c2, c3, c4, c5, c6⟩ := argC_of (rs := rs) R0 t nd e2
      have ef := ArgR.ex t
      have np : p ∉ lentA ss' vs := fun q => by have := c4 p q; rw [upd_same] at this; cases this
      have hF' : F' p ≠ none := by rw [ef p u upd_same]; simp
      refine ⟨by simp [c1], at_ (P1 := True) ⟨p, rfl, n, y⟩ c2, List.nodup_cons.mpr ⟨np, c3⟩, fun a ha => ?_, fun a ha => ?_, fun a ha => ?_⟩
      · rcases List.mem_cons.mp ha with q | q
        · rw [q]; exact nf
        · exact (Ex.new nf).isNone (c4 a q)
      · rcases List.mem_cons.mp ha with q | q
        · rw [q]; exact .inr ⟨List.mem_cons_self, hF'⟩
        · rcases c5 a q with z | z
          · exact .inl z
          · exact .inr ⟨List.mem_cons_of_mem _ z.1, z.2⟩
      · rcases List.mem_cons.mp ha with q | q
        · rw [q]; exact ⟨nf, hF'⟩
        · exact ⟨(Ex.new nf).isNone (c6 a q).1, (c6 a q).2⟩
    | bor i =>
      rcases argS_bor e1 with ⟨b, l, o, hi, rfl⟩ | ⟨d, hi, rfl⟩
      · have own : isOwn ρ[i]? = true := isOwn_iff.mpr ⟨_, _, _, hi⟩
        rw [isOwn_lent own] at nd
        obtain ⟨n1, n2⟩ := List.nodup_cons.mp nd
        obtain ⟨c1, c2, c3, c4, c5, c6⟩ := argC_of (rs := rs) R0 h.2 n2 e2
        obtain ⟨a, ea, n, nf, y⟩ := R0.own hi
        have hv : v = .ref a := by have := h.1; rw [ea] at this; cases this; rfl
        subst hv
        have np : a ∉ lentA ss' vs := fun q => by
          rcases c5 a q with ⟨j, hj, e⟩ | ⟨_, z⟩
          · have := R0.inj i j a own (lent_own hj) ea e
            subst this
            exact n1 hj
          · exact z nf
        refine ⟨by simp [c1], at_ (P1 := True) ⟨a, rfl, n, y⟩ c2, List.nodup_cons.mpr ⟨np, c3⟩, fun b hb => ?_, fun b hb => ?_, c6⟩
        · rcases List.mem_cons.mp hb with q | q
          · rw [q]; exact (ArgR.ex h.2).isNone nf
          · exact c4 b q
        · rw [isOwn_lent own]
          rcases List.mem_cons.mp hb with q | q
          · rw [q]; exact .inl ⟨i, List.mem_cons_self, ea⟩
          · rcases c5 b q with ⟨j, hj, e⟩ | z
            · exact .inl ⟨j, List.mem_cons_of_mem _ hj, e⟩
            · exact .inr z
      · have own : ¬ isOwn ρ[i]? = true := fun z => by obtain ⟨_, _, _, q⟩ := isOwn_iff.mp z; rw [hi] at q; cases q
        rw [isOwn_no own] at nd
        obtain ⟨c1, c2, c3, c4, c5, c6⟩ := argC_of (rs := rs) R0 h.2 nd e2
        obtain ⟨w, ew, r⟩ := R0.imm hi
        have hv : w = v := by have := h.1; rw [ew] at this; cases this; rfl
        subst hv
        rw [isOwn_no own]
        exact ⟨by simp [c1], at_ (P1 := True) r c2, c3, c4, c5, c6⟩
theorem back_bor {ρ0 ρ : Env} {i : Nat} {rs : List Res} {s : Slot} {ss : List Slot} : back ρ0 (.bor i :: rs) (s :: ss) ρ = back ρ0 rs ss (match ρ0[i]?, s with
    | some (.own p l _), .own _ _ o => ρ.set i (.own p l o)
    | _, _ => ρ) := rfl
/-- what was lent comes back into its slots -/
theorem back_rel {ρ0 : Env} {G H G' H' : Hp} {Fm : Hp} (R0 : Rel0 Γ ρ0 G Fm σ H) (sub : Ex F Fm) : ∀ {rs : List Res} {vs : List V} {ss outs : List Slot} {ρ : Env} {F1 F2 : Hp}, Rel0 Γ ρ G' F σ H' → ArgR Γ G H σ F1 F2 rs vs → (lent ρ0 rs).Nodup → argsS ρ0 rs = some ss → OutR Γ G' H' ss vs outs →
    (∀ (i : Nat), i ∈ lent ρ0 rs → ρ[i]? = some .emp) → (∀ (i : Nat), isOwn ρ[i]? = true → isOwn ρ0[i]? = true) →
    (∀ (j : Nat) (b l : Bool) (o : OD), ρ0[j]? = some (.own b l o) → j ∉ lent ρ0 rs → ∃ o', ρ[j]? = some (.own b l o') ∧ (l = true → o' = o)) →
    Rel0 Γ (back ρ0 rs outs ρ) G' F σ H' ∧ (∀ (i : Nat), isOwn (back ρ0 rs outs ρ)[i]? = true → isOwn ρ0[i]? = true) ∧
      ∀ (j : Nat) (b l : Bool) (o : OD), ρ0[j]? = some (.own b l o) → ∃ o', (back ρ0 rs outs ρ)[j]? = some (.own b l o') ∧ (l = true → o' = o)
  | [], vs, ss, outs, ρ, _, _, R1, _, _, _, _, _, ow, kp => by
    have e : back ρ0 [] outs ρ = ρ := by cases outs <;> rfl
    rw [e]; exact ⟨R1, ow, fun j b l o h => kp j b l o h (by simp [lent])⟩
  | r :: rs, [], _, _, _, _, _, _, h, _, _, _, _, _, _ => by cases r <;> exact h.elim
  | r :: rs, v :: vs, ss, outs, ρ, F1, F2, R1, h, nd, e, out, em, ow, kp => by
    obtain ⟨s, ss', rfl, e1, e2⟩ := argsS_cons e
    have out' : ∀ {o1 : Slot} {os : List Slot}, outs = o1 :: os → OutR Γ G' H' ss' vs os := fun {o1 os} eo i l o p a b => by
      obtain ⟨b', l', o', q1, q2⟩ := out (i + 1) l o p (by simpa using a) (by simpa using b)
      exact ⟨b', l', o', by rw [eo] at q1; simpa using q1, q2⟩
    have none' : outs = [] → ∀ (l : Bool) (o : OD) (p : Addr), s = .own true l o → v = .ref p → False := fun eo l o p a b => by
      obtain ⟨b', l', o', q1, _⟩ := out 0 l o p (by rw [a]; rfl) (by rw [b]; rfl)
      rw [eo] at q1; simp at q1
    cases r with
    | imm d =>
      cases outs with
      | nil =>
        have e : back ρ0 (.imm d :: rs) [] ρ = back ρ0 rs [] ρ := by cases rs with
          | nil => rfl
          | cons r rs => cases r <;> rfl
        rw [e]
        exact back_rel (rs := rs) R0 sub R1 h.2 nd e2 (fun i l o p a b => by
          obtain ⟨b', l', o', q1, q2⟩ := out (i + 1) l o p (by simpa using a) (by simpa using b)
          simp at q1) em ow kp
      | cons o1 os => exact back_rel (rs := rs) R0 sub R1 h.2 nd e2 (out' rfl) em ow kp
    | fr o =>
      obtain ⟨p, u, _, _, _, _, _, t⟩ := h
      cases outs with
      | nil =>
        have e : back ρ0 (.fr o :: rs) [] ρ = back ρ0 rs [] ρ := by cases rs with
          | nil => rfl
          | cons r rs => cases r <;> rfl
        rw [e]
        exact back_rel (rs := rs) R0 sub R1 t nd e2 (fun i l o p a b => by
          obtain ⟨b', l', o', q1, q2⟩ := out (i + 1) l o p (by simpa using a) (by simpa using b)
          simp at q1) em ow kp
      | cons o1 os => exact back_rel (rs := rs) R0 sub R1 t nd e2 (out' rfl) em ow kp
    | bor i =>
      rcases argS_bor e1 with ⟨b, l, o, hi, rfl⟩ | ⟨d, hi, rfl⟩
      · have own : isOwn ρ0[i]? = true := isOwn_iff.mpr ⟨_, _, _, hi⟩
        rw [isOwn_lent own] at nd em kp
        obtain ⟨n1, n2⟩ := List.nodup_cons.mp nd
        obtain ⟨a, ea, n, nf, y⟩ := R0.own hi
        have hv : v = .ref a := by have := h.1; rw [ea] at this; cases this; rfl
        subst hv
        cases outs with
        | nil => exact (none' rfl l o a rfl rfl).elim
        | cons o1 os =>
          obtain ⟨b', l', o', q1, q2, q3, q4⟩ := out 0 l o a rfl rfl
          simp only [List.getElem?_cons_zero, Option.some.injEq] at q1
          subst q1
          have hlen : i < ρ.length := (List.getElem?_eq_some_iff.mp (em i List.mem_cons_self)).1
          have R2 : Rel0 Γ (ρ.set i (.own b l o')) G' F σ H' := R1.fill b l hlen ea q2 (sub.isNone nf) q3 fun j hj oj ej => hj (R0.inj j i a (ow j oj) own ej ea)
          have eb : back ρ0 (.bor i :: rs) (.own b' l' o' :: os) ρ = back ρ0 rs os (ρ.set i (.own b l o')) := by
            rw [back_bor, hi]
          rw [eb]
          refine back_rel (rs := rs) R0 sub R2 h.2 n2 e2 (out' rfl) (fun j hj => ?_) (fun j hj => ?_) (fun j b1 l1 o1 hj nj => ?_)
          · have ne : i ≠ j := fun z => n1 (z ▸ hj)
            rw [List.getElem?_set_ne ne]
            exact em j (List.mem_cons_of_mem _ hj)
          · by_cases z : i = j
            · rw [← z]; exact own
            · rw [List.getElem?_set_ne z] at hj; exact ow j hj
          · by_cases z : i = j
            · subst z
              rw [hi] at hj; cases hj
              exact ⟨o', List.getElem?_set_self hlen, q4⟩
            · rw [List.getElem?_set_ne z]
              exact kp j b1 l1 o1 hj (fun q => by
                rcases List.mem_cons.mp q with q | q
                · exact z q.symm
                · exact nj q)
      · have own : ¬ isOwn ρ0[i]? = true := fun z => by obtain ⟨_, _, _, q⟩ := isOwn_iff.mp z; rw [hi] at q; cases q
        rw [isOwn_no own] at nd em kp
        cases outs with
        | nil =>
          have e : back ρ0 (.bor i :: rs) [] ρ = back ρ0 rs [] ρ := by cases rs with
            | nil => rfl
            | cons r rs => cases r <;> rfl
          rw [e]
          exact back_rel (rs := rs) R0 sub R1 h.2 nd e2 (fun i l o p a b => by
            obtain ⟨b', l', o', q1, q2⟩ := out (i + 1) l o p (by simpa using a) (by simpa using b)
            simp at q1) em ow kp
        | cons o1 os =>
          have eb : back ρ0 (.bor i :: rs) (o1 :: os) ρ = back ρ0 rs os ρ := by
            rw [back_bor, hi]
          rw [eb]
          exact back_rel (rs := rs) R0 sub R1 h.2 nd e2 (out' rfl) em ow kp
theorem lent_lt {ρ : Env} {rs : List Res} {i : Nat} (h : i ∈ lent ρ rs) : i < ρ.length := by
  obtain ⟨_, _, _, e⟩ := isOwn_iff.mp (lent_own h)
  exact (List.getElem?_eq_some_iff.mp e).1
/-- A CALL -/
theorem call_ok {ρ : Env} {G H F' : Hp} {call : List Slot → CRes} {rs : List Res} {vs : List V} {Q : VK} (R0 : Rel Γ π ρ G F' σ H) (ha : ArgR Γ G H σ F F' rs vs) (h : Post Γ W π F σ (ResV Γ F σ) G (doCall call rs ρ) Q) :
    spI Γ call vs.length vs H Q (fun cls d H' => W cls d σ H') := by
  unfold doCall at h
  split at h
  · rename_i nd
    split at h
    · rename_i ss hs
      obtain ⟨c1, c2, c3, c4, c5, c6⟩ := argC_of R0 ha nd hs
      have sub := ArgR.ex ha
      refine ⟨rfl, G, ss, ⟨c1, c2, c3⟩, R0.g, ?_⟩
      -- what the call leaves alone
      have kF : ∀ {G' H' : Hp}, Keeps G H ss vs G' H' → ∀ a u, F a = some u → H' a = some u ∧ G' a = none := fun {G' H'} k a u q => by
        have q' := sub a u q
        have n : G a = none := by
          cases y : G a with
          | none => rfl
          | some t => rw [R0.dis a t y] at q'; cases q'
        exact k a u (R0.f a u q') n fun z => by rw [c4 a z] at q; cases q
      have kO : ∀ {G' H' : Hp}, Keeps G H ss vs G' H' → ∀ (i : Nat) (a : Addr) (u : HO), i ∉ lent ρ rs → isOwn ρ[i]? = true → σ[i]? = some (some (.ref a)) → H a = some u → H' a = some u ∧ G' a = none := fun {G' H'} k i a u hi oi ei hu => by
        obtain ⟨b, l, o, e⟩ := isOwn_iff.mp oi
        obtain ⟨a', e1, n, nf, y⟩ := R0.own e
        rw [ei] at e1; cases e1
        refine k a u hu n fun z => ?_
        rcases c5 a z with ⟨j, hj, ej⟩ | ⟨_, w⟩
        · have := R0.inj i j a oi (lent_own hj) ei ej
          subst this
          exact hi hj
        · exact w nf
      split at h
      · rename_i r outs hc
        first | rw [hc] | skip
        intro G' H' v e g k out ret
        have R1 : Rel0 Γ (wipeL (lent ρ rs) ρ) G' F σ H' := (R0.toRel0.subF sub).aside (lent ρ rs) e g (kF k) (kO k)
        have ow : ∀ (i : Nat), isOwn (wipeL (lent ρ rs) ρ)[i]? = true → isOwn ρ[i]? = true := fun i hi => by
          by_cases z : i ∈ lent ρ rs
          · exact lent_own z
          · rw [wipeL_out _ _ z] at hi; exact hi
        obtain ⟨R2, ow2, kp⟩ := back_rel (rs := rs) (vs := vs) (ss := ss) (outs := outs) R0.toRel0 sub R1 ha nd hs out (fun i hi => wipeL_at _ _ hi (lent_lt hi)) ow (fun j b l o hj nj => ⟨o, by rw [wipeL_out _ _ nj]; exact hj, fun _ => rfl⟩)
        have pin : PinOk π (back ρ rs outs (wipeL (lent ρ rs) ρ)) σ := fun j p c hm => by
          obtain ⟨h1, b, l, o, h2, h3, h4⟩ := R0.pin j p c hm
          obtain ⟨o', h5, h6⟩ := kp j b l o h2
          exact ⟨h1, b, l, o', h5, h3, fun o2 hc => ⟨(h4 o2 hc).1, (h6 (h4 o2 hc).1).trans (h4 o2 hc).2⟩⟩
        refine h G' H' v e ⟨R2, pin⟩ ?_
        cases r with
        | imm d => exact ret
        | bor i => exact ret.elim
        | fr o =>
          obtain ⟨p, rfl, n, y, z⟩ := ret
          have np : F p = none ∧ ∀ (i : Nat), isOwn ρ[i]? = true → σ[i]? ≠ some (some (V.ref p)) := by
            rcases z with z | z
            · refine ⟨(sub.trans R0.f).isNone z, fun i oi ei => ?_⟩
              obtain ⟨b, l, o', e1⟩ := isOwn_iff.mp oi
              obtain ⟨a, e2, _, _, y'⟩ := R0.own e1
              rw [ei] at e2; cases e2
              obtain ⟨u, hu⟩ := y'.ex
              rw [z] at hu; cases hu
            · refine ⟨(c6 p z).1, fun i oi ei => ?_⟩
              obtain ⟨b, l, o', e1⟩ := isOwn_iff.mp oi
              obtain ⟨a, e2, _, nf, _⟩ := R0.own e1
              rw [ei] at e2; cases e2
              exact (c6 p z).2 nf
          exact ⟨p, rfl, n, np.1, y, fun i oi => np.2 i (ow2 i oi)⟩
      · rename_i c xs hc
        first | rw [hc] | skip
        intro G' H' dd e g k x
        split at h
        · rename_i hl
          have R1 := (R0.toRel0.subF sub).aside (lent ρ rs) e g (kF k) (kO k)
          refine h G' H' dd e ⟨R1, fun j p c hm => ?_⟩ x
          obtain ⟨h1, b, l, o, h2, h3, h4⟩ := R0.pin j p c hm
          have nj : j ∉ lent ρ rs := fun hj => by
            have := List.all_eq_true.mp hl j hj
            unfold freeAt at this
            rw [h2] at this
            rcases pin_or h3 h4 with z | z <;> subst z <;> simp at this
          exact ⟨h1, b, l, o, by rw [wipeL_out _ _ nj]; exact h2, h3, h4⟩
        · exact h.elim
      · exact h.elim
    · exact h.elim
  · exact h.elim
end VI
/-! VI, soundness: the text's expressions against their IR -/
namespace VI
open PySem L2
/-! ### forms of the text -/
def notStar : Expr → Bool
  | .Starred _ _ => false | _ => true
def noComp : Expr → Bool
  | .ListComp _ _ _ _ => false | .SetComp _ _ _ _ => false | .DictComp _ _ _ _ _ => false | _ => true
def noSet : Expr → Bool
  | .Set _ _ _ => false | _ => true
def noNul : Expr → Bool
  | .Call _ _ _ _ => false | _ => true
def noSlice : Expr → Bool
  | .Slice _ _ _ _ => false | _ => true
def plainT : Expr → Bool
  | .UnaryOp .Not _ _ => false | .BoolOp _ _ _ => false | .IfExp _ _ _ _ => false | .Compare _ _ _ _ => false | _ => true
theorem star_cons {e : Expr} {es : List Expr} {env : PySem.Env} (h : notStar e = true) : starEach (e :: es) env = (false, eval e env) :: starEach es env := by
  cases e <;> first | rfl | cases h
theorem star_any {pos : Pos} {env : PySem.Env} : ∀ {es : List Expr}, es.all notStar = true → (backTo pos (starEach es env)).any (·.1) = false
  | [], _ => rfl
  | e :: es, h => by
    have h' : notStar e = true ∧ es.all notStar = true := by simpa using h
    rw [star_cons h'.1]
    show ((false : Bool) || (backTo pos (starEach es env)).any (·.1)) = false
    rw [star_any h'.2]; rfl
theorem swap_no {e : Expr} {t : Option Expr} {l : Nat} {env : PySem.Env} (h : noComp e = true) : swapsWith e t l env = pure false := by
  cases e <;> first | rfl | cases h
theorem set_no {e : Expr} {env : PySem.Env} (h : noSet e = true) (x : Value) : foldedSetIterable e env x = pure x := by
  cases e <;> first | rfl | cases h
theorem marks_no {op : CmpOp} {e : Expr} (h : noSet e = true) : behindInMarks op e = false := by
  cases e <;> first | rfl | cases h
theorem base_no {e : Expr} {n : Str} {env : PySem.Env} (h : noNul e = true) : attributeBase e n env (eval e env) = eval e env := by
  cases e <;> first | rfl | cases h
theorem slice_no {e : Expr} (h : noSlice e = true) : PlainIx e := by
  cases e <;> first | (intro o i; rfl) | cases h
theorem test_plain {e : Expr} {env : PySem.Env} (h : plainT e = true) (whole : Sem Value) : isTrue e env whole = (do let v ← whole; standAt e.pos; holding [v] (truthy v)) := by
  cases e <;> first | rfl | cases h | skip
  rename_i op a p
  cases op <;> first | rfl | cases h
/-! ### the IR against the text -/
structure Inf where
  fns : List Str
  con : List (Str × Dat)
  exn : List (Str × List Str)
def vis (sc : Scope) (x : Str) : Bool := match sc.names.lookup x with
  | some .local => true | some .cell => true | some .free => true | _ => false
def glb (sc : Scope) (x : Str) : Bool := match sc.names.lookup x with
  | some .globalImplicit => true | _ => false
def loc (sc : Scope) (x : Str) : Bool := match sc.names.lookup x with
  | some .local => true | _ => false
def nmOk (x : Str) : Bool := !(x == ("__debug__" : Str)) && !(x == ("__classdict__" : Str)) && !(x == ("__name__" : Str))
def isVar (N : List Str) (sc : Scope) (i : Nat) (x : Str) : Bool := decide (N[i]? = some x) && vis sc x && nmOk x
def scal : Dat → Bool
  | .non => true | .bl _ => true | .int _ => true | .str _ => true | _ => false
def datV : Dat → V
  | .bl b => .bl b | .int i => .int i | .str s => .str s | _ => .non
def conEq : Dat → Dat → Bool
  | .int i, .int j => decide (i = j) | .str i, .str j => decide (i = j) | _, _ => false
theorem conEq_eq {d e : Dat} (h : conEq d e = true) : d = e := by
  unfold conEq at h
  split at h
  · exact congrArg Dat.int (of_decide_eq_true h)
  · exact congrArg Dat.str (of_decide_eq_true h)
  · cases h
def mC : Dat → Const → Bool
  | .non, .none => true
  | .bl b, .bool c => b == c
  | .int i, .int j => decide (i = j)
  | .str s, .str t => decide (s = t)
  | _, _ => false
def mOp : Bo → Operator → Bool
  | .add, .Add => true | .sub, .Sub => true | .mul, .Mult => true | .fdiv, .FloorDiv => true | .mod, .Mod => true | .pow, .Pow => true | .band, .BitAnd => true
  | _, _ => false
theorem mOp_eq {o : Bo} {op : Operator} (h : mOp o op = true) : op = opOf o := by
  cases o <;> cases op <;> first | rfl | cases h
def mCo : Co → CmpOp → Bool
  | .eq, .Eq => true | .ne, .NotEq => true | .lt, .Lt => true | .le, .LtE => true | .gt, .Gt => true | .ge, .GtE => true | .isin, .In => true | .notin, .NotIn => true | .isN, .Is => true | .notN, .IsNot => true
  | _, _ => false
theorem mCo_eq {o : Co} {op : CmpOp} (h : mCo o op = true) : op = coOf o := by
  cases o <;> cases op <;> first | rfl | cases h
def biName : Bi → Str
  | .len => "len" | .abs => "abs" | .int => "int" | .min => "min" | .max => "max" | .sum => "sum" | .sorted => "sorted" | .list => "list" | .tuple => "tuple" | .any => "any" | .all => "all"
def tyName : Ty → String
  | .int => "int" | .bool => "bool" | .str => "str" | .list => "list" | .tuple => "tuple" | .dict => "dict"
/-- a name that may be stored: in a def (b) captured ones too -/
def lcl (b : Bool) (sc : Scope) (x : Str) : Bool := match sc.names.lookup x with
  | some .local => true | some .cell => b | _ => false
def mNms (b : Bool) (N : List Str) (sc : Scope) : List Nat → List Expr → Bool
  | [], [] => true
  | i :: is, .Name x _ :: xs => decide (N[i]? = some x) && lcl b sc x && mNms b N sc is xs
  | _, _ => false
def mPat (b : Bool) (N : List Str) (sc : Scope) : Pat → Expr → Bool
  | .one i, .Name x _ => decide (N[i]? = some x) && lcl b sc x
  | .many is, .Tuple xs _ _ => mNms b N sc is xs
  | _, _ => false
def ownOf (N : List Str) (is : List Nat) : List (Str × Nat) := is.map fun i => (N.getD i Str.empty, i)
mutual
/-- it may stand as a test -/
def okT : E → Bool
  | .not a => okT a
  | .bop _ es => okTs es
  | .ife _ _ _ => false
  | .frz _ => false
  | _ => true
def okTs : Es → Bool
  | .nil => true
  | .cons e es => okT e && okTs es
end
def muName : Mu → Str
  | .append => "append" | .pop => "pop"
def muLen : Mu → Nat → Bool
  | .append, n => n == 1 | .pop, n => n == 0 || n == 1
def boIs : Bool → BoolOp → Bool
  | k, .And => k | k, .Or => !k
mutual
def mE (I : Inf) (N : List Str) : E → Scope → Expr → Bool
  | .frz a, sc, x => mE I N a sc x
  | .var i, sc, x => match x with
    | .Name x _ => isVar N sc i x
    | _ => false
  | .cst d, sc, x => match x with
    | .Constant c _ _ => mC d c
    | .Name x _ => glb sc x && nmOk x && scal d && I.con.any fun p => decide (p.1 = x) && conEq p.2 d
    | _ => false
  | .bin o a b, sc, x => match x with
    | .BinOp l op r _ => mOp o op && mE I N a sc l && mE I N b sc r
    | _ => false
  | .neg a, sc, x => match x with
    | .UnaryOp .USub x _ => mE I N a sc x
    | _ => false
  | .cmp o a b, sc, x => match x with
    | .Compare l [op] [r] _ => mCo o op && mE I N a sc l && mE I N b sc r && noSet r
    | _ => false
  | .chn o o' a b c, sc, x => match x with
    | .Compare l [op, op'] [r, r'] _ => mCo o op && mCo o' op' && mE I N a sc l && mE I N b sc r && mE I N c sc r' && noSet r'
    | _ => false
  | .bop k es, sc, x => match x with
    | .BoolOp op xs _ => boIs k op && mEs I N es sc xs && !xs.isEmpty
    | _ => false
  | .not a, sc, x => match x with
    | .UnaryOp .Not x _ => mE I N a sc x
    | _ => false
  | .ife c a b, sc, x => match x with
    | .IfExp t x y _ => mE I N c sc t && okT c && mE I N a sc x && mE I N b sc y
    | _ => false
  | .tup es, sc, x => match x with
    | .Tuple xs _ _ => mEs I N es sc xs && xs.all notStar
    | _ => false
  | .lst es, sc, x => match x with
    | .List xs _ => mEs I N es sc xs && xs.all notStar
    | _ => false
  | .dnew, _, x => match x with
    | .Dict [] [] _ => true
    | _ => false
  | .dnewT, _, x => match x with
    | .Dict [] [] _ => true
    | _ => false
  | .dl1 k v, sc, x => match x with
    | .Dict [some kx] [vx] _ => mE I N k sc kx && mE I N v sc vx
    | _ => false
  | .idx a b, sc, x => match x with
    | .Subscript x y _ => mE I N a sc x && mE I N b sc y && noSlice y
    | _ => false
  | .slc a lo hi, sc, x => match x with
    | .Subscript x (.Slice l h none _) _ => mE I N a sc x && mO I N lo sc l && mO I N hi sc h
    | _ => false
  | .call f es, sc, x => match x with
    | .Call (.Name x _) xs [] _ => decide (I.fns[f]? = some x) && glb sc x && nmOk x && mEs I N es sc xs && xs.all notStar
    | _ => false
  | .bi b es, sc, x => match x with
    | .Call (.Name x _) (y :: ys) [] _ => decide (x = biName b) && glb sc x && mEs I N es sc (y :: ys) && (y :: ys).all notStar
    | _ => false
  | .rl1 a, sc, x => match x with
    | .Call (.Name x _) [.Call (.Name z _) [y] [] _] [] _ => decide (x = "list") && glb sc x && decide (z = "range") && glb sc z && mE I N a sc y && notStar y
    | _ => false
  | .rl2 a b, sc, x => match x with
    | .Call (.Name x _) [.Call (.Name z _) [y, y'] [] _] [] _ => decide (x = "list") && glb sc x && decide (z = "range") && glb sc z && mE I N a sc y && notStar y && mE I N b sc y' && notStar y'
    | _ => false
  | .rl3 es, sc, x => match x with
    | .Call (.Name x _) [.Call (.Name z _) (y :: ys) [] _] [] _ => decide (x = "list") && glb sc x && decide (z = "range") && glb sc z && mEs I N es sc (y :: ys) && (y :: ys).all notStar
    | _ => false
  | .isi t a, sc, x => match x with
    | .Call (.Name x _) [y, .Name z _] [] _ => decide (x = "isinstance") && glb sc x && decide (z = Str.ofString (tyName t)) && glb sc z && mE I N a sc y && notStar y
    | _ => false
  | .mut m i es, sc, x => match x with
    | .Call (.Attribute (.Name x _) mm ap) ys [] cp => isVar N sc i x && decide (mm = muName m) && mEs I N es sc ys && ys.all notStar && (ap.endLine == cp.line) && muLen m ys.length
    | _ => false
  | .lc e p it c, sc, x => match x with
    | .ListComp elt [⟨tg, iter, ifs, 0⟩] scope _ => mI I N it sc tg iter && noSet iter && blkC N sc scope (ownOf N p.ix) && mPat false N (relS scope sc) p tg && mE I N e (relS scope sc) elt && mCs I N c (relS scope sc) ifs
    | _ => false
  | .mk _ _, _, _ => false
  | .meth _ _ _ _, _, _ => false
  | .fld _ _ _, _, _ => false
def mEs (I : Inf) (N : List Str) : Es → Scope → List Expr → Bool
  | .nil, _, xs => xs.isEmpty
  | .cons e es, sc, xs => match xs with
    | x :: xs => mE I N e sc x && mEs I N es sc xs
    | [] => false
def mO (I : Inf) (N : List Str) : Es → Scope → Option Expr → Bool
  | .nil, _, x => x.isNone
  | .cons e es, sc, x => match es, x with
    | .nil, some x => mE I N e sc x
    | _, _ => false
def mCs (I : Inf) (N : List Str) : Es → Scope → List Expr → Bool
  | .nil, _, xs => xs.isEmpty
  | .cons e es, sc, xs => match es, xs with
    | .nil, [x] => mE I N e sc x && okT e
    | _, _ => false
def mI (I : Inf) (N : List Str) : It → Scope → Expr → Expr → Bool
  | .rng es, sc, _, x => match x with
    | .Call (.Name x _) ys [] _ => decide (x = "range") && glb sc x && mEs I N es sc ys && ys.all notStar && decide (1 ≤ ys.length) && decide (ys.length ≤ 2)
    | _ => false
  | .enm a, sc, tg, x => match tg with
    | .Tuple _ _ _ => (match x with
      | .Call (.Name x _) [y] [] _ => decide (x = "enumerate") && glb sc x && mE I N a sc y && notStar y
      | _ => false)
    | _ => false
  | .val e, sc, _, x => mE I N e sc x
end
end VI
/-! VI: own exception classes: what their __init__ does -/
namespace VI
open PySem L2
section
variable {X : Cx} {e : Expr} {es : List Expr} {ta : TA} {p1 p2 pos : Pos} {S : Addr}
theorem call_eq {x m y : Str} {t : Str} {k : Nat} {q1 q2 q3 q4 r : Pos} {env : PySem.Env} (h : q2.endLine = r.line) : eval (.Call (.Attribute (.Name x q1) m q2) [.Name y q3, .Constant (.str t) k q4] [] r) env = (do
      let ov ← eval (.Name x q1) env
      standAt q2.atName
      let (f, first) ← holding [ov] (getMethod ov m (do return (← importBound (.Name x q1) env).getD true))
      callWith r f first (backTo r (starEach [.Name y q3, .Constant (.str t) k q4] env)) (backToKw r (keywordEach [] env))) := by
  have few : methodCallForm ([Expr.Name y q3, .Constant (.str t) k q4].length + ([] : List Keyword).length) (backTo r (starEach [.Name y q3, .Constant (.str t) k q4] env)) (backToKw r (keywordEach [] env)) = true := rfl
  show (do
    let ov ← eval (.Name x q1) env
    standAt q2.atName
    methodCall (.Name x q1) m q2 r env ov ([Expr.Name y q3, .Constant (.str t) k q4].length + ([] : List Keyword).length) (backTo r (starEach [.Name y q3, .Constant (.str t) k q4] env)) (backToKw r (keywordEach [] env))) = _
  have pos : methodCallPos true (.Name x q1) env q2 r = pure r := by
    unfold methodCallPos
    rw [if_pos (by simp [h])]
  unfold methodCall
  rw [few, pos]
  rfl
/-- SharedError.__init__(self, ..): the base's is the built-in one -/
theorem pe_base {pl : Sem Bool} (hg : Gl X "SharedError") (hm : X.mg "SharedError" = some (.ref S))
    (h1 : PySem.W.specialIn X.K (.ref S) "__getattribute__" = some (some (.builtin "type.__getattribute__"))) (h2 : PySem.W.readsIn X.K S (.type "type") = true)
    (h3 : PySem.W.findCls X.K (.ref S) (.type "type") "__init__" = some (.val (.builtin "ValueError.__init__"))) (ha : PA X (e :: es) ta)
    (hc : eval (.Call (.Attribute (.Name "SharedError" p1) "__init__" p2) (e :: es) [] pos) X.env = (do
      let ov ← eval (.Name "SharedError" p1) X.env
      standAt p2.atName
      let (f, first) ← holding [ov] (getMethod ov "__init__" pl)
      callWith pos f first (backTo pos (starEach (e :: es) X.env)) (backToKw pos (keywordEach [] X.env))) := by rfl)
    (he : starEach (e :: es) X.env = (false, eval e X.env) :: starEach es X.env := by rfl) (hpl : (backTo pos (starEach es X.env)).any (·.1) = false := by rfl) :
    PE X (.Call (.Attribute (.Name "SharedError" p1) "__init__" p2) (e :: es) [] pos) (tVeI X.K ta) := by
  constructor
  intro pins s σ H Q J h
  refine PySem.W.methodCall_KW (ld_glob J hg hm ?_ (by decide)) hc
  refine PySem.W.method_cls J.kIn h1 (PySem.W.cls_value J.kIn h2 h3 (by decide +kernel) ?_)
  show wpAny _ _ (callWith pos (Value.builtin "ValueError.__init__") [] (backTo pos (starEach (e :: es) X.env)) []) _ _ _
  refine PyProof.Rows.callWith_method1 (thn (ha.run pos pins _ σ H _ (J.tok _) h) fun us s1 z => ?_) he hpl
  obtain ⟨vs, H1, J1, rs, a, C, ws, ev, hl, T, ea, q⟩ := z
  subst ev
  cases rs with
  | @cons _ u0 _ ur ra rw' =>
    have eu : u0 = Value.ref a := ra
    subst eu
    refine oinit_ok T J1 ea ?_ fun s' J2 => ⟨.non, H1, J2, rfl, q⟩
    have := Paired.length rw'
    rw [sizeLine_eq]
    omega
end
theorem glb_ok' {sc : Scope} {x : Str} (h : glb sc x = true) : sc.names.lookup x = some .globalImplicit := by
  unfold glb at h
  split at h
  · assumption
  · cases h
/-- the fields and the parameters that they keep -/
def isFl : List Str → List Str → List Stmt → Bool
  | f :: fs, p :: ps, .Assign [.Attribute (.Name "self" _) g _] (.Name y _) _ :: st => decide (f = g) && decide (p = y) && isFl fs ps st
  | [], [], [] => true
  | _, _, _ => false
def isIni (fs ps : List Str) : List Stmt → Bool
  | .Expr (.Call (.Attribute (.Name "SharedError" _) "__init__" q) [.Name "self" _, .Constant (.str _) _ _] [] r) _ :: st => q.endLine == r.line && isFl fs ps st
  | _ => false
def tFl (K : PySem.W.Frag) : Nat → List Str → TS
  | _, [] => tNext
  | j, f :: fs => tSeq (tOst K f (tVar 0) (tVar j)) (tFl K (j + 1) fs)
theorem ss_fl {X : Cx} (hself : X.N[0]? = some ("self" : Str)) (sc : ∀ x ∈ X.N, X.env.scope.names.lookup x = some .local) (nm : ∀ x ∈ X.N, nmOk x = true) : ∀ (fs ps : List Str) (st : List Stmt) (j : Nat), (∀ i y, ps[i]? = some y → X.N[j + i]? = some y) → isFl fs ps st = true → PSs X st (tFl X.K j fs)
  | [], [], [], j, _, _ => pss_nil
  | [], [], _ :: _, _, _, h => by unfold isFl at h; cases h
  | [], _ :: _, _, _, _, h => by unfold isFl at h; cases h
  | _ :: _, [], _, _, _, h => by unfold isFl at h; cases h
  | f :: fs, p :: ps, [], _, _, h => by unfold isFl at h; cases h
  | f :: fs, p :: ps, s :: st, j, hp, h => by
    unfold isFl at h
    split at h
    · rename_i e1 e2 e3
      cases e1; cases e2; cases e3
      simp only [Bool.and_eq_true, decide_eq_true_eq] at h
      obtain ⟨⟨h1, h2⟩, h3⟩ := h
      subst h1 h2
      have hj := hp 0 p rfl
      have v : ∀ {i : Nat} {x : Str} {q : Pos}, X.N[i]? = some x → PE X (.Name x q) (tVar i) := fun {i x q} hi => by
        have k := nm x (List.mem_of_getElem? hi)
        unfold nmOk at k
        simp only [Bool.and_eq_true, Bool.not_eq_true'] at k
        exact pe_var hi (.inl (sc x (List.mem_of_getElem? hi))) k.1.1 k.1.2
      refine pss_cons (ps_ost (v hself) (v hj) rfl) (ss_fl hself sc nm fs ps st (j + 1) (fun i y hy => ?_) h3)
      have := hp (i + 1) y (by simpa using hy)
      rw [← this]
      congr 1
      omega
    · simp_all
    · cases h
/-- what __init__ leaves: the fields, in the dict at dx -/
structure IniEnd (H H' : Hp) (a C dx : Addr) (ys : List (Str × V)) : Prop where
  at_ : H' a = some (exo a C (some dx))
  dt : H' dx = some (exd dx ys)
  rest : ∀ b, b ≠ a → b ≠ dx → H' b = H b
def spIni (K : PySem.W.Frag) (C : Addr) (fs : List Str) : Sp := fun vs H Q _ => ∃ (a : Addr) (us : List V), vs = .ref a :: us ∧ us.length = fs.length ∧ H a = some (exo a C none) ∧ ∀ (dx : Addr) (H' : Hp), H dx = none → dx ≠ a → IniEnd H H' a C dx (fs.zip us).reverse → Q .non H'
theorem fl_more {K : PySem.W.Frag} {C a dx : Addr} (T : OexC K C) (σ : L2.St) (hs : σ[0]? = some (some (V.ref a))) (D : Ends) (H0 : Hp) (hda : dx ≠ a) : ∀ (fs : List Str) (us : List V) (ys : List (Str × V)) (j : Nat) (H : Hp), us.length = fs.length → (∀ f ∈ fs, PySem.W.findIn K (.ref C) f = some none) → ys.length + fs.length ≤ 900 →
    (∀ i u, us[i]? = some u → σ[j + i]? = some (some u)) → IniEnd H0 H a C dx ys → (∀ H', IniEnd H0 H' a C dx ((fs.zip us).reverse ++ ys) → D.nx σ H') → tFl K j fs D σ H
  | [], us, ys, j, H, hl, hno, hz, hσ, hE, k => k H hE
  | f :: fs, [], ys, j, H, hl, hno, hz, hσ, hE, k => by simp at hl
  | f :: fs, u :: us, ys, j, H, hl, hno, hz, hσ, hE, k => by
    show tOst K f (tVar 0) (tVar j) _ σ H
    simp only [List.length_cons] at hz
    refine ⟨u, hσ 0 u rfl, .ref a, hs, a, C, rfl, T, hno f List.mem_cons_self, .inr ⟨dx, ys, hE.at_, hE.dt, by omega, ?_⟩⟩
    show tFl K (j + 1) fs D σ _
    refine fl_more T σ hs D H0 hda fs us ((f, u) :: ys) (j + 1) _ (by simpa using hl) (fun g hg => hno g (List.mem_cons_of_mem _ hg)) (by simp only [List.length_cons]; omega) (fun i w hw => ?_) ⟨?_, upd_same, fun b h1 h2 => ?_⟩ fun H' h => k H' ?_
    · have := hσ (i + 1) w (by simpa using hw)
      rw [← this]
      congr 1
      omega
    · rw [upd_ne (Ne.symm hda)]; exact hE.at_
    · rw [upd_ne h2]; exact hE.rest b h1 h2
    · have e : ((f :: fs).zip (u :: us)).reverse ++ ys = (fs.zip us).reverse ++ ((f, u) :: ys) := by simp
      rw [e]; exact h
theorem fl_go {K : PySem.W.Frag} {C a : Addr} (T : OexC K C) (σ : L2.St) (hs : σ[0]? = some (some (V.ref a))) (D : Ends) : ∀ (fs : List Str) (us : List V) (H : Hp), fs ≠ [] → us.length = fs.length → (∀ f ∈ fs, PySem.W.findIn K (.ref C) f = some none) → fs.length ≤ 900 →
    (∀ i u, us[i]? = some u → σ[1 + i]? = some (some u)) → H a = some (exo a C none) → (∀ dx H', H dx = none → dx ≠ a → IniEnd H H' a C dx (fs.zip us).reverse → D.nx σ H') → tFl K 1 fs D σ H
  | [], us, H, h0, hl, hno, hz, hσ, hE, k => absurd rfl h0
  | f :: fs, [], H, h0, hl, hno, hz, hσ, hE, k => by simp at hl
  | f :: fs, u :: us, H, h0, hl, hno, hz, hσ, hE, k => by
    show tOst K f (tVar 0) (tVar 1) _ σ H
    simp only [List.length_cons] at hz
    refine ⟨u, hσ 0 u rfl, .ref a, hs, a, C, rfl, T, hno f List.mem_cons_self, .inl ⟨hE, fun dx n ne => ?_⟩⟩
    show tFl K 2 fs D σ _
    refine fl_more T σ hs D H ne fs us [(f, u)] 2 _ (by simpa using hl) (fun g hg => hno g (List.mem_cons_of_mem _ hg)) (by simp only [List.length_cons, List.length_nil]; omega) (fun i w hw => ?_) ⟨upd_same, ?_, fun b h1 h2 => ?_⟩ fun H' h => k dx H' n ne ?_
    · have := hσ (i + 1) w (by simpa using hw)
      rw [← this]
      congr 1
      omega
    · rw [upd_ne ne, upd_same]
    · rw [upd_ne h1, upd_ne h2]
    · have e : ((f :: fs).zip (u :: us)).reverse = (fs.zip us).reverse ++ [(f, u)] := by simp
      rw [e]; exact h
/-- what the written part says of a class of exceptions: its fields, its __init__ -/
structure ExDef (Γ : Tab) (K : PySem.W.Frag) (mg : Str → Option Value) (c : Nat) (x : Str) (fs : List Str) : Prop where
  hm : mg x = some (.ref (Γ.exc c))
  hx : (x == ("__debug__" : Str)) = false
  xf : Γ.xfl c = fs
  oc : OexC K (Γ.exc c)
  xc : XfC K (Γ.exc c)
  no : ∀ f ∈ fs, PySem.W.findIn K (.ref (Γ.exc c)) f = some none
  nd : fs.Nodup
  n0 : fs ≠ []
  nz : fs.length ≤ 900
  ini : ∃ (fI S : Addr) (fd : FuncData) (ps : List Str) (qual : Str) (st : Stmt), PySem.W.findIn K (.ref (Γ.exc c)) "__init__" = some (some (.ref fI)) ∧ PySem.W.typeIn K (.ref fI) = some (.type "function") ∧ Binds K fd ("self" :: ps) [] ∧ Fun K "__init__" qual st fI fd ∧
    FnScope ("self" :: ps) ("self" :: ps) (defScope st) ∧ isIni fs ps (defBody st) = true ∧ ps.length = fs.length ∧ glb (defScope st) "SharedError" = true ∧ (∀ y ∈ ("self" : Str) :: ps, (defScope st).names.lookup y = some .local) ∧ (∀ y ∈ ("self" : Str) :: ps, nmOk y = true) ∧
    mg "SharedError" = some (.ref S) ∧ PySem.W.specialIn K (.ref S) "__getattribute__" = some (some (.builtin "type.__getattribute__")) ∧ PySem.W.readsIn K S (.type "type") = true ∧ PySem.W.findCls K (.ref S) (.type "type") "__init__" = some (.val (.builtin "ValueError.__init__"))
theorem start_at {N : List Str} {vs : List V} {i : Nat} {v : V} (h : vs[i]? = some v) : (L2.start N vs)[i]? = some (some v) := by
  unfold L2.start
  have hi : i < vs.length := (List.getElem?_eq_some_iff.mp h).1
  rw [List.getElem?_append_left (by rw [List.length_map]; exact hi), List.getElem?_map, h]
  rfl
theorem ini_ok {Γ : Tab} {P : Program} {w : World} {K : PySem.W.Frag} {mg : Str → Option Value} {base : Heap} {c : Nat} {x : Str} {fs : List Str} (D : ExDef Γ K mg c x fs) : ∃ (fI : Addr) (fd : FuncData) (ps : List Str), PySem.W.findIn K (.ref (Γ.exc c)) "__init__" = some (some (.ref fI)) ∧ PySem.W.typeIn K (.ref fI) = some (.type "function") ∧ Binds K fd ("self" :: ps) [] ∧ ps.length = fs.length ∧ FnOk P w K mg base CX0 1 fI fd ("self" :: ps) (spIni K (Γ.exc c) fs) := by
  obtain ⟨fI, S, fd, ps, qual, st, h1, h2, h3, F, Sc, hi, hl, hg, hloc, hnm, hS, s1, s2, s3⟩ := D.ini
  refine ⟨fI, fd, ps, h1, h2, h3, hl, F.ok (k := 0) Sc (fun vs H Q E h => ?_) (fun cdv A outer s H vs Q E hr h => ?_)⟩
  · obtain ⟨a, us, rfl, hu, _⟩ := h
    simp [hu, hl]
  · obtain ⟨a, us, rfl, hu, ha, k⟩ := h
    unfold isIni at hi
    split at hi
    · rename_i p1 p2 p3 t k1 p4 p5 p6 st' heq
      simp only [Bool.and_eq_true, beq_iff_eq] at hi
      obtain ⟨hq, hi⟩ := hi
      refine ⟨tSeq (tDrop (tVeI K (tCons (tVar 0) (tCons (tC (.str t)) tNil)))) (tFl K 1 fs), ?_, ?_⟩
      · rw [heq]
        have v0 : PE _ (.Name "self" p3) (tVar 0) := pe_var (X := (cxOf CX0 P w K mg base ("self" :: ps) qual (defScope st) fI cdv A outer s H E).nox) (i := 0) rfl (.inl (hloc _ List.mem_cons_self)) (by decide) (by decide)
        exact pss_cons (ps_expr (pe_base (glb_ok' hg) hS s1 s2 s3 (pa_cons v0 (pa_cons pe_str pa_nil)) (call_eq hq)) rfl) (ss_fl (X := (cxOf CX0 P w K mg base ("self" :: ps) qual (defScope st) fI cdv A outer s H E).nox) rfl (fun y hy => hloc y hy) (fun y hy => hnm y hy) fs ps st' 1 (fun i y hy => by rw [Nat.add_comm]; exact hy) hi)
      · refine ⟨.ref a, start_at rfl, a, Γ.exc c, [.str t], rfl, by simp, D.oc, ha, ?_⟩
        show tFl K 1 fs _ _ _
        refine fl_go D.oc _ (start_at rfl) _ fs us H D.n0 hu D.no D.nz (fun i u hi => ?_) ha fun dx H' n ne z => k dx H' n ne z
        exact start_at (by rw [Nat.add_comm]; simpa using hi)
    · cases hi
end VI
/-! VI, soundness: expressions -/
namespace VI
open PySem L2
def biNames : List Str := ["len", "abs", "int", "min", "max", "sum", "sorted", "list", "tuple", "any", "all", "range", "enumerate", "isinstance", "str", "bool", "dict"]
/-- what isinstance asks of the class C of a caught exception -/
structure ClsQ (K : PySem.W.Frag) (C : Addr) : Prop where
  ha : PySem.W.findIn K (.ref C) "__class__" = some (some (.builtin "object.__class__"))
  hn : PySem.W.specialIn K (.builtin "object.__class__") "__get__" = some (some (.builtin "getset_descriptor.__get__"))
  ht : PySem.W.takesIn K (.builtin "object.__class__") = some true
  hm : PySem.W.mroIn K C (.type "object") = some true
def clsQB (K : PySem.W.Frag) (C : Addr) : Bool := decide (PySem.W.findIn K (.ref C) "__class__" = some (some (.builtin "object.__class__"))) && (decide (PySem.W.specialIn K (.builtin "object.__class__") "__get__" = some (some (.builtin "getset_descriptor.__get__"))) && (decide (PySem.W.takesIn K (.builtin "object.__class__") = some true) && decide (PySem.W.mroIn K C (.type "object") = some true)))
theorem clsQB_ok {K : PySem.W.Frag} {C : Addr} (h : clsQB K C = true) : ClsQ K C := by
  unfold clsQB at h
  simp only [Bool.and_eq_true, decide_eq_true_eq] at h
  exact ⟨h.1, h.2.1, h.2.2.1, h.2.2.2⟩
structure Good (I : Inf) (Γ : Tab) (O : Orc) (X : Cx) : Prop where
  nd : X.N.Nodup
  gk : X.K = Γ.K
  calm : X.calm = true
  un : X.A.units + 200 < cLine
  bi : ∀ x, x ∈ biNames → X.mg x = none
  con : ∀ x d, (x, d) ∈ I.con → ∃ u, X.mg x = some u ∧ RelV (datV d) u
  fn : ∀ (f : Nat) (x : Str), I.fns[f]? = some x → ∃ (a : Addr) (fd : FuncData) (ps : List Str) (k : Nat), X.mg x = some (.ref a) ∧ PySem.W.keepIn X.K (.ref a) = true ∧ Binds X.K fd ps [] ∧ Room k X.A ∧ FnOk X.prog X.w X.K X.mg X.base (L2.CX X.prog X.w) k a fd ps (spI Γ (O.call f) ps.length) ∧ ∀ ss : List Slot, ss.length ≠ ps.length → O.call f ss = .bad
  rm : Room 2 X.A
  ex : ∀ (c : Nat) (x : Str) (fs : List Str), I.exn[c]? = some (x, fs) → ExDef Γ X.K X.mg c x fs
  exm : ∀ (c h : Nat), Γ.xfl c ≠ [] → h < I.exn.length → PySem.W.exmOne X.K (.ref (Γ.exc c)) (.ref (Γ.exc h)) = some (decide (c = h)) ∧ ClsQ X.K (Γ.exc c)
variable {I : Inf} {Γ : Tab} {O : Orc} {W : WX} {X : Cx}
theorem Good.blk (g : Good I Γ O X) (s : Shared) (H : Hp) (scope : Scope) (cenv : PySem.Env) (fp : List Addr) : Good I Γ O (X.blk s H scope cenv fp) := ⟨g.nd, g.gk, g.calm, g.un, g.bi, g.con, g.fn, g.rm, g.ex, g.exm⟩
theorem isVar_ok {N : List Str} {sc : Scope} {i : Nat} {x : Str} (h : isVar N sc i x = true) : N[i]? = some x ∧ vis sc x = true ∧ nmOk x = true := by
  unfold isVar at h
  simp only [Bool.and_eq_true, decide_eq_true_eq] at h
  exact ⟨h.1.1, h.1.2, h.2⟩
/-! ### one rule a form -/
theorem of_post {α β : Type} {π : Pins} {F : Hp} {σ : L2.St} {VR : Hp → Hp → Env → α → β → Prop} {G : Hp} {x : Option α} {ρ : Env} {Q : β → Hp → Prop} (h : Post Γ W π F σ VR G (Out.of x ρ) Q) :
    ∃ a, x = some a ∧ ∀ G' H' v, Ex G G' → Rel Γ π ρ G' F σ H' → VR G' H' ρ a v → Q v H' := by
  cases x with
  | none => exact h.elim
  | some a => exact ⟨a, rfl, h⟩
theorem lift2_ok {π : Pins} {F : Hp} {σ : L2.St} {r : R2} {f : Dat → Dat → Option Res} (hop : Op2 r f Γ) {G H : Hp} {ρ : Env} {x y : Res} {v w : V} {Q : VK} (R0 : Rel Γ π ρ G F σ H) (rx : ResR Γ G F H ρ σ x v) (ry : ResR Γ G F H ρ σ y w)
    (h : Post Γ W π F σ (ResV Γ F σ) G (lift2 f x y ρ) Q) : r v w H Q := by
  unfold lift2 at h
  split at h
  · rename_i d e hd he
    obtain ⟨res, hf, k⟩ := of_post h
    exact hop G H v w d e res Q R0.g (R0.deref rx hd) (R0.deref ry he) hf fun G' H' u wr rr => k G' H' u wr.e (R0.grow wr) (R0.res0 wr rr)
  · exact h.elim
theorem ops2 {r : R2} {f : Dat → Dat → Option Res} (hop : Op2 r f Γ) {e a b : E} (hev : ∀ ρ, evalE O e ρ = (stl (evalE O a ρ)).seq fun x ρ1 => (stl (evalE O b ρ1)).seq fun y ρ2 => lift2 f x y ρ2) :
    ∀ σ H Q, tE Γ O W e σ H Q → tOp r (tE Γ O W a) (tE Γ O W b) σ H Q := by
  rintro σ H Q ⟨π, ρ, G, F, R0, h⟩
  rw [hev] at h
  refine ⟨π, ρ, G, F, R0, h.seqA fun x ρ1 G1 H1 v1 _ e1 R1 r1 n1 h1 => ?_⟩
  refine ⟨π, ρ1, G1, F, R1, h1.seqA fun y ρ2 G2 H2 v2 _ e2 R2 r2 n2 h2 => ?_⟩
  exact lift2_ok hop R2 (r1.step n1 e2) r2 h2
theorem cmp_op2 (o : Co) {K : PySem.W.Frag} (hK : K = Γ.K) : Op2 (rCo K o) (cmpD o) Γ := by
  intro G H x y dx dy res Q g rx ry h q
  obtain ⟨b, hb, rfl⟩ := cmpD_some h
  exact co_ok hK o G H x y dx dy b Q g rx ry hb (q G H (.bl b) (Grow.refl g) (.bl b))
theorem s_bin (g : Good I Γ O X) {o : Bo} {a b : E} {l r : Expr} {p : Pos} (ha : PE X l (tE Γ O W a)) (hb : PE X r (tE Γ O W b)) : PE X (.BinOp l (opOf o) r p) (tE Γ O W (.bin o a b)) :=
  PE.imp (pe_op (op_bo o) ha hb) (ops2 (bo_ok g.gk o) fun ρ => by rw [evalE])
theorem s_cmp (g : Good I Γ O X) {o : Co} {a b : E} {l r : Expr} {p : Pos} (ha : PE X l (tE Γ O W a)) (hb : PE X r (tE Γ O W b)) (hr : noSet r = true) : PE X (.Compare l [coOf o] [r] p) (tE Γ O W (.cmp o a b)) :=
  PE.imp (pe_cmpR (op_co (by have := g.un; omega) o) ha hb (marks_no hr)) (ops2 (cmp_op2 o g.gk) fun ρ => by rw [evalE])
theorem s_idx (g : Good I Γ O X) {a b : E} {x y : Expr} {p : Pos} (ha : PE X x (tE Γ O W a)) (hb : PE X y (tE Γ O W b)) (hs : noSlice y = true) : PE X (.Subscript x y p) (tE Γ O W (.idx a b)) :=
  PE.imp (pe_ix (ix_all (by have := g.un; omega)) ha hb (slice_no hs)) (ops2 (idx_ok g.gk) fun ρ => by rw [evalE])
/-- from a value to its truth -/
theorem toT {e : E} {K : PySem.W.Frag} (hK : K = Γ.K) : ∀ σ H Q, tT Γ O W e σ H Q → tE Γ O W e σ H fun x H' => ∃ k, TruV K x H' k ∧ Q k H' := by
  rintro σ H Q ⟨π, ρ, G, F, R0, h⟩
  refine ⟨π, ρ, G, F, R0, Post.seqA h fun r ρ1 G1 H1 v _ e1 R1 rr n1 h1 => ?_⟩
  unfold testR at h1
  split at h1
  · rename_i d hd
    obtain ⟨b, hb, k⟩ := of_post h1
    exact ⟨b, truth_ok hK R1.g (R1.deref rr hd) hb, k G1 H1 b (Ex.refl _) R1 rfl⟩
  · exact h1.elim
theorem s_truth (g : Good I Γ O X) {e : E} {x : Expr} (ha : PE X x (tE Γ O W e)) (hp : plainT x = true) : PT X x (tT Γ O W e) := PT.imp (pt_truth ha fun w => test_plain hp w) (toT g.gk)
/-- a truth value as a test -/
theorem toB {e : E} (hb : ∀ ρ r ρ', evalE O e ρ = .ok r ρ' → ∃ b, r = .imm (.bl b)) : ∀ σ H Q, tT Γ O W e σ H Q → tE Γ O W e σ H fun x H' => ∃ k, x = .bl k ∧ Q k H' := by
  rintro σ H Q ⟨π, ρ, G, F, R0, h⟩
  refine ⟨π, ρ, G, F, R0, ?_⟩
  have h' := h
  unfold testOf at h'
  cases hr : evalE O e ρ with
  | bad => rw [hr] at h'; exact h'
  | exc c xs ρ1 => rw [hr] at h'; exact h'
  | ok r ρ1 =>
    obtain ⟨b, rfl⟩ := hb ρ r ρ1 hr
    rw [hr] at h'
    intro G' H' v e' R' rr
    have hv : v = .bl b := by
      have rr : R Γ G' v (.bl b) := rr
      cases rr; rfl
    exact ⟨b, hv, h' G' H' b e' R' rfl⟩
theorem cmp_bool {o : Co} {a b : E} : ∀ ρ r ρ', evalE O (.cmp o a b) ρ = .ok r ρ' → ∃ t, r = .imm (.bl t) := by
  intro ρ r ρ' h
  rw [evalE] at h
  cases e1 : stl (evalE O a ρ) with
  | bad => rw [e1] at h; cases h
  | exc c xs ρ1 => rw [e1] at h; cases h
  | ok x ρ1 =>
    rw [e1, seq_ok] at h
    cases e2 : stl (evalE O b ρ1) with
    | bad => rw [e2] at h; cases h
    | exc c xs ρ2 => rw [e2] at h; cases h
    | ok y ρ2 =>
      rw [e2, seq_ok] at h
      unfold lift2 at h
      split at h
      · rename_i d e _ _
        cases hc : cmpD o d e with
        | none => rw [hc] at h; cases h
        | some res =>
          rw [hc] at h
          cases h
          obtain ⟨t, _, rfl⟩ := cmpD_some hc
          exact ⟨t, rfl⟩
      · cases h
theorem s_cmpT (g : Good I Γ O X) {o : Co} {a b : E} {l r : Expr} {p : Pos} (ha : PE X l (tE Γ O W a)) (hb : PE X r (tE Γ O W b)) (hr : noSet r = true) : PT X (.Compare l [coOf o] [r] p) (tT Γ O W (.cmp o a b)) := by
  refine PT.imp (pt_cmpR (op_co (by have := g.un; omega) o) ha hb (marks_no hr)) fun σ H Q h => ?_
  have h1 := toB cmp_bool σ H Q h
  exact ops2 (cmp_op2 o g.gk) (fun ρ => by rw [evalE]) σ H _ h1
/-- a < b < c -/
theorem chn_core {K : PySem.W.Frag} (hK : K = Γ.K) {o o' : Co} {a b c : E} : ∀ σ H Q, tE Γ O W (.chn o o' a b c) σ H Q → tChain (rCo K o) (rCo K o') (tE Γ O W a) (tE Γ O W b) (tE Γ O W c) σ H Q := by
  rintro σ H Q ⟨π, ρ, G, F, R0, h⟩
  rw [evalE] at h
  refine ⟨π, ρ, G, F, R0, h.seqA fun x ρ1 G1 H1 v1 _ e1 R1 r1 n1 h1 => ?_⟩
  refine ⟨π, ρ1, G1, F, R1, h1.seqA fun y ρ2 G2 H2 v2 _ e2 R2 r2 n2 h2 => ?_⟩
  split at h2
  · rename_i d e hd he
    have q1 := R2.deref (r1.step (H' := H2) (ρ' := ρ2) n1 e2) hd
    have q2 := R2.deref r2 he
    split at h2
    · rename_i hc
      refine co_ok hK o G2 H2 v1 v2 d e true _ R2.g q1 q2 hc ⟨true, rfl, ?_⟩
      refine iteT ⟨π, ρ2, G2, F, R2, h2.seqA fun z ρ3 G3 H3 v3 _ e3 R3 r3 n3 h3 => ?_⟩
      exact lift2_ok (cmp_op2 o' hK) R3 (r2.step n2 e3) r3 h3
    · rename_i hc
      refine co_ok hK o G2 H2 v1 v2 d e false _ R2.g q1 q2 hc ⟨false, rfl, ?_⟩
      exact iteF (h2 G2 H2 (.bl false) (Ex.refl _) R2 (.bl false))
    · exact h2.elim
  · exact h2.elim
theorem marks2 {o o' : CmpOp} {b c : Expr} (h : noSet c = true) : lastMarks [o, o'] [b, c] = false := marks_no h
theorem s_chn (g : Good I Γ O X) {o o' : Co} {a b c : E} {l r r' : Expr} {p : Pos} (ha : PE X l (tE Γ O W a)) (hb : PE X r (tE Γ O W b)) (hc : PE X r' (tE Γ O W c)) (hr : noSet r' = true) : PE X (.Compare l [coOf o, coOf o'] [r, r'] p) (tE Γ O W (.chn o o' a b c)) :=
  PE.imp (pe_chain (op_co (by have := g.un; omega) o) (op_co (by have := g.un; omega) o') ha hb hc (marks2 hr)) (chn_core g.gk)
theorem chn_bool {o o' : Co} {a b c : E} : ∀ ρ r ρ', evalE O (.chn o o' a b c) ρ = .ok r ρ' → ∃ t, r = .imm (.bl t) := by
  intro ρ r ρ' h
  rw [evalE] at h
  cases e1 : stl (evalE O a ρ) with
  | bad => rw [e1] at h; cases h
  | exc c xs ρ1 => rw [e1] at h; cases h
  | ok x ρ1 =>
    rw [e1, seq_ok] at h
    cases e2 : stl (evalE O b ρ1) with
    | bad => rw [e2] at h; cases h
    | exc c xs ρ2 => rw [e2] at h; cases h
    | ok y ρ2 =>
      rw [e2, seq_ok] at h
      split at h
      · split at h
        · cases e3 : stl (evalE O c ρ2) with
          | bad => rw [e3] at h; cases h
          | exc c xs ρ2 => rw [e3] at h; cases h
          | ok z ρ3 =>
            rw [e3, seq_ok] at h
            unfold lift2 at h
            split at h
            · rename_i d e _ _
              cases hc : cmpD o' d e with
              | none => rw [hc] at h; cases h
              | some res =>
                rw [hc] at h
                cases h
                obtain ⟨t, _, rfl⟩ := cmpD_some hc
                exact ⟨t, rfl⟩
            · cases h
        · cases h; exact ⟨_, rfl⟩
        · cases h
      · cases h
theorem s_chnT (g : Good I Γ O X) {o o' : Co} {a b c : E} {l r r' : Expr} {p : Pos} (ha : PE X l (tE Γ O W a)) (hb : PE X r (tE Γ O W b)) (hc : PE X r' (tE Γ O W c)) (hr : noSet r' = true) : PT X (.Compare l [coOf o, coOf o'] [r, r'] p) (tT Γ O W (.chn o o' a b c)) := by
  refine PT.imp (pt_chain (op_co (by have := g.un; omega) o) (op_co (by have := g.un; omega) o') ha hb hc (marks2 hr)) fun σ H Q h => ?_
  exact chn_core g.gk σ H _ (toB chn_bool σ H Q h)
/-- one operand -/
theorem lift1_ok {π : Pins} {F : Hp} {σ : L2.St} {f : Dat → Option Res} {G H : Hp} {ρ : Env} {x : Res} {v : V} {Q : VK} (R0 : Rel Γ π ρ G F σ H) (rx : ResR Γ G F H ρ σ x v)
    (h : Post Γ W π F σ (ResV Γ F σ) G (lift1 f x ρ) Q) : ∃ d res, RB Γ G H v d ∧ f d = some res ∧ ∀ G' H' v, Grow G H G' H' → Res0 Γ H G' H' res v → Q v H' := by
  unfold lift1 at h
  split at h
  · rename_i d hd
    obtain ⟨res, hf, k⟩ := of_post h
    exact ⟨d, res, R0.deref rx hd, hf, fun G' H' u wr rr => k G' H' u wr.e (R0.grow wr) (R0.res0 wr rr)⟩
  · exact h.elim
theorem s_neg {a : E} {x : Expr} {p : Pos} (ha : PE X x (tE Γ O W a)) : PE X (.UnaryOp .USub x p) (tE Γ O W (.neg a)) := by
  refine PE.imp (pe_un un_neg ha) ?_
  rintro σ H Q ⟨π, ρ, G, F, R0, h⟩
  rw [evalE] at h
  refine ⟨π, ρ, G, F, R0, h.seqA fun x ρ1 G1 H1 v1 _ e1 R1 r1 n1 h1 => ?_⟩
  obtain ⟨d, res, rb, hf, k⟩ := lift1_ok R1 r1 h1
  cases d <;> first | (cases hf; done) | skip
  cases hf
  cases rb.int
  exact ⟨_, rfl, k G1 H1 _ (Grow.refl R1.g) (.int _)⟩
theorem s_var {i : Nat} {x : Str} {p : Pos} (h : isVar X.N X.env.scope i x = true) : PE X (.Name x p) (tE Γ O W (.var i)) := by
  obtain ⟨h1, h2, h3⟩ := isVar_ok h
  unfold nmOk at h3
  simp only [Bool.and_eq_true, Bool.not_eq_true'] at h3
  have hv : Vis X.env.scope x := by
    unfold vis at h2
    split at h2
    · rename_i e; exact .inl e
    · rename_i e; exact .inr (.inl e)
    · rename_i e; exact .inr (.inr e)
    · cases h2
  refine PE.imp (pe_var h1 hv h3.1.1 h3.1.2) ?_
  rintro σ H Q ⟨π, ρ, G, F, R0, h⟩
  rw [evalE] at h
  split at h
  · rename_i d e
    obtain ⟨v, e1, r⟩ := R0.imm e
    exact ⟨v, e1, h G H v (Ex.refl _) R0 r⟩
  · rename_i b l o e
    obtain ⟨a, e1, _⟩ := R0.own e
    exact ⟨.ref a, e1, h G H (.ref a) (Ex.refl _) R0 e1⟩
  · exact h.elim
theorem s_const {d : Dat} {c : Const} {k : Nat} {p : Pos} (h : mC d c = true) : PE X (.Constant c k p) (tE Γ O W (.cst d)) := by
  have fin : ∀ {v : V}, (∀ G, R Γ G v d) → ∀ σ H Q, tE Γ O W (.cst d) σ H Q → Q v H := by
    rintro v r σ H Q ⟨π, ρ, G, F, R0, h⟩
    rw [evalE] at h
    exact h G H v (Ex.refl _) R0 (r G)
  unfold mC at h
  split at h
  · exact PE.imp pe_non (fin fun _ => .non)
  · cases (beq_iff_eq.mp h); exact PE.imp pe_bl (fin fun _ => .bl _)
  · cases (of_decide_eq_true h); exact PE.imp pe_int (fin fun _ => .int _)
  · cases (of_decide_eq_true h); exact PE.imp pe_str (fin fun _ => .str _)
  · cases h
theorem glb_ok {sc : Scope} {x : Str} (h : glb sc x = true) : sc.names.lookup x = some .globalImplicit := by
  unfold glb at h
  split at h
  · rename_i e; exact e
  · cases h
theorem nm_dbg {x : Str} (h : nmOk x = true) : (x == ("__debug__" : Str)) = false := by
  unfold nmOk at h
  simp only [Bool.and_eq_true, Bool.not_eq_true'] at h
  exact h.1.1
theorem s_glob (g : Good I Γ O X) {d : Dat} {x : Str} {p : Pos} (hg : glb X.env.scope x = true) (hn : nmOk x = true) (hd : scal d = true)
    (h : (I.con.any fun p => decide (p.1 = x) && conEq p.2 d) = true) : PE X (.Name x p) (tE Γ O W (.cst d)) := by
  obtain ⟨q, hq, h1⟩ := List.any_eq_true.mp h
  simp only [Bool.and_eq_true, decide_eq_true_eq] at h1
  obtain ⟨e1, h2⟩ := h1
  have e2 : q.2 = d := conEq_eq h2
  obtain ⟨u, hu, ru⟩ := g.con x d (by rw [← e1, ← e2]; exact hq)
  refine PE.imp (pe_glob (v := datV d) (glb_ok hg) hu ru (nm_dbg hn)) ?_
  rintro σ H Q ⟨π, ρ, G, F, R0, h⟩
  rw [evalE] at h
  refine h G H (datV d) (Ex.refl _) R0 ?_
  show R Γ G (datV d) d
  cases d <;> first | (cases hd; done) | constructor
theorem s_ife {c a b : E} {t x y : Expr} {p : Pos} (hc : PT X t (tT Γ O W c)) (ha : PE X x (tE Γ O W a)) (hb : PE X y (tE Γ O W b)) : PE X (.IfExp t x y p) (tE Γ O W (.ife c a b)) := by
  refine PE.imp (pe_ifExp hc ha hb) ?_
  rintro σ H Q ⟨π, ρ, G, F, R0, h⟩
  rw [evalE] at h
  refine ⟨π, ρ, G, F, R0, ?_⟩
  unfold testOf
  cases e : stl (evalE O c ρ) with
  | bad => rw [e] at h; exact h
  | exc c xs ρ1 => rw [e] at h; exact h
  | ok r ρ1 =>
    rw [e, seq_ok] at h
    rw [seq_ok]
    cases e2 : testR r ρ1 with
    | bad => rw [e2] at h; exact h
    | exc c xs ρ1 => rw [e2] at h; exact h
    | ok tt ρ2 =>
      rw [e2, seq_ok] at h
      intro G' H' b' e' R' hb'
      cases (show tt = b' from hb')
      cases tt with
      | true => exact iteT ⟨π, ρ2, G', F, R', Post.mono e' h⟩
      | false => exact iteF ⟨π, ρ2, G', F, R', Post.mono e' h⟩
theorem s_notT {a : E} {x : Expr} {p : Pos} (ha : PT X x (tT Γ O W a)) : PT X (.UnaryOp .Not x p) (tT Γ O W (.not a)) := by
  refine PT.imp (pt_not ha) ?_
  rintro σ H Q ⟨π, ρ, G, F, R0, h⟩
  unfold testOf at h
  rw [evalE] at h
  refine ⟨π, ρ, G, F, R0, ?_⟩
  unfold testOf
  cases e : stl (evalE O a ρ) with
  | bad => rw [e] at h; exact h
  | exc c xs ρ1 => rw [e] at h; exact h
  | ok r ρ1 =>
    rw [e, seq_ok] at h
    rw [seq_ok]
    cases e2 : testR r ρ1 with
    | bad => rw [e2] at h; exact h
    | exc c xs ρ1 => rw [e2] at h; exact h
    | ok tt ρ2 =>
      rw [e2, seq_ok] at h
      intro G' H' b' e' R' hb'
      cases (show tt = b' from hb')
      exact h G' H' (!tt) e' R' rfl
theorem s_not (g : Good I Γ O X) {a : E} {x : Expr} {p : Pos} (ha : PE X x (tE Γ O W a)) : PE X (.UnaryOp .Not x p) (tE Γ O W (.not a)) := by
  refine PE.imp (pe_notT ha) ?_
  rintro σ H Q ⟨π, ρ, G, F, R0, h⟩
  rw [evalE] at h
  refine ⟨π, ρ, G, F, R0, h.seqA fun r ρ1 G1 H1 v _ e1 R1 rr n1 h1 => ?_⟩
  unfold testR at h1
  split at h1
  · rename_i d hd
    cases ht : truthD d with
    | none => rw [ht] at h1; exact h1.elim
    | some b =>
      rw [ht] at h1
      exact ⟨b, truth_ok g.gk R1.g (R1.deref rr hd) ht, h1 G1 H1 (.bl (!b)) (Ex.refl _) R1 (.bl _)⟩
  · exact h1.elim
theorem s_frz {a : E} {x : Expr} (ha : PE X x (tE Γ O W a)) : PE X x (tE Γ O W (.frz a)) := by
  refine PE.imp ha ?_
  rintro σ H Q ⟨π, ρ, G, F, R0, h⟩
  rw [evalE] at h
  refine ⟨π, ρ, G, F, R0, h.seqA fun r ρ1 G1 H1 v _ e1 R1 rr n1 h1 => ?_⟩
  cases hc : capt r ρ1 with
  | bad => rw [hc] at h1; exact h1.elim
  | exc c xs ρ2 => exact absurd hc capt_no_exc
  | ok d ρ2 =>
    rw [hc] at h1
    obtain ⟨G2, e2, R2, rd⟩ := R1.capt n1 rr hc
    exact h1 G2 H1 v e2 R2 rd
/-! ### argument lists -/
theorem s_nil : PA X [] (tAs Γ O W .nil) := by
  refine PA.imp pa_nil ?_
  rintro σ H Q ⟨π, ρ, G, F, R0, h⟩
  rw [evalAs] at h
  exact h G H F [] (Ex.refl _) R0 rfl
theorem s_cons {e : E} {es : Es} {x : Expr} {xs : List Expr} (hx : notStar x = true) (ha : PE X x (tE Γ O W e)) (hs : PA X xs (tAs Γ O W es)) : PA X (x :: xs) (tAs Γ O W (.cons e es)) := by
  refine PA.imp (pa_cons ha hs (star_cons hx)) ?_
  rintro σ H Q ⟨π, ρ, G, F, R0, h⟩
  rw [evalAs] at h
  exact ⟨π, ρ, G, F, R0, h.cons fun ρ1 G1 H1 F1 v R1 h1 => ⟨π, ρ1, G1, F1, R1, h1⟩⟩
/-- the arguments as data -/
theorem asL {r : RLs} {f : List Dat → Option Res} (hop : OpL r f Γ) {e : E} {es : Es} (hev : ∀ ρ, evalE O e ρ = (evalAs O es ρ).seq fun rs ρ1 => liftL f rs ρ1) : ∀ σ H Q, tE Γ O W e σ H Q → tCB r (tAs Γ O W es) σ H Q := by
  rintro σ H Q ⟨π, ρ, G, F, R0, h⟩
  rw [hev] at h
  refine ⟨π, ρ, G, F, R0, ?_⟩
  cases he : evalAs O es ρ with
  | bad => rw [he] at h; exact h
  | exc c xs ρ1 => rw [he] at h; exact h
  | ok rs ρ1 =>
    rw [he, seq_ok] at h
    intro G1 H1 F1 vs e1 R1 ar
    obtain ⟨G2, e2, R2, _, a2⟩ := ar.settle R1
    have h := Post.mono (e1.trans e2) h
    unfold liftL at h
    split at h
    · rename_i ds hd
      obtain ⟨res, hf, k⟩ := of_post h
      have rb := ArgR.derefs R2 (fun r hr => by obtain ⟨x, _, rfl⟩ := List.mem_map.mp hr; exact settle_nf x) a2 (by rw [derefs_settle]; exact hd)
      exact hop G2 H1 vs ds res Q R2.g rb hf fun G' H' u wr rr => k G' H' u wr.e (R2.grow wr) (R2.res0 wr rr)
    · exact h.elim
end VI
/-! VI, soundness: displays, calls, methods, slices -/
namespace VI
open PySem L2
variable {I : Inf} {Γ : Tab} {O : Orc} {W : WX} {X : Cx}
/-- arguments kept by others -/
theorem asC {e : E} {es : Es} {k : List Dat → Env → Out Res} (hev : ∀ ρ, evalE O e ρ = (evalAs O es ρ).seq fun rs ρ1 => (capts rs ρ1).seq k) {t : List V → Hp → VK → Prop}
    (ht : ∀ π ρ G F σ H vs ds Q, Rel Γ π ρ G F σ H → RL Γ G vs ds → Post Γ W π F σ (ResV Γ F σ) G (k ds ρ) Q → t vs H Q) : ∀ σ H Q, tE Γ O W e σ H Q → tAs Γ O W es σ H fun vs H1 => t vs H1 Q := by
  rintro σ H Q ⟨π, ρ, G, F, R0, h⟩
  rw [hev] at h
  refine ⟨π, ρ, G, F, R0, ?_⟩
  cases he : evalAs O es ρ with
  | bad => rw [he] at h; exact h
  | exc c xs ρ1 => rw [he] at h; exact h
  | ok rs ρ1 =>
    rw [he, seq_ok] at h
    intro G1 H1 F1 vs e1 R1 ar
    obtain ⟨G2, e2, R2, _, a2⟩ := ar.settle R1
    cases hc : capts rs ρ1 with
    | bad => rw [hc] at h; exact h.elim
    | exc c xs ρ2 =>
      exfalso
      have no : ∀ {rs : List Res} {ρ : Env}, capts rs ρ ≠ .exc c xs ρ2 := by
        intro rs
        induction rs with
        | nil => intro ρ z; cases z
        | cons r rs ih =>
          intro ρ z
          rw [capts] at z
          cases h1 : capt r ρ with
          | bad => rw [h1] at z; cases z
          | exc c' xs' ρ' => exact absurd h1 capt_no_exc
          | ok d ρ' =>
            rw [h1, seq_ok] at z
            cases h2 : capts rs ρ' with
            | bad => rw [h2] at z; cases z
            | exc c' xs' ρ'' => rw [h2] at z; cases z; exact ih h2
            | ok ds ρ'' => rw [h2] at z; cases z
      exact no hc
    | ok ds ρ2 =>
      rw [hc, seq_ok] at h
      obtain ⟨G3, e3, R3, rl⟩ := ArgR.capts R2 (fun r hr => by obtain ⟨x, _, rfl⟩ := List.mem_map.mp hr; exact settle_nf x) a2 (by rw [capts_settle]; exact hc)
      exact ht π ρ2 G3 F σ H1 vs ds Q R3 rl (Post.mono ((e1.trans e2).trans e3) h)
theorem s_tup {es : Es} {xs : List Expr} {k : Nat} {p : Pos} (hs : PA X xs (tAs Γ O W es)) : PE X (.Tuple xs k p) (tE Γ O W (.tup es)) := by
  refine PE.imp (pe_tup hs) ?_
  refine asC (k := fun ds ρ2 => if ds.length ≤ 16777216 then .ok (.imm (.tup ds)) ρ2 else .bad) (fun ρ => by rw [evalE]) (t := fun vs H1 Q => vs.length ≤ sizeLine ∧ ∀ p, H1 p = none → Q (.ref p) (upd H1 p (.tup vs))) ?_
  intro π ρ G F σ H vs ds Q R0 rl h
  split at h
  · rename_i hl
    refine ⟨by rw [rl.1]; exact hl, fun p hp => ?_⟩
    have w := grow_imm R0.g (o := .tup vs) hp
    exact h _ _ (.ref p) w.e (R0.grow w) (r0_tup R0.g hp rl)
  · exact h.elim
theorem s_lst {es : Es} {xs : List Expr} {p : Pos} (hs : PA X xs (tAs Γ O W es)) : PE X (.List xs p) (tE Γ O W (.lst es)) := by
  refine PE.imp (pe_lst hs) ?_
  refine asC (k := fun ds ρ2 => if ds.length ≤ 16777216 then .ok (.fr (.lst ds)) ρ2 else .bad) (fun ρ => by rw [evalE]) (t := fun vs H1 Q => vs.length ≤ sizeLine ∧ ∀ p, H1 p = none → Q (.ref p) (upd H1 p (.lst vs))) ?_
  intro π ρ G F σ H vs ds Q R0 rl h
  split at h
  · rename_i hl
    refine ⟨by rw [rl.1]; exact hl, fun p hp => ?_⟩
    have w := grow_new R0.g (o := .lst vs) hp
    exact h _ _ (.ref p) w.e (R0.grow w) (R0.res0 w (r0_lst R0.g hp rl))
  · exact h.elim
theorem s_dnew {p : Pos} : PE X (.Dict [] [] p) (tE Γ O W .dnew) := by
  refine PE.imp pe_dnewK ?_
  rintro σ H Q ⟨π, ρ, G, F, R0, h⟩ p hp
  rw [evalE] at h
  have w := grow_new R0.g (o := .dK []) hp
  exact h _ _ (.ref p) w.e (R0.grow w) (R0.res0 w ⟨p, rfl, hp, R0.g.isNone hp, [], upd_same, rfl, fun i p d a _ => by simp at a⟩)
theorem s_dnewT {p : Pos} : PE X (.Dict [] [] p) (tE Γ O W .dnewT) := by
  refine PE.imp pe_dnewT ?_
  rintro σ H Q ⟨π, ρ, G, F, R0, h⟩ p hp
  rw [evalE] at h
  have w := grow_new R0.g (o := .dT []) hp
  exact h _ _ (.ref p) w.e (R0.grow w) (R0.res0 w ⟨p, rfl, hp, R0.g.isNone hp, [], upd_same, rfl, fun i p d a _ => by simp at a⟩)
/-- f() with nothing handed in -/
theorem pe_fn0 {CX : CXT} {k : Nat} {f : Addr} {fd : FuncData} {ps : List Str} {sp : Sp} {Es : L2.St → XK} {x : Str} {p pos : Pos} (F1 : FnOk X.prog X.w X.K X.mg X.base CX k f fd ps sp) (hr : Room k X.A) (hg : Gl X x) (hm : X.mg x = some (.ref f)) (hk : PySem.W.keepIn X.K (.ref f) = true)
    (hb : Binds X.K fd ps []) (hx : ∀ σ, PassesAt CX X σ (Es σ)) (hdb : (x == ("__debug__" : Str)) = false) : PE X (.Call (.Name x p) [] [] pos) (tCallS sp Es tNil) := by
  refine ⟨fun pins s σ H Q Iv h => ?_⟩
  refine wpAny_Call_Name_kw (ld_glob Iv hg hm ?_ hdb)
  exact PySem.W.callWith_K0 Iv.kIn hk (run_fnS (us := []) F1 hr hb (hx σ) Iv .nil h)
theorem spI_len {call : List Slot → CRes} {n : Nat} (hn : ∀ ss : List Slot, ss.length ≠ n → call ss = .bad) {vs : List V} {H : Hp} {Q : VK} {E1 : XK} (h : spI Γ call vs.length vs H Q E1) : spI Γ call n vs H Q E1 := by
  obtain ⟨_, G, ss, a, g, m⟩ := h
  by_cases e : vs.length = n
  · exact ⟨e, G, ss, a, g, m⟩
  · exfalso
    rw [hn ss (by rw [a.len]; exact e)] at m
    exact m
theorem call_tA {f : Nat} {es : Es} : ∀ σ H Q, tE Γ O W (.call f es) σ H Q → tAs Γ O W es σ H fun vs H1 => spI Γ (O.call f) vs.length vs H1 Q (fun cls d H' => W cls d σ H') := by
  rintro σ H Q ⟨π, ρ, G, F, R0, h⟩
  rw [evalE] at h
  refine ⟨π, ρ, G, F, R0, ?_⟩
  cases he : evalAs O es ρ with
  | bad => rw [he] at h; exact h
  | exc c xs ρ1 => rw [he] at h; exact h
  | ok rs ρ1 =>
    rw [he, seq_ok] at h
    intro G1 H1 F1 vs e1 R1 ar
    exact call_ok R1 ar (Post.mono e1 h)
theorem PostAs.imp {π : Pins} {F : Hp} {σ : L2.St} {G : Hp} {x : Out (List Res)} {Q Q' : List V → Hp → Prop} (h : PostAs Γ W π F σ G x Q) (i : ∀ vs H, Q vs H → Q' vs H) : PostAs Γ W π F σ G x Q' := by
  cases x with
  | ok r ρ => exact fun G' H' F' v e R1 a => i _ _ (h G' H' F' v e R1 a)
  | exc c xs ρ => exact h
  | bad => exact h
theorem tAs_imp {es : Es} {σ : L2.St} {H : Hp} {Q Q' : List V → Hp → Prop} (h : tAs Γ O W es σ H Q) (i : ∀ vs H, Q vs H → Q' vs H) : tAs Γ O W es σ H Q' := by
  obtain ⟨π, ρ, G, F, R0, h⟩ := h
  exact ⟨π, ρ, G, F, R0, h.imp i⟩
theorem s_call (g : Good I Γ O X) (tk : Takes X W) {f : Nat} {es : Es} {x : Str} {xs : List Expr} {p pos : Pos} (hf : I.fns[f]? = some x) (hg : glb X.env.scope x = true) (hn : nmOk x = true) (hs : PA X xs (tAs Γ O W es)) (hst : xs.all notStar = true) (h0 : xs = [] → es = .nil) :
    PE X (.Call (.Name x p) xs [] pos) (tE Γ O W (.call f es)) := by
  obtain ⟨a, fd, ps, k, hm, hk, hb, hr, F1, hl⟩ := g.fn f x hf
  cases xs with
  | nil =>
    cases h0 rfl
    refine PE.imp (pe_fn0 F1 hr (glb_ok hg) hm hk hb (fun σ => passAt tk σ) (nm_dbg hn)) fun σ H Q h => ?_
    obtain ⟨π, ρ, G, F, R0, h1⟩ := call_tA σ H Q h
    rw [evalAs] at h1
    exact spI_len hl (h1 G H F [] (Ex.refl _) R0 rfl)
  | cons y ys =>
    have h2 : notStar y = true ∧ ys.all notStar = true := by simpa using hst
    exact PE.imp (pe_callS F1 hr (glb_ok hg) hm hk hb (fun σ => passAt tk σ) hs (nm_dbg hn) (star_cons h2.1) (star_any h2.2)) fun σ H Q h => tAs_imp (call_tA σ H Q h) fun vs H1 q => spI_len hl q
/-! ### built-ins -/
theorem bi_mem (b : Bi) : biName b ∈ biNames := by cases b <;> decide +kernel
theorem bi_boot (b : Bi) : bootBuiltins (biName b) = some (biF b) := by
  cases b <;> decide +kernel
theorem bi_nm (b : Bi) : biName b ≠ "__name__" := by cases b <;> decide +kernel
theorem bi_db (b : Bi) : (biName b == ("__debug__" : Str)) = false := by cases b <;> decide +kernel
theorem s_bi (g : Good I Γ O X) {b : Bi} {es : Es} {y : Expr} {ys : List Expr} {p pos : Pos} (hg : glb X.env.scope (biName b) = true) (hs : PA X (y :: ys) (tAs Γ O W es)) (hst : (y :: ys).all notStar = true) :
    PE X (.Call (.Name (biName b) p) (y :: ys) [] pos) (tE Γ O W (.bi b es)) := by
  have h2 : notStar y = true ∧ ys.all notStar = true := by simpa using hst
  have hm := g.bi _ (bi_mem b)
  have hc := call_bi (X := X) g.calm b
  have hv := bi_boot b
  refine PE.imp ?_ (asL (bi_ok g.gk b) fun ρ => by rw [evalE])
  cases hb : biF b with
  | builtin id => rw [hb] at hc hv; exact pe_callB hc (glb_ok hg) hm hv hs (bi_nm b) (bi_db b) (star_cons h2.1) (star_any h2.2)
  | type T => rw [hb] at hc hv; exact pe_callTy hc (glb_ok hg) hm hv hs (bi_nm b) (bi_db b) (star_cons h2.1) (star_any h2.2)
  | _ => cases b <;> cases hb
theorem star1 {y : Expr} {env : PySem.Env} (h : notStar y = true) : starEach [y] env = (false, eval y env) :: starEach [] env := star_cons h
theorem star1' {y : Expr} {env : PySem.Env} (h : notStar y = true) : starEach [y] env = [(false, eval y env)] := star_cons h
theorem rng_v (a b : Int) : rgV a b = (rngL a b).map V.int := by
  unfold rgV rngL
  rw [List.map_map]
  rfl
theorem rngOk_iff {a b : Int} (h : rngOk a b = true) : -(2 ^ 62) ≤ a ∧ a < 2 ^ 62 ∧ -(2 ^ 62) ≤ b ∧ b < 2 ^ 62 := by
  unfold rngOk at h
  simp only [Bool.and_eq_true, decide_eq_true_eq] at h
  exact ⟨h.1.1.1, h.1.1.2, h.1.2, h.2⟩
theorem s_rl1 (g : Good I Γ O X) {a : E} {y : Expr} {p p2 pos pos2 : Pos} (hl : glb X.env.scope "list" = true) (hr : glb X.env.scope "range" = true) (ha : PE X y (tE Γ O W a)) (hy : notStar y = true) :
    PE X (.Call (.Name "list" p) [.Call (.Name "range" p2) [y] [] pos2] [] pos) (tE Γ O W (.rl1 a)) := by
  refine PE.imp (pe_listRg g.calm (glb_ok hl) (g.bi _ (by decide +kernel)) (prg_1 (glb_ok hr) (g.bi _ (by decide +kernel)) ha (star1 hy)) (star1 rfl)) ?_
  rintro σ H Q ⟨π, ρ, G, F, R0, h⟩
  rw [evalE] at h
  refine ⟨π, ρ, G, F, R0, h.seqA fun x ρ1 G1 H1 v1 _ e1 R1 r1 n1 h1 => ?_⟩
  obtain ⟨d, res, rb, hf, k⟩ := lift1_ok R1 r1 h1
  cases d <;> first | (cases hf; done) | skip
  rename_i n
  obtain ⟨hb, e⟩ := grd_some hf
  simp only [Bool.and_eq_true, decide_eq_true_eq] at hb
  obtain ⟨b1, b2, b3, b4⟩ := rngOk_iff hb.1
  cases rb.int
  subst e
  refine ⟨n, rfl, ⟨b1, b2, b3, b4, by omega⟩, fun q hq => ?_⟩
  rw [rng_v]
  exact k _ _ _ (grow_new R1.g hq) (r0_lst R1.g hq (rl_ints _))
theorem s_rl2 (g : Good I Γ O X) {a b : E} {y z : Expr} {p p2 pos pos2 : Pos} (hl : glb X.env.scope "list" = true) (hr : glb X.env.scope "range" = true) (ha : PE X y (tE Γ O W a)) (hy : notStar y = true) (hb : PE X z (tE Γ O W b)) (hz : notStar z = true) :
    PE X (.Call (.Name "list" p) [.Call (.Name "range" p2) [y, z] [] pos2] [] pos) (tE Γ O W (.rl2 a b)) := by
  refine PE.imp (pe_listRg g.calm (glb_ok hl) (g.bi _ (by decide +kernel)) (prg_2 (glb_ok hr) (g.bi _ (by decide +kernel)) ha hb (star_cons hy) (star1 hz) (star_any (by simp [hz]))) (star1 rfl)) ?_
  rintro σ H Q ⟨π, ρ, G, F, R0, h⟩
  rw [evalE] at h
  refine ⟨π, ρ, G, F, R0, h.seqA fun x ρ1 G1 H1 v1 _ e1 R1 r1 n1 h1 => ?_⟩
  refine ⟨π, ρ1, G1, F, R1, h1.seqA fun y ρ2 G2 H2 v2 _ e2 R2 r2 n2 h2 => ?_⟩
  unfold lift2 at h2
  split at h2
  · rename_i d e hd he
    obtain ⟨res, hf, k⟩ := of_post h2
    have q1 := R2.deref (r1.step (H' := H2) (ρ' := ρ2) n1 e2) hd
    have q2 := R2.deref r2 he
    cases d <;> first | (cases hf; done) | skip
    cases e <;> first | (cases hf; done) | skip
    rename_i i j
    obtain ⟨hb, e⟩ := grd_some hf
    simp only [Bool.and_eq_true, decide_eq_true_eq] at hb
    obtain ⟨b1, b2, b3, b4⟩ := rngOk_iff hb.1
    cases q1.int
    cases q2.int
    subst e
    refine ⟨i, j, rfl, rfl, ⟨b1, b2, b3, b4, by omega⟩, fun q hq => ?_⟩
    rw [rng_v]
    have w := grow_new R2.g (o := .lst ((rngL i j).map V.int)) hq
    exact k _ _ _ w.e (R2.grow w) (R2.res0 w (r0_lst R2.g hq (rl_ints _)))
  · exact h2.elim
/-- the ints a, a + c, .. (n of them) -/
def rgcV (a c : Int) (n : Nat) : List V := (List.range n).map fun (i : Nat) => V.int (a + (i : Int) * c)
theorem rgcV_eq (a c : Int) (n : Nat) : rgcV a c n = (rngC a c n).map V.int := by
  unfold rgcV rngC
  rw [List.map_map]
  rfl
theorem vals_rgc {a c : Int} {n : Nat} {acc : Array Value} (h : ItemsOf (fun i v => ∃ t, v = .int (a + i * c) t) acc n) : Vals (rgcV a c n) acc.toList := by
  have e : acc.toList.length = n := by rw [Array.length_toList]; exact h.1
  unfold rgcV
  subst e
  refine vals_of_get acc.toList _ fun j u hj => ?_
  obtain ⟨t, rfl⟩ := h.2 j u (by rw [← hj, Array.getElem?_toList])
  exact ⟨t, rfl⟩
def rRl3 : RLs := fun vs H Q => ∃ (i j c : Int) (n : Nat), vs = [V.int i, V.int j, V.int c] ∧ RgC i j c n ∧ n ≤ 2 ^ 24 ∧ ∀ q, H q = none → Q (.ref q) (upd H q (.lst (rgcV i c n)))
open PySem.Spec PyProof.Rows in
theorem pe_listRg3 {y : Expr} {ys : List Expr} {ta : TA} {p p2 pos pos2 : Pos} (hc : X.calm = true) (hg : Gl X "list") (hm : X.mg "list" = none) (hgr : Gl X "range") (hmr : X.mg "range" = none) (ha : PA X (y :: ys) ta)
    (hs : starEach (y :: ys) X.env = (false, eval y X.env) :: starEach ys X.env) (hpl : ∀ pos2 : Pos, (backTo pos2 (starEach ys X.env)).any (·.1) = false) : PE X (.Call (.Name "list" p) [.Call (.Name "range" p2) (y :: ys) [] pos2] [] pos) (tCB rRl3 ta) := by
  refine ⟨fun pins s σ H Q I h => ?_⟩
  have rng : wpAny (model X.prog X.w) X.A (eval (.Call (.Name "range" p2) (y :: ys) [] pos2) X.env) (fun x s' => ∃ (r : Addr) (i j c : Int) (n : Nat) (t u v : Tok) (H' : Hp), x = .ref r ∧ IsRange s'.heap r i j c t u v ∧ Inv X pins σ H' s' ∧ RgC i j c n ∧ n ≤ 2 ^ 24 ∧ ∀ q, H' q = none → Q (.ref q) (upd H' q (.lst (rgcV i c n)))) X.xe s := by
    refine Call_ (ld_blt I hgr hmr boot_range (PyProof.Rows.callWith_type1 (thn (ha.run pos2 pins s σ H _ I h) fun us s1 ⟨vs, H1, I1, r1, q1⟩ => ?_) hs (hpl pos2)))
    obtain ⟨i, j, k, n, e, ⟨c0, c1, c2, c3⟩, hn, q⟩ := q1
    subst e
    cases r1 with
    | cons r rr =>
      cases rr with
      | cons r' rr =>
        cases rr with
        | cons r'' rr =>
          cases rr
          obtain ⟨t, rfl⟩ := r
          obtain ⟨t', rfl⟩ := r'
          obtain ⟨t'', rfl⟩ := r''
          exact call_range_3 c0 ⟨_, i, j, k, n, t, t', t'', H1, rfl, IsRange.new _ _ _ _ _ _ _, I1.kept (t' := s1.toks) fun b o e => Heap.get?_push_of_some _ e, ⟨c0, c1, c2, c3⟩, hn, q⟩ (.inl (PyProof.noPylong_small c1))
  refine Call_ (ld_blt I hg hm boot_list (PyProof.Rows.callWith_type1 (args_cons (thn rng fun x s1 ⟨r, a, b, c, n, t, u, v, H1, ex, hr, I1, ⟨_, _, c2, c3⟩, hn, q⟩ => args_nil ?_) (star1 rfl)) (star1 rfl)))
  subst ex
  refine call_list_range (n := n) (I1.ok.hd hc) hr c2 c3 hn fun h' tk acc c' hk e' hi => ?_
  refine ⟨.ref s1.heap.objs.size, upd H1 s1.heap.objs.size (.lst (rgcV a c n)), I1.laid hk (Nat.le_refl _) (show ObjOk X.prog X.w _ _ _ (.lst (rgcV a c n)) from ⟨?_, acc.toList, c', vals_rgc hi, ?_⟩), rfl, q _ (I1.hok.fresh (Nat.le_refl _))⟩
  · unfold rgcV
    rw [List.length_map, List.length_range, sizeLine_eq]; omega
  · rw [Array.toArray_toList]; exact e'
theorem rl3_ok : OpL rRl3 rl3L Γ := by
  intro G H vs ds res Q g rs h q
  unfold rl3L at h
  split at h
  · rename_i i j c
    obtain ⟨hb, e⟩ := grd_some h
    simp only [Bool.and_eq_true, decide_eq_true_eq] at hb
    obtain ⟨⟨⟨⟨b1, b2⟩, b3⟩, b4⟩, b5⟩ := hb
    match vs, rs with
    | [v1, v2, v3], rs =>
      obtain ⟨r1, r2, r3, _⟩ := rs
      cases r1.int
      cases r2.int
      cases r3.int
      subst e
      refine ⟨i, j, c, (PySem.Builtin.Range.rangeSize i j c).toNat, rfl, ⟨b1, b2, b3, by omega⟩, by omega, fun q' hq => ?_⟩
      rw [rgcV_eq]
      exact q _ _ _ (grow_new g hq) (r0_lst g hq (rl_ints _))
  · cases h
theorem s_rl3 (g : Good I Γ O X) {es : Es} {y : Expr} {ys : List Expr} {p p2 pos pos2 : Pos} (hl : glb X.env.scope "list" = true) (hr : glb X.env.scope "range" = true) (hs : PA X (y :: ys) (tAs Γ O W es)) (hst : (y :: ys).all notStar = true) :
    PE X (.Call (.Name "list" p) [.Call (.Name "range" p2) (y :: ys) [] pos2] [] pos) (tE Γ O W (.rl3 es)) := by
  have h2 : notStar y = true ∧ ys.all notStar = true := by simpa using hst
  exact PE.imp (pe_listRg3 g.calm (glb_ok hl) (g.bi _ (by decide +kernel)) (glb_ok hr) (g.bi _ (by decide +kernel)) hs (star_cons h2.1) (fun pos2 => star_any h2.2)) (asL rl3_ok fun ρ => by rw [evalE])
end VI
/-! VI, soundness: isinstance, slices, and/or, changes of own lists -/
namespace VI
open PySem L2
variable {I : Inf} {Γ : Tab} {O : Orc} {W : WX} {X : Cx}
def tyOfD : Dat → String
  | .non => "NoneType" | .bl _ => "bool" | .int _ => "int" | .str _ => "str" | .lst _ => "list" | .tup _ => "tuple" | .dK _ => "dict" | _ => ""
theorem tyX_of {K : PySem.W.Frag} (hK : K = Γ.K) {G H : Hp} {v : V} {d : Dat} {t : Ty} {b : Bool} (g : Ex G H) (r : RB Γ G H v d) (h : tyD t d = some b) : TyX K H v (.type (tyOfD d)) := by
  cases d with
  | non => cases r.non; exact .base .non
  | bl b => cases r.bl; exact .base (.bl _)
  | int i => cases r.int; exact .base (.int _)
  | str i => cases r.str; exact .base (.str _)
  | lst ds =>
    obtain ⟨p, vs, rfl, hp, _⟩ := r.lst g
    subst hK
    rcases hp with (hp | ⟨o, hp⟩) | ⟨its, n, hp, _⟩
    · exact .base (.lst hp)
    · exact .base (.frz hp)
    · exact .kList hp rfl
  | tup ds => obtain ⟨p, vs, rfl, hp, _⟩ := r.tup g; exact .base (.tup hp)
  | dK ds =>
    obtain ⟨p, vs, rfl, hp, _⟩ := r.dK g
    rcases hp with hp | ⟨o, hp⟩
    · exact .base (.dK hp)
    · exact .fDict hp
  | dT ds => cases t <;> cases h
  | ins c ds => cases t <;> cases h
theorem kit_dat {K : PySem.W.Frag} {d : Dat} {t : Ty} {b : Bool} (h : tyD t d = some b) : PySem.W.kitOne K (.type (tyOfD d)) (.type (tyName t)) = some b := by
  refine kit_ty ?_
  cases t <;> cases d <;> first | (cases h; done) | (cases h; dsimp only [tyOfD, tyName]; decide +kernel)
theorem ty_mem (t : Ty) : Str.ofString (tyName t) ∈ biNames := by cases t <;> decide +kernel
theorem ty_boot (t : Ty) : bootBuiltins (Str.ofString (tyName t)) = some (.type (tyName t)) := by cases t <;> decide +kernel
theorem ty_nm (t : Ty) : Str.ofString (tyName t) ≠ "__name__" := by cases t <;> decide +kernel
theorem ty_db (t : Ty) : (Str.ofString (tyName t) == ("__debug__" : Str)) = false := by cases t <;> decide +kernel
theorem s_isi (g : Good I Γ O X) {t : Ty} {a : E} {y : Expr} {p p2 pos : Pos} (hg : glb X.env.scope "isinstance" = true) (hz : glb X.env.scope (Str.ofString (tyName t)) = true) (ha : PE X y (tE Γ O W a)) (hy : notStar y = true) :
    PE X (.Call (.Name "isinstance" p) [y, .Name (Str.ofString (tyName t)) p2] [] pos) (tE Γ O W (.isi t a)) := by
  have h2 : PE X (.Name (Str.ofString (tyName t)) p2) (tC (.ty (tyName t))) := pe_bltn (glb_ok hz) (g.bi _ (ty_mem t)) (ty_boot t) rfl (ty_nm t) (ty_db t)
  have hp := pa_cons ha (pa_cons h2 pa_nil (star_cons rfl)) (star_cons hy)
  refine PE.imp (pe_callB (call_isi (X := X)) (glb_ok hg) (g.bi _ (by decide +kernel)) (by decide +kernel) hp (by decide +kernel) (by decide +kernel) (star_cons hy) (star_any (by rfl))) ?_
  rintro σ H Q ⟨π, ρ, G, F, R0, h⟩
  rw [evalE] at h
  refine ⟨π, ρ, G, F, R0, h.seqA fun x ρ1 G1 H1 v1 _ e1 R1 r1 n1 h1 => ?_⟩
  obtain ⟨d, res, rb, hf, k⟩ := lift1_ok R1 r1 h1
  obtain ⟨b, hb, e⟩ := Option.map_eq_some_iff.mp hf
  subst e
  exact ⟨v1, .ty (tyName t), .type (tyOfD d), .type (tyName t), b, rfl, .ty _, tyX_of g.gk R1.g rb hb, kit_dat hb, k G1 H1 (.bl b) (Grow.refl R1.g) (.bl b)⟩
/-! ### slices -/
def tO (Γ : Tab) (O : Orc) (W : WX) : Es → TO
  | .cons e .nil => tPart (tE Γ O W e)
  | _ => tNoPart
theorem s_slc (g : Good I Γ O X) {a : E} {lo hi : Es} {x : Expr} {l h : Option Expr} {p p2 : Pos} (hlo : lo = .nil ∨ ∃ e, lo = .cons e .nil) (hhi : hi = .nil ∨ ∃ e, hi = .cons e .nil) (ha : PE X x (tE Γ O W a)) (hl : PO X l (tO Γ O W lo)) (hh : PO X h (tO Γ O W hi)) :
    PE X (.Subscript x (.Slice l h none p2) p) (tE Γ O W (.slc a lo hi)) := by
  refine PE.imp (pe_slice sl_list ha hl hh) ?_
  rintro σ H Q ⟨π, ρ, G, F, R0, h⟩
  rw [evalE] at h
  have part : ∀ {es : Es} (hes : es = .nil ∨ ∃ e, es = .cons e .nil) {σ : L2.St} {H : Hp} {π : Pins} {ρ : VI.Env} {G F : Hp} {k : Option Int → VI.Env → Out Res} {Q1 : Option Int → Hp → Prop}, Rel Γ π ρ G F σ H → Post Γ W π F σ (ResV Γ F σ) G ((evalO O es ρ).seq k) Q →
      (∀ o ρ1 G1 H1, Ex G G1 → Rel Γ π ρ1 G1 F σ H1 → Post Γ W π F σ (ResV Γ F σ) G1 (k o ρ1) Q → Q1 o H1) → tO Γ O W es σ H Q1 := by
    intro es hes σ H π ρ G F k Q1 R0 h hk
    rcases hes with rfl | ⟨e, rfl⟩
    · rw [evalO] at h
      exact hk none ρ G H (Ex.refl _) R0 h
    · rw [evalO] at h
      refine ⟨π, ρ, G, F, R0, ?_⟩
      have h' : Post Γ W π F σ (ResV Γ F σ) G ((stl (evalE O e ρ)).seq fun x ρ1 => (partR x ρ1).seq k) Q := by
        cases hr : stl (evalE O e ρ) with
        | bad => rw [hr] at h; exact h
        | exc c xs ρ1 => rw [hr] at h; exact h
        | ok r ρ1 => rw [hr] at h; exact h
      refine h'.seqA fun x ρ1 G1 H1 v1 _ e1 R1 r1 n1 h1 => ?_
      unfold partR at h1
      split at h1
      · rename_i i hd
        have rb := R1.deref r1 hd
        cases rb.int
        exact ⟨i, rfl, hk (some i) ρ1 G1 H1 e1 R1 h1⟩
      · exact h1.elim
  refine ⟨π, ρ, G, F, R0, h.seqA fun x ρ1 G1 H1 v1 _ e1 R1 r1 n1 h1 => ?_⟩
  refine part hlo R1 h1 fun o1 ρ2 G2 H2 e2 R2 h2 => ?_
  refine part hhi R2 h2 fun o2 ρ3 G3 H3 e3 R3 h3 => ?_
  obtain ⟨d, res, rb, hf, k⟩ := lift1_ok R3 (r1.step (H' := H3) (ρ' := ρ3) n1 (e2.trans e3)) h3
  cases d <;> first | (cases hf; done) | skip
  cases hf
  obtain ⟨q, vs, rfl, hq, rl⟩ := rb.lst R3.g
  exact ⟨q, vs, rfl, g.gk ▸ hq.sql, fun p hp => k _ _ _ (grow_new R3.g hp) (r0_lst R3.g hp (cut_rl rl o1 o2))⟩
/-! ### and, or -/
theorem s_bop1 {k : Bool} {e : E} {x : Expr} {op : BoolOp} {p : Pos} (ha : PE X x (tE Γ O W e)) : PE X (.BoolOp op [x] p) (tE Γ O W (.bop k (.cons e .nil))) := by
  refine PE.imp (pe_one ha) ?_
  rintro σ H Q ⟨π, ρ, G, F, R0, h⟩
  rw [evalE, evalB] at h
  exact ⟨π, ρ, G, F, R0, h⟩
theorem bop_core {K : PySem.W.Frag} (hK : K = Γ.K) {k : Bool} {e e2 : E} {es : Es} : ∀ σ H Q, tE Γ O W (.bop k (.cons e (.cons e2 es))) σ H Q →
    tE Γ O W e σ H fun x H1 => ∃ b, TruV K x H1 b ∧ if b = k then tE Γ O W (.bop k (.cons e2 es)) σ H1 Q else Q x H1 := by
  rintro σ H Q ⟨π, ρ, G, F, R0, h⟩
  rw [evalE, evalB] at h
  refine ⟨π, ρ, G, F, R0, h.seqA fun r ρ1 G1 H1 v _ e1 R1 rr n1 h1 => ?_⟩
  unfold testR at h1
  split at h1
  · rename_i d hd
    cases ht : truthD d with
    | none => rw [ht] at h1; exact h1.elim
    | some b =>
      rw [ht] at h1
      have h1 : Post Γ W π F σ (ResV Γ F σ) G1 (if b = k then evalB O k (.cons e2 es) ρ1 else .ok r ρ1) Q := h1
      refine ⟨b, truth_ok hK R1.g (R1.deref rr hd) ht, ?_⟩
      by_cases hb : b = k
      · rw [if_pos hb] at h1 ⊢
        exact ⟨π, ρ1, G1, F, R1, by rw [evalE]; exact h1⟩
      · rw [if_neg hb] at h1 ⊢
        exact h1 G1 H1 v (Ex.refl _) R1 rr
  · exact h1.elim
theorem s_bopA (g : Good I Γ O X) {e e2 : E} {es : Es} {x y : Expr} {ys : List Expr} {p : Pos} (ha : PE X x (tE Γ O W e)) (hb : PE X (.BoolOp .And (y :: ys) p) (tE Γ O W (.bop true (.cons e2 es)))) : PE X (.BoolOp .And (x :: y :: ys) p) (tE Γ O W (.bop true (.cons e (.cons e2 es)))) :=
  PE.imp (pe_andT ha hb) fun σ H Q h => bop_core g.gk σ H Q h
theorem s_bopO (g : Good I Γ O X) {e e2 : E} {es : Es} {x y : Expr} {ys : List Expr} {p : Pos} (ha : PE X x (tE Γ O W e)) (hb : PE X (.BoolOp .Or (y :: ys) p) (tE Γ O W (.bop false (.cons e2 es)))) : PE X (.BoolOp .Or (x :: y :: ys) p) (tE Γ O W (.bop false (.cons e (.cons e2 es)))) := by
  refine PE.imp (pe_orT ha hb) fun σ H Q h => ?_
  obtain ⟨π, ρ, G, F, R0, h1⟩ := bop_core g.gk σ H Q h
  refine ⟨π, ρ, G, F, R0, ?_⟩
  have imp : ∀ x H1, (∃ b, TruV X.K x H1 b ∧ if b = false then tE Γ O W (.bop false (.cons e2 es)) σ H1 Q else Q x H1) → ∃ k, TruV X.K x H1 k ∧ if k = true then Q x H1 else tE Γ O W (.bop false (.cons e2 es)) σ H1 Q := fun x H1 ⟨b, t, q⟩ => by
    refine ⟨b, t, ?_⟩
    cases b with
    | true => exact q
    | false => exact q
  cases he : evalE O e ρ with
  | bad => rw [he] at h1; exact h1
  | exc c xs ρ1 => rw [he] at h1; exact h1
  | ok r ρ1 => rw [he] at h1; exact fun G' H' v e' R' rr => imp v H' (h1 G' H' v e' R' rr)
/-- as tests -/
theorem s_bopT1A {k : Bool} {e : E} {x : Expr} {p : Pos} (ha : PT X x (tT Γ O W e)) : PW X (.BoolOp .And [x] p) (tT Γ O W (.bop k (.cons e .nil))) := by
  refine PW.imp (pw_and1 ha) ?_
  rintro σ H Q ⟨π, ρ, G, F, R0, h⟩
  unfold testOf at h
  rw [evalE, evalB] at h
  exact ⟨π, ρ, G, F, R0, h⟩
theorem s_bopT1O {k : Bool} {e : E} {x : Expr} {p : Pos} (ha : PT X x (tT Γ O W e)) : PW X (.BoolOp .Or [x] p) (tT Γ O W (.bop k (.cons e .nil))) := by
  refine PW.imp (pw_or1 ha) ?_
  rintro σ H Q ⟨π, ρ, G, F, R0, h⟩
  unfold testOf at h
  rw [evalE, evalB] at h
  exact ⟨π, ρ, G, F, R0, h⟩
theorem bopT_core {k : Bool} {e e2 : E} {es : Es} : ∀ σ H Q, tT Γ O W (.bop k (.cons e (.cons e2 es))) σ H Q → tT Γ O W e σ H fun b H1 => if b = k then tT Γ O W (.bop k (.cons e2 es)) σ H1 Q else Q b H1 := by
  rintro σ H Q ⟨π, ρ, G, F, R0, h⟩
  unfold testOf at h
  rw [evalE, evalB] at h
  refine ⟨π, ρ, G, F, R0, ?_⟩
  unfold testOf
  cases he : evalE O e ρ with
  | bad => rw [he] at h; exact h
  | exc c xs ρ1 => rw [he] at h; exact h
  | ok r ρ1 =>
    rw [he] at h
    rw [stl_ok, seq_ok] at h ⊢
    unfold testR at h ⊢
    cases hd : deref ρ1 (settle r) with
    | none => rw [hd] at h; exact h
    | some d =>
      rw [hd] at h
      cases ht : truthD d with
      | none => dsimp only at h; rw [ht] at h; exact (show False from h).elim
      | some b =>
        simp only [ht, of_some, seq_ok] at h ⊢
        intro G' H' b' e' R' hb'
        cases (show b = b' from hb')
        by_cases hb : b = k
        · rw [if_pos hb] at h ⊢
          refine ⟨π, ρ1, G', F, R', Post.mono e' ?_⟩
          unfold testOf
          rw [evalE]
          exact h
        · rw [if_neg hb] at h ⊢
          have ss : settle (settle r) = settle r := by cases r <;> rfl
          rw [stl_ok, seq_ok, ss] at h
          rw [hd] at h
          simp only [ht, of_some] at h
          exact h G' H' b e' R' rfl
theorem s_bopTA {e e2 : E} {es : Es} {x y : Expr} {ys : List Expr} {p : Pos} (ha : PT X x (tT Γ O W e)) (hb : PW X (.BoolOp .And (y :: ys) p) (tT Γ O W (.bop true (.cons e2 es)))) : PW X (.BoolOp .And (x :: y :: ys) p) (tT Γ O W (.bop true (.cons e (.cons e2 es)))) := by
  refine PW.imp (pw_and ha hb) fun σ H Q h => ?_
  obtain ⟨π, ρ, G, F, R0, h1⟩ := bopT_core σ H Q h
  refine ⟨π, ρ, G, F, R0, ?_⟩
  cases he : testOf O e ρ with
  | bad => rw [he] at h1; exact h1
  | exc c xs ρ1 => rw [he] at h1; exact h1
  | ok r ρ1 =>
    rw [he] at h1
    intro G' H' b e' R' rr
    have q := h1 G' H' b e' R' rr
    cases b with
    | true => exact q
    | false => exact q
theorem s_bopTO {e e2 : E} {es : Es} {x y : Expr} {ys : List Expr} {p : Pos} (ha : PT X x (tT Γ O W e)) (hb : PW X (.BoolOp .Or (y :: ys) p) (tT Γ O W (.bop false (.cons e2 es)))) : PW X (.BoolOp .Or (x :: y :: ys) p) (tT Γ O W (.bop false (.cons e (.cons e2 es)))) := by
  refine PW.imp (pw_or ha hb) fun σ H Q h => ?_
  obtain ⟨π, ρ, G, F, R0, h1⟩ := bopT_core σ H Q h
  refine ⟨π, ρ, G, F, R0, ?_⟩
  cases he : testOf O e ρ with
  | bad => rw [he] at h1; exact h1
  | exc c xs ρ1 => rw [he] at h1; exact h1
  | ok r ρ1 =>
    rw [he] at h1
    intro G' H' b e' R' rr
    have q := h1 G' H' b e' R' rr
    cases b with
    | true => exact q
    | false => exact q
/-! ### an own object changes -/
theorem Rel.setOwn {π : Pins} {ρ : VI.Env} {G F H : Hp} {σ : L2.St} (R0 : Rel Γ π ρ G F σ H) {i : Nat} {b : Bool} {o o' : OD} {p : Addr} {u : HO} (h : ρ[i]? = some (.own b false o)) (hs : σ[i]? = some (some (.ref p)))
    (y : OwnAt Γ G (upd H p u) p o') : Rel Γ π (ρ.set i (.own b false o')) G F σ (upd H p u) := by
  obtain ⟨a, ea, n, nf, y0⟩ := R0.own h
  rw [hs] at ea; cases ea
  have hi : i < ρ.length := (List.getElem?_eq_some_iff.mp h).1
  have own : isOwn ρ[i]? = true := isOwn_iff.mpr ⟨_, _, _, h⟩
  refine ⟨⟨R0.g.mut n, R0.f.mut nf, R0.dis, by rw [List.length_set]; exact R0.len, fun j s q => ?_, fun j k c h1 h2 e1 e2 => ?_⟩, fun j q c hm => ?_⟩
  · by_cases e : j = i
    · subst e; rw [List.getElem?_set_self hi] at q; cases q; exact ⟨p, hs, n, nf, y⟩
    · rw [List.getElem?_set_ne (Ne.symm e)] at q
      have x := R0.slot j s q
      cases s with
      | emp => trivial
      | imm d => exact x
      | own b' l o1 =>
        obtain ⟨a, e1, n1, nf1, y1⟩ := x
        have ne : a ≠ p := fun z => e (R0.inj j i p (isOwn_iff.mpr ⟨_, _, _, q⟩) own (by rw [e1, z]) hs)
        exact ⟨a, e1, n1, nf1, y1.mono (Ex.refl _) fun w hw => by rw [upd_ne ne]; exact hw⟩
  · have ow : ∀ {m : Nat}, isOwn (ρ.set i (.own b false o'))[m]? = true → isOwn ρ[m]? = true := fun {m} hm => by
      by_cases z : m = i
      · rw [z]; exact own
      · rw [List.getElem?_set_ne (Ne.symm z)] at hm; exact hm
    exact R0.inj j k c (ow h1) (ow h2) e1 e2
  · obtain ⟨h1, b1, l1, o1, h2, h3, h4⟩ := R0.pin j q c hm
    by_cases e : j = i
    · subst e
      rw [h] at h2; cases h2
      refine ⟨h1, b, false, o', List.getElem?_set_self hi, h3, fun o2 hc => ?_⟩
      exact absurd (h4 o2 hc).1 (by simp)
    · exact ⟨h1, b1, l1, o1, by rw [List.getElem?_set_ne (Ne.symm e)]; exact h2, h3, h4⟩
theorem isLst_iff {s : Option Slot} (h : isLst s = true) : ∃ b l ds, s = some (.own b l (.lst ds)) := by
  unfold isLst at h
  split at h
  · exact ⟨_, _, _, rfl⟩
  · cases h
theorem var_pe {N : List Str} {i : Nat} {x : Str} {p : Pos} (h : isVar X.N X.env.scope i x = true) : PE X (.Name x p) (tVar i) := by
  obtain ⟨h1, h2, h3⟩ := isVar_ok h
  unfold nmOk at h3
  simp only [Bool.and_eq_true, Bool.not_eq_true'] at h3
  have hv : Vis X.env.scope x := by
    unfold vis at h2
    split at h2
    · rename_i e; exact .inl e
    · rename_i e; exact .inr (.inl e)
    · rename_i e; exact .inr (.inr e)
    · cases h2
  exact pe_var h1 hv h3.1.1 h3.1.2
/-- a list's own method, the arguments kept -/
theorem mut_core {K : PySem.W.Frag} {m : Mu} {i : Nat} {es : Es} {r : V → List V → Hp → VK → Prop}
    (hr : ∀ π ρ G F σ H b ds vs es' ws d o' p Q, Rel Γ π ρ G F σ H → ρ[i]? = some (.own b false (.lst ds)) → σ[i]? = some (some (.ref p)) → H p = some (.lst vs) → RL Γ G vs ds → RL Γ G ws es' → muD m (.lst ds) es' = some (d, o') →
      (∀ v H', Rel Γ π (ρ.set i (.own b false o')) G F σ H' → R Γ G v d → Q v H') → r (.ref p) ws H Q) : ∀ σ H Q, tE Γ O W (.mut m i es) σ H Q → tBM K "list" r (tVar i) (tAs Γ O W es) σ H Q := by
  rintro σ H Q ⟨π, ρ, G, F, R0, h⟩
  rw [evalE] at h
  split at h
  · rename_i hl
    obtain ⟨b, l, ds, hi⟩ := isLst_iff hl
    obtain ⟨p, ep, n, nf, vs, hp, rl⟩ := R0.own hi
    refine ⟨.ref p, ep, .inl ⟨rfl, vs, .inl (.inl hp)⟩, ?_⟩
    have h0 : tE Γ O W (.mut m i es) σ H Q := ⟨π, ρ, G, F, R0, by rw [evalE, if_pos hl]; exact h⟩
    have h1 : ∃ π ρ G F, Rel Γ π ρ G F σ H ∧ Post Γ W π F σ (ResV Γ F σ) G ((evalAs O es ρ).seq fun rs ρ1 => (capts rs ρ1).seq fun ds ρ2 => mutS m i ds ρ2) Q := ⟨π, ρ, G, F, R0, h⟩
    clear h0
    obtain ⟨π, ρ, G, F, R0, h⟩ := h1
    refine ⟨π, ρ, G, F, R0, ?_⟩
    cases he : evalAs O es ρ with
    | bad => rw [he] at h; exact h
    | exc c xs ρ1 => rw [he] at h; exact h
    | ok rs ρ1 =>
      rw [he, seq_ok] at h
      intro G1 H1 F1 ws e1 R1 ar
      obtain ⟨G2, e2, R2, _, a2⟩ := ar.settle R1
      cases hc : capts rs ρ1 with
      | bad => rw [hc] at h; exact h.elim
      | exc c xs ρ2 =>
        exfalso
        have no : ∀ {rs : List Res} {ρ : VI.Env}, capts rs ρ ≠ .exc c xs ρ2 := by
          intro rs
          induction rs with
          | nil => intro ρ z; cases z
          | cons r rs ih =>
            intro ρ z
            rw [capts] at z
            cases h1 : capt r ρ with
            | bad => rw [h1] at z; cases z
            | exc c' xs' ρ' => exact absurd h1 capt_no_exc
            | ok d ρ' =>
              rw [h1, seq_ok] at z
              cases h2 : capts rs ρ' with
              | bad => rw [h2] at z; cases z
              | exc c' xs' ρ'' => rw [h2] at z; cases z; exact ih h2
              | ok ds ρ'' => rw [h2] at z; cases z
        exact no hc
      | ok es' ρ2 =>
        rw [hc, seq_ok] at h
        obtain ⟨G3, e3, R3, rl3⟩ := ArgR.capts R2 (fun r hr => by obtain ⟨x, _, rfl⟩ := List.mem_map.mp hr; exact settle_nf x) a2 (by rw [capts_settle]; exact hc)
        have h := Post.mono ((e1.trans e2).trans e3) h
        unfold mutS at h
        split at h
        · rename_i b' o hi'
          split at h
          · rename_i d o' hm
            obtain ⟨p', ep', n', nf', y'⟩ := R3.own hi'
            rw [ep] at ep'; cases ep'
            have ho : ∃ ds', o = .lst ds' := by
              cases o with
              | lst ds' => exact ⟨ds', rfl⟩
              | dK _ => cases m <;> cases hm
              | dT _ => cases m <;> cases hm
              | ins _ _ => cases m <;> cases hm
            obtain ⟨ds', rfl⟩ := ho
            obtain ⟨vs', hp', rl'⟩ := y'
            exact hr π ρ2 G3 F σ H1 b' ds' vs' es' ws d o' p Q R3 hi' ep hp' rl' rl3 hm fun v H' R' r' => h G3 H' v (Ex.refl _) R' r'
          · exact h.elim
        · exact h.elim
  · exact h.elim
theorem app_ok {i : Nat} : ∀ π ρ G F σ H b ds vs es' ws d o' p Q, Rel Γ π ρ G F σ H → ρ[i]? = some (.own b false (.lst ds)) → σ[i]? = some (some (.ref p)) → H p = some (.lst vs) → RL Γ G vs ds → RL Γ G ws es' → muD .append (.lst ds) es' = some (d, o') →
      (∀ v H', Rel Γ π (ρ.set i (.own b false o')) G F σ H' → R Γ G v d → Q v H') → rAppend (.ref p) ws H Q := by
  intro π ρ G F σ H b ds vs es' ws d o' p Q R0 hi hs hp rl rl2 hm q
  match es', ws, rl2, hm with
  | [e], [w], rl2, hm =>
    obtain ⟨hb, e⟩ := grd_some hm
    cases e
    have hz := of_decide_eq_true hb
    refine ⟨p, vs, w, rfl, rfl, hp, by rw [rl.1]; exact hz, q .non _ (R0.setOwn hi hs ⟨_, upd_same, rl.append (RL.cons rl2.head RL.nil)⟩) .non⟩
  | [_], [], rl2, _ => exact absurd rl2.1 (by simp)
  | [_], _ :: _ :: _, rl2, _ => exact absurd rl2.1 (by simp)
  | [], _, _, hm => cases hm
  | _ :: _ :: _, _, _, hm => cases hm
theorem pop_ok {i : Nat} : ∀ π ρ G F σ H b ds vs es' ws d o' p Q, Rel Γ π ρ G F σ H → ρ[i]? = some (.own b false (.lst ds)) → σ[i]? = some (some (.ref p)) → H p = some (.lst vs) → RL Γ G vs ds → RL Γ G ws es' → muD .pop (.lst ds) es' = some (d, o') →
      (∀ v H', Rel Γ π (ρ.set i (.own b false o')) G F σ H' → R Γ G v d → Q v H') → (fun x ws H Q => rPop x ws H Q ∨ rPopAt x ws H Q) (.ref p) ws H Q := by
  intro π ρ G F σ H b ds vs es' ws d o' p Q R0 hi hs hp rl rl2 hm q
  have cs : (es' = [] ) ∨ (∃ k, es' = [.int k]) := by
    match es', hm with
    | [], _ => exact .inl rfl
    | [.int k], _ => exact .inr ⟨k, rfl⟩
    | [.non], hm => cases hm
    | [.bl _], hm => cases hm
    | [.str _], hm => cases hm
    | [.lst _], hm => cases hm
    | [.tup _], hm => cases hm
    | [.dK _], hm => cases hm
    | [.dT _], hm => cases hm
    | [.ins _ _], hm => cases hm
    | _ :: _ :: _, hm => exact absurd hm (by simp [muD])
  rcases cs with rfl | ⟨k, rfl⟩
  · cases ws with
    | cons _ _ => exact absurd rl2.1 (by simp)
    | nil =>
      simp only [muD] at hm
      split at hm
      · rename_i d' hd
        cases hm
        rw [← rl.1] at hd
        obtain ⟨v, hv, rv⟩ := rl.get hd
        exact .inl ⟨p, vs, v, rfl, rfl, hp, hv, q v _ (R0.setOwn hi hs ⟨_, upd_same, rl.dropLast⟩) rv⟩
      · cases hm
  · cases ws with
    | nil => exact absurd rl2.1 (by simp)
    | cons w ws =>
      cases ws with
      | cons _ _ => exact absurd rl2.1 (by simp)
      | nil =>
        simp only [muD] at hm
        split at hm
        · cases hm
        · rename_i hz
          split at hm
          · rename_i j hj
            split at hm
            · rename_i d' hd
              cases hm
              have hw := rl2.head
              cases hw
              obtain ⟨v, hv, rv⟩ := rl.get hd
              have hlen : vs.length ≤ 16777216 := by rw [rl.1]; exact Nat.not_lt.mp hz
              have hj' : seqIndex? k vs.length = some j ∧ -(2 ^ 63) ≤ k ∧ k < 2 ^ 63 := by
                rw [← rl.1] at hj
                unfold ixN at hj
                split at hj
                · rename_i h0
                  split at hj
                  · rename_i h1
                    cases hj
                    exact ⟨seqIndex_of h0 h1, by omega, by omega⟩
                  · cases hj
                · rename_i h0
                  split at hj
                  · rename_i h1
                    cases hj
                    exact ⟨by rw [seqIndex_neg (by omega) h1], by omega, by omega⟩
                  · cases hj
              exact .inr ⟨p, vs, k, j, v, rfl, rfl, hp, hj'.2.1, hj'.2.2, hj'.1, hv, q v _ (R0.setOwn hi hs ⟨_, upd_same, rl.eraseIdx j⟩) rv⟩
            · cases hm
          · cases hm
end VI
/-! VI, soundness: what is walked; comprehensions -/
namespace VI
open PySem L2
variable {I : Inf} {Γ : Tab} {O : Orc} {W : WX} {X : Cx}
/-- J gives the data ds one after another, as long as what is walked stands -/
structure Walk (Γ : Tab) (π : Pins) (J : L2.It) (ds : List Dat) (G0 : Hp) : Prop where
  go : ∀ (i : Nat) (ρ : VI.Env) (G F : Hp) (σ : L2.St) (H : Hp), Rel Γ π ρ G F σ H → Ex G0 G → i < ds.length → J.go i H
  stop : ∀ (i : Nat) (ρ : VI.Env) (G F : Hp) (σ : L2.St) (H : Hp), Rel Γ π ρ G F σ H → Ex G0 G → ds.length ≤ i → J.stop i H
  yld : ∀ (i : Nat) (ρ : VI.Env) (G F : Hp) (σ : L2.St) (H : Hp) (x : V) (H' : Hp), Rel Γ π ρ G F σ H → Ex G0 G → i < ds.length → J.yld i H x H' → ∃ d G', ds[i]? = some d ∧ Grow G H G' H' ∧ R Γ G' x d
  len : ds.length ≤ sizeLine
/-- a list that stands at each turn -/
theorem walk_sq {K : PySem.W.Frag} (hK : K = Γ.K) {π : Pins} {a : Addr} {ds : List Dat} {G0 : Hp} (hl : ds.length ≤ sizeLine) (st : ∀ (ρ : VI.Env) (G F : Hp) (σ : L2.St) (H : Hp), Rel Γ π ρ G F σ H → Ex G0 G → ∃ vs, SqX Γ.K H a vs ∧ RL Γ G vs ds) : Walk Γ π (Itl K a) ds G0 where
  go := fun i ρ G F σ H R0 e hi => by
    obtain ⟨vs, hv, rl⟩ := st ρ G F σ H R0 e
    have hi' : i < vs.length := by rw [rl.1]; exact hi
    exact ⟨vs, vs[i], hK ▸ hv.sql, List.getElem?_eq_getElem hi'⟩
  stop := fun i ρ G F σ H R0 e hi => by
    obtain ⟨vs, hv, rl⟩ := st ρ G F σ H R0 e
    exact ⟨vs, hK ▸ hv.sql, by rw [rl.1]; exact hi⟩
  yld := fun i ρ G F σ H x H' R0 e hi y => by
    obtain ⟨rfl, y⟩ := y
    obtain ⟨vs, hv, rl⟩ := st ρ G F σ _ R0 e
    have hx := y vs (hK ▸ hv.sql)
    exact ⟨ds[i], G, List.getElem?_eq_getElem hi, Grow.refl R0.g, rl.2 i x _ hx (List.getElem?_eq_getElem hi)⟩
  len := hl
theorem walk_tup {K : PySem.W.Frag} {π : Pins} {a : Addr} {ds : List Dat} {G0 : Hp} {vs : List V} (hl : ds.length ≤ sizeLine) (hv : G0 a = some (.tup vs)) (rl : RL Γ G0 vs ds) : Walk Γ π (Itt K a) ds G0 where
  go := fun i ρ G F σ H R0 e hi => by
    have hi' : i < vs.length := by rw [rl.1]; exact hi
    exact ⟨vs, vs[i], .inl (.inl (R0.g _ _ (e _ _ hv))), List.getElem?_eq_getElem hi'⟩
  stop := fun i ρ G F σ H R0 e hi => ⟨vs, .inl (.inl (R0.g _ _ (e _ _ hv))), by rw [rl.1]; exact hi⟩
  yld := fun i ρ G F σ H x H' R0 e hi y => by
    obtain ⟨rfl, y⟩ := y
    have hx := y vs (.inl (.inl (R0.g _ _ (e _ _ hv))))
    exact ⟨ds[i], G, List.getElem?_eq_getElem hi, Grow.refl R0.g, (rl.2 i x _ hx (List.getElem?_eq_getElem hi)).mono e⟩
  len := hl
theorem walk_rng {π : Pins} {lo hi : Int} {G0 : Hp} (hl : (hi - lo).toNat ≤ sizeLine) : Walk Γ π (Itr lo (hi - lo).toNat) ((rngL lo hi).map .int) G0 where
  go := fun i ρ G F σ H R0 e h => by
    have h' : i < (hi - lo).toNat := by simpa only [rngL, List.length_map, List.length_range] using h
    exact h'
  stop := fun i ρ G F σ H R0 e h => by
    have h' : (hi - lo).toNat ≤ i := by simpa only [rngL, List.length_map, List.length_range] using h
    exact h'
  yld := fun i ρ G F σ H x H' R0 e h y => by
    obtain ⟨rfl, rfl⟩ := y
    refine ⟨.int (lo + (i : Int)), G, ?_, Grow.refl R0.g, .int _⟩
    have h' : i < (hi - lo).toNat := by simpa [rngL] using h
    simp [rngL, h']
  len := by simpa [rngL] using hl
theorem numbered_len (ds : List Dat) : (numbered ds).length = ds.length := by simp [numbered]
theorem numbered_get {ds : List Dat} {i : Nat} {d : Dat} (h : ds[i]? = some d) : (numbered ds)[i]? = some (.tup [.int (i : Int), d]) := by
  unfold numbered
  rw [List.getElem?_map, List.getElem?_zipIdx, h]
  simp
theorem walk_enum {K : PySem.W.Frag} (hK : K = Γ.K) {π : Pins} {a : Addr} {ds : List Dat} {G0 : Hp} (hl : ds.length ≤ sizeLine) (st : ∀ (ρ : VI.Env) (G F : Hp) (σ : L2.St) (H : Hp), Rel Γ π ρ G F σ H → Ex G0 G → ∃ vs, SqX Γ.K H a vs ∧ RL Γ G vs ds) : Walk Γ π (Ite K a) (numbered ds) G0 where
  go := fun i ρ G F σ H R0 e hi => by
    rw [numbered_len] at hi
    obtain ⟨vs, hv, rl⟩ := st ρ G F σ H R0 e
    have hi' : i < vs.length := by rw [rl.1]; exact hi
    exact ⟨vs, vs[i], hK ▸ hv.sql, List.getElem?_eq_getElem hi'⟩
  stop := fun i ρ G F σ H R0 e hi => by
    rw [numbered_len] at hi
    obtain ⟨vs, hv, rl⟩ := st ρ G F σ H R0 e
    exact ⟨vs, hK ▸ hv.sql, by rw [rl.1]; exact hi⟩
  yld := fun i ρ G F σ H x H' R0 e hi y => by
    rw [numbered_len] at hi
    obtain ⟨T, x', rfl, hT, rfl, y⟩ := y
    obtain ⟨vs, hv, rl⟩ := st ρ G F σ H R0 e
    have hx := y vs (hK ▸ hv.sql)
    have rx := rl.2 i x' _ hx (List.getElem?_eq_getElem hi)
    refine ⟨_, upd G T (.tup [.int (i : Nat), x']), numbered_get (List.getElem?_eq_getElem hi), grow_imm R0.g hT, ?_⟩
    exact r0_tup R0.g hT (RL.cons (.int _) (RL.cons rx RL.nil))
  len := by rw [numbered_len]; exact hl
/-- what a walked expression leads to -/
def PostI (Γ : Tab) (W : WX) (π : Pins) (F : Hp) (σ : L2.St) (G : Hp) (x : Out (List Dat × Option Nat)) (Rr : L2.It → Hp → Prop) : Prop := match x with
  | .ok q ρ => ∀ G' H' π' J, Ex G G' → Rel Γ π' ρ G' F σ H' → (q.2 = none → π' = π) → (∀ i, q.2 = some i → ∃ a o, π' = (i, a, some o) :: π ∧ ∀ p c, (i, p, c) ∈ π → c = none) → Walk Γ π' J q.1 G' → Rr J H'
  | .exc c xs ρ => ∀ G' H' dd, Ex G G' → Rel Γ π ρ G' F σ H' → ExcR Γ G' H' c xs dd → W (.ref (Γ.exc c)) (some dd) σ H'
  | .bad => False
def tI (Γ : Tab) (O : Orc) (W : WX) (it : VI.It) : TI := fun σ H Rr => ∃ π ρ G F, Rel Γ π ρ G F σ H ∧ PostI Γ W π F σ G (evalI O it ρ) Rr
def SizeOk (K : PySem.W.Frag) (H : Hp) : Prop := (∀ a xs, SqL K H a xs → xs.length ≤ sizeLine) ∧ ∀ a xs, SqT K H a xs → xs.length ≤ sizeLine
theorem size_ok {pins : List (Addr × Obj)} {σ : L2.St} {H : Hp} {s : Shared} (Iv : Inv X pins σ H s) : SizeOk X.K H := ⟨fun a xs h => by obtain ⟨_, _, _, z⟩ := Iv.list h; exact z, fun a xs h => by obtain ⟨_, _, _, z⟩ := Iv.tuple h; exact z⟩
theorem PI.size {tg iter : Expr} {wi : TI} (h : PI X tg iter wi) : PI X tg iter (fun σ H Rr => wi σ H fun J H1 => SizeOk X.K H1 → Rr J H1) := by
  refine ⟨fun pins s σ H Rr Iv q => ?_⟩
  refine thn (h.run pins s σ H _ Iv q) fun v s1 h1 => thn h1 fun itv s2 h2 => ?_
  obtain ⟨it, fp, tn, J, H', e, I2, T, st, f2, r⟩ := h2
  exact ⟨it, fp, tn, J, H', e, I2, T, st, f2, r (size_ok I2)⟩
theorem PI.or {tg iter : Expr} {w1 w2 : TI} (h1 : PI X tg iter w1) (h2 : PI X tg iter w2) : PI X tg iter (fun σ H Rr => w1 σ H Rr ∨ w2 σ H Rr) := by
  refine ⟨fun pins s σ H Rr Iv q => ?_⟩
  rcases q with q | q
  · exact h1.run pins s σ H Rr Iv q
  · exact h2.run pins s σ H Rr Iv q
theorem PI.imp {tg iter : Expr} {t t' : TI} (h : PI X tg iter t) (i : ∀ σ H Rr, t' σ H Rr → t σ H Rr) : PI X tg iter t' := ⟨fun pins s σ H Rr Iv q => h.run pins s σ H Rr Iv (i σ H Rr q)⟩
theorem lockR_some {r : Res} {ρ ρ' : VI.Env} {ds : List Dat} {lk : Option Nat} (n : notFr r) (h : lockR r ρ = .ok (ds, lk) ρ') :
    (r = .imm (.lst ds) ∧ lk = none ∧ ρ' = ρ) ∨ (r = .imm (.tup ds) ∧ lk = none ∧ ρ' = ρ) ∨ ∃ i b, r = .bor i ∧ ρ[i]? = some (.own b false (.lst ds)) ∧ lk = some i ∧ ρ' = ρ.set i (.own b true (.lst ds)) := by
  cases r with
  | imm d =>
    cases d <;> first | (cases h; done) | skip
    · cases h; exact .inl ⟨rfl, rfl, rfl⟩
    · cases h; exact .inr (.inl ⟨rfl, rfl, rfl⟩)
  | fr o => exact n.elim
  | bor i =>
    have h : (match ρ[i]? with
    | some (.own p false (.lst ds)) => Out.ok (ds, some i) (ρ.set i (.own p true (.lst ds)))
    | _ => Out.bad) = Out.ok (ds, lk) ρ' := h
    split at h
    · rename_i b ds' e
      cases h
      exact .inr (.inr ⟨i, b, rfl, e, rfl, rfl⟩)
    · cases h
/-- a slot's locks change -/
theorem Rel0.relock {ρ : VI.Env} {G F H : Hp} {σ : L2.St} {i : Nat} {b l b' l' : Bool} {o : OD} (R0 : Rel0 Γ ρ G F σ H) (h : ρ[i]? = some (.own b l o)) : Rel0 Γ (ρ.set i (.own b' l' o)) G F σ H where
  g := R0.g
  f := R0.f
  dis := R0.dis
  len := by rw [List.length_set]; exact R0.len
  slot := fun j s q => by
    have hi : i < ρ.length := (List.getElem?_eq_some_iff.mp h).1
    by_cases z : j = i
    · subst z
      rw [List.getElem?_set_self hi] at q; cases q
      exact R0.own h
    · rw [List.getElem?_set_ne (Ne.symm z)] at q; exact R0.slot j s q
  inj := fun j k a h1 h2 e1 e2 => by
    have hi : i < ρ.length := (List.getElem?_eq_some_iff.mp h).1
    have own : ∀ {m : Nat}, isOwn (ρ.set i (.own b' l' o))[m]? = true → isOwn ρ[m]? = true := fun {m} hm => by
      by_cases z : m = i
      · subst z; exact isOwn_iff.mpr ⟨_, _, _, h⟩
      · rw [List.getElem?_set_ne (Ne.symm z)] at hm; exact hm
    exact R0.inj j k a (own h1) (own h2) e1 e2
/-- the walked list, locked if it is an own one -/
theorem lock_ok {π : Pins} {ρ ρ' : VI.Env} {G F H : Hp} {σ : L2.St} {r : Res} {v : V} {ds : List Dat} {lk : Option Nat} {K : PySem.W.Frag} (hK : K = Γ.K) (R0 : Rel Γ π ρ G F σ H) (n : notFr r) (rr : ResR Γ G F H ρ σ r v) (sz : SizeOk K H) (h : lockR r ρ = .ok (ds, lk) ρ') :
    ∃ π' a, v = .ref a ∧ Rel Γ π' ρ' G F σ H ∧ (lk = none → π' = π) ∧ (∀ i, lk = some i → ∃ a o, π' = (i, a, some o) :: π ∧ ∀ p c, (i, p, c) ∈ π → c = none) ∧ ds.length ≤ sizeLine ∧
      ((deref ρ r = some (.lst ds) ∧ ∀ (ρ : VI.Env) (G1 F : Hp) (σ : L2.St) (H : Hp), Rel Γ π' ρ G1 F σ H → Ex G G1 → ∃ vs, SqX Γ.K H a vs ∧ RL Γ G1 vs ds) ∨ (deref ρ r = some (.tup ds) ∧ ∃ vs, G a = some (.tup vs) ∧ RL Γ G vs ds)) := by
  rcases lockR_some n h with ⟨rfl, rfl, rfl⟩ | ⟨rfl, rfl, rfl⟩ | ⟨i, b, rfl, e, rfl, rfl⟩
  · have rr : R Γ G v (.lst ds) := rr
    cases rr with
    | @lst a vs _ hr hl q =>
      refine ⟨π, a, rfl, R0, fun _ => rfl, (fun i z => nomatch z), ?_, .inl ⟨rfl, fun ρ1 G1 F1 σ1 H1 R1 e1 => ⟨vs, (hr.mono e1).mono R1.g, RL.mono e1 ⟨hl, q⟩⟩⟩⟩
      rw [← hl]
      exact sz.1 a vs (hK ▸ (hr.mono R0.g).sql)
  · have rr : R Γ G v (.tup ds) := rr
    cases rr with
    | @tup a vs _ hr hl q =>
      refine ⟨π, a, rfl, R0, fun _ => rfl, (fun i z => nomatch z), ?_, .inr ⟨rfl, vs, hr, hl, q⟩⟩
      rw [← hl]
      exact sz.2 a vs (.inl (.inl (R0.g _ _ hr)))
  · obtain ⟨a, ea, nG, nF, vs, hp, rl⟩ := R0.own e
    have rr : σ[i]? = some (some v) := rr
    rw [rr] at ea; cases ea
    have hi : i < ρ.length := (List.getElem?_eq_some_iff.mp e).1
    have old : ∀ p c, (i, p, c) ∈ π → c = none := fun p c hm => by
      obtain ⟨_, b', l', o', h2, h3, h4⟩ := R0.pin i p c hm
      rw [e] at h2; cases h2
      cases c with
      | none => rfl
      | some o' => exact absurd (h4 o' rfl).1 (by simp)
    refine ⟨(i, a, some (.lst ds)) :: π, a, rfl, ⟨R0.toRel0.relock e, fun j p c hm => ?_⟩, (fun z => nomatch z), fun j z => by cases z; exact ⟨a, _, rfl, old⟩, ?_, .inl ⟨by simp [deref, e], fun ρ1 G1 F1 σ1 H1 R1 e1 => ?_⟩⟩
    · rcases List.mem_cons.mp hm with q | q
      · cases q
        exact ⟨rr, b, true, .lst ds, List.getElem?_set_self hi, (fun z => nomatch z), fun o' z => by cases z; exact ⟨rfl, rfl⟩⟩
      · obtain ⟨h1, b', l', o', h2, h3, h4⟩ := R0.pin j p c q
        by_cases z : j = i
        · subst z
          have hc := old p c q
          subst hc
          rw [e] at h2; cases h2
          exact ⟨h1, b, true, .lst ds, List.getElem?_set_self hi, h3, fun o' z => nomatch z⟩
        · exact ⟨h1, b', l', o', by rw [List.getElem?_set_ne (Ne.symm z)]; exact h2, h3, h4⟩
    · rw [← rl.1]
      exact sz.1 a vs (.inl (.inl hp))
    · obtain ⟨h1, b', l', o', h2, h3, h4⟩ := R1.pin i a (some (.lst ds)) List.mem_cons_self
      obtain ⟨_, rfl⟩ := h4 _ rfl
      obtain ⟨a', ea', _, _, vs', hp', rl'⟩ := R1.own h2
      rw [h1] at ea'; cases ea'
      exact ⟨vs', .inl (.inl hp'), rl'⟩
/-- behind the walk -/
theorem Rel.unlock {π : Pins} {ρ : VI.Env} {G F H : Hp} {σ : L2.St} {i : Nat} {a : Addr} {o : OD} (R0 : Rel Γ ((i, a, some o) :: π) ρ G F σ H) (old : ∀ p c, (i, p, c) ∈ π → c = none) : Rel Γ π (VI.unlock (some i) ρ) G F σ H := by
  obtain ⟨h1, b', l', o', h2, h3, h4⟩ := R0.pin i a (some o) List.mem_cons_self
  have e : VI.unlock (some i) ρ = ρ.set i (.own b' false o') := by unfold VI.unlock; dsimp only; rw [h2]
  rw [e]
  have hi : i < ρ.length := (List.getElem?_eq_some_iff.mp h2).1
  refine ⟨R0.toRel0.relock h2, fun j p c hm => ?_⟩
  obtain ⟨k1, b2, l2, o2, k2, k3, k4⟩ := R0.pin j p c (List.mem_cons_of_mem _ hm)
  by_cases z : j = i
  · subst z
    have hc := old p c hm
    subst hc
    rw [h2] at k2; cases k2
    exact ⟨k1, b', false, o', List.getElem?_set_self hi, k3, fun o' z => nomatch z⟩
  · exact ⟨k1, b2, l2, o2, by rw [List.getElem?_set_ne (Ne.symm z)]; exact k2, k3, k4⟩
/-! ### what is walked, by form -/
theorem s_itv (g : Good I Γ O X) {e : E} {tg iter : Expr} (he : PE X iter (tE Γ O W e)) : PI X tg iter (tI Γ O W (.val e)) := by
  refine PI.imp (PI.size (PI.or (pi_list he) (pi_tup he))) ?_
  rintro σ H Rr ⟨π, ρ, G, F, R0, h⟩
  rw [evalI] at h
  cases he : evalE O e ρ with
  | bad => rw [he] at h; exact h.elim
  | exc c xs ρ1 =>
    rw [he] at h
    exact .inl ⟨π, ρ, G, F, R0, by rw [he]; exact h⟩
  | ok r ρ1 =>
    rw [he, stl_ok, seq_ok] at h
    cases hl : lockR (settle r) ρ1 with
    | bad => rw [hl] at h; exact h.elim
    | exc c xs ρ2 =>
      exfalso
      unfold lockR at hl
      split at hl <;> first | (cases hl; done) | (split at hl <;> cases hl)
    | ok q ρ2 =>
      rw [hl] at h
      obtain ⟨ds, lk⟩ := q
      have isT : deref ρ1 (settle r) = some (.lst ds) ∨ deref ρ1 (settle r) = some (.tup ds) := by
        rcases lockR_some (settle_nf r) hl with ⟨e1, _, _⟩ | ⟨e1, _, _⟩ | ⟨i, b, e1, e2, _, _⟩
        · rw [e1]; exact .inl rfl
        · rw [e1]; exact .inr rfl
        · rw [e1]; exact .inl (by simp [deref, e2])
      rcases isT with hT | hT
      · refine .inl ⟨π, ρ, G, F, R0, ?_⟩
        rw [he]
        intro G1 H1 v e1 R1 rr
        obtain ⟨G2, e2, R2, r2⟩ := R1.settle rr
        obtain ⟨p, vs, rfl, hv, rl⟩ := (R2.deref r2 hT).lst R2.g
        refine ⟨p, rfl, ⟨vs, g.gk ▸ hv.sql⟩, fun sz => ?_⟩
        obtain ⟨π', a, ea, R3, k1, k2, k3, k4⟩ := lock_ok g.gk R2 (settle_nf r) r2 sz hl
        cases ea
        refine h G2 H1 π' _ (e1.trans e2) R3 k1 k2 ?_
        rcases k4 with ⟨_, st⟩ | ⟨z, _⟩
        · exact walk_sq g.gk k3 st
        · rw [hT] at z; cases z
      · refine .inr ⟨π, ρ, G, F, R0, ?_⟩
        rw [he]
        intro G1 H1 v e1 R1 rr
        obtain ⟨G2, e2, R2, r2⟩ := R1.settle rr
        obtain ⟨p, vs, rfl, hv, rl⟩ := (R2.deref r2 hT).tup R2.g
        refine ⟨p, rfl, ⟨vs, .inl (.inl hv)⟩, fun sz => ?_⟩
        obtain ⟨π', a, ea, R3, k1, k2, k3, k4⟩ := lock_ok g.gk R2 (settle_nf r) r2 sz hl
        cases ea
        refine h G2 H1 π' _ (e1.trans e2) R3 k1 k2 ?_
        rcases k4 with ⟨z, _⟩ | ⟨_, vs', hv', rl'⟩
        · rw [hT] at z; cases z
        · exact walk_tup k3 hv' rl'
theorem s_ite (g : Good I Γ O X) {e : E} {y : Expr} {elts : List Expr} {kk : Nat} {tp p pos : Pos} (hg : glb X.env.scope "enumerate" = true) (he : PE X y (tE Γ O W e)) (hy : notStar y = true) : PI X (.Tuple elts kk tp) (.Call (.Name "enumerate" p) [y] [] pos) (tI Γ O W (.enm e)) := by
  refine PI.imp (PI.size (pi_enum (glb_ok hg) (g.bi _ (by decide +kernel)) (pa_cons he pa_nil (star_cons hy)) (star1' hy))) ?_
  rintro σ H Rr ⟨π, ρ, G, F, R0, h⟩
  rw [evalI] at h
  refine ⟨π, ρ, G, F, R0, ?_⟩
  cases he : evalE O e ρ with
  | bad => rw [he] at h; exact h.elim
  | exc c xs ρ1 => rw [he] at h; exact h
  | ok r ρ1 =>
    rw [he, stl_ok, seq_ok] at h
    cases hl : lockR (settle r) ρ1 with
    | bad => rw [hl] at h; exact h.elim
    | exc c xs ρ2 =>
      exfalso
      unfold lockR at hl
      split at hl <;> first | (cases hl; done) | (split at hl <;> cases hl)
    | ok q ρ2 =>
      rw [hl, seq_ok] at h
      obtain ⟨ds, lk⟩ := q
      split at h
      · rename_i ds' hT
        intro G1 H1 v e1 R1 rr
        obtain ⟨G2, e2, R2, r2⟩ := R1.settle rr
        obtain ⟨p, vs, rfl, hv, rl⟩ := (R2.deref r2 hT).lst R2.g
        refine ⟨p, vs, rfl, g.gk ▸ hv.sql, fun sz => ?_⟩
        obtain ⟨π', a, ea, R3, k1, k2, k3, k4⟩ := lock_ok g.gk R2 (settle_nf r) r2 sz hl
        cases ea
        refine h G2 H1 π' _ (e1.trans e2) R3 k1 k2 ?_
        rcases k4 with ⟨_, st⟩ | ⟨z, _⟩
        · exact walk_enum g.gk k3 st
        · rw [hT] at z; cases z
      · exact h.elim
theorem PostI.of {π : Pins} {F : Hp} {σ : L2.St} {G : Hp} {b : Bool} {q : List Dat × Option Nat} {ρ : VI.Env} {Rr : L2.It → Hp → Prop} (h : PostI Γ W π F σ G (Out.of (grd b q) ρ) Rr) : b = true ∧ PostI Γ W π F σ G (.ok q ρ) Rr := by
  cases b with
  | false => exact h.elim
  | true => exact ⟨rfl, h⟩
theorem PostI.mono {π : Pins} {F : Hp} {σ : L2.St} {G G1 : Hp} {x : Out (List Dat × Option Nat)} {Rr : L2.It → Hp → Prop} (e : Ex G G1) (h : PostI Γ W π F σ G x Rr) : PostI Γ W π F σ G1 x Rr := by
  cases x with
  | ok r ρ => exact fun G' H' π' J e' => h G' H' π' J (e.trans e')
  | exc c xs ρ => exact fun G' H' dd e' => h G' H' dd (e.trans e')
  | bad => exact h
theorem itr_core {es : Es} {n : Nat} {t : List V → Hp → (L2.It → Hp → Prop) → Prop}
    (hlen : ∀ ρ rs ρ', evalAs O es ρ = .ok rs ρ' → rs.length = n)
    (h1 : n = 1 → ∀ j H Rr, rngOk 0 j = true → j ≤ 16777216 → Rr (Itr 0 j.toNat) H → t [.int j] H Rr)
    (h2 : n = 2 → ∀ i j H Rr, rngOk i j = true → j - i ≤ 16777216 → Rr (Itr i (j - i).toNat) H → t [.int i, .int j] H Rr) : ∀ σ H Rr, tI Γ O W (.rng es) σ H Rr → tAs Γ O W es σ H fun vs H1 => t vs H1 Rr := by
  rintro σ H Rr ⟨π, ρ, G, F, R0, h⟩
  rw [evalI] at h
  refine ⟨π, ρ, G, F, R0, ?_⟩
  cases he : evalAs O es ρ with
  | bad => rw [he] at h; exact h
  | exc c xs ρ1 => rw [he] at h; exact h
  | ok rs ρ1 =>
    rw [he, seq_ok] at h
    have hn := hlen _ _ _ he
    intro G1 H1 F1 vs e1 R1 ar
    obtain ⟨G2, e2, R2, _, a2⟩ := ar.settle R1
    have h := PostI.mono (e1.trans e2) h
    have rb : ∀ {ds}, derefs ρ1 rs = some ds → RBs Γ G2 H1 vs ds := fun {ds} hd => ArgR.derefs R2 (fun r hr => by obtain ⟨x, _, rfl⟩ := List.mem_map.mp hr; exact settle_nf x) a2 (by rw [derefs_settle]; exact hd)
    have dl : ∀ {rs : List Res} {ds : List Dat}, derefs ρ1 rs = some ds → ds.length = rs.length := by
      intro rs
      induction rs with
      | nil => intro ds h; cases h; rfl
      | cons r rs ih =>
        intro ds h
        unfold derefs at h
        split at h
        · rename_i d ds' _ e; cases h; simp [ih e]
        · cases h
    split at h
    · rename_i j hd
      obtain ⟨hb, h⟩ := h.of
      simp only [Bool.and_eq_true, decide_eq_true_eq] at hb
      have hv := rb hd
      match vs, hv with
      | [v], hv =>
        cases (hv.1).int
        have := dl hd
        refine h1 (by rw [← hn, ← this]; rfl) j H1 Rr hb.1 hb.2 (h G2 H1 π _ (Ex.refl _) R2 (fun _ => rfl) (fun i z => nomatch z) ?_)
        have w := walk_rng (Γ := Γ) (π := π) (lo := 0) (hi := j) (G0 := G2) (by show (j - 0).toNat ≤ 16777216; omega)
        have e0 : j - 0 = j := by omega
        rw [e0] at w
        exact w
    · rename_i i j hd
      obtain ⟨hb, h⟩ := h.of
      simp only [Bool.and_eq_true, decide_eq_true_eq] at hb
      have hv := rb hd
      match vs, hv with
      | [v, w], hv =>
        cases (hv.1).int
        cases (hv.2.1).int
        have := dl hd
        exact h2 (by rw [← hn, ← this]; rfl) i j H1 Rr hb.1 hb.2 (h G2 H1 π _ (Ex.refl _) R2 (fun _ => rfl) (fun i z => nomatch z) (walk_rng (by show (j - i).toNat ≤ 16777216; omega)))
    · exact h.elim
theorem len1 {a : E} : ∀ ρ rs ρ', evalAs O (.cons a .nil) ρ = .ok rs ρ' → rs.length = 1 := by
  intro ρ rs ρ' h
  rw [evalAs] at h
  cases e : evalE O a ρ with
  | bad => rw [e] at h; cases h
  | exc _ _ _ => rw [e] at h; cases h
  | ok r ρ1 => rw [e, seq_ok, evalAs] at h; cases h; rfl
theorem len2 {a b : E} : ∀ ρ rs ρ', evalAs O (.cons a (.cons b .nil)) ρ = .ok rs ρ' → rs.length = 2 := by
  intro ρ rs ρ' h
  rw [evalAs] at h
  cases e : evalE O a ρ with
  | bad => rw [e] at h; cases h
  | exc _ _ _ => rw [e] at h; cases h
  | ok r ρ1 =>
    rw [e, seq_ok] at h
    cases e2 : evalAs O (.cons b .nil) ρ1 with
    | bad => rw [e2] at h; cases h
    | exc _ _ _ => rw [e2] at h; cases h
    | ok rs2 ρ2 =>
      rw [e2] at h
      cases h
      have := len1 _ _ _ e2
      simp [this]
theorem s_it1 (g : Good I Γ O X) {a : E} {y tg : Expr} {p pos : Pos} (hg : glb X.env.scope "range" = true) (ha : PE X y (tE Γ O W a)) (hy : notStar y = true) : PI X tg (.Call (.Name "range" p) [y] [] pos) (tI Γ O W (.rng (.cons a .nil))) := by
  refine PI.imp (pi_range1 (glb_ok hg) (g.bi _ (by decide +kernel)) (s_cons hy ha s_nil) (star1' hy)) ?_
  refine itr_core len1 (fun _ j H Rr hb hj q => ?_) (fun z => nomatch z)
  obtain ⟨b1, b2, b3, b4⟩ := rngOk_iff hb
  exact ⟨j, rfl, b3, b4, q⟩
theorem s_it2 (g : Good I Γ O X) {a b : E} {y z tg : Expr} {p pos : Pos} (hg : glb X.env.scope "range" = true) (ha : PE X y (tE Γ O W a)) (hy : notStar y = true) (hb : PE X z (tE Γ O W b)) (hz : notStar z = true) : PI X tg (.Call (.Name "range" p) [y, z] [] pos) (tI Γ O W (.rng (.cons a (.cons b .nil)))) := by
  refine PI.imp (pi_range2 (glb_ok hg) (g.bi _ (by decide +kernel)) (s_cons hy ha (s_cons hz hb s_nil)) (by rw [star_cons hy, star1' hz]) (star1' hz)) ?_
  refine itr_core len2 (fun z => nomatch z) (fun _ i j H Rr hb hj q => ?_)
  exact ⟨i, j, rfl, rngOk_iff hb, q⟩
/-! ### changes of own lists -/
theorem few1 {y : Expr} {env : PySem.Env} {cp : Pos} (hy : notStar y = true) : ((backTo cp (starEach [y] env)).all (fun x => !x.1) && (backToKw cp (keywordEach [] env)).all (fun x => x.1.isSome)
      && decide (([y] : List Expr).length + ([] : List Keyword).length + (if ([] : List Keyword).isEmpty then 0 else 1) < 30)) = true := by rw [star1' hy]; rfl
theorem s_app {i : Nat} {x : Str} {e : E} {y : Expr} {p ap cp : Pos} (hx : isVar X.N X.env.scope i x = true) (he : PE X y (tE Γ O W e)) (hy : notStar y = true) (hl : (ap.endLine == cp.line) = true) : PE X (.Call (.Attribute (.Name x p) "append" ap) [y] [] cp) (tE Γ O W (.mut .append i (.cons e .nil))) :=
  PE.imp (pe_bm PySem.F.plainAttrs_list PySem.F.slot_list_append PySem.F.type_list_append mt_append (var_pe (N := X.N) (p := p) hx) (s_cons hy he s_nil) rfl (few1 hy) hl (star_cons hy) rfl) (mut_core app_ok)
def rPops : V → List V → Hp → VK → Prop := fun x ws H Q => rPop x ws H Q ∨ rPopAt x ws H Q
theorem mt_pops : MtR X "list.pop" rPops := by
  intro pins s σ H x vs v us Q I rx rv h
  rcases h with h | h
  · exact mt_pop pins s σ H x vs v us Q I rx rv h
  · exact mt_popAt pins s σ H x vs v us Q I rx rv h
theorem s_pop1 {i : Nat} {x : Str} {e : E} {y : Expr} {p ap cp : Pos} (hx : isVar X.N X.env.scope i x = true) (he : PE X y (tE Γ O W e)) (hy : notStar y = true) (hl : (ap.endLine == cp.line) = true) : PE X (.Call (.Attribute (.Name x p) "pop" ap) [y] [] cp) (tE Γ O W (.mut .pop i (.cons e .nil))) :=
  PE.imp (pe_bm PySem.F.plainAttrs_list PySem.F.slot_list_pop PySem.F.type_list_pop mt_pops (var_pe (N := X.N) (p := p) hx) (s_cons hy he s_nil) rfl (few1 hy) hl (star_cons hy) rfl) (mut_core (r := rPops) pop_ok)
theorem s_pop0 {i : Nat} {x : Str} {p ap cp : Pos} (hx : isVar X.N X.env.scope i x = true) (hl : (ap.endLine == cp.line) = true) : PE X (.Call (.Attribute (.Name x p) "pop" ap) [] [] cp) (tE Γ O W (.mut .pop i .nil)) := by
  refine PE.imp (pe_bm0 PySem.F.plainAttrs_list PySem.F.slot_list_pop PySem.F.type_list_pop mt_pops (var_pe (N := X.N) (p := p) hx) rfl hl) fun σ H Q h => ?_
  obtain ⟨v, e, ty, h1⟩ := mut_core (K := X.K) (r := rPops) pop_ok σ H Q h
  refine ⟨v, e, ty, ?_⟩
  obtain ⟨π, ρ, G, F, R0, h1⟩ := h1
  rw [evalAs] at h1
  exact h1 G H F [] (Ex.refl _) R0 rfl
end VI
/-! VI, soundness: names that are stored; comprehensions -/
namespace VI
open PySem L2
variable {I : Inf} {Γ : Tab} {O : Orc} {W : WX} {X : Cx}
/-- what a slot may lose -/
def freeS : Slot → Prop
  | .own true _ _ => False | .own _ true _ => False | _ => True
theorem setS_some {i : Nat} {s : Slot} {ρ ρ' : VI.Env} (h : setS i s ρ = some ρ') : ∃ t, ρ[i]? = some t ∧ freeS t ∧ ρ' = ρ.set i s := by
  unfold setS at h
  split at h <;> first | (cases h; done) | (rename_i e; cases h; exact ⟨_, e, trivial, rfl⟩)
theorem pin_free {π : Pins} {ρ : VI.Env} {σ : L2.St} (P : PinOk π ρ σ) {i : Nat} {t : Slot} (h : ρ[i]? = some t) (f : freeS t) : ∀ j p c, (j, p, c) ∈ π → i ≠ j := by
  intro j p c hm z
  subst z
  obtain ⟨_, b, l, o, h2, h3, h4⟩ := P i p c hm
  rw [h] at h2; cases h2
  rcases pin_or h3 h4 with z | z <;> subst z
  · exact f
  · cases b <;> exact f
/-- a slot takes plain data, or nothing -/
theorem Rel.put {π : Pins} {ρ : VI.Env} {G F H : Hp} {σ : L2.St} {i : Nat} {t s : Slot} {v : V} (R0 : Rel Γ π ρ G F σ H) (h : ρ[i]? = some t) (f : freeS t) (hs : s = .emp ∨ ∃ d, s = .imm d ∧ R Γ G v d) : Rel Γ π (ρ.set i s) G F (σ.set i (some v)) H := by
  have hi : i < ρ.length := (List.getElem?_eq_some_iff.mp h).1
  have his : i < σ.length := by rw [← R0.len]; exact hi
  have nown : isOwn (some s) = false := by rcases hs with rfl | ⟨d, rfl, _⟩ <;> rfl
  have own : ∀ {m : Nat}, isOwn (ρ.set i s)[m]? = true → m ≠ i ∧ isOwn ρ[m]? = true := fun {m} hm => by
    by_cases z : m = i
    · subst z; rw [List.getElem?_set_self hi, nown] at hm; cases hm
    · rw [List.getElem?_set_ne (Ne.symm z)] at hm; exact ⟨z, hm⟩
  refine ⟨⟨R0.g, R0.f, R0.dis, by rw [List.length_set, List.length_set]; exact R0.len, fun j u q => ?_, fun j k a h1 h2 e1 e2 => ?_⟩, fun j p c hm => ?_⟩
  · by_cases z : j = i
    · subst z
      rw [List.getElem?_set_self hi] at q; cases q
      rw [List.getElem?_set_self his]
      rcases hs with rfl | ⟨d, rfl, r⟩
      · trivial
      · exact ⟨v, rfl, r⟩
    · rw [List.getElem?_set_ne (Ne.symm z)] at q ⊢
      exact R0.slot j u q
  · rw [List.getElem?_set_ne (Ne.symm (own h1).1)] at e1
    rw [List.getElem?_set_ne (Ne.symm (own h2).1)] at e2
    exact R0.inj j k a (own h1).2 (own h2).2 e1 e2
  · have ne := pin_free R0.pin h f j p c hm
    obtain ⟨h1, b, l, o, h2, h3, h4⟩ := R0.pin j p c hm
    exact ⟨by rw [List.getElem?_set_ne ne]; exact h1, b, l, o, by rw [List.getElem?_set_ne ne]; exact h2, h3, h4⟩
/-- the pattern's names take the item -/
def tPat (Γ : Tab) (p : Pat) : TG := fun v σ H Q => ∃ π ρ G F d ρ', Rel Γ π ρ G F σ H ∧ R Γ G v d ∧ bind p d ρ = some ρ' ∧ ∀ σ', Rel Γ π ρ' G F σ' H → (∀ j, j ∉ p.ix → σ'[j]? = σ[j]?) → σ'.length = σ.length → Q σ' H
def tMany (Γ : Tab) (is : List Nat) : TGs := fun vs σ H Q => ∃ π ρ G F ds ρ', Rel Γ π ρ G F σ H ∧ RL Γ G vs ds ∧ setMany is ds ρ = some ρ' ∧ ∀ σ', Rel Γ π ρ' G F σ' H → (∀ j, j ∉ is → σ'[j]? = σ[j]?) → σ'.length = σ.length → Q σ' H
theorem lcl_ok {b : Bool} {x : Str} (h : lcl b X.env.scope x = true) (hb : b = true → ∀ x, X.fn x = true) : Loc X.env.scope x ∧ (X.fn x = true ∨ X.env.scope.names.lookup x = some .local) := by
  unfold lcl at h
  split at h
  · rename_i e; exact ⟨.inl e, .inr e⟩
  · rename_i e; exact ⟨.inr e, .inl (hb h x)⟩
  · cases h
theorem s_many (nd : X.N.Nodup) {b : Bool} (hb : b = true → ∀ x, X.fn x = true) : ∀ {is : List Nat} {xs : List Expr}, mNms b X.N X.env.scope is xs = true → PGs X xs (tMany Γ is) ∧ (assignEach xs X.env).length = is.length ∧ (assignEach xs X.env).findIdx? (·.1) = none
  | [], [], _ => by
    refine ⟨⟨fun pins s σ H vs us Q Iv r h => ?_⟩, rfl, rfl⟩
    obtain ⟨π, ρ, G, F, ds, ρ', R0, rl, e, k⟩ := h
    cases ds with
    | cons _ _ => cases e
    | nil =>
      cases e
      have hv : vs = [] := by have := rl.1; cases vs <;> first | rfl | cases this
      subst hv
      exact pgs_nil.run pins s σ H [] us Q Iv r ⟨rfl, k σ R0 (fun _ _ => rfl) rfl⟩
  | i :: is, x :: xs, h => by
    cases x <;> first | (cases h; done) | skip
    rename_i x p
    unfold mNms at h
    simp only [Bool.and_eq_true, decide_eq_true_eq] at h
    obtain ⟨⟨h1, h2⟩, h3⟩ := h
    obtain ⟨ih, l1, l2⟩ := s_many nd hb h3
    obtain ⟨k1, k2⟩ := lcl_ok h2 hb
    refine ⟨⟨fun pins s σ H vs us Q Iv r h => ?_⟩, by show _ + 1 = _ + 1; rw [l1], ?_⟩
    · obtain ⟨π, ρ, G, F, ds, ρ', R0, rl, e, k⟩ := h
      cases ds with
      | nil => cases e
      | cons d ds =>
        unfold setMany at e
        split at e
        · rename_i ρ1 e1
          obtain ⟨t, e2, e3, e4⟩ := setS_some e1
          cases vs with
          | nil => exact absurd rl.1 (by simp)
          | cons v vs =>
            refine (pgs_cons (pg_name nd h1 k1 k2) ih).run pins s σ H (v :: vs) us Q Iv r ⟨v, vs, rfl, ?_⟩
            have R1 := R0.put e2 e3 (.inr ⟨d, rfl, rl.head⟩) (v := v)
            rw [← e4] at R1
            refine ⟨π, ρ1, G, F, ds, ρ', R1, rl.tail, e, fun σ' R2 o2 len2 => k σ' R2 (fun j hj => ?_) (by rw [len2, List.length_set])⟩
            rw [o2 j (fun z => hj (List.mem_cons_of_mem _ z)), List.getElem?_set_ne (fun z => hj (by rw [z]; exact List.mem_cons_self))]
        · cases e
    · show List.findIdx? _ ((false, _) :: assignEach xs X.env) = none
      rw [List.findIdx?_cons]
      simp [l2]
  | [], _ :: _, h => by cases h
  | _ :: _, [], h => by cases h
theorem s_pat (nd : X.N.Nodup) (hc : X.calm = true) {b : Bool} (hb : b = true → ∀ x, X.fn x = true) {p : Pat} {tg : Expr} (h : mPat b X.N X.env.scope p tg = true) : PG X tg (tPat Γ p) := by
  cases p with
  | one i =>
    cases tg <;> first | (cases h; done) | skip
    unfold mPat at h
    simp only [Bool.and_eq_true, decide_eq_true_eq] at h
    obtain ⟨k1, k2⟩ := lcl_ok h.2 hb
    refine ⟨fun pins s σ H v u Q Iv r q => ?_⟩
    obtain ⟨π, ρ, G, F, d, ρ', R0, rd, e, k⟩ := q
    obtain ⟨t, e2, e3, e4⟩ := setS_some e
    have R1 := R0.put e2 e3 (.inr ⟨d, rfl, rd⟩) (v := v)
    rw [← e4] at R1
    refine (pg_name nd h.1 k1 k2).run pins s σ H v u Q Iv r (k _ R1 (fun j hj => ?_) (by rw [List.length_set]))
    rw [List.getElem?_set_ne (fun z => hj (by rw [z]; exact List.mem_singleton_self _))]
  | many is =>
    cases tg <;> first | (cases h; done) | skip
    rename_i xs kk p
    have h : mNms b X.N X.env.scope is xs = true := h
    obtain ⟨k1, k2, k3⟩ := s_many (Γ := Γ) nd hb h
    refine ⟨fun pins s σ H v u Q Iv r q => ?_⟩
    obtain ⟨π, ρ, G, F, d, ρ', R0, rd, e, k⟩ := q
    cases d <;> first | (cases e; done) | skip
    rename_i ds
    have e : setMany is ds ρ = some ρ' := e
    cases rd with
    | @tup a vs _ hr hl q =>
      have hlen : ds.length = is.length := by
        have key : ∀ {is : List Nat} {ds : List Dat} {ρ ρ' : VI.Env}, setMany is ds ρ = some ρ' → ds.length = is.length := by
          intro is
          induction is with
          | nil => intro ds ρ ρ' h; cases ds <;> first | rfl | cases h
          | cons i is ih =>
            intro ds ρ ρ' h
            cases ds with
            | nil => cases h
            | cons d ds =>
              unfold setMany at h
              split at h
              · simp [ih h]
              · cases h
        exact key e
      exact (pg_tup hc k1 k2 k3).run pins s σ H _ u Q Iv r ⟨a, vs, rfl, .inl (.inl (R0.g _ _ hr)), by rw [hl]; exact hlen, π, ρ, G, F, ds, ρ', R0, ⟨hl, q⟩, e, k⟩
end VI
/-! VI, soundness: comprehensions -/
namespace VI
open PySem L2
variable {I : Inf} {Γ : Tab} {O : Orc} {W : WX} {X : Cx}
abbrev W0 : WX := fun _ _ _ _ => False
theorem freed_at {is : List Nat} {ρ : VI.Env} (h : freed is ρ = true) {j : Nat} (hj : j ∈ is) : ρ[j]? = some .emp ∨ ∃ d, ρ[j]? = some (.imm d) := by
  have := List.all_eq_true.mp h j hj
  split at this
  · rename_i d e; exact .inr ⟨d, e⟩
  · rename_i e; exact .inl e
  · cases this
theorem restore_len (is : List Nat) (ρ0 : VI.Env) : ∀ ρ : VI.Env, (restore is ρ0 ρ).length = ρ.length := by
  induction is with
  | nil => intro ρ; rfl
  | cons i is ih =>
    intro ρ
    unfold restore
    split
    · rw [ih, List.length_set]
    · exact ih ρ
theorem restore_out {is : List Nat} {ρ0 : VI.Env} {j : Nat} : ∀ {ρ : VI.Env}, j ∉ is → (restore is ρ0 ρ)[j]? = ρ[j]? := by
  induction is with
  | nil => intro ρ _; rfl
  | cons i is ih =>
    intro ρ h
    have h1 : i ≠ j := fun z => h (by rw [z]; exact List.mem_cons_self)
    have h2 : j ∉ is := fun z => h (List.mem_cons_of_mem _ z)
    unfold restore
    split
    · rw [ih h2, List.getElem?_set_ne h1]
    · exact ih h2
theorem restore_in {is : List Nat} {ρ0 : VI.Env} {j : Nat} : ∀ {ρ : VI.Env}, ρ.length = ρ0.length → j ∈ is → (restore is ρ0 ρ)[j]? = ρ0[j]? := by
  induction is with
  | nil => intro ρ _ h; cases h
  | cons i is ih =>
    intro ρ hl h
    unfold restore
    split
    · rename_i s e
      by_cases z : j ∈ is
      · exact ih (by rw [List.length_set]; exact hl) z
      · rw [restore_out z]
        have ij : j = i := by
          rcases List.mem_cons.mp h with q | q
          · exact q
          · exact absurd q z
        subst ij
        have hi : j < ρ.length := by rw [hl]; exact (List.getElem?_eq_some_iff.mp e).1
        rw [List.getElem?_set_self hi, e]
    · rename_i e
      by_cases z : j ∈ is
      · exact ih hl z
      · rw [restore_out z]
        have ij : j = i := by
          rcases List.mem_cons.mp h with q | q
          · exact q
          · exact absurd q z
        subst ij
        rw [e]
        exact List.getElem?_eq_none (by rw [hl]; exact List.getElem?_eq_none_iff.mp e)
theorem wipe_in {σ : L2.St} {j : Nat} : ∀ {vs : List Nat}, j ∈ vs → j < σ.length → (wipe σ vs)[j]? = some none
  | [], h, _ => by cases h
  | v :: vs, h, hl => by
    unfold wipe
    by_cases z : v = j
    · subst z; rw [List.getElem?_set_self (by rw [wipe_length]; exact hl)]
    · rw [List.getElem?_set_ne z]
      refine wipe_in ?_ hl
      rcases List.mem_cons.mp h with q | q
      · exact absurd q.symm z
      · exact q
theorem wipe_eq {σ σ' : L2.St} {is : List Nat} (o : ∀ j, j ∉ is → σ'[j]? = (wipe σ is)[j]?) (l : σ'.length = (wipe σ is).length) : wipe σ' is = wipe σ is := by
  have l' : σ'.length = σ.length := by rw [l, wipe_length]
  refine List.ext_getElem? fun j => ?_
  by_cases z : j ∈ is
  · by_cases hj : j < σ.length
    · rw [wipe_in z hj, wipe_in z (by rw [l']; exact hj)]
    · rw [List.getElem?_eq_none (by rw [wipe_length]; omega), List.getElem?_eq_none (by rw [wipe_length]; omega)]
  · rw [wipe_out z, o j z]
/-- slots are forgotten -/
theorem Rel.wiped {π : Pins} {ρ : VI.Env} {G F H : Hp} {σ : L2.St} {is : List Nat} (R0 : Rel Γ π ρ G F σ H) (hp : ∀ j p c, (j, p, c) ∈ π → j ∉ is) : Rel Γ π (wipeL is ρ) G F (wipe σ is) H := by
  have own : ∀ {m : Nat}, isOwn (wipeL is ρ)[m]? = true → m ∉ is ∧ isOwn ρ[m]? = true := fun {m} hm => by
    by_cases z : m ∈ is
    · obtain ⟨p, l, o, e⟩ := isOwn_iff.mp hm
      exact absurd (wipeL_in is ρ z e) (by simp)
    · rw [wipeL_out is ρ z] at hm; exact ⟨z, hm⟩
  refine ⟨⟨R0.g, R0.f, R0.dis, by rw [wipeL_len, wipe_length]; exact R0.len, fun j s q => ?_, fun j k a h1 h2 e1 e2 => ?_⟩, fun j p c hm => ?_⟩
  · by_cases z : j ∈ is
    · rw [wipeL_in is ρ z q]; trivial
    · rw [wipeL_out is ρ z] at q
      rw [wipe_out z]
      exact R0.slot j s q
  · rw [wipe_out (own h1).1] at e1
    rw [wipe_out (own h2).1] at e2
    exact R0.inj j k a (own h1).2 (own h2).2 e1 e2
  · have z := hp j p c hm
    rw [wipe_out z, wipeL_out is ρ z]
    exact R0.pin j p c hm
/-- .. and come back as they were -/
theorem Rel.unwiped {π : Pins} {ρ ρ1 : VI.Env} {G G1 F F1 H H1 : Hp} {σ : L2.St} {is : List Nat} (R0 : Rel Γ π (wipeL is ρ) G F (wipe σ is) H) (R1 : Rel Γ π ρ1 G1 F1 σ H1) (e : Ex G1 G) (hf : freed is ρ1 = true) : Rel Γ π (restore is ρ1 ρ) G F σ H := by
  have len : ρ.length = ρ1.length := by rw [R1.len, ← wipe_length σ is, ← R0.len, wipeL_len]
  have own : ∀ {m : Nat}, isOwn (restore is ρ1 ρ)[m]? = true → m ∉ is ∧ isOwn (wipeL is ρ)[m]? = true := fun {m} hm => by
    by_cases z : m ∈ is
    · rw [restore_in len z] at hm
      rcases freed_at hf z with q | ⟨d, q⟩ <;> rw [q] at hm <;> cases hm
    · rw [restore_out z] at hm
      exact ⟨z, by rw [wipeL_out is ρ z]; exact hm⟩
  refine ⟨⟨R0.g, R0.f, R0.dis, by rw [restore_len, len]; exact R1.len, fun j s q => ?_, fun j k a h1 h2 e1 e2 => ?_⟩, fun j p c hm => ?_⟩
  · by_cases z : j ∈ is
    · rw [restore_in len z] at q
      have x := R1.slot j s q
      rcases freed_at hf z with y | ⟨d, y⟩
      · rw [y] at q; cases q; trivial
      · rw [y] at q; cases q
        obtain ⟨v, e1, r⟩ := x
        exact ⟨v, e1, r.mono e⟩
    · rw [restore_out z] at q
      have x := R0.slot j s (by rw [wipeL_out is ρ z]; exact q)
      rw [wipe_out z] at x
      exact x
  · refine R0.inj j k a (own h1).2 (own h2).2 ?_ ?_
    · rw [wipe_out (own h1).1]; exact e1
    · rw [wipe_out (own h2).1]; exact e2
  · obtain ⟨h1, b, l, o, h2, h3, h4⟩ := R0.pin j p c hm
    have z := (wipe_some h1).2
    rw [wipeL_out is ρ z] at h2
    exact ⟨(wipe_some h1).1, b, l, o, by rw [restore_out z]; exact h2, h3, h4⟩
/-- a new thing of the others -/
theorem Rel.addF {π : Pins} {ρ : VI.Env} {G F H : Hp} {σ : L2.St} {D : Addr} {u : HO} (R0 : Rel Γ π ρ G F σ H) (n : H D = none) : Rel Γ π ρ G (upd F D u) σ (upd H D u) := by
  refine ⟨⟨R0.g.ups n, fun a w h => ?_, fun a w h => ?_, R0.len, fun i s q => ?_, R0.inj⟩, R0.pin⟩
  · by_cases z : a = D
    · subst z; rw [upd_same] at h ⊢; exact h
    · rw [upd_ne z] at h ⊢; exact R0.f a w h
  · have z : a ≠ D := fun z => by rw [z, R0.g.isNone n] at h; cases h
    rw [upd_ne z]; exact R0.dis a w h
  · have x := R0.slot i s q
    cases s with
    | emp => trivial
    | imm d => exact x
    | own b l o =>
      obtain ⟨a, e1, nG, nF, y⟩ := x
      have z : a ≠ D := fun z => by
        obtain ⟨w, hw⟩ := y.ex
        rw [z, n] at hw; cases hw
      exact ⟨a, e1, nG, by rw [upd_ne z]; exact nF, y.mono (Ex.refl _) fun t ht => by rw [upd_ne z]; exact ht⟩
theorem Rel.setF {π : Pins} {ρ : VI.Env} {G F H : Hp} {σ : L2.St} {D : Addr} {u u' : HO} (R0 : Rel Γ π ρ G (upd F D u) σ H) : Rel Γ π ρ G (upd F D u') σ (upd H D u') := by
  have nG : G D = none := by
    cases q : G D with
    | none => rfl
    | some w => have := R0.dis D w q; rw [upd_same] at this; cases this
  refine ⟨⟨R0.g.mut nG, fun a w h => ?_, fun a w h => ?_, R0.len, fun i s q => ?_, R0.inj⟩, R0.pin⟩
  · by_cases z : a = D
    · subst z; rw [upd_same] at h ⊢; exact h
    · rw [upd_ne z] at h ⊢; exact R0.f a w (by rw [upd_ne z]; exact h)
  · have z : a ≠ D := fun z => by rw [z, nG] at h; cases h
    have := R0.dis a w h
    rw [upd_ne z] at this ⊢; exact this
  · have x := R0.slot i s q
    cases s with
    | emp => trivial
    | imm d => exact x
    | own b l o =>
      obtain ⟨a, e1, nG', nF, y⟩ := x
      have z : a ≠ D := fun z => by rw [z, upd_same] at nF; cases nF
      rw [upd_ne z] at nF
      exact ⟨a, e1, nG', by rw [upd_ne z]; exact nF, y.mono (Ex.refl _) fun t ht => by rw [upd_ne z]; exact ht⟩
def tCs (Γ : Tab) (O : Orc) (W : WX) (c : Es) : TT := fun σ H Q => ∃ π ρ G F, Rel Γ π ρ G F σ H ∧ Post Γ W π F σ eqV' G (evalC O c ρ) Q
theorem s_cs0 : PTs X [] (tCs Γ O W .nil) := by
  refine ⟨fun pins s σ H Q Iv h => ?_⟩
  obtain ⟨π, ρ, G, F, R0, h⟩ := h
  rw [evalC] at h
  exact pts_nil.run pins s σ H Q Iv (h G H true (Ex.refl _) R0 rfl)
theorem s_cs1 {e : E} {x : Expr} (h : PT X x (tT Γ O W e)) : PTs X [x] (tCs Γ O W (.cons e .nil)) := by
  refine ⟨fun pins s σ H Q Iv q => ?_⟩
  obtain ⟨π, ρ, G, F, R0, q⟩ := q
  rw [evalC] at q
  exact (pts_one h).run pins s σ H Q Iv ⟨π, ρ, G, F, R0, q⟩
theorem lc_one {sv : Dat → VI.Env → Option VI.Env} {c : VI.Env → Out Bool} {e : VI.Env → Out Dat} {d : Dat} {ds acc : List Dat} {ρ : VI.Env} {ds' : List Dat} {ρ3 : VI.Env} (h : lcI sv c e (d :: ds) acc ρ = .ok ds' ρ3) :
    ∃ ρa b ρb, sv d ρ = some ρa ∧ c ρa = .ok b ρb ∧ ((b = false ∧ lcI sv c e ds acc ρb = .ok ds' ρ3) ∨ (b = true ∧ ∃ x ρc, e ρb = .ok x ρc ∧ lcI sv c e ds (acc ++ [x]) ρc = .ok ds' ρ3)) := by
  unfold lcI at h
  split at h
  · cases h
  · rename_i ρa e1
    cases e2 : c ρa with
    | bad => rw [e2] at h; cases h
    | exc _ _ _ => rw [e2] at h; cases h
    | ok b ρb =>
      rw [e2, seqN_ok] at h
      cases b with
      | false => exact ⟨ρa, false, ρb, e1, e2, .inl ⟨rfl, h⟩⟩
      | true =>
        simp only [if_true] at h
        cases e3 : e ρb with
        | bad => rw [e3] at h; cases h
        | exc _ _ _ => rw [e3] at h; cases h
        | ok x ρc =>
          rw [e3, seqN_ok] at h
          exact ⟨ρa, true, ρb, e1, e2, .inr ⟨rfl, x, ρc, e3, h⟩⟩
theorem frz_read {a : E} : ∀ σ H Q, tE Γ O W (.frz a) σ H Q → tE Γ O W a σ H Q := by
  rintro σ H Q ⟨π, ρ, G, F, R0, h⟩
  rw [evalE] at h
  refine ⟨π, ρ, G, F, R0, h.seqA fun r ρ1 G1 H1 v _ e1 R1 rr n1 h1 => ?_⟩
  cases hc : capt r ρ1 with
  | bad => rw [hc] at h1; exact h1.elim
  | exc c xs ρ2 => exact absurd hc capt_no_exc
  | ok d ρ2 =>
    rw [hc] at h1
    obtain ⟨G2, e2, R2, rd⟩ := R1.capt n1 rr hc
    exact h1 G2 H1 v e2 R2 rd
theorem lc_read {e : E} {p : Pat} {it : VI.It} {c : Es} : ∀ σ H Q, tE Γ O W (.lc e p it c) σ H Q → tLc (tI Γ O W it) (tPat Γ p) (tCs Γ O W0 c) (tE Γ O W0 e) p.ix σ H Q := by
  rintro σ H Q ⟨π, ρ, G, F, R0, h⟩
  rw [evalE] at h
  refine ⟨π, ρ, G, F, R0, ?_⟩
  cases hI : evalI O it ρ with
  | bad => rw [hI] at h; exact h
  | exc cc xs ρ1 => rw [hI] at h; exact h
  | ok q ρ1 =>
    rw [hI, seq_ok] at h
    obtain ⟨ds, lk⟩ := q
    intro G1 H1 π' J e1 R1 k1 k2 wk D hD
    have h := Post.mono e1 h
    split at h
    case isFalse => exact h.elim
    rename_i hf
    have hpi : ∀ j p' c', (j, p', c') ∈ π' → j ∉ p.ix := fun j p' c' hm z => by
      obtain ⟨_, b, l, o, h2, _⟩ := R1.pin j p' c' hm
      rcases freed_at hf z with y | ⟨d, y⟩ <;> rw [y] at h2 <;> cases h2
    -- the loop's end
    have fin : ∃ ds' ρ3, lcI (fun d ρ => bind p d (wipeL p.ix ρ)) (evalC O c) (fun ρ => (stl (evalE O e ρ)).seq capt) ds [] ρ1 = .ok ds' ρ3 ∧
        ∀ G' H' acc, Ex G1 G' → Rel Γ π' (wipeL p.ix ρ3) G' (upd F D (.lst acc)) (wipe σ p.ix) H' → RL Γ G' acc ds' → Q (.ref D) H' := by
      cases hL : lcI (fun d ρ => bind p d (wipeL p.ix ρ)) (evalC O c) (fun ρ => (stl (evalE O e ρ)).seq capt) ds [] ρ1 with
      | bad => rw [hL] at h; exact h.elim
      | exc cc xs ρ3 =>
        exfalso
        have no : ∀ {ds acc : List Dat} {ρ : VI.Env}, lcI (fun d ρ => bind p d (wipeL p.ix ρ)) (evalC O c) (fun ρ => (stl (evalE O e ρ)).seq capt) ds acc ρ ≠ .exc cc xs ρ3 := by
          intro ds
          induction ds with
          | nil => intro acc ρ z; cases z
          | cons d ds ih =>
            intro acc ρ z
            unfold lcI at z
            split at z
            · cases z
            · rename_i ρa _
              cases q1 : evalC O c ρa with
              | bad => rw [q1] at z; cases z
              | exc _ _ _ => rw [q1] at z; cases z
              | ok b ρb =>
                rw [q1, seqN_ok] at z
                cases b with
                | false => exact ih z
                | true =>
                  simp only [if_true] at z
                  cases q2 : (stl (evalE O e ρb)).seq capt with
                  | bad => rw [q2] at z; cases z
                  | exc _ _ _ => rw [q2] at z; cases z
                  | ok x ρc => rw [q2, seqN_ok] at z; exact ih z
        exact no hL
      | ok ds' ρ3 =>
        rw [hL, seq_ok] at h
        refine ⟨ds', ρ3, rfl, fun G' H' acc e2 R2 rl => ?_⟩
        have R3 := R2.unwiped R1 e2 hf
        have nF : F D = none := by
          cases q : F D with
          | none => rfl
          | some w => have := R1.f D w q; rw [hD] at this; cases this
        have nG : G' D = none := by
          cases q : G' D with
          | none => rfl
          | some w => have := R2.dis D w q; rw [upd_same] at this; cases this
        have hH : H' D = some (.lst acc) := R2.f D _ upd_same
        have fresh : ∀ (ρ' : VI.Env), (∀ i, isOwn ρ'[i]? = true → isOwn (restore p.ix ρ1 ρ3)[i]? = true) → ResR Γ G' F H' ρ' σ (.fr (.lst ds')) (.ref D) := fun ρ' ho => ⟨D, rfl, nG, nF, ⟨acc, hH, rl⟩, fun i hi z => by
          obtain ⟨b, l, o, e3⟩ := isOwn_iff.mp (ho i hi)
          obtain ⟨a, e4, _, nf, _⟩ := R3.own e3
          rw [z] at e4; cases e4
          rw [upd_same] at nf; cases nf⟩
        have R4 : Rel Γ π' (restore p.ix ρ1 ρ3) G' F σ H' := R3.subF (Ex.new nF)
        cases lk with
        | none =>
          have := k1 rfl
          subst this
          exact h G' H' (.ref D) e2 R4 (fresh _ fun _ z => z)
        | some i =>
          obtain ⟨a, o, e5, old⟩ := k2 i rfl
          subst e5
          refine h G' H' (.ref D) e2 (R4.unlock old) (fresh _ fun j hj => ?_)
          obtain ⟨_, b, l, o', h2, _⟩ := R4.pin i a (some o) List.mem_cons_self
          have e6 : VI.unlock (some i) (restore p.ix ρ1 ρ3) = (restore p.ix ρ1 ρ3).set i (.own b false o') := by unfold VI.unlock; dsimp only; rw [h2]
          rw [e6] at hj
          by_cases z : j = i
          · subst z; exact isOwn_iff.mpr ⟨_, _, _, h2⟩
          · rw [List.getElem?_set_ne (Ne.symm z)] at hj; exact hj
    clear h
    obtain ⟨dsN, ρN, hLN, fin⟩ := fin
    refine ⟨fun i m H => ∃ ρ G acc ads, m = ds.length - i ∧ i ≤ ds.length ∧ Ex G1 G ∧ Rel Γ π' (wipeL p.ix ρ) G (upd F D (.lst acc)) (wipe σ p.ix) H ∧ RL Γ G acc ads ∧ acc.length ≤ i ∧ lcI (fun d ρ => bind p d (wipeL p.ix ρ)) (evalC O c) (fun ρ => (stl (evalE O e ρ)).seq capt) (ds.drop i) ads ρ = .ok dsN ρN, ⟨ds.length, ?_⟩, ?_⟩
    · exact ⟨ρ1, G1, [], [], rfl, Nat.zero_le _, Ex.refl _, (R1.wiped hpi).addF hD, RL.nil, Nat.le_refl _, hLN⟩
    · rintro i m H2 ⟨ρ2, G2, acc, ads, hm, hi', e2, R2, rl, hac, hL⟩
      by_cases hlt : i < ds.length
      · refine .inr ⟨wk.go i _ _ _ _ _ R2 e2 hlt, fun H' => ∃ m', m' < m ∧ ∃ ρ G acc ads, m' = ds.length - (i + 1) ∧ i + 1 ≤ ds.length ∧ Ex G1 G ∧ Rel Γ π' (wipeL p.ix ρ) G (upd F D (.lst acc)) (wipe σ p.ix) H' ∧ RL Γ G acc ads ∧ acc.length ≤ i + 1 ∧ lcI (fun d ρ => bind p d (wipeL p.ix ρ)) (evalC O c) (fun ρ => (stl (evalE O e ρ)).seq capt) (ds.drop (i + 1)) ads ρ = .ok dsN ρN, fun H' z => z, fun x H3 hy => ?_⟩
        obtain ⟨d, G3, hd, w3, rx⟩ := wk.yld i _ _ _ _ _ x H3 R2 e2 hlt hy
        have hdrop : ds.drop i = d :: ds.drop (i + 1) := by
          rw [List.drop_eq_getElem_cons hlt]
          congr 1
          rw [List.getElem?_eq_getElem hlt] at hd
          exact Option.some.inj hd
        rw [hdrop] at hL
        obtain ⟨ρa, b, ρb, q1, q2, q3⟩ := lc_one hL
        refine ⟨π', wipeL p.ix ρ2, G3, upd F D (.lst acc), d, ρa, R2.grow w3, rx, q1, fun σ2 R4 o2 l2 => ?_⟩
        have hw := wipe_eq o2 l2
        refine ⟨hw, π', ρa, G3, upd F D (.lst acc), R4, ?_⟩
        rw [q2]
        intro G5 H5 b' e5 R5 hb
        cases (show b = b' from hb)
        rcases q3 with ⟨rfl, q4⟩ | ⟨rfl, xd, ρc, q4, q5⟩
        · simp only [Bool.false_eq_true, if_false]
          refine ⟨ds.length - (i + 1), by omega, ρb, G5, acc, ads, rfl, by omega, (e2.trans w3.e).trans e5, ?_, rl.mono (w3.e.trans e5), by omega, q4⟩
          have := R5.wiped hpi
          rw [hw] at this
          exact this
        · simp only [if_true]
          refine ⟨π', ρb, G5, upd F D (.lst acc), R5, ?_⟩
          cases hE : evalE O e ρb with
          | bad => rw [hE] at q4; cases q4
          | exc _ _ _ => rw [hE] at q4; cases q4
          | ok r ρr =>
            rw [hE, stl_ok, seq_ok] at q4
            intro G6 H6 v e6 R6 rr
            obtain ⟨G7, e7, R7, r7⟩ := R6.settle rr
            obtain ⟨G8, e8, R8, r8⟩ := R7.capt (settle_nf r) r7 q4
            have big : Ex G2 G8 := (((w3.e.trans e5).trans e6).trans e7).trans e8
            refine ⟨acc, R8.f D _ upd_same, Nat.lt_of_le_of_lt hac (Nat.lt_of_lt_of_le hlt wk.len), ds.length - (i + 1), by omega, ρc, G8, acc ++ [v], ads ++ [xd], rfl, by omega, e2.trans big, ?_, (rl.mono big).append (RL.cons r8 RL.nil), by rw [List.length_append]; simp; omega, q5⟩
            have := (R8.wiped hpi).setF (u' := .lst (acc ++ [v]))
            rw [hw] at this
            exact this
      · have ei : i = ds.length := by omega
        subst ei
        rw [List.drop_length] at hL
        cases hL
        exact .inl ⟨wk.stop _ _ _ _ _ _ R2 e2 (Nat.le_refl _), fin G2 H2 acc e2 R2 rl⟩
theorem s_lc (g : Good I Γ O X) {e : E} {p : Pat} {it : VI.It} {c : Es} {elt tg iter : Expr} {ifs : List Expr} {scope : Scope} {pos : Pos} (hi : PI X tg iter (tI Γ O W it)) (ok : blkC X.N X.env.scope scope (ownOf X.N p.ix) = true) (hp : mPat false X.N (relS scope X.env.scope) p tg = true) (hs : noSet iter = true)
    (he : ∀ Y : Cx, Good I Γ O Y → Takes Y W0 → Y.N = X.N → Y.env.scope = relS scope X.env.scope → PE Y elt (tE Γ O W0 e)) (ht : ∀ Y : Cx, Good I Γ O Y → Takes Y W0 → Y.N = X.N → Y.env.scope = relS scope X.env.scope → PTs Y ifs (tCs Γ O W0 c)) :
    PE X (.ListComp elt [⟨tg, iter, ifs, 0⟩] scope pos) (tE Γ O W (.lc e p it c)) := by
  have hix : (ownOf X.N p.ix).map (·.2) = p.ix := by unfold ownOf; rw [List.map_map]; exact List.map_id' _
  have L := pe_lc (X := X) (elt := elt) (ifs := ifs) (pos := pos) g.calm g.nd hi (blkOk_by ok) (g := tPat Γ p) (tt := tCs Γ O W0 c) (te := tE Γ O W0 e)
    (fun s H C cl fp => s_pat (X := X.blk s H scope (compEnvC scope cl C X.env) fp) g.nd g.calm (b := false) (fun z => nomatch z) hp)
    (fun s H C cl fp => ht (X.blk s H scope (compEnvC scope cl C X.env) fp) (g.blk _ _ _ _ _) takes0 rfl rfl)
    (fun s H C cl fp => he (X.blk s H scope (compEnvC scope cl C X.env) fp) (g.blk _ _ _ _ _) takes0 rfl rfl) (fun x => set_no hs x)
  rw [hix] at L
  exact PE.imp L lc_read
end VI
/-! VI, soundness: all expressions -/
namespace VI
open PySem L2
variable {I : Inf} {Γ : Tab} {O : Orc}
/-- an expression's two readings -/
def EOk (Γ : Tab) (O : Orc) (W : WX) (X : Cx) (e : E) (x : Expr) : Prop := PE X x (tE Γ O W e) ∧ (okT e = true → PT X x (tT Γ O W e))
def EsOk (Γ : Tab) (O : Orc) (W : WX) (X : Cx) : Es → List Expr → Prop
  | .nil, [] => True
  | .cons e es, x :: xs => EOk Γ O W X e x ∧ EsOk Γ O W X es xs
  | _, _ => False
theorem EsOk.pa {W : WX} {X : Cx} : ∀ {es : Es} {xs : List Expr}, EsOk Γ O W X es xs → xs.all notStar = true → PA X xs (tAs Γ O W es)
  | .nil, [], _, _ => s_nil
  | .cons e es, x :: xs, h, n => by
    have n' : notStar x = true ∧ xs.all notStar = true := by simpa using n
    exact s_cons n'.1 h.1.1 (EsOk.pa h.2 n'.2)
  | .nil, _ :: _, h, _ => h.elim
  | .cons _ _, [], h, _ => h.elim
theorem EsOk.nil {W : WX} {X : Cx} {es : Es} (h : EsOk Γ O W X es []) : es = .nil := by cases es <;> first | rfl | exact h.elim
theorem EsOk.bopA {X : Cx} (g : Good I Γ O X) {W : WX} {p : Pos} : ∀ {es : Es} {x : Expr} {xs : List Expr}, EsOk Γ O W X es (x :: xs) → PE X (.BoolOp .And (x :: xs) p) (tE Γ O W (.bop true es)) ∧ (okTs es = true → PW X (.BoolOp .And (x :: xs) p) (tT Γ O W (.bop true es)))
  | .nil, _, _, h => h.elim
  | .cons e .nil, x, [], h => ⟨s_bop1 h.1.1, fun t => s_bopT1A (h.1.2 (by simp [okTs] at t; exact t))⟩
  | .cons e .nil, x, _ :: _, h => h.2.elim
  | .cons e (.cons e2 es), x, [], h => h.2.elim
  | .cons e (.cons e2 es), x, y :: ys, h => by
    have ih := EsOk.bopA g (p := p) h.2
    refine ⟨s_bopA g h.1.1 ih.1, fun t => ?_⟩
    have t : okT e = true ∧ okTs (.cons e2 es) = true := by rw [okTs] at t; simpa only [Bool.and_eq_true] using t
    exact s_bopTA (h.1.2 t.1) (ih.2 t.2)
theorem EsOk.bopO {X : Cx} (g : Good I Γ O X) {W : WX} {p : Pos} : ∀ {es : Es} {x : Expr} {xs : List Expr}, EsOk Γ O W X es (x :: xs) → PE X (.BoolOp .Or (x :: xs) p) (tE Γ O W (.bop false es)) ∧ (okTs es = true → PW X (.BoolOp .Or (x :: xs) p) (tT Γ O W (.bop false es)))
  | .nil, _, _, h => h.elim
  | .cons e .nil, x, [], h => ⟨s_bop1 h.1.1, fun t => s_bopT1O (h.1.2 (by simp [okTs] at t; exact t))⟩
  | .cons e .nil, x, _ :: _, h => h.2.elim
  | .cons e (.cons e2 es), x, [], h => h.2.elim
  | .cons e (.cons e2 es), x, y :: ys, h => by
    have ih := EsOk.bopO g (p := p) h.2
    refine ⟨s_bopO g h.1.1 ih.1, fun t => ?_⟩
    have t : okT e = true ∧ okTs (.cons e2 es) = true := by rw [okTs] at t; simpa only [Bool.and_eq_true] using t
    exact s_bopTO (h.1.2 t.1) (ih.2 t.2)
theorem EOk.of {W : WX} {X : Cx} (g : Good I Γ O X) {e : E} {x : Expr} (h : PE X x (tE Γ O W e)) (p : plainT x = true) : EOk Γ O W X e x := ⟨h, fun _ => s_truth g h p⟩
theorem s_mut {W : WX} {X : Cx} {m : Mu} {i : Nat} {x : Str} {es : Es} {ys : List Expr} {p ap cp : Pos} (hx : isVar X.N X.env.scope i x = true) (hs : EsOk Γ O W X es ys) (hn : ys.all notStar = true) (hl : (ap.endLine == cp.line) = true) (hm : muLen m ys.length = true) : PE X (.Call (.Attribute (.Name x p) (muName m) ap) ys [] cp) (tE Γ O W (.mut m i es)) := by
  match ys, es, hs with
  | [], .nil, _ =>
    cases m with
    | append => cases hm
    | pop => exact s_pop0 hx hl
  | [y], .cons e .nil, hs =>
    have hy : notStar y = true := by simpa using hn
    cases m with
    | append => exact s_app hx hs.1.1 hy hl
    | pop => exact s_pop1 hx hs.1.1 hy hl
  | [y], .cons e (.cons _ _), hs => exact hs.2.elim
  | y :: z :: zs, _, _ => cases m <;> simp [muLen] at hm
  | [], .cons _ _, hs => exact hs.elim
  | [_], .nil, hs => exact hs.elim
theorem s_itr {W : WX} {X : Cx} (g : Good I Γ O X) {es : Es} {ys : List Expr} {tg : Expr} {p pos : Pos} (hg : glb X.env.scope "range" = true) (hs : EsOk Γ O W X es ys) (hn : ys.all notStar = true) (h1 : 1 ≤ ys.length) (h2 : ys.length ≤ 2) : PI X tg (.Call (.Name "range" p) ys [] pos) (tI Γ O W (.rng es)) := by
  match ys, es, hs with
  | [], _, _ => exact absurd h1 (by simp)
  | [y], .cons e .nil, hs => exact s_it1 g hg hs.1.1 (by simpa using hn)
  | [y], .cons e (.cons _ _), hs => exact hs.2.elim
  | [y, z], .cons e (.cons e2 .nil), hs =>
    have n' : notStar y = true ∧ notStar z = true := by simpa using hn
    exact s_it2 g hg hs.1.1 n'.1 hs.2.1.1 n'.2
  | [y, z], .cons e (.cons e2 (.cons _ _)), hs => exact hs.2.2.elim
  | [y, z], .cons e .nil, hs => exact hs.2.elim
  | y :: z :: w :: zs, _, _ => simp at h2
  | [_], .nil, hs => exact hs.elim
  | [_, _], .nil, hs => exact hs.elim
theorem s_dl1 {W : WX} {X : Cx} {k v : E} {kx vx : Expr} {p : Pos} (hk : PE X kx (tE Γ O W k)) (hv : PE X vx (tE Γ O W v)) : PE X (.Dict [some kx] [vx] p) (tE Γ O W (.dl1 k v)) := by
  refine PE.imp (pe_disp (pps_cons hk hv pps_nil) rfl rfl (by simp) (by simp)) ?_
  rintro σ H Q ⟨π, ρ, G, F, R0, h⟩ q hq
  rw [evalE] at h
  have nF : F q = none := R0.f.isNone hq
  have R1 := R0.addF (u := .dK []) hq
  refine ⟨π, ρ, G, upd F q (.dK []), R1, ?_⟩
  have key : ∀ {x : Out Res} {kk : Res → VI.Env → Out Res} {Q1 : VK} {G : Hp}, Post Γ W π F σ (ResV Γ F σ) G ((stl x).seq kk) Q →
      (∀ r ρ1 G1 H1 v, Ex G G1 → Rel Γ π ρ1 G1 (upd F q (.dK [])) σ H1 → ResR Γ G1 (upd F q (.dK [])) H1 ρ1 σ r v → notFr r → Post Γ W π F σ (ResV Γ F σ) G1 (kk r ρ1) Q → Q1 v H1) →
      Post Γ W π (upd F q (.dK [])) σ (ResV Γ (upd F q (.dK [])) σ) G x Q1 := fun {x kk Q1 G} h hk => by
    cases x with
    | ok r ρ1 =>
      intro G' H' v e R2 rr
      obtain ⟨G2, e2, R3, r2⟩ := R2.settle rr
      exact hk (settle r) ρ1 G2 H' v (e.trans e2) R3 r2 (settle_nf r) (Post.mono (e.trans e2) h)
    | exc c xs ρ1 => exact fun G' H' dd e R2 ex => h G' H' dd e (R2.subF (Ex.new nF)) ex
    | bad => exact h
  refine key h fun x ρ1 G1 H1 kv e1 R2 rk n1 h1 => ?_
  refine ⟨π, ρ1, G1, _, R2, key h1 fun y ρ2 G2 H2 vv e2 R3 rv n2 h2 => ?_⟩
  cases hc : capt y ρ2 with
  | bad => rw [hc] at h2; exact h2.elim
  | exc c xs ρ3 => exact absurd hc capt_no_exc
  | ok d ρ3 =>
    rw [hc, seq_ok] at h2
    obtain ⟨G3, e3, R4, rd⟩ := R3.capt n2 rv hc
    split at h2
    · rename_i kd hkd
      split at h2
      · rename_i kk hkk
        have hkv : kv = kV kk := (R4.deref (rk.step (H' := H2) (ρ' := ρ3) n1 (e2.trans e3)) hkd).key hkk
        refine ⟨R4.f q _ upd_same, [(kk, vv)], by rw [hkv]; rfl, by simp, ?_⟩
        have R5 := R4.setF (u' := .dK (mergeK [] [(kk, vv)]))
        have nG : G3 q = none := by
          cases z : G3 q with
          | none => rfl
          | some w => have := R4.dis q w z; rw [upd_same] at this; cases this
        have R6 : Rel Γ π ρ3 G3 F σ (upd H2 q (.dK (mergeK [] [(kk, vv)]))) := R5.subF (Ex.new nF)
        refine h2 G3 _ (.ref q) e3 R6 ⟨q, rfl, nG, nF, ⟨_, upd_same, rfl, fun i a b ha hb => ?_⟩, fun i hi z => ?_⟩
        · cases i with
          | zero => cases ha; cases hb; exact rd
          | succ i => cases hb
        · obtain ⟨b, l, o, e4⟩ := isOwn_iff.mp hi
          obtain ⟨a, e5, _, nf, _⟩ := R5.own e4
          rw [z] at e5; cases e5
          rw [upd_same] at nf; cases nf
      · exact h2.elim
    · exact h2.elim
mutual
theorem sE : (e : E) → ∀ {W : WX} {X : Cx} {x : Expr}, Good I Γ O X → Takes X W → mE I X.N e X.env.scope x = true → EOk Γ O W X e x
  | .frz a, W, X, x, g, tk, h => by
    unfold mE at h
    exact ⟨s_frz (sE a g tk h).1, fun t => by cases t⟩
  | .var i, W, X, x, g, tk, h => by
    unfold mE at h
    split at h
    · exact .of g (s_var h) rfl
    · cases h
  | .cst d, W, X, x, g, tk, h => by
    unfold mE at h
    split at h
    · exact .of g (s_const h) rfl
    · simp only [Bool.and_eq_true] at h
      exact .of g (s_glob g h.1.1.1 h.1.1.2 h.1.2 h.2) rfl
    · cases h
  | .bin o a b, W, X, x, g, tk, h => by
    unfold mE at h
    split at h
    · simp only [Bool.and_eq_true] at h
      obtain ⟨⟨h1, h2⟩, h3⟩ := h
      cases mOp_eq h1
      exact .of g (s_bin g (sE a g tk h2).1 (sE b g tk h3).1) rfl
    · cases h
  | .neg a, W, X, x, g, tk, h => by
    unfold mE at h
    split at h
    · exact .of g (s_neg (sE a g tk h).1) rfl
    · cases h
  | .cmp o a b, W, X, x, g, tk, h => by
    unfold mE at h
    split at h
    · simp only [Bool.and_eq_true] at h
      obtain ⟨⟨⟨h1, h2⟩, h3⟩, h4⟩ := h
      cases mCo_eq h1
      exact ⟨s_cmp g (sE a g tk h2).1 (sE b g tk h3).1 h4, fun _ => s_cmpT g (sE a g tk h2).1 (sE b g tk h3).1 h4⟩
    · cases h
  | .chn o o' a b c, W, X, x, g, tk, h => by
    unfold mE at h
    split at h
    · simp only [Bool.and_eq_true] at h
      obtain ⟨⟨⟨⟨⟨h1, h2⟩, h3⟩, h4⟩, h5⟩, h6⟩ := h
      cases mCo_eq h1
      cases mCo_eq h2
      exact ⟨s_chn g (sE a g tk h3).1 (sE b g tk h4).1 (sE c g tk h5).1 h6, fun _ => s_chnT g (sE a g tk h3).1 (sE b g tk h4).1 (sE c g tk h5).1 h6⟩
    · cases h
  | .bop k es, W, X, x, g, tk, h => by
    unfold mE at h
    split at h
    · rename_i op xs p
      simp only [Bool.and_eq_true] at h
      obtain ⟨⟨h1, h2⟩, h3⟩ := h
      have ih := sEs es g tk h2
      cases xs with
      | nil => cases h3
      | cons y ys =>
        cases op with
        | And =>
          cases (show k = true from h1)
          have b := ih.bopA g (p := p)
          exact ⟨b.1, fun t => (b.2 (by rw [okT] at t; exact t)).pt⟩
        | Or =>
          have h1 : (!k) = true := h1
          cases k with
          | true => cases h1
          | false =>
            have b := ih.bopO g (p := p)
            exact ⟨b.1, fun t => (b.2 (by rw [okT] at t; exact t)).pt⟩
    · cases h
  | .not a, W, X, x, g, tk, h => by
    unfold mE at h
    split at h
    · have ih := sE a g tk h
      exact ⟨s_not g ih.1, fun t => s_notT (ih.2 (by rw [okT] at t; exact t))⟩
    · cases h
  | .ife c a b, W, X, x, g, tk, h => by
    unfold mE at h
    split at h
    · simp only [Bool.and_eq_true] at h
      obtain ⟨⟨⟨h1, h2⟩, h3⟩, h4⟩ := h
      exact ⟨s_ife ((sE c g tk h1).2 h2) (sE a g tk h3).1 (sE b g tk h4).1, fun t => by cases t⟩
    · cases h
  | .tup es, W, X, x, g, tk, h => by
    unfold mE at h
    split at h
    · simp only [Bool.and_eq_true] at h
      exact .of g (s_tup ((sEs es g tk h.1).pa h.2)) rfl
    · cases h
  | .lst es, W, X, x, g, tk, h => by
    unfold mE at h
    split at h
    · simp only [Bool.and_eq_true] at h
      exact .of g (s_lst ((sEs es g tk h.1).pa h.2)) rfl
    · cases h
  | .dnew, W, X, x, g, tk, h => by
    unfold mE at h
    split at h
    · exact .of g s_dnew rfl
    · cases h
  | .dnewT, W, X, x, g, tk, h => by
    unfold mE at h
    split at h
    · exact .of g s_dnewT rfl
    · cases h
  | .dl1 k v, W, X, x, g, tk, h => by
    unfold mE at h
    split at h
    · simp only [Bool.and_eq_true] at h
      exact .of g (s_dl1 (sE k g tk h.1).1 (sE v g tk h.2).1) rfl
    · cases h
  | .idx a b, W, X, x, g, tk, h => by
    unfold mE at h
    split at h
    · simp only [Bool.and_eq_true] at h
      exact .of g (s_idx g (sE a g tk h.1.1).1 (sE b g tk h.1.2).1 h.2) rfl
    · cases h
  | .slc a lo hi, W, X, x, g, tk, h => by
    unfold mE at h
    split at h
    · simp only [Bool.and_eq_true] at h
      obtain ⟨k1, k2⟩ := sO lo g tk h.1.2
      obtain ⟨k3, k4⟩ := sO hi g tk h.2
      exact .of g (s_slc g k2 k4 (sE a g tk h.1.1).1 k1 k3) rfl
    · cases h
  | .call f es, W, X, x, g, tk, h => by
    unfold mE at h
    split at h
    · simp only [Bool.and_eq_true, decide_eq_true_eq] at h
      obtain ⟨⟨⟨⟨h1, h2⟩, h3⟩, h4⟩, h5⟩ := h
      have ih := sEs es g tk h4
      exact .of g (s_call g tk h1 h2 h3 (ih.pa h5) h5 fun z => by subst z; exact ih.nil) rfl
    · cases h
  | .bi b es, W, X, x, g, tk, h => by
    unfold mE at h
    split at h
    · simp only [Bool.and_eq_true, decide_eq_true_eq] at h
      obtain ⟨⟨⟨h1, h2⟩, h3⟩, h4⟩ := h
      subst h1
      exact .of g (s_bi g h2 ((sEs es g tk h3).pa h4) h4) rfl
    · cases h
  | .rl1 a, W, X, x, g, tk, h => by
    unfold mE at h
    split at h
    · simp only [Bool.and_eq_true, decide_eq_true_eq] at h
      obtain ⟨⟨⟨⟨⟨h1, h2⟩, h3⟩, h4⟩, h5⟩, h6⟩ := h
      subst h1 h3
      exact .of g (s_rl1 g h2 h4 (sE a g tk h5).1 h6) rfl
    · cases h
  | .rl2 a b, W, X, x, g, tk, h => by
    unfold mE at h
    split at h
    · simp only [Bool.and_eq_true, decide_eq_true_eq] at h
      obtain ⟨⟨⟨⟨⟨⟨⟨h1, h2⟩, h3⟩, h4⟩, h5⟩, h6⟩, h7⟩, h8⟩ := h
      subst h1 h3
      exact .of g (s_rl2 g h2 h4 (sE a g tk h5).1 h6 (sE b g tk h7).1 h8) rfl
    · cases h
  | .rl3 es, W, X, x, g, tk, h => by
    unfold mE at h
    split at h
    · simp only [Bool.and_eq_true, decide_eq_true_eq] at h
      obtain ⟨⟨⟨⟨⟨h1, h2⟩, h3⟩, h4⟩, h5⟩, h6⟩ := h
      subst h1 h3
      exact .of g (s_rl3 g h2 h4 ((sEs es g tk h5).pa h6) h6) rfl
    · cases h
  | .isi t a, W, X, x, g, tk, h => by
    unfold mE at h
    split at h
    · simp only [Bool.and_eq_true, decide_eq_true_eq] at h
      obtain ⟨⟨⟨⟨⟨h1, h2⟩, h3⟩, h4⟩, h5⟩, h6⟩ := h
      subst h1 h3
      exact .of g (s_isi g h2 h4 (sE a g tk h5).1 h6) rfl
    · cases h
  | .mut m i es, W, X, x, g, tk, h => by
    unfold mE at h
    split at h
    · simp only [Bool.and_eq_true, decide_eq_true_eq] at h
      obtain ⟨⟨⟨⟨⟨h1, h2⟩, h3⟩, h4⟩, h5⟩, h6⟩ := h
      subst h2
      exact .of g (s_mut h1 (sEs es g tk h3) h4 h5 h6) rfl
    · cases h
  | .lc e p it c, W, X, x, g, tk, h => by
    unfold mE at h
    split at h
    · simp only [Bool.and_eq_true] at h
      obtain ⟨⟨⟨⟨⟨h1, h2⟩, h3⟩, h4⟩, h5⟩, h6⟩ := h
      exact .of g (s_lc g (sI it g tk h1) h3 h4 h2 (fun Y gy ty hN hS => (sE e gy ty (by rw [hN, hS]; exact h5)).1) (fun Y gy ty hN hS => sCs c gy ty (by rw [hN, hS]; exact h6))) rfl
    · cases h
  | .mk _ _, W, X, x, g, tk, h => by unfold mE at h; cases h
  | .meth _ _ _ _, W, X, x, g, tk, h => by unfold mE at h; cases h
  | .fld _ _ _, W, X, x, g, tk, h => by unfold mE at h; cases h
theorem sEs : (es : Es) → ∀ {W : WX} {X : Cx} {xs : List Expr}, Good I Γ O X → Takes X W → mEs I X.N es X.env.scope xs = true → EsOk Γ O W X es xs
  | .nil, W, X, xs, g, tk, h => by
    unfold mEs at h
    cases xs with
    | nil => trivial
    | cons _ _ => cases h
  | .cons e es, W, X, xs, g, tk, h => by
    unfold mEs at h
    split at h
    · simp only [Bool.and_eq_true] at h
      exact ⟨sE e g tk h.1, sEs es g tk h.2⟩
    · cases h
theorem sO : (es : Es) → ∀ {W : WX} {X : Cx} {x : Option Expr}, Good I Γ O X → Takes X W → mO I X.N es X.env.scope x = true → PO X x (tO Γ O W es) ∧ (es = .nil ∨ ∃ e, es = .cons e .nil)
  | .nil, W, X, x, g, tk, h => by
    unfold mO at h
    cases x with
    | none => exact ⟨po_none, .inl rfl⟩
    | some _ => cases h
  | .cons e es, W, X, x, g, tk, h => by
    unfold mO at h
    split at h
    · exact ⟨po_some (sE e g tk h).1, .inr ⟨e, rfl⟩⟩
    · cases h
theorem sCs : (es : Es) → ∀ {W : WX} {X : Cx} {xs : List Expr}, Good I Γ O X → Takes X W → mCs I X.N es X.env.scope xs = true → PTs X xs (tCs Γ O W es)
  | .nil, W, X, xs, g, tk, h => by
    unfold mCs at h
    cases xs with
    | nil => exact s_cs0
    | cons _ _ => cases h
  | .cons e es, W, X, xs, g, tk, h => by
    unfold mCs at h
    split at h
    · simp only [Bool.and_eq_true] at h
      exact s_cs1 ((sE e g tk h.1).2 h.2)
    · cases h
theorem sI : (it : VI.It) → ∀ {W : WX} {X : Cx} {tg x : Expr}, Good I Γ O X → Takes X W → mI I X.N it X.env.scope tg x = true → PI X tg x (tI Γ O W it)
  | .rng es, W, X, tg, x, g, tk, h => by
    unfold mI at h
    split at h
    · simp only [Bool.and_eq_true, decide_eq_true_eq] at h
      obtain ⟨⟨⟨⟨⟨h1, h2⟩, h3⟩, h4⟩, h5⟩, h6⟩ := h
      subst h1
      exact s_itr g h2 (sEs es g tk h3) h4 h5 h6
    · cases h
  | .enm a, W, X, tg, x, g, tk, h => by
    unfold mI at h
    split at h
    · split at h
      · simp only [Bool.and_eq_true, decide_eq_true_eq] at h
        obtain ⟨⟨⟨h1, h2⟩, h3⟩, h4⟩ := h
        subst h1
        exact s_ite g h2 (sE a g tk h3).1 h4
      · cases h
    · cases h
  | .val e, W, X, tg, x, g, tk, h => by
    unfold mI at h
    exact s_itv g (sE e g tk h).1
end
end VI
/-! VI, soundness: statements -/
namespace VI
open PySem L2
variable {I : Inf} {Γ : Tab} {O : Orc} {W : WX} {X : Cx} {π : Pins} {F : Hp}
section
variable (Γ : Tab) (W : WX) (π : Pins) (F : Hp)
/-- what must hold behind a statement -/
def PostC (G : Hp) (D : Ends) (x : Ctl) : Prop := match x with
  | .nx ρ => ∀ G' H' σ', Ex G G' → Rel Γ π ρ G' F σ' H' → D.nx σ' H'
  | .brk ρ => ∀ G' H' σ', Ex G G' → Rel Γ π ρ G' F σ' H' → D.bk σ' H'
  | .cnt ρ => ∀ G' H' σ', Ex G G' → Rel Γ π ρ G' F σ' H' → D.ct σ' H'
  | .ret r ρ => ∀ G' H' σ' v, Ex G G' → Rel Γ π ρ G' F σ' H' → ResR Γ G' F H' ρ σ' r v → D.rt v H'
  | .exc c xs ρ => ∀ G' H' σ' dd, Ex G G' → Rel Γ π ρ G' F σ' H' → ExcR Γ G' H' c xs dd → W (.ref (Γ.exc c)) (some dd) σ' H'
  | .bad => False
def tS (O : Orc) (s : S) : TS := fun D σ H => ∃ π ρ G F, Rel Γ π ρ G F σ H ∧ PostC Γ W π F G D (exec O s ρ)
def tSs (O : Orc) (s : Ss) : TS := fun D σ H => ∃ π ρ G F, Rel Γ π ρ G F σ H ∧ PostC Γ W π F G D (execs O s ρ)
end
theorem PostC.mono {G G1 : Hp} {D : Ends} {x : Ctl} (e : Ex G G1) (h : PostC Γ W π F G D x) : PostC Γ W π F G1 D x := by
  cases x with
  | nx ρ => exact fun G' H' σ' e' => h G' H' σ' (e.trans e')
  | brk ρ => exact fun G' H' σ' e' => h G' H' σ' (e.trans e')
  | cnt ρ => exact fun G' H' σ' e' => h G' H' σ' (e.trans e')
  | ret r ρ => exact fun G' H' σ' v e' => h G' H' σ' v (e.trans e')
  | exc c xs ρ => exact fun G' H' σ' dd e' => h G' H' σ' dd (e.trans e')
  | bad => exact h
theorem PostC.ctlE {α : Type} {σ : L2.St} {G : Hp} {D : Ends} {x : Out Res} {k : Res → VI.Env → Ctl} {Q1 : VK} (h : PostC Γ W π F G D (x.ctl k))
    (hk : ∀ r ρ1 G1 H1 v, Ex G G1 → Rel Γ π ρ1 G1 F σ H1 → ResR Γ G1 F H1 ρ1 σ r v → PostC Γ W π F G1 D (k r ρ1) → Q1 v H1) : Post Γ W π F σ (ResV Γ F σ) G x Q1 := by
  cases x with
  | ok r ρ1 => exact fun G' H' v e R1 rr => hk r ρ1 G' H' v e R1 rr (PostC.mono e h)
  | exc c xs ρ => exact fun G' H' dd e R1 ex => h G' H' σ dd e R1 ex
  | bad => exact h
theorem PostC.ctlA {σ : L2.St} {G : Hp} {D : Ends} {x : Out Res} {k : Res → VI.Env → Ctl} {Q1 : VK} (h : PostC Γ W π F G D ((stl x).ctl k))
    (hk : ∀ r ρ1 G1 H1 v, Ex G G1 → Rel Γ π ρ1 G1 F σ H1 → ResR Γ G1 F H1 ρ1 σ r v → notFr r → PostC Γ W π F G1 D (k r ρ1) → Q1 v H1) : Post Γ W π F σ (ResV Γ F σ) G x Q1 := by
  cases x with
  | ok r ρ1 =>
    intro G' H' v e R1 rr
    obtain ⟨G2, e2, R2, r2⟩ := R1.settle rr
    exact hk (settle r) ρ1 G2 H' v (e.trans e2) R2 r2 (settle_nf r) (PostC.mono (e.trans e2) h)
  | exc c xs ρ => exact fun G' H' dd e R1 ex => h G' H' σ dd e R1 ex
  | bad => exact h
/-- .. kept by others -/
theorem PostC.capt {σ : L2.St} {G H : Hp} {D : Ends} {ρ : VI.Env} {r : Res} {v : V} {k : Dat → VI.Env → Ctl} (R0 : Rel Γ π ρ G F σ H) (n : notFr r) (rr : ResR Γ G F H ρ σ r v) (h : PostC Γ W π F G D ((VI.capt r ρ).ctl k)) :
    ∃ d ρ1 G1, Ex G G1 ∧ Rel Γ π ρ1 G1 F σ H ∧ R Γ G1 v d ∧ PostC Γ W π F G1 D (k d ρ1) := by
  cases hc : VI.capt r ρ with
  | bad => rw [hc] at h; exact h.elim
  | exc c xs ρ2 => exact absurd hc capt_no_exc
  | ok d ρ1 =>
    rw [hc] at h
    obtain ⟨G1, e1, R1, rd⟩ := R0.capt n rr hc
    exact ⟨d, ρ1, G1, e1, R1, rd, PostC.mono e1 h⟩
theorem PostC.nxO {σ : L2.St} {G : Hp} {D : Ends} {x : Option VI.Env} (h : PostC Γ W π F G D (VI.nxO x)) : ∃ ρ, x = some ρ ∧ PostC Γ W π F G D (.nx ρ) := by
  cases x with
  | none => exact h.elim
  | some ρ => exact ⟨ρ, rfl, h⟩
/-- a fresh object comes into a slot -/
theorem Rel.putOwn {ρ : VI.Env} {G H : Hp} {σ : L2.St} {i : Nat} {t : Slot} {v : V} {o : OD} (R0 : Rel Γ π ρ G F σ H) (h : ρ[i]? = some t) (f : freeS t) (x : ResR Γ G F H ρ σ (.fr o) v) : Rel Γ π (ρ.set i (.own false false o)) G F (σ.set i (some v)) H := by
  obtain ⟨p, rfl, nG, nF, y, z⟩ := x
  have R1 := R0.put (v := .ref p) h f (.inl rfl)
  have hi : i < ρ.length := (List.getElem?_eq_some_iff.mp h).1
  have his : i < σ.length := by rw [← R0.len]; exact hi
  have own : ∀ {m : Nat}, m ≠ i → isOwn (ρ.set i .emp)[m]? = true → isOwn ρ[m]? = true := fun {m} hm q => by
    rw [List.getElem?_set_ne (Ne.symm hm)] at q; exact q
  have R2 := R1.toRel0.fill (i := i) (a := p) (o := o) false false (by rw [List.length_set]; exact hi) (by rw [List.getElem?_set_self his]) nG nF y fun j hj oj => by
    rw [List.getElem?_set_ne (Ne.symm hj)]
    exact z j (own hj oj)
  rw [List.set_set] at R2
  refine ⟨R2, fun j p' c hm => ?_⟩
  have ne := pin_free R0.pin h f j p' c hm
  obtain ⟨h1, b, l, o', h2, h3, h4⟩ := R0.pin j p' c hm
  exact ⟨by rw [List.getElem?_set_ne ne]; exact h1, b, l, o', by rw [List.getElem?_set_ne ne]; exact h2, h3, h4⟩
/-- name = value -/
theorem asg_ok {σ : L2.St} {G H : Hp} {D : Ends} {ρ : VI.Env} {i : Nat} {r : Res} {v : V} (R0 : Rel Γ π ρ G F σ H) (rr : ResR Γ G F H ρ σ r v) (h : PostC Γ W π F G D (asgR i r ρ)) : D.nx (σ.set i (some v)) H := by
  cases r with
  | imm d =>
    obtain ⟨ρ1, e, k⟩ := PostC.nxO (σ := σ) h
    obtain ⟨t, e2, e3, rfl⟩ := setS_some e
    exact k G H _ (Ex.refl _) (R0.put e2 e3 (.inr ⟨d, rfl, rr⟩))
  | fr o =>
    obtain ⟨ρ1, e, k⟩ := PostC.nxO (σ := σ) h
    obtain ⟨t, e2, e3, rfl⟩ := setS_some e
    exact k G H _ (Ex.refl _) (R0.putOwn e2 e3 rr)
  | bor j =>
    obtain ⟨d, ρ1, G1, e1, R1, rd, h1⟩ := PostC.capt (r := .bor j) R0 trivial rr h
    obtain ⟨ρ2, e, k⟩ := PostC.nxO (σ := σ) h1
    obtain ⟨t, e2, e3, rfl⟩ := setS_some e
    exact k G1 H _ (Ex.refl _) (R1.put e2 e3 (.inr ⟨d, rfl, rd⟩))
theorem asg_read {e : E} {i : Nat} : ∀ D σ H, tS Γ W O (.asg i e) D σ H → tAsg (tE Γ O W e) (gName i) D σ H := by
  rintro D σ H ⟨π, ρ, G, F, R0, h⟩
  rw [exec] at h
  exact ⟨π, ρ, G, F, R0, h.ctlE (α := Res) fun r ρ1 G1 H1 v e1 R1 rr h1 => asg_ok R1 rr h1⟩
/-- y = [..] -/
theorem s_setLc (g : Good I Γ O X) {x : Str} {i : Nat} {elt : Expr} {gs : List Comprehension} {scope : Scope} {pos xp sp : Pos} (hi : X.N[i]? = some x) (hl : X.env.scope.names.lookup x = some .local)
    (hsw : swapsWith (.ListComp elt gs scope pos) (some (.Name x xp)) sp.line X.env = pure true) (tk : Takes X W) :
    (e : E) → mE I X.N e X.env.scope (.ListComp elt gs scope pos) = true → PS X (.Assign [.Name x xp] (.ListComp elt gs scope pos) sp) (tAsg (tE Γ O W e) (gName i))
  | .frz a, h => by
    unfold mE at h
    exact PS.imp (s_setLc g hi hl hsw tk a h) fun D σ H q => frz_read σ H _ q
  | .lc e p it c, h => by
    unfold mE at h
    split at h
    · rename_i tg iter ifs scope' pos' he
      cases he
      simp only [Bool.and_eq_true] at h
      obtain ⟨⟨⟨⟨⟨h1, h2⟩, h3⟩, h4⟩, h5⟩, h6⟩ := h
      have hix : (ownOf X.N p.ix).map (·.2) = p.ix := by unfold ownOf; rw [List.map_map]; exact List.map_id' _
      have L := ps_setLc (X := X) (elt := elt) (ifs := ifs) (pos := pos) (spos := sp) (py := xp) g.calm g.nd hi hl hsw (sI it g tk h1) (blkOk_by h3) (g := tPat Γ p) (tt := tCs Γ O W0 c) (te := tE Γ O W0 e)
        (fun s H C cl fp => s_pat (X := X.blk s H scope (compEnvC scope cl C X.env) fp) g.nd g.calm (b := false) (fun z => nomatch z) h4)
        (fun s H C cl fp => sCs c (X := X.blk s H scope (compEnvC scope cl C X.env) fp) (g.blk _ _ _ _ _) takes0 h6)
        (fun s H C cl fp => (sE e (X := X.blk s H scope (compEnvC scope cl C X.env) fp) (g.blk _ _ _ _ _) takes0 h5).1) (fun x => set_no h2 x)
      rw [hix] at L
      exact PS.imp L fun D σ H q => lc_read σ H _ q
    · cases h
  | .var _, h => by cases h
  | .cst _, h => by cases h
  | .bin _ _ _, h => by cases h
  | .neg _, h => by cases h
  | .cmp _ _ _, h => by cases h
  | .chn _ _ _ _ _, h => by cases h
  | .bop _ _, h => by cases h
  | .not _, h => by cases h
  | .ife _ _ _, h => by cases h
  | .tup _, h => by cases h
  | .lst _, h => by cases h
  | .dnew, h => by cases h
  | .dnewT, h => by cases h
  | .dl1 _ _, h => by cases h
  | .idx _ _, h => by cases h
  | .slc _ _ _, h => by cases h
  | .call _ _, h => by cases h
  | .bi _ _, h => by cases h
  | .rl1 _, h => by cases h
  | .rl2 _ _, h => by cases h
  | .rl3 _, h => by cases h
  | .isi _ _, h => by cases h
  | .mut _ _ _, h => by cases h
  | .mk _ _, h => by cases h
  | .meth _ _ _ _, h => by cases h
  | .fld _ _ _, h => by cases h
/-! ### stores into own lists and dicts -/
def rPut : TSet := fun o i v H Q => rSetL o i v H Q ∨ rSetD o i v H Q
theorem set_put (hu : X.A.units + 1 < cLine) : PSet X rPut := by
  intro pins s σ H o i v ov iv u Q I ro ri rv h
  rcases h with h | h
  · exact set_list pins s σ H o i v ov iv u Q I ro ri rv h
  · exact set_dict hu pins s σ H o i v ov iv u Q I ro ri rv h
theorem sto_ok {σ : L2.St} {G H : Hp} {ρ : VI.Env} {i : Nat} {b : Bool} {o o' : OD} {kd d : Dat} {kv v : V} {p : Addr} {Q : Hp → Prop} (R0 : Rel Γ π ρ G F σ H) (h : ρ[i]? = some (.own b false o)) (hs : σ[i]? = some (some (.ref p))) (hk : RB Γ G H kv kd) (hv : R Γ G v d) (e : stoD o kd d = some o')
    (q : ∀ H', Rel Γ π (ρ.set i (.own b false o')) G F σ H' → Q H') : rPut (.ref p) kv v H Q := by
  obtain ⟨p', ep, nG, nF, y⟩ := R0.own h
  rw [hs] at ep; cases ep
  cases o with
  | lst ds =>
    obtain ⟨vs, hp, rl⟩ := y
    cases kd <;> first | (cases e; done) | skip
    rename_i k
    simp only [stoD] at e
    split at e
    · rename_i j hj
      cases e
      cases hk.int
      refine .inl ⟨p, vs, k, j, rfl, rfl, hp, ?_, ?_⟩
      · rw [← ixN_eq, rl.1]; exact hj
      · exact q _ (R0.setOwn h hs ⟨_, upd_same, rl.set j hv⟩)
    · cases e
  | dK ds =>
    obtain ⟨kvs, hp, rk⟩ := y
    simp only [stoD] at e
    split at e
    · rename_i k hkd
      obtain ⟨hb, e⟩ := grd_some e
      subst e
      have hz := of_decide_eq_true hb
      refine .inr ⟨p, _, rfl, .inl ⟨kvs, k, hp, hk.key hkd, ?_, rfl⟩, ?_⟩
      · rw [rk_len rk]; exact hz
      · exact q _ (R0.setOwn h hs ⟨_, upd_same, put_rk rk hv⟩)
    · cases e
  | dT ds =>
    obtain ⟨kvs, hp, rk⟩ := y
    simp only [stoD] at e
    split at e
    · rename_i k hkd
      obtain ⟨hb, e⟩ := grd_some e
      subst e
      have hz := of_decide_eq_true hb
      obtain ⟨t, et, ht⟩ := hk.keyT R0.g hkd
      refine .inr ⟨p, _, rfl, .inr ⟨kvs, k, t, hp, et, ht, ?_, rfl⟩, ?_⟩
      · rw [rk_len rk]; exact hz
      · exact q _ (R0.setOwn h hs ⟨_, upd_same, put_rk rk hv⟩)
    · cases e
  | ins c ds => cases e
theorem own_at {σ : L2.St} {G H : Hp} {ρ : VI.Env} {i : Nat} (R0 : Rel Γ π ρ G F σ H) (h : isOwn ρ[i]? = true) : ∃ p, σ[i]? = some (some (.ref p)) := by
  obtain ⟨b, l, o, e⟩ := isOwn_iff.mp h
  obtain ⟨p, ep, _⟩ := R0.own e
  exact ⟨p, ep⟩
theorem sub_asg {o i : Expr} {pos : Pos} {env : PySem.Env} (h : noSlice i = true) : ∀ v, assign (.Subscript o i pos) env v = (do
      let ov ← holding [v] (eval o env)
      let iv ← holding [v, ov] (eval i env)
      standAt pos
      holding [v, ov, iv] (setItem ov iv v)
      release [v, ov, iv] []) := by intro v; cases i <;> first | rfl | cases h
theorem sub_aug {i : Expr} (h : noSlice i = true) : ∀ ov iv new, augStore i ov iv new = (do holding [new, ov, iv] (setItem ov iv new); release [new, ov, iv] []; pure .next) := by
  intro ov iv new; cases i <;> first | rfl | cases h
theorem swap_sub {v o i : Expr} {p : Pos} {l : Nat} {env : PySem.Env} : swapsWithSole [.Subscript o i p] v l env = pure false := by cases v <;> rfl
theorem stores_sub {v o i : Expr} {p : Pos} {env : PySem.Env} : swappedStores [.Subscript o i p] v env = pure none := by cases v <;> rfl
theorem s_sidx (g : Good I Γ O X) {i : Nat} {x : Str} {k e : E} {kx vx : Expr} {p p2 sp : Pos} (hx : isVar X.N X.env.scope i x = true) (hk : PE X kx (tE Γ O W k)) (he : PE X vx (tE Γ O W e)) (hs : noSlice kx = true) :
    PS X (.Assign [.Subscript (.Name x p) kx p2] vx sp) (tS Γ W O (.sidx i k e)) := by
  refine PS.imp (ps_asg he (pg_sub (var_pe (N := X.N) hx) hk (set_put (by have := g.un; omega)) (sub_asg hs)) swap_sub stores_sub rfl) ?_
  rintro D σ H ⟨π, ρ, G, F, R0, h⟩
  rw [exec] at h
  refine ⟨π, ρ, G, F, R0, h.ctlA fun r ρ1 G1 H1 v e1 R1 rr n1 h1 => ?_⟩
  obtain ⟨d, ρ2, G2, e2, R2, rd, h2⟩ := h1.capt R1 n1 rr
  split at h2
  · rename_i ho
    obtain ⟨q, eq⟩ := own_at R2 ho
    refine ⟨.ref q, eq, π, ρ2, G2, F, R2, h2.ctlA fun kr ρ3 G3 H3 kv e3 R3 kk n3 h3 => ?_⟩
    split at h3
    · rename_i kd b o hkd hi
      split at h3
      · rename_i o' hs
        exact sto_ok R3 hi eq (R3.deref kk hkd) (rd.mono e3) hs fun H' R' => h3 G3 H' σ (Ex.refl _) R'
      · exact h3.elim
    · exact h3.elim
  · exact h2.elim
theorem seqIdx {i : Int} {n j : Nat} (h : ixN n i = some j) : (0 ≤ i ∧ i.toNat = j ∧ j < n) ∨ (i < 0 ∧ -(n : Int) ≤ i ∧ (i + n).toNat = j) := by
  unfold ixN at h
  split at h
  · split at h
    · cases h; exact .inl ⟨by assumption, rfl, by omega⟩
    · cases h
  · split at h
    · cases h; exact .inr ⟨by omega, by assumption, rfl⟩
    · cases h
theorem get_list : PGet X (rIxL X.K) := by
  intro pins s σ H x y v u Q I rx ry h
  obtain ⟨p, xs, i, z, rfl, rfl, hq, he, q⟩ := h
  cases rx
  obtain ⟨t, rfl⟩ := ry
  obtain ⟨its, r, pl, hz⟩ := I.list hq
  obtain ⟨j, h1, h2, h3, h4, h5⟩ := atI_get he
  obtain ⟨w, ew, rw'⟩ := r.get h2
  have hl := r.length
  have hn := line63
  have fin : EP X pins σ Q w s := ⟨z, H, I, rw', q⟩
  by_cases h0 : 0 ≤ i
  · have hj : i.toNat = j := by
      rw [seqIndex_of h0 h5] at h1
      exact Option.some.inj h1
    exact wpAny_getItem_list pl.isList h0 (by omega) (by rw [hj]; simpa using ew) fin
  · have hj : (i + (its.toArray.size : Int)).toNat = j := by
      rw [seqIndex_neg (by omega) h4] at h1
      rw [List.size_toArray, ← hl]
      exact Option.some.inj h1
    exact wpAny_getItem_list_neg pl.isList (by omega) (by rw [List.size_toArray] <;> omega) (by omega) (by rw [hj]; simpa using ew) fin
def rGet (K : PySem.W.Frag) : V → V → Hp → VK → Prop := fun o i H Q => rIxL K o i H Q ∨ rGetD o i H Q
theorem get_get (hu : X.A.units + 1 < cLine) : PGet X (rGet X.K) := by
  intro pins s σ H o i ov iv Q I ro ri h
  rcases h with h | h
  · exact get_list pins s σ H o i ov iv Q I ro ri h
  · obtain ⟨a, v, rfl, gd, q⟩ := h
    cases (show ov = Value.ref a from ro)
    exact d_getItem hu I gd ri fun w s1 I1 rw' => ⟨v, H, I1, rw', q⟩
theorem get_ok {K : PySem.W.Frag} (hK : K = Γ.K) {G H : Hp} {x y : V} {ob : OD} {kd : Dat} {d : Dat} {Q : VK} (g : Ex G H) (rx : RB Γ G H x ob.toDat) (ry : RB Γ G H y kd) (h : idxD ob.toDat kd = some (.imm d)) (q : ∀ v, R Γ G v d → Q v H) : rGet K x y H Q := by
  cases ob with
  | lst ds =>
    cases kd <;> first | (cases h; done) | skip
    rename_i i
    obtain ⟨d', hd, e⟩ := Option.map_eq_some_iff.mp (show (atI ds i).map Res.imm = some (.imm d) from h)
    cases e
    obtain ⟨p, vs, rfl, hp, rl⟩ := RB.lst g rx
    cases ry.int
    obtain ⟨v, hv, r⟩ := atI_rl rl hd
    exact .inl ⟨p, vs, _, v, rfl, rfl, hK ▸ hp.sql, hv, q v r⟩
  | dK ds =>
    have h : (match keyD kd with | some k => (look k ds).map Res.imm | none => none) = some (.imm d) := by
      cases kd <;> exact h
    split at h
    · rename_i k hk
      obtain ⟨d', hd, e⟩ := Option.map_eq_some_iff.mp h
      cases e
      obtain ⟨p, kvs, rfl, hp, rk⟩ := RB.dK g rx
      rcases look_val k rk with ⟨e1, e2⟩ | ⟨d', v, e1, e2, r⟩
      · rw [e1] at hd; cases hd
      · rw [e1] at hd; cases hd
        exact .inr ⟨p, v, rfl, .inl ⟨kvs, k, hp, ry.key hk, e2.symm⟩, q v r⟩
    · cases h
  | dT ds =>
    have h : (match keyT kd with | some k => (look k ds).map Res.imm | none => none) = some (.imm d) := by
      cases kd <;> exact h
    split at h
    · rename_i k hk
      obtain ⟨d', hd, e⟩ := Option.map_eq_some_iff.mp h
      cases e
      obtain ⟨p, kvs, rfl, hp, rk⟩ := RB.dT g rx
      obtain ⟨t, rfl, ht⟩ := ry.keyT g hk
      rcases look_val k rk with ⟨e1, e2⟩ | ⟨d', v, e1, e2, r⟩
      · rw [e1] at hd; cases hd
      · rw [e1] at hd; cases hd
        exact .inr ⟨p, v, rfl, .inr ⟨kvs, k, t, hp, rfl, ht, e2.symm⟩, q v r⟩
    · cases h
  | ins c ds => cases kd <;> cases h
/-- += and -= of ints -/
def isAS : Bo → Bool
  | .add => true | .sub => true | _ => false
def fAS : Bo → Int → Int → Int
  | .add, i, j => i + j | _, i, j => i - j
theorem ip_as {o : Bo} (h : isAS o = true) : PIp X (opOf o) (ipI (fAS o)) := by
  cases o <;> first | (cases h; done) | skip
  · exact ip_add
  · exact ip_sub
theorem as_int {o : Bo} (h : isAS o = true) {d e x : Dat} (hb : binD o d e = some (.imm x)) : ∃ i j, d = .int i ∧ e = .int j ∧ x = .int (fAS o i j) := by
  cases o <;> first | (cases h; done) | skip
  · cases d <;> first | (cases hb; done) | skip
    · cases e <;> first | (cases hb; done) | skip
      cases hb
      exact ⟨_, _, rfl, rfl, rfl⟩
    · cases e <;> first | (cases hb; done) | skip
      obtain ⟨_, hb⟩ := grd_some hb
      cases hb
  · cases d <;> first | (cases hb; done) | skip
    cases e <;> first | (cases hb; done) | skip
    cases hb
    exact ⟨_, _, rfl, rfl, rfl⟩
theorem s_aug (g : Good I Γ O X) {o : Bo} {i : Nat} {x : Str} {e : E} {vx : Expr} {p sp : Pos} (ho : isAS o = true) (hi : X.N[i]? = some x) (hx : Loc X.env.scope x) (hf : X.fn x = true ∨ X.env.scope.names.lookup x = some .local) (he : PE X vx (tE Γ O W e)) :
    PS X (.AugAssign (.Name x p) (opOf o) vx sp) (tS Γ W O (.aug i o e)) := by
  refine PS.imp (ps_aug g.nd hi hx he (ip_as ho) hf) ?_
  rintro D σ H ⟨π, ρ, G, F, R0, h⟩
  rw [exec] at h
  split at h
  · rename_i d0 hd0
    obtain ⟨v0, ev, r0⟩ := R0.imm hd0
    refine ⟨v0, ev, π, ρ, G, F, R0, h.ctlA fun r ρ1 G1 H1 v e1 R1 rr n1 h1 => ?_⟩
    split at h1
    · rename_i d hd
      split at h1
      · rename_i xx hb
        obtain ⟨a, b, rfl, rfl, rfl⟩ := as_int ho hb
        obtain ⟨ρ2, e2, k⟩ := PostC.nxO (σ := σ) h1
        obtain ⟨t, e3, e4, rfl⟩ := setS_some e2
        cases r0
        cases (R1.deref rr hd).int
        exact ⟨a, b, rfl, rfl, k G1 H1 _ (Ex.refl _) (R1.put e3 e4 (.inr ⟨_, rfl, .int _⟩))⟩
      · exact h1.elim
    · exact h1.elim
  · exact h.elim
theorem s_augx (g : Good I Γ O X) {o : Bo} {i : Nat} {x : Str} {k e : E} {kx vx : Expr} {p p2 sp : Pos} (ho : isAS o = true) (hx : isVar X.N X.env.scope i x = true) (hk : PE X kx (tE Γ O W k)) (he : PE X vx (tE Γ O W e)) (hs : noSlice kx = true) :
    PS X (.AugAssign (.Subscript (.Name x p) kx p2) (opOf o) vx sp) (tS Γ W O (.augx i k o e)) := by
  refine PS.imp (ps_augS (var_pe (N := X.N) hx) hk (get_get (by have := g.un; omega)) he (ip_as ho) (set_put (by have := g.un; omega)) (sub_aug hs)) ?_
  rintro D σ H ⟨π, ρ, G, F, R0, h⟩
  rw [exec] at h
  split at h
  · rename_i hown
    obtain ⟨q, eq⟩ := own_at R0 hown
    refine ⟨.ref q, eq, π, ρ, G, F, R0, h.ctlA fun kr ρ1 G1 H1 kv e1 R1 kk n1 h1 => ?_⟩
    split at h1
    · rename_i kd b l ob hkd hi
      split at h1
      · rename_i d0 hix
        obtain ⟨q', eq', nG, nF, y⟩ := R1.own hi
        rw [eq] at eq'; cases eq'
        refine get_ok g.gk R1.g (.inr ⟨q, ob, rfl, y, nG, rfl⟩) (R1.deref kk hkd) hix fun v0 r0 => ?_
        refine ⟨π, ρ1, G1, F, R1, h1.ctlA fun r ρ2 G2 H2 v e2 R2 rr n2 h2 => ?_⟩
        split at h2
        · rename_i d kd2 hd hkd2
          split at h2
          · rename_i xx b2 o2 hb hi2
            obtain ⟨a, c, rfl, rfl, rfl⟩ := as_int ho hb
            cases r0
            cases (R2.deref rr hd).int
            refine ⟨a, c, rfl, rfl, ?_⟩
            split at h2
            · rename_i o' hst
              exact sto_ok R2 hi2 eq (R2.deref (kk.step (H' := H2) (ρ' := ρ2) n1 e2) hkd2) (.int _) hst fun H' R' => h2 G2 H' σ (Ex.refl _) R'
            · exact h2.elim
          · exact h2.elim
        · exact h2.elim
      · exact h1.elim
    · exact h1.elim
  · exact h.elim
theorem s_exp {e : E} {x : Expr} {p : Pos} (he : PE X x (tE Γ O W e)) (hn : noComp x = true) : PS X (.Expr x p) (tS Γ W O (.exp e)) := by
  refine PS.imp (ps_expr he (swap_no hn)) ?_
  rintro D σ H ⟨π, ρ, G, F, R0, h⟩
  rw [exec] at h
  exact ⟨π, ρ, G, F, R0, h.ctlA fun r ρ1 G1 H1 v e1 R1 rr n1 h1 => h1 G1 H1 σ (Ex.refl _) R1⟩
theorem ret_ok {σ : L2.St} {G H : Hp} {D : Ends} {ρ : VI.Env} {r : Res} {v : V} (R0 : Rel Γ π ρ G F σ H) (rr : ResR Γ G F H ρ σ r v) (h : PostC Γ W π F G D (retR r ρ)) : D.rt v H := by
  cases r with
  | imm d => exact h G H σ v (Ex.refl _) R0 rr
  | fr o => exact h G H σ v (Ex.refl _) R0 rr
  | bor i =>
    have rr : σ[i]? = some (some v) := rr
    have h : PostC Γ W π F G D (match ρ[i]? with
      | some (.own false false o) => .ret (.fr o) (ρ.set i .emp)
      | some (.imm d) => .ret (.imm d) ρ
      | _ => .bad) := h
    split at h
    · rename_i o e
      obtain ⟨p, ep, nG, nF, y⟩ := R0.own e
      rw [rr] at ep; cases ep
      have hi : i < ρ.length := (List.getElem?_eq_some_iff.mp e).1
      have R1 := R0.put (v := .ref p) e (show freeS (.own false false o) from trivial) (.inl rfl)
      have hs : σ.set i (some (.ref p)) = σ := by
        refine List.ext_getElem? fun j => ?_
        by_cases z : i = j
        · subst z
          rw [List.getElem?_set_self (by rw [← R0.len]; exact hi), rr]
        · rw [List.getElem?_set_ne z]
      rw [hs] at R1
      refine h G H σ (.ref p) (Ex.refl _) R1 ⟨p, rfl, nG, nF, y, fun j hj z => ?_⟩
      by_cases q : j = i
      · subst q
        rw [List.getElem?_set_self hi] at hj; cases hj
      · rw [List.getElem?_set_ne (Ne.symm q)] at hj
        exact q (R0.inj j i p hj (isOwn_iff.mpr ⟨_, _, _, e⟩) z rr)
    · rename_i d e
      obtain ⟨w, ew, r⟩ := R0.imm e
      rw [rr] at ew; cases ew
      exact h G H σ v (Ex.refl _) R0 r
    · exact h.elim
theorem s_ret {e : E} {x : Expr} {p : Pos} (he : PE X x (tE Γ O W e)) : PS X (.Return (some x) p) (tS Γ W O (.ret e)) := by
  refine PS.imp (ps_ret he) ?_
  rintro D σ H ⟨π, ρ, G, F, R0, h⟩
  rw [exec] at h
  exact ⟨π, ρ, G, F, R0, h.ctlE (α := Res) fun r ρ1 G1 H1 v e1 R1 rr h1 => ret_ok R1 rr h1⟩
theorem s_retN {p : Pos} : PS X (.Return none p) (tS Γ W O (.ret (.cst .non))) := by
  refine PS.imp ps_retN ?_
  rintro D σ H ⟨π, ρ, G, F, R0, h⟩
  rw [exec, evalE] at h
  exact h G H σ .non (Ex.refl _) R0 .non
theorem s_if {c : E} {a b : Ss} {t : Expr} {xs ys : List Stmt} {p : Pos} (hc : PT X t (tT Γ O W c)) (ha : PSs X xs (tSs Γ W O a)) (hb : PSs X ys (tSs Γ W O b)) : PS X (.If t xs ys p) (tS Γ W O (.ife c a b)) := by
  refine PS.imp (ps_if hc ha hb) ?_
  rintro D σ H ⟨π, ρ, G, F, R0, h⟩
  rw [exec] at h
  refine ⟨π, ρ, G, F, R0, ?_⟩
  unfold testOf
  cases e : stl (evalE O c ρ) with
  | bad => rw [e] at h; exact h
  | exc c xs ρ1 => rw [e] at h; exact fun G' H' dd e' R' ex => h G' H' σ dd e' R' ex
  | ok r ρ1 =>
    rw [e, ctl_ok] at h
    rw [seq_ok]
    cases e2 : testR r ρ1 with
    | bad => rw [e2] at h; exact h
    | exc c xs ρ1 => rw [e2] at h; exact fun G' H' dd e' R' ex => h G' H' σ dd e' R' ex
    | ok tt ρ2 =>
      rw [e2, ctl_ok] at h
      intro G' H' b' e' R' hb'
      cases (show tt = b' from hb')
      cases tt with
      | true => exact iteT ⟨π, ρ2, G', F, R', PostC.mono e' h⟩
      | false => exact iteF ⟨π, ρ2, G', F, R', PostC.mono e' h⟩
theorem ss_nil : PSs X [] (tSs Γ W O .nil) := by
  refine PSs.imp pss_nil ?_
  rintro D σ H ⟨π, ρ, G, F, R0, h⟩
  rw [execs] at h
  exact h G H σ (Ex.refl _) R0
theorem ss_cons {s : S} {ss : Ss} {x : Stmt} {xs : List Stmt} (hx : PS X x (tS Γ W O s)) (hs : PSs X xs (tSs Γ W O ss)) : PSs X (x :: xs) (tSs Γ W O (.cons s ss)) := by
  refine PSs.imp (pss_cons hx hs) ?_
  rintro D σ H ⟨π, ρ, G, F, R0, h⟩
  rw [execs] at h
  refine ⟨π, ρ, G, F, R0, ?_⟩
  cases e : exec O s ρ with
  | nx ρ1 =>
    rw [e, andThen_nx] at h
    exact fun G' H' σ' e' R' => ⟨π, ρ1, G', F, R', PostC.mono e' h⟩
  | brk ρ1 => rw [e] at h; exact h
  | cnt ρ1 => rw [e] at h; exact h
  | ret r ρ1 => rw [e] at h; exact h
  | exc c xs ρ1 => rw [e] at h; exact h
  | bad => rw [e] at h; exact h
/-! ### loops -/
theorem Rel.unpin {x : Nat × Addr × Option OD} {ρ : VI.Env} {G H : Hp} {σ : L2.St} (R0 : Rel Γ (x :: π) ρ G F σ H) : Rel Γ π ρ G F σ H := ⟨R0.toRel0, fun j p c h => R0.pin j p c (List.mem_cons_of_mem _ h)⟩
theorem s_for (g : Good I Γ O X) (hp : PassesOwn (model X.prog X.w) X.A X.env X.xe) (hfn : ∀ x, X.fn x = true) {p : Pat} {it : VI.It} {b : Ss} {tg iter : Expr} {body : List Stmt} {pos : Pos} (hi : PI X tg iter (tI Γ O W it)) (hg : mPat true X.N X.env.scope p tg = true) (hb : PSs X body (tSs Γ W O b)) (hs : noSet iter = true) :
    PS X (.For tg iter body [] pos) (tS Γ W O (.for p it b)) := by
  refine PS.imp (ps_for hp g.calm hi (s_pat (Γ := Γ) g.nd g.calm (b := true) (fun _ => hfn) hg) hb (fun x => set_no hs x)) ?_
  rintro D σ H ⟨π, ρ, G, F, R0, h⟩
  rw [exec] at h
  refine ⟨π, ρ, G, F, R0, ?_⟩
  cases hI : evalI O it ρ with
  | bad => rw [hI] at h; exact h
  | exc cc xs ρ1 => rw [hI] at h; exact fun G' H' dd e R1 ex => h G' H' σ dd e R1 ex
  | ok q ρ1 =>
    rw [hI, ctl_ok] at h
    obtain ⟨ds, lk⟩ := q
    intro G1 H1 π' J e1 R1 k1 k2 wk
    have h := PostC.mono e1 h
    -- out of the walk
    have out : ∀ {ρ : VI.Env} {G H : Hp} {σ : L2.St}, Rel Γ π' ρ G F σ H → Rel Γ π (unlock lk ρ) G F σ H ∧ Rel Γ π ρ G F σ H := fun {ρ G H σ} R => by
      cases lk with
      | none => have := k1 rfl; subst this; exact ⟨R, R⟩
      | some i =>
        obtain ⟨a, o, e5, old⟩ := k2 i rfl
        subst e5
        exact ⟨R.unlock old, R.unpin⟩
    refine ⟨fun i m σ H => ∃ ρ G, m = ds.length - i ∧ i ≤ ds.length ∧ Ex G1 G ∧ Rel Γ π' ρ G F σ H ∧ PostC Γ W π F G D ((forI (fun d ρ => match bind p d ρ with | some ρ1 => execs O b ρ1 | none => .bad) (ds.drop i) ρ).andThen fun ρ2 => .nx (unlock lk ρ2)), ⟨ds.length, ρ1, G1, rfl, Nat.zero_le _, Ex.refl _, R1, h⟩, ?_⟩
    rintro i m σ2 H2 ⟨ρ2, G2, hm, hi', e2, R2, hL⟩
    by_cases hlt : i < ds.length
    · refine .inr ⟨wk.go i _ _ _ _ _ R2 e2 hlt, fun σ' H' => ∃ m', m' < m ∧ ∃ ρ G, m' = ds.length - (i + 1) ∧ i + 1 ≤ ds.length ∧ Ex G1 G ∧ Rel Γ π' ρ G F σ' H' ∧ PostC Γ W π F G D ((forI (fun d ρ => match bind p d ρ with | some ρ1 => execs O b ρ1 | none => .bad) (ds.drop (i + 1)) ρ).andThen fun ρ2 => .nx (unlock lk ρ2)), fun σ' H' z => z, fun x H3 hy => ?_⟩
      obtain ⟨d, G3, hd, w3, rx⟩ := wk.yld i _ _ _ _ _ x H3 R2 e2 hlt hy
      have hdrop : ds.drop i = d :: ds.drop (i + 1) := by
        rw [List.drop_eq_getElem_cons hlt]
        congr 1
        rw [List.getElem?_eq_getElem hlt] at hd
        exact Option.some.inj hd
      rw [hdrop, forI] at hL
      cases hbd : bind p d ρ2 with
      | none => rw [hbd] at hL; exact hL.elim
      | some ρa =>
        rw [hbd] at hL
        dsimp only at hL
        refine ⟨π', ρ2, G3, F, d, ρa, R2.grow w3, rx, hbd, fun σ4 R4 _ _ => ⟨π', ρa, G3, F, R4, ?_⟩⟩
        have hL := PostC.mono w3.e hL
        cases hx : execs O b ρa with
        | nx ρb =>
          rw [hx] at hL
          exact fun G5 H5 σ5 e5 R5 => ⟨ds.length - (i + 1), by omega, ρb, G5, rfl, by omega, (e2.trans w3.e).trans e5, R5, PostC.mono e5 hL⟩
        | cnt ρb =>
          rw [hx] at hL
          exact fun G5 H5 σ5 e5 R5 => ⟨ds.length - (i + 1), by omega, ρb, G5, rfl, by omega, (e2.trans w3.e).trans e5, R5, PostC.mono e5 hL⟩
        | brk ρb =>
          rw [hx] at hL
          exact fun G5 H5 σ5 e5 R5 => hL G5 H5 σ5 e5 (out R5).1
        | ret r ρb =>
          rw [hx] at hL
          exact fun G5 H5 σ5 v e5 R5 rr => hL G5 H5 σ5 v e5 (out R5).2 rr
        | exc c xs ρb =>
          rw [hx] at hL
          exact fun G5 H5 σ5 dd e5 R5 ex => hL G5 H5 σ5 dd e5 (out R5).2 ex
        | bad => rw [hx] at hL; exact hL.elim
    · have ei : i = ds.length := by omega
      subst ei
      rw [List.drop_length] at hL
      exact .inl ⟨wk.stop _ _ _ _ _ _ R2 e2 (Nat.le_refl _), hL G2 H2 σ2 (Ex.refl _) (out R2).1⟩
theorem s_while (hp : PassesOwn (model X.prog X.w) X.A X.env X.xe) {n : Nat} {c : E} {b : Ss} {t : Expr} {body : List Stmt} {pos : Pos} (hc : PT X t (tT Γ O W c)) (hb : PSs X body (tSs Γ W O b)) : PS X (.While t body [] pos) (tS Γ W O (.whl n c b)) := by
  refine PS.imp (ps_while hp hc hb) ?_
  rintro D σ H ⟨π, ρ, G, F, R0, h⟩
  rw [exec] at h
  refine ⟨fun m σ H => ∃ ρ G, Rel Γ π ρ G F σ H ∧ PostC Γ W π F G D (whlI (fun ρ => (stl (evalE O c ρ)).seq fun x ρ1 => testR x ρ1) (fun ρ => execs O b ρ) m ρ), ⟨n, ρ, G, R0, h⟩, ?_⟩
  rintro m σ2 H2 ⟨ρ2, G2, R2, h2⟩
  cases m with
  | zero => exact h2.elim
  | succ m =>
    rw [whlI] at h2
    refine ⟨π, ρ2, G2, F, R2, ?_⟩
    show Post Γ W π F σ2 eqV' G2 ((stl (evalE O c ρ2)).seq fun x ρ1 => testR x ρ1) _
    cases e : (stl (evalE O c ρ2)).seq fun x ρ1 => testR x ρ1 with
    | bad => rw [e] at h2; exact h2
    | exc cc xs ρ3 => rw [e] at h2; exact fun G' H' dd e' R' ex => h2 G' H' σ2 dd e' R' ex
    | ok tt ρ3 =>
      rw [e, ctl_ok] at h2
      intro G3 H3 b' e3 R3 hb'
      cases (show tt = b' from hb')
      cases tt with
      | false => exact iteF ((PostC.mono e3 h2) G3 H3 σ2 (Ex.refl _) R3)
      | true =>
        refine iteT ⟨fun σ' H' => ∃ m', m' < m + 1 ∧ ∃ ρ G, Rel Γ π ρ G F σ' H' ∧ PostC Γ W π F G D (whlI (fun ρ => (stl (evalE O c ρ)).seq fun x ρ1 => testR x ρ1) (fun ρ => execs O b ρ) m' ρ), fun σ' H' z => z, π, ρ3, G3, F, R3, ?_⟩
        have h2 := PostC.mono e3 h2
        simp only [if_true] at h2
        cases hx : execs O b ρ3 with
        | nx ρb => rw [hx] at h2; exact fun G5 H5 σ5 e5 R5 => ⟨m, Nat.lt_succ_self _, ρb, G5, R5, PostC.mono e5 h2⟩
        | cnt ρb => rw [hx] at h2; exact fun G5 H5 σ5 e5 R5 => ⟨m, Nat.lt_succ_self _, ρb, G5, R5, PostC.mono e5 h2⟩
        | brk ρb => rw [hx] at h2; exact h2
        | ret r ρb => rw [hx] at h2; exact h2
        | exc c xs ρb => rw [hx] at h2; exact h2
        | bad => rw [hx] at h2; exact h2
/-! ### a, b = .. -/
theorem swap_tup {e : Expr} {xs : List Expr} {k : Nat} {p : Pos} {l : Nat} {env : PySem.Env} : swapsWithSole [.Tuple xs k p] e l env = pure false := by cases e <;> rfl
def notTup : Expr → Bool
  | .Tuple _ _ _ => false | _ => true
theorem stores_tup {e : Expr} {xs : List Expr} {k : Nat} {p : Pos} {env : PySem.Env} (h : notTup e = true) : swappedStores [.Tuple xs k p] e env = pure none := by
  cases e <;> first | rfl | cases h
theorem s_asgT (g : Good I Γ O X) (hfn : ∀ x, X.fn x = true) {is : List Nat} {e : E} {v : Expr} {xs : List Expr} {k : Nat} {p sp : Pos} (h : mNms true X.N X.env.scope is xs = true) (he : PE X v (tE Γ O W e)) (hn : notTup v = true) : PS X (.Assign [.Tuple xs k p] v sp) (tS Γ W O (.asgT is e)) := by
  refine PS.imp (ps_asg he (s_pat (Γ := Γ) g.nd g.calm (b := true) (fun _ => hfn) (p := .many is) (tg := .Tuple xs k p) h) swap_tup (stores_tup hn) rfl) ?_
  rintro D σ H ⟨π, ρ, G, F, R0, h⟩
  rw [exec] at h
  refine ⟨π, ρ, G, F, R0, h.ctlA fun r ρ1 G1 H1 v e1 R1 rr n1 h1 => ?_⟩
  obtain ⟨d, ρ2, G2, e2, R2, rd, h2⟩ := h1.capt R1 n1 rr
  obtain ⟨ρ3, e3, k3⟩ := PostC.nxO (σ := σ) h2
  exact ⟨π, ρ2, G2, F, d, ρ3, R2, rd, e3, fun σ' R' _ _ => k3 G2 H1 σ' (Ex.refl _) R'⟩
end VI
/-! VI, soundness: raise, try -/
namespace VI
open PySem L2
variable {I : Inf} {Γ : Tab} {O : Orc} {W : WX} {X : Cx} {π : Pins} {F : Hp}
theorem asG {es : Es} {ρ : VI.Env} {G H : Hp} {σ : L2.St} {D : Ends} {k : List Dat → VI.Env → Ctl} (R0 : Rel Γ π ρ G F σ H) (h : PostC Γ W π F G D ((evalAs O es ρ).ctl fun rs ρ1 => (capts rs ρ1).ctl k)) {t : List V → Hp → Prop}
    (ht : ∀ rs ρ1 ρ2 G3 H1 vs ds, evalAs O es ρ = .ok rs ρ1 → capts rs ρ1 = .ok ds ρ2 → Rel Γ π ρ2 G3 F σ H1 → RL Γ G3 vs ds → PostC Γ W π F G3 D (k ds ρ2) → t vs H1) : tAs Γ O W es σ H t := by
  refine ⟨π, ρ, G, F, R0, ?_⟩
  cases he : evalAs O es ρ with
  | bad => rw [he] at h; exact h
  | exc c xs ρ1 => rw [he] at h; exact fun G' H' dd e R1 ex => h G' H' σ dd e R1 ex
  | ok rs ρ1 =>
    rw [he, ctl_ok] at h
    intro G1 H1 F1 vs e1 R1 ar
    obtain ⟨G2, e2, R2, _, a2⟩ := ar.settle R1
    cases hc : capts rs ρ1 with
    | bad => rw [hc] at h; exact h.elim
    | exc c xs ρ2 =>
      exfalso
      have no : ∀ {rs : List Res} {ρ : VI.Env}, capts rs ρ ≠ .exc c xs ρ2 := by
        intro rs
        induction rs with
        | nil => intro ρ z; cases z
        | cons r rs ih =>
          intro ρ z
          rw [capts] at z
          cases h1 : capt r ρ with
          | bad => rw [h1] at z; cases z
          | exc c' xs' ρ' => exact absurd h1 capt_no_exc
          | ok d ρ' =>
            rw [h1, seq_ok] at z
            cases h2 : capts rs ρ' with
            | bad => rw [h2] at z; cases z
            | exc c' xs' ρ'' => rw [h2] at z; cases z; exact ih h2
            | ok ds ρ'' => rw [h2] at z; cases z
      exact no hc
    | ok ds ρ2 =>
      rw [hc, ctl_ok] at h
      obtain ⟨G3, e3, R3, rl⟩ := ArgR.capts R2 (fun r hr => by obtain ⟨x, _, rfl⟩ := List.mem_map.mp hr; exact settle_nf x) a2 (by rw [capts_settle]; exact hc)
      exact ht rs ρ1 ρ2 G3 H1 vs ds he hc R3 rl (PostC.mono ((e1.trans e2).trans e3) h)
def esLen : Es → Nat
  | .nil => 0
  | .cons _ es => esLen es + 1
theorem evalAs_len : ∀ {es : Es} {ρ ρ' : VI.Env} {rs : List Res}, evalAs O es ρ = .ok rs ρ' → rs.length = esLen es
  | .nil, ρ, ρ', rs, h => by rw [evalAs] at h; cases h; rfl
  | .cons e es, ρ, ρ', rs, h => by
    rw [evalAs] at h
    cases h1 : evalE O e ρ with
    | bad => rw [h1] at h; cases h
    | exc c xs ρ1 => rw [h1] at h; cases h
    | ok r ρ1 =>
      rw [h1, seq_ok] at h
      cases h2 : evalAs O es ρ1 with
      | bad => rw [h2] at h; cases h
      | exc c xs ρ2 => rw [h2] at h; cases h
      | ok rs2 ρ2 =>
        rw [h2, seq_ok] at h
        cases h
        simp [esLen, evalAs_len h2]
theorem capts_len : ∀ {rs : List Res} {ρ ρ' : VI.Env} {ds : List Dat}, capts rs ρ = .ok ds ρ' → ds.length = rs.length
  | [], ρ, ρ', ds, h => by rw [capts] at h; cases h; rfl
  | r :: rs, ρ, ρ', ds, h => by
    rw [capts] at h
    cases h1 : capt r ρ with
    | bad => rw [h1] at h; cases h
    | exc c xs ρ1 => rw [h1] at h; cases h
    | ok d ρ1 =>
      rw [h1, seq_ok] at h
      cases h2 : capts rs ρ1 with
      | bad => rw [h2] at h; cases h
      | exc c xs ρ2 => rw [h2] at h; cases h
      | ok ds2 ρ2 =>
        rw [h2, seq_ok] at h
        cases h
        simp [capts_len h2]
theorem zip_lookup : ∀ (fs : List Str) (us : List V), fs.Nodup → us.length = fs.length → ∀ (k : Nat) (n : Str) (v : V), fs[k]? = some n → us[k]? = some v → (fs.zip us).reverse.lookup n = some v
  | [], _, _, _, k, n, v, h, _ => by simp at h
  | f :: fs, [], _, hl, _, _, _, _, _ => by simp at hl
  | f :: fs, u :: us, nd, hl, k, n, v, h1, h2 => by
    have nd' := List.nodup_cons.mp nd
    have hl' : us.length = fs.length := by simpa using hl
    rw [List.zip_cons_cons, List.reverse_cons, List.lookup_append]
    cases k with
    | zero =>
      simp at h1 h2
      subst h1 h2
      have : (fs.zip us).reverse.lookup f = none := by
        rw [List.lookup_eq_none_iff]
        intro p hp
        have hp := List.mem_reverse.mp hp
        have : p.1 ∈ fs := (List.of_mem_zip hp).1
        have ne : p.1 ≠ f := fun z => nd'.1 (z ▸ this)
        simpa using Ne.symm ne
      rw [this]
      simp [List.lookup]
    | succ k =>
      rw [zip_lookup fs us nd'.2 hl' k n v (by simpa using h1) (by simpa using h2)]
      rfl
theorem s_rse (g : Good I Γ O X) (tk : Takes X W) {c : Nat} {es : Es} {x : Str} {fs : List Str} {y : Expr} {ys : List Expr} {p pos pos2 : Pos} (hc : I.exn[c]? = some (x, fs)) (hg : glb X.env.scope x = true) (hs : PA X (y :: ys) (tAs Γ O W es)) (hst : (y :: ys).all notStar = true)
    (hl : esLen es = fs.length) : PS X (.Raise (some (.Call (.Name x p) (y :: ys) [] pos)) none pos2) (tS Γ W O (.rse c es)) := by
  have D := g.ex c x fs hc
  obtain ⟨fI, fd, ps, h1, h2, h3, h4, F1⟩ := ini_ok (P := X.prog) (w := X.w) (base := X.base) D
  have h5 : notStar y = true ∧ ys.all notStar = true := by simpa using hst
  refine PS.imp (ps_raise g.calm tk (pmk_oex (CX := CX0) (ds := []) (dvs := []) D.oc h1 h2 F1 g.rm h3 .nil (fun _ _ _ _ _ _ _ z => z.elim) (glb_ok hg) D.hm hs D.hx (star_cons h5.1) (star_any h5.2))) ?_
  rintro D' σ H ⟨π, ρ, G, F, R0, h⟩
  rw [exec] at h
  refine asG R0 h fun rs ρ1 ρ2 G3 H1 vs ds e1 e2 R3 rl h6 => ?_
  have hlen : vs.length = fs.length := by rw [rl.1, capts_len e2, evalAs_len e1, hl]
  refine ⟨by rw [hlen]; have := D.nz; omega, fun a ha => ⟨a, vs, by rw [List.append_nil], hlen, upd_same, fun dx H2 n ne E => ⟨rfl, dx, _, E.at_, E.dt, ?_, ?_⟩⟩⟩
  · rw [upd_ne ne] at n
    exact n
  · rw [upd_ne ne] at n
    have eH : upd (del H2 a) dx (.xd (fs.zip vs).reverse) = upd H1 dx (.xd (fs.zip vs).reverse) := by
      funext b
      by_cases z : b = dx
      · subst z; rw [upd_same, upd_same]
      · rw [upd_ne z, upd_ne z]
        by_cases w : b = a
        · subst w; rw [del_same, ha]
        · rw [del_ne w, E.rest b w z, upd_ne w]
    rw [eH]
    have w := grow_new R3.g (o := .xd (fs.zip vs).reverse) n
    refine h6 G3 _ σ dx (Ex.refl _) (R3.grow w) ⟨by rw [D.xf]; exact D.n0, _, upd_same, fun k d hk => ?_⟩
    obtain ⟨v, hv, rv⟩ := rl.get hk
    have hk' : k < fs.length := by
      rw [← hlen]
      exact (List.getElem?_eq_some_iff.mp hv).1
    refine ⟨fs[k], v, by rw [D.xf]; exact List.getElem?_eq_getElem hk', zip_lookup fs vs D.nd hlen k _ v (List.getElem?_eq_getElem hk') hv, rv⟩
/-- a, b = x, y: how the stores go -/
def parOk (px py : Pos) (a b : Expr) : Bool := px.line == py.line && notStar a && notStar b && !([a, b].all (foldedForSure 8)) && !([a, b].all (constantsAlone 8))
theorem par_stores {x y : Str} {a b : Expr} {px py pt pt2 : Pos} {kt k2 : Nat} {env : PySem.Env} (hk : env.scope.kind = .function) (hx : env.scope.names.lookup x = some .local) (hy : env.scope.names.lookup y = some .local) (hxy : x ≠ y) (h : parOk px py a b = true) :
    swappedStores [.Tuple [.Name x px, .Name y py] kt pt] (.Tuple [a, b] k2 pt2) env = pure (some [x, y]) := by
  unfold parOk at h
  simp only [Bool.and_eq_true, beq_iff_eq, Bool.not_eq_true'] at h
  obtain ⟨⟨⟨⟨h1, h2⟩, h3⟩, h4⟩, h5⟩ := h
  have kb : env.blockKind = .function := by unfold PySem.Env.blockKind; rw [hk]; rfl
  have kx : env.kindOf x = some .local := hx
  have ky : env.kindOf y = some .local := hy
  have dd : ([x, y] : List Str).eraseDups = [x, y] := by
    have : (y == x) = false := by simpa using Ne.symm hxy
    simp [List.eraseDups_cons, this]
  unfold swappedStores
  dsimp only
  have fm : ∀ f : Expr → Option Str, f (.Name x px) = some x → f (.Name y py) = some y → List.filterMap f [.Name x px, .Name y py] = [x, y] := fun f p q => by simp [p, q]
  have an : ∀ f : Expr → Bool, (∀ e, notStar e = true → f e = false) → [a, b].any f = false := fun f hf => by simp [hf a h2, hf b h3]
  rw [if_neg (by simp [kb]), if_neg (by rw [an _ fun e q => by cases e <;> first | rfl | cases q]; simp)]
  rw [fm _ (by show (if (env.kindOf x == some .local && px.line == px.line) = true then some x else none) = some x; rw [kx]; simp) (by show (if (env.kindOf y == some .local && py.line == px.line) = true then some y else none) = some y; rw [ky, h1]; simp), dd]
  rw [if_neg (by simp), if_neg (by rw [h4]; simp), if_neg (by rw [h5]; simp)]
theorem s_par (g : Good I Γ O X) (hk : X.env.scope.kind = .function) {i j : Nat} {es : Es} {x y : Str} {a b : Expr} {px py pt pos pt2 : Pos} {kt k2 : Nat} (hi : X.N[i]? = some x) (hj : X.N[j]? = some y) (hij : i ≠ j) (hx : X.env.scope.names.lookup x = some .local) (hy : X.env.scope.names.lookup y = some .local)
    (hs : PA X [a, b] (tAs Γ O W es)) (h : parOk px py a b = true) : PS X (.Assign [.Tuple [.Name x px, .Name y py] kt pt] (.Tuple [a, b] k2 pt2) pos) (tS Γ W O (.par i j es)) := by
  have hxy : x ≠ y := fun z => by
    subst z
    exact hij (nodup_ix g.nd hi hj)
  refine PS.imp (ps_par g.calm g.nd hi hj hij hx hy hs (par_stores hk hx hy hxy h) swap_tup) ?_
  rintro D σ H ⟨π, ρ, G, F, R0, q⟩
  rw [exec] at q
  refine asG R0 q fun rs ρ1 ρ2 G3 H1 vs ds e1 e2 R3 rl q2 => ?_
  have hl := rl.1
  split at q2
  · rename_i d e
    match vs, hl with
    | [v, w], _ =>
      obtain ⟨ρ3, e3, k⟩ := PostC.nxO (σ := σ) q2
      cases e4 : setS i (.imm d) ρ2 with
      | none => rw [e4] at e3; cases e3
      | some ρ4 =>
        rw [e4] at e3
        have e3 : setS j (.imm e) ρ4 = some ρ3 := e3
        obtain ⟨t1, h1, h2, rfl⟩ := setS_some e4
        have R4 := R3.put (v := v) h1 h2 (.inr ⟨d, rfl, rl.head⟩)
        obtain ⟨t2, h3, h4, rfl⟩ := setS_some e3
        have R5 := R4.put (v := w) h3 h4 (.inr ⟨e, rfl, rl.tail.head⟩)
        exact ⟨v, w, rfl, k G3 H1 _ (Ex.refl _) R5⟩
  · exact q2.elim
end VI
/-! VI: try with several clauses, each with a name -/
namespace VI
open PySem L2
abbrev Suite := Addr → Value → Option Addr → TS
/-- behind the suite the name at i is gone -/
def goneD (i : Nat) (D : Ends) : Ends := { nx := fun σ' H' => D.nx (σ'.set i none) H', rt := D.rt, bk := fun σ' H' => D.bk (σ'.set i none) H', ct := fun σ' H' => D.ct (σ'.set i none) H' }
/-- what the clauses want of an exception -/
def wHs (K : PySem.W.Frag) (Wo : WX) (D : Ends) : List (Value × Nat × Suite) → WX
  | [] => Wo
  | q :: r => fun cls d σ H => ∃ b, PySem.W.exmOne K cls q.1 = some b ∧ (b = true → ∀ a, H a = none → q.2.2 a cls d (goneD q.2.1 D) (σ.set q.2.1 (some (.ref a))) H) ∧ (b = false → wHs K Wo D r cls d σ H)
inductive HdsN (X : Cx) : List ExceptHandler → List (Value × Nat × Suite) → Prop
  | nil : HdsN X [] []
  | cons {x n : Str} {c : Value} {i : Nat} {ts : Suite} {s0 : Stmt} {ss : List Stmt} {np np' : Pos} {hds : List ExceptHandler} {l : List (Value × Nat × Suite)} (hc : Names X x c) (hi : X.N[i]? = some n) (hn : X.env.kindOf n = some .local)
      (hsu : ∀ (a : Addr) (oe : Obj) (cls : Value) (d : Option Addr) (pn : List (Addr × Obj)), Zc cls d oe → (∃ vs, oe.data = .fields vs) → PSs (X.suite a ((a, oe) :: pn)) (s0 :: ss) (ts a cls d)) (r : HdsN X hds l) :
      HdsN X (.ExceptHandler (some (.Name x np)) (some n) (s0 :: ss) np' :: hds) ((c, i, ts) :: l)
section
variable {X : Cx} {body : List Stmt} {k0 : ExceptHandler} {ks : List ExceptHandler} {l : List (Value × Nat × Suite)} {pos : Pos} {tb : WX → TS} {Wo : WX}
theorem ps_try_hs (stk : X.stack = X.env :: X.outer) (frm : X.env.frame = some X.env.locals) (nd : X.N.Nodup) (tk : Takes X Wo)
    (hb : ∀ (W : WX) (pn : List (Addr × Obj)) (xe : Value → Shared → Prop), Takes (X.tr pn xe) W → PassesOwn (model X.prog X.w) X.A X.env xe → PSs (X.tr pn xe) body (tb W))
    (hh : HdsN X (k0 :: ks) l) : PS X (.Try body (k0 :: ks) [] [] pos) (fun D σ H => tb (wHs X.K Wo D l) D σ H) := by
  constructor
  intro pins s σ H D Jn want
  have good := Jn.ok
  have frames : X.A.frames = some (X.env :: X.outer) := by rw [good.frames, stk]
  refine wpAny_Try_except ?_
  have run := (hb (wHs X.K Wo D l) (X.pn ++ pins)
    (fun e t1 => wpAny (model X.prog X.w) X.A (noteFrame e X.env) (fun _ t2 => wpAny (model X.prog X.w) X.A (setFlight e none) (fun _ t3 => wpAny (model X.prog X.w) X.A (handleBy e X.env (k0 :: ks)) (SP X pins D) X.xe t3) X.xe t2) X.xe t1)
    (fun u t caught => ?_) PassesOwn.looking).run [] s σ H D (Jn.toTry _) want
  · refine wpAny_mono run (fun f t ends => ?_) (fun _ _ z => z)
    cases f with
    | next =>
      obtain ⟨σ2, H2, J2, q⟩ := ends
      exact wpAny_execs_nil ⟨σ2, H2, J2.ofTry good, q⟩
    | brk =>
      obtain ⟨σ2, H2, J2, q⟩ := ends
      exact ⟨σ2, H2, J2.ofTry good, q⟩
    | cont =>
      obtain ⟨σ2, H2, J2, q⟩ := ends
      exact ⟨σ2, H2, J2.ofTry good, q⟩
    | ret u =>
      obtain ⟨v, σ2, H2, J2, r, q⟩ := ends
      exact ⟨v, σ2, H2, J2.ofTry good, r, q⟩
  · obtain ⟨a, B, sI, ps, σ2, H2, cls, d, rfl, J0, nb, up, sky, na, os, ag, w⟩ := caught
    have J : Inv X pins σ2 H2 sI := J0.ofTry good
    have air : Sky B (X.env :: X.outer) a (Zc cls d) X.env.locals t.heap := by rw [← stk]; exact sky
    show wpAny (model X.prog X.w) X.A (noteFrame (.ref a) X.env) _ _ _
    refine Sky.land Zc.steady frames frm air fun g3 fl3 up3 => ?_
    have J3 : Inv X pins σ2 H2 { t with heap := g3 } := J.landed nb fl3.1 (up.trans up3) os ag
    obtain ⟨o3, w3, at3, z3, dt3⟩ := fl3.there
    have out : ∀ L ∈ frs (X.env :: X.outer), a ≠ L := fun L hm z => by
      subst z
      obtain ⟨_, o', e', hnf⟩ := fl3.2.2.1.mem hm
      rw [at3] at e'; cases e'
      exact hnf _ dt3
    have aL : a ≠ X.env.locals := out _ (List.mem_filterMap.mpr ⟨X.env, List.mem_cons_self, frm⟩)
    have aF : a ∉ X.fs := fun hm => by
      obtain ⟨e, he, q⟩ := List.mem_filterMap.mp hm
      exact out a (List.mem_filterMap.mpr ⟨e, List.mem_cons_of_mem _ he, q⟩) rfl
    have inS := J3.suite at3 dt3 na aL aF
    have all : ∀ {kk : List ExceptHandler} {ll : List (Value × Nat × Suite)}, HdsN X kk ll → wHs X.K Wo D ll cls d σ2 H2 → wpAny (model X.prog X.w) X.A (handleBy (.ref a) X.env kk) (SP X pins D) X.xe { t with heap := g3 } := by
      intro kk ll hk
      induction hk with
      | nil =>
        intro w
        refine wpAny_handleBy_nil ?_
        obtain ⟨_, _, _, oe, vs, T, oT, tf, he, hz, hd, h1, hr⟩ := id fl3
        unfold PySem.passOn
        refine wpAny_bind (wpAny_field he hd h1 ?_)
        have ne : ¬ ((Value.ref T == Value.none) = true) := by simp
        rw [if_neg ne]
        have last : wpAny (model X.prog X.w) X.A (setFlight (.ref a) X.env.frame) (fun _ t4 => wpAny (model X.prog X.w) X.A (throw (.ref a) : Sem Flow) (SP X pins D) X.xe t4) X.xe { t with heap := g3 } := by
          rw [frm]
          refine HandSPX.setFlight_upZ fl3 fun g4 hh4 up4 => wpAny_throw (tk _ _ ⟨a, B, sI, pins, σ2, H2, cls, d, rfl, J, nb, (up.trans up3).trans up4, .inr (.inr (by rw [stk]; exact hh4)), na, os, ag, w⟩)
        first
          | exact wpAny_bind (wpAny_pure (wpAny_bind last))
          | exact wpAny_bind last
      | @cons x n c i ts s0 ss np np' hds l2 hc hi hn hsu r ih =>
        intro w
        obtain ⟨b, hb1, yes, no⟩ := w
        refine wpAny_handleBy_cons (codeAny_handlers_test ?_) (by intro q; cases q)
        have what : PySem.W.Looks (model X.prog X.w) g3 (typeOf (.ref a)) cls := fun A Q E s k q => wpAny_typeOf_ref (k _ _ at3) (by rw [z3.1]; exact q)
        have asks := PySem.W.exm_one (M := model X.prog X.w) (J3.kIn) what hb1
        have name : ∀ {Q : Value → Shared → Prop} {E : Value → Shared → Prop}, Q c { t with heap := g3 } → wpAny (model X.prog X.w) (X.A.mark (some (.ref a))) (eval (.Name x np) X.env) Q E { t with heap := g3 } := fun {Q E} q => by
          obtain ⟨hg, hdb, hm | ⟨hm, hv, hnn⟩⟩ := hc
          · exact ld_glob (X := X.suite a ((a, o3) :: (X.pn ++ pins))) inS hg hm q hdb
          · exact ld_blt (X := X.suite a ((a, o3) :: (X.pn ++ pins))) inS hg hm hv q hnn hdb
        refine name (asks.here ?_)
        cases b with
        | false =>
          show wpAny _ X.A (handleBy (.ref a) X.env hds) _ _ _
          exact ih (no rfl)
        | true =>
          refine codeAny_handlers_suite_as ?_
          refine HandSPX.lands_againZ fl3 fun g4 fl4 up4 => ?_
          have J4 : Inv X pins σ2 H2 { t with heap := g4 } := J.landed nb fl4.1 ((up.trans up3).trans up4) os ag
          obtain ⟨o4, w4, at4, z4, dt4⟩ := fl4.there
          have S4 := J4.suite at4 dt4 na aL aF
          refine store_ok (X := X.suite a ((a, o4) :: (X.pn ++ pins))) (v := .ref a) S4 nd hi (.inl hn) rfl (fun t5 S5 => ?_) (.inr hn)
          refine wpAny_mono ((hsu a o4 cls d (X.pn ++ pins) z4 ⟨_, dt4⟩).run [] t5 _ H2 _ S5 (yes rfl a na)) (fun f t6 ends => ?_) (fun _ _ z => False.elim z)
          have goes : ∀ {σ6 : L2.St} {H6 : Hp} {Q : Shared → Prop}, Inv (X.suite a ((a, o4) :: (X.pn ++ pins))) [] σ6 H6 t6 → (∀ t7, Inv X pins (σ6.set i none) H6 t7 → Q t7) →
              wpAny (model X.prog X.w) X.A (do bindName X.env n .none; unbindBehindTheSuite X.env n np') (fun _ t7 => Q t7) X.xe t6 := fun {σ6 H6 Q} S6 q => gone_ok (S6.unsuite good) nd hi hn q
          cases f with
          | next =>
            obtain ⟨σ6, H6, S6, q6⟩ := ends
            exact goes S6 fun t7 J7 => ⟨_, _, J7, q6⟩
          | brk =>
            obtain ⟨σ6, H6, S6, q6⟩ := ends
            exact goes S6 fun t7 J7 => ⟨_, _, J7, q6⟩
          | cont =>
            obtain ⟨σ6, H6, S6, q6⟩ := ends
            exact goes S6 fun t7 J7 => ⟨_, _, J7, q6⟩
          | ret u =>
            obtain ⟨v6, σ6, H6, S6, r6, q6⟩ := ends
            exact goes S6 fun t7 J7 => ⟨_, _, _, J7, r6, q6⟩
    exact all hh w
end
end VI
/-! VI, soundness: the clauses of a try -/
namespace VI
open PySem L2
variable {I : Inf} {Γ : Tab} {O : Orc} {W : WX} {X : Cx} {F : Hp}
mutual
def mH (I : Inf) (hc : Nat) (N : List Str) (sc : Scope) (fs : List Str) (en : Str) : HE → Expr → Bool
  | .cst d, y => match y with
    | .Constant c _ _ => mC d c
    | _ => false
  | .fld k, y => match y with
    | .Attribute (.Name z _) f _ => decide (z = en) && decide (fs[k]? = some f)
    | _ => false
  | .var j, y => match y with
    | .Name z _ => isVar N sc j z
    | _ => false
  | .tup es, y => match y with
    | .Tuple xs _ _ => mHl I hc N sc fs en es xs
    | _ => false
  | .lst es, y => match y with
    | .List xs _ => mHl I hc N sc fs en es xs
    | _ => false
  | .eq a b, y => match y with
    | .Compare l [.Eq] [r] _ => mH I hc N sc fs en a l && mH I hc N sc fs en b r && noSet r
    | _ => false
  | .isn c b, y => match y with
    | .Call (.Name w _) [.Name z _, .Name v _] [] _ => decide (w = "isinstance") && glb sc w && decide (z = en) && decide ((I.exn[c]?).map (·.1) = some v) && glb sc v && decide (b = decide (hc = c))
    | _ => false
  | .orr a b, y => match y with
    | .BoolOp .Or [l, r] _ => mH I hc N sc fs en a l && mH I hc N sc fs en b r
    | _ => false
def mHl (I : Inf) (hc : Nat) (N : List Str) (sc : Scope) (fs : List Str) (en : Str) : HEs → List Expr → Bool
  | .nil, ys => ys.isEmpty
  | .cons e es, ys => match ys with
    | x :: xs => notStar x && mH I hc N sc fs en e x && mHl I hc N sc fs en es xs
    | [] => false
end
/-- what stands while a clause's suite runs: the exception at a, in slot i -/
structure HOk (Γ : Tab) (h i : Nat) (a : Addr) (cls : Value) (d : Option Addr) (xs : List Dat) (π : Pins) (ρ : VI.Env) (G F : Hp) (σ : L2.St) (H : Hp) : Prop where
  rel : Rel Γ π ρ G F σ H
  at_ : σ[i]? = some (some (V.ref a))
  cl : cls = .ref (Γ.exc h)
  ex : ∃ dd, d = some dd ∧ ExcR Γ G H h xs dd
theorem ExcR.grow {G H G' H' : Hp} {c : Nat} {xs : List Dat} {dd : Addr} (x : ExcR Γ G H c xs dd) (g : Ex G H) (w : Grow G H G' H') : ExcR Γ G' H' c xs dd := by
  obtain ⟨n, fs, e, k⟩ := x
  refine ⟨n, fs, ?_, fun j d hj => ?_⟩
  · cases q : G dd with
    | none => exact (w.k dd _ e q).1
    | some u =>
      have := g dd u q
      rw [e] at this; cases this
      exact w.g dd _ (w.e dd _ q)
  · obtain ⟨m, v, h1, h2, r⟩ := k j d hj
    exact ⟨m, v, h1, h2, r.mono w.e⟩
theorem HOk.grow {h i : Nat} {a : Addr} {cls : Value} {d : Option Addr} {xs : List Dat} {π : Pins} {ρ : VI.Env} {G F H G' H' : Hp} {σ : L2.St} (x : HOk Γ h i a cls d xs π ρ G F σ H) (w : Grow G H G' H') : HOk Γ h i a cls d xs π ρ G' F σ H' := by
  obtain ⟨dd, e, z⟩ := x.ex
  exact ⟨x.rel.grow w, x.at_, x.cl, dd, e, z.grow x.rel.g w⟩
def tH (Γ : Tab) (h i : Nat) (a : Addr) (cls : Value) (d : Option Addr) (e : HE) : TE := fun σ H Q => ∃ xs π ρ G F r, HOk Γ h i a cls d xs π ρ G F σ H ∧ hev xs ρ e = some r ∧ ∀ G' H' v, Grow G H G' H' → R Γ G' v r → Q v H'
def tHl (Γ : Tab) (h i : Nat) (a : Addr) (cls : Value) (d : Option Addr) (es : HEs) : TA := fun σ H Q => ∃ xs π ρ G F rs, HOk Γ h i a cls d xs π ρ G F σ H ∧ hevs xs ρ es = some rs ∧ ∀ G' H' vs, Grow G H G' H' → RL Γ G' vs rs → Q vs H'
section
variable {h i : Nat} {a : Addr} {oe : Obj} {cls : Value} {d : Option Addr} {pn : List (Addr × Obj)} {x en : Str} {fs : List Str}
theorem h_cst {r : Dat} {c : Const} {k : Nat} {p : Pos} (hm : mC r c = true) {X' : Cx} : PE X' (.Constant c k p) (tH Γ h i a cls d (.cst r)) := by
  have fin : ∀ {v : V}, (∀ G, R Γ G v r) → ∀ σ H Q, tH Γ h i a cls d (.cst r) σ H Q → Q v H := by
    rintro v rr σ H Q ⟨xs, π, ρ, G, F, r', k, e, q⟩
    cases e
    exact q G H v (Grow.refl k.rel.g) (rr G)
  unfold mC at hm
  split at hm
  · exact PE.imp pe_non (fin fun _ => .non)
  · cases (beq_iff_eq.mp hm); exact PE.imp pe_bl (fin fun _ => .bl _)
  · cases (of_decide_eq_true hm); exact PE.imp pe_int (fin fun _ => .int _)
  · cases (of_decide_eq_true hm); exact PE.imp pe_str (fin fun _ => .str _)
  · cases hm
theorem h_var {X' : Cx} {j : Nat} {z : Str} {p : Pos} (hm : isVar X'.N X'.env.scope j z = true) : PE X' (.Name z p) (tH Γ h i a cls d (.var j)) := by
  obtain ⟨h1, h2, h3⟩ := isVar_ok hm
  unfold nmOk at h3
  simp only [Bool.and_eq_true, Bool.not_eq_true'] at h3
  have hv : Vis X'.env.scope z := by
    unfold vis at h2
    split at h2
    · rename_i e; exact .inl e
    · rename_i e; exact .inr (.inl e)
    · rename_i e; exact .inr (.inr e)
    · cases h2
  refine PE.imp (pe_var h1 hv h3.1.1 h3.1.2) ?_
  rintro σ H Q ⟨xs, π, ρ, G, F, r', k, e, q⟩
  unfold hev at e
  split at e
  · rename_i dj ej
    cases e
    obtain ⟨v, e1, rr⟩ := k.rel.imm ej
    exact ⟨v, e1, q G H v (Grow.refl k.rel.g) rr⟩
  · cases e
theorem h_tup {X' : Cx} {es : HEs} {ys : List Expr} {k : Nat} {p : Pos} (hs : PA X' ys (tHl Γ h i a cls d es)) : PE X' (.Tuple ys k p) (tH Γ h i a cls d (.tup es)) := by
  refine PE.imp (pe_tup hs) ?_
  rintro σ H Q ⟨xs, π, ρ, G, F, r', k, e, q⟩
  unfold hev at e
  split at e
  · rename_i ds eds
    refine ⟨xs, π, ρ, G, F, ds, k, eds, fun G' H' vs w rl => ?_⟩
    cases hl : decide (ds.length ≤ 16777216) with
    | false => rw [hl] at e; cases e
    | true =>
      rw [hl] at e
      cases e
      refine ⟨by rw [rl.1]; exact of_decide_eq_true hl, fun p hp => ?_⟩
      have w2 := grow_imm w.g (o := .tup vs) hp
      exact q _ _ (.ref p) (w.trans w2) (r0_tup w.g hp rl)
  · cases e
theorem h_lst {X' : Cx} {es : HEs} {ys : List Expr} {p : Pos} (hs : PA X' ys (tHl Γ h i a cls d es)) : PE X' (.List ys p) (tH Γ h i a cls d (.lst es)) := by
  refine PE.imp (pe_lst hs) ?_
  rintro σ H Q ⟨xs, π, ρ, G, F, r', k, e, q⟩
  unfold hev at e
  split at e
  · rename_i ds eds
    refine ⟨xs, π, ρ, G, F, ds, k, eds, fun G' H' vs w rl => ?_⟩
    cases hl : decide (ds.length ≤ 16777216) with
    | false => rw [hl] at e; cases e
    | true =>
      rw [hl] at e
      cases e
      refine ⟨by rw [rl.1]; exact of_decide_eq_true hl, fun p hp => ?_⟩
      have w2 := grow_imm w.g (o := .lst vs) hp
      exact q _ _ (.ref p) (w.trans w2) (.lst (.inl (.inl upd_same)) rl.1 fun j v dj h1 h2 => (rl.2 j v dj h1 h2).mono w2.e)
  · cases e
theorem h_nil {X' : Cx} : PA X' [] (tHl Γ h i a cls d .nil) := by
  refine PA.imp pa_nil ?_
  rintro σ H Q ⟨xs, π, ρ, G, F, r', k, e, q⟩
  unfold hevs at e
  cases e
  exact q G H [] (Grow.refl k.rel.g) RL.nil
theorem h_cons {X' : Cx} {e : HE} {es : HEs} {y : Expr} {ys : List Expr} (hst : notStar y = true) (he : PE X' y (tH Γ h i a cls d e)) (hs : PA X' ys (tHl Γ h i a cls d es)) : PA X' (y :: ys) (tHl Γ h i a cls d (.cons e es)) := by
  refine PA.imp (pa_cons he hs (star_cons hst)) ?_
  rintro σ H Q ⟨xs, π, ρ, G, F, r', k, e0, q⟩
  unfold hevs at e0
  split at e0
  · rename_i r rs e1 e2
    cases e0
    refine ⟨xs, π, ρ, G, F, r, k, e1, fun G1 H1 v w1 rv => ⟨xs, π, ρ, G1, F, rs, k.grow w1, e2, fun G2 H2 vs w2 rl => ?_⟩⟩
    exact q G2 H2 (v :: vs) (w1.trans w2) (RL.cons (rv.mono w2.e) rl)
  · cases e0
theorem h_eq {X' : Cx} (hu : X'.A.units + 200 < cLine) (gk : X'.K = Γ.K) {e1 e2 : HE} {l r : Expr} {p : Pos} (ha : PE X' l (tH Γ h i a cls d e1)) (hb : PE X' r (tH Γ h i a cls d e2)) (hr : noSet r = true) : PE X' (.Compare l [.Eq] [r] p) (tH Γ h i a cls d (.eq e1 e2)) := by
  refine PE.imp (pe_cmpR (op_co (by omega) .eq) ha hb (marks_no hr)) ?_
  rintro σ H Q ⟨xs, π, ρ, G, F, r', k, e0, q⟩
  unfold hev at e0
  split at e0
  · rename_i x y hx hy
    refine ⟨xs, π, ρ, G, F, x, k, hx, fun G1 H1 v w1 rv => ⟨xs, π, ρ, G1, F, y, k.grow w1, hy, fun G2 H2 u w2 ru => ?_⟩⟩
    cases hq : eqD x y with
    | none => rw [hq] at e0; cases e0
    | some b =>
      rw [hq] at e0
      cases e0
      refine cmp_op2 .eq gk G2 H2 v u x y (.imm (.bl b)) Q w2.g (.inl (rv.mono w2.e)) (.inl ru) ?_ fun G3 H3 z w3 rz => ?_
      · show (cmpB .eq x y).map _ = _
        show (eqD x y).map _ = _
        rw [hq]
        rfl
      · exact q G3 H3 z ((w1.trans w2).trans w3) rz
  · cases e0
theorem h_fld {k : Nat} {f z : Str} {p1 p2 : Pos} (D : ExDef Γ X.K X.mg h x fs) (hz : Zc cls d oe) (hf : ∃ vs, oe.data = .fields vs) (hi : X.N[i]? = some en) (hn : nmOk en = true) (hv : X.env.scope.names.lookup en = some .local) (h1 : z = en) (h2 : fs[k]? = some f) :
    PE (X.suite a ((a, oe) :: pn)) (.Attribute (.Name z p1) f p2) (tH Γ h i a cls d (.fld k)) := by
  subst h1
  unfold nmOk at hn
  simp only [Bool.and_eq_true, Bool.not_eq_true'] at hn
  refine PE.imp (pe_xf D.xc (D.no f (List.mem_of_getElem? h2)) hz hf (pe_var hi (.inl hv) hn.1.1 hn.1.2) rfl) ?_
  rintro σ H Q ⟨xs, π, ρ, G, F, r', k0, e0, q⟩
  unfold hev at e0
  obtain ⟨dd, e1, n, ffs, e2, e3⟩ := k0.ex
  obtain ⟨m, v, e4, e5, rv⟩ := e3 k r' e0
  rw [D.xf, h2] at e4
  cases e4
  exact ⟨.ref a, k0.at_, rfl, k0.cl, dd, ffs, v, e1, e2, e5, q G H v (Grow.refl k0.rel.g) rv⟩
theorem kit_exm {K : PySem.W.Frag} {C D : Addr} {b : Bool} (h : PySem.W.exmOne K (.ref C) (.ref D) = some b) (hb : C = D → b = true) : PySem.W.kitOne K (.ref C) (.ref D) = some b := by
  unfold PySem.W.exmOne at h
  split at h
  · unfold PySem.W.kitOne
    by_cases e : C = D
    · rw [hb e]; subst e; simp
    · rw [if_neg (by simpa using e)]; exact h
  · cases h
/-- isinstance(e, c), e the exception that the suite holds, d its dict -/
def rIsD (K : PySem.W.Frag) (D a : Addr) (d : Option Addr) : RLs := fun xs H Q => ∃ (c : V) (cv : Value) (b : Bool) (dd : Addr) (fs : List (Str × V)), xs = [.ref a, c] ∧ (∀ u, RelV c u → u = cv) ∧ PySem.W.kitOne K (.ref D) cv = some b ∧ d = some dd ∧ H dd = some (.xd fs) ∧ Q (.bl b) H
theorem call_isD {X : Cx} {a D : Addr} {d : Option Addr} {oe : Obj} {pn : List (Addr × Obj)} (T : XfC X.K D) (C : ClsQ X.K D) (hz : Zc (.ref D) d oe) (hf : ∃ vs, oe.data = .fields vs) : CallR (X.suite a ((a, oe) :: pn)) (.builtin "isinstance") (rIsD X.K D a d) := by
  intro pins s σ H xs us Q I r h
  obtain ⟨c, cv, b, dd, fs, rfl, hcv, e, ed, hdd, q⟩ := h
  cases r with
  | cons rx rr =>
    cases rr with
    | cons rt rr =>
      cases rr
      cases rx
      have ec := hcv _ rt
      subst ec
      subst ed
      obtain ⟨hget, _⟩ := I.pin (a, oe) (List.mem_append.mpr (.inl List.mem_cons_self))
      obtain ⟨vs, hv⟩ := hf
      have hx : ObjOk X.prog X.w H s.heap dd (.xd fs) := I.hok dd _ hdd
      obtain ⟨mA, hns, hr⟩ := hx
      obtain ⟨od, ho, hl⟩ := lookIn_ns hns
      have J : PySem.W.InstAt s.heap a oe D (some od) := ⟨hget, hz.1, by unfold PySem.W.notCls; rw [hv] <;> rfl, by rw [hz.2]; exact ho⟩
      have cl : (PySem.W.clsIn X.K D).isSome = true := by
        have h := T.hdC
        unfold PySem.W.hasDictIn at h
        cases q : PySem.W.clsIn X.K D with
        | none => rw [q] at h; cases h
        | some cd => rfl
      exact PySem.W.kia_one (PySem.W.kitx_exc cl T.ga T.gg T.exC C.ha C.hn C.ht C.hm) I.kIn J e (fun z => nomatch z) fun tk => ⟨.bl b, H, I.kept (t' := tk) fun _ _ z => z, rfl, q⟩
theorem h_isn (g : Good I Γ O X) (D : ExDef Γ X.K X.mg h x fs) (hz : Zc cls d oe) (hf : ∃ vs, oe.data = .fields vs) (hi : X.N[i]? = some en) (hn : nmOk en = true) (hv : X.env.scope.names.lookup en = some .local) {c : Nat} {v : Str} {p p1 p2 p3 : Pos}
    (hg : glb X.env.scope "isinstance" = true) (hc : (I.exn[c]?).map (·.1) = some v) (hgv : glb X.env.scope v = true) : PE (X.suite a ((a, oe) :: pn)) (.Call (.Name "isinstance" p) [.Name en p1, .Name v p2] [] p3) (tH Γ h i a cls d (.isn c (decide (h = c)))) := by
  unfold nmOk at hn
  simp only [Bool.and_eq_true, Bool.not_eq_true'] at hn
  obtain ⟨⟨v', fs'⟩, hc1, hc2⟩ := Option.map_eq_some_iff.mp hc
  cases hc2
  have Dc := g.ex c v' fs' hc1
  have q := g.exm h c (by rw [D.xf]; exact D.n0) (List.getElem?_eq_some_iff.mp hc1).1
  refine ⟨fun pins s σ H Q Iv hh => ?_⟩
  obtain ⟨xs, π, ρ, G, F, r', k0, e0, qq⟩ := id hh
  have ecl := k0.cl
  subst ecl
  have ko : PySem.W.kitOne X.K (.ref (Γ.exc h)) (.ref (Γ.exc c)) = some (decide (h = c)) := by
    refine kit_exm q.1 fun e => ?_
    have q2 := (g.exm c c (by rw [Dc.xf]; exact Dc.n0) (List.getElem?_eq_some_iff.mp hc1).1).1
    have q1 := q.1
    rw [e, q2] at q1
    have q3 := Option.some.inj q1
    rw [← q3]; simp
  have CR := call_isD (X := X) (a := a) (pn := pn) D.xc q.2 hz hf
  refine (PE.imp (pe_callB (X := X.suite a ((a, oe) :: pn)) CR (glb_ok hg) (g.bi _ (by decide +kernel)) (by rfl) (pa_cons (pe_var hi (.inl hv) hn.1.1 hn.1.2) (pa_cons (pe_glob (v := .ref (Γ.exc c)) (glb_ok hgv) Dc.hm rfl Dc.hx) pa_nil))) ?_).run pins s σ H Q Iv hh
  rintro σ H Q ⟨xs, π, ρ, G, F, r', k0, e0, qq⟩
  unfold hev at e0
  cases e0
  obtain ⟨dd, e1, n, ffs, e2, e3⟩ := k0.ex
  exact ⟨.ref a, k0.at_, .ref (Γ.exc c), _, _, dd, ffs, rfl, fun u r => r, ko, e1, e2, qq G H _ (Grow.refl k0.rel.g) (.bl _)⟩
theorem h_orr {X' : Cx} {e1 e2 : HE} {l r : Expr} {p : Pos} (ha : PE X' l (tH Γ h i a cls d e1)) (hb : PE X' r (tH Γ h i a cls d e2)) : PE X' (.BoolOp .Or [l, r] p) (tH Γ h i a cls d (.orr e1 e2)) := by
  refine PE.imp (pe_or ha (pe_one hb)) ?_
  rintro σ H Q ⟨xs, π, ρ, G, F, r', k, e0, q⟩
  unfold hev at e0
  split at e0
  · rename_i hx
    cases e0
    refine ⟨xs, π, ρ, G, F, _, k, hx, fun G1 H1 v w1 rv => ?_⟩
    cases rv
    exact ⟨true, rfl, q G1 H1 _ w1 (.bl _)⟩
  · rename_i hx
    refine ⟨xs, π, ρ, G, F, _, k, hx, fun G1 H1 v w1 rv => ?_⟩
    cases rv
    refine ⟨false, rfl, ?_⟩
    exact ⟨xs, π, ρ, G1, F, r', k.grow w1, e0, fun G2 H2 u w2 ru => q G2 H2 u (w1.trans w2) ru⟩
  · cases e0
mutual
theorem hE (g : Good I Γ O X) (D : ExDef Γ X.K X.mg h x fs) (hz : Zc cls d oe) (hf : ∃ vs, oe.data = .fields vs) (hi : X.N[i]? = some en) (hn : nmOk en = true) (hv : X.env.scope.names.lookup en = some .local) :
    (e : HE) → ∀ {y : Expr}, mH I h X.N X.env.scope fs en e y = true → PE (X.suite a ((a, oe) :: pn)) y (tH Γ h i a cls d e)
  | .cst d0, y, hm => by
    unfold mH at hm
    split at hm
    · exact h_cst hm
    · cases hm
  | .fld k, y, hm => by
    unfold mH at hm
    split at hm
    · simp only [Bool.and_eq_true, decide_eq_true_eq] at hm
      exact h_fld D hz hf hi hn hv hm.1 hm.2
    · cases hm
  | .var j, y, hm => by
    unfold mH at hm
    split at hm
    · exact h_var hm
    · cases hm
  | .tup es, y, hm => by
    unfold mH at hm
    split at hm
    · exact h_tup (hEs g D hz hf hi hn hv es hm)
    · cases hm
  | .lst es, y, hm => by
    unfold mH at hm
    split at hm
    · exact h_lst (hEs g D hz hf hi hn hv es hm)
    · cases hm
  | .eq e1 e2, y, hm => by
    unfold mH at hm
    split at hm
    · simp only [Bool.and_eq_true] at hm
      exact h_eq (X' := X.suite a ((a, oe) :: pn)) g.un g.gk (hE g D hz hf hi hn hv e1 hm.1.1) (hE g D hz hf hi hn hv e2 hm.1.2) hm.2
    · cases hm
  | .isn c b, y, hm => by
    unfold mH at hm
    split at hm
    · simp only [Bool.and_eq_true, decide_eq_true_eq] at hm
      obtain ⟨⟨⟨⟨⟨m1, m2⟩, m3⟩, m4⟩, m5⟩, m6⟩ := hm
      subst m1 m3 m6
      exact h_isn g D hz hf hi hn hv m2 m4 m5
    · cases hm
  | .orr e1 e2, y, hm => by
    unfold mH at hm
    split at hm
    · simp only [Bool.and_eq_true] at hm
      exact h_orr (hE g D hz hf hi hn hv e1 hm.1) (hE g D hz hf hi hn hv e2 hm.2)
    · cases hm
theorem hEs (g : Good I Γ O X) (D : ExDef Γ X.K X.mg h x fs) (hz : Zc cls d oe) (hf : ∃ vs, oe.data = .fields vs) (hi : X.N[i]? = some en) (hn : nmOk en = true) (hv : X.env.scope.names.lookup en = some .local) :
    (es : HEs) → ∀ {ys : List Expr}, mHl I h X.N X.env.scope fs en es ys = true → PA (X.suite a ((a, oe) :: pn)) ys (tHl Γ h i a cls d es)
  | .nil, ys, hm => by
    unfold mHl at hm
    cases ys with
    | nil => exact h_nil
    | cons _ _ => cases hm
  | .cons e es, ys, hm => by
    unfold mHl at hm
    split at hm
    · simp only [Bool.and_eq_true] at hm
      exact h_cons hm.1.1 (hE g D hz hf hi hn hv e hm.1.2) (hEs g D hz hf hi hn hv es hm.2)
    · cases hm
end
/-- a clause's one line -/
def mK (I : Inf) (hc : Nat) (N : List Str) (sc : Scope) (fs : List Str) (en : Str) : H1 → List Stmt → Bool
  | .ret e, [.Return (some y) _] => mH I hc N sc fs en e y
  | .asg j e, [.Assign [.Name z _] y _] => decide (N[j]? = some z) && lcl true sc z && mH I hc N sc fs en e y && noComp y
  | _, _ => false
def tK (Γ : Tab) (h i : Nat) : H1 → Suite
  | .ret e => fun a cls d => tSeq (tRet (tH Γ h i a cls d e)) tNext
  | .asg j e => fun a cls d => tSeq (tAsg (tH Γ h i a cls d e) (gName j)) tNext
theorem hK (g : Good I Γ O X) (hfn : ∀ x, X.fn x = true) (D : ExDef Γ X.K X.mg h x fs) (hz : Zc cls d oe) (hf : ∃ vs, oe.data = .fields vs) (hi : X.N[i]? = some en) (hn : nmOk en = true) (hv : X.env.scope.names.lookup en = some .local)
    (k : H1) {ss : List Stmt} (hm : mK I h X.N X.env.scope fs en k ss = true) : PSs (X.suite a ((a, oe) :: pn)) ss (tK Γ h i k a cls d) := by
  unfold mK at hm
  split at hm
  · exact pss_cons (ps_ret (hE g D hz hf hi hn hv _ hm)) pss_nil
  · simp only [Bool.and_eq_true, decide_eq_true_eq] at hm
    obtain ⟨k1, k2⟩ := lcl_ok hm.1.1.2 fun _ => hfn
    exact pss_cons (ps_set g.nd hm.1.1.1 k1 (hE g D hz hf hi hn hv _ hm.1.2) (swap_no hm.2) k2) pss_nil
  · cases hm
end
/-- the clauses -/
def mHds (I : Inf) (N : List Str) (sc : Scope) : Hs → List ExceptHandler → Bool
  | .nil, [] => true
  | .cons h i k hs, .ExceptHandler (some (.Name x _)) (some n) (s0 :: ss) _ :: r => (match I.exn[h]? with
      | some (z, fs) => decide (x = z) && glb sc x && decide (N[i]? = some n) && nmOk n && decide (sc.names.lookup n = some .local) && mK I h N sc fs n k (s0 :: ss)
      | none => false) && mHds I N sc hs r
  | _, _ => false
def clsOf (Γ : Tab) : Hs → List (Value × Nat × Suite)
  | .nil => []
  | .cons h i k hs => (.ref (Γ.exc h), i, tK Γ h i k) :: clsOf Γ hs
theorem hds_ok (g : Good I Γ O X) (hfn : ∀ x, X.fn x = true) : ∀ (hs : Hs) (ks : List ExceptHandler), mHds I X.N X.env.scope hs ks = true → HdsN X ks (clsOf Γ hs)
  | .nil, [], _ => .nil
  | .nil, _ :: _, h => by unfold mHds at h; cases h
  | .cons h i k hs, ks, hm => by
    unfold mHds at hm
    split at hm
    · rename_i e1 e2; cases e2
    · rename_i h' i' k' hs' x q1 n s0 ss q2 r e1
      cases e1
      simp only [Bool.and_eq_true] at hm
      obtain ⟨hm, hr⟩ := hm
      split at hm
      · rename_i z fs ez
        simp only [Bool.and_eq_true, decide_eq_true_eq] at hm
        obtain ⟨⟨⟨⟨⟨h1, h2⟩, h3⟩, h4⟩, h5⟩, h6⟩ := hm
        subst h1
        have D := g.ex _ _ _ ez
        exact .cons ⟨glb_ok h2, D.hx, .inl D.hm⟩ h3 h5 (fun a oe cls d pn hz hf => hK g hfn D hz hf h3 h4 h5 _ h6) (hds_ok g hfn hs r hr)
      · cases hm
    · cases hm
theorem setS_emp {i : Nat} {ρ ρ' : VI.Env} (h : setS i .emp ρ = some ρ') : ∃ t, ρ[i]? = some t ∧ freeS t ∧ ρ' = ρ.set i .emp := setS_some h
theorem hsel_ok (g : Good I Γ O X) {D : Ends} {c : Nat} {xs : List Dat} {π : Pins} {ρ : VI.Env} {G : Hp} : ∀ (hs : Hs) (ks : List ExceptHandler), mHds I X.N X.env.scope hs ks = true → PostC Γ W π F G D (hsel c xs ρ hs) →
    ∀ G' H' σ' dd, Ex G G' → Rel Γ π ρ G' F σ' H' → ExcR Γ G' H' c xs dd → wHs X.K W D (clsOf Γ hs) (.ref (Γ.exc c)) (some dd) σ' H'
  | .nil, _, _, h => h
  | .cons k0 i k hs, ks, hm, h => by
    intro G' H' σ' dd e R0 ex
    have hm0 := hm
    unfold mHds at hm
    split at hm
    · rename_i e1 e2; cases e2
    · rename_i h' i' k' hs' x q1 n s0 ss q2 r e1
      cases e1
      simp only [Bool.and_eq_true] at hm
      obtain ⟨hm, hr⟩ := hm
      split at hm
      · rename_i z fs ez
        unfold hsel at h
        refine ⟨decide (c = k0), (g.exm c k0 ex.1 (List.getElem?_eq_some_iff.mp ez).1).1, fun hb a ha => ?_, fun hb => ?_⟩
        · have ec := of_decide_eq_true hb
          subst ec
          rw [if_pos rfl] at h
          cases hs1 : setS i .emp ρ with
          | none => rw [hs1] at h; exact h.elim
          | some ρ1 =>
            rw [hs1] at h
            obtain ⟨t, e2, e3, rfl⟩ := setS_emp hs1
            have R1 := R0.put (v := .ref a) e2 e3 (.inl rfl)
            have hi : i < σ'.length := by rw [← R0.len]; exact (List.getElem?_eq_some_iff.mp e2).1
            have K1 : HOk Γ c i a (.ref (Γ.exc c)) (some dd) xs π (ρ.set i .emp) G' F (σ'.set i (some (.ref a))) H' := ⟨R1, List.getElem?_set_self hi, rfl, dd, rfl, ex⟩
            cases k with
            | ret y =>
              have h : PostC Γ W π F G D (match hev xs (ρ.set i .emp) y with | some d => .ret (.imm d) (ρ.set i .emp) | none => .bad) := h
              cases ed : hev xs (ρ.set i .emp) y with
              | none => rw [ed] at h; exact h.elim
              | some d =>
                rw [ed] at h
                exact ⟨xs, π, _, G', F, d, K1, ed, fun G2 H2 v w rv => h G2 H2 _ v (e.trans w.e) (R1.grow w) rv⟩
            | asg j y =>
              have h : PostC Γ W π F G D (match hev xs (ρ.set i .emp) y with | some d => if j = i then .bad else nxO (setS j (.imm d) (ρ.set i .emp)) | none => .bad) := h
              cases ed : hev xs (ρ.set i .emp) y with
              | none => rw [ed] at h; exact h.elim
              | some d =>
                rw [ed] at h
                by_cases ji : j = i
                · simp only [if_pos ji] at h; exact h.elim
                · simp only [if_neg ji] at h
                  refine ⟨xs, π, _, G', F, d, K1, ed, fun G2 H2 v w rv => ?_⟩
                  obtain ⟨ρ2, e5, k5⟩ := PostC.nxO (σ := σ') h
                  obtain ⟨t2, e6, e7, rfl⟩ := setS_some e5
                  have R2 := (R1.grow w).put (v := v) e6 e7 (.inr ⟨d, rfl, rv⟩)
                  have no : ∀ j' p c', (j', p, c') ∈ π → j' ∉ [i] := fun j' p c' hm' hz => by
                    have := pin_free R0.pin e2 e3 j' p c' hm'
                    exact this (List.mem_singleton.mp hz).symm
                  have R3 := R2.wiped (is := [i]) no
                  have eρ : wipeL [i] ((ρ.set i .emp).set j (.imm d)) = (ρ.set i .emp).set j (.imm d) := by
                    show ((ρ.set i .emp).set j (.imm d)).set i .emp = _
                    rw [List.set_comm _ _ ji, List.set_set]
                  rw [eρ] at R3
                  exact k5 G2 H2 _ (e.trans w.e) R3
        · have ec := of_decide_eq_false hb
          rw [if_neg ec] at h
          exact hsel_ok g hs r hr h G' H' σ' dd e R0 ex
      · cases hm
    · cases hm
theorem s_try (g : Good I Γ O X) (tk : Takes X W) (stk : X.stack = X.env :: X.outer) (frm : X.env.frame = some X.env.locals) (hfn : ∀ x, X.fn x = true) {b : Ss} {hs : Hs} {body : List Stmt} {k0 : ExceptHandler} {ks : List ExceptHandler} {pos : Pos} (hm : mHds I X.N X.env.scope hs (k0 :: ks) = true)
    (hb : ∀ (W' : WX) (pn : List (Addr × Obj)) (xe : Value → Shared → Prop), Takes (X.tr pn xe) W' → PassesOwn (model X.prog X.w) X.A X.env xe → PSs (X.tr pn xe) body (tSs Γ W' O b)) : PS X (.Try body (k0 :: ks) [] [] pos) (tS Γ W O (.try b hs)) := by
  refine PS.imp (ps_try_hs stk frm g.nd tk (tb := fun W' => tSs Γ W' O b) hb (hds_ok g hfn hs (k0 :: ks) hm)) ?_
  rintro D σ H ⟨π, ρ, G, F, R0, h⟩
  rw [exec] at h
  refine ⟨π, ρ, G, F, R0, ?_⟩
  cases hx : execs O b ρ with
  | nx ρ1 => rw [hx] at h; exact h
  | brk ρ1 => rw [hx] at h; exact h
  | cnt ρ1 => rw [hx] at h; exact h
  | ret r ρ1 => rw [hx] at h; exact h
  | bad => rw [hx] at h; exact h
  | exc c xs ρ1 =>
    rw [hx] at h
    exact hsel_ok g hs (k0 :: ks) hm h
end VI
/-! VI, soundness: all statements -/
namespace VI
open PySem L2
variable {I : Inf} {Γ : Tab} {O : Orc}
def isDoc : Stmt → Bool
  | .Pass _ => true
  | .Expr (.Constant (.str _) _ _) _ => true
  | _ => false
/-- a list display's own way to store -/
def lcSw (sc : Scope) (x : Str) (xp : Pos) : Expr → Option Bool
  | .ListComp _ _ scope pos => some (sc.kind == .function && sc.names.lookup x == some .local && xp.line == pos.line && !(scope.names.any fun (n, k) => n == x && (k == .local || k == .cell)))
  | .SetComp _ _ _ _ => none
  | .DictComp _ _ _ _ _ => none
  | _ => some false
mutual
def mS (I : Inf) (N : List Str) (sc : Scope) : S → Stmt → Bool
  | .asg i e, st => match st with
    | .Assign [.Name x xp] v _ => decide (N[i]? = some x) && lcl true sc x && mE I N e sc v && (lcSw sc x xp v).isSome
    | _ => false
  | .asgT is e, st => match st with
    | .Assign [.Tuple xs _ _] v _ => mNms true N sc is xs && mE I N e sc v && notTup v
    | _ => false
  | .aug i o e, st => match st with
    | .AugAssign (.Name x _) op v _ => isAS o && mOp o op && decide (N[i]? = some x) && lcl true sc x && mE I N e sc v
    | _ => false
  | .sidx i k e, st => match st with
    | .Assign [.Subscript (.Name x _) kx _] v _ => isVar N sc i x && mE I N k sc kx && mE I N e sc v && noSlice kx
    | _ => false
  | .augx i k o e, st => match st with
    | .AugAssign (.Subscript (.Name x _) kx _) op v _ => isAS o && mOp o op && isVar N sc i x && mE I N k sc kx && mE I N e sc v && noSlice kx
    | _ => false
  | .exp e, st => match st with
    | .Expr x _ => mE I N e sc x && noComp x
    | _ => false
  | .ret e, st => match st with
    | .Return (some x) _ => mE I N e sc x
    | .Return none _ => (match e with
      | .cst .non => true
      | _ => false)
    | _ => false
  | .ife c a b, st => match st with
    | .If t xs ys _ => mE I N c sc t && okT c && mSs I N sc a xs && mSs I N sc b ys
    | _ => false
  | .for p it b, st => match st with
    | .For tg iter body [] _ => mI I N it sc tg iter && mPat true N sc p tg && mSs I N sc b body && noSet iter
    | _ => false
  | .whl _ c b, st => match st with
    | .While t body [] _ => mE I N c sc t && okT c && mSs I N sc b body
    | _ => false
  | .brk, st => match st with
    | .Break _ => true
    | _ => false
  | .cnt, st => match st with
    | .Continue _ => true
    | _ => false
  | .pas, st => isDoc st
  | .sfld _ _ _ _, _ => false
  | .par i j es, st => match st with
    | .Assign [.Tuple [.Name x px, .Name y py] _ _] (.Tuple [a, b] _ _) _ => decide (N[i]? = some x) && decide (N[j]? = some y) && decide (i ≠ j) && decide (sc.names.lookup x = some .local) && decide (sc.names.lookup y = some .local) && mEs I N es sc [a, b] && [a, b].all notStar && parOk px py a b
    | _ => false
  | .rse c es, st => match st with
    | .Raise (some (.Call (.Name x _) (y :: ys) [] _)) none _ => (match I.exn[c]? with
      | some (z, fs) => decide (x = z) && glb sc x && mEs I N es sc (y :: ys) && (y :: ys).all notStar && decide (esLen es = fs.length)
      | none => false)
    | _ => false
  | .try b hs, st => match st with
    | .Try body (k0 :: ks) [] [] _ => mSs I N sc b body && mHds I N sc hs (k0 :: ks)
    | _ => false
def mSs (I : Inf) (N : List Str) (sc : Scope) : Ss → List Stmt → Bool
  | .nil, xs => xs.isEmpty
  | .cons s ss, xs => match xs with
    | x :: xs => mS I N sc s x && mSs I N sc ss xs
    | [] => false
end
/-- where a def's statements run -/
structure StOk (I : Inf) (Γ : Tab) (O : Orc) (W : WX) (X : Cx) : Prop where
  g : Good I Γ O X
  tk : Takes X W
  hp : PassesOwn (model X.prog X.w) X.A X.env X.xe
  hfn : ∀ x, X.fn x = true
  kf : X.env.scope.kind = .function
  stk : X.stack = X.env :: X.outer
  frm : X.env.frame = some X.env.locals
theorem s_asg {W : WX} {X : Cx} (st : StOk I Γ O W X) {i : Nat} {e : E} {x : Str} {v : Expr} {xp sp : Pos} (hi : X.N[i]? = some x) (hx : lcl true X.env.scope x = true) (h : mE I X.N e X.env.scope v = true) (hl : (lcSw X.env.scope x xp v).isSome = true) : PS X (.Assign [.Name x xp] v sp) (tS Γ W O (.asg i e)) := by
  obtain ⟨k1, k2⟩ := lcl_ok hx fun _ => st.hfn
  refine PS.imp ?_ asg_read
  have plain : noComp v = true → PS X (.Assign [.Name x xp] v sp) (tAsg (tE Γ O W e) (gName i)) := fun hn => ps_set st.g.nd hi k1 (sE e st.g st.tk h).1 (swap_no hn) k2
  cases v <;> first | exact plain rfl | (cases hl; done) | skip
  rename_i elt gs scope pos
  have hb : X.env.blockKind = .function := by unfold PySem.Env.blockKind; rw [st.kf]; rfl
  have sw : swapsWith (.ListComp elt gs scope pos) (some (.Name x xp)) sp.line X.env = pure (X.env.scope.kind == .function && X.env.scope.names.lookup x == some .local && xp.line == pos.line && !(scope.names.any fun (n, k) => n == x && (k == .local || k == .cell))) := by
    rw [st.kf]
    unfold swapsWith
    simp only [hb]
    rfl
  cases hsw : (X.env.scope.kind == .function && X.env.scope.names.lookup x == some .local && xp.line == pos.line && !(scope.names.any fun (n, k) => n == x && (k == .local || k == .cell))) with
  | false =>
    rw [hsw] at sw
    exact ps_set st.g.nd hi k1 (sE e st.g st.tk h).1 sw k2
  | true =>
    rw [hsw] at sw
    simp only [Bool.and_eq_true] at hsw
    exact s_setLc st.g hi (by simpa using hsw.1.1.2) sw st.tk e h
mutual
theorem sS : (s : S) → ∀ {W : WX} {X : Cx} {x : Stmt}, StOk I Γ O W X → mS I X.N X.env.scope s x = true → PS X x (tS Γ W O s)
  | .asg i e, W, X, x, st, h => by
    unfold mS at h
    split at h
    · simp only [Bool.and_eq_true, decide_eq_true_eq] at h
      exact s_asg st h.1.1.1 h.1.1.2 h.1.2 h.2
    · cases h
  | .asgT is e, W, X, x, st, h => by
    unfold mS at h
    split at h
    · simp only [Bool.and_eq_true] at h
      exact s_asgT st.g st.hfn h.1.1 (sE e st.g st.tk h.1.2).1 h.2
    · cases h
  | .aug i o e, W, X, x, st, h => by
    unfold mS at h
    split at h
    · simp only [Bool.and_eq_true, decide_eq_true_eq] at h
      obtain ⟨⟨⟨⟨h1, h2⟩, h3⟩, h4⟩, h5⟩ := h
      cases mOp_eq h2
      obtain ⟨k1, k2⟩ := lcl_ok h4 fun _ => st.hfn
      exact s_aug st.g h1 h3 k1 k2 (sE e st.g st.tk h5).1
    · cases h
  | .sidx i k e, W, X, x, st, h => by
    unfold mS at h
    split at h
    · simp only [Bool.and_eq_true] at h
      exact s_sidx st.g h.1.1.1 (sE k st.g st.tk h.1.1.2).1 (sE e st.g st.tk h.1.2).1 h.2
    · cases h
  | .augx i k o e, W, X, x, st, h => by
    unfold mS at h
    split at h
    · simp only [Bool.and_eq_true] at h
      obtain ⟨⟨⟨⟨⟨h1, h2⟩, h3⟩, h4⟩, h5⟩, h6⟩ := h
      cases mOp_eq h2
      exact s_augx st.g h1 h3 (sE k st.g st.tk h4).1 (sE e st.g st.tk h5).1 h6
    · cases h
  | .exp e, W, X, x, st, h => by
    unfold mS at h
    split at h
    · simp only [Bool.and_eq_true] at h
      exact s_exp (sE e st.g st.tk h.1).1 h.2
    · cases h
  | .ret e, W, X, x, st, h => by
    unfold mS at h
    split at h
    · exact s_ret (sE e st.g st.tk h).1
    · split at h
      · exact s_retN
      · cases h
    · cases h
  | .ife c a b, W, X, x, st, h => by
    unfold mS at h
    split at h
    · simp only [Bool.and_eq_true] at h
      exact s_if ((sE c st.g st.tk h.1.1.1).2 h.1.1.2) (sSs a st h.1.2) (sSs b st h.2)
    · cases h
  | .for p it b, W, X, x, st, h => by
    unfold mS at h
    split at h
    · simp only [Bool.and_eq_true] at h
      exact s_for st.g st.hp st.hfn (sI it st.g st.tk h.1.1.1) h.1.1.2 (sSs b st h.1.2) h.2
    · cases h
  | .whl n c b, W, X, x, st, h => by
    unfold mS at h
    split at h
    · simp only [Bool.and_eq_true] at h
      exact s_while st.hp ((sE c st.g st.tk h.1.1).2 h.1.2) (sSs b st h.2)
    · cases h
  | .brk, W, X, x, st, h => by
    unfold mS at h
    split at h
    · refine PS.imp ps_break ?_
      rintro D σ H ⟨π, ρ, G, F, R0, h⟩
      rw [exec] at h
      exact h G H σ (Ex.refl _) R0
    · cases h
  | .cnt, W, X, x, st, h => by
    unfold mS at h
    split at h
    · refine PS.imp ps_continue ?_
      rintro D σ H ⟨π, ρ, G, F, R0, h⟩
      rw [exec] at h
      exact h G H σ (Ex.refl _) R0
    · cases h
  | .pas, W, X, x, st, h => by
    unfold mS at h
    have nx : ∀ D σ H, tS Γ W O .pas D σ H → tNext D σ H := by
      rintro D σ H ⟨π, ρ, G, F, R0, h⟩
      rw [exec] at h
      exact h G H σ (Ex.refl _) R0
    unfold isDoc at h
    split at h
    · exact PS.imp ps_pass nx
    · exact PS.imp ps_doc nx
    · cases h
  | .sfld _ _ _ _, W, X, x, st, h => by unfold mS at h; cases h
  | .par i j es, W, X, x, st, h => by
    unfold mS at h
    split at h
    · simp only [Bool.and_eq_true, decide_eq_true_eq] at h
      obtain ⟨⟨⟨⟨⟨⟨⟨h1, h2⟩, h3⟩, h4⟩, h5⟩, h6⟩, h7⟩, h8⟩ := h
      exact s_par st.g st.kf h1 h2 h3 h4 h5 ((sEs es st.g st.tk h6).pa h7) h8
    · cases h
  | .rse c es, W, X, x, st, h => by
    unfold mS at h
    split at h
    · split at h
      · rename_i z fs ez
        simp only [Bool.and_eq_true, decide_eq_true_eq] at h
        obtain ⟨⟨⟨⟨h1, h2⟩, h3⟩, h4⟩, h5⟩ := h
        subst h1
        exact s_rse st.g st.tk ez h2 ((sEs es st.g st.tk h3).pa h4) h4 h5
      · cases h
    · cases h
  | .try b hs, W, X, x, st, h => by
    unfold mS at h
    split at h
    · simp only [Bool.and_eq_true] at h
      refine s_try st.g st.tk st.stk st.frm st.hfn h.2 fun W' pn xe tk' hp' => ?_
      exact sSs b (X := X.tr pn xe) ⟨⟨st.g.nd, st.g.gk, st.g.calm, st.g.un, st.g.bi, st.g.con, st.g.fn, st.g.rm, st.g.ex, st.g.exm⟩, tk', hp', st.hfn, st.kf, st.stk, st.frm⟩ h.1
    · cases h
theorem sSs : (s : Ss) → ∀ {W : WX} {X : Cx} {xs : List Stmt}, StOk I Γ O W X → mSs I X.N X.env.scope s xs = true → PSs X xs (tSs Γ W O s)
  | .nil, W, X, xs, st, h => by
    unfold mSs at h
    cases xs with
    | nil => exact ss_nil
    | cons _ _ => cases h
  | .cons s ss, W, X, xs, st, h => by
    unfold mSs at h
    split at h
    · simp only [Bool.and_eq_true] at h
      exact ss_cons (sS s st h.1) (sSs ss st h.2)
    · cases h
end
end VI
/-! VI, soundness: defs -/
namespace VI
open PySem L2
variable {Γ : Tab}
def pinsOf : Nat → List Slot → List V → Pins
  | i, .own true true o :: ss, .ref p :: vs => (i, p, some o) :: (i, p, none) :: pinsOf (i + 1) ss vs
  | i, .own true false _ :: ss, .ref p :: vs => (i, p, none) :: pinsOf (i + 1) ss vs
  | i, _ :: ss, _ :: vs => pinsOf (i + 1) ss vs
  | _, _, _ => []
theorem pinsOf_mem : ∀ {ss : List Slot} {vs : List V} {n j : Nat} {p : Addr} {c : Option OD}, (j, p, c) ∈ pinsOf n ss vs → ∃ i l o, j = n + i ∧ ss[i]? = some (.own true l o) ∧ vs[i]? = some (.ref p) ∧ ∀ o', c = some o' → l = true ∧ o = o' := by
  intro ss
  induction ss with
  | nil => intro vs n j p c h; simp [pinsOf] at h
  | cons s ss ih =>
    intro vs n j p c h
    cases vs with
    | nil => cases s <;> simp [pinsOf] at h
    | cons v vs =>
      have tail : (j, p, c) ∈ pinsOf (n + 1) ss vs → ∃ i l o, j = n + i ∧ (s :: ss)[i]? = some (.own true l o) ∧ (v :: vs)[i]? = some (.ref p) ∧ ∀ o', c = some o' → l = true ∧ o = o' := fun h => by
        obtain ⟨i, l, o, e, h1, h2, h3⟩ := ih h
        exact ⟨i + 1, l, o, by omega, by simpa using h1, by simpa using h2, h3⟩
      unfold pinsOf at h
      split at h
      · rename_i o ss' q vs' e1 e2
        cases e1; cases e2
        rcases List.mem_cons.mp h with z | z
        · cases z; exact ⟨0, true, o, rfl, rfl, rfl, fun o' e => by cases e; exact ⟨rfl, rfl⟩⟩
        · rcases List.mem_cons.mp z with z | z
          · cases z; exact ⟨0, true, o, rfl, rfl, rfl, fun o' e => nomatch e⟩
          · exact tail z
      · rename_i o ss' q vs' e1 e2
        cases e1; cases e2
        rcases List.mem_cons.mp h with z | z
        · cases z; exact ⟨0, false, o, rfl, rfl, rfl, fun o' e => nomatch e⟩
        · exact tail z
      · rename_i e1 e2 e3 e4
        cases e3; cases e4
        exact tail h
      · cases h
theorem pinsOf_has : ∀ {ss : List Slot} {vs : List V} {n i : Nat} {l : Bool} {o : OD} {p : Addr}, ss[i]? = some (.own true l o) → vs[i]? = some (.ref p) → (n + i, p, none) ∈ pinsOf n ss vs ∧ (l = true → (n + i, p, some o) ∈ pinsOf n ss vs) := by
  intro ss
  induction ss with
  | nil => intro vs n i l o p h _; simp at h
  | cons s ss ih =>
    intro vs n i l o p h1 h2
    cases vs with
    | nil => simp at h2
    | cons v vs =>
      cases i with
      | zero =>
        simp at h1 h2
        subst h1 h2
        cases l with
        | true => exact ⟨by simp [pinsOf], fun _ => by simp [pinsOf]⟩
        | false => exact ⟨by simp [pinsOf], (fun z => nomatch z)⟩
      | succ i =>
        obtain ⟨k1, k2⟩ := ih (n := n + 1) (by simpa using h1) (by simpa using h2)
        have e : n + 1 + i = n + (i + 1) := by omega
        rw [e] at k1 k2
        have sub : ∀ x, x ∈ pinsOf (n + 1) ss vs → x ∈ pinsOf n (s :: ss) (v :: vs) := fun x hx => by
          cases s with
          | own b l o =>
            cases b <;> cases l <;> cases v <;> simp [pinsOf, hx]
          | emp => simp [pinsOf, hx]
          | imm d => simp [pinsOf, hx]
        exact ⟨sub _ k1, fun z => sub _ (k2 z)⟩
theorem lentA_mem : ∀ {ss : List Slot} {vs : List V} {i : Nat} {b l : Bool} {o : OD} {p : Addr}, ss[i]? = some (.own b l o) → vs[i]? = some (.ref p) → p ∈ lentA ss vs := by
  intro ss
  induction ss with
  | nil => intro vs i b l o p h _; simp at h
  | cons s ss ih =>
    intro vs i b l o p h1 h2
    cases vs with
    | nil => simp at h2
    | cons v vs =>
      cases i with
      | zero =>
        simp at h1 h2
        subst h1 h2
        exact List.mem_cons_self
      | succ i =>
        have k := ih (by simpa using h1) (by simpa using h2)
        cases s with
        | own b l o =>
          cases v <;> first | exact k | exact List.mem_cons_of_mem _ k
        | emp => exact k
        | imm d => exact k
theorem lentA_at : ∀ {ss : List Slot} {vs : List V} {p : Addr}, p ∈ lentA ss vs → ∃ (i : Nat) (b l : Bool) (o : OD), ss[i]? = some (.own b l o) ∧ vs[i]? = some (.ref p) := by
  intro ss
  induction ss with
  | nil => intro vs p h; simp [lentA] at h
  | cons s ss ih =>
    intro vs p h
    cases vs with
    | nil => cases s <;> simp [lentA] at h
    | cons v vs =>
      have tail : p ∈ lentA ss vs → ∃ (i : Nat) (b l : Bool) (o : OD), (s :: ss)[i]? = some (.own b l o) ∧ (v :: vs)[i]? = some (.ref p) := fun h => by
        obtain ⟨i, b, l, o, h1, h2⟩ := ih h
        exact ⟨i + 1, b, l, o, by simpa using h1, by simpa using h2⟩
      cases s with
      | own b l o =>
        cases v <;> first | exact tail h | skip
        rename_i q
        rcases List.mem_cons.mp h with z | z
        · subst z; exact ⟨0, b, l, o, rfl, rfl⟩
        · exact tail z
      | emp => exact tail h
      | imm d => exact tail h
theorem movedA_mem : ∀ {ss : List Slot} {vs : List V} {i : Nat} {l : Bool} {o : OD} {p : Addr}, ss[i]? = some (.own false l o) → vs[i]? = some (.ref p) → p ∈ movedA ss vs := by
  intro ss
  induction ss with
  | nil => intro vs i l o p h _; simp at h
  | cons s ss ih =>
    intro vs i l o p h1 h2
    cases vs with
    | nil => simp at h2
    | cons v vs =>
      cases i with
      | zero =>
        simp at h1 h2
        subst h1 h2
        exact List.mem_cons_self
      | succ i =>
        have k := ih (by simpa using h1) (by simpa using h2)
        cases s with
        | own b l o =>
          cases b <;> cases v <;> first | exact k | exact List.mem_cons_of_mem _ k
        | emp => exact k
        | imm d => exact k
theorem lentA_inj : ∀ {ss : List Slot} {vs : List V} {i j : Nat} {a : Addr}, (lentA ss vs).Nodup → isOwn ss[i]? = true → isOwn ss[j]? = true → vs[i]? = some (.ref a) → vs[j]? = some (.ref a) → i = j := by
  intro ss
  induction ss with
  | nil => intro vs i j a _ h _; simp [isOwn] at h
  | cons s ss ih =>
    intro vs i j a nd h1 h2 e1 e2
    cases vs with
    | nil => simp at e1
    | cons v vs =>
      have nd' : (lentA ss vs).Nodup := by
        cases s with
        | own b l o =>
          cases v <;> first | exact nd | exact (List.nodup_cons.mp nd).2
        | emp => exact nd
        | imm d => exact nd
      have clash : ∀ {k : Nat}, isOwn (s :: ss)[0]? = true → (v :: vs)[0]? = some (.ref a) → isOwn (s :: ss)[k + 1]? = true → (v :: vs)[k + 1]? = some (.ref a) → False := fun {k} h1 e1 h2 e2 => by
        obtain ⟨b, l, o, z⟩ := isOwn_iff.mp h1
        simp at z e1
        subst z e1
        obtain ⟨b2, l2, o2, z2⟩ := isOwn_iff.mp h2
        exact (List.nodup_cons.mp nd).1 (lentA_mem (by simpa using z2) (by simpa using e2))
      cases i with
      | zero =>
        cases j with
        | zero => rfl
        | succ j => exact (clash h1 e1 h2 e2).elim
      | succ i =>
        cases j with
        | zero => exact (clash h2 e2 h1 e1).elim
        | succ j => exact congrArg (· + 1) (ih nd' (i := i) (j := j) (a := a) (by simpa using h1) (by simpa using h2) (by simpa using e1) (by simpa using e2))
/-- what the others hold while a callee runs -/
def othersF (G H : Hp) (L : List Addr) : Hp := fun a => if (G a).isNone && !L.contains a then H a else none
theorem othersF_some {G H : Hp} {L : List Addr} {a : Addr} {u : HO} (h : othersF G H L a = some u) : G a = none ∧ a ∉ L ∧ H a = some u := by
  unfold othersF at h
  split at h
  · rename_i c
    simp only [Bool.and_eq_true, Bool.not_eq_true', Option.isNone_iff_eq_none] at c
    refine ⟨c.1, fun z => ?_, h⟩
    have := c.2
    simp [z] at this
  · cases h
theorem othersF_of {G H : Hp} {L : List Addr} {a : Addr} {u : HO} (h1 : G a = none) (h2 : a ∉ L) (h3 : H a = some u) : othersF G H L a = some u := by
  unfold othersF
  rw [if_pos (by simp [h1, h2]), h3]
/-- the frame of a callee at its entry -/
theorem entry_rel {G H : Hp} {N : List Str} {ss : List Slot} {vs : List V} (a : ArgC Γ G H ss vs) (g : Ex G H) (hN : vs.length ≤ N.length) : Rel Γ (pinsOf 0 ss vs) (ss ++ List.replicate (N.length - vs.length) .emp) G (othersF G H (lentA ss vs)) (L2.start N vs) H := by
  have at0 : ∀ {i : Nat} {s : Slot}, (ss ++ List.replicate (N.length - vs.length) .emp)[i]? = some s → s ≠ .emp → ss[i]? = some s ∧ ∃ v, vs[i]? = some v ∧ (L2.start N vs)[i]? = some (some v) := fun {i s} h ne => by
    by_cases hi : i < ss.length
    · rw [List.getElem?_append_left hi] at h
      have hv : i < vs.length := by rw [← a.len]; exact hi
      refine ⟨h, vs[i], List.getElem?_eq_getElem hv, ?_⟩
      unfold L2.start
      rw [List.getElem?_append_left (by rw [List.length_map]; exact hv), List.getElem?_map, List.getElem?_eq_getElem hv]
      rfl
    · rw [List.getElem?_append_right (by omega)] at h
      exact absurd (List.mem_replicate.mp (List.mem_of_getElem? h)).2 ne
  refine ⟨⟨g, fun b u h => (othersF_some h).2.2, fun b u h => ?_, ?_, fun i s h => ?_, fun i j b h1 h2 e1 e2 => ?_⟩, fun j p c hm => ?_⟩
  · cases q : othersF G H (lentA ss vs) b with
    | none => rfl
    | some w => rw [(othersF_some q).1] at h; cases h
  · unfold L2.start
    simp [a.len]
  · cases s with
    | emp => trivial
    | imm d =>
      obtain ⟨h1, v, h2, h3⟩ := at0 h (by simp)
      exact ⟨v, h3, a.at_ i _ v h1 h2⟩
    | own b l o =>
      obtain ⟨h1, v, h2, h3⟩ := at0 h (by simp)
      obtain ⟨p, rfl, nG, y⟩ := a.at_ i _ v h1 h2
      refine ⟨p, h3, nG, ?_, y⟩
      cases q : othersF G H (lentA ss vs) p with
      | none => rfl
      | some w => exact absurd (lentA_mem h1 h2) (othersF_some q).2.1
  · obtain ⟨b1, l1, o1, z1⟩ := isOwn_iff.mp h1
    obtain ⟨b2, l2, o2, z2⟩ := isOwn_iff.mp h2
    obtain ⟨k1, v1, k2, k3⟩ := at0 z1 (by simp)
    obtain ⟨m1, v2, m2, m3⟩ := at0 z2 (by simp)
    rw [k3] at e1; cases e1
    rw [m3] at e2; cases e2
    exact lentA_inj a.nd (by rw [k1]; rfl) (by rw [m1]; rfl) k2 m2
  · obtain ⟨i, l, o, e, h1, h2, h3⟩ := pinsOf_mem hm
    have ej : j = i := by omega
    subst ej
    have hi : j < ss.length := (List.getElem?_eq_some_iff.mp h1).1
    have hv : j < vs.length := (List.getElem?_eq_some_iff.mp h2).1
    refine ⟨?_, true, l, o, by rw [List.getElem?_append_left hi]; exact h1, fun _ => rfl, h3⟩
    unfold L2.start
    rw [List.getElem?_append_left (by rw [List.length_map]; exact hv), List.getElem?_map, h2]
    rfl
/-- what a callee leaves -/
theorem exit_keeps {π : Pins} {ρ : VI.Env} {G H G' H' : Hp} {σ : L2.St} {ss : List Slot} {vs : List V} (R1 : Rel Γ π ρ G' (othersF G H (lentA ss vs)) σ H') : Keeps G H ss vs G' H' := fun a u h n l => by
  have hF := othersF_of n l h
  refine ⟨R1.f a u hF, ?_⟩
  cases q : G' a with
  | none => rfl
  | some w => rw [R1.dis a w q] at hF; cases hF
theorem exit_out {ρ : VI.Env} {G' F H' : Hp} {σ : L2.St} {ss : List Slot} {vs : List V} (R1 : Rel Γ (pinsOf 0 ss vs) ρ G' F σ H') : OutR Γ G' H' ss vs (ρ.take ss.length) := by
  intro i l o p h1 h2
  obtain ⟨k1, k2⟩ := pinsOf_has (n := 0) h1 h2
  rw [Nat.zero_add] at k1 k2
  obtain ⟨e1, b, l', o', e2, e3, _⟩ := R1.pin i p none k1
  obtain ⟨a, ea, nG, nF, y⟩ := R1.own e2
  rw [e1] at ea; cases ea
  have hi : i < ss.length := (List.getElem?_eq_some_iff.mp h1).1
  refine ⟨b, l', o', by rw [List.getElem?_take_of_lt hi]; exact e2, nG, y, fun hl => ?_⟩
  obtain ⟨_, b2, l2, o2, f2, _, f4⟩ := R1.pin i p (some o) (k2 hl)
  rw [e2] at f2; cases f2
  exact (f4 o rfl).2
theorem exit_ret {ρ : VI.Env} {G H G' H' : Hp} {σ : L2.St} {ss : List Slot} {vs : List V} {r : Res} {v : V} (R1 : Rel Γ (pinsOf 0 ss vs) ρ G' (othersF G H (lentA ss vs)) σ H') (e : Ex G G') (rr : ResR Γ G' (othersF G H (lentA ss vs)) H' ρ σ r v) (nb : ∀ i, r ≠ .bor i) : RetR Γ H ss vs G' H' r v := by
  cases r with
  | imm d => exact rr
  | bor i => exact absurd rfl (nb i)
  | fr o =>
    obtain ⟨p, rfl, nG, nF, y, z⟩ := rr
    refine ⟨p, rfl, nG, y, ?_⟩
    by_cases hl : p ∈ lentA ss vs
    · obtain ⟨i, b, l, o', h1, h2⟩ := lentA_at hl
      cases b with
      | false => exact .inr (movedA_mem h1 h2)
      | true =>
        obtain ⟨k1, _⟩ := pinsOf_has (n := 0) h1 h2
        rw [Nat.zero_add] at k1
        obtain ⟨e1, b2, l2, o2, e2, _⟩ := R1.pin i p none k1
        exact absurd e1 (z i (isOwn_iff.mpr ⟨_, _, _, e2⟩))
    · refine .inl ?_
      cases q : H p with
      | none => rfl
      | some u =>
        have nG0 : G p = none := e.isNone nG
        rw [othersF_of nG0 hl q] at nF; cases nF
theorem retO_ok {np : Nat} {ss : List Slot} {r : Res} {ρ : VI.Env} {P : CRes → Prop} (hb : ¬ P .bad) (h : P (retO ss np r ρ)) : (∀ i, r ≠ .bor i) ∧ P (.ret r (ρ.take np)) := by
  unfold retO at h
  cases r with
  | bor i => exact absurd h hb
  | imm d =>
    dsimp only at h
    split at h
    · exact ⟨(fun i z => nomatch z), h⟩
    · exact absurd h hb
  | fr o =>
    dsimp only at h
    split at h
    · exact ⟨(fun i z => nomatch z), h⟩
    · exact absurd h hb
/-- A DEF'S BODY, from its entry to its exit -/
theorem body_ok {O : Orc} {d : Def} {N : List Str} {vs : List V} {H : Hp} {Q : VK} {E : XK} (hn : d.n = N.length) (hp : d.np ≤ N.length) (h : spI Γ (run d O) d.np vs H Q E) :
    tSs Γ (fun cls dd _ H' => E cls dd H') O d.body { nx := fun _ H' => Q .non H', rt := Q } (L2.start N vs) H := by
  obtain ⟨hlen, G, ss, a, g, m⟩ := h
  have hl : ss.length = d.np := by rw [a.len, hlen]
  refine ⟨pinsOf 0 ss vs, ss ++ List.replicate (N.length - vs.length) .emp, G, othersF G H (lentA ss vs), entry_rel a g (by rw [hlen]; exact hp), ?_⟩
  unfold run at m
  rw [if_pos hl, hn, ← hlen] at m
  cases hx : execs O d.body (ss ++ List.replicate (N.length - vs.length) .emp) with
  | nx ρ =>
    rw [hx] at m
    dsimp only at m
    have key := retO_ok (P := fun c => match c with
      | .ret r outs => ∀ G' H' v, Ex G G' → Ex G' H' → Keeps G H ss vs G' H' → OutR Γ G' H' ss vs outs → RetR Γ H ss vs G' H' r v → Q v H'
      | .exc c xs => ∀ G' H' dd, Ex G G' → Ex G' H' → Keeps G H ss vs G' H' → ExcR Γ G' H' c xs dd → E (.ref (Γ.exc c)) (some dd) H'
      | .bad => False) (fun z => z) m
    intro G' H' σ' e R1
    have o1 := exit_out R1
    rw [a.len] at o1
    exact key.2 G' H' .non e R1.g (exit_keeps R1) o1 .non
  | ret r ρ =>
    rw [hx] at m
    dsimp only at m
    have key := retO_ok (P := fun c => match c with
      | .ret r outs => ∀ G' H' v, Ex G G' → Ex G' H' → Keeps G H ss vs G' H' → OutR Γ G' H' ss vs outs → RetR Γ H ss vs G' H' r v → Q v H'
      | .exc c xs => ∀ G' H' dd, Ex G G' → Ex G' H' → Keeps G H ss vs G' H' → ExcR Γ G' H' c xs dd → E (.ref (Γ.exc c)) (some dd) H'
      | .bad => False) (fun z => z) m
    intro G' H' σ' v e R1 rr
    have o1 := exit_out R1
    rw [a.len] at o1
    exact key.2 G' H' v e R1.g (exit_keeps R1) o1 (exit_ret R1 e rr key.1)
  | exc c xs ρ =>
    rw [hx] at m
    intro G' H' σ' dd e R1 ex
    exact m G' H' dd e R1.g (exit_keeps R1) ex
  | brk ρ => rw [hx] at m; exact m.elim
  | cnt ρ => rw [hx] at m; exact m.elim
  | bad => rw [hx] at m; exact m.elim
section
variable {I : Inf} {P : Program} {w : World} {K : PySem.W.Frag} {mg : Str → Option Value} {base : Heap}
/-- a def of the text with its IR -/
structure DefOk (I : Inf) (K : PySem.W.Frag) (mg : Str → Option Value) (x : Str) (d : Def) (a : Addr) (fd : FuncData) (ps : List Str) : Prop where
  ex : ∃ (qual : Str) (st : Stmt) (N : List Str), Fun K x qual st a fd ∧ FnScope N ps (defScope st) ∧ mSs I N (defScope st) d.body (defBody st) = true ∧ d.n = N.length
  hm : mg x = some (.ref a)
  hb : Binds K fd ps []
  np : d.np = ps.length
structure TabOk (I : Inf) (Γ : Tab) (K : PySem.W.Frag) (mg : Str → Option Value) (Pr : Prg) : Prop where
  gk : K = Γ.K
  bi : ∀ x, x ∈ biNames → mg x = none
  con : ∀ x d, (x, d) ∈ I.con → ∃ u, mg x = some u ∧ RelV (datV d) u
  fn : ∀ (f : Nat) (x : Str), I.fns[f]? = some x → ∃ d a fd ps, Pr.defs[f]? = some d ∧ DefOk I K mg x d a fd ps
  ex : ∀ (c : Nat) (x : Str) (fs : List Str), I.exn[c]? = some (x, fs) → ExDef Γ K mg c x fs
  exm : ∀ (c h : Nat), Γ.xfl c ≠ [] → h < I.exn.length → PySem.W.exmOne K (.ref (Γ.exc c)) (.ref (Γ.exc h)) = some (decide (c = h)) ∧ ClsQ K (Γ.exc c)
theorem call_len {Pr : Prg} {f : Nat} {d : Def} (h : Pr.defs[f]? = some d) (n : Nat) {ss : List Slot} (hl : ss.length ≠ d.np) : (orc Pr n).call f ss = .bad := by
  cases n with
  | zero => rfl
  | succ n => rw [call_of h, run, if_neg hl]
theorem defs_ok {Pr : Prg} (T : TabOk I Γ K mg Pr) : ∀ (n f : Nat) (x : Str) (d : Def) (a : Addr) (fd : FuncData) (ps : List Str), Pr.defs[f]? = some d → DefOk I K mg x d a fd ps →
    FnOk P w K mg base (L2.CX P w) (n + 2) a fd ps (spI Γ ((orc Pr n).call f) ps.length)
  | 0, f, x, d, a, fd, ps, hf, D => by
    obtain ⟨qual, st, N, F, S, hm, hN⟩ := D.ex
    refine Fun.okX (k := 1) F S (fun vs H Q E h => h.1) (fun cdv A outer s H vs Q E hr h => ?_)
    obtain ⟨_, G, ss, _, _, m⟩ := h
    exact m.elim
  | n + 1, f, x, d, a, fd, ps, hf, D => by
    obtain ⟨qual, st, N, F, S, hm, hN⟩ := D.ex
    refine Fun.okX (k := n + 2) F S (fun vs H Q E h => h.1) (fun cdv A outer s H vs Q E hr h => ?_)
    have hle : ps.length ≤ N.length := by
      have := congrArg List.length S.pre
      rw [List.length_take] at this
      omega
    refine ⟨tSs Γ (fun cls dd _ H' => E cls dd H') (orc Pr n) d.body, ?_, ?_⟩
    · refine sSs (I := I) d.body ⟨⟨S.nd, T.gk, rfl, ?_, T.bi, T.con, fun g y hy => ?_, hr.mono (by omega), T.ex, T.exm⟩, takes_of rfl rfl rfl rfl, passes_of rfl, fun _ => rfl, S.kind, rfl, rfl⟩ hm
      · have := hr.un
        show (A.deeper _).units + 200 < cLine
        omega
      · obtain ⟨d', a', fd', ps', h1, D'⟩ := T.fn g y hy
        exact ⟨a', fd', ps', n + 2, D'.hm, by obtain ⟨_, _, _, F', _⟩ := D'.ex; exact F'.kp, D'.hb, hr, defs_ok T n g y d' a' fd' ps' h1 D', fun ss hl => call_len h1 n (by rw [D'.np]; exact hl)⟩
    · refine body_ok hN (by rw [D.np]; exact hle) ?_
      have e : (orc Pr (n + 1)).call f = run d (orc Pr n) := funext fun ss => call_of hf n ss
      rw [e, ← D.np] at h
      exact h
end
end VI
/-! VI, soundness: the law -/
namespace VI
open PySem L2
/-- what the end asks of a law's IR, in plain data -/
def LawIs (Pr : Prg) (N i n : Nat) : Prop := ∀ ns : List Int, ns.length ≤ n → ∃ outs, (orc Pr N).call i [.imm (.lst (ns.map Dat.int))] = .ret (.imm (.bl true)) outs
theorem law_sp {Γ : Tab} {Pr : Prg} {N i n : Nat} (L : LawIs Pr N i n) {H : Hp} {a : Addr} {ns : List Int} (hl : ns.length ≤ n) (hS : SqX Γ.K H a (ns.map V.int)) : spI Γ ((orc Pr N).call i) 1 [.ref a] H (fun v _ => v = .bl true) fun _ _ _ => False := by
  obtain ⟨outs, e⟩ := L ns hl
  refine ⟨rfl, H, [.imm (.lst (ns.map Dat.int))], ⟨rfl, fun j s v hs hv => ?_, List.nodup_nil⟩, Ex.refl _, ?_⟩
  · cases j with
    | zero =>
      simp at hs hv
      subst hs hv
      exact .lst hS (by simp) (rl_ints (Γ := Γ) (G := H) ns).2
    | succ j => simp at hs
  · rw [e]
    intro G' H' v _ _ _ _ r
    have r : R Γ G' v (.bl true) := r
    cases r
    rfl
theorem vi_walk {l : PySem.W.OpenLaw} {n N i : Nat} {Pr : Prg} {I : Inf} {q : Program} {loose : List Str} {XP : (Str → Option Value) → Heap → Prop} {YP : World → Heap → Prop} {d : DefRec} {K : Params → PySem.W.Frag} {x y : Str}
    (most : l.most = some n) (small : n ≤ sizeLine) (dflt : d.params.defaults = []) (room : Room (N + 2) callerA) (there : ∀ (w : World) (h : Heap), YP w h → (K w.params).In h) (L : LawIs Pr N i n)
    (F : ∀ (w : World) (mg : Str → Option Value) (fa : Addr) (h : Heap), (K w.params).In h → h.Ns mainGlobals mg → mg d.name = some (.ref fa) →
      ∃ (Γ : Tab) (df : Def) (fd : FuncData), TabOk I Γ (K w.params) mg Pr ∧ Pr.defs[i]? = some df ∧ DefOk I (K w.params) mg y df fa fd [x] ∧ ∀ (s : Shared) (u : Value), BindsTo s fd ⟨[u], []⟩ [(x, u)]) :
    PySem.W.WalkO q loose XP YP l.row.toRowW d [] (fun f vs => PySem.call f vs) := by
  refine Att.attach_call most dflt fun w s0 s1 mg mb fa o pm cd doc a us ns Gr Yw _ _ _ hmg hobj hints hlen gens => ?_
  have inn := there w _ Yw
  obtain ⟨Γ, df, fd, T, hdf, D, bind1⟩ := F w mg fa _ inn Gr.T.g hmg
  refine law_call (CX := L2.CX l.prog w) (sp := spI Γ ((orc Pr N).call i) 1) inn Gr.T.g Gr.T.b Gr.T.builtins Gr.T.nolimit gens hobj hints (Nat.le_trans hlen small) room
    (fun base _ _ => defs_ok T N i y df fa fd [x] hdf D) bind1 (fun H _ hS => ?_) (fun H e s' z => ?_)
  · refine law_sp L hlen ?_
    rw [← T.gk]
    rcases hS with hS | ⟨ob, its, k, e1, e2, e3, e4, e5, e6⟩
    · exact .inl hS
    · have e7 := inn a ob e1
      rw [hobj] at e7
      cases e7
      have e8 : its = us.toArray := by
        injection e4 with z _
        exact z.symm
      subst e8
      exact .inr ⟨us, _, e1, by simpa using e5, by simpa using e6⟩
  · obtain ⟨_, _, _, _, _, _, _, _, _, _, _, _, z⟩ := z
    exact z
theorem ok_def {I : Inf} {K : PySem.W.Frag} {mg : Str → Option Value} {d : Def} {N ps : List Str} {x qual : Str} {st : Stmt} {h : Heap} {a : Addr} {od an : Option Addr} {sl : Array (Option Value)} {oc kV dc pm cd ct : Value} (S : FnScope N ps (defScope st)) (m : mSs I N (defScope st) d.body (defBody st) = true)
    (hb : ∀ (kV doc pm : Value) (an : Option Addr) (cdv ct : Value) (us : List Value), us.length = ps.length → bindArgs (PySem.W.fnOf x qual (defArgs st) (defBody st) (defScope st) .none kV doc pm an cdv ct) ⟨us, []⟩ = pure (ps.zip us))
    (X : K.In h) (G : h.Ns mainGlobals mg) (e : PySem.W.nsIn K mainGlobals x = some (some (.ref a)))
    (l : K.lookup a = some ⟨oc, od, .func (PySem.W.fnOf x qual (defArgs st) (defBody st) (defScope st) .none kV dc pm an cd ct), sl⟩) (c : PySem.W.codeIn K cd qual = true) (k : PySem.W.keepIn K (.ref a) = true) (hn : d.n = N.length) (hp : d.np = ps.length) :
    DefOk I K mg x d a (PySem.W.fnOf x qual (defArgs st) (defBody st) (defScope st) .none kV dc pm an cd ct) ps :=
  ⟨⟨qual, st, N, fun_mk l c k, S, m, hn⟩, PySem.W.mg_of X G e, (fun_mk l c k).binds hb, hp⟩
/-- def by def -/
def TabL (I : Inf) (K : PySem.W.Frag) (mg : Str → Option Value) : List Str → List Def → Prop
  | [], _ => True
  | x :: xs, d :: ds => (∃ a fd ps, DefOk I K mg x d a fd ps) ∧ TabL I K mg xs ds
  | _ :: _, [] => False
theorem TabL.at {I : Inf} {K : PySem.W.Frag} {mg : Str → Option Value} : ∀ {xs : List Str} {ds : List Def}, TabL I K mg xs ds → ∀ (f : Nat) (x : Str), xs[f]? = some x → ∃ d a fd ps, ds[f]? = some d ∧ DefOk I K mg x d a fd ps
  | [], _, _, f, x, h => by simp at h
  | y :: ys, [], t, _, _, _ => t.elim
  | y :: ys, d :: ds, t, f, x, h => by
    cases f with
    | zero =>
      simp at h
      subst h
      obtain ⟨a, fd, ps, D⟩ := t.1
      exact ⟨d, a, fd, ps, rfl, D⟩
    | succ f => exact TabL.at t.2 f x (by simpa using h)
/-- a class over ValueError with its own __init__, checked -/
def oexB (K : PySem.W.Frag) (C : Addr) : Bool := match K.lookup C with
  | some ⟨.type "type", _, .cls cd, sl⟩ => (match cd.mro, sl.toList with
    | .ref C' :: bm, [_, _, _, _, some (.builtin n), _] => C' == C && n == "ValueError.__new__" && !cd.hasDel && cd.hasDict && PySem.HandSPX.refsVE bm
    | _, _ => false)
  | _ => false
theorem oexB_ok {K : PySem.W.Frag} {C : Addr} (q : oexB K C = true) : ∃ nm q N bs bm sn sub ab col dd k0 k1 k2 k3 k5, K.lookup C = some (excClassObj nm q C N bs bm true sn sub ab col dd k0 k1 k2 k3 k5 "ValueError.__new__") ∧ PySem.HandSPX.refsVE bm = true := by
  unfold oexB at q
  split at q
  · rename_i dd cd sl ho
    split at q
    · rename_i C' bm k0 k1 k2 k3 n k5 hm hs
      simp only [Bool.and_eq_true, beq_iff_eq, Bool.not_eq_true'] at q
      obtain ⟨⟨⟨⟨rfl, rfl⟩, hdel⟩, hd⟩, hr⟩ := q
      obtain ⟨nm, bs, mro, ns, qn, hdd, sn, sub, ab, col, del⟩ := cd
      dsimp only at hm hdel hd
      subst hm hdel hd
      have hsl : sl = #[k0, k1, k2, k3, some (.builtin "ValueError.__new__"), k5] := by
        obtain ⟨l⟩ := sl
        simp only at hs
        rw [hs]
      subst hsl
      exact ⟨nm, qn, ns, bs, bm, sn, sub, ab, col, dd, k0, k1, k2, k3, k5, ho, hr⟩
    · cases q
  · cases q
/-- what the written part says of the class at C -/
def exB (K : PySem.W.Frag) (C : Addr) (fs : List Str) : Bool :=
  oexB K C && decide (PySem.W.findIn K (.ref C) "__setattr__" = some (some (.builtin "object.__setattr__"))) && decide (PySem.W.typeIn K (.ref C) = some (.type "type")) && PySem.W.keepIn K (.ref C) && xfB K C && fs.all fun f => decide (PySem.W.findIn K (.ref C) f = some none)
def isVI : Option PySem.W.CFound → Bool
  | some (.val (.builtin n)) => n == "ValueError.__init__"
  | _ => false
theorem isVI_ok {o : Option PySem.W.CFound} (h : isVI o = true) : o = some (.val (.builtin "ValueError.__init__")) := by
  unfold isVI at h
  split at h
  · rw [beq_iff_eq.mp h]
  · cases h
def baB (K : PySem.W.Frag) (S : Addr) : Bool :=
  decide (PySem.W.specialIn K (.ref S) "__getattribute__" = some (some (.builtin "type.__getattribute__"))) && PySem.W.readsIn K S (.type "type") && isVI (PySem.W.findCls K (.ref S) (.type "type") "__init__")
/-- what the text says of its __init__ -/
def iniB (fs ps : List Str) (st : Stmt) : Bool :=
  isIni fs ps (defBody st) && decide (ps.length = fs.length) && glb (defScope st) "SharedError" && (("self" : Str) :: ps).all (fun y => decide ((defScope st).names.lookup y = some .local) && nmOk y) && decide fs.Nodup && decide (fs ≠ []) && decide (fs.length ≤ 900)
theorem ex_mk {Γ : Tab} {K : PySem.W.Frag} {mg : Str → Option Value} {c : Nat} {x qual : Str} {fs ps : List Str} {st : Stmt} {h : Heap} {C S fI : Addr} {od an : Option Addr} {sl : Array (Option Value)} {oc kV dc pm cd ct : Value} (X : K.In h) (G : h.Ns mainGlobals mg) (hC : Γ.exc c = C) (hF : Γ.xfl c = fs)
    (hx : (x == ("__debug__" : Str)) = false) (sc : FnScope ("self" :: ps) ("self" :: ps) (defScope st)) (ib : iniB fs ps st = true)
    (hb : ∀ (kV doc pm : Value) (an : Option Addr) (cdv ct : Value) (us : List Value), us.length = (("self" : Str) :: ps).length → bindArgs (PySem.W.fnOf "__init__" qual (defArgs st) (defBody st) (defScope st) .none kV doc pm an cdv ct) ⟨us, []⟩ = pure ((("self" : Str) :: ps).zip us))
    (xc : PySem.W.nsIn K mainGlobals x = some (some (.ref C))) (ok : exB K C fs = true) (xS : PySem.W.nsIn K mainGlobals "SharedError" = some (some (.ref S))) (bS : baB K S = true)
    (ic : PySem.W.findIn K (.ref C) "__init__" = some (some (.ref fI))) (tc : PySem.W.typeIn K (.ref fI) = some (.type "function"))
    (l : K.lookup fI = some ⟨oc, od, .func (PySem.W.fnOf "__init__" qual (defArgs st) (defBody st) (defScope st) .none kV dc pm an cd ct), sl⟩) (jc : PySem.W.codeIn K cd qual = true) (jk : PySem.W.keepIn K (.ref fI) = true) : ExDef Γ K mg c x fs := by
  subst hC hF
  unfold exB at ok
  simp only [Bool.and_eq_true, decide_eq_true_eq, List.all_eq_true] at ok
  obtain ⟨⟨⟨⟨⟨o1, o2⟩, o3⟩, o4⟩, o5⟩, o6⟩ := ok
  have xf := xfB_ok o5
  unfold baB at bS
  simp only [Bool.and_eq_true, decide_eq_true_eq] at bS
  unfold iniB at ib
  simp only [Bool.and_eq_true, decide_eq_true_eq, List.all_eq_true] at ib
  obtain ⟨⟨⟨⟨⟨⟨i1, i2⟩, i3⟩, i4⟩, i5⟩, i6⟩, i7⟩ := ib
  exact ⟨PySem.W.mg_of X G xc, hx, rfl, ⟨oexB_ok o1, o2, xf.exC, o3, o4⟩, xf, o6, i5, i6, i7,
    ⟨fI, S, _, ps, qual, st, ic, tc, (fun_mk l jc jk).binds hb, fun_mk l jc jk, sc, i1, i2, i3, fun y hy => (i4 y hy).1, fun y hy => (i4 y hy).2, PySem.W.mg_of X G xS, bS.1.1, bS.1.2, isVI_ok bS.2⟩⟩
/-- the classes of exceptions in order -/
def ExL (Γ : Tab) (K : PySem.W.Frag) (mg : Str → Option Value) : Nat → List (Str × List Str) → Prop
  | _, [] => True
  | n, p :: ps => ExDef Γ K mg n p.1 p.2 ∧ ExL Γ K mg (n + 1) ps
theorem ExL.at {Γ : Tab} {K : PySem.W.Frag} {mg : Str → Option Value} : ∀ {l : List (Str × List Str)} {n : Nat}, ExL Γ K mg n l → ∀ (c : Nat) (x : Str) (fs : List Str), l[c]? = some (x, fs) → ExDef Γ K mg (n + c) x fs
  | [], _, _, _, _, _, h => by simp at h
  | p :: l, n, t, c, x, fs, h => by
    cases c with
    | zero =>
      simp at h
      subst h
      exact t.1
    | succ c =>
      have := ExL.at t.2 c x fs (by simpa using h)
      have e : n + 1 + c = n + (c + 1) := by omega
      rw [e] at this
      exact this
def exmB (K : PySem.W.Frag) (cs : List Addr) : Bool := (List.range cs.length).all fun c => (List.range cs.length).all fun h => PySem.W.exmOne K (.ref (cs.getD c 0)) (.ref (cs.getD h 0)) == some (decide (c = h)) && clsQB K (cs.getD c 0)
def tabΓ (K : PySem.W.Frag) (cs : List Addr) (xs : List (Str × List Str)) : Tab := ⟨K, fun _ => 0, fun _ => [], fun c => cs.getD c 0, fun c => (xs.map (·.2)).getD c []⟩
theorem tab_of {I : Inf} {K : PySem.W.Frag} {mg : Str → Option Value} {Pr : Prg} {i : Nat} {d : Def} {x y : Str} {h : Heap} {fa a : Addr} {fd : FuncData} (cs : List Addr) (X : K.In h) (G : h.Ns mainGlobals mg)
    (hb : ∀ x ∈ biNames, PySem.W.nsIn K mainGlobals x = some none) (hc : ∀ x d, (x, d) ∈ I.con → ∃ u, mg x = some u ∧ RelV (datV d) u) (hf : TabL I K mg I.fns Pr.defs) (hl : cs.length = I.exn.length) (hex : ExL (tabΓ K cs I.exn) K mg 0 I.exn) (hem : exmB K cs = true) (hd : Pr.defs[i]? = some d) (D : DefOk I K mg y d a fd [x]) (hfa : mg y = some (.ref fa))
    (hbd : ∀ (s : Shared) (u : Value), BindsTo s fd ⟨[u], []⟩ [(x, u)]) :
    ∃ (Γ : Tab) (df : Def) (fd : FuncData), TabOk I Γ K mg Pr ∧ Pr.defs[i]? = some df ∧ DefOk I K mg y df fa fd [x] ∧ ∀ (s : Shared) (u : Value), BindsTo s fd ⟨[u], []⟩ [(x, u)] := by
  have e := hfa.symm.trans D.hm
  cases e
  refine ⟨tabΓ K cs I.exn, d, fd, ⟨rfl, fun x hx => PySem.W.mg_none_of X G (hb x hx), hc, hf.at, fun c x fs h => ?_, fun c h hc hh => ?_⟩, hd, D, hbd⟩
  · have := hex.at c x fs h
    rw [Nat.zero_add] at this
    exact this
  · unfold exmB at hem
    simp only [List.all_eq_true, List.mem_range, Bool.and_eq_true, beq_iff_eq] at hem
    have hcl : c < cs.length := by
      rw [hl]
      by_cases z : c < I.exn.length
      · exact z
      · exfalso
        apply hc
        show ((I.exn.map (·.2)).getD c []) = []
        rw [List.getD_eq_getElem?_getD, List.getElem?_eq_none (by rw [List.length_map]; omega)]
        rfl
    have := hem c hcl h (by rw [hl]; exact hh)
    exact ⟨this.1, clsQB_ok this.2⟩
end VI
/-! VI: loops and comprehensions in plain data -/
namespace VI
theorem wipe1 {i : Nat} {ρ : Env} {s : Slot} : wipeL [i] (ρ.set i s) = ρ.set i .emp := by simp [wipeL]
theorem lcI_pure {i : Nat} {c : Env → Out Bool} {e : Env → Out Dat} {ρ1 : Env} {f : Dat → Dat} {g : Dat → Bool} (hi : i < ρ1.length) :
    ∀ (ds acc : List Dat) (ρ : Env), wipeL [i] ρ = ρ1.set i .emp → (∀ d ∈ ds, c (ρ1.set i (.imm d)) = .ok (g d) (ρ1.set i (.imm d))) → (∀ d ∈ ds, g d = true → e (ρ1.set i (.imm d)) = .ok (f d) (ρ1.set i (.imm d))) →
    ∃ ρ', lcI (fun d ρ => bind (.one i) d (wipeL [i] ρ)) c e ds acc ρ = .ok (acc ++ (ds.filter g).map f) ρ' ∧ wipeL [i] ρ' = ρ1.set i .emp
  | [], acc, ρ, h, _, _ => ⟨ρ, by simp [lcI], h⟩
  | d :: ds, acc, ρ, h, hc, he => by
    have hb : bind (.one i) d (wipeL [i] ρ) = some (ρ1.set i (.imm d)) := by
      rw [h]
      show setS i (.imm d) (ρ1.set i .emp) = _
      unfold setS
      rw [List.getElem?_set_self hi]
      simp
    have c1 := hc d List.mem_cons_self
    cases hg : g d with
    | false =>
      obtain ⟨ρ', k1, k2⟩ := lcI_pure hi ds acc (ρ1.set i (.imm d)) wipe1 (fun x hx => hc x (List.mem_cons_of_mem _ hx)) (fun x hx => he x (List.mem_cons_of_mem _ hx))
      refine ⟨ρ', ?_, k2⟩
      rw [lcI, hb]
      dsimp only
      rw [c1, hg, seqN_ok, List.filter_cons_of_neg (by simp [hg])]
      exact k1
    | true =>
      have e1 := he d List.mem_cons_self hg
      obtain ⟨ρ', k1, k2⟩ := lcI_pure hi ds (acc ++ [f d]) (ρ1.set i (.imm d)) wipe1 (fun x hx => hc x (List.mem_cons_of_mem _ hx)) (fun x hx => he x (List.mem_cons_of_mem _ hx))
      refine ⟨ρ', ?_, k2⟩
      rw [lcI, hb]
      dsimp only
      rw [c1, hg, seqN_ok]
      simp only [if_true]
      rw [e1, seqN_ok, k1, List.filter_cons_of_pos hg]
      simp
theorem restore1 {i : Nat} {ρ1 ρ : Env} (hi : i < ρ1.length) (h : wipeL [i] ρ = ρ1.set i .emp) : restore [i] ρ1 ρ = ρ1 := by
  unfold restore
  rw [List.getElem?_eq_getElem hi]
  simp only [restore]
  have e : (wipeL [i] ρ).set i ρ1[i] = ρ.set i ρ1[i] := by simp [wipeL]
  rw [← e, h, List.set_set, List.set_getElem_self]
/-- a comprehension whose turns change nothing -/
theorem lc_pure {O : Orc} {e : E} {i : Nat} {it : It} {c : Es} {ρ ρ1 : Env} {ds : List Dat} {lk : Option Nat} (f : Dat → Dat) (g : Dat → Bool) (h1 : evalI O it ρ = .ok (ds, lk) ρ1) (hf : freed [i] ρ1 = true) (hi : i < ρ1.length)
    (hc : ∀ d ∈ ds, evalC O c (ρ1.set i (.imm d)) = .ok (g d) (ρ1.set i (.imm d))) (he : ∀ d ∈ ds, g d = true → (stl (evalE O e (ρ1.set i (.imm d)))).seq capt = .ok (f d) (ρ1.set i (.imm d))) :
    evalE O (.lc e (.one i) it c) ρ = .ok (.fr (.lst ((ds.filter g).map f))) (unlock lk ρ1) := by
  rw [evalE, h1, seq_ok]
  simp only [Pat.ix, hf, if_true]
  obtain ⟨s, hs⟩ : ∃ s, ρ1[i]? = some s := ⟨_, List.getElem?_eq_getElem hi⟩
  obtain ⟨ρ', k1, k2⟩ := lcI_pure (c := evalC O c) (e := fun ρ => (stl (evalE O e ρ)).seq capt) (f := f) (g := g) hi ds [] ρ1 (by simp [wipeL]) hc he
  rw [k1, seq_ok, restore1 hi k2]
  simp
/-- a loop that goes through -/
theorem forI_fold {α : Type} {step : Dat → Env → Ctl} (f : α → Dat → α) (M : α → Slot → Env) : ∀ (ds : List Dat) (a : α) (x : Slot), (∀ a x d, d ∈ ds → step d (M a x) = .nx (M (f a d) (.imm d)) ∨ step d (M a x) = .cnt (M (f a d) (.imm d))) → ∃ x', forI step ds (M a x) = .nx (M (ds.foldl f a) x')
  | [], a, x, _ => ⟨x, rfl⟩
  | d :: ds, a, x, h => by
    obtain ⟨x', k⟩ := forI_fold f M ds (f a d) (.imm d) fun a x d hd => h a x d (List.mem_cons_of_mem _ hd)
    refine ⟨x', ?_⟩
    rw [forI]
    rcases h a x d List.mem_cons_self with e | e <;> rw [e] <;> exact k
theorem eq_ii (i j : Int) : eqD (.int i) (.int j) = some (decide (i = j)) := by
  unfold eqD
  show grd true (PySem.PyData.eqv (.int i) (.int j)) = _
  rw [grd_true]
  rfl
theorem eq_bb (i j : Bool) : eqD (.bl i) (.bl j) = some (decide (i = j)) := by cases i <;> cases j <;> rfl
/-! ### the evaluator's steps, but for comprehensions -/
section
variable {O : Orc} {ρ : Env}
@[simp] theorem ev_var {i : Nat} : evalE O (.var i) ρ = (match ρ[i]? with
    | some (.imm d) => .ok (.imm d) ρ
    | some (.own _ _ _) => .ok (.bor i) ρ
    | _ => .bad) := by first | (rw [evalE]; done) | (rw [evalE]; rfl)
@[simp] theorem ev_cst {d : Dat} : evalE O (.cst d) ρ = (.ok (.imm d) ρ) := by first | (rw [evalE]; done) | (rw [evalE]; rfl)
@[simp] theorem ev_bin {o : Bo} {a : E} {b : E} : evalE O (.bin o a b) ρ = ((stl (evalE O a ρ)).seq fun x ρ1 => (stl (evalE O b ρ1)).seq fun y ρ2 => lift2 (binD o) x y ρ2) := by first | (rw [evalE]; done) | (rw [evalE]; rfl)
@[simp] theorem ev_neg {a : E} : evalE O (.neg a) ρ = ((stl (evalE O a ρ)).seq fun x ρ1 => lift1 negD x ρ1) := by first | (rw [evalE]; done) | (rw [evalE]; rfl)
@[simp] theorem ev_cmp {o : Co} {a : E} {b : E} : evalE O (.cmp o a b) ρ = ((stl (evalE O a ρ)).seq fun x ρ1 => (stl (evalE O b ρ1)).seq fun y ρ2 => lift2 (cmpD o) x y ρ2) := by first | (rw [evalE]; done) | (rw [evalE]; rfl)
@[simp] theorem ev_chn {o : Co} {o' : Co} {a : E} {b : E} {c : E} : evalE O (.chn o o' a b c) ρ = ((stl (evalE O a ρ)).seq fun x ρ1 => (stl (evalE O b ρ1)).seq fun y ρ2 => match deref ρ2 x, deref ρ2 y with
    | some d, some e => (match cmpB o d e with
      | some true => (stl (evalE O c ρ2)).seq fun z ρ3 => lift2 (cmpD o') y z ρ3
      | some false => .ok (.imm (.bl false)) ρ2
      | none => .bad)
    | _, _ => .bad) := by first | (rw [evalE]; done) | (rw [evalE]; rfl)
@[simp] theorem ev_bop {k : Bool} {es : Es} : evalE O (.bop k es) ρ = (evalB O k es ρ) := by first | (rw [evalE]; done) | (rw [evalE]; rfl)
@[simp] theorem ev_not {a : E} : evalE O (.not a) ρ = ((stl (evalE O a ρ)).seq fun x ρ1 => (testR x ρ1).seq fun b ρ2 => .ok (.imm (.bl (!b))) ρ2) := by first | (rw [evalE]; done) | (rw [evalE]; rfl)
@[simp] theorem ev_ife {c : E} {a : E} {b : E} : evalE O (.ife c a b) ρ = ((stl (evalE O c ρ)).seq fun x ρ1 => (testR x ρ1).seq fun t ρ2 => if t then evalE O a ρ2 else evalE O b ρ2) := by first | (rw [evalE]; done) | (rw [evalE]; rfl)
@[simp] theorem ev_tup {es : Es} : evalE O (.tup es) ρ = ((evalAs O es ρ).seq fun rs ρ1 => (capts rs ρ1).seq fun ds ρ2 => if ds.length ≤ 16777216 then .ok (.imm (.tup ds)) ρ2 else .bad) := by first | (rw [evalE]; done) | (rw [evalE]; rfl)
@[simp] theorem ev_lst {es : Es} : evalE O (.lst es) ρ = ((evalAs O es ρ).seq fun rs ρ1 => (capts rs ρ1).seq fun ds ρ2 => if ds.length ≤ 16777216 then .ok (.fr (.lst ds)) ρ2 else .bad) := by first | (rw [evalE]; done) | (rw [evalE]; rfl)
@[simp] theorem ev_dnew  : evalE O .dnew ρ = (.ok (.fr (.dK [])) ρ) := by first | (rw [evalE]; done) | (rw [evalE]; rfl)
@[simp] theorem ev_dnewT  : evalE O .dnewT ρ = (.ok (.fr (.dT [])) ρ) := by first | (rw [evalE]; done) | (rw [evalE]; rfl)
@[simp] theorem ev_dl1 {k : E} {v : E} : evalE O (.dl1 k v) ρ = ((stl (evalE O k ρ)).seq fun x ρ1 => (stl (evalE O v ρ1)).seq fun y ρ2 => (capt y ρ2).seq fun d ρ3 => match deref ρ3 x with
    | some kd => (match keyD kd with
      | some key => .ok (.fr (.dK [(key, d)])) ρ3
      | none => .bad)
    | none => .bad) := by first | (rw [evalE]; done) | (rw [evalE]; rfl)
@[simp] theorem ev_idx {a : E} {b : E} : evalE O (.idx a b) ρ = ((stl (evalE O a ρ)).seq fun x ρ1 => (stl (evalE O b ρ1)).seq fun y ρ2 => lift2 idxD x y ρ2) := by first | (rw [evalE]; done) | (rw [evalE]; rfl)
@[simp] theorem ev_slc {a : E} {lo : Es} {hi : Es} : evalE O (.slc a lo hi) ρ = ((stl (evalE O a ρ)).seq fun x ρ1 => (evalO O lo ρ1).seq fun l ρ2 => (evalO O hi ρ2).seq fun h ρ3 => lift1 (fun d => slcD d l h) x ρ3) := by first | (rw [evalE]; done) | (rw [evalE]; rfl)
@[simp] theorem ev_call {f : Nat} {es : Es} : evalE O (.call f es) ρ = ((evalAs O es ρ).seq fun rs ρ1 => doCall (O.call f) rs ρ1) := by first | (rw [evalE]; done) | (rw [evalE]; rfl)
@[simp] theorem ev_mk {c : Nat} {es : Es} : evalE O (.mk c es) ρ = ((evalAs O es ρ).seq fun rs ρ1 => doCall (O.make c) rs ρ1) := by first | (rw [evalE]; done) | (rw [evalE]; rfl)
@[simp] theorem ev_meth {c : Nat} {f : Nat} {a : E} {es : Es} : evalE O (.meth c f a es) ρ = ((stl (evalE O a ρ)).seq fun x ρ1 => match deref ρ1 x with
    | some (.ins c' _) => if c' = c then (evalAs O es ρ1).seq fun rs ρ2 => doCall (O.call f) (x :: rs) ρ2 else .bad
    | _ => .bad) := by first | (rw [evalE]; done) | (rw [evalE]; rfl)
@[simp] theorem ev_fld {c : Nat} {k : Nat} {a : E} : evalE O (.fld c k a) ρ = ((stl (evalE O a ρ)).seq fun x ρ1 => lift1 (fun d => match d with | .ins c' xs => if c' = c then (xs[k]?).map .imm else none | _ => none) x ρ1) := by first | (rw [evalE]; done) | (rw [evalE]; rfl)
@[simp] theorem ev_bi {b : Bi} {es : Es} : evalE O (.bi b es) ρ = ((evalAs O es ρ).seq fun rs ρ1 => liftL (biD b) rs ρ1) := by first | (rw [evalE]; done) | (rw [evalE]; rfl)
@[simp] theorem ev_mut {m : Mu} {i : Nat} {es : Es} : evalE O (.mut m i es) ρ = (if isLst ρ[i]? then (evalAs O es ρ).seq fun rs ρ1 => (capts rs ρ1).seq fun ds ρ2 => mutS m i ds ρ2 else .bad) := by first | (rw [evalE]; done) | (rw [evalE]; rfl)
@[simp] theorem ev_rl1 {a : E} : evalE O (.rl1 a) ρ = ((stl (evalE O a ρ)).seq fun x ρ1 => lift1 rl1D x ρ1) := by first | (rw [evalE]; done) | (rw [evalE]; rfl)
@[simp] theorem ev_rl3 {es : Es} : evalE O (.rl3 es) ρ = ((evalAs O es ρ).seq fun rs ρ1 => liftL rl3L rs ρ1) := by first | (rw [evalE]; done) | (rw [evalE]; rfl)
@[simp] theorem ev_rl2 {a : E} {b : E} : evalE O (.rl2 a b) ρ = ((stl (evalE O a ρ)).seq fun x ρ1 => (stl (evalE O b ρ1)).seq fun y ρ2 => lift2 rl2D x y ρ2) := by first | (rw [evalE]; done) | (rw [evalE]; rfl)
@[simp] theorem ev_isi {t : Ty} {a : E} : evalE O (.isi t a) ρ = ((stl (evalE O a ρ)).seq fun x ρ1 => lift1 (fun d => (tyD t d).map fun b => .imm (.bl b)) x ρ1) := by first | (rw [evalE]; done) | (rw [evalE]; rfl)
@[simp] theorem ev_frz {a : E} : evalE O (.frz a) ρ = ((stl (evalE O a ρ)).seq fun x ρ1 => (capt x ρ1).seq fun d ρ2 => .ok (.imm d) ρ2) := by first | (rw [evalE]; done) | (rw [evalE]; rfl)
@[simp] theorem evs_nil : evalAs O .nil ρ = .ok [] ρ := by rw [evalAs]
@[simp] theorem evs_cons {e : E} {es : Es} : evalAs O (.cons e es) ρ = (evalE O e ρ).seq fun r ρ1 => (evalAs O es ρ1).seq fun rs ρ2 => .ok (r :: rs) ρ2 := by rw [evalAs]
@[simp] theorem evo_nil : evalO O .nil ρ = .ok none ρ := by rw [evalO]
@[simp] theorem evo_one {e : E} : evalO O (.cons e .nil) ρ = (stl (evalE O e ρ)).seq fun x ρ1 => partR x ρ1 := by rw [evalO]
@[simp] theorem evb_one {k : Bool} {e : E} : evalB O k (.cons e .nil) ρ = evalE O e ρ := by rw [evalB]
@[simp] theorem evb_two {k : Bool} {e e2 : E} {es : Es} : evalB O k (.cons e (.cons e2 es)) ρ = (stl (evalE O e ρ)).seq fun x ρ1 => (testR x ρ1).seq fun b ρ2 => if b = k then evalB O k (.cons e2 es) ρ2 else .ok x ρ2 := by rw [evalB]
@[simp] theorem evc_nil : evalC O .nil ρ = .ok true ρ := by rw [evalC]
@[simp] theorem evc_one {e : E} : evalC O (.cons e .nil) ρ = (stl (evalE O e ρ)).seq fun x ρ1 => testR x ρ1 := by rw [evalC]
@[simp] theorem x_settle_imm {d : Dat} : settle (.imm d) = .imm d := (rfl)
@[simp] theorem x_settle_bor {i : Nat} : settle (.bor i) = .bor i := (rfl)
@[simp] theorem x_settle_fr {o : OD} : settle (.fr o) = .imm o.toDat := (rfl)
@[simp] theorem x_deref_imm {d : Dat} : deref ρ (.imm d) = some d := (rfl)
@[simp] theorem x_deref_fr {o : OD} : deref ρ (.fr o) = some o.toDat := (rfl)
@[simp] theorem x_deref_bor {i : Nat} : deref ρ (.bor i) = match ρ[i]? with | some s => slotDat s | none => none := (rfl)
@[simp] theorem x_derefs_nil : derefs ρ [] = some [] := (rfl)
@[simp] theorem x_derefs_cons {r : Res} {rs : List Res} : derefs ρ (r :: rs) = match deref ρ r, derefs ρ rs with | some d, some ds => some (d :: ds) | _, _ => none := (rfl)
@[simp] theorem x_capt_imm {d : Dat} : capt (.imm d) ρ = .ok d ρ := (rfl)
@[simp] theorem x_capt_fr {o : OD} : capt (.fr o) ρ = .ok o.toDat ρ := (rfl)
@[simp] theorem x_capts_nil : capts [] ρ = .ok [] ρ := (rfl)
@[simp] theorem x_capts_cons {r : Res} {rs : List Res} : capts (r :: rs) ρ = (capt r ρ).seq fun d ρ1 => (capts rs ρ1).seq fun ds ρ2 => .ok (d :: ds) ρ2 := (rfl)
@[simp] theorem x_asg_imm {i : Nat} {d : Dat} : asgR i (.imm d) ρ = nxO (setS i (.imm d) ρ) := (rfl)
@[simp] theorem x_asg_fr {i : Nat} {o : OD} : asgR i (.fr o) ρ = nxO (setS i (.own false false o) ρ) := (rfl)
@[simp] theorem x_ret_imm {d : Dat} : retR (.imm d) ρ = .ret (.imm d) ρ := (rfl)
@[simp] theorem x_ret_fr {o : OD} : retR (.fr o) ρ = .ret (.fr o) ρ := (rfl)
@[simp] theorem x_args_nil : argsS ρ [] = some [] := (rfl)
@[simp] theorem x_args_cons {r : Res} {rs : List Res} : argsS ρ (r :: rs) = match argS ρ r, argsS ρ rs with | some s, some ss => some (s :: ss) | _, _ => none := (rfl)
@[simp] theorem x_arg_imm {d : Dat} : argS ρ (.imm d) = some (.imm d) := (rfl)
@[simp] theorem x_arg_fr {o : OD} : argS ρ (.fr o) = some (.own false false o) := (rfl)
@[simp] theorem x_lent_nil : lent ρ [] = [] := (rfl)
@[simp] theorem x_lent_imm {d : Dat} {rs : List Res} : lent ρ (.imm d :: rs) = lent ρ rs := (rfl)
@[simp] theorem x_lent_fr {o : OD} {rs : List Res} : lent ρ (.fr o :: rs) = lent ρ rs := (rfl)
@[simp] theorem x_lent_bor {i : Nat} {rs : List Res} : lent ρ (.bor i :: rs) = if isOwn ρ[i]? then i :: lent ρ rs else lent ρ rs := (rfl)
@[simp] theorem x_wipe_nil : wipeL [] ρ = ρ := (rfl)
@[simp] theorem x_wipe_cons {i : Nat} {is : List Nat} : wipeL (i :: is) ρ = wipeL is (ρ.set i .emp) := (rfl)
@[simp] theorem x_own_own {p l : Bool} {o : OD} : isOwn (some (.own p l o)) = true := (rfl)
@[simp] theorem x_own_imm {d : Dat} : isOwn (some (.imm d)) = false := (rfl)
@[simp] theorem x_own_emp : isOwn (some .emp) = false := (rfl)
@[simp] theorem x_lst_own {p l : Bool} {xs : List Dat} : isLst (some (.own p l (.lst xs))) = true := (rfl)
@[simp] theorem x_retO_imm {args : List Slot} {np : Nat} {d : Dat} : retO args np (.imm d) ρ = if outsOk args (ρ.take np) then .ret (.imm d) (ρ.take np) else .bad := (rfl)
@[simp] theorem x_retO_fr {args : List Slot} {np : Nat} {o : OD} : retO args np (.fr o) ρ = if outsOk args (ρ.take np) then .ret (.fr o) (ρ.take np) else .bad := (rfl)
@[simp] theorem x_eq_ii (i j : Int) : eqD (.int i) (.int j) = some (decide (i = j)) := eq_ii i j
@[simp] theorem x_eq_bb (i j : Bool) : eqD (.bl i) (.bl j) = some (decide (i = j)) := eq_bb i j
@[simp] theorem x_sc {d : Dat} : sc d = some (.imm d) := (rfl)
@[simp] theorem x_truth_b {b : Bool} : truthD (.bl b) = some b := (rfl)
@[simp] theorem x_truth_n : truthD .non = some false := (rfl)
@[simp] theorem x_truth_i {i : Int} : truthD (.int i) = some (i != 0) := (rfl)
@[simp] theorem x_test_imm {d : Dat} : testR (.imm d) ρ = .of (truthD d) ρ := (rfl)
@[simp] theorem x_part_int {i : Int} : partR (.imm (.int i)) ρ = .ok (some i) ρ := (rfl)
@[simp] theorem x_lock_lst {ds : List Dat} : lockR (.imm (.lst ds)) ρ = .ok (ds, none) ρ := (rfl)
@[simp] theorem x_lock_tup {ds : List Dat} : lockR (.imm (.tup ds)) ρ = .ok (ds, none) ρ := (rfl)
@[simp] theorem x_unlock : unlock none ρ = ρ := (rfl)
end
section
variable {O : Orc} {ρ : Env}
@[simp] theorem x_ss_nil : execs O .nil ρ = .nx ρ := by rw [execs]
@[simp] theorem x_ss_cons {s : S} {ss : Ss} : execs O (.cons s ss) ρ = (exec O s ρ).andThen fun ρ1 => execs O ss ρ1 := by rw [execs]
@[simp] theorem x_s_asg {i : Nat} {e : E} : exec O (.asg i e) ρ = ((evalE O e ρ).ctl fun r ρ1 => asgR i r ρ1) := by first | (rw [exec]; done) | (rw [exec]; rfl)
@[simp] theorem x_s_asgT {is : List Nat} {e : E} : exec O (.asgT is e) ρ = ((stl (evalE O e ρ)).ctl fun r ρ1 => (capt r ρ1).ctl fun d ρ2 => nxO (bind (.many is) d ρ2)) := by first | (rw [exec]; done) | (rw [exec]; rfl)
@[simp] theorem x_s_aug {i : Nat} {o : Bo} {e : E} : exec O (.aug i o e) ρ = (match ρ[i]? with
    | some (.imm d0) => (stl (evalE O e ρ)).ctl fun r ρ1 => (match deref ρ1 r with
      | some d => (match binD o d0 d with
        | some (.imm x) => nxO (setS i (.imm x) ρ1)
        | _ => .bad)
      | none => .bad)
    | _ => .bad) := by first | (rw [exec]; done) | (rw [exec]; rfl)
@[simp] theorem x_s_sidx {i : Nat} {k : E} {e : E} : exec O (.sidx i k e) ρ = ((stl (evalE O e ρ)).ctl fun r ρ1 => (capt r ρ1).ctl fun d ρ2 => if isOwn ρ2[i]? then (stl (evalE O k ρ2)).ctl fun kr ρ3 => (match deref ρ3 kr, ρ3[i]? with
    | some kd, some (.own p false o) => (match stoD o kd d with | some o' => .nx (ρ3.set i (.own p false o')) | none => .bad)
    | _, _ => .bad)
    else .bad) := by first | (rw [exec]; done) | (rw [exec]; rfl)
@[simp] theorem x_s_augx {i : Nat} {k : E} {o : Bo} {e : E} : exec O (.augx i k o e) ρ = (if isOwn ρ[i]? then (stl (evalE O k ρ)).ctl fun kr ρ1 => (match deref ρ1 kr, ρ1[i]? with
    | some kd, some (.own _ _ ob) => (match idxD ob.toDat kd with
      | some (.imm d0) => (stl (evalE O e ρ1)).ctl fun r ρ2 => (match deref ρ2 r, deref ρ2 kr with
        | some d, some kd2 => (match binD o d0 d, ρ2[i]? with
          | some (.imm x), some (.own p false o2) => (match stoD o2 kd2 x with | some o' => .nx (ρ2.set i (.own p false o')) | none => .bad)
          | _, _ => .bad)
        | _, _ => .bad)
      | _ => .bad)
    | _, _ => .bad)
    else .bad) := by first | (rw [exec]; done) | (rw [exec]; rfl)
@[simp] theorem x_s_sfld {i : Nat} {c : Nat} {k : Nat} {e : E} : exec O (.sfld i c k e) ρ = ((stl (evalE O e ρ)).ctl fun r ρ1 => (capt r ρ1).ctl fun d ρ2 => match ρ2[i]? with
    | some (.own p false (.ins c' xs)) => if c' = c then (if k < xs.length then .nx (ρ2.set i (.own p false (.ins c (xs.set k d)))) else if k = xs.length then .nx (ρ2.set i (.own p false (.ins c (xs ++ [d])))) else .bad) else .bad
    | _ => .bad) := by first | (rw [exec]; done) | (rw [exec]; rfl)
@[simp] theorem x_s_exp {e : E} : exec O (.exp e) ρ = ((stl (evalE O e ρ)).ctl fun _ ρ1 => .nx ρ1) := by first | (rw [exec]; done) | (rw [exec]; rfl)
@[simp] theorem x_s_ret {e : E} : exec O (.ret e) ρ = ((evalE O e ρ).ctl fun r ρ1 => retR r ρ1) := by first | (rw [exec]; done) | (rw [exec]; rfl)
@[simp] theorem x_s_ife {c : E} {a : Ss} {b : Ss} : exec O (.ife c a b) ρ = ((stl (evalE O c ρ)).ctl fun x ρ1 => (testR x ρ1).ctl fun t ρ2 => if t then execs O a ρ2 else execs O b ρ2) := by first | (rw [exec]; done) | (rw [exec]; rfl)
@[simp] theorem x_s_brk  : exec O .brk ρ = (.brk ρ) := by first | (rw [exec]; done) | (rw [exec]; rfl)
@[simp] theorem x_s_cnt  : exec O .cnt ρ = (.cnt ρ) := by first | (rw [exec]; done) | (rw [exec]; rfl)
@[simp] theorem x_s_pas  : exec O .pas ρ = (.nx ρ) := by first | (rw [exec]; done) | (rw [exec]; rfl)
@[simp] theorem x_s_par {i j : Nat} {es : Es} : exec O (.par i j es) ρ = ((evalAs O es ρ).ctl fun rs ρ1 => (capts rs ρ1).ctl fun ds ρ2 => match ds with
    | [d, e] => nxO ((setS i (.imm d) ρ2).bind fun ρ3 => setS j (.imm e) ρ3)
    | _ => .bad) := by first | (rw [exec]; done) | (rw [exec]; rfl)
theorem x_s_try {b : Ss} {h : Hs} : exec O (.try b h) ρ = (match execs O b ρ with
    | .exc c xs ρ1 => hsel c xs ρ1 h
    | r => r) := by first | (rw [exec]; done) | (rw [exec]; rfl)
theorem x_try_exc {b : Ss} {h : Hs} {c : Nat} {xs : List Dat} {ρ1 : Env} (e : execs O b ρ = .exc c xs ρ1) : exec O (.try b h) ρ = hsel c xs ρ1 h := by rw [x_s_try, e]
theorem x_try_nx {b : Ss} {h : Hs} {ρ1 : Env} (e : execs O b ρ = .nx ρ1) : exec O (.try b h) ρ = .nx ρ1 := by rw [x_s_try, e]
theorem x_try_ret {b : Ss} {h : Hs} {r : Res} {ρ1 : Env} (e : execs O b ρ = .ret r ρ1) : exec O (.try b h) ρ = .ret r ρ1 := by rw [x_s_try, e]
@[simp] theorem x_hs_nil {c : Nat} {xs : List Dat} : hsel c xs ρ .nil = .exc c xs ρ := (rfl)
@[simp] theorem x_hs_cons {c : Nat} {xs : List Dat} {h i : Nat} {k : H1} {hs : Hs} : hsel c xs ρ (.cons h i k hs) = if c = h then (match setS i .emp ρ with
      | some ρ1 => h1 xs ρ1 i k
      | none => .bad) else hsel c xs ρ hs := rfl
@[simp] theorem x_h_ret {xs : List Dat} {i : Nat} {e : HE} : h1 xs ρ i (.ret e) = (match hev xs ρ e with | some d => .ret (.imm d) ρ | none => .bad) := (rfl)
@[simp] theorem x_h_asg {xs : List Dat} {i j : Nat} {e : HE} : h1 xs ρ i (.asg j e) = (match hev xs ρ e with | some d => if j = i then .bad else nxO (setS j (.imm d) ρ) | none => .bad) := (rfl)
@[simp] theorem x_he_cst {xs : List Dat} {d : Dat} : hev xs ρ (.cst d) = some d := by rw [hev]
@[simp] theorem x_he_isn {xs : List Dat} {c : Nat} {b : Bool} : hev xs ρ (.isn c b) = some (.bl b) := by rw [hev]
@[simp] theorem x_he_orr {xs : List Dat} {a b : HE} : hev xs ρ (.orr a b) = (match hev xs ρ a with | some (.bl true) => some (.bl true) | some (.bl false) => hev xs ρ b | _ => none) := by first | (rw [hev]; done) | (rw [hev]; rfl) | (rw [hev]; split <;> rfl)
@[simp] theorem x_he_fld {xs : List Dat} {k : Nat} : hev xs ρ (.fld k) = xs[k]? := by rw [hev]
@[simp] theorem x_he_var {xs : List Dat} {j : Nat} : hev xs ρ (.var j) = (match ρ[j]? with
    | some (.imm d) => some d
    | _ => none) := by first | (rw [hev]; done) | (rw [hev]; rfl)
@[simp] theorem x_he_tup {xs : List Dat} {es : HEs} : hev xs ρ (.tup es) = (match hevs xs ρ es with | some ds => grd (decide (ds.length ≤ 16777216)) (.tup ds) | none => none) := by first | (rw [hev]; done) | (rw [hev]; rfl)
@[simp] theorem x_he_lst {xs : List Dat} {es : HEs} : hev xs ρ (.lst es) = (match hevs xs ρ es with | some ds => grd (decide (ds.length ≤ 16777216)) (.lst ds) | none => none) := by first | (rw [hev]; done) | (rw [hev]; rfl)
@[simp] theorem x_he_eq {xs : List Dat} {a b : HE} : hev xs ρ (.eq a b) = (match hev xs ρ a, hev xs ρ b with
    | some x, some y => (eqD x y).map .bl
    | _, _ => none) := by first | (rw [hev]; done) | (rw [hev]; rfl)
@[simp] theorem x_hes_nil {xs : List Dat} : hevs xs ρ .nil = some [] := by rw [hevs]
@[simp] theorem x_hes_cons {xs : List Dat} {e : HE} {es : HEs} : hevs xs ρ (.cons e es) = (match hev xs ρ e, hevs xs ρ es with | some d, some ds => some (d :: ds) | _, _ => none) := by first | (rw [hevs]; done) | (rw [hevs]; rfl)
@[simp] theorem x_s_rse {c : Nat} {es : Es} : exec O (.rse c es) ρ = ((evalAs O es ρ).ctl fun rs ρ1 => (capts rs ρ1).ctl fun ds ρ2 => .exc c ds ρ2) := by first | (rw [exec]; done) | (rw [exec]; rfl)
end
/-! ### operators at plain data -/
@[simp] theorem b_add {i j : Int} : binD .add (.int i) (.int j) = some (.imm (.int (i + j))) := (rfl)
@[simp] theorem b_sub {i j : Int} : binD .sub (.int i) (.int j) = some (.imm (.int (i - j))) := (rfl)
@[simp] theorem b_mul {i j : Int} : binD .mul (.int i) (.int j) = grd (mulOk i j) (.imm (.int (i * j))) := (rfl)
@[simp] theorem b_fdiv {i j : Int} : binD .fdiv (.int i) (.int j) = grd (divOk j) (.imm (.int (i / j))) := (rfl)
@[simp] theorem b_mod {i j : Int} : binD .mod (.int i) (.int j) = grd (decide (0 < j)) (.imm (.int (i % j))) := (rfl)
@[simp] theorem b_pow {i j : Int} : binD .pow (.int i) (.int j) = grd (powOk i j) (.imm (.int (i ^ j.toNat))) := (rfl)
@[simp] theorem b_band {i j : Int} : binD .band (.int i) (.int j) = some (.imm (.int (PySem.Builtin.bitAnd i j))) := (rfl)
@[simp] theorem b_cat {xs ys : List Dat} : binD .add (.lst xs) (.lst ys) = grd (decide (xs.length + ys.length ≤ line)) (.fr (.lst (xs ++ ys))) := (rfl)
@[simp] theorem k_lt {i j : Int} : cmpD .lt (.int i) (.int j) = some (.imm (.bl (decide (i < j)))) := (rfl)
@[simp] theorem k_le {i j : Int} : cmpD .le (.int i) (.int j) = some (.imm (.bl (decide (i ≤ j)))) := (rfl)
@[simp] theorem k_gt {i j : Int} : cmpD .gt (.int i) (.int j) = some (.imm (.bl (decide (j < i)))) := (rfl)
@[simp] theorem k_ge {i j : Int} : cmpD .ge (.int i) (.int j) = some (.imm (.bl (decide (j ≤ i)))) := (rfl)
@[simp] theorem k_eq {i j : Int} : cmpD .eq (.int i) (.int j) = some (.imm (.bl (decide (i = j)))) := by simp [cmpD, cmpB]
@[simp] theorem k_eqb {i j : Bool} : cmpD .eq (.bl i) (.bl j) = some (.imm (.bl (decide (i = j)))) := by simp [cmpD, cmpB]
@[simp] theorem k_ne {i j : Int} : cmpD .ne (.int i) (.int j) = some (.imm (.bl (!decide (i = j)))) := by simp [cmpD, cmpB]
@[simp] theorem k_isN {d : Dat} : cmpD .isN d .non = some (.imm (.bl (isNon d))) := (rfl)
@[simp] theorem k_notN {d : Dat} : cmpD .notN d .non = some (.imm (.bl (!isNon d))) := (rfl)
@[simp] theorem kb_lt {i j : Int} : cmpB .lt (.int i) (.int j) = some (decide (i < j)) := (rfl)
@[simp] theorem kb_le {i j : Int} : cmpB .le (.int i) (.int j) = some (decide (i ≤ j)) := (rfl)
@[simp] theorem isNon_non : isNon .non = true := (rfl)
@[simp] theorem isNon_int {i : Int} : isNon (.int i) = false := (rfl)
@[simp] theorem isNon_bl {i : Bool} : isNon (.bl i) = false := (rfl)
@[simp] theorem isNon_lst {i : List Dat} : isNon (.lst i) = false := (rfl)
@[simp] theorem isNon_tup {i : List Dat} : isNon (.tup i) = false := (rfl)
@[simp] theorem f_len {xs : List Dat} : biD .len [.lst xs] = some (.imm (.int xs.length)) := (rfl)
@[simp] theorem f_lent {xs : List Dat} : biD .len [.tup xs] = some (.imm (.int xs.length)) := (rfl)
@[simp] theorem f_abs {i : Int} : biD .abs [.int i] = some (.imm (.int (if i < 0 then -i else i))) := (rfl)
@[simp] theorem f_int {i : Int} : biD .int [.int i] = some (.imm (.int i)) := (rfl)
@[simp] theorem f_max {i j : Int} : biD .max [.int i, .int j] = some (.imm (.int (if j > i then j else i))) := (rfl)
@[simp] theorem f_max3 {i j k : Int} : biD .max [.int i, .int j, .int k] = some (.imm (.int (max3 i j k))) := (rfl)
@[simp] theorem f_min {i j : Int} : biD .min [.int i, .int j] = some (.imm (.int (if j < i then j else i))) := (rfl)
@[simp] theorem f_list {xs : List Dat} : biD .list [.lst xs] = some (.fr (.lst xs)) := (rfl)
@[simp] theorem f_tuple {xs : List Dat} : biD .tuple [.lst xs] = some (.imm (.tup xs)) := (rfl)
theorem f_sum {xs : List Dat} {ns : List Int} (h : intsD xs = some ns) : biD .sum [.lst xs] = some (.imm (.int ns.sum)) := by simp [biD, h]
theorem f_sorted {xs : List Dat} {ns : List Int} (h : intsD xs = some ns) : biD .sorted [.lst xs] = some (.fr (.lst ((sortI ns).map .int))) := by simp [biD, h]
@[simp] theorem n_neg {i : Int} : negD (.int i) = some (.imm (.int (-i))) := (rfl)
@[simp] theorem i_lst {xs : List Dat} {i : Int} : idxD (.lst xs) (.int i) = (atI xs i).map .imm := (rfl)
@[simp] theorem i_tup {xs : List Dat} {i : Int} : idxD (.tup xs) (.int i) = (atI xs i).map .imm := (rfl)
@[simp] theorem l2_ii {f : Dat → Dat → Option Res} {d e : Dat} {ρ : Env} : lift2 f (.imm d) (.imm e) ρ = .of (f d e) ρ := (rfl)
@[simp] theorem l1_i {f : Dat → Option Res} {d : Dat} {ρ : Env} : lift1 f (.imm d) ρ = .of (f d) ρ := (rfl)
@[simp] theorem ll_0 {f : List Dat → Option Res} {ρ : Env} {rs : List Res} : liftL f rs ρ = match derefs ρ rs with | some ds => .of (f ds) ρ | none => .bad := (rfl)
@[simp] theorem l2_bi {f : Dat → Dat → Option Res} {i : Nat} {e : Dat} {ρ : Env} : lift2 f (.bor i) (.imm e) ρ = match deref ρ (.bor i) with | some d => .of (f d e) ρ | none => .bad := by
  unfold lift2
  cases deref ρ (.bor i) <;> rfl
@[simp] theorem toDat_lst {xs : List Dat} : (OD.lst xs).toDat = .lst xs := (rfl)
@[simp] theorem toDat_dK {xs : List (Key × Dat)} : (OD.dK xs).toDat = .dK xs := (rfl)
@[simp] theorem l2_ib {f : Dat → Dat → Option Res} {i : Nat} {e : Dat} {ρ : Env} : lift2 f (.imm e) (.bor i) ρ = match deref ρ (.bor i) with | some d => .of (f e d) ρ | none => .bad := by
  unfold lift2
  cases deref ρ (.bor i) <;> rfl
@[simp] theorem l2_bb {f : Dat → Dat → Option Res} {i j : Nat} {ρ : Env} : lift2 f (.bor i) (.bor j) ρ = match deref ρ (.bor i), deref ρ (.bor j) with | some d, some e => .of (f d e) ρ | _, _ => .bad := (rfl)
@[simp] theorem l1_b {f : Dat → Option Res} {i : Nat} {ρ : Env} : lift1 f (.bor i) ρ = match deref ρ (.bor i) with | some d => .of (f d) ρ | none => .bad := (rfl)
end VI
/-! VI: what most laws begin with: the purse and its draws -/
namespace VI
def dPurse : Def := ⟨2, 5, (.cons (.asg 2 (.frz (.ife (.cmp .lt (.var 1) (.bi .len (.cons (.var 0) .nil))) (.bi .int (.cons (.idx (.var 0) (.var 1)) .nil)) (.bin .mul (.cst (.int 31)) (.bi .sum (.cons (.lc (.bi .int (.cons (.var 3) .nil)) (.one 3) (.val (.slc (.var 0) .nil (.cons (.cst (.int 4)) .nil))) .nil) .nil)))))) (.cons (.asg 4 (.bin .add (.bin .mul (.cst (.int 2)) (.bi .abs (.cons (.var 2) .nil))) (.ife (.cmp .lt (.var 2) (.cst (.int 0))) (.cst (.int 1)) (.cst (.int 0))))) (.cons (.ret (.lst (.cons (.ife (.cmp .ge (.var 4) (.bin .pow (.cst (.int 10)) (.cst (.int 18)))) (.var 4) (.cst (.int 0))) (.cons (.bin .mod (.bi .int (.cons (.bin .add (.bin .add (.var 4) (.bin .mul (.var 1) (.cst (.int 104729)))) (.cst (.int 12345))) .nil)) (.cst (.int 2147483629))) (.cons (.var 1) .nil))))) .nil)))⟩
def dDraw : Def := ⟨2, 3, (.cons (.ife (.cmp .gt (.idx (.var 0) (.cst (.int 0))) (.cst (.int 0))) (.cons (.asg 2 (.bin .mod (.bi .int (.cons (.idx (.var 0) (.cst (.int 0))) .nil)) (.var 1))) (.cons (.sidx 0 (.cst (.int 0)) (.bin .fdiv (.idx (.var 0) (.cst (.int 0))) (.var 1))) (.cons (.ret (.var 2)) .nil))) .nil) (.cons (.augx 0 (.cst (.int 2)) .add (.cst (.int 1))) (.cons (.sidx 0 (.cst (.int 1)) (.bin .mod (.bi .int (.cons (.bin .add (.bin .mul (.idx (.var 0) (.cst (.int 1))) (.cst (.int 48271))) (.bin .mul (.idx (.var 0) (.cst (.int 2))) (.cst (.int 69621)))) .nil)) (.cst (.int 2147483647)))) (.cons (.ret (.bin .mod (.bin .fdiv (.bin .mod (.bi .int (.cons (.bin .add (.bin .mul (.idx (.var 0) (.cst (.int 1))) (.cst (.int 16807))) (.bin .mul (.idx (.var 0) (.cst (.int 2))) (.cst (.int 7919)))) .nil)) (.cst (.int 2147483629))) (.cst (.int 8))) (.var 1))) .nil))))⟩
theorem intsD_map : ∀ ns : List Int, intsD (ns.map Dat.int) = some ns
  | [] => rfl
  | n :: ns => by simp [intsD, intsD_map ns]
def lcE : E := .lc (.bi .int (.cons (.var 3) .nil)) (.one 3) (.val (.slc (.var 0) .nil (.cons (.cst (.int 4)) .nil))) .nil
def cellOf (ns : List Int) (at_ : Nat) : Int := if h : at_ < ns.length then ns[at_] else 31 * (ns.take 4).sum
def sizeOf' (cell : Int) : Int := 2 * (if cell < 0 then -cell else cell) + (if cell < 0 then 1 else 0)
def purseOf (ns : List Int) (at_ : Nat) : List Dat := [.int (if 1000000000000000000 ≤ sizeOf' (cellOf ns at_) then sizeOf' (cellOf ns at_) else 0), .int ((sizeOf' (cellOf ns at_) + (at_ : Int) * 104729 + 12345) % 2147483629), .int at_]
theorem ints_take (ns : List Int) (k : Nat) : intsD (List.take k (ns.map Dat.int)) = some (ns.take k) := by rw [← List.map_take]; exact intsD_map _
theorem ev_lcE (O : Orc) (ns : List Int) (at_ : Nat) : evalE O (.lc (.bi .int (.cons (.var 3) .nil)) (.one 3) (.val (.slc (.var 0) .nil (.cons (.cst (.int 4)) .nil))) .nil) [.imm (.lst (ns.map Dat.int)), .imm (.int at_), .emp, .emp, .emp] = .ok (.fr (.lst (List.take 4 (ns.map Dat.int)))) [.imm (.lst (ns.map Dat.int)), .imm (.int at_), .emp, .emp, .emp] := by
  have := lc_pure (O := O) (e := .bi .int (.cons (.var 3) .nil)) (i := 3) (it := .val (.slc (.var 0) .nil (.cons (.cst (.int 4)) .nil))) (c := .nil) (ρ := [.imm (.lst (ns.map Dat.int)), .imm (.int at_), .emp, .emp, .emp]) (ρ1 := [.imm (.lst (ns.map Dat.int)), .imm (.int at_), .emp, .emp, .emp]) (ds := List.take 4 (ns.map Dat.int)) (lk := none) id (fun _ => true) ?_ rfl (by simp) ?_ ?_
  · rw [this]
    simp
  · have e4 : List.take (min 4 ns.length) (ns.map Dat.int) = List.take 4 (ns.map Dat.int) := by
      have := (List.take_eq_take_min (l := ns.map Dat.int) (i := 4)).symm
      simpa using this
    have e5 : slcD (.lst (ns.map Dat.int)) none (some 4) = some (.fr (.lst (List.take 4 (ns.map Dat.int)))) := by
      have : cutD (ns.map Dat.int) none (some 4) = List.take 4 (ns.map Dat.int) := by
        unfold cutD sIx
        simp only [List.length_map]
        exact e4
      show some (Res.fr (OD.lst (cutD (ns.map Dat.int) none (some 4)))) = _
      rw [this]
    simp [evalI, e5]
  · intro d _; simp
  · intro d hd _
    have hd := List.mem_of_mem_take hd
    obtain ⟨x, _, rfl⟩ := List.mem_map.mp hd
    simp
/-- the cell -/
theorem ev_cell (O : Orc) (ns : List Int) (at_ : Nat) : evalE O (.ife (.cmp .lt (.var 1) (.bi .len (.cons (.var 0) .nil))) (.bi .int (.cons (.idx (.var 0) (.var 1)) .nil)) (.bin .mul (.cst (.int 31)) (.bi .sum (.cons (.lc (.bi .int (.cons (.var 3) .nil)) (.one 3) (.val (.slc (.var 0) .nil (.cons (.cst (.int 4)) .nil))) .nil) .nil)))) [.imm (.lst (ns.map Dat.int)), .imm (.int at_), .emp, .emp, .emp] = .ok (.imm (.int (cellOf ns at_))) [.imm (.lst (ns.map Dat.int)), .imm (.int at_), .emp, .emp, .emp] := by
  by_cases h : at_ < ns.length
  · have e : atI (ns.map Dat.int) (at_ : Int) = some (.int ns[at_]) := by simp [atI, ixN, h]
    have hc : cellOf ns at_ = ns[at_] := by simp [cellOf, h]
    rw [hc]
    simp [h, e]
  · have hc : cellOf ns at_ = 31 * (ns.take 4).sum := by simp [cellOf, h]
    rw [hc]
    simp [h, ev_lcE, f_sum (ints_take ns 4), mulOk]
/-- _law_purse -/
theorem purse_is {P : Prg} {f : Nat} (hf : P.defs[f]? = some dPurse) (n : Nat) (ns : List Int) (at_ : Nat) : (orc P (n + 1)).call f [.imm (.lst (ns.map Dat.int)), .imm (.int at_)] = .ret (.fr (.lst (purseOf ns at_))) [.imm (.lst (ns.map Dat.int)), .imm (.int at_)] := by
  rw [call_of hf]
  have h := ev_cell (orc P n) ns at_
  have hp : ∀ cell, cellOf ns at_ = cell → purseOf ns at_ = [.int (if 1000000000000000000 ≤ sizeOf' cell then sizeOf' cell else 0), .int ((sizeOf' cell + (at_ : Int) * 104729 + 12345) % 2147483629), .int at_] := fun cell e => by rw [purseOf, e]
  generalize hcell : cellOf ns at_ = cell at h
  rw [hp cell hcell]
  have s1 : exec (orc P n) (.asg 2 (.frz (.ife (.cmp .lt (.var 1) (.bi .len (.cons (.var 0) .nil))) (.bi .int (.cons (.idx (.var 0) (.var 1)) .nil)) (.bin .mul (.cst (.int 31)) (.bi .sum (.cons (.lc (.bi .int (.cons (.var 3) .nil)) (.one 3) (.val (.slc (.var 0) .nil (.cons (.cst (.int 4)) .nil))) .nil) .nil)))))) [.imm (.lst (ns.map Dat.int)), .imm (.int at_), .emp, .emp, .emp] = .nx [.imm (.lst (ns.map Dat.int)), .imm (.int at_), .imm (.int cell), .emp, .emp] := by
    rw [x_s_asg, ev_frz, h]
    simp [setS]
  have s2 : exec (orc P n) (.asg 4 (.bin .add (.bin .mul (.cst (.int 2)) (.bi .abs (.cons (.var 2) .nil))) (.ife (.cmp .lt (.var 2) (.cst (.int 0))) (.cst (.int 1)) (.cst (.int 0))))) [.imm (.lst (ns.map Dat.int)), .imm (.int at_), .imm (.int cell), .emp, .emp] = .nx [.imm (.lst (ns.map Dat.int)), .imm (.int at_), .imm (.int cell), .emp, .imm (.int (sizeOf' cell))] := by
    by_cases hc : cell < 0
    · simp [setS, hc, mulOk, sizeOf']
    · simp [setS, hc, mulOk, sizeOf']
  unfold run dPurse
  simp only [List.length_cons, List.length_nil, if_true, x_ss_cons, List.replicate, List.cons_append, List.nil_append]
  rw [s1, andThen_nx, s2, andThen_nx]
  by_cases hs : 1000000000000000000 ≤ sizeOf' cell
  · simp [hs, mulOk, powOk, outsOk]
  · simp [hs, mulOk, powOk, outsOk]
/-- three numbers -/
def Pu (d : List Dat) : Prop := ∃ a b c : Int, d = [.int a, .int b, .int c]
theorem purse_pu (ns : List Int) (at_ : Nat) : Pu (purseOf ns at_) := ⟨_, _, _, rfl⟩
/-- what is drawn of less than 2 ^ 4000 -/
def mOk (m : Int) : Prop := 0 < m ∧ m.natAbs < big
theorem mOk.div {m : Int} (h : mOk m) : divOk m = true := by unfold divOk; simp only [h.1, h.2, decide_true, Bool.and_self]
/-- _law_draw -/
theorem draw_is {P : Prg} {f : Nat} (hf : P.defs[f]? = some dDraw) (n : Nat) {ds : List Dat} (hp : Pu ds) {m : Int} (h : mOk m) : ∃ (r : Int) (ds' : List Dat), (0 ≤ r ∧ r < m) ∧ Pu ds' ∧ (orc P (n + 1)).call f [.own true false (.lst ds), .imm (.int m)] = .ret (.imm (.int r)) [.own true false (.lst ds'), .imm (.int m)] := by
  obtain ⟨a, b, c, rfl⟩ := hp
  rw [call_of hf]
  have hm := h.1
  have hd := h.div
  have d8 : divOk 8 = true := by decide
  by_cases ha : 0 < a
  · refine ⟨a % m, _, ⟨Int.emod_nonneg _ (by omega), Int.emod_lt_of_pos _ hm⟩, ⟨a / m, b, c, rfl⟩, ?_⟩
    simp [run, dDraw, atI, ixN, setS, stoD, ha, hd, hm, outsOk]
  · refine ⟨((b * 48271 + (c + 1) * 69621) % 2147483647 * 16807 + (c + 1) * 7919) % 2147483629 / 8 % m, _, ⟨Int.emod_nonneg _ (by omega), Int.emod_lt_of_pos _ hm⟩, ⟨a, (b * 48271 + (c + 1) * 69621) % 2147483647, c + 1, rfl⟩, ?_⟩
    simp [run, dDraw, atI, ixN, setS, stoD, mulOk, ha, hd, hm, d8, outsOk]
end VI
/-! VI: loops over mapped lists, dicts with number keys -/
namespace VI
def lastS {β : Type} (g : β → Dat) : Slot → List β → Slot
  | x, [] => x
  | _, b :: l => lastS g (.imm (g b)) l
/-- a loop that goes through, its items printed from l; J is kept -/
theorem forI_map {α β : Type} {step : Dat → Env → Ctl} {g : β → Dat} (f : α → β → α) (M : α → Slot → Env) (J : α → Prop) : ∀ (l : List β) (a : α) (x : Slot), J a → (∀ a x b, b ∈ l → J a → J (f a b) ∧ step (g b) (M a x) = .nx (M (f a b) (.imm (g b)))) → J (l.foldl f a) ∧ forI step (l.map g) (M a x) = .nx (M (l.foldl f a) (lastS g x l))
  | [], a, x, j, _ => ⟨j, rfl⟩
  | b :: l, a, x, j, h => by
    obtain ⟨j1, e⟩ := h a x b List.mem_cons_self j
    obtain ⟨j2, k⟩ := forI_map f M J l (f a b) (.imm (g b)) j1 fun a x c hc => h a x c (List.mem_cons_of_mem _ hc)
    refine ⟨j2, ?_⟩
    rw [List.map_cons, forI, e]
    exact k
/-- no own object -/
def cl : Slot → Slot
  | .own _ _ _ => .emp | s => s
@[simp] theorem cl_imm {d : Dat} : cl (.imm d) = .imm d := rfl
@[simp] theorem cl_emp : cl .emp = .emp := rfl
theorem set_cl {ρ : Env} {i : Nat} {x s : Slot} (h : ρ[i]? = some (cl x)) : setS i s ρ = some (ρ.set i s) := by
  unfold setS
  rw [h]
  cases x <;> rfl
theorem rng0 (n : Nat) : (rngL 0 (n : Int)).map Dat.int = (List.range n).map fun (i : Nat) => Dat.int (i : Int) := by
  unfold rngL
  rw [List.map_map]
  simp
/-- a dict from numbers to numbers -/
def kvN (s : List (Nat × Nat)) : List (Key × Dat) := s.map fun p => (Sum.inl (p.1 : Int), Dat.int (p.2 : Int))
theorem look_kvN (k : Nat) : ∀ s : List (Nat × Nat), look (Sum.inl (k : Int) : Key) (kvN s) = (s.lookup k).map fun v => Dat.int (v : Int)
  | [] => rfl
  | p :: s => by
    show (if (Sum.inl (p.1 : Int) : Key) = Sum.inl (k : Int) then some (Dat.int (p.2 : Int)) else look (Sum.inl (k : Int)) (kvN s)) = _
    rw [look_kvN k s, List.lookup_cons]
    by_cases h : k = p.1
    · subst h; simp
    · have h1 : ¬ ((Sum.inl (p.1 : Int) : Key) = Sum.inl (k : Int)) := fun z => h (by injection z with z; omega)
      have h2 : (k == p.1) = false := by simpa using h
      rw [if_neg h1, h2]
theorem put_kvN {k v : Nat} {s : List (Nat × Nat)} (h : s.lookup k = none) : put (Sum.inl (k : Int) : Key) (Dat.int (v : Int)) (kvN s) = kvN (s ++ [(k, v)]) := by
  unfold put
  have : (kvN s).any (fun p => decide (p.1 = (Sum.inl (k : Int) : Key))) = false := by
    rw [List.any_eq_false]
    intro p hp
    obtain ⟨q, hq, rfl⟩ := List.mem_map.mp hp
    simp only [decide_eq_true_eq]
    intro z
    injection z with z
    have e : q.1 = k := by omega
    have := List.lookup_eq_none_iff.mp h q hq
    simp [e] at this
  rw [if_neg (by rw [this]; simp)]
  simp [kvN]
theorem k_notin_dK {i : Int} {kvs : List (Key × Dat)} : cmpD .notin (.int i) (.dK kvs) = some (.imm (.bl (!(look (.inl i) kvs).isSome))) := rfl
theorem at_map {n : Nat} {f : Nat → Dat} {k : Nat} (h : k < n) : atI ((List.range n).map f) (k : Int) = some (f k) := by simp [atI, ixN, h]
theorem and_nat (a b : Nat) : PySem.Builtin.bitAnd (a : Int) (b : Int) = ((a &&& b : Nat) : Int) := by simp [PySem.Builtin.bitAnd]
theorem short_of {s : List (Nat × Nat)} {n : Nat} (nd : (s.map (·.1)).Nodup) (h : ∀ p ∈ s, p.1 < n) : s.length ≤ n := by
  have := List.Nodup.length_le_of_subset nd (l₂ := List.range n) fun x hx => by
    obtain ⟨p, hp, rfl⟩ := List.mem_map.mp hx
    exact List.mem_range.mpr (h p hp)
  simpa using this
theorem rng_ok {k : Int} (h0 : 0 ≤ k) (h : k < 2 ^ 62) : rngOk 0 k = true := by
  unfold rngOk
  rw [decide_eq_true (show -(2 ^ 62 : Int) ≤ 0 by decide), decide_eq_true (show (0 : Int) < 2 ^ 62 by decide), decide_eq_true (Int.le_trans (show -(2 ^ 62 : Int) ≤ 0 by decide) h0), decide_eq_true h]
  rfl
theorem ev_rng {O : Orc} {ρ : Env} (k : Nat) (h : rngOk 0 (k : Int) = true) (h2 : decide ((k : Int) ≤ 16777216) = true) : evalI O (.rng (.cons (.cst (.int (k : Int))) .nil)) ρ = .ok ((List.range k).map fun (i : Nat) => Dat.int (i : Int), none) ρ := by
  rw [evalI, evs_cons, ev_cst, seq_ok, evs_nil, seq_ok, seq_ok]
  simp only [x_derefs_cons, x_derefs_nil, x_deref_imm]
  rw [h, h2, rng0]
  rfl
/-- a turn of a for loop -/
def stepF (O : Orc) (p : Pat) (b : Ss) (d : Dat) (ρ : Env) : Ctl := match bind p d ρ with
  | some ρ1 => execs O b ρ1
  | none => .bad
theorem stepF_of {O : Orc} {p : Pat} {b : Ss} {d : Dat} {ρ ρ1 : Env} (h : bind p d ρ = some ρ1) : stepF O p b d ρ = execs O b ρ1 := by unfold stepF; rw [h]
theorem x_for {O : Orc} {ρ ρ1 : Env} {p : Pat} {it : It} {b : Ss} {ds : List Dat} {lk : Option Nat} (h : evalI O it ρ = .ok (ds, lk) ρ1) : exec O (.for p it b) ρ = (forI (stepF O p b) ds ρ1).andThen fun ρ2 => .nx (unlock lk ρ2) := by
  rw [exec, h]
  rfl
/-- .. by what is true of the slots -/
theorem forI_inv {α β : Type} {step : Dat → Env → Ctl} {g : β → Dat} (f : α → β → α) (P : α → Env → Prop) : ∀ (l : List β) (a : α) (ρ : Env), P a ρ → (∀ a ρ b, b ∈ l → P a ρ → ∃ ρ', step (g b) ρ = .nx ρ' ∧ P (f a b) ρ') → ∃ ρ', forI step (l.map g) ρ = .nx ρ' ∧ P (l.foldl f a) ρ'
  | [], a, ρ, h, _ => ⟨ρ, rfl, h⟩
  | b :: l, a, ρ, h, k => by
    obtain ⟨ρ1, e, h1⟩ := k a ρ b List.mem_cons_self h
    obtain ⟨ρ', e2, h2⟩ := forI_inv f P l (f a b) ρ1 h1 fun a ρ c hc => k a ρ c (List.mem_cons_of_mem _ hc)
    refine ⟨ρ', ?_, h2⟩
    rw [List.map_cons, forI, e]
    exact e2
end VI
/-! VI: _law_mix, _law_some -/
namespace VI
def dMix (g : Nat) : Def := ⟨2, 5, (.cons (.asg 2 (.bi .list (.cons (.var 1) .nil))) (.cons (.asg 3 (.lst .nil)) (.cons (.for (.one 4) (.rng (.cons (.bi .len (.cons (.var 1) .nil)) .nil)) (.cons (.exp (.mut .append 3 (.cons (.mut .pop 2 (.cons (.call g (.cons (.var 0) (.cons (.bi .len (.cons (.var 2) .nil)) .nil))) .nil)) .nil))) .nil)) (.cons (.ret (.var 3)) .nil))))⟩
def dSome (g : Nat) : Def := ⟨3, 3, (.cons (.ret (.bi .sorted (.cons (.slc (.call g (.cons (.var 0) (.cons (.var 1) .nil))) .nil (.cons (.var 2) .nil)) .nil))) .nil)⟩
/-- a slot that holds this list -/
def LstS (s : Slot) (xs : List Dat) : Prop := s = .imm (.lst xs) ∨ ∃ p l, s = .own p l (.lst xs)
theorem big_line {m : Int} (h : 0 < m) (h2 : m < 2 ^ 62) : mOk m := ⟨h, Nat.lt_of_lt_of_le (show m.natAbs < 2 ^ 62 by omega) (by decide +kernel)⟩
theorem erase_perm {α : Type} : ∀ (xs : List α) (k : Nat) (h : k < xs.length), List.Perm (xs[k] :: xs.eraseIdx k) xs
  | x :: xs, 0, _ => .refl _
  | x :: xs, k + 1, h => by
    have h' : k < xs.length := by simpa using h
    show List.Perm (xs[k] :: x :: xs.eraseIdx k) (x :: xs)
    exact (List.Perm.swap x xs[k] _).trans ((erase_perm xs k h').cons x)
theorem ev_rng1 {O : Orc} {ρ ρ1 : Env} {es : Es} {rs : List Res} {k : Nat} (he : evalAs O es ρ = .ok rs ρ1) (hd : derefs ρ1 rs = some [.int (k : Int)]) (hk : k ≤ 16777216) : evalI O (.rng es) ρ = .ok ((List.range k).map fun (i : Nat) => Dat.int (i : Int), none) ρ1 := by
  rw [evalI, he, seq_ok, hd]
  show Out.of (grd (rngOk 0 (k : Int) && decide ((k : Int) ≤ 16777216)) ((rngL 0 (k : Int)).map Dat.int, none)) ρ1 = _
  rw [rng_ok (show (0 : Int) ≤ (k : Int) by omega) (show (k : Int) < 2 ^ 62 by omega), decide_eq_true (show (k : Int) ≤ 16777216 by omega), rng0]
  rfl
theorem ev_rng2 {O : Orc} {ρ ρ1 : Env} {es : Es} {rs : List Res} {a b : Int} (he : evalAs O es ρ = .ok rs ρ1) (hd : derefs ρ1 rs = some [.int a, .int b]) (h : rngOk a b = true) (hk : b - a ≤ 16777216) : evalI O (.rng es) ρ = .ok ((rngL a b).map Dat.int, none) ρ1 := by
  rw [evalI, he, seq_ok, hd]
  show Out.of (grd (rngOk a b && decide (b - a ≤ 16777216)) ((rngL a b).map Dat.int, none)) ρ1 = _
  rw [h, decide_eq_true hk]
  rfl
/-- one turn of the mix -/
theorem mix_step {P : Prg} {g : Nat} (hg : P.defs[g]? = some dDraw) (n : Nat) {ds left mixed : List Dat} (hp : Pu ds) (s1 s4 : Slot) (p0 : Bool) (h0 : 0 < left.length) (hz : left.length + mixed.length ≤ 16777216) : ∃ (k : Nat) (ds' : List Dat) (h : k < left.length), Pu ds' ∧
    execs (orc P (n + 1)) (.cons (.exp (.mut .append 3 (.cons (.mut .pop 2 (.cons (.call g (.cons (.var 0) (.cons (.bi .len (.cons (.var 2) .nil)) .nil))) .nil)) .nil))) .nil) [.own p0 false (.lst ds), s1, .own false false (.lst left), .own false false (.lst mixed), s4] =
      .nx [.own p0 false (.lst ds'), s1, .own false false (.lst (left.eraseIdx k)), .own false false (.lst (mixed ++ [left[k]])), s4] := by
  obtain ⟨r, ds', ⟨h1, h2⟩, u, c⟩ := draw_is hg n hp (m := (left.length : Int)) (big_line (by omega) (by omega))
  have hk : r.toNat < left.length := by omega
  refine ⟨r.toNat, ds', hk, u, ?_⟩
  have e1 : ixN left.length r = some r.toNat := by
    unfold ixN
    rw [if_pos h1, if_pos h2]
  have e2 : muD .pop (.lst left) [.int r] = some (left[r.toNat], .lst (left.eraseIdx r.toNat)) := by
    show (if line < left.length then none else _) = _
    rw [if_neg (by show ¬ (16777216 < left.length); omega), e1]
    simp [hk]
  have e3 : muD .append (.lst mixed) [left[r.toNat]] = some (.non, .lst (mixed ++ [left[r.toNat]])) := by
    show grd (decide (mixed.length < line)) _ = _
    rw [decide_eq_true (show mixed.length < line by show mixed.length < 16777216; omega), grd_true]
  simp [isLst, doCall, back, argS, c, mutS, e2, e3]
def sMix (g : Nat) : Ss := .cons (.exp (.mut .append 3 (.cons (.mut .pop 2 (.cons (.call g (.cons (.var 0) (.cons (.bi .len (.cons (.var 2) .nil)) .nil))) .nil)) .nil))) .nil
theorem mix_loop {P : Prg} {g : Nat} (hg : P.defs[g]? = some dDraw) (n : Nat) (p0 : Bool) (s1 : Slot) : ∀ (js : List Nat) (ds left mixed : List Dat) (s4 : Slot), Pu ds → left.length = js.length → left.length + mixed.length ≤ 16777216 → (s4 = .emp ∨ ∃ d, s4 = .imm d) →
    ∃ ds' mixed' s4', Pu ds' ∧ List.Perm mixed' (mixed ++ left) ∧ forI (stepF (orc P (n + 1)) (.one 4) (sMix g)) (js.map fun (i : Nat) => Dat.int (i : Int)) [.own p0 false (.lst ds), s1, .own false false (.lst left), .own false false (.lst mixed), s4] = .nx [.own p0 false (.lst ds'), s1, .own false false (.lst []), .own false false (.lst mixed'), s4']
  | [], ds, left, mixed, s4, hp, hl, hz, h4 => by
    have : left = [] := List.eq_nil_of_length_eq_zero hl
    subst this
    exact ⟨ds, mixed, s4, hp, by simp, rfl⟩
  | j :: js, ds, left, mixed, s4, hp, hl, hz, h4 => by
    have hl' : left.length = js.length + 1 := hl
    obtain ⟨k, ds1, hk, u, e⟩ := mix_step hg n hp s1 (.imm (.int (j : Int))) p0 (by omega) hz
    have hb : bind (.one 4) (.int (j : Int)) [.own p0 false (.lst ds), s1, .own false false (.lst left), .own false false (.lst mixed), s4] = some [.own p0 false (.lst ds), s1, .own false false (.lst left), .own false false (.lst mixed), .imm (.int (j : Int))] := by
      rcases h4 with rfl | ⟨d, rfl⟩ <;> rfl
    have hle : (left.eraseIdx k).length = js.length := by
      rw [List.length_eraseIdx, if_pos hk]
      omega
    obtain ⟨ds2, mixed2, s42, u2, pm, e2⟩ := mix_loop hg n p0 s1 js ds1 (left.eraseIdx k) (mixed ++ [left[k]]) (.imm (.int (j : Int))) u hle (by rw [hle, List.length_append]; simp only [List.length_cons, List.length_nil]; omega) (.inr ⟨_, rfl⟩)
    refine ⟨ds2, mixed2, s42, u2, pm.trans ?_, ?_⟩
    · rw [List.append_assoc]
      exact (List.Perm.refl mixed).append (erase_perm left k hk)
    · rw [List.map_cons, forI, stepF_of hb]
      have e : execs (orc P (n + 1)) (sMix g) _ = _ := e
      rw [e]
      exact e2
/-- _law_mix -/
theorem mix_is {P : Prg} {f g : Nat} (hf : P.defs[f]? = some (dMix g)) (hg : P.defs[g]? = some dDraw) (n : Nat) {ds xs : List Dat} (hp : Pu ds) (p0 : Bool) {sl : Slot} (hs : LstS sl xs) (hz : xs.length ≤ 16777216) : ∃ ys ds', List.Perm ys xs ∧ Pu ds' ∧
    (orc P (n + 2)).call f [.own p0 false (.lst ds), sl] = .ret (.fr (.lst ys)) [.own p0 false (.lst ds'), sl] := by
  obtain ⟨ds', ys, s4, u, pm, e⟩ := mix_loop hg n p0 sl (List.range xs.length) ds xs [] .emp hp (by simp) (by rw [List.length_nil]; omega) (.inl rfl)
  refine ⟨ys, ds', by simpa using pm, u, ?_⟩
  rw [call_of hf]
  unfold run dMix
  simp only [List.length_cons, List.length_nil, if_true, List.replicate, List.cons_append, List.nil_append]
  have rv : ∀ (a b : Slot), evalI (orc P (n + 1)) (.rng (.cons (.bi .len (.cons (.var 1) .nil)) .nil)) [.own p0 false (.lst ds), sl, a, b, .emp] = .ok ((List.range xs.length).map fun (i : Nat) => Dat.int (i : Int), none) [.own p0 false (.lst ds), sl, a, b, .emp] := fun a b => by
    refine ev_rng1 (rs := [.imm (.int (xs.length : Int))]) ?_ rfl hz
    rcases hs with rfl | ⟨p, l, rfl⟩ <;> simp [slotDat]
  have s1 : exec (orc P (n + 1)) (.asg 2 (.bi .list (.cons (.var 1) .nil))) [.own p0 false (.lst ds), sl, .emp, .emp, .emp] = .nx [.own p0 false (.lst ds), sl, .own false false (.lst xs), .emp, .emp] := by
    rcases hs with rfl | ⟨p, l, rfl⟩ <;> simp [setS, slotDat]
  have s2 : exec (orc P (n + 1)) (.asg 3 (.lst .nil)) [.own p0 false (.lst ds), sl, .own false false (.lst xs), .emp, .emp] = .nx [.own p0 false (.lst ds), sl, .own false false (.lst xs), .own false false (.lst []), .emp] := by simp [setS]
  rw [x_ss_cons, s1, andThen_nx, x_ss_cons, s2, andThen_nx, x_ss_cons, x_for (rv _ _)]
  have e : forI (stepF (orc P (n + 1)) (.one 4) (.cons (.exp (.mut .append 3 (.cons (.mut .pop 2 (.cons (.call g (.cons (.var 0) (.cons (.bi .len (.cons (.var 2) .nil)) .nil))) .nil)) .nil))) .nil)) _ _ = _ := e
  rw [e, andThen_nx]
  rcases hs with rfl | ⟨p, l, rfl⟩
  · cases p0 <;> simp [outsOk, retR]
  · cases p0 <;> cases p <;> simp [outsOk, retR]
theorem sorted_ints {ns : List Int} : biD .sorted [.lst (ns.map Dat.int)] = some (.fr (.lst ((sortI ns).map .int))) := f_sorted (intsD_map ns)
def unI : Dat → Int
  | .int i => i | _ => 0
theorem unI_map : ∀ xs : List Int, (xs.map Dat.int).map unI = xs
  | [] => rfl
  | x :: xs => by simp only [List.map_cons, unI_map xs, unI]
theorem perm_ints {yd : List Dat} {xs : List Int} (h : List.Perm yd (xs.map Dat.int)) : ∃ ys : List Int, yd = ys.map Dat.int ∧ List.Perm ys xs := by
  refine ⟨yd.map unI, ?_, ?_⟩
  · rw [List.map_map]
    have : ∀ d ∈ yd, (Dat.int ∘ unI) d = d := fun d hd => by
      obtain ⟨x, _, rfl⟩ := List.mem_map.mp (h.subset hd)
      rfl
    exact (List.map_congr_left this).symm ▸ (List.map_id' yd).symm
  · have := h.map unI
    rw [unI_map] at this
    exact this
theorem cut_take (xs : List Dat) (k : Nat) : cutD xs none (some (k : Int)) = xs.take k := by
  unfold cutD sIx
  simp only [List.drop_zero, Nat.sub_zero]
  have : ¬ ((k : Int) < 0) := by omega
  rw [if_neg this]
  exact List.take_eq_take_min.symm
/-- _law_some of numbers -/
theorem some_is {P : Prg} {f m g : Nat} (hf : P.defs[f]? = some (dSome m)) (hm : P.defs[m]? = some (dMix g)) (hg : P.defs[g]? = some dDraw) (n : Nat) {ds : List Dat} {xs : List Int} (hp : Pu ds) (p0 : Bool) {sl : Slot} (hs : LstS sl (xs.map Dat.int)) (hz : xs.length ≤ 16777216) (k : Nat) : ∃ (ys : List Int) (ds' : List Dat), List.Perm ys xs ∧ Pu ds' ∧
    (orc P (n + 3)).call f [.own p0 false (.lst ds), sl, .imm (.int (k : Int))] = .ret (.fr (.lst ((sortI (ys.take k)).map Dat.int))) [.own p0 false (.lst ds'), sl, .imm (.int (k : Int))] := by
  have fin : ∀ ys : List Int, biD .sorted [.lst (cutD (ys.map Dat.int) none (some (k : Int)))] = some (.fr (.lst ((sortI (ys.take k)).map Dat.int))) := fun ys => by
    rw [cut_take, ← List.map_take]
    exact sorted_ints
  have sc : ∀ ys : List Dat, slcD (.lst ys) none (some (k : Int)) = some (.fr (.lst (cutD ys none (some (k : Int))))) := fun ys => rfl
  rcases hs with rfl | ⟨p, l, rfl⟩
  · obtain ⟨yd, ds', pm, u, e⟩ := mix_is hm hg n hp true (sl := .imm (.lst (xs.map Dat.int))) (.inl rfl) (by simpa using hz)
    obtain ⟨ys, rfl, pm2⟩ := perm_ints pm
    refine ⟨ys, ds', pm2, u, ?_⟩
    rw [call_of hf]
    cases p0 <;> simp [run, dSome, doCall, back, argS, e, sc, fin, outsOk]
  · obtain ⟨yd, ds', pm, u, e⟩ := mix_is hm hg n hp true (sl := .own true l (.lst (xs.map Dat.int))) (.inr ⟨_, _, rfl⟩) (by simpa using hz)
    obtain ⟨ys, rfl, pm2⟩ := perm_ints pm
    refine ⟨ys, ds', pm2, u, ?_⟩
    rw [call_of hf]
    cases p0 <;> cases p <;> simp [run, dSome, doCall, back, argS, e, sc, fin, outsOk]
end VI
/-! VI: lists of numbers: equality, membership, what is kept of a list -/
namespace VI
open PySem (PyData)
abbrev gI (xs : List Int) : Dat := .lst (xs.map Dat.int)
theorem pls_map {α : Type} (f : α → Dat) (h : ∀ a, (f a).pl = true) : ∀ xs : List α, Dat.pls (xs.map f) = true
  | [] => rfl
  | x :: xs => by rw [List.map_cons, Dat.pls, h, pls_map f h xs]; rfl
theorem deps_map {α : Type} (f : α → Dat) (k : Nat) (h : ∀ a, (f a).dep ≤ k) : ∀ xs : List α, Dat.deps (xs.map f) ≤ k
  | [] => Nat.zero_le _
  | x :: xs => by
    rw [List.map_cons, Dat.deps]
    exact Nat.max_le.mpr ⟨h x, deps_map f k h xs⟩
theorem pl_int (i : Int) : (Dat.int i).pl = true := rfl
theorem dep_int (i : Int) : (Dat.int i).dep ≤ 0 := Nat.le_refl _
theorem pl_gI (xs : List Int) : (gI xs).pl = true := pls_map _ pl_int xs
theorem dep_gI (xs : List Int) : (gI xs).dep ≤ 1 := Nat.succ_le_succ (deps_map _ 0 dep_int xs)
theorem eqv_int (i j : Int) : PyData.eqv (.int i) (.int j) = decide (i = j) := by
  by_cases h : i = j <;> simp [PyData.eqv, h]
theorem eqvAll_ints : ∀ xs ys : List Int, PyData.eqvAll (Dat.pys (xs.map Dat.int)) (Dat.pys (ys.map Dat.int)) = decide (xs = ys)
  | [], [] => rfl
  | [], _ :: _ => rfl
  | _ :: _, [] => rfl
  | x :: xs, y :: ys => by
    show (PyData.eqv (.int x) (.int y) && PyData.eqvAll (Dat.pys (xs.map Dat.int)) (Dat.pys (ys.map Dat.int))) = _
    rw [eqv_int, eqvAll_ints xs ys]
    by_cases h1 : x = y <;> by_cases h2 : xs = ys <;> simp [h1, h2]
theorem eqD_ints (xs ys : List Int) : eqD (gI xs) (gI ys) = some (decide (xs = ys)) := by
  unfold eqD
  rw [pl_gI, pl_gI, decide_eq_true (Nat.le_trans (dep_gI xs) (by decide)), decide_eq_true (Nat.le_trans (dep_gI ys) (by decide))]
  show grd true (PyData.eqvAll (Dat.pys (xs.map Dat.int)) (Dat.pys (ys.map Dat.int))) = _
  rw [eqvAll_ints]
  rfl
theorem inD_ints (i : Int) (g : List Int) : inD (.int i) (gI g) = some (decide (i ∈ g)) := by
  unfold inD
  dsimp only
  rw [pl_int, pls_map _ pl_int g, decide_eq_true (Nat.le_trans (dep_int i) (by decide)), decide_eq_true (Nat.le_trans (deps_map _ 0 dep_int g) (by decide))]
  show grd true _ = _
  rw [grd_true]
  congr 1
  rw [List.any_map]
  induction g with
  | nil => rfl
  | cons y g ih =>
    rw [List.any_cons, ih]
    show (PyData.eqv (.int y) (.int i) || _) = _
    rw [eqv_int]
    by_cases h1 : y = i
    · subst h1; simp
    · have : ¬ i = y := fun z => h1 z.symm
      simp [h1, this]
@[simp] theorem k_eqI (xs ys : List Int) : cmpD .eq (.lst (xs.map Dat.int)) (.lst (ys.map Dat.int)) = some (.imm (.bl (decide (xs = ys)))) := by
  show (eqD (gI xs) (gI ys)).map _ = _
  rw [eqD_ints]; rfl
@[simp] theorem k_neI (xs ys : List Int) : cmpD .ne (.lst (xs.map Dat.int)) (.lst (ys.map Dat.int)) = some (.imm (.bl (!decide (xs = ys)))) := by
  show ((eqD (gI xs) (gI ys)).map _).map _ = _
  rw [eqD_ints]; rfl
@[simp] theorem k_inI (i : Int) (ys : List Int) : cmpD .isin (.int i) (.lst (ys.map Dat.int)) = some (.imm (.bl (decide (i ∈ ys)))) := by
  show (inD (.int i) (gI ys)).map _ = _
  rw [inD_ints]; rfl
@[simp] theorem k_notinI (i : Int) (ys : List Int) : cmpD .notin (.int i) (.lst (ys.map Dat.int)) = some (.imm (.bl (!decide (i ∈ ys)))) := by
  show ((inD (.int i) (gI ys)).map _).map _ = _
  rw [inD_ints]; rfl
theorem filter_ints (p : Int → Bool) : ∀ xs : List Int, List.map id ((xs.map Dat.int).filter fun d => p (unI d)) = (xs.filter p).map Dat.int
  | [] => rfl
  | x :: xs => by
    have ih := filter_ints p xs
    simp only [List.map_id_fun, id_eq] at ih ⊢
    rw [List.map_cons, List.filter_cons, List.filter_cons]
    show (if p x = true then _ else _) = _
    by_cases h : p x = true
    · rw [if_pos h, if_pos h, List.map_cons, ih]
    · rw [if_neg h, if_neg h, ih]
/-- [x for x in .. if test], numbers -/
theorem lc_nums {O : Orc} {v : Nat} {it : It} {c : E} {ρ ρ1 : Env} {xs : List Int} {lk : Option Nat} (p : Int → Bool) (h1 : evalI O it ρ = .ok (xs.map Dat.int, lk) ρ1) (hf : freed [v] ρ1 = true) (hv : v < ρ1.length)
    (hc : ∀ x ∈ xs, (stl (evalE O c (ρ1.set v (.imm (.int x))))).seq (fun r ρ => testR r ρ) = .ok (p x) (ρ1.set v (.imm (.int x)))) :
    evalE O (.lc (.var v) (.one v) it (.cons c .nil)) ρ = .ok (.fr (.lst ((xs.filter p).map Dat.int))) (unlock lk ρ1) := by
  have := lc_pure (O := O) (e := .var v) (c := .cons c .nil) id (fun d => p (unI d)) h1 hf hv (fun d hd => ?_) (fun d hd _ => ?_)
  · rw [this, filter_ints]
  · obtain ⟨x, hx, rfl⟩ := List.mem_map.mp hd
    rw [evc_one]
    exact hc x hx
  · rw [ev_var, List.getElem?_set_self hv]
    rfl
end VI
namespace VI
theorem x_whl {O : Orc} {ρ : Env} {n : Nat} {c : E} {b : Ss} : exec O (.whl n c b) ρ = whlI (fun ρ => (stl (evalE O c ρ)).seq fun x ρ1 => testR x ρ1) (fun ρ => execs O b ρ) n ρ := by rw [exec]
/-- a while loop that goes on just K times -/
theorem whl_count {c : Env → Out Bool} {b : Env → Ctl} (M : Nat → Env) (K : Nat) (hc : ∀ k, k < K → c (M k) = .ok true (M k)) (hb : ∀ k, k < K → b (M k) = .nx (M (k + 1))) (he : c (M K) = .ok false (M K)) : ∀ (j k fuel : Nat), k + j = K → j < fuel → whlI c b fuel (M k) = .nx (M K)
  | 0, k, fuel, h, hf => by
    cases fuel with
    | zero => omega
    | succ m =>
      have : k = K := by omega
      subst this
      rw [whlI, he]
      rfl
  | j + 1, k, fuel, h, hf => by
    cases fuel with
    | zero => omega
    | succ m =>
      rw [whlI, hc k (by omega)]
      show (match b (M k) with
        | .nx ρ2 => whlI c b m ρ2 | .cnt ρ2 => whlI c b m ρ2 | .brk ρ2 => .nx ρ2
        | .ret r ρ2 => .ret r ρ2 | .exc c xs ρ2 => .exc c xs ρ2 | .bad => .bad) = _
      rw [hb k (by omega)]
      exact whl_count M K hc hb he j (k + 1) m (by omega) (by omega)
theorem at_neg1 {xs : List Dat} {x : Dat} : atI (xs ++ [x]) (-1) = some x := by
  have e : ixN (xs ++ [x]).length (-1) = some xs.length := by
    unfold ixN
    rw [if_neg (by decide), List.length_append, List.length_singleton, if_pos (by omega)]
    congr 1
    omega
  unfold atI
  rw [e]
  simp
end VI
namespace VI
/-- nothing, or plain data -/
def Fr (s : Slot) : Prop := s = .emp ∨ ∃ d, s = .imm d
theorem Fr.emp : Fr .emp := .inl rfl
theorem Fr.imm {d : Dat} : Fr (.imm d) := .inr ⟨d, rfl⟩
theorem set_fr {ρ : Env} {i : Nat} {s t : Slot} (h : ρ[i]? = some s) (f : Fr s) : setS i t ρ = some (ρ.set i t) := by
  unfold setS
  rw [h]
  rcases f with rfl | ⟨d, rfl⟩ <;> rfl
theorem x_asg_fr' {O : Orc} {ρ ρ1 : Env} {i : Nat} {e : E} {d : Dat} {s : Slot} (he : evalE O e ρ = .ok (.imm d) ρ1) (h : ρ1[i]? = some s) (f : Fr s) : exec O (.asg i e) ρ = .nx (ρ1.set i (.imm d)) := by
  rw [x_s_asg, he, ctl_ok, x_asg_imm, set_fr h f]; rfl
theorem ev_frz_fr {O : Orc} {ρ ρ1 : Env} {e : E} {o : OD} (he : evalE O e ρ = .ok (.fr o) ρ1) : evalE O (.frz e) ρ = .ok (.imm o.toDat) ρ1 := by
  rw [ev_frz, he]; rfl
theorem ev_frz_imm {O : Orc} {ρ ρ1 : Env} {e : E} {d : Dat} (he : evalE O e ρ = .ok (.imm d) ρ1) : evalE O (.frz e) ρ = .ok (.imm d) ρ1 := by
  rw [ev_frz, he]; rfl
theorem bind_fr {ρ : Env} {i : Nat} {s : Slot} {d : Dat} (h : ρ[i]? = some s) (f : Fr s) : bind (.one i) d ρ = some (ρ.set i (.imm d)) := set_fr h f
end VI
namespace VI
open PySem (PyData)
theorem outs_refl : ∀ a : List Slot, outsOk a a = true
  | [] => rfl
  | .emp :: a => outs_refl a
  | .imm _ :: a => outs_refl a
  | .own false _ _ :: a => outs_refl a
  | .own true _ _ :: a => by
    show (true && outsOk a a) = true
    rw [outs_refl a]; rfl
theorem retO_same {args : List Slot} {ρ : Env} {np : Nat} {d : Dat} (h : ρ.take np = args) : retO args np (.imm d) ρ = .ret (.imm d) args := by
  rw [x_retO_imm, h, if_pos (outs_refl args)]
theorem retO_frs {args : List Slot} {ρ : Env} {np : Nat} {o : OD} (h : ρ.take np = args) : retO args np (.fr o) ρ = .ret (.fr o) args := by
  rw [x_retO_fr, h, if_pos (outs_refl args)]
theorem retO_out {args outs : List Slot} {ρ : Env} {np : Nat} {d : Dat} (h : ρ.take np = outs) (ho : outsOk args outs = true) : retO args np (.imm d) ρ = .ret (.imm d) outs := by
  rw [x_retO_imm, h, if_pos ho]
theorem retO_fro {args outs : List Slot} {ρ : Env} {np : Nat} {o : OD} (h : ρ.take np = outs) (ho : outsOk args outs = true) : retO args np (.fr o) ρ = .ret (.fr o) outs := by
  rw [x_retO_fr, h, if_pos ho]
theorem and2 (x : Ctl) (k : Env → Ctl) : (x.andThen fun ρ2 => .nx (unlock none ρ2)).andThen k = x.andThen k := by cases x <;> rfl
theorem x_ife_t {O : Orc} {c : E} {a b : Ss} {ρ ρ1 : Env} (h : evalE O c ρ = .ok (.imm (.bl true)) ρ1) : exec O (.ife c a b) ρ = execs O a ρ1 := by simp [h]
theorem x_ife_f {O : Orc} {c : E} {a b : Ss} {ρ ρ1 : Env} (h : evalE O c ρ = .ok (.imm (.bl false)) ρ1) : exec O (.ife c a b) ρ = execs O b ρ1 := by simp [h]
theorem ix_nat {n k : Nat} (h : k < n) : ixN n (k : Int) = some k := by
  unfold ixN
  rw [if_pos (by omega), if_pos (by omega)]; rfl
theorem at_f {α : Type} (f : α → Dat) {xs : List α} {i : Int} {j : Nat} (e : i = (j : Int)) {x : α} (h : xs[j]? = some x) : idxD (.lst (xs.map f)) (.int i) = some (.imm (f x)) := by
  subst e
  have hl : j < xs.length := by
    rcases Nat.lt_or_ge j xs.length with q | q
    · exact q
    · rw [List.getElem?_eq_none q] at h; cases h
  show (atI (xs.map f) (j : Int)).map _ = _
  unfold atI
  rw [List.length_map, ix_nat hl]
  simp [h]
theorem cut_drop (xs : List Dat) (k : Nat) : cutD xs (some (k : Int)) none = xs.drop k := by
  unfold cutD sIx
  have : ¬ ((k : Int) < 0) := by omega
  simp only [this, if_false, Int.toNat_natCast]
  by_cases h : k ≤ xs.length
  · rw [Nat.min_eq_left h]; exact List.take_of_length_le (by rw [List.length_drop]; exact Nat.le_refl _)
  · rw [Nat.min_eq_right (by omega), List.drop_eq_nil_of_le (Nat.le_refl _), List.drop_eq_nil_of_le (by omega)]; simp
theorem cut_mid (xs : List Dat) (a b : Nat) (h : a ≤ b) (hb : b ≤ xs.length) : cutD xs (some (a : Int)) (some (b : Int)) = (xs.drop a).take (b - a) := by
  unfold cutD sIx
  have h1 : ¬ ((a : Int) < 0) := by omega
  have h2 : ¬ ((b : Int) < 0) := by omega
  simp only [h1, h2, if_false, Int.toNat_natCast]
  rw [Nat.min_eq_left hb, Nat.min_eq_left (show a ≤ xs.length by omega)]
theorem slf_take {α : Type} (f : α → Dat) (xs : List α) {i : Int} {k : Nat} (e : i = (k : Int)) : slcD (.lst (xs.map f)) none (some i) = some (.fr (.lst ((xs.take k).map f))) := by
  subst e
  show some (Res.fr (OD.lst (cutD (xs.map f) none (some (k : Int))))) = _
  rw [cut_take, List.map_take]
theorem slf_drop {α : Type} (f : α → Dat) (xs : List α) {i : Int} {k : Nat} (e : i = (k : Int)) : slcD (.lst (xs.map f)) (some i) none = some (.fr (.lst ((xs.drop k).map f))) := by
  subst e
  show some (Res.fr (OD.lst (cutD (xs.map f) (some (k : Int)) none))) = _
  rw [cut_drop, List.map_drop]
theorem slf_mid {α : Type} (f : α → Dat) (xs : List α) {i j : Int} {a b : Nat} (e : i = (a : Int)) (e2 : j = (b : Int)) (h : a ≤ b) (hb : b ≤ xs.length) : slcD (.lst (xs.map f)) (some i) (some j) = some (.fr (.lst (((xs.drop a).take (b - a)).map f))) := by
  subst e e2
  show some (Res.fr (OD.lst (cutD (xs.map f) (some (a : Int)) (some (b : Int))))) = _
  rw [cut_mid _ _ _ h (by rw [List.length_map]; exact hb), List.map_take, List.map_drop]
theorem cat_ok (A B : List Dat) (h : A.length + B.length ≤ 1000) : binD .add (.lst A) (.lst B) = some (.fr (.lst (A ++ B))) := by
  rw [b_cat, decide_eq_true (show A.length + B.length ≤ line by show _ ≤ 16777216; omega), grd_true]
theorem app_f {α : Type} (f : α → Dat) (xs : List α) (h : xs.length ≤ 1000) (x : α) : muD .append (.lst (xs.map f)) [f x] = some (.non, .lst ((xs ++ [x]).map f)) := by
  rw [show (xs ++ [x]).map f = xs.map f ++ [f x] by simp]
  show grd (decide ((xs.map f).length < line)) _ = _
  rw [decide_eq_true (show (xs.map f).length < line by show (xs.map f).length < 16777216; rw [List.length_map]; omega), grd_true]
theorem set_f {α : Type} (f : α → Dat) {xs : List α} {i : Int} {j : Nat} (e : i = (j : Int)) (h : j < xs.length) (v : α) : stoD (.lst (xs.map f)) (.int i) (f v) = some (.lst ((xs.set j v).map f)) := by
  subst e
  show (match ixN (xs.map f).length (j : Int) with | some i => some (OD.lst ((xs.map f).set i (f v))) | none => none) = _
  rw [List.length_map, ix_nat h]
  show some (OD.lst ((xs.map f).set j (f v))) = _
  rw [List.map_set]
/-- a slot that a new content may take -/
def Fo (s : Slot) : Prop := s = .emp ∨ (∃ d, s = .imm d) ∨ ∃ o, s = .own false false o
theorem Fo.fr {s : Slot} (h : Fr s) : Fo s := h.elim .inl fun h => .inr (.inl h)
theorem Fo.imm {d : Dat} : Fo (.imm d) := .inr (.inl ⟨d, rfl⟩)
theorem Fo.own {o : OD} : Fo (.own false false o) := .inr (.inr ⟨o, rfl⟩)
theorem Fo.emp : Fo .emp := .inl rfl
/-- the draws of a law -/
def DrawOk (O : Orc) (c : Nat) : Prop := ∀ (p : Bool) (ds : List Dat) (m : Int), Pu ds → mOk m → ∃ (r : Int) (ds' : List Dat), (0 ≤ r ∧ r < m) ∧ Pu ds' ∧ O.call c [.own true false (.lst ds), .imm (.int m)] = .ret (.imm (.int r)) [.own true false (.lst ds'), .imm (.int m)]
theorem drawOk {P : Prg} {f : Nat} (hf : P.defs[f]? = some dDraw) (n : Nat) : DrawOk (orc P (n + 1)) f := fun _ ds m hp hm => draw_is hf n hp hm
theorem DrawOk.small {O : Orc} {c : Nat} (D : DrawOk O c) {ds : List Dat} (u : Pu ds) (m : Int) (h : 0 < m) (h2 : m < 2 ^ 62) : ∃ (r : Int) (ds' : List Dat), (0 ≤ r ∧ r < m) ∧ Pu ds' ∧ O.call c [.own true false (.lst ds), .imm (.int m)] = .ret (.imm (.int r)) [.own true false (.lst ds'), .imm (.int m)] := D true ds m u (big_line h h2)
/-- equal to itself -/
theorem eqv_self_str (s : PySem.Str) : PyData.eqv (.str s) (.str s) = true := by simp [PyData.eqv]
mutual
theorem eqv_self : ∀ d : Dat, PyData.eqv d.py d.py = true
  | .non => by simp [Dat.py, PyData.eqv]
  | .bl b => by cases b <;> rfl
  | .int i => by show PyData.eqv (.int i) (.int i) = true; rw [eqv_int]; simp
  | .str s => eqv_self_str s
  | .lst xs => by show PyData.eqvAll (Dat.pys xs) (Dat.pys xs) = true; exact eqvs_self xs
  | .tup xs => by show PyData.eqvAll (Dat.pys xs) (Dat.pys xs) = true; exact eqvs_self xs
  | .dK _ => by simp [Dat.py, PyData.eqv]
  | .dT _ => by simp [Dat.py, PyData.eqv]
  | .ins _ _ => by simp [Dat.py, PyData.eqv]
theorem eqvs_self : ∀ xs : List Dat, PyData.eqvAll (Dat.pys xs) (Dat.pys xs) = true
  | [] => rfl
  | x :: xs => by
    show (PyData.eqv x.py x.py && PyData.eqvAll (Dat.pys xs) (Dat.pys xs)) = true
    rw [eqv_self x, eqvs_self xs]; rfl
end
theorem eqD_self {d : Dat} (h : d.pl = true) (h2 : d.dep ≤ 64) : eqD d d = some true := by
  unfold eqD
  rw [h, decide_eq_true h2, eqv_self d]; rfl
theorem ne_self {d : Dat} (h : d.pl = true) (h2 : d.dep ≤ 64) : cmpD .ne d d = some (.imm (.bl false)) := by
  show ((eqD d d).map _).map _ = _
  rw [eqD_self h h2]; rfl
theorem eq_self {d : Dat} (h : d.pl = true) (h2 : d.dep ≤ 64) : cmpD .eq d d = some (.imm (.bl true)) := by
  show ((eqD d d).map _) = _
  rw [eqD_self h h2]; rfl
/-- a comprehension whose values change what is kept -/
theorem lcI_fold {i : Nat} {c : Env → Out Bool} {e : Env → Out Dat} (P : Env → Prop) (Q : Dat → Prop) : ∀ (ds acc : List Dat) (ρ : Env), P ρ → (∀ x ∈ acc, Q x) → (∀ d ∈ ds, ∀ ρ, P ρ → ∃ ρa x ρb, bind (.one i) d (wipeL [i] ρ) = some ρa ∧ c ρa = .ok true ρa ∧ e ρa = .ok x ρb ∧ Q x ∧ P ρb) →
    ∃ xs ρ', lcI (fun d ρ => bind (.one i) d (wipeL [i] ρ)) c e ds acc ρ = .ok xs ρ' ∧ P ρ' ∧ (∀ x ∈ xs, Q x) ∧ xs.length = acc.length + ds.length
  | [], acc, ρ, hp, ha, _ => ⟨acc, ρ, by rw [lcI], hp, ha, by simp⟩
  | d :: ds, acc, ρ, hp, ha, h => by
    obtain ⟨ρa, x, ρb, e1, e2, e3, q, p'⟩ := h d (List.mem_cons_self) ρ hp
    obtain ⟨xs, ρ', e4, p4, q4, l4⟩ := lcI_fold P Q ds (acc ++ [x]) ρb p' (fun y hy => by
      rcases List.mem_append.1 hy with hy | hy
      · exact ha y hy
      · rw [List.mem_singleton.1 hy]; exact q) (fun d hd => h d (List.mem_cons_of_mem _ hd))
    refine ⟨xs, ρ', ?_, p4, q4, by rw [l4, List.length_append, List.length_singleton, List.length_cons]; omega⟩
    rw [lcI, e1]
    dsimp only
    rw [e2, seqN_ok, if_pos rfl, e3, seqN_ok]
    exact e4
theorem lc_fold {O : Orc} {e : E} {i : Nat} {it : It} {ρ ρ1 : Env} {ds : List Dat} {lk : Option Nat} (P : Env → Prop) (Q : Dat → Prop) (h1 : evalI O it ρ = .ok (ds, lk) ρ1) (hf : freed [i] ρ1 = true) (h0 : P ρ1) (hs : ∀ d ∈ ds, ∀ ρ, P ρ → ∃ ρa x ρb, bind (.one i) d (wipeL [i] ρ) = some ρa ∧ (stl (evalE O e ρa)).seq capt = .ok x ρb ∧ Q x ∧ P ρb) :
    ∃ xs ρ', evalE O (.lc e (.one i) it .nil) ρ = .ok (.fr (.lst xs)) (unlock lk (restore [i] ρ1 ρ')) ∧ P ρ' ∧ (∀ x ∈ xs, Q x) ∧ xs.length = ds.length := by
  obtain ⟨xs, ρ', e1, p, q, l⟩ := lcI_fold (i := i) (c := evalC O .nil) (e := fun ρ => (stl (evalE O e ρ)).seq capt) P Q ds [] ρ1 h0 (fun x h => by cases h) (fun d hd ρ hp => by
    obtain ⟨ρa, x, ρb, a1, a2, a3, a4⟩ := hs d hd ρ hp
    exact ⟨ρa, x, ρb, a1, by rw [evc_nil], a2, a3, a4⟩)
  refine ⟨xs, ρ', ?_, p, q, by rw [l]; simp⟩
  rw [evalE, h1, seq_ok]
  have hf' : freed (Pat.one i).ix ρ1 = true := hf
  rw [if_pos hf']
  show (lcI (fun d ρ => bind (.one i) d (wipeL [i] ρ)) (evalC O .nil) (fun ρ => (stl (evalE O e ρ)).seq capt) ds [] ρ1).seq _ = _
  rw [e1, seq_ok]; rfl
theorem call_ret {P : Prg} {f : Nat} {d : Def} (hf : P.defs[f]? = some d) (n : Nat) {args env : List Slot} {r : Res} {ρ : Env} (hl : args.length = d.np) (he : args ++ List.replicate (d.n - d.np) .emp = env) (h : execs (orc P n) d.body env = .ret r ρ) : (orc P (n + 1)).call f args = retO args d.np r ρ := by
  rw [call_of hf]; unfold run; rw [if_pos hl, he, h]
theorem call_exc {P : Prg} {f : Nat} {d : Def} (hf : P.defs[f]? = some d) (n : Nat) {args env : List Slot} {c : Nat} {xs : List Dat} {ρ : Env} (hl : args.length = d.np) (he : args ++ List.replicate (d.n - d.np) .emp = env) (h : execs (orc P n) d.body env = .exc c xs ρ) : (orc P (n + 1)).call f args = .exc c xs := by
  rw [call_of hf]; unfold run; rw [if_pos hl, he, h]
theorem call_nx {P : Prg} {f : Nat} {d : Def} (hf : P.defs[f]? = some d) (n : Nat) {args env : List Slot} {ρ : Env} (hl : args.length = d.np) (he : args ++ List.replicate (d.n - d.np) .emp = env) (h : execs (orc P n) d.body env = .nx ρ) : (orc P (n + 1)).call f args = retO args d.np (.imm .non) ρ := by
  rw [call_of hf]; unfold run; rw [if_pos hl, he, h]
theorem ev_rngz {O : Orc} {ρ ρ1 : Env} {es : Es} {rs : List Res} {i : Int} (k : Nat) (he : evalAs O es ρ = .ok rs ρ1) (hd : derefs ρ1 rs = some [.int i]) (hk : i.toNat = k) (h1 : -100000 ≤ i) (h2 : i ≤ 16777216) : evalI O (.rng es) ρ = .ok ((List.range k).map fun (i : Nat) => Dat.int (i : Int), none) ρ1 := by
  subst hk
  rw [evalI, he, seq_ok, hd]
  show Out.of (grd (rngOk 0 i && decide (i ≤ 16777216)) ((rngL 0 i).map Dat.int, none)) ρ1 = _
  have r : rngOk 0 i = true := by
    unfold rngOk
    rw [decide_eq_true (show -(2 ^ 62 : Int) ≤ 0 by decide), decide_eq_true (show (0 : Int) < 2 ^ 62 by decide), decide_eq_true (show -(2 ^ 62 : Int) ≤ i by omega), decide_eq_true (show i < 2 ^ 62 by omega)]; rfl
  have e : (rngL 0 i).map Dat.int = (List.range i.toNat).map fun (i : Nat) => Dat.int (i : Int) := by
    unfold rngL
    rw [Int.sub_zero, List.map_map]
    refine List.map_congr_left fun x _ => ?_
    show Dat.int (0 + (x : Int)) = _
    rw [Int.zero_add]
  rw [r, decide_eq_true h2, e]
  rfl
end VI
namespace K19
open PySem L2 VI
/-! the IR of the defs, printed by vigen.py -/
def top (i : Nat) : Stmt := PySem.Challenge.pw_sharedenough_k19_turns_by_steps_and_by_f.main.body.getD i (.Pass ⟨0, 0, 0, 0⟩)
def I : Inf := ⟨["spare_age", "turns", "_law_purse", "_law_draw", "_law_draw", "_law_draw", "_law_whole", "_law_steps", "_law_asked", "_law_great", "law"], [], [("TooMany", ["what"]), ("BadLosses", ["row"]), ("BadLine", ["table"])]⟩
def cin : Stmt → Stmt
  | .ClassDef _ _ _ (b :: _) _ _ _ _ _ _ _ => b
  | s => s
/-- spare_age -/
def d0 : Def := ⟨3, 4, (.cons (.asg 3 (.bin .sub (.bin .sub (.bin .sub (.var 0) (.bin .mul (.cst (.int 2)) (.var 1))) (.cst (.int 1))) (.var 2))) (.cons (.ife (.bop false (.cons (.cmp .ge (.var 1) (.var 0)) (.cons (.cmp .lt (.var 3) (.cst (.int 0))) .nil))) (.cons (.rse 2 (.cons (.cst (.int 0)) .nil)) .nil) .nil) (.cons (.ret (.var 3)) .nil)))⟩
/-- turns -/
def d1 : Def := ⟨4, 5, (.cons (.asg 4 (.bi .max (.cons (.cst (.int 0)) (.cons (.bin .sub (.var 3) (.call 0 (.cons (.var 0) (.cons (.var 1) (.cons (.var 2) .nil))))) .nil)))) (.cons (.ret (.bin .fdiv (.bin .sub (.bin .sub (.bin .add (.var 4) (.var 0)) (.var 1)) (.cst (.int 1))) (.bin .sub (.var 0) (.var 1)))) .nil))⟩
/-- _law_purse -/
def d2 : Def := ⟨2, 5, (.cons (.asg 2 (.frz (.ife (.cmp .lt (.var 1) (.bi .len (.cons (.var 0) .nil))) (.bi .int (.cons (.idx (.var 0) (.var 1)) .nil)) (.bin .mul (.cst (.int 31)) (.bi .sum (.cons (.lc (.bi .int (.cons (.var 3) .nil)) (.one 3) (.val (.slc (.var 0) .nil (.cons (.cst (.int 4)) .nil))) .nil) .nil)))))) (.cons (.asg 4 (.bin .add (.bin .mul (.cst (.int 2)) (.bi .abs (.cons (.var 2) .nil))) (.ife (.cmp .lt (.var 2) (.cst (.int 0))) (.cst (.int 1)) (.cst (.int 0))))) (.cons (.ret (.lst (.cons (.ife (.cmp .ge (.var 4) (.bin .pow (.cst (.int 10)) (.cst (.int 18)))) (.var 4) (.cst (.int 0))) (.cons (.bin .mod (.bi .int (.cons (.bin .add (.bin .add (.var 4) (.bin .mul (.var 1) (.cst (.int 104729)))) (.cst (.int 12345))) .nil)) (.cst (.int 2147483629))) (.cons (.var 1) .nil))))) .nil)))⟩
/-- _law_draw -/
def d3 : Def := ⟨2, 3, (.cons (.ife (.cmp .gt (.idx (.var 0) (.cst (.int 0))) (.cst (.int 0))) (.cons (.asg 2 (.bin .mod (.bi .int (.cons (.idx (.var 0) (.cst (.int 0))) .nil)) (.var 1))) (.cons (.sidx 0 (.cst (.int 0)) (.bin .fdiv (.idx (.var 0) (.cst (.int 0))) (.var 1))) (.cons (.ret (.var 2)) .nil))) .nil) (.cons (.augx 0 (.cst (.int 2)) .add (.cst (.int 1))) (.cons (.sidx 0 (.cst (.int 1)) (.bin .mod (.bi .int (.cons (.bin .add (.bin .mul (.idx (.var 0) (.cst (.int 1))) (.cst (.int 48271))) (.bin .mul (.idx (.var 0) (.cst (.int 2))) (.cst (.int 69621)))) .nil)) (.cst (.int 2147483647)))) (.cons (.ret (.bin .mod (.bin .fdiv (.bin .mod (.bi .int (.cons (.bin .add (.bin .mul (.idx (.var 0) (.cst (.int 1))) (.cst (.int 16807))) (.bin .mul (.idx (.var 0) (.cst (.int 2))) (.cst (.int 7919)))) .nil)) (.cst (.int 2147483629))) (.cst (.int 8))) (.var 1))) .nil))))⟩
/-- _law_draw -/
def d4 : Def := ⟨2, 3, (.cons (.ife (.cmp .gt (.idx (.var 0) (.cst (.int 0))) (.cst (.int 0))) (.cons (.asg 2 (.bin .mod (.bi .int (.cons (.idx (.var 0) (.cst (.int 0))) .nil)) (.var 1))) (.cons (.sidx 0 (.cst (.int 0)) (.bin .fdiv (.idx (.var 0) (.cst (.int 0))) (.var 1))) (.cons (.ret (.var 2)) .nil))) .nil) (.cons (.augx 0 (.cst (.int 2)) .add (.cst (.int 1))) (.cons (.sidx 0 (.cst (.int 1)) (.bin .mod (.bi .int (.cons (.bin .add (.bin .mul (.idx (.var 0) (.cst (.int 1))) (.cst (.int 48271))) (.bin .mul (.idx (.var 0) (.cst (.int 2))) (.cst (.int 69621)))) .nil)) (.cst (.int 2147483647)))) (.cons (.ret (.bin .mod (.bin .fdiv (.bin .mod (.bi .int (.cons (.bin .add (.bin .mul (.idx (.var 0) (.cst (.int 1))) (.cst (.int 16807))) (.bin .mul (.idx (.var 0) (.cst (.int 2))) (.cst (.int 7919)))) .nil)) (.cst (.int 2147483629))) (.cst (.int 8))) (.var 1))) .nil))))⟩
/-- _law_draw -/
def d5 : Def := ⟨2, 3, (.cons (.ife (.cmp .gt (.idx (.var 0) (.cst (.int 0))) (.cst (.int 0))) (.cons (.asg 2 (.bin .mod (.bi .int (.cons (.idx (.var 0) (.cst (.int 0))) .nil)) (.var 1))) (.cons (.sidx 0 (.cst (.int 0)) (.bin .fdiv (.idx (.var 0) (.cst (.int 0))) (.var 1))) (.cons (.ret (.var 2)) .nil))) .nil) (.cons (.augx 0 (.cst (.int 2)) .add (.cst (.int 1))) (.cons (.sidx 0 (.cst (.int 1)) (.bin .mod (.bi .int (.cons (.bin .add (.bin .mul (.idx (.var 0) (.cst (.int 1))) (.cst (.int 48271))) (.bin .mul (.idx (.var 0) (.cst (.int 2))) (.cst (.int 69621)))) .nil)) (.cst (.int 2147483647)))) (.cons (.ret (.bin .mod (.bin .fdiv (.bin .mod (.bi .int (.cons (.bin .add (.bin .mul (.idx (.var 0) (.cst (.int 1))) (.cst (.int 16807))) (.bin .mul (.idx (.var 0) (.cst (.int 2))) (.cst (.int 7919)))) .nil)) (.cst (.int 2147483629))) (.cst (.int 8))) (.var 1))) .nil))))⟩
/-- _law_whole -/
def d6 : Def := ⟨1, 1, (.cons (.ret (.bop true (.cons (.isi .int (.var 0)) (.cons (.not (.isi .bool (.var 0))) .nil)))) .nil)⟩
/-- _law_steps -/
def d7 : Def := ⟨4, 6, (.cons (.asg 4 (.cst (.int 0))) (.cons (.for (.one 5) (.rng (.cons (.bin .add (.var 3) (.cst (.int 1))) .nil)) (.cons (.ife (.cmp .le (.var 3) (.bin .sub (.bin .sub (.bin .sub (.var 0) (.bin .mul (.cst (.int 2)) (.var 1))) (.cst (.int 1))) (.var 2))) (.cons (.ret (.var 4)) .nil) .nil) (.cons (.asg 3 (.bi .max (.cons (.cst (.int 0)) (.cons (.bin .sub (.var 3) (.bin .sub (.var 0) (.var 1))) .nil)))) (.cons (.aug 4 .add (.cst (.int 1))) .nil)))) (.cons (.ret (.var 4)) .nil)))⟩
/-- _law_asked -/
def d8 : Def := ⟨4, 6, (.cons (.try (.cons (.asg 4 (.frz (.call 1 (.cons (.var 0) (.cons (.var 1) (.cons (.var 2) (.cons (.var 3) .nil))))))) .nil) (.cons 2 5 (.ret (.tup (.cons (.cst (.str "bad")) (.cons (.fld 0) (.cons (.orr (.isn 0 false) (.isn 1 false)) .nil))))) .nil)) (.cons (.ret (.tup (.cons (.cst (.str "let")) (.cons (.var 4) (.cons (.not (.call 6 (.cons (.var 4) .nil))) .nil))))) .nil))⟩
/-- _law_great -/
def d9 : Def := ⟨2, 9, (.cons (.asg 2 (.frz (.call 3 (.cons (.var 0) (.cons (.var 1) .nil))))) (.cons (.asg 3 (.frz (.call 3 (.cons (.var 0) (.cons (.var 1) .nil))))) (.cons (.asg 4 (.frz (.idx (.lst (.cons (.cst (.int 0)) (.cons (.cst (.int 1)) (.cons (.call 3 (.cons (.var 0) (.cons (.var 1) .nil))) .nil)))) (.call 3 (.cons (.var 0) (.cons (.cst (.int 3)) .nil)))))) (.cons (.asg 5 (.bin .add (.bin .add (.bin .add (.bin .mul (.cst (.int 2)) (.var 2)) (.cst (.int 1))) (.var 3)) (.var 4))) (.cons (.asg 6 (.frz (.call 3 (.cons (.var 0) (.cons (.var 1) .nil))))) (.cons (.ife (.cmp .eq (.call 3 (.cons (.var 0) (.cons (.cst (.int 2)) .nil))) (.cst (.int 0))) (.cons (.asg 6 (.bin .add (.bin .add (.var 4) (.bin .mul (.bin .sub (.var 5) (.var 2)) (.call 3 (.cons (.var 0) (.cons (.cst (.int 50)) .nil))))) (.call 3 (.cons (.var 0) (.cons (.cst (.int 2)) .nil))))) .nil) .nil) (.cons (.asg 7 (.bin .sub (.var 6) (.var 4))) (.cons (.asg 8 (.cst (.int 0))) (.cons (.ife (.cmp .gt (.var 7) (.cst (.int 0))) (.cons (.asg 8 (.bin .fdiv (.var 7) (.bin .sub (.var 5) (.var 2)))) (.cons (.ife (.cmp .lt (.bin .mul (.var 8) (.bin .sub (.var 5) (.var 2))) (.var 7)) (.cons (.asg 8 (.bin .add (.var 8) (.cst (.int 1)))) .nil) .nil) .nil)) .nil) (.cons (.ret (.tup (.cons (.var 5) (.cons (.var 2) (.cons (.var 3) (.cons (.var 6) (.cons (.var 8) .nil))))))) .nil))))))))))⟩
/-- law -/
def d10 : Def := ⟨1, 9, (.cons (.asg 1 (.call 2 (.cons (.var 0) (.cons (.cst (.int 0)) .nil)))) (.cons (.asg 2 (.bin .add (.cst (.int 1)) (.call 3 (.cons (.var 1) (.cons (.cst (.int 9)) .nil))))) (.cons (.for (.one 3) (.rng (.cons (.cst (.int 0)) (.cons (.bin .add (.bin .fdiv (.bin .sub (.var 2) (.cst (.int 1))) (.cst (.int 2))) (.cst (.int 1))) .nil))) (.cons (.for (.one 4) (.rng (.cons (.cst (.int 0)) (.cons (.bin .sub (.var 2) (.bin .mul (.cst (.int 2)) (.var 3))) .nil))) (.cons (.for (.one 5) (.val (.bin .add (.lst (.cons (.cst (.int 0)) (.cons (.cst (.int 1)) (.cons (.var 2) (.cons (.call 3 (.cons (.var 1) (.cons (.cst (.int 41)) .nil))) .nil))))) (.rl3 (.cons (.call 3 (.cons (.var 1) (.cons (.cst (.int 9)) .nil))) (.cons (.cst (.int 41)) (.cons (.cst (.int 3)) .nil)))))) (.cons (.ife (.cmp .ne (.call 8 (.cons (.var 2) (.cons (.var 3) (.cons (.var 4) (.cons (.var 5) .nil))))) (.tup (.cons (.cst (.str "let")) (.cons (.call 7 (.cons (.var 2) (.cons (.var 3) (.cons (.var 4) (.cons (.var 5) .nil))))) (.cons (.cst (.bl false)) .nil))))) (.cons (.ret (.cst (.bl false))) .nil) .nil) .nil)) .nil)) (.cons (.ife (.cmp .ne (.call 8 (.cons (.var 2) (.cons (.var 3) (.cons (.bin .sub (.var 2) (.bin .mul (.cst (.int 2)) (.var 3))) (.cons (.call 3 (.cons (.var 1) (.cons (.cst (.int 41)) .nil))) .nil))))) (.tup (.cons (.cst (.str "bad")) (.cons (.cst (.int 0)) (.cons (.cst (.bl false)) .nil))))) (.cons (.ret (.cst (.bl false))) .nil) .nil) .nil))) (.cons (.asg 6 (.bin .add (.var 2) (.call 3 (.cons (.var 1) (.cons (.cst (.int 3)) .nil))))) (.cons (.ife (.cmp .ne (.call 8 (.cons (.var 2) (.cons (.var 6) (.cons (.cst (.int 0)) (.cons (.call 3 (.cons (.var 1) (.cons (.cst (.int 41)) .nil))) .nil))))) (.tup (.cons (.cst (.str "bad")) (.cons (.cst (.int 0)) (.cons (.cst (.bl false)) .nil))))) (.cons (.ret (.cst (.bl false))) .nil) .nil) (.cons (.ife (.cmp .ne (.call 8 (.cons (.var 2) (.cons (.bin .fdiv (.bin .add (.var 2) (.cst (.int 1))) (.cst (.int 2))) (.cons (.cst (.int 0)) (.cons (.cst (.int 0)) .nil))))) (.tup (.cons (.cst (.str "bad")) (.cons (.cst (.int 0)) (.cons (.cst (.bl false)) .nil))))) (.cons (.ret (.cst (.bl false))) .nil) .nil) (.cons (.for (.one 7) (.val (.lst (.cons (.bin .pow (.cst (.int 10)) (.cst (.int 3))) (.cons (.bin .pow (.cst (.int 10)) (.cst (.int 6))) (.cons (.bin .pow (.cst (.int 10)) (.cst (.int 30))) .nil))))) (.cons (.asg 8 (.frz (.call 9 (.cons (.var 1) (.cons (.var 7) .nil))))) (.cons (.ife (.cmp .ne (.call 8 (.cons (.idx (.var 8) (.cst (.int 0))) (.cons (.idx (.var 8) (.cst (.int 1))) (.cons (.idx (.var 8) (.cst (.int 2))) (.cons (.idx (.var 8) (.cst (.int 3))) .nil))))) (.tup (.cons (.cst (.str "let")) (.cons (.idx (.var 8) (.cst (.int 4))) (.cons (.cst (.bl false)) .nil))))) (.cons (.ret (.cst (.bl false))) .nil) .nil) (.cons (.ife (.cmp .ne (.call 8 (.cons (.idx (.var 8) (.cst (.int 0))) (.cons (.idx (.var 8) (.cst (.int 1))) (.cons (.bin .sub (.idx (.var 8) (.cst (.int 0))) (.bin .mul (.cst (.int 2)) (.idx (.var 8) (.cst (.int 1))))) (.cons (.idx (.var 8) (.cst (.int 3))) .nil))))) (.tup (.cons (.cst (.str "bad")) (.cons (.cst (.int 0)) (.cons (.cst (.bl false)) .nil))))) (.cons (.ret (.cst (.bl false))) .nil) .nil) .nil)))) (.cons (.ret (.cst (.bl true))) .nil))))))))⟩
def Pr : Prg := ⟨[d0, d1, d2, d3, d4, d5, d6, d7, d8, d9, d10], []⟩
theorem P0 : Pr.defs[0]? = some d0 := rfl
theorem P1 : Pr.defs[1]? = some d1 := rfl
theorem P2 : Pr.defs[2]? = some d2 := rfl
theorem P3 : Pr.defs[3]? = some d3 := rfl
theorem P4 : Pr.defs[4]? = some d4 := rfl
theorem P5 : Pr.defs[5]? = some d5 := rfl
theorem P6 : Pr.defs[6]? = some d6 := rfl
theorem P7 : Pr.defs[7]? = some d7 := rfl
theorem P8 : Pr.defs[8]? = some d8 := rfl
theorem P9 : Pr.defs[9]? = some d9 := rfl
theorem P10 : Pr.defs[10]? = some d10 := rfl
theorem sc0 : FnScope ["c", "f", "b", "spare"] ["c", "f", "b"] (defScope (top 6)) := ⟨rfl, rfl, rfl, by decide +kernel, rfl, by decide +kernel, by decide +kernel⟩
theorem ma0 : mSs I ["c", "f", "b", "spare"] (defScope (top 6)) d0.body (defBody (top 6)) = true := by decide +kernel
theorem sc1 : FnScope ["c", "f", "b", "age", "late"] ["c", "f", "b", "age"] (defScope (top 7)) := ⟨rfl, rfl, rfl, by decide +kernel, rfl, by decide +kernel, by decide +kernel⟩
theorem ma1 : mSs I ["c", "f", "b", "age", "late"] (defScope (top 7)) d1.body (defBody (top 7)) = true := by decide +kernel
theorem sc2 : FnScope ["script", "at", "cell", "one", "size"] ["script", "at"] (defScope (top 9)) := ⟨rfl, rfl, rfl, by decide +kernel, rfl, by decide +kernel, by decide +kernel⟩
theorem ma2 : mSs I ["script", "at", "cell", "one", "size"] (defScope (top 9)) d2.body (defBody (top 9)) = true := by decide +kernel
theorem sc3 : FnScope ["purse", "many", "found"] ["purse", "many"] (defScope (top 10)) := ⟨rfl, rfl, rfl, by decide +kernel, rfl, by decide +kernel, by decide +kernel⟩
theorem ma3 : mSs I ["purse", "many", "found"] (defScope (top 10)) d3.body (defBody (top 10)) = true := by decide +kernel
theorem sc4 : FnScope ["purse", "many", "found"] ["purse", "many"] (defScope (top 10)) := ⟨rfl, rfl, rfl, by decide +kernel, rfl, by decide +kernel, by decide +kernel⟩
theorem ma4 : mSs I ["purse", "many", "found"] (defScope (top 10)) d4.body (defBody (top 10)) = true := by decide +kernel
theorem sc5 : FnScope ["purse", "many", "found"] ["purse", "many"] (defScope (top 10)) := ⟨rfl, rfl, rfl, by decide +kernel, rfl, by decide +kernel, by decide +kernel⟩
theorem ma5 : mSs I ["purse", "many", "found"] (defScope (top 10)) d5.body (defBody (top 10)) = true := by decide +kernel
theorem sc6 : FnScope ["thing"] ["thing"] (defScope (top 13)) := ⟨rfl, rfl, rfl, by decide +kernel, rfl, by decide +kernel, by decide +kernel⟩
theorem ma6 : mSs I ["thing"] (defScope (top 13)) d6.body (defBody (top 13)) = true := by decide +kernel
theorem sc7 : FnScope ["c", "f", "b", "age", "many", "step"] ["c", "f", "b", "age"] (defScope (top 14)) := ⟨rfl, rfl, rfl, by decide +kernel, rfl, by decide +kernel, by decide +kernel⟩
theorem ma7 : mSs I ["c", "f", "b", "age", "many", "step"] (defScope (top 14)) d7.body (defBody (top 14)) = true := by decide +kernel
theorem sc8 : FnScope ["c", "f", "b", "age", "told", "e"] ["c", "f", "b", "age"] (defScope (top 15)) := ⟨rfl, rfl, rfl, by decide +kernel, rfl, by decide +kernel, by decide +kernel⟩
theorem ma8 : mSs I ["c", "f", "b", "age", "told", "e"] (defScope (top 15)) d8.body (defBody (top 15)) = true := by decide +kernel
theorem sc9 : FnScope ["purse", "most", "f", "b", "spare", "c", "age", "late", "due"] ["purse", "most"] (defScope (top 16)) := ⟨rfl, rfl, rfl, by decide +kernel, rfl, by decide +kernel, by decide +kernel⟩
theorem ma9 : mSs I ["purse", "most", "f", "b", "spare", "c", "age", "late", "due"] (defScope (top 16)) d9.body (defBody (top 16)) = true := by decide +kernel
theorem sc10 : FnScope ["script", "purse", "c", "f", "b", "age", "more", "most", "great"] ["script"] (defScope (top 17)) := ⟨rfl, rfl, rfl, by decide +kernel, rfl, by decide +kernel, by decide +kernel⟩
theorem ma10 : mSs I ["script", "purse", "c", "f", "b", "age", "more", "most", "great"] (defScope (top 17)) d10.body (defBody (top 17)) = true := by decide +kernel
theorem sx0 : FnScope ("self" :: ["what"]) ("self" :: ["what"]) (defScope (cin (top 2))) := ⟨rfl, rfl, rfl, by decide +kernel, rfl, by decide +kernel, by decide +kernel⟩
theorem ix0 : iniB ["what"] ["what"] (cin (top 2)) = true := by decide +kernel
theorem sx1 : FnScope ("self" :: ["row"]) ("self" :: ["row"]) (defScope (cin (top 3))) := ⟨rfl, rfl, rfl, by decide +kernel, rfl, by decide +kernel, by decide +kernel⟩
theorem ix1 : iniB ["row"] ["row"] (cin (top 3)) = true := by decide +kernel
theorem sx2 : FnScope ("self" :: ["table"]) ("self" :: ["table"]) (defScope (cin (top 4))) := ⟨rfl, rfl, rfl, by decide +kernel, rfl, by decide +kernel, by decide +kernel⟩
theorem ix2 : iniB ["table"] ["table"] (cin (top 4)) = true := by decide +kernel
section
variable {K : PySem.W.Frag} {mg : Str → Option Value}
theorem tab {h : Heap} {fa a0 a1 a2 a3 a4 a5 a6 a7 a8 a9 a10 S C0 F0 C1 F1 C2 F2 : Addr} {od0 an0 od1 an1 od2 an2 od3 an3 od4 an4 od5 an5 od6 an6 od7 an7 od8 an8 od9 an9 od10 an10 xod0 xan0  xod1 xan1  xod2 xan2 : Option Addr} {sl0 sl1 sl2 sl3 sl4 sl5 sl6 sl7 sl8 sl9 sl10 xsl0  xsl1  xsl2 : Array (Option Value)} {oc0 kV0 dc0 pm0 cd0 ct0 oc1 kV1 dc1 pm1 cd1 ct1 oc2 kV2 dc2 pm2 cd2 ct2 oc3 kV3 dc3 pm3 cd3 ct3 oc4 kV4 dc4 pm4 cd4 ct4 oc5 kV5 dc5 pm5 cd5 ct5 oc6 kV6 dc6 pm6 cd6 ct6 oc7 kV7 dc7 pm7 cd7 ct7 oc8 kV8 dc8 pm8 cd8 ct8 oc9 kV9 dc9 pm9 cd9 ct9 oc10 kV10 dc10 pm10 cd10 ct10 xoc0 xkV0 xdc0 xpm0 xcd0 xct0  xoc1 xkV1 xdc1 xpm1 xcd1 xct1  xoc2 xkV2 xdc2 xpm2 xcd2 xct2 : Value} (X : K.In h) (G : h.Ns mainGlobals mg) (hfa : mg "law" = some (.ref fa))
    (b0 : PySem.W.nsIn K mainGlobals "len" = some none)
    (b1 : PySem.W.nsIn K mainGlobals "abs" = some none)
    (b2 : PySem.W.nsIn K mainGlobals "int" = some none)
    (b3 : PySem.W.nsIn K mainGlobals "min" = some none)
    (b4 : PySem.W.nsIn K mainGlobals "max" = some none)
    (b5 : PySem.W.nsIn K mainGlobals "sum" = some none)
    (b6 : PySem.W.nsIn K mainGlobals "sorted" = some none)
    (b7 : PySem.W.nsIn K mainGlobals "list" = some none)
    (b8 : PySem.W.nsIn K mainGlobals "tuple" = some none)
    (b9 : PySem.W.nsIn K mainGlobals "any" = some none)
    (b10 : PySem.W.nsIn K mainGlobals "all" = some none)
    (b11 : PySem.W.nsIn K mainGlobals "range" = some none)
    (b12 : PySem.W.nsIn K mainGlobals "enumerate" = some none)
    (b13 : PySem.W.nsIn K mainGlobals "isinstance" = some none)
    (b14 : PySem.W.nsIn K mainGlobals "str" = some none)
    (b15 : PySem.W.nsIn K mainGlobals "bool" = some none)
    (b16 : PySem.W.nsIn K mainGlobals "dict" = some none)
    (e0 : PySem.W.nsIn K mainGlobals "spare_age" = some (some (.ref a0))) (l0 : K.lookup a0 = some ⟨oc0, od0, .func (PySem.W.fnOf "spare_age" "spare_age" (defArgs (top 6)) (defBody (top 6)) (defScope (top 6)) .none kV0 dc0 pm0 an0 cd0 ct0), sl0⟩) (c0 : PySem.W.codeIn K cd0 "spare_age" = true) (k0 : PySem.W.keepIn K (.ref a0) = true)
    (e1 : PySem.W.nsIn K mainGlobals "turns" = some (some (.ref a1))) (l1 : K.lookup a1 = some ⟨oc1, od1, .func (PySem.W.fnOf "turns" "turns" (defArgs (top 7)) (defBody (top 7)) (defScope (top 7)) .none kV1 dc1 pm1 an1 cd1 ct1), sl1⟩) (c1 : PySem.W.codeIn K cd1 "turns" = true) (k1 : PySem.W.keepIn K (.ref a1) = true)
    (e2 : PySem.W.nsIn K mainGlobals "_law_purse" = some (some (.ref a2))) (l2 : K.lookup a2 = some ⟨oc2, od2, .func (PySem.W.fnOf "_law_purse" "_law_purse" (defArgs (top 9)) (defBody (top 9)) (defScope (top 9)) .none kV2 dc2 pm2 an2 cd2 ct2), sl2⟩) (c2 : PySem.W.codeIn K cd2 "_law_purse" = true) (k2 : PySem.W.keepIn K (.ref a2) = true)
    (e3 : PySem.W.nsIn K mainGlobals "_law_draw" = some (some (.ref a3))) (l3 : K.lookup a3 = some ⟨oc3, od3, .func (PySem.W.fnOf "_law_draw" "_law_draw" (defArgs (top 10)) (defBody (top 10)) (defScope (top 10)) .none kV3 dc3 pm3 an3 cd3 ct3), sl3⟩) (c3 : PySem.W.codeIn K cd3 "_law_draw" = true) (k3 : PySem.W.keepIn K (.ref a3) = true)
    (e4 : PySem.W.nsIn K mainGlobals "_law_draw" = some (some (.ref a4))) (l4 : K.lookup a4 = some ⟨oc4, od4, .func (PySem.W.fnOf "_law_draw" "_law_draw" (defArgs (top 10)) (defBody (top 10)) (defScope (top 10)) .none kV4 dc4 pm4 an4 cd4 ct4), sl4⟩) (c4 : PySem.W.codeIn K cd4 "_law_draw" = true) (k4 : PySem.W.keepIn K (.ref a4) = true)
    (e5 : PySem.W.nsIn K mainGlobals "_law_draw" = some (some (.ref a5))) (l5 : K.lookup a5 = some ⟨oc5, od5, .func (PySem.W.fnOf "_law_draw" "_law_draw" (defArgs (top 10)) (defBody (top 10)) (defScope (top 10)) .none kV5 dc5 pm5 an5 cd5 ct5), sl5⟩) (c5 : PySem.W.codeIn K cd5 "_law_draw" = true) (k5 : PySem.W.keepIn K (.ref a5) = true)
    (e6 : PySem.W.nsIn K mainGlobals "_law_whole" = some (some (.ref a6))) (l6 : K.lookup a6 = some ⟨oc6, od6, .func (PySem.W.fnOf "_law_whole" "_law_whole" (defArgs (top 13)) (defBody (top 13)) (defScope (top 13)) .none kV6 dc6 pm6 an6 cd6 ct6), sl6⟩) (c6 : PySem.W.codeIn K cd6 "_law_whole" = true) (k6 : PySem.W.keepIn K (.ref a6) = true)
    (e7 : PySem.W.nsIn K mainGlobals "_law_steps" = some (some (.ref a7))) (l7 : K.lookup a7 = some ⟨oc7, od7, .func (PySem.W.fnOf "_law_steps" "_law_steps" (defArgs (top 14)) (defBody (top 14)) (defScope (top 14)) .none kV7 dc7 pm7 an7 cd7 ct7), sl7⟩) (c7 : PySem.W.codeIn K cd7 "_law_steps" = true) (k7 : PySem.W.keepIn K (.ref a7) = true)
    (e8 : PySem.W.nsIn K mainGlobals "_law_asked" = some (some (.ref a8))) (l8 : K.lookup a8 = some ⟨oc8, od8, .func (PySem.W.fnOf "_law_asked" "_law_asked" (defArgs (top 15)) (defBody (top 15)) (defScope (top 15)) .none kV8 dc8 pm8 an8 cd8 ct8), sl8⟩) (c8 : PySem.W.codeIn K cd8 "_law_asked" = true) (k8 : PySem.W.keepIn K (.ref a8) = true)
    (e9 : PySem.W.nsIn K mainGlobals "_law_great" = some (some (.ref a9))) (l9 : K.lookup a9 = some ⟨oc9, od9, .func (PySem.W.fnOf "_law_great" "_law_great" (defArgs (top 16)) (defBody (top 16)) (defScope (top 16)) .none kV9 dc9 pm9 an9 cd9 ct9), sl9⟩) (c9 : PySem.W.codeIn K cd9 "_law_great" = true) (k9 : PySem.W.keepIn K (.ref a9) = true)
    (e10 : PySem.W.nsIn K mainGlobals "law" = some (some (.ref a10))) (l10 : K.lookup a10 = some ⟨oc10, od10, .func (PySem.W.fnOf "law" "law" (defArgs (top 17)) (defBody (top 17)) (defScope (top 17)) .none kV10 dc10 pm10 an10 cd10 ct10), sl10⟩) (c10 : PySem.W.codeIn K cd10 "law" = true) (k10 : PySem.W.keepIn K (.ref a10) = true)
    (xS : PySem.W.nsIn K mainGlobals "SharedError" = some (some (.ref S))) (bS : baB K S = true)
    (xc0 : PySem.W.nsIn K mainGlobals "TooMany" = some (some (.ref C0))) (xo0 : exB K C0 ["what"] = true) (xi0 : PySem.W.findIn K (.ref C0) "__init__" = some (some (.ref F0))) (xt0 : PySem.W.typeIn K (.ref F0) = some (.type "function"))
    (xl0 : K.lookup F0 = some ⟨xoc0, xod0, .func (PySem.W.fnOf "__init__" "TooMany.__init__" (defArgs (cin (top 2))) (defBody (cin (top 2))) (defScope (cin (top 2))) .none xkV0 xdc0 xpm0 xan0 xcd0 xct0), xsl0⟩) (xj0 : PySem.W.codeIn K xcd0 "TooMany.__init__" = true) (xk0 : PySem.W.keepIn K (.ref F0) = true)
    (xc1 : PySem.W.nsIn K mainGlobals "BadLosses" = some (some (.ref C1))) (xo1 : exB K C1 ["row"] = true) (xi1 : PySem.W.findIn K (.ref C1) "__init__" = some (some (.ref F1))) (xt1 : PySem.W.typeIn K (.ref F1) = some (.type "function"))
    (xl1 : K.lookup F1 = some ⟨xoc1, xod1, .func (PySem.W.fnOf "__init__" "BadLosses.__init__" (defArgs (cin (top 3))) (defBody (cin (top 3))) (defScope (cin (top 3))) .none xkV1 xdc1 xpm1 xan1 xcd1 xct1), xsl1⟩) (xj1 : PySem.W.codeIn K xcd1 "BadLosses.__init__" = true) (xk1 : PySem.W.keepIn K (.ref F1) = true)
    (xc2 : PySem.W.nsIn K mainGlobals "BadLine" = some (some (.ref C2))) (xo2 : exB K C2 ["table"] = true) (xi2 : PySem.W.findIn K (.ref C2) "__init__" = some (some (.ref F2))) (xt2 : PySem.W.typeIn K (.ref F2) = some (.type "function"))
    (xl2 : K.lookup F2 = some ⟨xoc2, xod2, .func (PySem.W.fnOf "__init__" "BadLine.__init__" (defArgs (cin (top 4))) (defBody (cin (top 4))) (defScope (cin (top 4))) .none xkV2 xdc2 xpm2 xan2 xcd2 xct2), xsl2⟩) (xj2 : PySem.W.codeIn K xcd2 "BadLine.__init__" = true) (xk2 : PySem.W.keepIn K (.ref F2) = true)
    (xm : exmB K [C0, C1, C2] = true)
    : ∃ (Γ : Tab) (df : Def) (fd : FuncData), TabOk I Γ K mg Pr ∧ Pr.defs[10]? = some df ∧ DefOk I K mg "law" df fa fd ["script"] ∧ ∀ (s : Shared) (u : Value), BindsTo s fd ⟨[u], []⟩ [("script", u)] := by
  refine VI.tab_of (i := 10) (d := d10) (x := "script") (y := "law") [C0, C1, C2] X G ?_ ?_ ?_ rfl ?_ xm rfl (ok_def sc10 ma10 (fun _ _ _ _ _ _ us hl => match us, hl with | [_], _ => rfl) X G e10 l10 c10 k10 rfl rfl) hfa (fun s u => .of_eq rfl)
  · intro x hx
    simp only [biNames, List.mem_cons, List.not_mem_nil, or_false] at hx
    rcases hx with rfl | rfl | rfl | rfl | rfl | rfl | rfl | rfl | rfl | rfl | rfl | rfl | rfl | rfl | rfl | rfl | rfl
    · exact b0
    · exact b1
    · exact b2
    · exact b3
    · exact b4
    · exact b5
    · exact b6
    · exact b7
    · exact b8
    · exact b9
    · exact b10
    · exact b11
    · exact b12
    · exact b13
    · exact b14
    · exact b15
    · exact b16
  · intro x d hx; simp [I] at hx
  · exact ⟨⟨_, _, _, ok_def sc0 ma0 (fun _ _ _ _ _ _ us hl => match us, hl with | [_, _, _], _ => rfl) X G e0 l0 c0 k0 rfl rfl⟩, ⟨_, _, _, ok_def sc1 ma1 (fun _ _ _ _ _ _ us hl => match us, hl with | [_, _, _, _], _ => rfl) X G e1 l1 c1 k1 rfl rfl⟩, ⟨_, _, _, ok_def sc2 ma2 (fun _ _ _ _ _ _ us hl => match us, hl with | [_, _], _ => rfl) X G e2 l2 c2 k2 rfl rfl⟩, ⟨_, _, _, ok_def sc3 ma3 (fun _ _ _ _ _ _ us hl => match us, hl with | [_, _], _ => rfl) X G e3 l3 c3 k3 rfl rfl⟩, ⟨_, _, _, ok_def sc4 ma4 (fun _ _ _ _ _ _ us hl => match us, hl with | [_, _], _ => rfl) X G e4 l4 c4 k4 rfl rfl⟩, ⟨_, _, _, ok_def sc5 ma5 (fun _ _ _ _ _ _ us hl => match us, hl with | [_, _], _ => rfl) X G e5 l5 c5 k5 rfl rfl⟩, ⟨_, _, _, ok_def sc6 ma6 (fun _ _ _ _ _ _ us hl => match us, hl with | [_], _ => rfl) X G e6 l6 c6 k6 rfl rfl⟩, ⟨_, _, _, ok_def sc7 ma7 (fun _ _ _ _ _ _ us hl => match us, hl with | [_, _, _, _], _ => rfl) X G e7 l7 c7 k7 rfl rfl⟩, ⟨_, _, _, ok_def sc8 ma8 (fun _ _ _ _ _ _ us hl => match us, hl with | [_, _, _, _], _ => rfl) X G e8 l8 c8 k8 rfl rfl⟩, ⟨_, _, _, ok_def sc9 ma9 (fun _ _ _ _ _ _ us hl => match us, hl with | [_, _], _ => rfl) X G e9 l9 c9 k9 rfl rfl⟩, ⟨_, _, _, ok_def sc10 ma10 (fun _ _ _ _ _ _ us hl => match us, hl with | [_], _ => rfl) X G e10 l10 c10 k10 rfl rfl⟩, trivial⟩
  · exact ⟨VI.ex_mk X G rfl rfl (by decide) sx0 ix0 (fun _ _ _ _ _ _ us hl => match us, hl with | [_, _], _ => rfl) xc0 xo0 xS bS xi0 xt0 xl0 xj0 xk0, VI.ex_mk X G rfl rfl (by decide) sx1 ix1 (fun _ _ _ _ _ _ us hl => match us, hl with | [_, _], _ => rfl) xc1 xo1 xS bS xi1 xt1 xl1 xj1 xk1, VI.ex_mk X G rfl rfl (by decide) sx2 ix2 (fun _ _ _ _ _ _ us hl => match us, hl with | [_, _], _ => rfl) xc2 xo2 xS bS xi2 xt2 xl2 xj2 xk2, trivial⟩
end
end K19
namespace K19
open VI
abbrev q0_0 : S := .asg 3 (.bin .sub (.bin .sub (.bin .sub (.var 0) (.bin .mul (.cst (.int 2)) (.var 1))) (.cst (.int 1))) (.var 2))
abbrev q0_1 : S := .ife (.bop false (.cons (.cmp .ge (.var 1) (.var 0)) (.cons (.cmp .lt (.var 3) (.cst (.int 0))) .nil))) (.cons (.rse 2 (.cons (.cst (.int 0)) .nil)) .nil) .nil
abbrev q0_2 : S := .ret (.var 3)
abbrev b0 : Ss := (.cons q0_0 (.cons q0_1 (.cons q0_2 .nil)))
theorem call0 (n : Nat) (a0 a1 a2 : Slot) {r : Res} {ρ : Env} (h : execs (orc Pr n) b0 [a0, a1, a2, .emp] = .ret r ρ) : (orc Pr (n + 1)).call 0 [a0, a1, a2] = retO [a0, a1, a2] 3 r ρ := call_ret P0 n rfl rfl h
theorem exc0 (n : Nat) (a0 a1 a2 : Slot) {c : Nat} {xs : List Dat} {ρ : Env} (h : execs (orc Pr n) b0 [a0, a1, a2, .emp] = .exc c xs ρ) : (orc Pr (n + 1)).call 0 [a0, a1, a2] = .exc c xs := call_exc P0 n rfl rfl h
theorem nx0 (n : Nat) (a0 a1 a2 : Slot) {ρ : Env} (h : execs (orc Pr n) b0 [a0, a1, a2, .emp] = .nx ρ) : (orc Pr (n + 1)).call 0 [a0, a1, a2] = retO [a0, a1, a2] 3 (.imm .non) ρ := call_nx P0 n rfl rfl h
abbrev q1_0 : S := .asg 4 (.bi .max (.cons (.cst (.int 0)) (.cons (.bin .sub (.var 3) (.call 0 (.cons (.var 0) (.cons (.var 1) (.cons (.var 2) .nil))))) .nil)))
abbrev q1_1 : S := .ret (.bin .fdiv (.bin .sub (.bin .sub (.bin .add (.var 4) (.var 0)) (.var 1)) (.cst (.int 1))) (.bin .sub (.var 0) (.var 1)))
abbrev b1 : Ss := (.cons q1_0 (.cons q1_1 .nil))
theorem call1 (n : Nat) (a0 a1 a2 a3 : Slot) {r : Res} {ρ : Env} (h : execs (orc Pr n) b1 [a0, a1, a2, a3, .emp] = .ret r ρ) : (orc Pr (n + 1)).call 1 [a0, a1, a2, a3] = retO [a0, a1, a2, a3] 4 r ρ := call_ret P1 n rfl rfl h
theorem exc1 (n : Nat) (a0 a1 a2 a3 : Slot) {c : Nat} {xs : List Dat} {ρ : Env} (h : execs (orc Pr n) b1 [a0, a1, a2, a3, .emp] = .exc c xs ρ) : (orc Pr (n + 1)).call 1 [a0, a1, a2, a3] = .exc c xs := call_exc P1 n rfl rfl h
theorem nx1 (n : Nat) (a0 a1 a2 a3 : Slot) {ρ : Env} (h : execs (orc Pr n) b1 [a0, a1, a2, a3, .emp] = .nx ρ) : (orc Pr (n + 1)).call 1 [a0, a1, a2, a3] = retO [a0, a1, a2, a3] 4 (.imm .non) ρ := call_nx P1 n rfl rfl h
abbrev q6_0 : S := .ret (.bop true (.cons (.isi .int (.var 0)) (.cons (.not (.isi .bool (.var 0))) .nil)))
abbrev b6 : Ss := (.cons q6_0 .nil)
theorem call6 (n : Nat) (a0 : Slot) {r : Res} {ρ : Env} (h : execs (orc Pr n) b6 [a0] = .ret r ρ) : (orc Pr (n + 1)).call 6 [a0] = retO [a0] 1 r ρ := call_ret P6 n rfl rfl h
theorem exc6 (n : Nat) (a0 : Slot) {c : Nat} {xs : List Dat} {ρ : Env} (h : execs (orc Pr n) b6 [a0] = .exc c xs ρ) : (orc Pr (n + 1)).call 6 [a0] = .exc c xs := call_exc P6 n rfl rfl h
theorem nx6 (n : Nat) (a0 : Slot) {ρ : Env} (h : execs (orc Pr n) b6 [a0] = .nx ρ) : (orc Pr (n + 1)).call 6 [a0] = retO [a0] 1 (.imm .non) ρ := call_nx P6 n rfl rfl h
abbrev q7_0 : S := .asg 4 (.cst (.int 0))
abbrev q7_1_0 : S := .ife (.cmp .le (.var 3) (.bin .sub (.bin .sub (.bin .sub (.var 0) (.bin .mul (.cst (.int 2)) (.var 1))) (.cst (.int 1))) (.var 2))) (.cons (.ret (.var 4)) .nil) .nil
abbrev q7_1_1 : S := .asg 3 (.bi .max (.cons (.cst (.int 0)) (.cons (.bin .sub (.var 3) (.bin .sub (.var 0) (.var 1))) .nil)))
abbrev q7_1_2 : S := .aug 4 .add (.cst (.int 1))
abbrev q7_1b : Ss := (.cons q7_1_0 (.cons q7_1_1 (.cons q7_1_2 .nil)))
abbrev q7_1 : S := .for (.one 5) (.rng (.cons (.bin .add (.var 3) (.cst (.int 1))) .nil)) q7_1b
abbrev q7_2 : S := .ret (.var 4)
abbrev b7 : Ss := (.cons q7_0 (.cons q7_1 (.cons q7_2 .nil)))
theorem call7 (n : Nat) (a0 a1 a2 a3 : Slot) {r : Res} {ρ : Env} (h : execs (orc Pr n) b7 [a0, a1, a2, a3, .emp, .emp] = .ret r ρ) : (orc Pr (n + 1)).call 7 [a0, a1, a2, a3] = retO [a0, a1, a2, a3] 4 r ρ := call_ret P7 n rfl rfl h
theorem exc7 (n : Nat) (a0 a1 a2 a3 : Slot) {c : Nat} {xs : List Dat} {ρ : Env} (h : execs (orc Pr n) b7 [a0, a1, a2, a3, .emp, .emp] = .exc c xs ρ) : (orc Pr (n + 1)).call 7 [a0, a1, a2, a3] = .exc c xs := call_exc P7 n rfl rfl h
theorem nx7 (n : Nat) (a0 a1 a2 a3 : Slot) {ρ : Env} (h : execs (orc Pr n) b7 [a0, a1, a2, a3, .emp, .emp] = .nx ρ) : (orc Pr (n + 1)).call 7 [a0, a1, a2, a3] = retO [a0, a1, a2, a3] 4 (.imm .non) ρ := call_nx P7 n rfl rfl h
abbrev q8_0_0 : S := .asg 4 (.frz (.call 1 (.cons (.var 0) (.cons (.var 1) (.cons (.var 2) (.cons (.var 3) .nil))))))
abbrev q8_0b : Ss := (.cons q8_0_0 .nil)
abbrev q8_0 : S := .try q8_0b (.cons 2 5 (.ret (.tup (.cons (.cst (.str "bad")) (.cons (.fld 0) (.cons (.orr (.isn 0 false) (.isn 1 false)) .nil))))) .nil)
abbrev q8_1 : S := .ret (.tup (.cons (.cst (.str "let")) (.cons (.var 4) (.cons (.not (.call 6 (.cons (.var 4) .nil))) .nil))))
abbrev b8 : Ss := (.cons q8_0 (.cons q8_1 .nil))
theorem call8 (n : Nat) (a0 a1 a2 a3 : Slot) {r : Res} {ρ : Env} (h : execs (orc Pr n) b8 [a0, a1, a2, a3, .emp, .emp] = .ret r ρ) : (orc Pr (n + 1)).call 8 [a0, a1, a2, a3] = retO [a0, a1, a2, a3] 4 r ρ := call_ret P8 n rfl rfl h
theorem exc8 (n : Nat) (a0 a1 a2 a3 : Slot) {c : Nat} {xs : List Dat} {ρ : Env} (h : execs (orc Pr n) b8 [a0, a1, a2, a3, .emp, .emp] = .exc c xs ρ) : (orc Pr (n + 1)).call 8 [a0, a1, a2, a3] = .exc c xs := call_exc P8 n rfl rfl h
theorem nx8 (n : Nat) (a0 a1 a2 a3 : Slot) {ρ : Env} (h : execs (orc Pr n) b8 [a0, a1, a2, a3, .emp, .emp] = .nx ρ) : (orc Pr (n + 1)).call 8 [a0, a1, a2, a3] = retO [a0, a1, a2, a3] 4 (.imm .non) ρ := call_nx P8 n rfl rfl h
abbrev q9_0 : S := .asg 2 (.frz (.call 3 (.cons (.var 0) (.cons (.var 1) .nil))))
abbrev q9_1 : S := .asg 3 (.frz (.call 3 (.cons (.var 0) (.cons (.var 1) .nil))))
abbrev q9_2 : S := .asg 4 (.frz (.idx (.lst (.cons (.cst (.int 0)) (.cons (.cst (.int 1)) (.cons (.call 3 (.cons (.var 0) (.cons (.var 1) .nil))) .nil)))) (.call 3 (.cons (.var 0) (.cons (.cst (.int 3)) .nil)))))
abbrev q9_3 : S := .asg 5 (.bin .add (.bin .add (.bin .add (.bin .mul (.cst (.int 2)) (.var 2)) (.cst (.int 1))) (.var 3)) (.var 4))
abbrev q9_4 : S := .asg 6 (.frz (.call 3 (.cons (.var 0) (.cons (.var 1) .nil))))
abbrev q9_5 : S := .ife (.cmp .eq (.call 3 (.cons (.var 0) (.cons (.cst (.int 2)) .nil))) (.cst (.int 0))) (.cons (.asg 6 (.bin .add (.bin .add (.var 4) (.bin .mul (.bin .sub (.var 5) (.var 2)) (.call 3 (.cons (.var 0) (.cons (.cst (.int 50)) .nil))))) (.call 3 (.cons (.var 0) (.cons (.cst (.int 2)) .nil))))) .nil) .nil
abbrev q9_6 : S := .asg 7 (.bin .sub (.var 6) (.var 4))
abbrev q9_7 : S := .asg 8 (.cst (.int 0))
abbrev q9_8 : S := .ife (.cmp .gt (.var 7) (.cst (.int 0))) (.cons (.asg 8 (.bin .fdiv (.var 7) (.bin .sub (.var 5) (.var 2)))) (.cons (.ife (.cmp .lt (.bin .mul (.var 8) (.bin .sub (.var 5) (.var 2))) (.var 7)) (.cons (.asg 8 (.bin .add (.var 8) (.cst (.int 1)))) .nil) .nil) .nil)) .nil
abbrev q9_9 : S := .ret (.tup (.cons (.var 5) (.cons (.var 2) (.cons (.var 3) (.cons (.var 6) (.cons (.var 8) .nil))))))
abbrev b9 : Ss := (.cons q9_0 (.cons q9_1 (.cons q9_2 (.cons q9_3 (.cons q9_4 (.cons q9_5 (.cons q9_6 (.cons q9_7 (.cons q9_8 (.cons q9_9 .nil))))))))))
theorem call9 (n : Nat) (a0 a1 : Slot) {r : Res} {ρ : Env} (h : execs (orc Pr n) b9 [a0, a1, .emp, .emp, .emp, .emp, .emp, .emp, .emp] = .ret r ρ) : (orc Pr (n + 1)).call 9 [a0, a1] = retO [a0, a1] 2 r ρ := call_ret P9 n rfl rfl h
theorem exc9 (n : Nat) (a0 a1 : Slot) {c : Nat} {xs : List Dat} {ρ : Env} (h : execs (orc Pr n) b9 [a0, a1, .emp, .emp, .emp, .emp, .emp, .emp, .emp] = .exc c xs ρ) : (orc Pr (n + 1)).call 9 [a0, a1] = .exc c xs := call_exc P9 n rfl rfl h
theorem nx9 (n : Nat) (a0 a1 : Slot) {ρ : Env} (h : execs (orc Pr n) b9 [a0, a1, .emp, .emp, .emp, .emp, .emp, .emp, .emp] = .nx ρ) : (orc Pr (n + 1)).call 9 [a0, a1] = retO [a0, a1] 2 (.imm .non) ρ := call_nx P9 n rfl rfl h
abbrev q10_0 : S := .asg 1 (.call 2 (.cons (.var 0) (.cons (.cst (.int 0)) .nil)))
abbrev q10_1 : S := .asg 2 (.bin .add (.cst (.int 1)) (.call 3 (.cons (.var 1) (.cons (.cst (.int 9)) .nil))))
abbrev q10_2_0_0_0 : S := .ife (.cmp .ne (.call 8 (.cons (.var 2) (.cons (.var 3) (.cons (.var 4) (.cons (.var 5) .nil))))) (.tup (.cons (.cst (.str "let")) (.cons (.call 7 (.cons (.var 2) (.cons (.var 3) (.cons (.var 4) (.cons (.var 5) .nil))))) (.cons (.cst (.bl false)) .nil))))) (.cons (.ret (.cst (.bl false))) .nil) .nil
abbrev q10_2_0_0b : Ss := (.cons q10_2_0_0_0 .nil)
abbrev q10_2_0_0 : S := .for (.one 5) (.val (.bin .add (.lst (.cons (.cst (.int 0)) (.cons (.cst (.int 1)) (.cons (.var 2) (.cons (.call 3 (.cons (.var 1) (.cons (.cst (.int 41)) .nil))) .nil))))) (.rl3 (.cons (.call 3 (.cons (.var 1) (.cons (.cst (.int 9)) .nil))) (.cons (.cst (.int 41)) (.cons (.cst (.int 3)) .nil)))))) q10_2_0_0b
abbrev q10_2_0b : Ss := (.cons q10_2_0_0 .nil)
abbrev q10_2_0 : S := .for (.one 4) (.rng (.cons (.cst (.int 0)) (.cons (.bin .sub (.var 2) (.bin .mul (.cst (.int 2)) (.var 3))) .nil))) q10_2_0b
abbrev q10_2_1 : S := .ife (.cmp .ne (.call 8 (.cons (.var 2) (.cons (.var 3) (.cons (.bin .sub (.var 2) (.bin .mul (.cst (.int 2)) (.var 3))) (.cons (.call 3 (.cons (.var 1) (.cons (.cst (.int 41)) .nil))) .nil))))) (.tup (.cons (.cst (.str "bad")) (.cons (.cst (.int 0)) (.cons (.cst (.bl false)) .nil))))) (.cons (.ret (.cst (.bl false))) .nil) .nil
abbrev q10_2b : Ss := (.cons q10_2_0 (.cons q10_2_1 .nil))
abbrev q10_2 : S := .for (.one 3) (.rng (.cons (.cst (.int 0)) (.cons (.bin .add (.bin .fdiv (.bin .sub (.var 2) (.cst (.int 1))) (.cst (.int 2))) (.cst (.int 1))) .nil))) q10_2b
abbrev q10_3 : S := .asg 6 (.bin .add (.var 2) (.call 3 (.cons (.var 1) (.cons (.cst (.int 3)) .nil))))
abbrev q10_4 : S := .ife (.cmp .ne (.call 8 (.cons (.var 2) (.cons (.var 6) (.cons (.cst (.int 0)) (.cons (.call 3 (.cons (.var 1) (.cons (.cst (.int 41)) .nil))) .nil))))) (.tup (.cons (.cst (.str "bad")) (.cons (.cst (.int 0)) (.cons (.cst (.bl false)) .nil))))) (.cons (.ret (.cst (.bl false))) .nil) .nil
abbrev q10_5 : S := .ife (.cmp .ne (.call 8 (.cons (.var 2) (.cons (.bin .fdiv (.bin .add (.var 2) (.cst (.int 1))) (.cst (.int 2))) (.cons (.cst (.int 0)) (.cons (.cst (.int 0)) .nil))))) (.tup (.cons (.cst (.str "bad")) (.cons (.cst (.int 0)) (.cons (.cst (.bl false)) .nil))))) (.cons (.ret (.cst (.bl false))) .nil) .nil
abbrev q10_6_0 : S := .asg 8 (.frz (.call 9 (.cons (.var 1) (.cons (.var 7) .nil))))
abbrev q10_6_1 : S := .ife (.cmp .ne (.call 8 (.cons (.idx (.var 8) (.cst (.int 0))) (.cons (.idx (.var 8) (.cst (.int 1))) (.cons (.idx (.var 8) (.cst (.int 2))) (.cons (.idx (.var 8) (.cst (.int 3))) .nil))))) (.tup (.cons (.cst (.str "let")) (.cons (.idx (.var 8) (.cst (.int 4))) (.cons (.cst (.bl false)) .nil))))) (.cons (.ret (.cst (.bl false))) .nil) .nil
abbrev q10_6_2 : S := .ife (.cmp .ne (.call 8 (.cons (.idx (.var 8) (.cst (.int 0))) (.cons (.idx (.var 8) (.cst (.int 1))) (.cons (.bin .sub (.idx (.var 8) (.cst (.int 0))) (.bin .mul (.cst (.int 2)) (.idx (.var 8) (.cst (.int 1))))) (.cons (.idx (.var 8) (.cst (.int 3))) .nil))))) (.tup (.cons (.cst (.str "bad")) (.cons (.cst (.int 0)) (.cons (.cst (.bl false)) .nil))))) (.cons (.ret (.cst (.bl false))) .nil) .nil
abbrev q10_6b : Ss := (.cons q10_6_0 (.cons q10_6_1 (.cons q10_6_2 .nil)))
abbrev q10_6 : S := .for (.one 7) (.val (.lst (.cons (.bin .pow (.cst (.int 10)) (.cst (.int 3))) (.cons (.bin .pow (.cst (.int 10)) (.cst (.int 6))) (.cons (.bin .pow (.cst (.int 10)) (.cst (.int 30))) .nil))))) q10_6b
abbrev q10_7 : S := .ret (.cst (.bl true))
abbrev b10 : Ss := (.cons q10_0 (.cons q10_1 (.cons q10_2 (.cons q10_3 (.cons q10_4 (.cons q10_5 (.cons q10_6 (.cons q10_7 .nil))))))))
theorem call10 (n : Nat) (a0 : Slot) {r : Res} {ρ : Env} (h : execs (orc Pr n) b10 [a0, .emp, .emp, .emp, .emp, .emp, .emp, .emp, .emp] = .ret r ρ) : (orc Pr (n + 1)).call 10 [a0] = retO [a0] 1 r ρ := call_ret P10 n rfl rfl h
theorem exc10 (n : Nat) (a0 : Slot) {c : Nat} {xs : List Dat} {ρ : Env} (h : execs (orc Pr n) b10 [a0, .emp, .emp, .emp, .emp, .emp, .emp, .emp, .emp] = .exc c xs ρ) : (orc Pr (n + 1)).call 10 [a0] = .exc c xs := call_exc P10 n rfl rfl h
theorem nx10 (n : Nat) (a0 : Slot) {ρ : Env} (h : execs (orc Pr n) b10 [a0, .emp, .emp, .emp, .emp, .emp, .emp, .emp, .emp] = .nx ρ) : (orc Pr (n + 1)).call 10 [a0] = retO [a0] 1 (.imm .non) ρ := call_nx P10 n rfl rfl h
end K19
namespace K19
open VI
open PySem (PyData)
abbrev huge : Nat := 10 ^ 200
theorem huge_big : huge < big := by decide +kernel
theorem mok {i j : Int} (hi : i.natAbs < huge) (hj : j.natAbs < huge) : mulOk i j = true := by
  unfold mulOk
  rw [decide_eq_true (Nat.lt_trans hi huge_big), decide_eq_true (Nat.lt_trans hj huge_big)]; simp
theorem dok {j : Int} (h : 0 < j) (hj : j.natAbs < huge) : divOk j = true := by
  unfold divOk
  rw [decide_eq_true h, decide_eq_true (Nat.lt_trans hj huge_big)]; rfl
theorem m2 {i : Int} : mulOk 2 i = true := by simp [mulOk]
def sp (c f b : Int) : Int := c - 2 * f - 1 - b
def bad (c f b : Int) : Prop := c ≤ f ∨ sp c f b < 0
instance (c f b : Int) : Decidable (bad c f b) := by unfold bad; infer_instance
/-- late, and the turns that are due -/
def late (c f b age : Int) : Int := if 0 < age - sp c f b then age - sp c f b else 0
def tn (c f b age : Int) : Int := (late c f b age + c - f - 1) / (c - f)
section
variable (O : Orc) (c f b age : Int) (n : Nat)
theorem s0t (h : bad c f b) : execs O b0 [.imm (.int c), .imm (.int f), .imm (.int b), .emp] = .exc 2 [.int 0] [.imm (.int c), .imm (.int f), .imm (.int b), .imm (.int (sp c f b))] := by
  unfold bad at h
  have a0 : exec O q0_0 [.imm (.int c), .imm (.int f), .imm (.int b), .emp] = .nx [.imm (.int c), .imm (.int f), .imm (.int b), .imm (.int (sp c f b))] := by simp [setS, m2, sp]
  rw [b0, x_ss_cons, a0, andThen_nx]
  generalize sp c f b = s at *
  by_cases h1 : c ≤ f
  · simp [h1]
  · have h2 : s < 0 := h.resolve_left h1
    simp [h1, h2]
theorem s0f (h : ¬ bad c f b) : execs O b0 [.imm (.int c), .imm (.int f), .imm (.int b), .emp] = .ret (.imm (.int (sp c f b))) [.imm (.int c), .imm (.int f), .imm (.int b), .imm (.int (sp c f b))] := by
  unfold bad at h
  have a0 : exec O q0_0 [.imm (.int c), .imm (.int f), .imm (.int b), .emp] = .nx [.imm (.int c), .imm (.int f), .imm (.int b), .imm (.int (sp c f b))] := by simp [setS, m2, sp]
  rw [b0, x_ss_cons, a0, andThen_nx]
  generalize sp c f b = s at *
  have h1 : ¬ c ≤ f := fun z => h (.inl z)
  have h2 : ¬ s < 0 := fun z => h (.inr z)
  simp [h1, h2]
theorem spare_bad (h : bad c f b) : (orc Pr (n + 1)).call 0 [.imm (.int c), .imm (.int f), .imm (.int b)] = .exc 2 [.int 0] := exc0 n _ _ _ (s0t (orc Pr n) c f b h)
theorem spare_ok (h : ¬ bad c f b) : (orc Pr (n + 1)).call 0 [.imm (.int c), .imm (.int f), .imm (.int b)] = .ret (.imm (.int (sp c f b))) [.imm (.int c), .imm (.int f), .imm (.int b)] := (call0 n _ _ _ (s0f (orc Pr n) c f b h)).trans (retO_same rfl)
theorem t1x (k : O.call 0 [.imm (.int c), .imm (.int f), .imm (.int b)] = .exc 2 [.int 0]) : execs O b1 [.imm (.int c), .imm (.int f), .imm (.int b), .imm (.int age), .emp] = .exc 2 [.int 0] [.imm (.int c), .imm (.int f), .imm (.int b), .imm (.int age), .emp] := by
  simp [doCall, argS, k]
theorem t1 (k : O.call 0 [.imm (.int c), .imm (.int f), .imm (.int b)] = .ret (.imm (.int (sp c f b))) [.imm (.int c), .imm (.int f), .imm (.int b)]) (hd : divOk (c - f) = true) : execs O b1 [.imm (.int c), .imm (.int f), .imm (.int b), .imm (.int age), .emp] = .ret (.imm (.int (tn c f b age))) [.imm (.int c), .imm (.int f), .imm (.int b), .imm (.int age), .imm (.int (late c f b age))] := by
  unfold tn late
  generalize sp c f b = s at *
  simp [setS, doCall, back, argS, k, hd]
end
theorem turns_bad (n : Nat) (c f b age : Int) (h : bad c f b) : (orc Pr (n + 2)).call 1 [.imm (.int c), .imm (.int f), .imm (.int b), .imm (.int age)] = .exc 2 [.int 0] := exc1 (n + 1) _ _ _ _ (t1x (orc Pr (n + 1)) c f b age (spare_bad c f b n h))
theorem turns_ok (n : Nat) (c f b age : Int) (h : ¬ bad c f b) (hd : divOk (c - f) = true) : (orc Pr (n + 2)).call 1 [.imm (.int c), .imm (.int f), .imm (.int b), .imm (.int age)] = .ret (.imm (.int (tn c f b age))) [.imm (.int c), .imm (.int f), .imm (.int b), .imm (.int age)] := (call1 (n + 1) _ _ _ _ (t1 (orc Pr (n + 1)) c f b age (spare_ok c f b n h) hd)).trans (retO_same rfl)
theorem w11 (O : Orc) (i : Int) : execs O b6 [.imm (.int i)] = .ret (.imm (.bl true)) [.imm (.int i)] := by
  have t0 : tyD .int (.int i) = some true := rfl
  have t1 : tyD .bool (.int i) = some false := rfl
  simp [t0, t1]
theorem whole_is (n : Nat) (i : Int) : (orc Pr (n + 1)).call 6 [.imm (.int i)] = .ret (.imm (.bl true)) [.imm (.int i)] := (call6 n _ (w11 (orc Pr n) i)).trans (retO_same rfl)
/-! asked -/
def askV (c f b age : Int) : Dat := if bad c f b then .tup [.str "bad", .int 0, .bl false] else .tup [.str "let", .int (tn c f b age), .bl false]
section
variable (O : Orc) (c f b age t : Int)
theorem a0x (k : O.call 1 [.imm (.int c), .imm (.int f), .imm (.int b), .imm (.int age)] = .exc 2 [.int 0]) : exec O q8_0 [.imm (.int c), .imm (.int f), .imm (.int b), .imm (.int age), .emp, .emp] = .ret (.imm (.tup [.str "bad", .int 0, .bl false])) [.imm (.int c), .imm (.int f), .imm (.int b), .imm (.int age), .emp, .emp] := by
  have : execs O q8_0b [.imm (.int c), .imm (.int f), .imm (.int b), .imm (.int age), .emp, .emp] = .exc 2 [.int 0] [.imm (.int c), .imm (.int f), .imm (.int b), .imm (.int age), .emp, .emp] := by
    simp [doCall, argS, k]
  rw [q8_0, x_try_exc this]
  simp [setS]
theorem a0n (k : O.call 1 [.imm (.int c), .imm (.int f), .imm (.int b), .imm (.int age)] = .ret (.imm (.int t)) [.imm (.int c), .imm (.int f), .imm (.int b), .imm (.int age)]) : exec O q8_0 [.imm (.int c), .imm (.int f), .imm (.int b), .imm (.int age), .emp, .emp] = .nx [.imm (.int c), .imm (.int f), .imm (.int b), .imm (.int age), .imm (.int t), .emp] := by
  have : execs O q8_0b [.imm (.int c), .imm (.int f), .imm (.int b), .imm (.int age), .emp, .emp] = .nx [.imm (.int c), .imm (.int f), .imm (.int b), .imm (.int age), .imm (.int t), .emp] := by
    simp [doCall, back, argS, k, setS]
  rw [q8_0, x_try_nx this]
theorem a1 (k : O.call 6 [.imm (.int t)] = .ret (.imm (.bl true)) [.imm (.int t)]) : exec O q8_1 [.imm (.int c), .imm (.int f), .imm (.int b), .imm (.int age), .imm (.int t), .emp] = .ret (.imm (.tup [.str "let", .int t, .bl false])) [.imm (.int c), .imm (.int f), .imm (.int b), .imm (.int age), .imm (.int t), .emp] := by
  simp [doCall, back, argS, k]
end
theorem asked_is (n : Nat) (c f b age : Int) (hb : (c - f).natAbs < huge) : (orc Pr (n + 3)).call 8 [.imm (.int c), .imm (.int f), .imm (.int b), .imm (.int age)] = .ret (.imm (askV c f b age)) [.imm (.int c), .imm (.int f), .imm (.int b), .imm (.int age)] := by
  have call := @call8 (n + 2) (.imm (.int c)) (.imm (.int f)) (.imm (.int b)) (.imm (.int age))
  rw [show n + 2 + 1 = n + 3 from rfl] at call
  unfold askV
  by_cases h : bad c f b
  · rw [if_pos h]
    refine (call (ρ := [.imm (.int c), .imm (.int f), .imm (.int b), .imm (.int age), .emp, .emp]) ?_).trans (retO_same rfl)
    rw [b8, x_ss_cons, a0x _ _ _ _ _ (turns_bad n c f b age h), andThen_ret]
  · rw [if_neg h]
    have hcf : 0 < c - f := by
      have : ¬ c ≤ f := fun z => h (.inl z)
      omega
    refine (call (ρ := [.imm (.int c), .imm (.int f), .imm (.int b), .imm (.int age), .imm (.int (tn c f b age)), .emp]) ?_).trans (retO_same rfl)
    rw [b8, x_ss_cons, a0n _ _ _ _ _ _ (turns_ok n c f b age h (dok hcf hb)), andThen_nx, x_ss_cons, a1 _ _ _ _ _ _ (whole_is (n + 1) _), andThen_ret]
/-! steps -/
theorem div_step {late d : Int} (hd : 0 < d) (h : d < late) : (late + d - 1) / d = 1 + (late - d + d - 1) / d := by
  have : late + d - 1 = (late - d + d - 1) + d * 1 := by omega
  rw [this, Int.add_mul_ediv_left _ _ (by omega)]; omega
theorem div_one {late d : Int} (hd : 0 < d) (h0 : 0 < late) (h : late ≤ d) : (late + d - 1) / d = 1 := by
  have : late + d - 1 = (late - 1) + d * 1 := by omega
  rw [this, Int.add_mul_ediv_left _ _ (by omega), Int.ediv_eq_zero_of_lt (by omega) (by omega)]; omega
theorem div_zero {d : Int} (hd : 0 < d) : (0 + d - 1) / d = 0 := Int.ediv_eq_zero_of_lt (by omega) (by omega)
/-- the turns with a spare age and a step -/
def nt (s d age : Int) : Int := ((if 0 < age - s then age - s else 0) + d - 1) / d
theorem nt_le {s d age : Int} (hd : 0 < d) (h : age ≤ s) : nt s d age = 0 := by
  unfold nt; rw [if_neg (by omega)]; exact div_zero hd
theorem nt_gt {s d age : Int} (hs : 0 ≤ s) (hd : 0 < d) (h : s < age) : nt s d age = 1 + nt s d (if 0 < age - d then age - d else 0) := by
  unfold nt
  rw [if_pos (show 0 < age - s by omega)]
  by_cases q : d < age - s
  · have e : (if 0 < age - d then age - d else 0) = age - d := if_pos (by omega)
    rw [e, if_pos (by omega), div_step hd q]
    congr 2; omega
  · rw [div_one hd (by omega) (by omega)]
    have e : (if 0 < (if 0 < age - d then age - d else 0) - s then (if 0 < age - d then age - d else 0) - s else 0) = 0 := by
      by_cases q2 : 0 < age - d
      · rw [if_pos q2, if_neg (by omega)]
      · rw [if_neg q2, if_neg (by omega)]
    rw [e, div_zero hd]; omega
theorem nt_nn {s d age : Int} (hd : 0 < d) : 0 ≤ nt s d age := by
  unfold nt
  refine Int.ediv_nonneg ?_ (by omega)
  split <;> omega
theorem nt_bound {s d age : Int} (hs : 0 ≤ s) (hd : 0 < d) (ha : 0 ≤ age) : nt s d age ≤ age := by
  by_cases h : age ≤ s
  · rw [nt_le hd h]; exact ha
  · unfold nt
    rw [if_pos (by omega)]
    have : (age - s + d - 1) / d < age + 1 := by
      refine Int.ediv_lt_of_lt_mul hd ?_
      have e : (age + 1) * d = age * d + d := by rw [Int.add_mul]; omega
      have := Int.mul_le_mul_of_nonneg_left (a := 1) (b := d) (c := age) (by omega) ha
      rw [Int.mul_one] at this
      omega
    omega
theorem tn_nt (c f b age : Int) : tn c f b age = nt (sp c f b) (c - f) age := by
  unfold tn nt late
  congr 1; omega
abbrev E7 (c f b age m : Int) (s5 : Slot) : VI.Env := [.imm (.int c), .imm (.int f), .imm (.int b), .imm (.int age), .imm (.int m), s5]
section
variable (O : Orc) (c f b age m : Int) (s5 : Slot)
theorem c7t (h : age ≤ sp c f b) : execs O q7_1b (E7 c f b age m s5) = .ret (.imm (.int m)) (E7 c f b age m s5) := by
  unfold sp at h
  simp [m2, h, retR]
theorem c7f (h : ¬ age ≤ sp c f b) : execs O q7_1b (E7 c f b age m s5) = .nx (E7 c f b (if 0 < age - (c - f) then age - (c - f) else 0) (m + 1) s5) := by
  unfold sp at h
  simp [m2, h, setS]
theorem l7 (hs : 0 ≤ sp c f b) (hd : 0 < c - f) : ∀ (l : List Dat) (age m : Int) (s5 : Slot), Fr s5 → nt (sp c f b) (c - f) age < (l.length : Int) → ∃ age' m' s5', forI (stepF O (.one 5) q7_1b) l (E7 c f b age m s5) = .ret (.imm (.int (m + nt (sp c f b) (c - f) age))) (E7 c f b age' m' s5')
  | [], age, m, s5, _, hl => by
    have := nt_nn (s := sp c f b) (age := age) hd
    simp at hl; omega
  | x :: l, age, m, s5, h5, hl => by
    have bd : bind (.one 5) x (E7 c f b age m s5) = some (E7 c f b age m (.imm x)) := bind_fr (i := 5) rfl h5
    rw [forI, stepF_of bd]
    by_cases h : age ≤ sp c f b
    · rw [c7t O c f b age m (.imm x) h]
      refine ⟨age, m, .imm x, ?_⟩
      rw [nt_le hd h, Int.add_zero]
    · rw [c7f O c f b age m (.imm x) h]
      have e := nt_gt (age := age) hs hd (by omega)
      rw [List.length_cons] at hl
      obtain ⟨age', m', s5', ih⟩ := l7 hs hd l (if 0 < age - (c - f) then age - (c - f) else 0) (m + 1) (.imm x) Fr.imm (by omega)
      refine ⟨age', m', s5', ?_⟩
      rw [e, show m + (1 + nt (sp c f b) (c - f) (if 0 < age - (c - f) then age - (c - f) else 0)) = m + 1 + nt (sp c f b) (c - f) (if 0 < age - (c - f) then age - (c - f) else 0) by omega]
      exact ih
end
theorem steps_is (n : Nat) (c f b : Int) (age : Nat) (hs : 0 ≤ sp c f b) (hd : 0 < c - f) (ha : age ≤ 1000) : ∃ age' : Int, (orc Pr (n + 1)).call 7 [.imm (.int c), .imm (.int f), .imm (.int b), .imm (.int (age : Int))] = .ret (.imm (.int (tn c f b (age : Int)))) [.imm (.int c), .imm (.int f), .imm (.int b), .imm (.int age')] := by
  have rv : evalI (orc Pr n) (.rng (.cons (.bin .add (.var 3) (.cst (.int 1))) .nil)) (E7 c f b (age : Int) 0 .emp) = .ok ((List.range (age + 1)).map fun (i : Nat) => Dat.int (i : Int), none) (E7 c f b (age : Int) 0 .emp) := ev_rng1 (rs := [.imm (.int ((age : Int) + 1))]) (by simp) rfl (by omega)
  have nb := nt_bound (age := (age : Int)) hs hd (by omega)
  obtain ⟨age', m', s5', lp⟩ := l7 (orc Pr n) c f b hs hd ((List.range (age + 1)).map fun (i : Nat) => Dat.int (i : Int)) (age : Int) 0 .emp Fr.emp (by rw [List.length_map, List.length_range]; omega)
  have fin : execs (orc Pr n) b7 [.imm (.int c), .imm (.int f), .imm (.int b), .imm (.int (age : Int)), .emp, .emp] = .ret (.imm (.int (tn c f b (age : Int)))) (E7 c f b age' m' s5') := by
    rw [b7, x_ss_cons, show exec (orc Pr n) q7_0 [.imm (.int c), .imm (.int f), .imm (.int b), .imm (.int (age : Int)), .emp, .emp] = .nx (E7 c f b (age : Int) 0 .emp) from by simp [setS], andThen_nx, x_ss_cons, q7_1, x_for rv, lp, and2, andThen_ret, tn_nt, Int.zero_add]
  exact ⟨age', (call7 n _ _ _ _ fin).trans (retO_out rfl rfl)⟩
end K19
namespace K19
open VI
open PySem (PyData)
theorem ceil_eq (l k : Int) (hk : 0 < k) : (if l / k * k < l then l / k + 1 else l / k) = (l + k - 1) / k := by
  have e := Int.mul_ediv_add_emod l k
  have r0 := Int.emod_nonneg l (show k ≠ 0 by omega)
  have r1 := Int.emod_lt_of_pos l hk
  have c : l / k * k = k * (l / k) := Int.mul_comm _ _
  have f : l + k - 1 = (l % k + k - 1) + k * (l / k) := by omega
  rw [f, Int.add_mul_ediv_left _ _ (by omega)]
  by_cases q : l % k = 0
  · rw [if_neg (by omega), q, div_zero hk]; omega
  · rw [if_pos (by omega)]
    have : (l % k + k - 1) / k = 1 := div_one hk (by omega) (by omega)
    omega
abbrev E9 (ds : List Dat) (s1 s2 s3 s4 s5 s6 s7 s8 : Slot) : VI.Env := [.own true false (.lst ds), s1, s2, s3, s4, s5, s6, s7, s8]
theorem mulr {i j : Int} (h : j.natAbs < 2 ^ 64) : mulOk i j = true := by
  unfold mulOk
  rw [decide_eq_true h]; simp
section
variable (O : Orc) (ds ds1 ds2 ds3 : List Dat) (s1 s2 s3 s4 s5 s6 s7 s8 : Slot) (m r q x f b s c age l due : Int)
theorem g0 (k : O.call 3 [.own true false (.lst ds), .imm (.int m)] = .ret (.imm (.int r)) [.own true false (.lst ds1), .imm (.int m)]) : exec O q9_0 (E9 ds (.imm (.int m)) .emp s3 s4 s5 s6 s7 s8) = .nx (E9 ds1 (.imm (.int m)) (.imm (.int r)) s3 s4 s5 s6 s7 s8) := by
  simp [setS, doCall, back, argS, k]
theorem g1 (k : O.call 3 [.own true false (.lst ds), .imm (.int m)] = .ret (.imm (.int r)) [.own true false (.lst ds1), .imm (.int m)]) : exec O q9_1 (E9 ds (.imm (.int m)) s2 .emp s4 s5 s6 s7 s8) = .nx (E9 ds1 (.imm (.int m)) s2 (.imm (.int r)) s4 s5 s6 s7 s8) := by
  simp [setS, doCall, back, argS, k]
theorem g2 (k : O.call 3 [.own true false (.lst ds), .imm (.int m)] = .ret (.imm (.int r)) [.own true false (.lst ds1), .imm (.int m)]) (k2 : O.call 3 [.own true false (.lst ds1), .imm (.int 3)] = .ret (.imm (.int q)) [.own true false (.lst ds2), .imm (.int 3)]) (ix : idxD (.lst [.int 0, .int 1, .int r]) (.int q) = some (.imm (.int x))) : exec O q9_2 (E9 ds (.imm (.int m)) s2 s3 .emp s5 s6 s7 s8) = .nx (E9 ds2 (.imm (.int m)) s2 s3 (.imm (.int x)) s5 s6 s7 s8) := by
  simp [setS, doCall, back, argS, k, k2, ix]
theorem g3 : exec O q9_3 (E9 ds s1 (.imm (.int f)) (.imm (.int b)) (.imm (.int s)) .emp s6 s7 s8) = .nx (E9 ds s1 (.imm (.int f)) (.imm (.int b)) (.imm (.int s)) (.imm (.int (2 * f + 1 + b + s))) s6 s7 s8) := by
  simp [setS, m2]
theorem g4 (k : O.call 3 [.own true false (.lst ds), .imm (.int m)] = .ret (.imm (.int r)) [.own true false (.lst ds1), .imm (.int m)]) : exec O q9_4 (E9 ds (.imm (.int m)) s2 s3 s4 s5 .emp s7 s8) = .nx (E9 ds1 (.imm (.int m)) s2 s3 s4 s5 (.imm (.int r)) s7 s8) := by
  simp [setS, doCall, back, argS, k]
theorem g5f (h : r ≠ 0) (k : O.call 3 [.own true false (.lst ds), .imm (.int 2)] = .ret (.imm (.int r)) [.own true false (.lst ds1), .imm (.int 2)]) : exec O q9_5 (E9 ds s1 s2 s3 s4 s5 s6 s7 s8) = .nx (E9 ds1 s1 s2 s3 s4 s5 s6 s7 s8) := by
  simp [doCall, back, argS, k, h]
theorem g5t (h6 : Fr s6) (k : O.call 3 [.own true false (.lst ds), .imm (.int 2)] = .ret (.imm (.int 0)) [.own true false (.lst ds1), .imm (.int 2)]) (k2 : O.call 3 [.own true false (.lst ds1), .imm (.int 50)] = .ret (.imm (.int q)) [.own true false (.lst ds2), .imm (.int 50)]) (k3 : O.call 3 [.own true false (.lst ds2), .imm (.int 2)] = .ret (.imm (.int x)) [.own true false (.lst ds3), .imm (.int 2)]) (m1 : mulOk (c - f) q = true) :
    exec O q9_5 (E9 ds s1 (.imm (.int f)) s3 (.imm (.int s)) (.imm (.int c)) s6 s7 s8) = .nx (E9 ds3 s1 (.imm (.int f)) s3 (.imm (.int s)) (.imm (.int c)) (.imm (.int (s + (c - f) * q + x))) s7 s8) := by
  rcases h6 with rfl | ⟨d, rfl⟩ <;> simp [setS, doCall, back, argS, k, k2, k3, m1]
theorem g6 : exec O q9_6 (E9 ds s1 s2 s3 (.imm (.int s)) s5 (.imm (.int age)) .emp s8) = .nx (E9 ds s1 s2 s3 (.imm (.int s)) s5 (.imm (.int age)) (.imm (.int (age - s))) s8) := by simp [setS]
theorem g7 : exec O q9_7 (E9 ds s1 s2 s3 s4 s5 s6 s7 .emp) = .nx (E9 ds s1 s2 s3 s4 s5 s6 s7 (.imm (.int 0))) := by simp [setS]
theorem g8f (h : ¬ 0 < l) : exec O q9_8 (E9 ds s1 (.imm (.int f)) s3 s4 (.imm (.int c)) s6 (.imm (.int l)) (.imm (.int 0))) = .nx (E9 ds s1 (.imm (.int f)) s3 s4 (.imm (.int c)) s6 (.imm (.int l)) (.imm (.int 0))) := by simp [h]
theorem g8t (h : 0 < l) (hd : divOk (c - f) = true) (hm : mulOk (l / (c - f)) (c - f) = true) : exec O q9_8 (E9 ds s1 (.imm (.int f)) s3 s4 (.imm (.int c)) s6 (.imm (.int l)) (.imm (.int 0))) = .nx (E9 ds s1 (.imm (.int f)) s3 s4 (.imm (.int c)) s6 (.imm (.int l)) (.imm (.int (if l / (c - f) * (c - f) < l then l / (c - f) + 1 else l / (c - f))))) := by
  by_cases q : l / (c - f) * (c - f) < l
  · rw [if_pos q]; simp [setS, h, hd, hm, q]
  · rw [if_neg q]; simp [setS, h, hd, hm, q]
theorem g9 : exec O q9_9 (E9 ds s1 (.imm (.int f)) (.imm (.int b)) s4 (.imm (.int c)) (.imm (.int age)) s7 (.imm (.int due))) = .ret (.imm (.tup [.int c, .int f, .int b, .int age, .int due])) (E9 ds s1 (.imm (.int f)) (.imm (.int b)) s4 (.imm (.int c)) (.imm (.int age)) s7 (.imm (.int due))) := by simp
end
theorem great_is (n : Nat) (ds : List Dat) (u : Pu ds) (m : Nat) (m0 : 0 < m) (m1 : m ≤ 10 ^ 30) : ∃ (c f b age : Int) (ds' : List Dat), (Pu ds' ∧ sp c f b ≥ 0 ∧ 0 ≤ f ∧ f < c ∧ c ≤ 10 ^ 40) ∧ (orc Pr (n + 2)).call 9 [.own true false (.lst ds), .imm (.int (m : Int))] = .ret (.imm (.tup [.int c, .int f, .int b, .int age, .int (tn c f b age)])) [.own true false (.lst ds'), .imm (.int (m : Int))] := by
  suffices ∃ (c f b age : Int) (ds' : List Dat) (ρ' : VI.Env), (Pu ds' ∧ sp c f b ≥ 0 ∧ 0 ≤ f ∧ f < c ∧ c ≤ 10 ^ 40) ∧ execs (orc Pr (n + 1)) b9 (E9 ds (.imm (.int (m : Int))) .emp .emp .emp .emp .emp .emp .emp) = .ret (.imm (.tup [.int c, .int f, .int b, .int age, .int (tn c f b age)])) ρ' ∧ ρ'.take 2 = [.own true false (.lst ds'), .imm (.int (m : Int))] by
    obtain ⟨c, f, b, age, ds', ρ', g, h, t⟩ := this
    exact ⟨c, f, b, age, ds', g, (call9 (n + 1) _ _ h).trans (retO_out t rfl)⟩
  have D : DrawOk (orc Pr (n + 1)) 3 := drawOk P3 n
  generalize orc Pr (n + 1) = O at *
  have mm : mOk (m : Int) := ⟨by omega, by
    have : ((m : Int)).natAbs = m := by omega
    rw [this]
    exact Nat.lt_of_le_of_lt m1 (by decide +kernel)⟩
  obtain ⟨f, ds1, ⟨f0, f1⟩, u1, k1⟩ := D true _ _ u mm
  obtain ⟨b, ds2, ⟨b0, b1⟩, u2, k2⟩ := D true _ _ u1 mm
  obtain ⟨r, ds3, ⟨r0, r1⟩, u3, k3⟩ := D true _ _ u2 mm
  obtain ⟨q, ds4, ⟨q0, q1⟩, u4, k4⟩ := D.small u3 3 (by decide) (by decide)
  have pick : ∃ s, idxD (.lst [.int 0, .int 1, .int r]) (.int q) = some (.imm (.int s)) ∧ 0 ≤ s ∧ s ≤ 10 ^ 30 := by
    rcases (show q = 0 ∨ q = 1 ∨ q = 2 by omega) with rfl | rfl | rfl
    · exact ⟨0, rfl, by decide, by decide⟩
    · exact ⟨1, rfl, by decide, by decide⟩
    · exact ⟨r, rfl, r0, by omega⟩
  obtain ⟨s, ix, s0, s1⟩ := pick
  obtain ⟨a1, ds5, ⟨a10, a11⟩, u5, k5⟩ := D true _ _ u4 mm
  have e0 := g0 O ds ds1 .emp .emp .emp .emp .emp .emp (m : Int) f k1
  have e1 := g1 O ds1 ds2 (.imm (.int f)) .emp .emp .emp .emp .emp (m : Int) b k2
  have e2 := g2 O ds2 ds3 ds4 (.imm (.int f)) (.imm (.int b)) .emp .emp .emp .emp (m : Int) r q s k3 k4 ix
  have e3 := g3 O ds4 (.imm (.int (m : Int))) .emp .emp .emp f b s
  have hc : 2 * f + 1 + b + s ≤ 10 ^ 40 := by omega
  have hfc : f < 2 * f + 1 + b + s := by omega
  have hsp : sp (2 * f + 1 + b + s) f b = s := by unfold sp; omega
  generalize 2 * f + 1 + b + s = c at *
  have e4 := g4 O ds4 ds5 (.imm (.int f)) (.imm (.int b)) (.imm (.int s)) (.imm (.int c)) .emp .emp (m : Int) a1 k5
  obtain ⟨w, ds6, ⟨w0, w1⟩, u6, k6⟩ := D.small u5 2 (by decide) (by decide)
  have chg : ∃ (age : Int) (ds' : List Dat), (Pu ds' ∧ age ≤ 10 ^ 45) ∧ exec O q9_5 (E9 ds5 (.imm (.int (m : Int))) (.imm (.int f)) (.imm (.int b)) (.imm (.int s)) (.imm (.int c)) (.imm (.int a1)) .emp .emp) = .nx (E9 ds' (.imm (.int (m : Int))) (.imm (.int f)) (.imm (.int b)) (.imm (.int s)) (.imm (.int c)) (.imm (.int age)) .emp .emp) := by
    by_cases hw : w = 0
    · subst hw
      obtain ⟨y, ds7, ⟨y0, y1⟩, u7, k7⟩ := D.small u6 50 (by decide) (by decide)
      obtain ⟨z, ds8, ⟨z0, z1⟩, u8, k8⟩ := D.small u7 2 (by decide) (by decide)
      refine ⟨s + (c - f) * y + z, ds8, ⟨u8, ?_⟩, g5t O ds5 ds6 ds7 ds8 _ _ _ _ _ y z f s c Fr.imm k6 k7 k8 (mulr (by omega))⟩
      have := Int.mul_le_mul_of_nonneg_left (a := y) (b := 50) (c := c - f) (by omega) (by omega)
      omega
    · exact ⟨a1, ds6, ⟨u6, by omega⟩, g5f O ds5 ds6 _ _ _ _ _ _ _ _ w hw k6⟩
  obtain ⟨age, ds7, ⟨u7, ha⟩, e5⟩ := chg
  have e6 := g6 O ds7 (.imm (.int (m : Int))) (.imm (.int f)) (.imm (.int b)) (.imm (.int c)) .emp s age
  have e7 := g7 O ds7 (.imm (.int (m : Int))) (.imm (.int f)) (.imm (.int b)) (.imm (.int s)) (.imm (.int c)) (.imm (.int age)) (.imm (.int (age - s)))
  have hcf : 0 < c - f := by omega
  have e8 : exec O q9_8 (E9 ds7 (.imm (.int (m : Int))) (.imm (.int f)) (.imm (.int b)) (.imm (.int s)) (.imm (.int c)) (.imm (.int age)) (.imm (.int (age - s))) (.imm (.int 0))) = .nx (E9 ds7 (.imm (.int (m : Int))) (.imm (.int f)) (.imm (.int b)) (.imm (.int s)) (.imm (.int c)) (.imm (.int age)) (.imm (.int (age - s))) (.imm (.int (tn c f b age)))) := by
    unfold tn late
    rw [hsp]
    have hb : (c - f).natAbs < huge := by
      have : (10 : Nat) ^ 41 < huge := by decide
      have : (10 : Int) ^ 40 < 10 ^ 41 := by decide
      omega
    by_cases hl : 0 < age - s
    · rw [if_pos hl]
      have t := g8t O ds7 (.imm (.int (m : Int))) (.imm (.int b)) (.imm (.int s)) (.imm (.int age)) f c (age - s) hl (dok hcf hb) (mok (by
        have d0 : 0 ≤ (age - s) / (c - f) := Int.ediv_nonneg (by omega) (by omega)
        have d1 : (age - s) / (c - f) ≤ age - s := Int.ediv_le_self _ (by omega)
        have : (10 : Nat) ^ 46 < huge := by decide
        have : (10 : Int) ^ 45 < 10 ^ 46 := by decide
        omega) hb)
      rw [t, ceil_eq (age - s) (c - f) hcf]
      rw [show age - s + (c - f) - 1 = age - s + c - f - 1 by omega]
    · rw [if_neg hl, g8f O ds7 _ _ _ _ f c (age - s) hl]
      rw [show (0 : Int) + c - f - 1 = 0 + (c - f) - 1 by omega, div_zero hcf]
  have e9 := g9 O ds7 (.imm (.int (m : Int))) (.imm (.int s)) (.imm (.int (age - s))) f b c age (tn c f b age)
  refine ⟨c, f, b, age, ds7, E9 ds7 (.imm (.int (m : Int))) (.imm (.int f)) (.imm (.int b)) (.imm (.int s)) (.imm (.int c)) (.imm (.int age)) (.imm (.int (age - s))) (.imm (.int (tn c f b age))), ⟨u7, by rw [hsp]; exact s0, f0, hfc, hc⟩, ?_, rfl⟩
  rw [b9, x_ss_cons, e0, andThen_nx, x_ss_cons, e1, andThen_nx, x_ss_cons, e2, andThen_nx, x_ss_cons, e3, andThen_nx, x_ss_cons, e4, andThen_nx, x_ss_cons, e5, andThen_nx, x_ss_cons, e6, andThen_nx, x_ss_cons, e7, andThen_nx, x_ss_cons, e8, andThen_nx, x_ss_cons, e9, andThen_ret]
end K19
namespace K19
open VI
open PySem (PyData)
structure Calls (O : Orc) : Prop where
  D : DrawOk O 3
  k8 : ∀ c f b age, (c - f).natAbs < huge → O.call 8 [.imm (.int c), .imm (.int f), .imm (.int b), .imm (.int age)] = .ret (.imm (askV c f b age)) [.imm (.int c), .imm (.int f), .imm (.int b), .imm (.int age)]
  k7 : ∀ (c f b : Int) (age : Nat), 0 ≤ sp c f b → 0 < c - f → age ≤ 1000 → ∃ age' : Int, O.call 7 [.imm (.int c), .imm (.int f), .imm (.int b), .imm (.int (age : Int))] = .ret (.imm (.int (tn c f b (age : Int)))) [.imm (.int c), .imm (.int f), .imm (.int b), .imm (.int age')]
  k9 : ∀ (ds : List Dat), Pu ds → ∀ m : Nat, 0 < m → m ≤ 10 ^ 30 → ∃ (c f b age : Int) (ds' : List Dat), (Pu ds' ∧ sp c f b ≥ 0 ∧ 0 ≤ f ∧ f < c ∧ c ≤ 10 ^ 40) ∧ O.call 9 [.own true false (.lst ds), .imm (.int (m : Int))] = .ret (.imm (.tup [.int c, .int f, .int b, .int age, .int (tn c f b age)])) [.own true false (.lst ds'), .imm (.int (m : Int))]
theorem calls (n : Nat) : Calls (orc Pr (n + 3)) :=
  ⟨drawOk P3 (n + 2), fun c f b age h => asked_is n c f b age h, fun c f b age h1 h2 h3 => steps_is (n + 2) c f b age h1 h2 h3, fun ds u m h1 h2 => great_is (n + 1) ds u m h1 h2⟩
abbrev E10 (Z : List Dat) (s1 s2 s3 s4 s5 s6 s7 s8 : Slot) : VI.Env := [.imm (.lst Z), s1, s2, s3, s4, s5, s6, s7, s8]
abbrev pu (ds : List Dat) : Slot := .own false false (.lst ds)
abbrev letD (t : Int) : Dat := .tup [.str "let", .int t, .bl false]
abbrev badD : Dat := .tup [.str "bad", .int 0, .bl false]
theorem ne_let (t : Int) : cmpD .ne (letD t) (letD t) = some (.imm (.bl false)) := ne_self rfl (by show max 0 (max 0 (max 0 0)) + 1 ≤ 64; omega)
theorem ne_bad : cmpD .ne badD badD = some (.imm (.bl false)) := ne_self rfl (by show max 0 (max 0 (max 0 0)) + 1 ≤ 64; omega)
theorem ask_let {c f b age : Int} (h : ¬ bad c f b) : askV c f b age = letD (tn c f b age) := by unfold askV; rw [if_neg h]
theorem ask_bad {c f b age : Int} (h : bad c f b) : askV c f b age = badD := by unfold askV; rw [if_pos h]
theorem rl3_of (a : Int) (n : Nat) (hg : (decide ((3 : Int) ≠ 0) && decide ((3 : Int).natAbs < 1073741824) && PySem.Builtin.Range.small a 41 3 && decide (0 ≤ PySem.Builtin.Range.rangeSize a 41 3) && decide (PySem.Builtin.Range.rangeSize a 41 3 ≤ 16777216)) = true) (hn : (PySem.Builtin.Range.rangeSize a 41 3).toNat = n) : rl3L [.int a, .int 41, .int 3] = some (.fr (.lst ((rngC a 3 n).map Dat.int))) := by
  show grd _ (Res.fr (OD.lst ((rngC a 3 (PySem.Builtin.Range.rangeSize a 41 3).toNat).map .int))) = _
  rw [hg, hn]; rfl
theorem rl3_small (a : Int) (h0 : 0 ≤ a) (h1 : a < 9) : ∃ L : List Int, rl3L [.int a, .int 41, .int 3] = some (.fr (.lst (L.map Dat.int))) ∧ L.length ≤ 50 ∧ ∀ x ∈ L, 0 ≤ x ∧ x ≤ 40 := by
  rcases (show a = 0 ∨ a = 1 ∨ a = 2 ∨ a = 3 ∨ a = 4 ∨ a = 5 ∨ a = 6 ∨ a = 7 ∨ a = 8 by omega) with rfl | rfl | rfl | rfl | rfl | rfl | rfl | rfl | rfl
  · exact ⟨rngC 0 3 14, rl3_of 0 14 (by decide +kernel) (by decide +kernel), by decide, by decide +kernel⟩
  · exact ⟨rngC 1 3 14, rl3_of 1 14 (by decide +kernel) (by decide +kernel), by decide, by decide +kernel⟩
  · exact ⟨rngC 2 3 13, rl3_of 2 13 (by decide +kernel) (by decide +kernel), by decide, by decide +kernel⟩
  · exact ⟨rngC 3 3 13, rl3_of 3 13 (by decide +kernel) (by decide +kernel), by decide, by decide +kernel⟩
  · exact ⟨rngC 4 3 13, rl3_of 4 13 (by decide +kernel) (by decide +kernel), by decide, by decide +kernel⟩
  · exact ⟨rngC 5 3 12, rl3_of 5 12 (by decide +kernel) (by decide +kernel), by decide, by decide +kernel⟩
  · exact ⟨rngC 6 3 12, rl3_of 6 12 (by decide +kernel) (by decide +kernel), by decide, by decide +kernel⟩
  · exact ⟨rngC 7 3 12, rl3_of 7 12 (by decide +kernel) (by decide +kernel), by decide, by decide +kernel⟩
  · exact ⟨rngC 8 3 11, rl3_of 8 11 (by decide +kernel) (by decide +kernel), by decide, by decide +kernel⟩
section
variable (O : Orc) (Z ds ds1 ds2 : List Dat) (s1 s2 s3 s4 s5 s6 s7 s8 : Slot) (c f b age r q t x : Int)
theorem w0 (k : O.call 2 [.imm (.lst Z), .imm (.int 0)] = .ret (.fr (.lst ds)) [.imm (.lst Z), .imm (.int 0)]) : exec O q10_0 (E10 Z .emp s2 s3 s4 s5 s6 s7 s8) = .nx (E10 Z (pu ds) s2 s3 s4 s5 s6 s7 s8) := by
  simp [setS, doCall, back, argS, k]
theorem w1 (k : O.call 3 [.own true false (.lst ds), .imm (.int 9)] = .ret (.imm (.int r)) [.own true false (.lst ds1), .imm (.int 9)]) : exec O q10_1 (E10 Z (pu ds) .emp s3 s4 s5 s6 s7 s8) = .nx (E10 Z (pu ds1) (.imm (.int (1 + r))) s3 s4 s5 s6 s7 s8) := by
  simp [setS, doCall, back, argS, k]
theorem w2 (k8 : O.call 8 [.imm (.int c), .imm (.int f), .imm (.int b), .imm (.int age)] = .ret (.imm (letD t)) [.imm (.int c), .imm (.int f), .imm (.int b), .imm (.int age)]) (k7 : O.call 7 [.imm (.int c), .imm (.int f), .imm (.int b), .imm (.int age)] = .ret (.imm (.int t)) [.imm (.int c), .imm (.int f), .imm (.int b), .imm (.int x)]) : execs O q10_2_0_0b (E10 Z s1 (.imm (.int c)) (.imm (.int f)) (.imm (.int b)) (.imm (.int age)) s6 s7 s8) = .nx (E10 Z s1 (.imm (.int c)) (.imm (.int f)) (.imm (.int b)) (.imm (.int age)) s6 s7 s8) := by
  have n := ne_let t
  simp [doCall, back, argS, k8, k7, n]
theorem w3 (k : O.call 3 [.own true false (.lst ds), .imm (.int 41)] = .ret (.imm (.int r)) [.own true false (.lst ds1), .imm (.int 41)]) (k2 : O.call 3 [.own true false (.lst ds1), .imm (.int 9)] = .ret (.imm (.int q)) [.own true false (.lst ds2), .imm (.int 9)]) (R W : List Dat) (hr : rl3L [.int q, .int 41, .int 3] = some (.fr (.lst R))) (hc : binD .add (.lst [.int 0, .int 1, .int c, .int r]) (.lst R) = some (.fr (.lst W))) :
    evalI O (.val (.bin .add (.lst (.cons (.cst (.int 0)) (.cons (.cst (.int 1)) (.cons (.var 2) (.cons (.call 3 (.cons (.var 1) (.cons (.cst (.int 41)) .nil))) .nil))))) (.rl3 (.cons (.call 3 (.cons (.var 1) (.cons (.cst (.int 9)) .nil))) (.cons (.cst (.int 41)) (.cons (.cst (.int 3)) .nil)))))) (E10 Z (pu ds) (.imm (.int c)) s3 s4 s5 s6 s7 s8) = .ok (W, none) (E10 Z (pu ds2) (.imm (.int c)) s3 s4 s5 s6 s7 s8) := by
  rw [evalI]
  simp [-b_cat, doCall, back, argS, k, k2, hr, hc]
theorem w4 (k : O.call 3 [.own true false (.lst ds), .imm (.int 41)] = .ret (.imm (.int r)) [.own true false (.lst ds1), .imm (.int 41)]) (k8 : O.call 8 [.imm (.int c), .imm (.int f), .imm (.int (c - 2 * f)), .imm (.int r)] = .ret (.imm badD) [.imm (.int c), .imm (.int f), .imm (.int (c - 2 * f)), .imm (.int r)]) : exec O q10_2_1 (E10 Z (pu ds) (.imm (.int c)) (.imm (.int f)) s4 s5 s6 s7 s8) = .nx (E10 Z (pu ds1) (.imm (.int c)) (.imm (.int f)) s4 s5 s6 s7 s8) := by
  have n := ne_bad
  simp [doCall, back, argS, m2, k, k8, n]
theorem w5 (k : O.call 3 [.own true false (.lst ds), .imm (.int 3)] = .ret (.imm (.int r)) [.own true false (.lst ds1), .imm (.int 3)]) : exec O q10_3 (E10 Z (pu ds) (.imm (.int c)) s3 s4 s5 .emp s7 s8) = .nx (E10 Z (pu ds1) (.imm (.int c)) s3 s4 s5 (.imm (.int (c + r))) s7 s8) := by
  simp [setS, doCall, back, argS, k]
theorem w6 (k : O.call 3 [.own true false (.lst ds), .imm (.int 41)] = .ret (.imm (.int r)) [.own true false (.lst ds1), .imm (.int 41)]) (k8 : O.call 8 [.imm (.int c), .imm (.int x), .imm (.int 0), .imm (.int r)] = .ret (.imm badD) [.imm (.int c), .imm (.int x), .imm (.int 0), .imm (.int r)]) : exec O q10_4 (E10 Z (pu ds) (.imm (.int c)) s3 s4 s5 (.imm (.int x)) s7 s8) = .nx (E10 Z (pu ds1) (.imm (.int c)) s3 s4 s5 (.imm (.int x)) s7 s8) := by
  have n := ne_bad
  simp [doCall, back, argS, k, k8, n]
theorem w7 (hd : divOk 2 = true) (k8 : O.call 8 [.imm (.int c), .imm (.int ((c + 1) / 2)), .imm (.int 0), .imm (.int 0)] = .ret (.imm badD) [.imm (.int c), .imm (.int ((c + 1) / 2)), .imm (.int 0), .imm (.int 0)]) : exec O q10_5 (E10 Z s1 (.imm (.int c)) s3 s4 s5 s6 s7 s8) = .nx (E10 Z s1 (.imm (.int c)) s3 s4 s5 s6 s7 s8) := by
  have n := ne_bad
  simp [doCall, back, argS, hd, k8, n]
theorem w8 (h8 : Fr s8) (k : O.call 9 [.own true false (.lst ds), .imm (.int x)] = .ret (.imm (.tup [.int c, .int f, .int b, .int age, .int t])) [.own true false (.lst ds1), .imm (.int x)]) : exec O q10_6_0 (E10 Z (pu ds) s2 s3 s4 s5 s6 (.imm (.int x)) s8) = .nx (E10 Z (pu ds1) s2 s3 s4 s5 s6 (.imm (.int x)) (.imm (.tup [.int c, .int f, .int b, .int age, .int t]))) := by
  rcases h8 with rfl | ⟨d, rfl⟩ <;> simp [setS, doCall, back, argS, k]
theorem w9 (k8 : O.call 8 [.imm (.int c), .imm (.int f), .imm (.int b), .imm (.int age)] = .ret (.imm (letD t)) [.imm (.int c), .imm (.int f), .imm (.int b), .imm (.int age)]) : exec O q10_6_1 (E10 Z s1 s2 s3 s4 s5 s6 s7 (.imm (.tup [.int c, .int f, .int b, .int age, .int t]))) = .nx (E10 Z s1 s2 s3 s4 s5 s6 s7 (.imm (.tup [.int c, .int f, .int b, .int age, .int t]))) := by
  have n := ne_let t
  have i0 : idxD (.tup [.int c, .int f, .int b, .int age, .int t]) (.int 0) = some (.imm (.int c)) := rfl
  have i1 : idxD (.tup [.int c, .int f, .int b, .int age, .int t]) (.int 1) = some (.imm (.int f)) := rfl
  have i2 : idxD (.tup [.int c, .int f, .int b, .int age, .int t]) (.int 2) = some (.imm (.int b)) := rfl
  have i3 : idxD (.tup [.int c, .int f, .int b, .int age, .int t]) (.int 3) = some (.imm (.int age)) := rfl
  have i4 : idxD (.tup [.int c, .int f, .int b, .int age, .int t]) (.int 4) = some (.imm (.int t)) := rfl
  generalize Dat.tup [.int c, .int f, .int b, .int age, .int t] = G at *
  simp [doCall, back, argS, i0, i1, i2, i3, i4, k8, n]
theorem w10 (k8 : O.call 8 [.imm (.int c), .imm (.int f), .imm (.int (c - 2 * f)), .imm (.int age)] = .ret (.imm badD) [.imm (.int c), .imm (.int f), .imm (.int (c - 2 * f)), .imm (.int age)]) : exec O q10_6_2 (E10 Z s1 s2 s3 s4 s5 s6 s7 (.imm (.tup [.int c, .int f, .int b, .int age, .int t]))) = .nx (E10 Z s1 s2 s3 s4 s5 s6 s7 (.imm (.tup [.int c, .int f, .int b, .int age, .int t]))) := by
  have n := ne_bad
  have i0 : idxD (.tup [.int c, .int f, .int b, .int age, .int t]) (.int 0) = some (.imm (.int c)) := rfl
  have i1 : idxD (.tup [.int c, .int f, .int b, .int age, .int t]) (.int 1) = some (.imm (.int f)) := rfl
  have i3 : idxD (.tup [.int c, .int f, .int b, .int age, .int t]) (.int 3) = some (.imm (.int age)) := rfl
  generalize Dat.tup [.int c, .int f, .int b, .int age, .int t] = G at *
  simp [doCall, back, argS, m2, i0, i1, i3, k8, n]
end
end K19
namespace K19
open VI
open PySem (PyData)
theorem small_huge {i : Int} (h : i.natAbs < 10 ^ 50) : i.natAbs < huge := Nat.lt_trans h (by decide)
theorem not_bad {c f b : Int} (h1 : f < c) (h2 : 0 ≤ sp c f b) : ¬ bad c f b := fun h => by
  rcases h with h | h
  · omega
  · omega
theorem ev_rng0 {O : Orc} {ρ ρ1 : VI.Env} {es : Es} {rs : List Res} {x : Int} (k : Nat) (he : evalAs O es ρ = .ok rs ρ1) (hd : derefs ρ1 rs = some [.int 0, .int x]) (hx : x = (k : Int)) (hk : k ≤ 16777216) : evalI O (.rng es) ρ = .ok ((List.range k).map fun (i : Nat) => Dat.int (i : Int), none) ρ1 := by
  subst hx
  rw [ev_rng2 he hd (rng_ok (by omega) (by omega)) (by omega), rng0]
section
variable (O : Orc) (K : Calls O) (Z : List Dat)
include K
theorem ages (s1 s6 s7 s8 : Slot) (c f b : Int) (hfc : f < c) (hs : 0 ≤ sp c f b) (hb : (c - f).natAbs < huge) : ∀ (L : List Int), (∀ x ∈ L, 0 ≤ x ∧ x ≤ 40) → ∀ (s5 : Slot), Fr s5 → ∃ s5', Fr s5' ∧ forI (stepF O (.one 5) q10_2_0_0b) (L.map Dat.int) (E10 Z s1 (.imm (.int c)) (.imm (.int f)) (.imm (.int b)) s5 s6 s7 s8) = .nx (E10 Z s1 (.imm (.int c)) (.imm (.int f)) (.imm (.int b)) s5' s6 s7 s8)
  | [], _, s5, h5 => ⟨s5, h5, rfl⟩
  | x :: L, hx, s5, h5 => by
    have hx0 := hx x (List.mem_cons_self)
    obtain ⟨n, rfl⟩ : ∃ n : Nat, x = (n : Int) := ⟨x.toNat, by omega⟩
    have bd : bind (.one 5) (.int (n : Int)) (E10 Z s1 (.imm (.int c)) (.imm (.int f)) (.imm (.int b)) s5 s6 s7 s8) = some (E10 Z s1 (.imm (.int c)) (.imm (.int f)) (.imm (.int b)) (.imm (.int (n : Int))) s6 s7 s8) := bind_fr (i := 5) rfl h5
    have k8 := K.k8 c f b (n : Int) hb
    rw [ask_let (not_bad hfc hs)] at k8
    obtain ⟨age', k7⟩ := K.k7 c f b n hs (by omega) (by omega)
    obtain ⟨s5', f5, e⟩ := ages s1 s6 s7 s8 c f b hfc hs hb L (fun y hy => hx y (List.mem_cons_of_mem _ hy)) (.imm (.int (n : Int))) Fr.imm
    refine ⟨s5', f5, ?_⟩
    rw [List.map_cons, forI, stepF_of bd, w2 O Z s1 s6 s7 s8 c f b (n : Int) _ age' k8 k7]
    exact e
theorem bees (s6 s7 s8 : Slot) (c f : Nat) (hc : c ≤ 9) (hf : 2 * f < c) : ∀ (l : List Nat), (∀ b ∈ l, b + 2 * f < c) → ∀ (ds : List Dat) (s4 s5 : Slot), Pu ds → Fr s4 → Fr s5 → ∃ ds' s4' s5', (Pu ds' ∧ Fr s4' ∧ Fr s5') ∧ forI (stepF O (.one 4) q10_2_0b) (l.map fun (i : Nat) => Dat.int (i : Int)) (E10 Z (pu ds) (.imm (.int (c : Int))) (.imm (.int (f : Int))) s4 s5 s6 s7 s8) = .nx (E10 Z (pu ds') (.imm (.int (c : Int))) (.imm (.int (f : Int))) s4' s5' s6 s7 s8)
  | [], _, ds, s4, s5, u, h4, h5 => ⟨ds, s4, s5, ⟨u, h4, h5⟩, rfl⟩
  | b :: l, hb, ds, s4, s5, u, h4, h5 => by
    have hb0 := hb b (List.mem_cons_self)
    have bd : bind (.one 4) (.int (b : Int)) (E10 Z (pu ds) (.imm (.int (c : Int))) (.imm (.int (f : Int))) s4 s5 s6 s7 s8) = some (E10 Z (pu ds) (.imm (.int (c : Int))) (.imm (.int (f : Int))) (.imm (.int (b : Int))) s5 s6 s7 s8) := bind_fr (i := 4) rfl h4
    obtain ⟨r, ds1, ⟨r0, r1⟩, u1, k1⟩ := K.D.small u 41 (by decide) (by decide)
    obtain ⟨q, ds2, ⟨q0, q1⟩, u2, k2⟩ := K.D.small u1 9 (by decide) (by decide)
    obtain ⟨R, hr, lR, hR⟩ := rl3_small q q0 q1
    have hc' : binD .add (.lst [.int 0, .int 1, .int (c : Int), .int r]) (.lst (R.map Dat.int)) = some (.fr (.lst (([0, 1, (c : Int), r] ++ R).map Dat.int))) := by
      rw [cat_ok _ _ (by rw [List.length_map]; simp only [List.length_cons, List.length_nil]; omega), List.map_append]; rfl
    have rv := w3 O Z ds ds1 ds2 (.imm (.int (f : Int))) (.imm (.int (b : Int))) s5 s6 s7 s8 (c : Int) r q k1 k2 _ _ hr hc'
    have hsp : 0 ≤ sp (c : Int) (f : Int) (b : Int) := by unfold sp; omega
    obtain ⟨s5', f5, lp⟩ := ages O K Z (pu ds2) s6 s7 s8 (c : Int) (f : Int) (b : Int) (by omega) hsp (small_huge (by omega)) ([0, 1, (c : Int), r] ++ R) (fun x hx => by
      rcases List.mem_append.1 hx with hx | hx
      · simp only [List.mem_cons, List.not_mem_nil, or_false] at hx
        rcases hx with rfl | rfl | rfl | rfl <;> omega
      · exact hR x hx) s5 h5
    obtain ⟨ds', s4', s5'', g, e⟩ := bees s6 s7 s8 c f hc hf l (fun y hy => hb y (List.mem_cons_of_mem _ hy)) ds2 (.imm (.int (b : Int))) s5' u2 Fr.imm f5
    refine ⟨ds', s4', s5'', g, ?_⟩
    rw [List.map_cons, forI, stepF_of bd, q10_2_0b, x_ss_cons, q10_2_0_0, x_for rv, lp, and2, andThen_nx, x_ss_nil]
    exact e
theorem effs (s6 s7 s8 : Slot) (c : Nat) (hc : c ≤ 9) : ∀ (l : List Nat), (∀ f ∈ l, 2 * f < c) → ∀ (ds : List Dat) (s3 s4 s5 : Slot), Pu ds → Fr s3 → Fr s4 → Fr s5 → ∃ ds' s3' s4' s5', (Pu ds' ∧ Fr s3' ∧ Fr s4' ∧ Fr s5') ∧ forI (stepF O (.one 3) q10_2b) (l.map fun (i : Nat) => Dat.int (i : Int)) (E10 Z (pu ds) (.imm (.int (c : Int))) s3 s4 s5 s6 s7 s8) = .nx (E10 Z (pu ds') (.imm (.int (c : Int))) s3' s4' s5' s6 s7 s8)
  | [], _, ds, s3, s4, s5, u, h3, h4, h5 => ⟨ds, s3, s4, s5, ⟨u, h3, h4, h5⟩, rfl⟩
  | f :: l, hf, ds, s3, s4, s5, u, h3, h4, h5 => by
    have hf0 := hf f (List.mem_cons_self)
    have bd : bind (.one 3) (.int (f : Int)) (E10 Z (pu ds) (.imm (.int (c : Int))) s3 s4 s5 s6 s7 s8) = some (E10 Z (pu ds) (.imm (.int (c : Int))) (.imm (.int (f : Int))) s4 s5 s6 s7 s8) := bind_fr (i := 3) rfl h3
    have rv : evalI O (.rng (.cons (.cst (.int 0)) (.cons (.bin .sub (.var 2) (.bin .mul (.cst (.int 2)) (.var 3))) .nil))) (E10 Z (pu ds) (.imm (.int (c : Int))) (.imm (.int (f : Int))) s4 s5 s6 s7 s8) = .ok ((List.range (c - 2 * f)).map fun (i : Nat) => Dat.int (i : Int), none) (E10 Z (pu ds) (.imm (.int (c : Int))) (.imm (.int (f : Int))) s4 s5 s6 s7 s8) :=
      ev_rng0 (rs := [.imm (.int 0), .imm (.int ((c : Int) - 2 * (f : Int)))]) (c - 2 * f) (by simp [m2]) rfl (by omega) (by omega)
    obtain ⟨ds1, s4', s5', ⟨u1, f4, f5⟩, lp⟩ := bees O K Z s6 s7 s8 c f hc hf0 (List.range (c - 2 * f)) (fun b hb => by have := List.mem_range.1 hb; omega) ds s4 s5 u h4 h5
    obtain ⟨r, ds2, ⟨r0, r1⟩, u2, k2⟩ := K.D.small u1 41 (by decide) (by decide)
    have k8 := K.k8 (c : Int) (f : Int) ((c : Int) - 2 * (f : Int)) r (small_huge (by omega))
    rw [ask_bad (.inr (by unfold sp; omega))] at k8
    have e4 := w4 O Z ds1 ds2 s4' s5' s6 s7 s8 (c : Int) (f : Int) r k2 k8
    obtain ⟨ds', t3, t4, t5, g, e⟩ := effs s6 s7 s8 c hc l (fun y hy => hf y (List.mem_cons_of_mem _ hy)) ds2 (.imm (.int (f : Int))) s4' s5' u2 Fr.imm f4 f5
    refine ⟨ds', t3, t4, t5, g, ?_⟩
    rw [List.map_cons, forI, stepF_of bd, q10_2b, x_ss_cons, q10_2_0, x_for rv, lp, and2, andThen_nx, x_ss_cons, e4, andThen_nx, x_ss_nil]
    exact e
theorem mosts (s2 s3 s4 s5 s6 : Slot) : ∀ (l : List Nat), (∀ m ∈ l, 0 < m ∧ m ≤ 10 ^ 30) → ∀ (ds : List Dat) (s7 s8 : Slot), Pu ds → Fr s7 → Fr s8 → ∃ ds' s7' s8', forI (stepF O (.one 7) q10_6b) (l.map fun (i : Nat) => Dat.int (i : Int)) (E10 Z (pu ds) s2 s3 s4 s5 s6 s7 s8) = .nx (E10 Z (pu ds') s2 s3 s4 s5 s6 s7' s8')
  | [], _, ds, s7, s8, _, _, _ => ⟨ds, s7, s8, rfl⟩
  | m :: l, hm, ds, s7, s8, u, h7, h8 => by
    have hm0 := hm m (List.mem_cons_self)
    have bd : bind (.one 7) (.int (m : Int)) (E10 Z (pu ds) s2 s3 s4 s5 s6 s7 s8) = some (E10 Z (pu ds) s2 s3 s4 s5 s6 (.imm (.int (m : Int))) s8) := bind_fr (i := 7) rfl h7
    obtain ⟨c, f, b, age, ds1, ⟨u1, hs, f0, hfc, hc⟩, k9⟩ := K.k9 ds u m hm0.1 hm0.2
    have hb : (c - f).natAbs < huge := small_huge (by
      have : (10 : Int) ^ 40 < 10 ^ 50 := by decide
      have : (10 : Nat) ^ 40 < 10 ^ 50 := by decide
      omega)
    have k8 := K.k8 c f b age hb
    rw [ask_let (not_bad hfc hs)] at k8
    have k8b := K.k8 c f (c - 2 * f) age hb
    rw [ask_bad (.inr (by unfold sp; omega))] at k8b
    have e1 := w8 O Z ds ds1 s2 s3 s4 s5 s6 s8 c f b age (tn c f b age) (m : Int) h8 k9
    have e2 := w9 O Z (pu ds1) s2 s3 s4 s5 s6 (.imm (.int (m : Int))) c f b age (tn c f b age) k8
    have e3 := w10 O Z (pu ds1) s2 s3 s4 s5 s6 (.imm (.int (m : Int))) c f b age (tn c f b age) k8b
    obtain ⟨ds', t7, t8, e⟩ := mosts s2 s3 s4 s5 s6 l (fun y hy => hm y (List.mem_cons_of_mem _ hy)) ds1 (.imm (.int (m : Int))) (.imm (.tup [.int c, .int f, .int b, .int age, .int (tn c f b age)])) u1 Fr.imm Fr.imm
    refine ⟨ds', t7, t8, ?_⟩
    rw [List.map_cons, forI, stepF_of bd, q10_6b, x_ss_cons, e1, andThen_nx, x_ss_cons, e2, andThen_nx, x_ss_cons, e3, andThen_nx, x_ss_nil]
    exact e
end
theorem law_ok (n : Nat) (ns : List Int) : ∃ outs, (orc Pr (n + 4)).call 10 [.imm (.lst (ns.map Dat.int))] = .ret (.imm (.bl true)) outs := by
  suffices ∃ ρ', execs (orc Pr (n + 3)) b10 (E10 (ns.map Dat.int) .emp .emp .emp .emp .emp .emp .emp .emp) = .ret (.imm (.bl true)) ρ' ∧ ρ'.take 1 = [.imm (.lst (ns.map Dat.int))] by
    obtain ⟨ρ', h, t⟩ := this
    exact ⟨_, (call10 (n + 3) _ h).trans (retO_same t)⟩
  have K := calls n
  have k0 := purse_is (f := 2) (P := Pr) P2 (n + 2) ns 0
  have u0 := purse_pu ns 0
  rw [show n + 2 + 1 = n + 3 from rfl] at k0
  generalize ns.map Dat.int = Z at *
  generalize purseOf ns 0 = ds at *
  generalize orc Pr (n + 3) = O at *
  have e0 := w0 O Z ds .emp .emp .emp .emp .emp .emp .emp k0
  obtain ⟨r, ds1, ⟨r0, r1⟩, u1, k1⟩ := K.D.small u0 9 (by decide) (by decide)
  have e1 := w1 O Z ds ds1 .emp .emp .emp .emp .emp .emp r k1
  obtain ⟨c, hc⟩ : ∃ c : Nat, 1 + r = (c : Int) := ⟨(1 + r).toNat, by omega⟩
  rw [hc] at e1
  have d2 : divOk 2 = true := (big_line (m := 2) (by decide) (by decide)).div
  have rv : evalI O (.rng (.cons (.cst (.int 0)) (.cons (.bin .add (.bin .fdiv (.bin .sub (.var 2) (.cst (.int 1))) (.cst (.int 2))) (.cst (.int 1))) .nil))) (E10 Z (pu ds1) (.imm (.int (c : Int))) .emp .emp .emp .emp .emp .emp) = .ok ((List.range ((c - 1) / 2 + 1)).map fun (i : Nat) => Dat.int (i : Int), none) (E10 Z (pu ds1) (.imm (.int (c : Int))) .emp .emp .emp .emp .emp .emp) :=
    ev_rng0 (rs := [.imm (.int 0), .imm (.int (((c : Int) - 1) / 2 + 1))]) ((c - 1) / 2 + 1) (by simp [d2]) rfl (by omega) (by omega)
  obtain ⟨ds2, s3, s4, s5, ⟨u2, f3, f4, f5⟩, lp⟩ := effs O K Z .emp .emp .emp c (by omega) (List.range ((c - 1) / 2 + 1)) (fun f hf => by have := List.mem_range.1 hf; omega) ds1 .emp .emp .emp u1 Fr.emp Fr.emp Fr.emp
  obtain ⟨q, ds3, ⟨q0, q1⟩, u3, k3⟩ := K.D.small u2 3 (by decide) (by decide)
  have e5 := w5 O Z ds2 ds3 s3 s4 s5 .emp .emp (c : Int) q k3
  obtain ⟨a, ds4, ⟨a0, a1⟩, u4, k4⟩ := K.D.small u3 41 (by decide) (by decide)
  have k8 := K.k8 (c : Int) ((c : Int) + q) 0 a (small_huge (by omega))
  rw [ask_bad (.inl (by omega))] at k8
  have e6 := w6 O Z ds3 ds4 s3 s4 s5 .emp .emp (c : Int) a ((c : Int) + q) k4 k8
  have k8b := K.k8 (c : Int) (((c : Int) + 1) / 2) 0 0 (small_huge (by omega))
  rw [ask_bad (.inr (by unfold sp; omega))] at k8b
  have e7 := w7 O Z (pu ds4) s3 s4 s5 (.imm (.int ((c : Int) + q))) .emp .emp (c : Int) d2 k8b
  have rv6 : evalI O (.val (.lst (.cons (.bin .pow (.cst (.int 10)) (.cst (.int 3))) (.cons (.bin .pow (.cst (.int 10)) (.cst (.int 6))) (.cons (.bin .pow (.cst (.int 10)) (.cst (.int 30))) .nil))))) (E10 Z (pu ds4) (.imm (.int (c : Int))) s3 s4 s5 (.imm (.int ((c : Int) + q))) .emp .emp) = .ok ([1000, 1000000, 1000000000000000000000000000000].map fun (i : Nat) => Dat.int (i : Int), none) (E10 Z (pu ds4) (.imm (.int (c : Int))) s3 s4 s5 (.imm (.int ((c : Int) + q))) .emp .emp) := by
    have p1 : powOk 10 3 = true := rfl
    have p2 : powOk 10 6 = true := rfl
    have p3 : powOk 10 30 = true := rfl
    rw [evalI]
    simp [p1, p2, p3]
  obtain ⟨ds5, s7, s8, lp6⟩ := mosts O K Z (.imm (.int (c : Int))) s3 s4 s5 (.imm (.int ((c : Int) + q))) [1000, 1000000, 1000000000000000000000000000000] (fun m hm => by
    simp only [List.mem_cons, List.not_mem_nil, or_false] at hm
    rcases hm with rfl | rfl | rfl <;> exact ⟨by decide, by decide⟩) ds4 .emp .emp u4 Fr.emp Fr.emp
  refine ⟨E10 Z (pu ds5) (.imm (.int (c : Int))) s3 s4 s5 (.imm (.int ((c : Int) + q))) s7 s8, ?_, rfl⟩
  rw [b10, x_ss_cons, e0, andThen_nx, x_ss_cons, e1, andThen_nx, x_ss_cons, q10_2, x_for rv]
  rw [lp, and2, andThen_nx, x_ss_cons, e5, andThen_nx, x_ss_cons, e6, andThen_nx, x_ss_cons, e7, andThen_nx, x_ss_cons, q10_6, x_for rv6]
  rw [lp6, and2, andThen_nx, x_ss_cons]
  generalize E10 Z (pu ds5) (.imm (.int (c : Int))) s3 s4 s5 (.imm (.int ((c : Int) + q))) s7 s8 = ρ
  simp
def levels : Nat := 20
end K19
namespace K19
theorem law_is : VI.LawIs Pr levels 10 63 := fun ns _ => law_ok 16 ns
end K19
open PySem PySem.W PyProof.Rows
set_option maxRecDepth 100000 in
set_option maxHeartbeats 0 in
theorem PySem.Challenge.cw_sharedenough_k19_turns_by_steps_and_by_f_holds : PySem.Challenge.rw_sharedenough_k19_turns_by_steps_and_by_f.Holds := by
  w_on; o_law; k_head; (case hw => w_witness2)
  k_fill
  refine VI.vi_walk (l := PySem.Challenge.rw_sharedenough_k19_turns_by_steps_and_by_f) (n := 63) (N := K19.levels) (i := 10) (Pr := K19.Pr) (I := K19.I) (x := "script") (y := "law") rfl (by decide) rfl ⟨rfl, by decide, by decide⟩ (fun w h Y => PySem.W.kIn_of Y) K19.law_is ?F
  case F =>
    intro w mg fa h KX G hmg
    refine' K19.tab KX G hmg ?b0 ?b1 ?b2 ?b3 ?b4 ?b5 ?b6 ?b7 ?b8 ?b9 ?b10 ?b11 ?b12 ?b13 ?b14 ?b15 ?b16 ?e0 ?l0 ?c0 ?k0 ?e1 ?l1 ?c1 ?k1 ?e2 ?l2 ?c2 ?k2 ?e3 ?l3 ?c3 ?k3 ?e4 ?l4 ?c4 ?k4 ?e5 ?l5 ?c5 ?k5 ?e6 ?l6 ?c6 ?k6 ?e7 ?l7 ?c7 ?k7 ?e8 ?l8 ?c8 ?k8 ?e9 ?l9 ?c9 ?k9 ?e10 ?l10 ?c10 ?k10 ?xS ?bS ?xc0 ?xo0 ?xi0 ?xt0 ?xl0 ?xj0 ?xk0 ?xc1 ?xo1 ?xi1 ?xt1 ?xl1 ?xj1 ?xk1 ?xc2 ?xo2 ?xi2 ?xt2 ?xl2 ?xj2 ?xk2 ?xm
    (case b0 => k_is)
    (case b1 => k_is)
    (case b2 => k_is)
    (case b3 => k_is)
    (case b4 => k_is)
    (case b5 => k_is)
    (case b6 => k_is)
    (case b7 => k_is)
    (case b8 => k_is)
    (case b9 => k_is)
    (case b10 => k_is)
    (case b11 => k_is)
    (case b12 => k_is)
    (case b13 => k_is)
    (case b14 => k_is)
    (case b15 => k_is)
    (case b16 => k_is)
    (case e0 => k_is)
    (case l0 => k_is)
    (case c0 => k_is)
    (case k0 => k_is)
    (case e1 => k_is)
    (case l1 => k_is)
    (case c1 => k_is)
    (case k1 => k_is)
    (case e2 => k_is)
    (case l2 => k_is)
    (case c2 => k_is)
    (case k2 => k_is)
    (case e3 => k_is)
    (case l3 => k_is)
    (case c3 => k_is)
    (case k3 => k_is)
    (case e4 => k_is)
    (case l4 => k_is)
    (case c4 => k_is)
    (case k4 => k_is)
    (case e5 => k_is)
    (case l5 => k_is)
    (case c5 => k_is)
    (case k5 => k_is)
    (case e6 => k_is)
    (case l6 => k_is)
    (case c6 => k_is)
    (case k6 => k_is)
    (case e7 => k_is)
    (case l7 => k_is)
    (case c7 => k_is)
    (case k7 => k_is)
    (case e8 => k_is)
    (case l8 => k_is)
    (case c8 => k_is)
    (case k8 => k_is)
    (case e9 => k_is)
    (case l9 => k_is)
    (case c9 => k_is)
    (case k9 => k_is)
    (case e10 => k_is)
    (case l10 => k_is)
    (case c10 => k_is)
    (case k10 => k_is)
    (case xS => k_is)
    (case bS => first | rfl | kernel_rfl)
    (case xc0 => k_is)
    (case xo0 => first | rfl | kernel_rfl)
    (case xi0 => k_is)
    (case xt0 => k_is)
    (case xl0 => k_is)
    (case xj0 => k_is)
    (case xk0 => k_is)
    (case xc1 => k_is)
    (case xo1 => first | rfl | kernel_rfl)
    (case xi1 => k_is)
    (case xt1 => k_is)
    (case xl1 => k_is)
    (case xj1 => k_is)
    (case xk1 => k_is)
    (case xc2 => k_is)
    (case xo2 => first | rfl | kernel_rfl)
    (case xi2 => k_is)
    (case xt2 => k_is)
    (case xl2 => k_is)
    (case xj2 => k_is)
    (case xk2 => k_is)
    (case xm => first | rfl | kernel_rfl)
