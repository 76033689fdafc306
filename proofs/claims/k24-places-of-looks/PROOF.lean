import PyProof.Rows.All
import Wide.All
import OpenK.AllK
import Wide.FinOn
import HandS.ForMost
import HandS.ForExc
import HandS.Deep
import HandS.Flow
import HandS.Walk
import HandS.Zip
import HandS.Rev
import HandS.Style
import HandS.TupAny
import HandS.IsInst
import HandS.Conv
import KE.SortData
import KE.DataMinMax
import HandS.Text
import HandS.TupMul
import HandS.SortInts
import HandS.TupSets
import HandS.ExcValue
import KE.GoesEnum
import HandS.TryOnly
import HandS.ExcIs
import HandS.More
import HandS.Small
import KE.KDictDisplayH
import PySem.Challenge.RW_stonechain_k24_whole_places_of_looks
set_option linter.all false
set_option Elab.async false
set_option maxRecDepth 100000
namespace SC
open PySem

/-- what stands in the store: lists, instances, dicts; lists and dicts that are walked (locked) -/
inductive Ob where
  | lst (ds : List PyData)
  | ins (c : Str) (fs : List (Str × PyData))
  | dK (kvs : List (L2.Key × PyData))
  | dT (kvs : List (List L2.Key × PyData))
  | lkL (ds : List PyData)
  | lkK (kvs : List (L2.Key × PyData))
  | lkT (kvs : List (List L2.Key × PyData))
def Ob.free : Ob → Bool
  | .lkL _ => false
  | .lkK _ => false
  | .lkT _ => false
  | _ => true
/-- what a slot or an expression holds: data that never changes, a list of its own, or (one slot) the store -/
inductive Val where
  | fz (d : PyData)
  | ol (ds : List PyData)
  | sto (S : List Ob)
def Val.toD : Val → PyData
  | .fz d => d
  | .ol ds => .list ds
  | .sto _ => .none
def valD : Val → Option PyData
  | .fz d => some d
  | .ol ds => some (.list ds)
  | .sto _ => none
abbrev EV := List (Option Val)
inductive Out (α : Type) where
  | ok (a : α) (r : EV)
  | exc (c : Nat) (r : EV)
  | bad
def Out.bnd {α β : Type} (x : Out α) (f : α → EV → Out β) : Out β := match x with
  | .ok a r => f a r
  | .exc c r => .exc c r
  | .bad => .bad
@[simp] theorem bnd_ok {α β : Type} (a : α) (r : EV) (f : α → EV → Out β) : (Out.ok a r).bnd f = f a r := rfl
@[simp] theorem bnd_exc {α β : Type} (c : Nat) (r : EV) (f : α → EV → Out β) : (Out.exc c r : Out α).bnd f = .exc c r := rfl
@[simp] theorem bnd_bad {α β : Type} (f : α → EV → Out β) : (Out.bad : Out α).bnd f = .bad := rfl
/-- an answer that may be none -/
def Out.of {α : Type} (x : Option α) (r : EV) : Out α := match x with
  | some a => .ok a r
  | none => .bad
@[simp] theorem of_some {α : Type} (a : α) (r : EV) : Out.of (some a) r = .ok a r := rfl
@[simp] theorem of_none {α : Type} (r : EV) : (Out.of none r : Out α) = .bad := rfl
/-- what a call comes to -/
inductive Rt where
  | ret (v : Val)
  | exc (c : Nat)
  | bad

/-- what a call of a def with store comes to -/
inductive RtS where
  | ret (d : PyData) (S : List Ob)
  | exc (c : Nat) (S : List Ob)
  | bad
/-- what defs come to: without store, with store -/
structure Fs where
  p : Nat → List PyData → Rt
  s : Nat → List PyData → List Ob → RtS
instance : CoeFun Fs (fun _ => Nat → List PyData → Rt) := ⟨Fs.p⟩

/-- a thing in the store, as data -/
def refD (n : Nat) : PyData := .dict [(.bool false, .int n)]
def refN : PyData → Option Nat
  | .dict [(.bool false, .int i)] => if 0 ≤ i then some i.toNat else none
  | _ => none
/-- a thing of the store is looked at -/
def resT (S : List Ob) (d : PyData) : PyData := match refN d with
  | none => d
  | some n => match S[n]? with
    | some (.lst ds) => .list ds
    | some (.lkL ds) => .list ds
    | _ => d
mutual
/-- all things of the store in it are among the first n -/
def rfLt (n : Nat) : PyData → Bool
  | .list ds => rfLts n ds
  | .tuple ds => rfLts n ds
  | .dict kvs => match kvs with
    | [(.bool false, .int i)] => decide (i < (n : Int))
    | _ => true
  | _ => true
def rfLts (n : Nat) : List PyData → Bool
  | [] => true
  | d :: ds => rfLt n d && rfLts n ds
end
def Ob.rfLt (n : Nat) : Ob → Bool
  | .lst ds => ds.all (SC.rfLt n)
  | .ins _ fs => fs.all fun p => SC.rfLt n p.2
  | .dK kvs => kvs.all fun p => SC.rfLt n p.2
  | .dT kvs => kvs.all fun p => SC.rfLt n p.2
  | .lkL ds => ds.all (SC.rfLt n)
  | .lkK kvs => kvs.all fun p => SC.rfLt n p.2
  | .lkT kvs => kvs.all fun p => SC.rfLt n p.2
/-- what was made in a def and is not told goes -/
def gcS (n : Nat) (d : PyData) (S : List Ob) : List Ob := if rfLt n d && (S.take n).all (Ob.rfLt n) then S.take n else S
mutual
/-- no lists in it, nothing of the store -/
def lfD : PyData → Bool
  | .list _ => false
  | .tuple ds => lfDs ds
  | .dict _ => false
  | _ => true
def lfDs : List PyData → Bool
  | [] => true
  | d :: ds => lfD d && lfDs ds
end
/-- the script, as data: an odd dict that nothing else is -/
def scrD (ns : List Int) : PyData := .dict [(.none, .list (ns.map .int))]
/-- a caught exception, as data: another odd dict -/
def mkX (a : Nat) : PyData := .dict [(.bool true, .int a)]
def isMk : PyData → Bool
  | .dict [(.bool true, .int _)] => true
  | _ => false
def mkOk : Option Nat → PyData → Bool
  | none, d => isMk d
  | some a, .dict [(.bool true, .int n)] => decide (n = (a : Int))
  | some _, _ => false
def isScr : PyData → Option (List PyData)
  | .dict [(.none, .list ds)] => some ds
  | _ => none

/-! ### the language -/
inductive Bn where
  | len | min | max | sum | all | any | tuple | list | int | str | sorted
  deriving DecidableEq
inductive CE where
  | bad
  | var (i : Nat)
  | cst (d : PyData)
  | nil
  | cons (e es : CE)
  | tup (es : CE)
  | lst (es : CE)
  | bin (op : Operator) (a b : CE)
  | neg (a : CE)
  | cmp (op : CmpOp) (a b : CE)
  | chain (op op' : CmpOp) (a b c : CE)
  | chain3 (op op' op'' : CmpOp) (a b c d : CE)
  | lset (a : CE)
  | sset (a : CE)
  | isx (i : Nat) (o : Option Nat) (b : Bool)
  | split (a b : CE)
  | join (a b : CE)
  | and (a b : CE)
  | or (a b : CE)
  | not (a : CE)
  | ite (c a b : CE)
  | idx (a i : CE)
  | slc (a lo hi : CE)
  | rev (a : CE)
  | call (f : Nat) (es : CE)
  | blt (b : Bn) (es : CE)
  | isin (a : CE) (ts : List String)
  | app (i : Nat) (e : CE)
  | ext (i : Nat) (e : CE)
  | popL (i : Nat)
  | popA (i : Nat) (e : CE)
  | lc (tup : Bool) (tg : List Nat) (it c e : CE)
  -- things of the store; k: its slot
  | res (k : Nat) (e : CE)
  | prm (k : Nat) (e : CE)
  | calR (f : Nat) (es : CE)
  | calS (k f : Nat) (es : CE)
  | mcl (k : Nat) (m : Str) (ms : List (Str × Nat)) (o es : CE)
  | mk (k : Nat) (c : Str) (f : Nat) (es : CE)
  | fld (k : Nat) (cs : List Str) (o : CE) (x : Str)
  | dgi (k : Nat) (o a : CE)
  | dgt (k : Nat) (o a b : CE)
  | dnw (k t : Nat)
  | dds (k : Nat) (a b : CE)
  | dst (k : Nat) (o : CE)
  | calE (f : Nat) (es : CE)
  | dsp (k : Nat) (xs : List Str) (es : CE)
  | sap (k : Nat) (o e : CE)
  | spl (k : Nat) (o : CE)
  | spa (k : Nat) (o e : CE)
  | srm (k : Nat) (o e : CE)
  | inn (k : Nat) (o : CE)
  | cnt (a b : CE)
  | fnd (a b : CE)
  -- tests
  | tand (a b : CE)
  | tor (a b : CE)
  | tnot (a : CE)
  | tval (a : CE)
  -- what is walked
  | itr (a : CE)
  | rng (es : CE)
  | zip (es : CE)
  | enm (es : CE)
  | rvs (a : CE)

/-! ### operations on data -/
def truD : PyData → Option Bool
  | .none => some false
  | .bool b => some b
  | .int i => some (i != 0)
  | .str x => if x.length ≤ sizeLine then some (x.length != 0) else none
  | .list ds => some (!ds.isEmpty)
  | .tuple ds => some (!ds.isEmpty)
  | .dict _ => none
/-- a number below a bound, so written that nothing is worked out of a name -/
def blI (i : Int) (m : Nat) : Bool := Nat.ble i.natAbs m
theorem blI_iff {i : Int} {m : Nat} : blI i m = true ↔ -(m : Int) ≤ i ∧ i ≤ m := by
  unfold blI
  rw [Nat.ble_eq]
  omega
def mulOk (i j : Int) : Bool := blI i 18446744073709551615 || blI j 18446744073709551615
def binD : Operator → PyData → PyData → Option Val
  | .Add, .int a, .int b => some (.fz (.int (a + b)))
  | .Add, .str a, .str b => if a.length + b.length ≤ sizeLine then some (.fz (.str (a ++ b))) else none
  | .Add, .tuple a, .tuple b => if a.length + b.length ≤ sizeLine then some (.fz (.tuple (a ++ b))) else none
  | .Add, .list a, .list b => if a.length + b.length ≤ sizeLine then some (.ol (a ++ b)) else none
  | .Sub, .int a, .int b => some (.fz (.int (a - b)))
  | .Mult, .int a, .int b => if mulOk a b then some (.fz (.int (a * b))) else none
  | .Mult, .list a, .int k => if 0 ≤ k ∧ k < 2 ^ 62 ∧ a.length * k.toNat ≤ sizeLine then some (.ol (List.replicate k.toNat a).flatten) else none
  | .Mult, .tuple a, .int k => if (!a.isEmpty && decide (2 ≤ k) && blI k 1000 && Nat.ble a.length 1000) = true then some (.fz (.tuple (List.replicate k.toNat a).flatten)) else none
  | .Mod, .int a, .int b => if 0 < b then some (.fz (.int (a % b))) else none
  | .FloorDiv, .int a, .int b => if (decide (0 < b) && blI b 1073741823) = true then some (.fz (.int (a / b))) else none
  | _, _, _ => none
def eqD (a b : PyData) : Option Bool := if SeqAt.shaped a && SeqAt.shaped b then some (PyData.eqv a b) else none
/-- is, of None, True, False on the right -/
def isD : PyData → PyData → Option Bool
  | .none, .none => some true
  | .bool _, .none => some false
  | .int _, .none => some false
  | .str _, .none => some false
  | .list _, .none => some false
  | .tuple _, .none => some false
  | .dict [(.bool false, .int _)], .none => some false
  | .bool a, .bool b => some (a == b)
  | _, _ => none
def inD (a : PyData) : PyData → Option Bool
  | .list ds => if SeqAt.shaped a && SeqAt.shaped (.list ds) then some (ds.any fun z => PyData.eqv z a) else none
  | .tuple ds => if SeqAt.shaped a && SeqAt.shaped (.tuple ds) then some (ds.any fun z => PyData.eqv z a) else none
  | .str j => match a with
    | .str i => some (!(Builtin.Str.occurrences j i 0 j.length 1).isEmpty)
    | _ => none
  | _ => none
def cmpD : CmpOp → PyData → PyData → Option Bool
  | .Eq, a, b => eqD a b
  | .NotEq, a, b => (eqD a b).map (! ·)
  | .Lt, .int a, .int b => some (decide (a < b))
  | .LtE, .int a, .int b => some (decide (a ≤ b))
  | .Gt, .int a, .int b => some (decide (b < a))
  | .GtE, .int a, .int b => some (decide (b ≤ a))
  | .Is, a, b => isD a b
  | .IsNot, a, b => (isD a b).map (! ·)
  | .In, a, b => inD a b
  | .NotIn, a, b => (inD a b).map (! ·)
  | _, _, _ => none
def idxD : PyData → PyData → Option PyData
  | .list ds, .int i => L2.atI ds i
  | .tuple ds, .int i => L2.atI ds i
  | .str z, .int i => if z.length ≤ sizeLine then (L2.atI z.cps.toList i).map fun c => .str ⟨#[c]⟩ else none
  | .dict kvs, .int i => (isScr (.dict kvs)).bind fun ds => L2.atI ds i
  | _, _ => none
def cutD (xs : List PyData) (lo hi : Option Int) : List PyData := (xs.drop (HT.sIx xs.length 0 lo)).take (HT.sIx xs.length xs.length hi - HT.sIx xs.length 0 lo)
def slcD (lo hi : Option Int) : PyData → Option Val
  | .list ds => some (.ol (cutD ds lo hi))
  | .tuple ds => some (.fz (.tuple (cutD ds lo hi)))
  | .str z => if z.length ≤ sizeLine then some (.fz (.str (L2.cutS z lo hi))) else none
  | _ => none
def revD : PyData → Option Val
  | .list ds => some (.ol ds.reverse)
  | .tuple ds => some (.fz (.tuple ds.reverse))
  | _ => none
def tyD (d : PyData) (t : String) : Bool := match d with
  | .none => t == "NoneType"
  | .bool _ => t == "bool" || t == "int"
  | .int _ => t == "int"
  | .str _ => t == "str"
  | .list _ => t == "list"
  | .tuple _ => t == "tuple"
  | .dict _ => false
def intsD : List PyData → Option (List Int)
  | [] => some []
  | .int i :: r => (intsD r).map (i :: ·)
  | _ => none
def boolsD : List PyData → Option (List Bool)
  | [] => some []
  | .bool i :: r => (boolsD r).map (i :: ·)
  | _ => none
/-- the items of a list or a tuple -/
def itemsD : PyData → Option (List PyData)
  | .list ds => some ds
  | .tuple ds => some ds
  | _ => none
def lenD : PyData → Option Nat
  | .list ds => some ds.length
  | .tuple ds => some ds.length
  | .str z => if z.length ≤ sizeLine then some z.length else none
  | .dict kvs => (isScr (.dict kvs)).map (·.length)
  | _ => none
def minI : List Int → Option Int
  | [] => none
  | [a] => some a
  | a :: r => (minI r).map (min a ·)
def maxI : List Int → Option Int
  | [] => none
  | [a] => some a
  | a :: r => (maxI r).map (max a ·)
/-! sorting: whole numbers, pairs of whole numbers -/
def insR {α : Type} (lt : α → α → Bool) (y : α) : List α → List α
  | [] => [y]
  | x :: r => if lt y x then y :: x :: r else x :: insR lt y r
def isort {α : Type} (lt : α → α → Bool) (xs : List α) : List α := xs.foldl (fun acc y => insR lt y acc) []
def keyD : PyData → Int × Int
  | .int i => (i, 0)
  | .tuple [.int a, .int b] => (a, b)
  | _ => (0, 0)
def lexP (p q : Int × Int) : Bool := if p.1 = q.1 then decide (p.2 < q.2) else decide (p.1 < q.1)
def ltD (a b : PyData) : Bool := lexP (keyD a) (keyD b)
def isIntD : PyData → Bool
  | .int _ => true
  | _ => false
def isPrD : PyData → Bool
  | .tuple [.int _, .int _] => true
  | _ => false
def srtOk (ds : List PyData) : Bool := ds.all isIntD || ds.all isPrD
/-- tuples that are alike, one item at least -/
def isTupNe : PyData → Bool
  | .tuple (_ :: _) => true
  | _ => false
def isLstD : PyData → Bool
  | .list _ => true
  | _ => false
def nstOk (ds : List PyData) : Bool := ds.all (fun d => isTupNe d && (d.canLay0 && decide (d.depth ≤ 20))) && ds.all fun a => ds.all fun b => PySem.W.alike a b
def nsort (ds : List PyData) : List PyData := ds.mergeSort (PySem.W.dataLe false fun d => d)
def sortD (d : PyData) : Option (List PyData) := (itemsD d).bind fun ds => if srtOk ds then some (isort ltD ds) else if nstOk ds then some (nsort ds) else none
/-- the first of the least -/
def minN : PyData → Option PyData
  | .list (x :: xs) => if nstOk (x :: xs) then some (PySem.W.minD x xs) else none
  | _ => none
/-- tuples of whole numbers -/
def tupsI : List PyData → Option (List (List Int))
  | [] => some []
  | .tuple ds :: r => (intsD ds).bind fun k => (tupsI r).map (k :: ·)
  | _ => none
/-- each once -/
def ddp : List (List Int) → List (List Int)
  | [] => []
  | k :: r => if k ∈ r then ddp r else k :: ddp r
def lsetD : PyData → Option Nat
  | .list ds => (tupsI ds).bind fun ks => if ks.length < 64 then some (ddp ks).length else none
  | _ => none
/-- pairs from 0 to 63, each once, rising -/
def kcode : List Int → Int
  | [x, y] => x * 64 + y
  | _ => 0
def prB : List Int → Bool
  | [x, y] => decide (0 ≤ x) && decide (x < 64) && decide (0 ≤ y) && decide (y < 64)
  | _ => false
def ssetD : PyData → Option Val
  | .list ds => (tupsI ds).bind fun ks => if (decide (ks.length < 64) && ks.all prB) = true then some (.ol ((isort (fun a b => decide (kcode a < kcode b)) (ddp ks)).map fun k => .tuple (k.map .int))) else none
  | _ => none
/-- texts -/
def strsD : List PyData → Option (List Str)
  | [] => some []
  | .str i :: r => (strsD r).map (i :: ·)
  | _ => none
def splD (x : Str) : PyData → Option Val
  | .str y => if (y.length == 0) = false ∧ x.length + 2 ≤ sizeLine then some (.ol ((Txt.split x y).map .str)) else none
  | _ => none
def joinD (x : Str) (d : PyData) : Option Val := ((itemsD d).bind strsD).bind fun ys => if (ys.map (·.length)).sum + ys.length * x.length ≤ 16777216 then some (.fz (.str (Txt.join x ys))) else none
def bltD : Bn → List PyData → Option Val
  | .len, [d] => (lenD d).map fun (n : Nat) => .fz (.int (n : Int))
  | .min, [.int a, .int b] => some (.fz (.int (if b < a then b else a)))
  | .max, [.int a, .int b] => some (.fz (.int (if b > a then b else a)))
  | .min, [d] => match (itemsD d).bind intsD with
    | some ns => (minI ns).map fun i => .fz (.int i)
    | none => (minN d).map .fz
  | .max, [d] => ((itemsD d).bind intsD).bind fun ns => (maxI ns).map fun i => .fz (.int i)
  | .sum, [d] => ((itemsD d).bind intsD).map fun ns => .fz (.int ns.sum)
  | .all, [.list ds] => (boolsD ds).map fun bs => .fz (.bool (bs.all id))
  | .any, [.list ds] => (boolsD ds).map fun bs => .fz (.bool (bs.any id))
  | .tuple, [d] => (itemsD d).map fun ds => .fz (.tuple ds)
  | .list, [d] => (itemsD d).map fun ds => .ol ds
  | .sorted, [d] => (sortD d).map fun ds => .ol ds
  | .int, [.int i] => some (.fz (.int i))
  | .int, [.bool b] => some (.fz (.int (if b then 1 else 0)))
  | .int, [.str x] => if x.length ≤ 640 then (intText? x).map fun n => .fz (.int n) else none
  | .str, [.int i] => if i.natAbs.log2 < 1920 then some (.fz (.str (toString i))) else none
  | _, _ => none

/-! ### slots -/
def getS (r : EV) (i : Nat) : Option Val := (r[i]?).join
def isOl (r : EV) (i : Nat) : Bool := match getS r i with
  | some (.ol _) => true
  | _ => false
/-- an operand: a slot as it stands when the operation is done, or data -/
inductive Opd where
  | slot (i : Nat)
  | dat (d : PyData)
  | slotR (k i : Nat)
  | datR (k : Nat) (d : PyData)
/-- the store -/
def stoS (r : EV) (k : Nat) : Option (List Ob) := match getS r k with
  | some (.sto S) => some S
  | _ => none
def opd (r : EV) : Opd → Option PyData
  | .slot i => (getS r i).bind valD
  | .dat d => some d
  | .slotR k i => (stoS r k).bind fun S => ((getS r i).bind valD).map (resT S)
  | .datR k d => (stoS r k).map fun S => resT S d
def mkO (a : CE) (r : EV) (x : Out Val) : Out Opd := match a with
  | .var i => if ((getS r i).bind valD).isSome then .ok (.slot i) r else .bad
  | .res k (.var i) => if ((getS r i).bind valD).isSome then .ok (.slotR k i) r else .bad
  | .res k _ => x.bnd fun v r' => .ok (.datR k v.toD) r'
  | _ => x.bnd fun v r' => .ok (.dat v.toD) r'
/-- one operand -/
def op1 (a : CE) (r : EV) (x : Out Val) (f : PyData → EV → Out Val) : Out Val :=
  (mkO a r x).bnd fun o r1 => (Out.of (opd r1 o) r1).bnd f
/-- two operands, from the left -/
def op2 (a b : CE) (r : EV) (x : Out Val) (y : EV → Out Val) (f : PyData → PyData → EV → Out Val) : Out Val :=
  (mkO a r x).bnd fun o r1 => (mkO b r1 (y r1)).bnd fun o' r2 => (Out.of (opd r2 o) r2).bnd fun d _ => (Out.of (opd r2 o') r2).bnd fun d' _ => f d d' r2
/-- a method of a list: the list, then what is given -/
def opm (a b : CE) (r : EV) (x : Out Val) (y : EV → Out Val) (f : PyData → PyData → EV → Out Val) : Out Val :=
  (mkO a r x).bnd fun o r1 => (Out.of (opd r1 o) r1).bnd fun d0 _ => if isLstD d0 then (mkO b r1 (y r1)).bnd fun o' r2 => (Out.of (opd r2 o) r2).bnd fun d _ => (Out.of (opd r2 o') r2).bnd fun d' _ => f d d' r2 else .bad
/-- how often -/
def cntD : PyData → PyData → Option Val
  | .list ds, d => if SeqAt.shaped d && SeqAt.shaped (.list ds) then some (.fz (.int ((ds.countP fun z => PyData.eqv z d : Nat) : Int))) else none
  | _, _ => none
/-- where first -/
def fndD : PyData → PyData → Option Val
  | .list ds, d => if SeqAt.shaped d && SeqAt.shaped (.list ds) then (ds.findIdx? fun z => PyData.eqv z d).map fun (j : Nat) => .fz (.int (j : Int)) else none
  | _, _ => none
def varV (r : EV) (i : Nat) : Out Val := match getS r i with
  | some (.fz d) => .ok (.fz d) r
  | some (.ol ds) => .ok (.fz (.list ds)) (r.set i (some (.fz (.list ds))))
  | some (.sto _) => .bad
  | none => .bad
/-- the instance, the list, the dict that is meant -/
def obN (r : EV) (k : Nat) (d : PyData) : Option (Nat × List Ob × Ob) := (refN d).bind fun n => (stoS r k).bind fun S => (S[n]?).map fun o => (n, S, o)
/-- an attribute is put -/
def putA {κ : Type} [DecidableEq κ] (k : κ) (v : PyData) : List (κ × PyData) → List (κ × PyData)
  | [] => [(k, v)]
  | (g, x) :: r => if g = k then (g, v) :: r else (g, x) :: putA k v r
def valA {κ : Type} [DecidableEq κ] (kvs : List (κ × PyData)) (k : κ) : Option PyData := (kvs.find? fun p => decide (p.1 = k)).map (·.2)
/-- an item of a dict is put -/
def putB {κ : Type} [DecidableEq κ] (kvs : List (κ × PyData)) (k : κ) (v : PyData) : List (κ × PyData) :=
  if (kvs.any fun p => decide (p.1 = k)) = true then kvs.map (fun p => if p.1 = k then (p.1, v) else p) else kvs ++ [(k, v)]
def Ob.isD : Ob → Bool
  | .dK _ => true
  | .dT _ => true
  | .lkK _ => true
  | .lkT _ => true
  | _ => false
def tKey (ns : List Int) : List L2.Key := ns.map Sum.inl
/-- what a dict holds at a key -/
def dGet : Ob → PyData → Option (Option PyData)
  | .dK kvs, .int i => some (valA kvs (.inl i))
  | .dK kvs, .str x => some (valA kvs (.inr x))
  | .lkK kvs, .int i => some (valA kvs (.inl i))
  | .lkK kvs, .str x => some (valA kvs (.inr x))
  | .dT kvs, .tuple ds => (intsD ds).map fun ns => valA kvs (tKey ns)
  | .lkT kvs, .tuple ds => (intsD ds).map fun ns => valA kvs (tKey ns)
  | _, _ => none
def dPut : Ob → PyData → PyData → Option Ob
  | .dK kvs, .int i, v => if kvs.length < 1000000 then some (.dK (putB kvs (.inl i) v)) else none
  | .dK kvs, .str x, v => if kvs.length < 1000000 then some (.dK (putB kvs (.inr x) v)) else none
  | .dT kvs, .tuple ds, v => if kvs.length < 1000000 then (intsD ds).map fun ns => .dT (putB kvs (tKey ns) v) else none
  | _, _, _ => none
/-- the keys, all whole numbers -/
def kInts : List (L2.Key × PyData) → Option (List Int)
  | [] => some []
  | (.inl i, _) :: r => (kInts r).map (i :: ·)
  | _ => none
/-- whole numbers, rising -/
def sortI (ns : List Int) : List Int := ns.mergeSort fun a b => decide (a ≤ b)
def keyV : L2.Key → PyData
  | .inl i => .int i
  | .inr x => .str x
/-- the keys, and the dict while it is walked -/
def dKeys : Ob → Option (List PyData × Ob)
  | .dK kvs => some (kvs.map fun p => keyV p.1, .lkK kvs)
  | .dT kvs => some (kvs.map fun p => .tuple (p.1.map keyV), .lkT kvs)
  | _ => none
/-- what a def with store told -/
def rtS (k : Nat) (x : RtS) (r : EV) : Out Val := match x with
  | .ret d S => .ok (.fz d) (r.set k (some (.sto S)))
  | .exc c S => .exc c (r.set k (some (.sto S)))
  | .bad => .bad
def setT (tup : Bool) (is : List Nat) (d : PyData) (r : EV) : Option EV := match tup, is, d with
  | false, [i], d => some (r.set i (some (.fz d)))
  | true, is, .tuple ds => if ds.length = is.length then some ((is.zip ds).foldl (fun r p => r.set p.1 (some (.fz p.2))) r) else none
  | _, _, _ => none
def wip (r : EV) : List Nat → EV
  | [] => r
  | i :: is => (wip r is).set i none
def rst (r0 r : EV) : List Nat → EV
  | [] => r
  | i :: is => (rst r0 r is).set i (getS r0 i)
def lcLoop (tup : Bool) (tg hid : List Nat) (c : EV → Out Bool) (e : EV → Out Val) : List PyData → EV → List PyData → Out (List PyData)
  | [], r, acc => .ok acc r
  | d :: ds, r, acc => match setT tup tg d r with
    | none => .bad
    | some r1 => match c r1 with
      | .ok true r2 => match e r2 with
        | .ok v r3 => lcLoop tup tg hid c e ds (wip r3 tg) (acc ++ [v.toD])
        | _ => .bad
      | .ok false r2 => lcLoop tup tg hid c e ds (wip r2 tg) acc
      | _ => .bad
/-- the slot that is hidden while it is walked -/
def hidOf : CE → List Nat
  | .itr (.var i) => [i]
  | .itr (.res k _) => [k]
  | _ => []
def optI : List PyData → Option (Option Int)
  | [] => some none
  | [.int i] => some (some i)
  | _ => none
def smI (n : Int) : Bool := blI n 8388608
def rngD : List PyData → Option (List PyData)
  | [.int n] => if smI n then some ((List.range n.toNat).map fun (i : Nat) => .int i) else none
  | [.int a, .int n] => if smI a && smI n then some ((List.range (n - a).toNat).map fun (i : Nat) => .int (a + i)) else none
  | _ => none
def zipD : List PyData → Option (List PyData)
  | [.tuple a, .tuple b] => some ((a.zip b).map fun p => .tuple [p.1, p.2])
  | [.list a, .list b] => some ((a.zip b).map fun p => .tuple [p.1, p.2])
  | _ => none
def enmL (i : Nat) : List PyData → List PyData
  | [] => []
  | d :: ds => .tuple [.int i, d] :: enmL (i + 1) ds
def enmD : List PyData → Option (List PyData)
  | [.list a] => some (enmL 0 a)
  | [.tuple a] => some (enmL 0 a)
  | _ => none

/-! ### the evaluator -/
mutual
def ev (F : Fs) : CE → EV → Out Val
  | .var i, r => varV r i
  | .cst d, r => .ok (.fz d) r
  | .tup es, r => (evs F es r).bnd fun ds r1 => .ok (.fz (.tuple ds)) r1
  | .lst es, r => (evs F es r).bnd fun ds r1 => .ok (.ol ds) r1
  | .bin op a b, r => op2 a b r (ev F a r) (ev F b) fun d d' r1 => .of (binD op d d') r1
  | .neg a, r => op1 a r (ev F a r) fun d r1 => match d with
    | .int i => .ok (.fz (.int (-i))) r1
    | _ => .bad
  | .cmp op a b, r => op2 a b r (ev F a r) (ev F b) fun d d' r1 => .of ((cmpD op d d').map fun k => .fz (.bool k)) r1
  | .and a b, r => (ev F a r).bnd fun v r1 => (Out.of (truD v.toD) r1).bnd fun k _ => if k then ev F b r1 else .ok (.fz v.toD) r1
  | .or a b, r => (ev F a r).bnd fun v r1 => (Out.of (truD v.toD) r1).bnd fun k _ => if k then .ok (.fz v.toD) r1 else ev F b r1
  | .not a, r => op1 a r (ev F a r) fun d r1 => .of ((truD d).map fun k => .fz (.bool (!k))) r1
  | .ite c a b, r => (evT F c r).bnd fun k r1 => if k then ev F a r1 else ev F b r1
  | .idx a i, r => op2 a i r (ev F a r) (ev F i) fun d d' r1 => .of ((idxD d d').map .fz) r1
  | .slc a lo hi, r => (mkO a r (ev F a r)).bnd fun o r1 => ((evs F lo r1).bnd fun ds r' => .of (optI ds) r').bnd fun l r2 => ((evs F hi r2).bnd fun ds r' => .of (optI ds) r').bnd fun h r3 => (Out.of (opd r3 o) r3).bnd fun d _ => .of (slcD l h d) r3
  | .rev a, r => op1 a r (ev F a r) fun d r1 => .of (revD d) r1
  | .call f es, r => (evs F es r).bnd fun ds r1 => match F f ds with
    | .ret v => .ok v r1
    | .exc c => .exc c r1
    | .bad => .bad
  | .blt b es, r => (evO F es r).bnd fun os r1 => (Out.of (os.mapM (opd r1)) r1).bnd fun ds _ => .of (bltD b ds) r1
  | .isin a ts, r => op1 a r (ev F a r) fun d r1 => match d with
    | .dict _ => .bad
    | d => .ok (.fz (.bool (ts.any (tyD d)))) r1
  | .app i e, r => if !isOl r i then .bad else (ev F e r).bnd fun v r1 => match getS r1 i with
    | some (.ol ds) => if ds.length < sizeLine then .ok (.fz .none) (r1.set i (some (.ol (ds ++ [v.toD])))) else .bad
    | _ => .bad
  | .ext i e, r => if !isOl r i then .bad else (mkO e r (ev F e r)).bnd fun o r1 => match getS r1 i, opd r1 o with
    | some (.ol ds), some (.list es) => if ds.length + es.length ≤ sizeLine then .ok (.fz .none) (r1.set i (some (.ol (ds ++ es)))) else .bad
    | some (.ol ds), some (.tuple es) => if ds.length + es.length ≤ sizeLine then .ok (.fz .none) (r1.set i (some (.ol (ds ++ es)))) else .bad
    | _, _ => .bad
  | .popL i, r => match getS r i with
    | some (.ol ds) => match ds[ds.length - 1]? with
      | some d => .ok (.fz d) (r.set i (some (.ol ds.dropLast)))
      | none => .bad
    | _ => .bad
  | .popA i e, r => if !isOl r i then .bad else (ev F e r).bnd fun v r1 => match getS r1 i, v.toD with
    | some (.ol ds), .int k => match L2.ixN ds.length k with
      | some j => match ds[j]? with
        | some d => .ok (.fz d) (r1.set i (some (.ol (ds.eraseIdx j))))
        | none => .bad
      | none => .bad
    | _, _ => .bad
  | .lc tup tg it c e, r => (evI F it r).bnd fun ds r1 =>
      (lcLoop tup tg (tg ++ hidOf it) (evT F c) (ev F e) ds (wip r1 (tg ++ hidOf it)) []).bnd fun acc r2 => .ok (.ol acc) (rst r1 r2 (tg ++ hidOf it))
  | .chain op op' a b c, r => op2 a b r (ev F a r) (ev F b) fun d d' r1 => (Out.of (cmpD op d d') r1).bnd fun k _ =>
      if k then match d' with
        | .int j => op1 c r1 (ev F c r1) fun d'' r2 => .of ((cmpD op' (.int j) d'').map fun k => .fz (.bool k)) r2
        | _ => .bad
      else .ok (.fz (.bool false)) r1
  | .chain3 op op' op'' a b c d, r => op2 a b r (ev F a r) (ev F b) fun x y r1 => (Out.of (cmpD op x y) r1).bnd fun k _ =>
      if k then match y with
        | .int j => op1 c r1 (ev F c r1) fun z r2 => (Out.of (cmpD op' (.int j) z) r2).bnd fun k2 _ =>
          if k2 then match z with
            | .int i => op1 d r2 (ev F d r2) fun w r3 => .of ((cmpD op'' (.int i) w).map fun k => .fz (.bool k)) r3
            | _ => .bad
          else .ok (.fz (.bool false)) r2
        | _ => .bad
      else .ok (.fz (.bool false)) r1
  | .isx i o b, r => match getS r i with
    | some (.fz d) => if mkOk o d then .ok (.fz (.bool b)) r else .bad
    | _ => .bad
  | .split a b, r => op1 a r (ev F a r) fun d r1 => match d with
    | .str x => op1 b r1 (ev F b r1) fun d' r2 => .of (splD x d') r2
    | _ => .bad
  | .join a b, r => op1 a r (ev F a r) fun d r1 => match d with
    | .str x => op1 b r1 (ev F b r1) fun d' r2 => .of (joinD x d') r2
    | _ => .bad
  | .res _ e, r => ev F e r
  | .prm k e, r => (ev F e r).bnd fun v r1 => match v with
    | .fz d => .ok (.fz d) r1
    | .ol ds => match stoS r1 k with
      | some S => .ok (.fz (refD S.length)) (r1.set k (some (.sto (S ++ [.lst ds]))))
      | none => .bad
    | .sto _ => .bad
  | .calR f es, r => (evO F es r).bnd fun os r1 => (Out.of (os.mapM (opd r1)) r1).bnd fun ds _ => if ds.all (rfLt 0) then match F f ds with
      | .ret v => if lfD v.toD then .ok (.fz v.toD) r1 else .bad
      | .exc c => .exc c r1
      | .bad => .bad
    else .bad
  | .calS k f es, r => (evs F es r).bnd fun ds r1 => match stoS r1 k with
    | some S => rtS k (F.s f ds S) r1
    | none => .bad
  | .mcl k m ms o es, r => (ev F o r).bnd fun v r1 => match obN r1 k v.toD with
    | some (n, _, .ins c fs) => match ms.lookup c, valA fs m with
      | some f, none => (evs F es r1).bnd fun ds r2 => match stoS r2 k with
        | some S => rtS k (F.s f (refD n :: ds) S) r2
        | none => .bad
      | _, _ => .bad
    | _ => .bad
  | .mk k c f es, r => (evs F es r).bnd fun ds r1 => match stoS r1 k with
    | some S => match F.s f (refD S.length :: ds) (S ++ [.ins c []]) with
      | .ret .none S' => if S.length < S'.length then .ok (.fz (refD S.length)) (r1.set k (some (.sto S'))) else .bad
      | .ret _ _ => .bad
      | .exc c S' => .exc c (r1.set k (some (.sto S')))
      | .bad => .bad
    | none => .bad
  | .fld k cs o x, r => (ev F o r).bnd fun v r1 => match obN r1 k v.toD with
    | some (_, _, .ins c fs) => if cs.contains c then .of ((valA fs x).map .fz) r1 else .bad
    | _ => .bad
  | .dgi k o a, r => (ev F o r).bnd fun v r1 => (ev F a r1).bnd fun w r2 => match obN r2 k v.toD with
    | some (_, _, ob) => match dGet ob w.toD with
      | some (some d) => .ok (.fz d) r2
      | _ => .bad
    | none => .bad
  | .dgt k o a b, r => (ev F o r).bnd fun v r1 => match obN r1 k v.toD with
    | some (_, _, ob) => if ob.isD then (ev F a r1).bnd fun w r2 => (ev F b r2).bnd fun u r3 => match obN r3 k v.toD with
        | some (_, _, ob) => match dGet ob w.toD with
          | some x => .ok (.fz (x.getD u.toD)) r3
          | none => .bad
        | none => .bad
      else .bad
    | none => .bad
  | .dnw k t, r => match stoS r k with
    | some S => .ok (.fz (refD S.length)) (r.set k (some (.sto (S ++ [if t = 0 then .dK [] else .dT []]))))
    | none => .bad
  | .dds k a b, r => (ev F a r).bnd fun v r1 => (ev F b r1).bnd fun w r2 => match stoS r2 k with
    | some S => match dPut (.dT []) v.toD w.toD with
      | some ob => .ok (.fz (refD S.length)) (r2.set k (some (.sto (S ++ [ob]))))
      | none => .bad
    | none => .bad
  | .dst k o, r => (ev F o r).bnd fun v r1 => match obN r1 k v.toD with
    | some (_, _, .dK kvs) => match kInts kvs with
      | some ns => if ns.length < 64 then .ok (.ol ((sortI ns).map .int)) r1 else .bad
      | none => .bad
    | _ => .bad
  | .calE f es, r => (evs F es r).bnd fun ds r1 => if ds.all (rfLt 0) then match F.s f ds [] with
      | .ret d [] => .ok (.fz d) r1
      | .exc c [] => .exc c r1
      | _ => .bad
    else .bad
  | .dsp k xs es, r => (evs F es r).bnd fun ds r1 => match stoS r1 k with
    | some S => if ds.length = xs.length ∧ xs.Nodup then .ok (.fz (refD S.length)) (r1.set k (some (.sto (S ++ [.dK ((xs.map Sum.inr).zip ds)])))) else .bad
    | none => .bad
  | .sap k o e, r => (ev F o r).bnd fun v r1 => match obN r1 k v.toD with
    | some (n, _, .lst _) => (ev F e r1).bnd fun w r2 => match obN r2 k v.toD with
      | some (_, S, .lst ds) => if ds.length < 1000000 then .ok (.fz .none) (r2.set k (some (.sto (S.set n (.lst (ds ++ [w.toD])))))) else .bad
      | _ => .bad
    | _ => .bad
  | .spl k o, r => (ev F o r).bnd fun v r1 => match obN r1 k v.toD with
    | some (n, S, .lst ds) => match ds[ds.length - 1]? with
      | some d => .ok (.fz d) (r1.set k (some (.sto (S.set n (.lst ds.dropLast)))))
      | none => .bad
    | _ => .bad
  | .spa k o e, r => (ev F o r).bnd fun v r1 => match obN r1 k v.toD with
    | some (n, _, .lst _) => (ev F e r1).bnd fun w r2 => match obN r2 k v.toD, w.toD with
      | some (_, S, .lst ds), .int i => match L2.ixN ds.length i with
        | some j => match ds[j]? with
          | some d => .ok (.fz d) (r2.set k (some (.sto (S.set n (.lst (ds.eraseIdx j))))))
          | none => .bad
        | none => .bad
      | _, _ => .bad
    | _ => .bad
  | .srm k o e, r => (ev F o r).bnd fun v r1 => match obN r1 k v.toD with
    | some (n, _, .lst _) => (ev F e r1).bnd fun w r2 => match obN r2 k v.toD with
      | some (_, S, .lst ds) => if SeqAt.shaped w.toD && SeqAt.shaped (.list ds) then match ds.findIdx? fun z => PyData.eqv z w.toD with
          | some j => .ok (.fz .none) (r2.set k (some (.sto (S.set n (.lst (ds.eraseIdx j))))))
          | none => .bad
        else .bad
      | _ => .bad
    | _ => .bad
  | .inn k o, r => (ev F o r).bnd fun v r1 => match obN r1 k v.toD with
    | some (_, S, .lst ds) => if ds.all (fun d => match resT S d with
        | .list es => SeqAt.shaped (.list es) && decide (PyData.depth (.list es) ≤ 60)
        | _ => false) then .ok (.fz (.bool (ds.any fun d => match resT S d with
        | .list es => es.isEmpty
        | _ => false))) r1 else .bad
    | _ => .bad
  | .cnt a b, r => opm a b r (ev F a r) (ev F b) fun d d' r1 => .of (cntD d d') r1
  | .fnd a b, r => opm a b r (ev F a r) (ev F b) fun d d' r1 => .of (fndD d d') r1
  | .sset a, r => op1 a r (ev F a r) fun d r1 => .of (ssetD d) r1
  | .lset a, r => op1 a r (ev F a r) fun d r1 => .of ((lsetD d).map fun (n : Nat) => .fz (.int (n : Int))) r1
  | _, _ => .bad
def evs (F : Fs) : CE → EV → Out (List PyData)
  | .nil, r => .ok [] r
  | .cons e es, r => (ev F e r).bnd fun v r1 => (evs F es r1).bnd fun ds r2 => .ok (v.toD :: ds) r2
  | _, _ => .bad
def evO (F : Fs) : CE → EV → Out (List Opd)
  | .nil, r => .ok [] r
  | .cons e es, r => (mkO e r (ev F e r)).bnd fun o r1 => (evO F es r1).bnd fun os r2 => .ok (o :: os) r2
  | _, _ => .bad
def evT (F : Fs) : CE → EV → Out Bool
  | .tand a b, r => (evT F a r).bnd fun k r1 => if k then evT F b r1 else .ok false r1
  | .tor a b, r => (evT F a r).bnd fun k r1 => if k then .ok true r1 else evT F b r1
  | .tnot a, r => (evT F a r).bnd fun k r1 => .ok (!k) r1
  | .tval a, r => (mkO a r (ev F a r)).bnd fun o r1 => (Out.of (opd r1 o) r1).bnd fun d _ => .of (truD d) r1
  | _, _ => .bad
def evI (F : Fs) : CE → EV → Out (List PyData)
  | .itr a, r => (mkO a r (ev F a r)).bnd fun o r1 => (Out.of (opd r1 o) r1).bnd fun d _ => .of (itemsD d) r1
  | .rng es, r => (evs F es r).bnd fun ds r1 => .of (rngD ds) r1
  | .zip es, r => (evs F es r).bnd fun ds r1 => .of (zipD ds) r1
  | .enm es, r => (evs F es r).bnd fun ds r1 => .of (enmD ds) r1
  | .rvs a, r => (ev F a r).bnd fun v r1 => (Out.of (itemsD v.toD) r1).bnd fun ds _ => .ok ds.reverse r1
  | _, _ => .bad
end

/-! ### statements -/
inductive CS where
  | bad | nil | pass | brk | cont
  | seq (a b : CS)
  | set (i : Nat) (e : CE)
  | unp (is : List Nat) (e : CE)
  | par (i j : Nat) (a b : CE)
  | put (i : Nat) (k v : CE)
  | expr (e : CE)
  | ret (e : CE)
  | retN
  | ite (c : CE) (a b : CS)
  | forS (tup : Bool) (tg : List Nat) (it : CE) (body : CS)
  | whl (c : CE) (body : CS)
  | raise (c : Nat)
  | tryE (b : CS) (i : Option Nat) (s0 s1 s2 s3 s4 : CS)
  | fset (k : Nat) (cs : List Str) (o : CE) (x : Str) (e : CE)
  | dpt (k : Nat) (o a e : CE)
  | forK (k j i : Nat) (body : CS)
  | sput (k : Nat) (o i e : CE)
  | funp (k : Nat) (o : CE) (xs : List Str) (e : CE)
  | sfn (b : CS)
inductive Flow where
  | nx | bk | ct
  | rt (v : Val)
def forLoop (tup : Bool) (tg : List Nat) (body : EV → Out Flow) : List PyData → EV → Out Flow
  | [], r => .ok .nx r
  | d :: ds, r => match setT tup tg d r with
    | none => .bad
    | some r1 => match body r1 with
      | .ok .nx r2 => forLoop tup tg body ds r2
      | .ok .ct r2 => forLoop tup tg body ds r2
      | .ok .bk r2 => .ok .nx r2
      | x => x
def whlLoop (c : EV → Out Bool) (body : EV → Out Flow) : Nat → EV → Out Flow
  | 0, _ => .bad
  | n + 1, r => match c r with
    | .ok true r1 => match body r1 with
      | .ok .nx r2 => whlLoop c body n r2
      | .ok .ct r2 => whlLoop c body n r2
      | .ok .bk r2 => .ok .nx r2
      | x => x
    | .ok false r1 => .ok .nx r1
    | .exc k r1 => .exc k r1
    | .bad => .bad
/-- what is walked by a for: a slot's list is not changed from then on -/
def frzI (it : CE) (r : EV) : EV := match it with
  | .itr (.var i) => match getS r i with
    | some (.ol ds) => r.set i (some (.fz (.list ds)))
    | _ => r
  | _ => r
def retV (F : Fs) (e : CE) (r : EV) : Out Flow := match e with
  | .var i => match getS r i with
    | some (.sto _) => .bad
    | some v => .ok (.rt v) (r.set i none)
    | none => .bad
  | e => (ev F e r).bnd fun v r1 => .ok (.rt v) r1
/-- the caught thing's own name -/
def hold : Option Nat → EV → EV
  | some i, r => r.set i (some (.fz (mkX 0)))
  | none, r => r
/-- its name goes at the end -/
def clr : Option Nat → EV → EV
  | some i, r => r.set i none
  | none, r => r
/-- a suite lets nothing out -/
def noX (i : Option Nat) (r1 : EV) : Out Flow → Out Flow
  | .exc _ _ => .bad
  | .ok f r => if i.all (fun j => decide (j < r1.length)) then .ok f (clr i r) else .bad
  | .bad => .bad
/-- a dict is not walked any more -/
def unlk (k n : Nat) (ob : Ob) : Out Flow → Out Flow
  | .ok f r => match stoS r k with
    | some S => .ok f (r.set k (some (.sto (S.set n ob))))
    | none => .bad
  | _ => .bad
def exec (F : Fs) : CS → EV → Out Flow
  | .nil, r => .ok .nx r
  | .pass, r => .ok .nx r
  | .brk, r => .ok .bk r
  | .cont, r => .ok .ct r
  | .seq a b, r => match exec F a r with
    | .ok .nx r1 => exec F b r1
    | x => x
  | .set i e, r => (ev F e r).bnd fun v r1 => .ok .nx (r1.set i (some v))
  | .unp is e, r => (ev F e r).bnd fun v r1 => match setT true is v.toD r1 with
    | some r2 => .ok .nx r2
    | none => .bad
  | .par i j a b, r => (ev F a r).bnd fun v r1 => (ev F b r1).bnd fun v' r2 => .ok .nx ((r2.set i (some (.fz v.toD))).set j (some (.fz v'.toD)))
  | .put i k v, r => (ev F v r).bnd fun x r1 => if !isOl r1 i then .bad else (ev F k r1).bnd fun y r2 => match getS r2 i, y.toD with
    | some (.ol ds), .int n => match L2.ixN ds.length n with
      | some j => .ok .nx (r2.set i (some (.ol (ds.set j x.toD))))
      | none => .bad
    | _, _ => .bad
  | .expr e, r => (ev F e r).bnd fun _ r1 => .ok .nx r1
  | .ret e, r => retV F e r
  | .retN, r => .ok (.rt (.fz .none)) r
  | .ite c a b, r => (evT F c r).bnd fun k r1 => if k then exec F a r1 else exec F b r1
  | .forS tup tg it body, r => (evI F it r).bnd fun ds r1 => forLoop tup tg (exec F body) ds (frzI it r1)
  | .whl c body, r => whlLoop (evT F c) (exec F body) 1000 r
  | .raise c, r => .exc c r
  | .tryE b i s0 s1 s2 s3 s4, r => match exec F b r with
    | .exc 0 r1 => noX i r1 (exec F s0 (hold i r1))
    | .exc 1 r1 => noX i r1 (exec F s1 (hold i r1))
    | .exc 2 r1 => noX i r1 (exec F s2 (hold i r1))
    | .exc 3 r1 => noX i r1 (exec F s3 (hold i r1))
    | .exc 4 r1 => noX i r1 (exec F s4 (hold i r1))
    | .exc _ _ => .bad
    | x => x
  | .fset k cs o x e, r => (ev F e r).bnd fun v r1 => (ev F o r1).bnd fun w r2 => match obN r2 k w.toD with
    | some (n, S, .ins c fs) => if cs.contains c ∧ fs.length < 999 then .ok .nx (r2.set k (some (.sto (S.set n (.ins c (putA x v.toD fs)))))) else .bad
    | _ => .bad
  | .dpt k o a e, r => (ev F e r).bnd fun v r1 => (ev F o r1).bnd fun w r2 => (ev F a r2).bnd fun y r3 => match obN r3 k w.toD with
    | some (n, S, ob) => match dPut ob y.toD v.toD with
      | some ob' => .ok .nx (r3.set k (some (.sto (S.set n ob'))))
      | none => .bad
    | none => .bad
  | .forK k j i body, r => match getS r j with
    | some (.fz d) => match obN r k d with
      | some (n, S, ob) => match dKeys ob with
        | some (ks, lk) => unlk k n ob (forLoop false [i] (exec F body) ks (r.set k (some (.sto (S.set n lk)))))
        | none => .bad
      | none => .bad
    | _ => .bad
  | .sput k o i e, r => (ev F e r).bnd fun v r1 => (ev F o r1).bnd fun w r2 => match obN r2 k w.toD with
    | some (n, _, .lst _) => (ev F i r2).bnd fun y r3 => match obN r3 k w.toD, y.toD with
      | some (_, S, .lst ds), .int m => match L2.ixN ds.length m with
        | some j => .ok .nx (r3.set k (some (.sto (S.set n (.lst (ds.set j v.toD))))))
        | none => .bad
      | _, _ => .bad
    | _ => .bad
  | .funp _ _ _ _, _ => .bad
  | .sfn _, _ => .bad
  | .bad, _ => .bad

structure FD where
  np : Nat
  ns : Nat
  body : CS
def ini (fd : FD) (ds : List PyData) : EV := ds.map (fun d => some (.fz d)) ++ List.replicate (fd.ns - ds.length) none
def fin : Out Flow → Rt
  | .ok (.rt v) _ => .ret v
  | .ok .nx _ => .ret (.fz .none)
  | .exc c _ => .exc c
  | _ => .bad
/-- a def with store ends -/
def finS (k n : Nat) : Out Flow → RtS
  | .ok (.rt v) r => match stoS r k with
    | some S => .ret v.toD (gcS n v.toD S)
    | none => .bad
  | .ok .nx r => match stoS r k with
    | some S => .ret .none (gcS n .none S)
    | none => .bad
  | .exc c r => match stoS r k with
    | some S => .exc c (gcS n .none S)
    | none => .bad
  | _ => .bad
def run (T : List FD) : Nat → Fs
  | 0 => ⟨fun _ _ => .bad, fun _ _ _ => .bad⟩
  | n + 1 => ⟨fun f ds => match T[f]? with
      | some fd => if ds.length = fd.np then fin (exec (run T n) fd.body (ini fd ds)) else .bad
      | none => .bad, fun f ds S => match T[f]? with
      | some fd => match fd.body with
        | .sfn b => if ds.length = fd.np ∧ fd.np < fd.ns then finS (fd.ns - 1) S.length (exec (run T n) b ((ini fd ds).set (fd.ns - 1) (some (.sto S)))) else .bad
        | _ => .bad
      | none => .bad⟩
end SC

set_option Elab.async false
set_option maxRecDepth 100000
namespace SC
open PySem L2

/-- the mark of the n-th thing of the store, in the frozen part -/
def tg (n : Nat) : HO := .rng (n : Int) (-7)
def isTg : HO → Bool
  | .rng i j => decide (0 ≤ i) && decide (j = -7)
  | _ => false
theorem isTg_eq {o : HO} (h : isTg o = true) : ∃ n, o = tg n := by
  unfold isTg at h
  split at h
  · rename_i i j
    simp only [Bool.and_eq_true, decide_eq_true_eq] at h
    exact ⟨i.toNat, by unfold tg; rw [h.2, Int.toNat_of_nonneg h.1]⟩
  · cases h
theorem tg_is (n : Nat) : isTg (tg n) = true := by simp [isTg, tg]
theorem tg_inj {n m : Nat} (h : tg n = tg m) : n = m := by
  injection h with h
  omega
mutual
inductive Rp (K : PySem.W.Frag) (G : Hp) : V → PyData → Prop
  | non : Rp K G .non .none
  | bl (b : Bool) : Rp K G (.bl b) (.bool b)
  | int (i : Int) : Rp K G (.int i) (.int i)
  | str (x : Str) : Rp K G (.str x) (.str x)
  | lst {a : Addr} {xs : List V} {ds : List PyData} : G a = some (.lst xs) → Rps K G xs ds → Rp K G (.ref a) (.list ds)
  | tup {a : Addr} {xs : List V} {ds : List PyData} : G a = some (.tup xs) → Rps K G xs ds → Rp K G (.ref a) (.tuple ds)
  | exc (a : Addr) : Rp K G (.ref a) (mkX a)
  | scr {a : Addr} {ns : List Int} : SqL K G a (ns.map V.int) → Rp K G (.ref a) (.dict [(.none, .list (ns.map PyData.int))])
  | obj {a : Addr} {n : Nat} : G a = some (tg n) → Rp K G (.ref a) (refD n)
inductive Rps (K : PySem.W.Frag) (G : Hp) : List V → List PyData → Prop
  | nil : Rps K G [] []
  | cons {v : V} {vs : List V} {d : PyData} {ds : List PyData} : Rp K G v d → Rps K G vs ds → Rps K G (v :: vs) (d :: ds)
end
section
variable {K : PySem.W.Frag} {G G' H H' : Hp}
mutual
theorem Rp.mono (e : Same G G') : ∀ {v : V} {d : PyData}, Rp K G v d → Rp K G' v d
  | _, _, .non => .non
  | _, _, .bl b => .bl b
  | _, _, .int i => .int i
  | _, _, .str x => .str x
  | _, _, .lst h r => .lst (e _ _ h) (Rps.mono e r)
  | _, _, .tup h r => .tup (e _ _ h) (Rps.mono e r)
  | _, _, .exc a => .exc a
  | _, _, .scr h => .scr (e.seq h)
  | _, _, .obj h => .obj (e _ _ h)
theorem Rps.mono (e : Same G G') : ∀ {vs : List V} {ds : List PyData}, Rps K G vs ds → Rps K G' vs ds
  | _, _, .nil => .nil
  | _, _, .cons h r => .cons (Rp.mono e h) (Rps.mono e r)
end
theorem Rps.length : ∀ {vs : List V} {ds : List PyData}, Rps K G vs ds → vs.length = ds.length
  | _, _, .nil => rfl
  | _, _, .cons _ r => by rw [List.length_cons, List.length_cons, Rps.length r]
theorem Rps.get : ∀ {vs : List V} {ds : List PyData} {i : Nat} {d : PyData}, Rps K G vs ds → ds[i]? = some d → ∃ v, vs[i]? = some v ∧ Rp K G v d
  | _, _, _, _, .nil, e => by simp at e
  | _, _, 0, _, .cons h _, e => by simp at e; subst e; exact ⟨_, rfl, h⟩
  | _, _, i + 1, d, .cons _ r, e => by
    obtain ⟨v, h1, h2⟩ := Rps.get (i := i) (d := d) r (by simpa using e)
    exact ⟨v, by simpa using h1, h2⟩
theorem Rps.getV : ∀ {vs : List V} {ds : List PyData} {i : Nat} {v : V}, Rps K G vs ds → vs[i]? = some v → ∃ d, ds[i]? = some d ∧ Rp K G v d
  | _, _, _, _, .nil, e => by simp at e
  | _, _, 0, _, .cons h _, e => by simp at e; subst e; exact ⟨_, rfl, h⟩
  | _, _, i + 1, d, .cons _ r, e => by
    obtain ⟨v, h1, h2⟩ := Rps.getV (i := i) (v := d) r (by simpa using e)
    exact ⟨v, by simpa using h1, h2⟩
theorem Rps.append : ∀ {vs ws : List V} {ds es : List PyData}, Rps K G vs ds → Rps K G ws es → Rps K G (vs ++ ws) (ds ++ es)
  | _, _, _, _, .nil, s => s
  | _, _, _, _, .cons h r, s => .cons h (Rps.append r s)
theorem Rps.take : ∀ {vs : List V} {ds : List PyData} (n : Nat), Rps K G vs ds → Rps K G (vs.take n) (ds.take n)
  | _, _, 0, _ => .nil
  | _, _, _ + 1, .nil => .nil
  | _, _, n + 1, .cons h r => .cons h (Rps.take n r)
theorem Rps.drop : ∀ {vs : List V} {ds : List PyData} (n : Nat), Rps K G vs ds → Rps K G (vs.drop n) (ds.drop n)
  | _, _, 0, r => r
  | _, _, _ + 1, .nil => .nil
  | _, _, n + 1, .cons _ r => Rps.drop n r
theorem Rps.reverse : ∀ {vs : List V} {ds : List PyData}, Rps K G vs ds → Rps K G vs.reverse ds.reverse
  | _, _, .nil => .nil
  | _, _, .cons h r => by
    rw [List.reverse_cons, List.reverse_cons]
    exact Rps.append (Rps.reverse r) (.cons h .nil)
theorem Rps.rep {vs : List V} {ds : List PyData} (h : Rps K G vs ds) : ∀ k : Nat, Rps K G (List.replicate k vs).flatten (List.replicate k ds).flatten
  | 0 => .nil
  | k + 1 => by
    rw [List.replicate_succ, List.replicate_succ, List.flatten_cons, List.flatten_cons]
    exact h.append (Rps.rep h k)
theorem Rps.dropLast : ∀ {vs : List V} {ds : List PyData}, Rps K G vs ds → Rps K G vs.dropLast ds.dropLast
  | _, _, .nil => .nil
  | _, _, .cons _ .nil => .nil
  | _, _, .cons h (.cons h2 r) => .cons h (Rps.dropLast (.cons h2 r))
theorem Rps.eraseIdx : ∀ {vs : List V} {ds : List PyData} (i : Nat), Rps K G vs ds → Rps K G (vs.eraseIdx i) (ds.eraseIdx i)
  | _, _, _, .nil => .nil
  | _, _, 0, .cons _ r => r
  | _, _, i + 1, .cons h r => .cons h (Rps.eraseIdx i r)
theorem Rps.set {v : V} {d : PyData} (h : Rp K G v d) : ∀ {vs : List V} {ds : List PyData} (i : Nat), Rps K G vs ds → Rps K G (vs.set i v) (ds.set i d)
  | _, _, _, .nil => .nil
  | _, _, 0, .cons _ r => .cons h r
  | _, _, i + 1, .cons h' r => .cons h' (Rps.set h i r)
theorem Rps.ints : ∀ {vs : List V} {ds : List PyData} {ns : List Int}, Rps K G vs ds → intsD ds = some ns → vs = ns.map V.int
  | _, _, ns, .nil, e => by simp [intsD] at e; subst e; rfl
  | _, _, ns, .cons (d := d) h r, e => by
    cases h with
    | int i =>
      simp only [intsD, Option.map_eq_some_iff] at e
      obtain ⟨ms, e1, e2⟩ := e
      subst e2
      rw [Rps.ints r e1]; rfl
    | _ => simp [intsD, mkX, refD] at e
theorem Rps.bools : ∀ {vs : List V} {ds : List PyData} {ns : List Bool}, Rps K G vs ds → boolsD ds = some ns → vs = ns.map V.bl
  | _, _, ns, .nil, e => by simp [boolsD] at e; subst e; rfl
  | _, _, ns, .cons (d := d) h r, e => by
    cases h with
    | bl i =>
      simp only [boolsD, Option.map_eq_some_iff] at e
      obtain ⟨ms, e1, e2⟩ := e
      subst e2
      rw [Rps.bools r e1]; rfl
    | _ => simp [boolsD, mkX, refD] at e
mutual
theorem Rp.dp : ∀ {v : V} {d : PyData}, Rp K G v d → d.canLay0 = true → Dp K G v d
  | _, _, .non, _ => .non
  | _, _, .bl b, _ => .bl b
  | _, _, .int i, _ => .int i
  | _, _, .str x, _ => .str x
  | _, _, .lst h r, c => .lst (.inl (.inl h)) (Rps.dp r c)
  | _, _, .tup h r, c => .tup (.inl (.inl h)) (Rps.dp r c)
  | _, _, .exc a, c => by simp [mkX, PyData.canLay0] at c
  | _, _, .scr h, c => by simp [PyData.canLay0] at c
  | _, _, .obj h, c => by simp [refD, PyData.canLay0] at c
theorem Rps.dp : ∀ {vs : List V} {ds : List PyData}, Rps K G vs ds → PyData.canLayAll0 ds = true → DpAll K G vs ds
  | _, _, .nil, _ => .nil
  | _, _, .cons h r, c => by
    have c' := Bool.and_eq_true_iff.mp (show (PyData.canLay0 _ && PyData.canLayAll0 _) = true from c)
    exact .cons (Rp.dp h c'.1) (Rps.dp r c'.2)
end
/-- the frozen part stands in the heap, but for the marks -/
def Sub (G H : Hp) : Prop := ∀ a o, G a = some o → isTg o = false → H a = some o
theorem Sub.refl (G : Hp) : Sub G G := fun _ _ h _ => h
theorem Sub.of (e : Same G H) : Sub G H := fun a o h _ => e a o h
theorem Sub.seq (e : Sub G H) {a : Addr} {xs : List V} (h : SqL K G a xs) : SqL K H a xs := by
  rcases h with (h | ⟨o, h⟩) | h
  · exact .inl (.inl (e _ _ h rfl))
  · exact .inl (.inr ⟨o, e _ _ h rfl⟩)
  · exact .inr h
mutual
theorem Rp.toH (e : Sub G H) : ∀ {v : V} {d : PyData}, Rp K G v d → d.canLay0 = true → Rp K H v d
  | _, _, .non, _ => .non
  | _, _, .bl b, _ => .bl b
  | _, _, .int i, _ => .int i
  | _, _, .str x, _ => .str x
  | _, _, .lst h r, c => .lst (e _ _ h rfl) (Rps.toH e r c)
  | _, _, .tup h r, c => .tup (e _ _ h rfl) (Rps.toH e r c)
  | _, _, .exc a, _ => .exc a
  | _, _, .scr h, _ => .scr (e.seq h)
  | _, _, .obj h, c => by simp [refD, PyData.canLay0] at c
theorem Rps.toH (e : Sub G H) : ∀ {vs : List V} {ds : List PyData}, Rps K G vs ds → PyData.canLayAll0 ds = true → Rps K H vs ds
  | _, _, .nil, _ => .nil
  | _, _, .cons h r, c => by
    have c' := Bool.and_eq_true_iff.mp (show (PyData.canLay0 _ && PyData.canLayAll0 _) = true from c)
    exact .cons (Rp.toH e h c'.1) (Rps.toH e r c'.2)
end
end
theorem refN_refD (n : Nat) : refN (refD n) = some n := by
  show (if (0 : Int) ≤ (n : Int) then some (n : Int).toNat else none) = _
  rw [if_pos (by omega)]
  simp
theorem refN_eq {d : PyData} {n : Nat} (h : refN d = some n) : d = refD n := by
  unfold refN at h
  split at h
  · split at h
    · rename_i i c
      cases h
      unfold refD
      rw [Int.toNat_of_nonneg c]
    · cases h
  · cases h

/-- all lists and tuples are within the line; no marks -/
structure Sz (H : Hp) : Prop where
  le : ∀ a xs, (H a = some (.lst xs) ∨ H a = some (.tup xs)) → xs.length ≤ sizeLine
  nt : ∀ a o, H a = some o → isTg o = false
theorem Sz.put {H : Hp} (h : Sz H) {p : Addr} {o : HO} (ht : isTg o = false) (z : ∀ xs, o = .lst xs ∨ o = .tup xs → xs.length ≤ sizeLine) : Sz (upd H p o) := ⟨fun a ys q => by
  by_cases e : a = p
  · subst e
    rw [upd_same] at q
    exact z ys (q.imp (fun q => Option.some.inj q) fun q => Option.some.inj q)
  · rw [upd_ne e] at q; exact h.le a ys q, fun a u q => by
  by_cases e : a = p
  · subst e
    rw [upd_same] at q
    cases q
    exact ht
  · rw [upd_ne e] at q; exact h.nt a u q⟩
theorem Sz.newL {H : Hp} (h : Sz H) {p : Addr} {xs : List V} (z : xs.length ≤ sizeLine) : Sz (upd H p (.lst xs)) := h.put rfl fun ys q => by
  rcases q with q | q
  · cases q; exact z
  · cases q
theorem Sz.newT {H : Hp} (h : Sz H) {p : Addr} {xs : List V} (z : xs.length ≤ sizeLine) : Sz (upd H p (.tup xs)) := h.put rfl fun ys q => by
  rcases q with q | q
  · cases q
  · cases q; exact z

/-! ### the store -/
inductive RKV {κ : Type} (K : PySem.W.Frag) (G : Hp) : List (κ × V) → List (κ × PyData) → Prop
  | nil : RKV K G [] []
  | cons {x : κ} {v : V} {d : PyData} {vs : List (κ × V)} {ds : List (κ × PyData)} : Rp K G v d → RKV K G vs ds → RKV K G ((x, v) :: vs) ((x, d) :: ds)
theorem RKV.mono {κ : Type} {K : PySem.W.Frag} {G G' : Hp} (e : Same G G') : ∀ {vs : List (κ × V)} {ds : List (κ × PyData)}, RKV K G vs ds → RKV K G' vs ds
  | _, _, .nil => .nil
  | _, _, .cons h r => .cons (Rp.mono e h) (RKV.mono e r)
/-- a thing of the store as it stands at a -/
def ObR (K : PySem.W.Frag) (G H : Hp) (a : Addr) : Ob → Prop
  | .lst ds => ∃ vs, H a = some (.lst vs) ∧ Rps K G vs ds
  | .ins c fs => ∃ C dx vs, PySem.W.nsIn K mainGlobals c = some (some (.ref C)) ∧ H a = some (.ins C dx vs) ∧ H dx = some (.own a) ∧ G dx = none ∧ RKV K G vs fs
  | .dK kvs => ∃ vs, H a = some (.dK vs) ∧ RKV K G vs kvs
  | .dT kvs => ∃ vs, H a = some (.dT vs) ∧ RKV K G vs kvs
  | .lkL ds => ∃ vs, H a = some (.lst vs) ∧ Rps K G vs ds
  | .lkK kvs => ∃ o vs, H a = some (.frz o (.dK vs)) ∧ RKV K G vs kvs
  | .lkT kvs => ∃ o vs, H a = some (.frz o (.dT vs)) ∧ RKV K G vs kvs
structure StoR (K : PySem.W.Frag) (G H : Hp) (S : List Ob) : Prop where
  ob : ∀ n o, S[n]? = some o → ∃ a, G a = some (tg n) ∧ ObR K G H a o
  lt : ∀ a n, G a = some (tg n) → n < S.length
  one : ∀ a b n, G a = some (tg n) → G b = some (tg n) → a = b

def VR (K : PySem.W.Frag) (G H : Hp) (v : V) : Val → Prop
  | .fz d => Rp K G v d
  | .ol ds => ∃ a vs, v = .ref a ∧ G a = none ∧ H a = some (.lst vs) ∧ Rps K G vs ds
  | .sto _ => False
/-- the lists that the slots own -/
def Own (σ : L2.St) (r : EV) (a : Addr) : Prop := ∃ (i : Nat) (ds : List PyData), r[i]? = some (some (.ol ds)) ∧ σ[i]? = some (some (.ref a))
/-- what the store owns, as far as it is not locked -/
def OwnS (G H : Hp) (r : EV) (a : Addr) : Prop := ∃ (i : Nat) (S : List Ob) (n : Nat) (o : Ob), r[i]? = some (some (.sto S)) ∧ S[n]? = some o ∧ o.free = true ∧ (G a = some (tg n) ∨ ∃ p C fs, G p = some (tg n) ∧ H p = some (.ins C a fs))
structure SR (K : PySem.W.Frag) (G H : Hp) (σ : L2.St) (r : EV) : Prop where
  ex : Sub G H
  len : r.length = σ.length
  slot : ∀ (i : Nat) (val : Val), r[i]? = some (some val) → (∀ S, val ≠ .sto S) → ∃ v, σ[i]? = some (some v) ∧ VR K G H v val
  uniq : ∀ (i j : Nat) (a : Addr) (ds es : List PyData), r[i]? = some (some (.ol ds)) → σ[i]? = some (some (.ref a)) → r[j]? = some (some (.ol es)) → σ[j]? = some (some (.ref a)) → i = j
  sz : Sz H
  sto : ∀ (i : Nat) (S : List Ob), r[i]? = some (some (.sto S)) → StoR K G H S
  tgd : ∀ (a : Addr) (n : Nat), G a = some (tg n) → H a ≠ none ∧ ∀ xs, H a ≠ some (.tup xs)
  sone : ∀ (i j : Nat) (S S' : List Ob), r[i]? = some (some (.sto S)) → r[j]? = some (some (.sto S')) → i = j
/-- there is a store -/
def HasS (r : EV) : Prop := ∃ (i : Nat) (S : List Ob), r[i]? = some (some (.sto S))
/-- from one state to a later one -/
structure Stp (σ : L2.St) (r : EV) (G H : Hp) (σ' : L2.St) (r' : EV) (G' H' : Hp) : Prop where
  ex : Same G G'
  keep : ∀ a o, H a = some o → ¬ Own σ r a → ¬ OwnS G H r a → H' a = some o
  dom : ∀ a, H' a = none → H a = none
  tups : ∀ a xs, H a = some (.tup xs) → H' a = some (.tup xs)
  new : ∀ a, G' a ≠ none → G a ≠ none ∨ Own σ r a ∨ H a = none ∨ ∃ xs, H' a = some (.tup xs)
  own : ∀ a, Own σ' r' a → Own σ r a ∨ H a = none
  ows : ∀ a, OwnS G' H' r' a → OwnS G H r a ∨ Own σ r a ∨ H a = none
  tgs : ∀ a n, G' a = some (tg n) → G a = some (tg n) ∨ HasS r
  hst : HasS r' → HasS r
section
variable {K : PySem.W.Frag} {G G1 G2 G' H H1 H2 H' : Hp} {σ σ1 σ2 σ' : L2.St} {r r1 r2 r' : EV}
theorem Stp.refl : Stp σ r G H σ r G H := ⟨Same.refl _, fun _ _ h _ _ => h, fun _ h => h, fun _ _ h => h, fun _ h => .inl h, fun _ h => .inl h, fun _ h => .inl h, fun _ _ h => .inl h, id⟩
theorem Stp.back (s : Stp σ r G H σ1 r1 G1 H1) {a : Addr} (h : Own σ1 r1 a ∨ H1 a = none) : Own σ r a ∨ H a = none := by
  rcases h with h | h
  · exact s.own a h
  · exact .inr (s.dom a h)
theorem Stp.trans (s : Stp σ r G H σ1 r1 G1 H1) (t : Stp σ1 r1 G1 H1 σ2 r2 G2 H2) : Stp σ r G H σ2 r2 G2 H2 where
  ex := s.ex.trans t.ex
  keep := fun a o h n m => t.keep a o (s.keep a o h n m) (fun w => by
    rcases s.own a w with z | z
    · exact n z
    · rw [h] at z; cases z) fun w => by
    rcases s.ows a w with z | z | z
    · exact m z
    · exact n z
    · rw [h] at z; cases z
  dom := fun a h => s.dom a (t.dom a h)
  tups := fun a xs h => t.tups a xs (s.tups a xs h)
  new := fun a h => by
    rcases t.new a h with z | z | z | z
    · rcases s.new a z with w | w | w | ⟨xs, w⟩
      · exact .inl w
      · exact .inr (.inl w)
      · exact .inr (.inr (.inl w))
      · exact .inr (.inr (.inr ⟨xs, t.tups a xs w⟩))
    · rcases s.own a z with w | w
      · exact .inr (.inl w)
      · exact .inr (.inr (.inl w))
    · exact .inr (.inr (.inl (s.dom a z)))
    · exact .inr (.inr (.inr z))
  own := fun a h => s.back (t.own a h)
  ows := fun a h => by
    rcases t.ows a h with z | z | z
    · exact s.ows a z
    · rcases s.own a z with w | w
      · exact .inr (.inl w)
      · exact .inr (.inr w)
    · exact .inr (.inr (s.dom a z))
  tgs := fun a n h => by
    rcases t.tgs a n h with z | z
    · exact s.tgs a n z
    · exact .inr (s.hst z)
  hst := fun h => s.hst (t.hst h)

/-- a value that was just made (or moved): data, or a list that no slot owns -/
def VT (K : PySem.W.Frag) (σ0 : L2.St) (r0 : EV) (H0 : Hp) (G H : Hp) (σ : L2.St) (r : EV) (v : V) : Val → Prop
  | .fz d => Rp K G v d
  | .ol ds => ∃ p vs, v = .ref p ∧ G p = none ∧ H p = some (.lst vs) ∧ Rps K G vs ds ∧ ¬ Own σ r p ∧ (Own σ0 r0 p ∨ H0 p = none)
  | .sto _ => False
theorem ns_ol {ds : List PyData} : ∀ S, Val.ol ds ≠ .sto S := fun _ h => nomatch h
theorem ns_fz {d : PyData} : ∀ S, Val.fz d ≠ .sto S := fun _ h => nomatch h
theorem SR.owned (s : SR K G H σ r) {a : Addr} (w : Own σ r a) : G a = none ∧ ∃ vs, H a = some (.lst vs) := by
  obtain ⟨i, ds, h1, h2⟩ := w
  obtain ⟨v, h3, b, vs, e, h4, h5, _⟩ := s.slot i _ h1 ns_ol
  subst e
  rw [h2] at h3
  cases h3
  exact ⟨h4, vs, h5⟩
/-- what the store owns: a thing of the store, or an instance's own dict -/
theorem SR.ownedS (s : SR K G H σ r) {a : Addr} (w : OwnS G H r a) : (∃ n, G a = some (tg n)) ∨ ∃ p n, G p = some (tg n) ∧ H a = some (.own p) ∧ G a = none := by
  obtain ⟨i, S, n, o, h1, h2, h3, h4⟩ := w
  rcases h4 with h4 | ⟨p, C, fs, h4, h5⟩
  · exact .inl ⟨n, h4⟩
  · have q := s.sto i S h1
    obtain ⟨p', g1, g2⟩ := q.ob n o h2
    have e := q.one p p' n h4 g1
    subst e
    refine .inr ⟨p, n, h4, ?_⟩
    cases o with
    | ins c fs' =>
      obtain ⟨C', dx, vs, _, g3, g4, g5, _⟩ := g2
      rw [g3] at h5
      cases h5
      exact ⟨g4, g5⟩
    | lst ds => obtain ⟨vs, g3, _⟩ := g2; rw [g3] at h5; cases h5
    | dK ds => obtain ⟨vs, g3, _⟩ := g2; rw [g3] at h5; cases h5
    | dT ds => obtain ⟨vs, g3, _⟩ := g2; rw [g3] at h5; cases h5
    | lkL ds => cases h3
    | lkK ds => cases h3
    | lkT ds => cases h3
/-- a list, a tuple that is not in the store -/
theorem SR.notS (s : SR K G H σ r) {a : Addr} {o : HO} (h : H a = some o) (ho : ∀ p, o ≠ .own p) (hg : ∀ n, G a ≠ some (tg n)) : ¬ OwnS G H r a := fun w => by
  rcases s.ownedS w with ⟨n, z⟩ | ⟨p, n, _, z, _⟩
  · exact hg n z
  · rw [h] at z
    exact ho p (Option.some.inj z)
theorem ObR.mono {a : Addr} {o : Ob} (h : ObR K G H a o) (e : Same G G') (k : ∀ b u, H b = some u → (b = a ∨ u = .own a) → H' b = some u) (n : ∀ b, H b = some (.own a) → G b = none → G' b = none) : ObR K G' H' a o := by
  cases o with
  | lst ds => obtain ⟨vs, h1, h2⟩ := h; exact ⟨vs, k _ _ h1 (.inl rfl), h2.mono e⟩
  | ins c fs => obtain ⟨C, dx, vs, h1, h2, h3, h4, h5⟩ := h; exact ⟨C, dx, vs, h1, k _ _ h2 (.inl rfl), k _ _ h3 (.inr rfl), n _ h3 h4, h5.mono e⟩
  | dK ds => obtain ⟨vs, h1, h2⟩ := h; exact ⟨vs, k _ _ h1 (.inl rfl), h2.mono e⟩
  | dT ds => obtain ⟨vs, h1, h2⟩ := h; exact ⟨vs, k _ _ h1 (.inl rfl), h2.mono e⟩
  | lkL ds => obtain ⟨vs, h1, h2⟩ := h; exact ⟨vs, k _ _ h1 (.inl rfl), h2.mono e⟩
  | lkK ds => obtain ⟨o, vs, h1, h2⟩ := h; exact ⟨o, vs, k _ _ h1 (.inl rfl), h2.mono e⟩
  | lkT ds => obtain ⟨o, vs, h1, h2⟩ := h; exact ⟨o, vs, k _ _ h1 (.inl rfl), h2.mono e⟩
/-- the store stands, while things outside it come or change -/
theorem StoR.mono {S : List Ob} (h : StoR K G H S) (e : Same G G') (ht : ∀ a n, G' a = some (tg n) → G a = some (tg n)) (k : ∀ b u, H b = some u → ((∃ n, G b = some (tg n)) ∨ ∃ p, u = .own p) → H' b = some u) (n : ∀ b p, H b = some (.own p) → G b = none → G' b = none) : StoR K G' H' S where
  ob := fun m o q => by
    obtain ⟨a, h1, h2⟩ := h.ob m o q
    exact ⟨a, e _ _ h1, h2.mono e (fun b u w z => k b u w (z.elim (fun z => .inl ⟨m, z ▸ h1⟩) fun z => .inr ⟨a, z⟩)) fun b w z => n b a w z⟩
  lt := fun a m q => h.lt a m (ht a m q)
  one := fun a b m q1 q2 => h.one a b m (ht a m q1) (ht b m q2)
theorem dom_upd {p : Addr} {o : HO} {a : Addr} (h : upd H p o a = none) : H a = none := by
  by_cases e : a = p
  · subst e; rw [upd_same] at h; cases h
  · rw [upd_ne e] at h; exact h
theorem tgd_upd {a p : Addr} {o : HO} (h : H a ≠ none ∧ ∀ xs, H a ≠ some (.tup xs)) (e : ¬ a = p) : upd H p o a ≠ none ∧ ∀ xs, upd H p o a ≠ some (.tup xs) := by
  rw [upd_ne e]
  exact h
theorem same_frz {p : Addr} {o : HO} (hg : G p = none) : Same G (upd G p o) := fun b u h => by rw [upd_ne (ne_of_none h hg)]; exact h
theorem tg_frz {p : Addr} {o : HO} (ho : isTg o = false) {a : Addr} {n : Nat} (h : upd G p o a = some (tg n)) : G a = some (tg n) := by
  by_cases e : a = p
  · subst e
    rw [upd_same] at h
    cases h
    rw [tg_is] at ho
    cases ho
  · rw [upd_ne e] at h; exact h
theorem own_frz {p : Addr} {o : HO} (ho : isTg o = false) {a : Addr} (h : OwnS (upd G p o) H r a) : OwnS G H r a := by
  obtain ⟨i, S, n, ob, h1, h2, h3, h4⟩ := h
  exact ⟨i, S, n, ob, h1, h2, h3, h4.imp (tg_frz ho) fun ⟨q, C, fs, h5, h6⟩ => ⟨q, C, fs, tg_frz ho h5, h6⟩⟩
/-- a fresh object comes into the frozen part -/
theorem SR.frz {p : Addr} {o : HO} (s : SR K G H σ r) (hp : H p = some o) (hg : G p = none) (n : ¬ Own σ r p) (ho : ∀ q, o ≠ .own q) : SR K (upd G p o) H σ r := by
  have sm : Same G (upd G p o) := same_frz hg
  have ht : isTg o = false := s.sz.nt p o hp
  refine ⟨fun b u h hu => ?_, s.len, fun i val h hv => ?_, s.uniq, s.sz, fun i S h => (s.sto i S h).mono sm (fun _ _ q => tg_frz ht q) (fun _ _ q _ => q) fun b q w z => ?_, fun a n h => s.tgd a n (tg_frz ht h), s.sone⟩
  · by_cases e : b = p
    · subst e; rw [upd_same] at h; cases h; exact hp
    · rw [upd_ne e] at h; exact s.ex b u h hu
  · obtain ⟨v, h1, h2⟩ := s.slot i val h hv
    refine ⟨v, h1, ?_⟩
    cases val with
    | fz d => exact Rp.mono sm h2
    | ol ds =>
      obtain ⟨a, vs, e, h3, h4, h5⟩ := h2
      subst e
      refine ⟨a, vs, rfl, ?_, h4, h5.mono sm⟩
      rw [upd_ne]
      · exact h3
      · intro z; subst z; exact n ⟨i, ds, h, h1⟩
    | sto S => exact h2
  · by_cases e : b = p
    · subst e
      rw [hp] at w
      exact absurd (Option.some.inj w) (ho q)
    · rw [upd_ne e]; exact z
theorem Stp.frz {p : Addr} {o : HO} (t : Stp σ r G H σ' r' G' H') (hg : G' p = none) (ho : isTg o = false) (f : Own σ r p ∨ H p = none) : Stp σ r G H σ' r' (upd G' p o) H' where
  ex := fun b u h => by
    have h' := t.ex b u h
    rw [upd_ne (ne_of_none h' hg)]; exact h'
  keep := t.keep
  dom := t.dom
  tups := t.tups
  new := fun a h => by
    by_cases e : a = p
    · subst e; exact .inr (f.imp id .inl)
    · rw [upd_ne e] at h; exact t.new a h
  own := t.own
  ows := fun a h => t.ows a (own_frz ho h)
  tgs := fun a n h => t.tgs a n (tg_frz ho h)
  hst := t.hst
/-- a value as data: a list of its own is not changed any more -/
theorem frzV {v : V} {val : Val} (s : SR K G' H' σ' r') (t : Stp σ r G H σ' r' G' H') (h : VT K σ r H G' H' σ' r' v val) :
    ∃ G'', SR K G'' H' σ' r' ∧ Stp σ r G H σ' r' G'' H' ∧ Same G' G'' ∧ Rp K G'' v val.toD := by
  cases val with
  | fz d => exact ⟨G', s, t, Same.refl _, h⟩
  | ol ds =>
    obtain ⟨p, vs, rfl, h1, h2, h3, h4, h5⟩ := h
    exact ⟨upd G' p (.lst vs), s.frz h2 h1 h4 (fun q z => nomatch z), t.frz h1 rfl h5, same_frz h1, .lst upd_same (h3.mono (same_frz h1))⟩
  | sto S => exact h.elim

/-! ### the heap gets a new object -/
theorem SR.new {p : Addr} {o : HO} (s : SR K G H σ r) (hp : H p = none) (hz : Sz (upd H p o)) : SR K G (upd H p o) σ r := by
  have sm : Same H (upd H p o) := same_frz hp
  refine ⟨fun a u h hu => sm a u (s.ex a u h hu), s.len, fun i val h hv => ?_, s.uniq, hz, fun i S h => (s.sto i S h).mono (Same.refl _) (fun _ _ q => q) (fun b u q _ => sm b u q) fun _ _ _ z => z, fun a n h => tgd_upd (s.tgd a n h) (fun e => by subst e; exact absurd hp (s.tgd a n h).1), s.sone⟩
  obtain ⟨v, h1, h2⟩ := s.slot i val h hv
  refine ⟨v, h1, ?_⟩
  cases val with
  | fz d => exact h2
  | ol ds =>
    obtain ⟨a, vs, e, h3, h4, h5⟩ := h2
    exact ⟨a, vs, e, h3, sm _ _ h4, h5⟩
  | sto S => exact h2
/-- nothing of the store was taken away -/
theorem ows_upd {p : Addr} {o : HO} (s : SR K G H σ r) (hp : H p = none) {a : Addr} (h : OwnS G (upd H p o) r a) : OwnS G H r a ∨ Own σ r a ∨ H a = none := by
  obtain ⟨i, S, n, ob, h1, h2, h3, h4⟩ := h
  refine .inl ⟨i, S, n, ob, h1, h2, h3, h4.imp id fun ⟨q, C, fs, h5, h6⟩ => ⟨q, C, fs, h5, ?_⟩⟩
  by_cases e : q = p
  · obtain ⟨b, g1, g2⟩ := (s.sto i S h1).ob n ob h2
    have e2 := (s.sto i S h1).one q b n h5 g1
    subst e2
    subst e
    exfalso
    cases ob with
    | lst ds => obtain ⟨vs, g3, _⟩ := g2; rw [hp] at g3; cases g3
    | ins c fs => obtain ⟨C, dx, vs, _, g3, _⟩ := g2; rw [hp] at g3; cases g3
    | dK ds => obtain ⟨vs, g3, _⟩ := g2; rw [hp] at g3; cases g3
    | dT ds => obtain ⟨vs, g3, _⟩ := g2; rw [hp] at g3; cases g3
    | lkL ds => cases h3
    | lkK ds => cases h3
    | lkT ds => cases h3
  · rw [upd_ne e] at h6; exact h6
theorem Stp.newH {p : Addr} {o : HO} (s : SR K G H σ r) (hp : H p = none) : Stp σ r G H σ r G (upd H p o) :=
  ⟨Same.refl _, fun a u h _ _ => same_frz hp a u h, fun _ h => dom_upd h, fun a xs h => same_frz hp a _ h, fun _ h => .inl h, fun _ h => .inl h, fun a h => ows_upd s hp h, fun _ _ h => .inl h, id⟩
theorem SR.gnone (s : SR K G H σ r) {p : Addr} (hp : H p = none) : G p = none := by
  cases q : G p with
  | none => rfl
  | some o =>
    cases w : isTg o with
    | false => rw [s.ex p o q w] at hp; cases hp
    | true =>
      obtain ⟨n, e⟩ := isTg_eq w
      subst e
      exact absurd hp (s.tgd p n q).1
theorem SR.nown (s : SR K G H σ r) {p : Addr} (hp : H p = none) : ¬ Own σ r p := fun w => by
  obtain ⟨_, vs, h⟩ := s.owned w
  rw [hp] at h; cases h
/-- a new tuple -/
theorem newTup {p : Addr} {vs : List V} {ds : List PyData} (s : SR K G H σ r) (hp : H p = none) (hr : Rps K G vs ds) (z : vs.length ≤ sizeLine) :
    SR K (upd G p (.tup vs)) (upd H p (.tup vs)) σ r ∧ Stp σ r G H σ r (upd G p (.tup vs)) (upd H p (.tup vs)) ∧ Rp K (upd G p (.tup vs)) (.ref p) (.tuple ds) := by
  have hg := s.gnone hp
  have s1 := s.new (o := .tup vs) hp (s.sz.newT z)
  have n1 : ¬ Own σ r p := s.nown hp
  exact ⟨s1.frz upd_same hg n1 (fun q z => nomatch z), (Stp.newH s hp).frz hg rfl (.inr hp), .tup upd_same (hr.mono (same_frz hg))⟩
/-- a new list -/
theorem newLst {p : Addr} {vs : List V} {ds : List PyData} (s : SR K G H σ r) (hp : H p = none) (hr : Rps K G vs ds) (z : vs.length ≤ sizeLine) :
    SR K G (upd H p (.lst vs)) σ r ∧ Stp σ r G H σ r G (upd H p (.lst vs)) ∧ VT K σ r H G (upd H p (.lst vs)) σ r (.ref p) (.ol ds) :=
  ⟨s.new hp (s.sz.newL z), Stp.newH s hp, p, vs, rfl, s.gnone hp, upd_same, hr, s.nown hp, .inr hp⟩

/-! ### a list that a slot owns is written -/
theorem getS_some {i : Nat} {val : Val} (h : getS r i = some val) : r[i]? = some (some val) := by
  unfold getS at h
  cases q : r[i]? with
  | none => rw [q] at h; cases h
  | some o => rw [q] at h; cases o with
    | none => cases h
    | some u => cases h; rfl
theorem getS_of {i : Nat} {val : Val} (h : r[i]? = some (some val)) : getS r i = some val := by unfold getS; rw [h]; rfl
/-- the store's slot is as it was -/
theorem sto_set {i j : Nat} {val : Val} {S : List Ob} (hv : ∀ S, val ≠ .sto S) (h : (r.set i (some val))[j]? = some (some (.sto S))) : r[j]? = some (some (.sto S)) := by
  by_cases e : j = i
  · subst e
    by_cases hi : j < r.length
    · rw [List.getElem?_set_self hi] at h
      exact absurd (Option.some.inj (Option.some.inj h)) (hv S)
    · rw [List.getElem?_eq_none (by simpa using hi)] at h; cases h
  · rw [List.getElem?_set_ne (Ne.symm e)] at h; exact h
theorem sto_none {i j : Nat} {S : List Ob} (h : (r.set i none)[j]? = some (some (.sto S))) : r[j]? = some (some (.sto S)) := by
  by_cases e : j = i
  · subst e
    by_cases hi : j < r.length
    · rw [List.getElem?_set_self hi] at h
      cases Option.some.inj h
    · rw [List.getElem?_eq_none (by simpa using hi)] at h; cases h
  · rw [List.getElem?_set_ne (Ne.symm e)] at h; exact h
/-- what the store owns, by another state of the slots and the heap -/
theorem OwnS.of {a : Addr} (h : OwnS G H' r' a) (f : ∀ (j : Nat) (S : List Ob), r'[j]? = some (some (Val.sto S)) → r[j]? = some (some (Val.sto S))) (g : ∀ p C fs, (∃ n, G p = some (tg n)) → H' p = some (.ins C a fs) → H p = some (.ins C a fs)) : OwnS G H r a := by
  obtain ⟨i, S, n, o, h1, h2, h3, h4⟩ := h
  exact ⟨i, S, n, o, f i S h1, h2, h3, h4.imp id fun ⟨p, C, fs, h5, h6⟩ => ⟨p, C, fs, h5, g p C fs ⟨n, h5⟩ h6⟩⟩
theorem wrLst {i : Nat} {ds es : List PyData} {a : Addr} {vs : List V} (s : SR K G H σ r) (h : r[i]? = some (some (.ol ds))) (hσ : σ[i]? = some (some (.ref a))) (hr : Rps K G vs es) (z : vs.length ≤ sizeLine) :
    SR K G (upd H a (.lst vs)) σ (r.set i (some (.ol es))) ∧ Stp σ r G H σ (r.set i (some (.ol es))) G (upd H a (.lst vs)) := by
  have w : Own σ r a := ⟨i, ds, h, hσ⟩
  obtain ⟨hg, vs0, hH⟩ := s.owned w
  have hi : i < r.length := (List.getElem?_eq_some_iff.mp h).1
  have own' : ∀ b, Own σ (r.set i (some (.ol es))) b → Own σ r b := fun b ⟨j, fs, h1, h2⟩ => by
    by_cases e : j = i
    · subst e
      exact ⟨j, ds, h, h2⟩
    · rw [List.getElem?_set_ne (Ne.symm e)] at h1
      exact ⟨j, fs, h1, h2⟩
  have ne : ∀ b u, H b = some u → ((∃ n, G b = some (tg n)) ∨ ∃ p, u = .own p) → upd H a (.lst vs) b = some u := fun b u q c => by
    rw [upd_ne]
    · exact q
    · intro e; subst e
      rcases c with ⟨n, c⟩ | ⟨p, c⟩
      · rw [hg] at c; cases c
      · rw [hH, c] at q; cases q
  refine ⟨⟨fun b u q hu => ?_, by rw [List.length_set]; exact s.len, fun j val q hv => ?_, fun j k b fs gs h1 h2 h3 h4 => ?_, s.sz.newL z, fun j S q => (s.sto j S (sto_set ns_ol q)).mono (Same.refl _) (fun _ _ q => q) ne fun _ _ _ z => z, fun b n q => tgd_upd (s.tgd b n q) (fun e => by subst e; rw [hg] at q; cases q), fun a b S S' q1 q2 => s.sone a b S S' (sto_set ns_ol q1) (sto_set ns_ol q2)⟩, ⟨Same.refl _, fun b u q n _ => ?_, fun _ q => dom_upd q, fun b xs q => ?_, fun _ q => .inl q, fun b q => .inl (own' b q), fun b q => .inl (q.of (fun _ _ z => sto_set ns_ol z) fun p C fs c q => ?_), fun _ _ q => .inl q, fun ⟨j, S, q⟩ => ⟨j, S, sto_set ns_ol q⟩⟩⟩
  · rw [upd_ne (ne_of_none q hg)]; exact s.ex b u q hu
  · by_cases e : j = i
    · subst e
      rw [List.getElem?_set_self hi] at q
      cases q
      exact ⟨_, hσ, a, vs, rfl, hg, upd_same, hr⟩
    · rw [List.getElem?_set_ne (Ne.symm e)] at q
      obtain ⟨v, h1, h2⟩ := s.slot j val q hv
      refine ⟨v, h1, ?_⟩
      cases val with
      | fz d => exact h2
      | ol fs =>
        obtain ⟨b, ws, e1, h3, h4, h5⟩ := h2
        subst e1
        refine ⟨b, ws, rfl, h3, ?_, h5⟩
        rw [upd_ne]
        · exact h4
        · intro e2; subst e2; exact e (s.uniq j i _ _ _ q h1 h hσ)
      | sto S => exact h2
  · have f : ∀ {m : Nat} {fs : List PyData}, (r.set i (some (.ol es)))[m]? = some (some (.ol fs)) → ∃ gs, r[m]? = some (some (.ol gs)) := fun {m fs} q => by
      by_cases e : m = i
      · subst e; exact ⟨ds, h⟩
      · rw [List.getElem?_set_ne (Ne.symm e)] at q; exact ⟨fs, q⟩
    obtain ⟨_, q1⟩ := f h1
    obtain ⟨_, q3⟩ := f h3
    exact s.uniq j k b _ _ q1 h2 q3 h4
  · rw [upd_ne]
    · exact q
    · intro e; subst e; exact n w
  · rw [upd_ne]
    · exact q
    · intro e; subst e; rw [hH] at q; cases q
  · rw [upd_ne] at q
    · exact q
    · intro e; subst e
      obtain ⟨n, c⟩ := c
      rw [hg] at c; cases c
/-- a slot's list is not changed any more -/
theorem frzS {i : Nat} {ds : List PyData} (s : SR K G H σ r) (h : r[i]? = some (some (.ol ds))) :
    ∃ a G', σ[i]? = some (some (.ref a)) ∧ SR K G' H σ (r.set i (some (.fz (.list ds)))) ∧ Stp σ r G H σ (r.set i (some (.fz (.list ds)))) G' H ∧ Rp K G' (.ref a) (.list ds) := by
  obtain ⟨v, hσ, a, vs, rfl, hg, hH, hr⟩ := s.slot i _ h ns_ol
  have hi : i < r.length := (List.getElem?_eq_some_iff.mp h).1
  have sm := same_frz (o := .lst vs) hg
  have own' : ∀ b, Own σ (r.set i (some (.fz (.list ds)))) b → Own σ r b ∧ b ≠ a := fun b ⟨j, fs, h1, h2⟩ => by
    by_cases e : j = i
    · subst e
      rw [List.getElem?_set_self hi] at h1; cases h1
    · rw [List.getElem?_set_ne (Ne.symm e)] at h1
      refine ⟨⟨j, fs, h1, h2⟩, ?_⟩
      intro e2; subst e2; exact e (s.uniq j i _ _ _ h1 h2 h hσ)
  refine ⟨a, upd G a (.lst vs), hσ, ⟨fun b u q hu => ?_, by rw [List.length_set]; exact s.len, fun j val q hv => ?_, fun j k b fs gs h1 h2 h3 h4 => ?_, s.sz, fun j S q => (s.sto j S (sto_set ns_fz q)).mono sm (fun _ _ q => tg_frz rfl q) (fun _ _ q _ => q) fun b p w z => ?_, fun b n q => s.tgd b n (tg_frz rfl q), fun a b S S' q1 q2 => s.sone a b S S' (sto_set ns_fz q1) (sto_set ns_fz q2)⟩, ⟨sm, fun b u q _ _ => q, fun _ q => q, fun _ _ q => q, fun b q => ?_, fun b q => .inl (own' b q).1, fun b q => .inl ((own_frz (o := .lst vs) rfl q).of (fun _ _ z => sto_set ns_fz z) fun _ _ _ _ z => z), fun _ _ q => .inl (tg_frz rfl q), fun ⟨j, S, q⟩ => ⟨j, S, sto_set ns_fz q⟩⟩, .lst upd_same (hr.mono sm)⟩
  · by_cases e : b = a
    · subst e; rw [upd_same] at q; cases q; exact hH
    · rw [upd_ne e] at q; exact s.ex b u q hu
  · by_cases e : j = i
    · subst e
      rw [List.getElem?_set_self hi] at q
      cases q
      exact ⟨_, hσ, .lst upd_same (hr.mono sm)⟩
    · rw [List.getElem?_set_ne (Ne.symm e)] at q
      obtain ⟨v, h1, h2⟩ := s.slot j val q hv
      refine ⟨v, h1, ?_⟩
      cases val with
      | fz d => exact Rp.mono sm h2
      | ol fs =>
        obtain ⟨b, ws, e1, h3, h4, h5⟩ := h2
        subst e1
        refine ⟨b, ws, rfl, ?_, h4, h5.mono sm⟩
        rw [upd_ne]
        · exact h3
        · intro e2; subst e2; exact e (s.uniq j i _ _ _ q h1 h hσ)
      | sto S => exact h2
  · have f : ∀ {m : Nat} {fs : List PyData}, (r.set i (some (.fz (.list ds))))[m]? = some (some (.ol fs)) → r[m]? = some (some (.ol fs)) := fun {m fs} q => by
      by_cases e : m = i
      · subst e; rw [List.getElem?_set_self hi] at q; cases q
      · rw [List.getElem?_set_ne (Ne.symm e)] at q; exact q
    exact s.uniq j k b _ _ (f h1) h2 (f h3) h4
  · rw [upd_ne]
    · exact z
    · intro e; subst e; rw [hH] at w; cases w
  · by_cases e : b = a
    · subst e; exact .inr (.inl ⟨i, ds, h, hσ⟩)
    · rw [upd_ne e] at q; exact .inl q

/-! ### slots stored -/
theorem VT.ns {σ0 : L2.St} {r0 : EV} {H0 : Hp} {v : V} {val : Val} (h : VT K σ0 r0 H0 G H σ r v val) : ∀ S, val ≠ .sto S := fun S e => by subst e; exact h
theorem setSlot {i : Nat} {v : V} {val : Val} {σ0 : L2.St} {r0 : EV} {G0 H0 : Hp} (s : SR K G H σ r) (t : Stp σ0 r0 G0 H0 σ r G H) (h : VT K σ0 r0 H0 G H σ r v val) :
    SR K G H (σ.set i (some v)) (r.set i (some val)) ∧ Stp σ0 r0 G0 H0 (σ.set i (some v)) (r.set i (some val)) G H := by
  have nw : ∀ b, Own (σ.set i (some v)) (r.set i (some val)) b → Own σ r b ∨ (∃ ds, val = .ol ds ∧ v = .ref b) := fun b ⟨j, fs, h1, h2⟩ => by
    by_cases e : j = i
    · subst e
      by_cases hi : j < r.length
      · rw [List.getElem?_set_self hi] at h1
        rw [List.getElem?_set_self (by rw [← s.len]; exact hi)] at h2
        cases h1; cases h2
        exact .inr ⟨fs, rfl, rfl⟩
      · rw [List.getElem?_eq_none (by simpa using hi)] at h1; cases h1
    · rw [List.getElem?_set_ne (Ne.symm e)] at h1 h2
      exact .inl ⟨j, fs, h1, h2⟩
  refine ⟨⟨s.ex, by rw [List.length_set, List.length_set]; exact s.len, fun j w q hw => ?_, fun j k b fs gs h1 h2 h3 h4 => ?_, s.sz, fun j S q => s.sto j S (sto_set h.ns q), s.tgd, fun a b S S' q1 q2 => s.sone a b S S' (sto_set h.ns q1) (sto_set h.ns q2)⟩, t.ex, t.keep, t.dom, t.tups, t.new, fun b q => ?_, fun b q => t.ows b (q.of (fun _ _ z => sto_set h.ns z) fun _ _ _ _ z => z), t.tgs, fun ⟨j, S, q⟩ => t.hst ⟨j, S, sto_set h.ns q⟩⟩
  · by_cases e : j = i
    · subst e
      by_cases hi : j < r.length
      · rw [List.getElem?_set_self hi] at q
        cases q
        refine ⟨v, List.getElem?_set_self (by rw [← s.len]; exact hi), ?_⟩
        cases val with
        | fz d => exact h
        | ol ds =>
          obtain ⟨p, vs, e1, h1, h2, h3, _⟩ := h
          exact ⟨p, vs, e1, h1, h2, h3⟩
        | sto S => exact h
      · rw [List.getElem?_eq_none (by simpa using hi)] at q; cases q
    · rw [List.getElem?_set_ne (Ne.symm e)] at q
      rw [List.getElem?_set_ne (Ne.symm e)]
      exact s.slot j w q hw
  · have f : ∀ {m : Nat} {fs : List PyData}, (r.set i (some val))[m]? = some (some (.ol fs)) → (σ.set i (some v))[m]? = some (some (.ref b)) →
        (m = i ∧ ¬ Own σ r b) ∨ (m ≠ i ∧ r[m]? = some (some (.ol fs)) ∧ σ[m]? = some (some (.ref b))) := fun {m fs} q1 q2 => by
      by_cases e : m = i
      · subst e
        by_cases hi : m < r.length
        · rw [List.getElem?_set_self hi] at q1
          rw [List.getElem?_set_self (by rw [← s.len]; exact hi)] at q2
          cases q1; cases q2
          obtain ⟨p, vs, e1, _, _, _, h5, _⟩ := h
          cases e1
          exact .inl ⟨rfl, h5⟩
        · rw [List.getElem?_eq_none (by simpa using hi)] at q1; cases q1
      · rw [List.getElem?_set_ne (Ne.symm e)] at q1 q2
        exact .inr ⟨e, q1, q2⟩
    rcases f h1 h2 with ⟨a1, a2⟩ | ⟨a1, a2, a3⟩
    · rcases f h3 h4 with ⟨b1, b2⟩ | ⟨b1, b2, b3⟩
      · rw [a1, b1]
      · exact absurd ⟨k, _, b2, b3⟩ a2
    · rcases f h3 h4 with ⟨b1, b2⟩ | ⟨b1, b2, b3⟩
      · exact absurd ⟨j, _, a2, a3⟩ b2
      · exact s.uniq j k b _ _ a2 a3 b2 b3
  · rcases nw b q with w | ⟨ds, rfl, rfl⟩
    · exact t.own b w
    · obtain ⟨p, vs, e1, _, _, _, _, h6⟩ := h
      cases e1
      exact h6
theorem setFz {i : Nat} {v : V} {d : PyData} (s : SR K G H σ r) (h : Rp K G v d) :
    SR K G H (σ.set i (some v)) (r.set i (some (.fz d))) ∧ Stp σ r G H (σ.set i (some v)) (r.set i (some (.fz d))) G H :=
  setSlot s Stp.refl (val := .fz d) h
/-- a slot forgotten (in r alone) -/
theorem forget {i : Nat} (s : SR K G H σ r) : SR K G H σ (r.set i none) ∧ Stp σ r G H σ (r.set i none) G H := by
  have f : ∀ {m : Nat} {w : Val}, (r.set i none)[m]? = some (some w) → m ≠ i ∧ r[m]? = some (some w) := fun {m w} q => by
    by_cases e : m = i
    · subst e
      by_cases hi : m < r.length
      · rw [List.getElem?_set_self hi] at q; cases q
      · rw [List.getElem?_eq_none (by simpa using hi)] at q; cases q
    · rw [List.getElem?_set_ne (Ne.symm e)] at q; exact ⟨e, q⟩
  refine ⟨⟨s.ex, by rw [List.length_set]; exact s.len, fun j w q hw => s.slot j w (f q).2 hw, fun j k b fs gs h1 h2 h3 h4 => s.uniq j k b fs gs (f h1).2 h2 (f h3).2 h4, s.sz, fun j S q => s.sto j S (f q).2, s.tgd, fun a b S S' q1 q2 => s.sone a b S S' (f q1).2 (f q2).2⟩, Same.refl _, fun _ _ q _ _ => q, fun _ q => q, fun _ _ q => q, fun _ q => .inl q, fun b ⟨j, fs, h1, h2⟩ => .inl ⟨j, fs, (f h1).2, h2⟩, fun b q => .inl (q.of (fun _ _ z => (f z).2) fun _ _ _ _ z => z), fun _ _ q => .inl q, fun ⟨j, S, q⟩ => ⟨j, S, (f q).2⟩⟩
end
end SC

set_option Elab.async false
set_option maxRecDepth 100000
namespace SC
open PySem L2

section
variable {K : PySem.W.Frag} {G G1 G2 G' H H1 H2 H' : Hp} {σ σ1 σ2 σ' : L2.St} {r r1 r2 r' : EV}
/-- what is wanted of an outcome -/
def Gd {α : Type} (K : PySem.W.Frag) (W : Nat → L2.St → Hp → Prop) (σ : L2.St) (r : EV) (G H : Hp) (x : Out α) (R : α → EV → Hp → Hp → Prop) : Prop := match x with
  | .ok a r' => ∀ G' H', SR K G' H' σ r' → Stp σ r G H σ r' G' H' → R a r' G' H'
  | .exc c r' => ∀ G' H', SR K G' H' σ r' → Stp σ r G H σ r' G' H' → W c σ H'
  | .bad => False
variable {W : Nat → L2.St → Hp → Prop} {α β : Type}
theorem Gd.imp {x : Out α} {R R' : α → EV → Hp → Hp → Prop} (h : Gd K W σ r G H x R) (f : ∀ a r' G' H', SR K G' H' σ r' → Stp σ r G H σ r' G' H' → R a r' G' H' → R' a r' G' H') : Gd K W σ r G H x R' := by
  cases x with
  | ok a r' => exact fun G' H' s t => f a r' G' H' s t (h G' H' s t)
  | exc c r' => exact h
  | bad => exact h
theorem Gd.at' {x : Out α} {R : α → EV → Hp → Hp → Prop} (h : Gd K W σ r G H x R) (t : Stp σ r G H σ r G1 H1) : Gd K W σ r G1 H1 x R := by
  cases x with
  | ok a r' => exact fun G' H' s t' => h G' H' s (t.trans t')
  | exc c r' => exact fun G' H' s t' => h G' H' s (t.trans t')
  | bad => exact h
theorem Gd.rebase {x : Out α} {R : α → EV → Hp → Hp → Prop} (h : Gd K W σ r G H x R) (t : Stp σ r G H σ r1 G1 H1) : Gd K W σ r1 G1 H1 x R := by
  cases x with
  | ok a r' => exact fun G' H' s t' => h G' H' s (t.trans t')
  | exc c r' => exact fun G' H' s t' => h G' H' s (t.trans t')
  | bad => exact h
theorem Gd.bnd {x : Out α} {f : α → EV → Out β} {R : β → EV → Hp → Hp → Prop} (h : Gd K W σ r G H (x.bnd f) R) :
    Gd K W σ r G H x fun a r1 _ _ => Gd K W σ r G H (f a r1) R := by
  cases x with
  | ok a r1 => exact fun _ _ _ _ => h
  | exc c r' => exact h
  | bad => exact h
/-- behind what needs no step -/
theorem Gd.of {o : Option α} {R : α → EV → Hp → Hp → Prop} (s : SR K G H σ r) (h : Gd K W σ r G H (Out.of o r) R) : ∃ a, o = some a ∧ R a r G H := by
  cases o with
  | none => exact h.elim
  | some a => exact ⟨a, rfl, h G H s Stp.refl⟩
theorem Gd.ofB {o : Option α} {f : α → EV → Out β} {R : β → EV → Hp → Hp → Prop} (h : Gd K W σ r G H ((Out.of o r1).bnd f) R) : ∃ a, o = some a ∧ Gd K W σ r G H (f a r1) R := by
  cases o with
  | none => exact h.elim
  | some a => exact ⟨a, rfl, h⟩
/-- an operand's value -/
def OR (K : PySem.W.Frag) (G : Hp) (σ : L2.St) (v : V) : Opd → Prop
  | .slot i => σ[i]? = some (some v)
  | .dat d => Rp K G v d
  | .slotR _ i => σ[i]? = some (some v)
  | .datR _ d => Rp K G v d
theorem OR.mono {v : V} {o : Opd} (h : OR K G σ v o) (e : Same G G') : OR K G' σ v o := by
  cases o with
  | slot i => exact h
  | dat d => exact Rp.mono e h
  | slotR k i => exact h
  | datR k d => exact Rp.mono e h
inductive ORs (K : PySem.W.Frag) (G : Hp) (σ : L2.St) : List V → List Opd → Prop
  | nil : ORs K G σ [] []
  | cons {v : V} {vs : List V} {o : Opd} {os : List Opd} : OR K G σ v o → ORs K G σ vs os → ORs K G σ (v :: vs) (o :: os)
theorem ORs.mono : ∀ {vs : List V} {os : List Opd}, ORs K G σ vs os → Same G G' → ORs K G' σ vs os
  | _, _, .nil, _ => .nil
  | _, _, .cons h t, e => .cons (h.mono e) (t.mono e)
/-- data as it stands: its list may be a slot's own -/
def OV (K : PySem.W.Frag) (G H : Hp) (v : V) (d : PyData) : Prop := Rp K G v d ∨ ∃ a vs ds, v = .ref a ∧ d = .list ds ∧ H a = some (.lst vs) ∧ Rps K G vs ds
inductive OVs (K : PySem.W.Frag) (G H : Hp) : List V → List PyData → Prop
  | nil : OVs K G H [] []
  | cons {v : V} {vs : List V} {d : PyData} {ds : List PyData} : OV K G H v d → OVs K G H vs ds → OVs K G H (v :: vs) (d :: ds)
theorem stoS_some {k : Nat} {S : List Ob} (h : stoS r k = some S) : r[k]? = some (some (.sto S)) := by
  unfold stoS at h
  split at h
  · rename_i S' q
    cases h
    exact getS_some q
  · cases h
/-- a thing of the store, looked at -/
theorem res_ov {k : Nat} {S : List Ob} {d : PyData} {v : V} (s : SR K G H σ r) (hS : stoS r k = some S) (h : Rp K G v d) : OV K G H v (resT S d) := by
  unfold resT
  cases q : refN d with
  | none => exact .inl h
  | some n =>
    have e := refN_eq q
    subst e
    have go : ∀ ds o, S[n]? = some o → (∀ a, ObR K G H a o → ∃ vs, H a = some (.lst vs) ∧ Rps K G vs ds) → OV K G H v (.list ds) := fun ds o ho f => by
      have st := s.sto k S (stoS_some hS)
      obtain ⟨a, h1, h2⟩ := st.ob n o ho
      obtain ⟨vs, h3, h4⟩ := f a h2
      generalize hd : refD n = d at h
      cases h with
      | obj h5 =>
        rename_i a' m
        have e : m = n := by
          have := congrArg refN hd
          rw [refN_refD, refN_refD] at this
          exact (Option.some.inj this).symm
        subst e
        have e2 := st.one _ _ _ h5 h1
        subst e2
        exact .inr ⟨_, vs, ds, rfl, rfl, h3, h4⟩
      | _ => simp [refD, mkX] at hd
    show OV K G H v (match S[n]? with
      | some (.lst ds) => PyData.list ds
      | some (.lkL ds) => PyData.list ds
      | _ => refD n)
    split
    · rename_i ds q2
      exact go ds _ q2 fun a h => h
    · rename_i ds q2
      exact go ds _ q2 fun a h => h
    · exact .inl h
theorem valD_ns {val : Val} {d : PyData} (h : valD val = some d) : (∀ S, val ≠ .sto S) ∧ val.toD = d := by
  cases val with
  | fz d' => cases h; exact ⟨ns_fz, rfl⟩
  | ol ds => cases h; exact ⟨ns_ol, rfl⟩
  | sto S => cases h
theorem slot_ov {i : Nat} {v : V} {d : PyData} (s : SR K G H σ r) (h : σ[i]? = some (some v)) (e : (getS r i).bind valD = some d) : OV K G H v d := by
  obtain ⟨val, e1, e0⟩ := Option.bind_eq_some_iff.mp e
  obtain ⟨hn, e2⟩ := valD_ns e0
  obtain ⟨v', h1, h2⟩ := s.slot i val (getS_some e1) hn
  rw [h] at h1
  cases h1
  cases val with
  | fz d' =>
    have e' : d' = d := e2
    subst e'
    exact .inl h2
  | ol ds =>
    obtain ⟨a, vs, h3, h4, h5, h6⟩ := h2
    exact .inr ⟨a, vs, ds, h3, e2.symm, h5, h6⟩
  | sto S => exact absurd rfl (hn S)
theorem OR.ov {v : V} {o : Opd} {d : PyData} (s : SR K G H σ r) (h : OR K G σ v o) (e : opd r o = some d) : OV K G H v d := by
  cases o with
  | dat d' =>
    have e' : d' = d := Option.some.inj e
    subst e'
    exact .inl h
  | slot i => exact slot_ov s h e
  | datR k d' =>
    obtain ⟨S, e1, e2⟩ := Option.map_eq_some_iff.mp (show (stoS r k).map (fun S => resT S d') = some d from e)
    subst e2
    exact res_ov s e1 h
  | slotR k i =>
    obtain ⟨S, e1, e0⟩ := Option.bind_eq_some_iff.mp (show (stoS r k).bind (fun S => ((getS r i).bind valD).map (resT S)) = some d from e)
    obtain ⟨d', e2, e3⟩ := Option.map_eq_some_iff.mp e0
    subst e3
    rcases slot_ov s h e2 with z | ⟨a, vs, ds, z1, z2, z3, z4⟩
    · exact res_ov s e1 z
    · subst z2
      exact .inr ⟨a, vs, ds, z1, rfl, z3, z4⟩
theorem ORs.ov {s : SR K G H σ r} : ∀ {vs : List V} {os : List Opd} {ds : List PyData}, ORs K G σ vs os → os.mapM (opd r) = some ds → OVs K G H vs ds
  | _, _, ds, .nil, e => by
    have e' : ds = [] := by simpa using e.symm
    subst e'
    exact .nil
  | _, _, ds, .cons (o := o) (os := os) h t, e => by
    rw [List.mapM_cons] at e
    cases q1 : opd r o with
    | none => rw [q1] at e; cases e
    | some d =>
      cases q2 : os.mapM (opd r) with
      | none => rw [q1, q2] at e; cases e
      | some es =>
        rw [q1, q2] at e
        cases e
        exact .cons (h.ov s q1) (ORs.ov (s := s) t q2)
section
variable {v : V} {ds : List PyData}
theorem OV.int {i : Int} (h : OV K G H v (.int i)) : v = .int i := by
  rcases h with h | ⟨_, _, _, _, e, _⟩
  · cases h; rfl
  · cases e
theorem OV.bl {i : Bool} (h : OV K G H v (.bool i)) : v = .bl i := by
  rcases h with h | ⟨_, _, _, _, e, _⟩
  · cases h; rfl
  · cases e
theorem OV.non (h : OV K G H v .none) : v = .non := by
  rcases h with h | ⟨_, _, _, _, e, _⟩
  · cases h; rfl
  · cases e
theorem OV.str {x : Str} (h : OV K G H v (.str x)) : v = .str x := by
  rcases h with h | ⟨_, _, _, _, e, _⟩
  · cases h; rfl
  · cases e
theorem OV.lst (s : SR K G H σ r) (h : OV K G H v (.list ds)) : ∃ a vs, v = .ref a ∧ H a = some (.lst vs) ∧ Rps K G vs ds := by
  rcases h with h | ⟨a, vs, es, e1, e2, h1, h2⟩
  · cases h with
    | lst h1 h2 => exact ⟨_, _, rfl, s.ex _ _ h1 rfl, h2⟩
  · cases e2
    exact ⟨a, vs, e1, h1, h2⟩
theorem OV.tup (s : SR K G H σ r) (h : OV K G H v (.tuple ds)) : ∃ a vs, v = .ref a ∧ H a = some (.tup vs) ∧ Rps K G vs ds ∧ G a = some (.tup vs) := by
  rcases h with h | ⟨a, vs, es, e1, e2, h1, h2⟩
  · cases h with
    | tup h1 h2 => exact ⟨_, _, rfl, s.ex _ _ h1 rfl, h2, h1⟩
  · cases e2
theorem OV.rp (s : SR K G H σ r) {d : PyData} (h : OV K G H v d) (c : d.canLay0 = true) : Rp K H v d := by
  rcases h with h | ⟨a, vs, es, e1, e2, h1, h2⟩
  · exact Rp.toH s.ex h c
  · subst e1 e2
    exact .lst h1 (h2.toH s.ex c)
theorem OV.scr (s : SR K G H σ r) {kvs : List (PyData × PyData)} (h : OV K G H v (.dict kvs)) (hs : isScr (.dict kvs) ≠ none) : ∃ (a : Addr) (ns : List Int), v = .ref a ∧ kvs = [(.none, .list (ns.map PyData.int))] ∧ SqL K H a (ns.map V.int) := by
  rcases h with h | ⟨a, vs, es, e1, e2, h1, h2⟩
  · cases h with
    | scr h1 => exact ⟨_, _, rfl, rfl, s.ex.seq h1⟩
    | exc a => exact absurd rfl hs
    | obj h1 => exact absurd rfl hs
  · cases e2
end

/-! ### readings -/
def tV (K : PySem.W.Frag) (F : Fs) (W : Nat → L2.St → Hp → Prop) (ce : CE) : TE := fun σ H Q => ∃ G r, SR K G H σ r ∧
  Gd K W σ r G H (ev F ce r) fun val r' G' H' => ∀ v, VT K σ r H G' H' σ r' v val → Q v H'
def tO (K : PySem.W.Frag) (F : Fs) (W : Nat → L2.St → Hp → Prop) (ce : CE) : TE := fun σ H Q => ∃ G r, SR K G H σ r ∧
  Gd K W σ r G H (mkO ce r (ev F ce r)) fun o r' G' H' => ∀ v, OR K G' σ v o → Q v H'
def tVs (K : PySem.W.Frag) (F : Fs) (W : Nat → L2.St → Hp → Prop) (ce : CE) : TA := fun σ H Q => ∃ G r, SR K G H σ r ∧
  Gd K W σ r G H (evs F ce r) fun ds r' G' H' => ∀ vs, Rps K G' vs ds → Q vs H'
def tOs (K : PySem.W.Frag) (F : Fs) (W : Nat → L2.St → Hp → Prop) (ce : CE) : TA := fun σ H Q => ∃ G r, SR K G H σ r ∧
  Gd K W σ r G H (evO F ce r) fun os r' G' H' => ∀ vs, ORs K G' σ vs os → Q vs H'
def tT (K : PySem.W.Frag) (F : Fs) (W : Nat → L2.St → Hp → Prop) (ce : CE) : TT := fun σ H Q => ∃ G r, SR K G H σ r ∧
  Gd K W σ r G H (evT F ce r) fun k r' G' H' => Q k H'
end

theorem PE.imp {X : Cx} {e : Expr} {t t' : TE} (h : PE X e t) (f : ∀ σ H Q, t' σ H Q → t σ H Q) : PE X e t' := ⟨fun pins s σ H Q I q => h.run pins s σ H Q I (f σ H Q q)⟩
theorem PT.imp {X : Cx} {e : Expr} {t t' : TT} (h : PT X e t) (f : ∀ σ H Q, t' σ H Q → t σ H Q) : PT X e t' := ⟨fun pins s σ H Q I q => h.run pins s σ H Q I (f σ H Q q)⟩
theorem PW.imp {X : Cx} {e : Expr} {t t' : TT} (h : PW X e t) (f : ∀ σ H Q, t' σ H Q → t σ H Q) : PW X e t' := ⟨fun wh pins s σ H Q I q => h.run wh pins s σ H Q I (f σ H Q q)⟩
theorem PA.imp {X : Cx} {e : List Expr} {t t' : TA} (h : PA X e t) (f : ∀ σ H Q, t' σ H Q → t σ H Q) : PA X e t' := ⟨fun pos pins s σ H Q I q => h.run pos pins s σ H Q I (f σ H Q q)⟩
theorem PS.imp {X : Cx} {e : Stmt} {t t' : TS} (h : PS X e t) (f : ∀ D σ H, t' D σ H → t D σ H) : PS X e t' := ⟨fun pins s σ H D I q => h.run pins s σ H D I (f D σ H q)⟩
theorem PSs.imp {X : Cx} {e : List Stmt} {t t' : TS} (h : PSs X e t) (f : ∀ D σ H, t' D σ H → t D σ H) : PSs X e t' := ⟨fun pins s σ H D I q => h.run pins s σ H D I (f D σ H q)⟩
theorem PI.imp {X : Cx} {tg e : Expr} {t t' : TI} (h : PI X tg e t) (f : ∀ σ H Q, t' σ H Q → t σ H Q) : PI X tg e t' := ⟨fun pins s σ H Q I q => h.run pins s σ H Q I (f σ H Q q)⟩
theorem OpR.imp {X : Cx} {f : Value → Value → Sem Value} {t t' : R2} (h : OpR X f t) (g : ∀ x y H Q, t' x y H Q → t x y H Q) : OpR X f t' := fun pins s σ H x y v u Q I rx ry q => h pins s σ H x y v u Q I rx ry (g x y H Q q)
theorem OpR.no {X : Cx} {f : Value → Value → Sem Value} : OpR X f (fun _ _ _ _ => False) := fun _ _ _ _ _ _ _ _ _ _ _ _ q => q.elim

section
variable {X : Cx} {F : Fs} {W : Nat → L2.St → Hp → Prop}
theorem s_bad {e : Expr} : PE X e (tV X.K F W .bad) := ⟨fun _ _ _ _ _ _ ⟨_, _, _, h⟩ => h.elim⟩
theorem s_noV {e : Expr} {ce : CE} (h : ∀ r, ev F ce r = .bad) : PE X e (tV X.K F W ce) := ⟨fun _ _ _ _ _ _ ⟨_, r, _, q⟩ => by rw [h r] at q; exact q.elim⟩
theorem s_var {i : Nat} {x : Str} {pos : Pos} (hN : X.N[i]? = some x) (hv : Vis X.env.scope x) (hd : (x == ("__debug__" : Str)) = false) (hcd : (x == ("__classdict__" : Str)) = false) : PE X (.Name x pos) (tV X.K F W (.var i)) := by
  refine PE.imp (pe_var hN hv hd hcd) fun σ H Q h => ?_
  obtain ⟨G, r, s, h⟩ := h
  have h : Gd X.K W σ r G H (varV r i) fun val r' G' H' => ∀ v, VT X.K σ r H G' H' σ r' v val → Q v H' := by rw [ev] at h; exact h
  unfold varV at h
  split at h
  · rename_i d e
    obtain ⟨v, h1, h2⟩ := s.slot i _ (getS_some e) ns_fz
    exact ⟨v, h1, h G H s Stp.refl v h2⟩
  · rename_i ds e
    obtain ⟨a, G', h1, s', t', h2⟩ := frzS s (getS_some e)
    exact ⟨_, h1, h G' H s' t' _ h2⟩
  · exact h.elim
  · exact h.elim
theorem s_varO {i : Nat} {x : Str} {pos : Pos} (hN : X.N[i]? = some x) (hv : Vis X.env.scope x) (hd : (x == ("__debug__" : Str)) = false) (hcd : (x == ("__classdict__" : Str)) = false) : PE X (.Name x pos) (tO X.K F W (.var i)) := by
  refine PE.imp (pe_var hN hv hd hcd) fun σ H Q h => ?_
  obtain ⟨G, r, s, h⟩ := h
  have h : Gd X.K W σ r G H (if ((getS r i).bind valD).isSome then .ok (.slot i) r else .bad) fun o r' G' H' => ∀ v, OR X.K G' σ v o → Q v H' := h
  split at h
  · rename_i c
    obtain ⟨d, e⟩ := Option.isSome_iff_exists.mp c
    obtain ⟨val, e1, e2⟩ := Option.bind_eq_some_iff.mp e
    obtain ⟨v, h1, h2⟩ := s.slot i _ (getS_some e1) (valD_ns e2).1
    exact ⟨v, h1, h G H s Stp.refl v h1⟩
  · exact h.elim
theorem s_resVar {k i : Nat} {x : Str} {pos : Pos} (hN : X.N[i]? = some x) (hv : Vis X.env.scope x) (hd : (x == ("__debug__" : Str)) = false) (hcd : (x == ("__classdict__" : Str)) = false) : PE X (.Name x pos) (tO X.K F W (.res k (.var i))) := by
  refine PE.imp (pe_var hN hv hd hcd) fun σ H Q h => ?_
  obtain ⟨G, r, s, h⟩ := h
  have h : Gd X.K W σ r G H (if ((getS r i).bind valD).isSome then .ok (.slotR k i) r else .bad) fun o r' G' H' => ∀ v, OR X.K G' σ v o → Q v H' := h
  split at h
  · rename_i c
    obtain ⟨d, e⟩ := Option.isSome_iff_exists.mp c
    obtain ⟨val, e1, e2⟩ := Option.bind_eq_some_iff.mp e
    obtain ⟨v, h1, h2⟩ := s.slot i _ (getS_some e1) (valD_ns e2).1
    exact ⟨v, h1, h G H s Stp.refl v h1⟩
  · exact h.elim
end
end SC

set_option Elab.async false
set_option maxRecDepth 100000
namespace SC
open PySem L2

section
variable {K : PySem.W.Frag} {G G1 G2 G' H H1 H2 H' : Hp} {σ σ1 σ2 σ' : L2.St} {r r1 r2 r' : EV} {W : Nat → L2.St → Hp → Prop} {α β : Type} {F : Fs}
theorem Gd.eqn {x : Out α} {R : α → EV → Hp → Hp → Prop} {P : α → Prop} (h : Gd K W σ r G H x R) (f : ∀ a r', x = .ok a r' → P a) : Gd K W σ r G H x fun a r' G' H' => P a ∧ R a r' G' H' := by
  cases x with
  | ok a r' => exact fun G' H' s t => ⟨f a r' rfl, h G' H' s t⟩
  | exc c r' => exact h
  | bad => exact h
theorem VT.base {v : V} {val : Val} (t : Stp σ r G H σ1 r1 G1 H1) (h : VT K σ1 r1 H1 G' H' σ' r' v val) : VT K σ r H G' H' σ' r' v val := by
  cases val with
  | fz d => exact h
  | ol ds =>
    obtain ⟨p, vs, e, h1, h2, h3, h4, h5⟩ := h
    exact ⟨p, vs, e, h1, h2, h3, h4, t.back h5⟩
  | sto S => exact h
/-- what an operation gives, from the state in which it is done -/
abbrev Kv (K : PySem.W.Frag) (σ : L2.St) (r : EV) (G H : Hp) (val : Val) (Q : VK) : Prop := ∀ v G' H', SR K G' H' σ r → Stp σ r G H σ r G' H' → VT K σ r H G' H' σ r v val → Q v H'
theorem Kv.fz {d : PyData} {v : V} {Q : VK} (k : Kv K σ r G H (.fz d) Q) (s : SR K G H σ r) (h : Rp K G v d) : Q v H := k v G H s Stp.refl h
theorem Kv.tup {ds : List PyData} {vs : List V} {Q : VK} {p : Addr} (k : Kv K σ r G H (.fz (.tuple ds)) Q) (s : SR K G H σ r) (h : Rps K G vs ds) (z : vs.length ≤ sizeLine) (hp : H p = none) : Q (.ref p) (upd H p (.tup vs)) := by
  obtain ⟨s1, t1, r1⟩ := newTup s hp h z
  exact k _ _ _ s1 t1 r1
theorem Kv.lst {ds : List PyData} {vs : List V} {Q : VK} {p : Addr} (k : Kv K σ r G H (.ol ds) Q) (s : SR K G H σ r) (h : Rps K G vs ds) (z : vs.length ≤ sizeLine) (hp : H p = none) : Q (.ref p) (upd H p (.lst vs)) := by
  obtain ⟨s1, t1, r1⟩ := newLst s hp h z
  exact k _ _ _ s1 t1 r1
theorem szL (s : SR K G H σ r) {a : Addr} {vs : List V} (h : H a = some (.lst vs)) : vs.length ≤ sizeLine := s.sz.le a vs (.inl h)
theorem szT (s : SR K G H σ r) {a : Addr} {vs : List V} (h : H a = some (.tup vs)) : vs.length ≤ sizeLine := s.sz.le a vs (.inr h)
/-- the outcome of an operation on data -/
theorem Gd.kv {o : Option Val} {Q : VK} {σ0 : L2.St} {r0 : EV} {G0 H0 : Hp} (s : SR K G H σ r) (t : Stp σ0 r0 G0 H0 σ r G H)
    (h : Gd K W σ r G H (Out.of o r) fun val r' G' H' => ∀ v, VT K σ0 r0 H0 G' H' σ r' v val → Q v H') : ∃ val, o = some val ∧ Kv K σ r G H val Q := by
  cases o with
  | none => exact h.elim
  | some val => exact ⟨val, rfl, fun v G' H' s' t' hv => h G' H' s' t' v (hv.base t)⟩

theorem op2_go {a b : CE} {f : PyData → PyData → EV → Out Val} {R : Val → EV → Hp → Hp → Prop} {P : V → V → Hp → Prop} (s : SR K G H σ r) (h : Gd K W σ r G H (op2 a b r (ev F a r) (ev F b) f) R)
    (k : ∀ x y d d' r2 G2 H2, SR K G2 H2 σ r2 → Stp σ r G H σ r2 G2 H2 → OV K G2 H2 x d → OV K G2 H2 y d' → Gd K W σ r2 G2 H2 (f d d' r2) R → P x y H2) :
    tO K F W a σ H fun x H1 => tO K F W b σ H1 fun y H2 => P x y H2 := by
  unfold op2 at h
  refine ⟨G, r, s, h.bnd.imp fun o r1 G1 H1 s1 t1 h1 x hx => ⟨G1, r1, s1, (h1.rebase t1).bnd.imp fun o' r2 G2 H2 s2 t2 h2 y hy => ?_⟩⟩
  obtain ⟨d, e1, h3⟩ := h2.ofB
  obtain ⟨d', e2, h4⟩ := h3.ofB
  exact k x y d d' r2 G2 H2 s2 (t1.trans t2) ((hx.mono t2.ex).ov s2 e1) (hy.ov s2 e2) (h4.rebase t2)
theorem op1_go {a : CE} {f : PyData → EV → Out Val} {R : Val → EV → Hp → Hp → Prop} {P : V → Hp → Prop} (s : SR K G H σ r) (h : Gd K W σ r G H (op1 a r (ev F a r) f) R)
    (k : ∀ x d r2 G2 H2, SR K G2 H2 σ r2 → Stp σ r G H σ r2 G2 H2 → OV K G2 H2 x d → Gd K W σ r2 G2 H2 (f d r2) R → P x H2) :
    tO K F W a σ H fun x H1 => P x H1 := by
  unfold op1 at h
  refine ⟨G, r, s, h.bnd.imp fun o r1 G1 H1 s1 t1 h1 x hx => ?_⟩
  obtain ⟨d, e1, h3⟩ := h1.ofB
  exact k x d r1 G1 H1 s1 t1 (hx.ov s1 e1) (h3.rebase t1)

/-! ### binary operators -/
def rB (K : PySem.W.Frag) : Operator → R2
  | .Add => fun x y H Q => (rI0 fun i j => .int (i + j)) x y H Q ∨ (fun x y H Q => ∃ i j, x = .str i ∧ y = .str j ∧ i.length + j.length ≤ sizeLine ∧ Q (.str (i ++ j)) H) x y H Q ∨ rCatA K x y H Q ∨ rCat x y H Q
  | .Sub => rI0 fun i j => .int (i - j)
  | .Mult => fun x y H Q => (rI CMul fun i j => .int (i * j)) x y H Q ∨ rRep x y H Q ∨ rRepT K x y H Q
  | .Mod => rI (fun _ j => 0 < j) fun i j => .int (i % j)
  | .FloorDiv => rI CDiv fun i j => .int (i / j)
  | _ => fun _ _ _ _ => False
theorem op_bin {X : Cx} (op : Operator) : OpR X (binaryOp op) (rB X.K op) := by
  cases op <;> first
    | exact OpR.no
    | exact op_add.or (op_add_str.or (op_catA.or op_cat))
    | exact op_sub
    | exact op_mul.or (op_rep.or op_repT)
    | exact op_mod
    | exact op_fdiv
theorem cmul_of {i j : Int} (h : mulOk i j = true) : CMul i j := by
  unfold mulOk at h
  rw [Bool.or_eq_true, blI_iff, blI_iff] at h
  exact h.imp (fun h => by omega) fun h => by omega
theorem bin_go {op : Operator} {x y : V} {d d' : PyData} {val : Val} {Q : VK} (s : SR K G H σ r) (hx : OV K G H x d) (hy : OV K G H y d') (e : binD op d d' = some val) (k : Kv K σ r G H val Q) : rB K op x y H Q := by
  unfold binD at e
  split at e
  · cases e
    exact .inl ⟨_, _, hx.int, hy.int, k.fz s (.int _)⟩
  · split at e
    · cases e
      exact .inr (.inl ⟨_, _, hx.str, hy.str, by assumption, k.fz s (.str _)⟩)
    · cases e
  · split at e
    · rename_i c
      cases e
      obtain ⟨a1, vs1, e1, h1, p1, g1⟩ := hx.tup s
      obtain ⟨a2, vs2, e2, h2, p2, g2⟩ := hy.tup s
      have z : vs1.length + vs2.length ≤ sizeLine := by rw [p1.length, p2.length]; exact c
      refine .inr (.inr (.inl ⟨a1, a2, vs1, vs2, e1, e2, SqT.of h1, SqT.of h2, z, fun q => ?_, fun _ q => ?_, fun _ _ p hp => ?_⟩))
      · subst q
        cases p1
        exact k.fz s (.tup g2 p2)
      · subst q
        cases p2
        rw [List.append_nil] at k
        exact k.fz s (.tup g1 p1)
      · exact k.tup s (p1.append p2) (by rw [List.length_append]; exact z) hp
    · cases e
  · split at e
    · rename_i c
      cases e
      obtain ⟨a1, vs1, e1, h1, p1⟩ := hx.lst s
      obtain ⟨a2, vs2, e2, h2, p2⟩ := hy.lst s
      have z : vs1.length + vs2.length ≤ sizeLine := by rw [p1.length, p2.length]; exact c
      exact .inr (.inr (.inr ⟨a1, a2, vs1, vs2, e1, e2, h1, h2, z, fun p hp => k.lst s (p1.append p2) (by rw [List.length_append]; exact z) hp⟩))
    · cases e
  · cases e
    exact ⟨_, _, hx.int, hy.int, k.fz s (.int _)⟩
  · split at e
    · rename_i c
      cases e
      exact .inl ⟨_, _, hx.int, hy.int, cmul_of c, k.fz s (.int _)⟩
    · cases e
  · split at e
    · rename_i c
      cases e
      obtain ⟨a1, vs1, e1, h1, p1⟩ := hx.lst s
      obtain ⟨c1, c2, c3⟩ := c
      have z := c3
      rw [← p1.length] at z
      refine .inr (.inl ⟨a1, _, vs1, e1, hy.int, h1, by omega, by omega, z, fun p hp => k.lst s (p1.rep _) ?_ hp⟩)
      rw [PyProof.Rows.lm_len_rep_flat, Nat.mul_comm]
      exact z
    · cases e
  · split at e
    · rename_i c
      cases e
      simp only [Bool.and_eq_true, Bool.not_eq_true', decide_eq_true_eq, Nat.ble_eq, blI_iff] at c
      obtain ⟨⟨⟨c1, c2⟩, c3⟩, c4⟩ := c
      obtain ⟨a1, vs1, e1, h1, p1, g1⟩ := hx.tup s
      have l1 := p1.length
      refine .inr (.inr ⟨a1, _, vs1, e1, hy.int, SqT.of h1, fun z => ?_, c2, by omega, by omega, fun p hp => k.tup s (p1.rep _) ?_ hp⟩)
      · subst z
        cases p1
        cases c1
      · rw [PyProof.Rows.lm_len_rep_flat]
        have hv : vs1.length ≤ 1000 := by omega
        exact Nat.le_trans (Nat.mul_le_mul (n₂ := 1000) (by omega) hv) (by decide)
    · cases e
  · split at e
    · rename_i c
      cases e
      exact ⟨_, _, hx.int, hy.int, c, k.fz s (.int _)⟩
    · cases e
  · split at e
    · rename_i c
      cases e
      rw [Bool.and_eq_true, decide_eq_true_eq, blI_iff] at c
      exact ⟨_, _, hx.int, hy.int, ⟨c.1, by omega⟩, k.fz s (.int _)⟩
    · cases e
  · cases e

end

/-! ### comparisons -/
section
variable {X : Cx}
def rInT (K : PySem.W.Frag) (neg : Bool) : R2 := fun x y H Q => ∃ d ds, Dp K H x d ∧ Dp K H y (.tuple ds) ∧ SeqAt.shaped d = true ∧ SeqAt.shaped (.tuple ds) = true ∧ Q (.bl (if neg then !ds.any fun z => PyData.eqv z d else ds.any fun z => PyData.eqv z d)) H
theorem op_inT (hu : X.A.units + 65 < cLine) : OpR X (compareOp .In) (rInT X.K false) := by
  intro pins s σ H x y v u Q I rx ry h
  obtain ⟨d, ds, hd, he, sd, se, q⟩ := h
  obtain ⟨as, r1⟩ := Dp.reads I d x v hd rx
  obtain ⟨bs, r2⟩ := Dp.reads I (.tuple ds) y u he ry
  exact SeqAt.in_tuple_reads r2 r1 (SeqAt.canLay_of_shaped se) (SeqAt.canLay_of_shaped sd) (PyProof.Rows.room_in_shaped sd hu) ⟨.bl _, H, I, rfl, q⟩
theorem op_notInT (hu : X.A.units + 65 < cLine) : OpR X (compareOp .NotIn) (rInT X.K true) := by
  intro pins s σ H x y v u Q I rx ry h
  obtain ⟨d, ds, hd, he, sd, se, q⟩ := h
  obtain ⟨as, r1⟩ := Dp.reads I d x v hd rx
  obtain ⟨bs, r2⟩ := Dp.reads I (.tuple ds) y u he ry
  exact SeqAt.notIn_tuple_reads r2 r1 (SeqAt.canLay_of_shaped se) (SeqAt.canLay_of_shaped sd) (PyProof.Rows.room_in_shaped sd hu) ⟨.bl _, H, I, rfl, q⟩
def rC (K : PySem.W.Frag) : CmpOp → R2
  | .Eq => rEqD K
  | .NotEq => rNeD K
  | .Lt => rI0 fun i j => .bl (decide (i < j))
  | .LtE => rI0 fun i j => .bl (decide (i ≤ j))
  | .Gt => rI0 fun i j => .bl (decide (j < i))
  | .GtE => rI0 fun i j => .bl (decide (j ≤ i))
  | .Is => fun x y H Q => (fun x y H Q => y = .non ∧ Q (.bl (decide (x = .non))) H) x y H Q ∨ rIsB x y H Q
  | .IsNot => fun x y H Q => (fun x y H Q => y = .non ∧ Q (.bl (!decide (x = .non))) H) x y H Q ∨ rNotB x y H Q
  | .In => fun x y H Q => (rInD K x y H Q ∨ rInT K false x y H Q) ∨ (fun x y H Q => ∃ i j, x = .str i ∧ y = .str j ∧ Q (.bl (!(Builtin.Str.occurrences j i 0 j.length 1).isEmpty)) H) x y H Q
  | .NotIn => fun x y H Q => (rNotInD K x y H Q ∨ rInT K true x y H Q) ∨ (fun x y H Q => ∃ i j, x = .str i ∧ y = .str j ∧ Q (.bl (!(!(Builtin.Str.occurrences j i 0 j.length 1).isEmpty))) H) x y H Q
theorem op_cmp (op : CmpOp) (hu : X.A.units + 65 < cLine) : OpR X (compareOp op) (rC X.K op) := by
  cases op <;> first
    | exact op_eqD (by omega)
    | exact op_neD (by omega)
    | exact op_lt
    | exact op_le
    | exact op_gt
    | exact op_ge
    | exact op_isN.or op_isBl
    | exact op_notN.or op_notBl
    | exact ((op_inD hu).or (op_inT hu)).or op_in_str
    | exact ((op_notInD hu).or (op_notInT hu)).or op_notin_str
end
section
variable {K : PySem.W.Frag} {G G1 G2 G' H H1 H2 H' : Hp} {σ σ1 σ2 σ' : L2.St} {r r1 r2 r' : EV} {W : Nat → L2.St → Hp → Prop} {α β : Type} {F : Fs}
theorem OV.dp {d : PyData} {v : V} (s : SR K G H σ r) (h : OV K G H v d) (c : SeqAt.shaped d = true) : Dp K H v d := Rp.dp (h.rp s (SeqAt.canLay_of_shaped c)) (SeqAt.canLay_of_shaped c)
theorem eq_go {d d' : PyData} {x y : V} {k : Bool} (s : SR K G H σ r) (hx : OV K G H x d) (hy : OV K G H y d') (e : eqD d d' = some k) : Dp K H x d ∧ Dp K H y d' ∧ SeqAt.shaped d = true ∧ SeqAt.shaped d' = true ∧ PyData.eqv d d' = k := by
  unfold eqD at e
  split at e
  · rename_i c
    cases e
    obtain ⟨c1, c2⟩ := Bool.and_eq_true_iff.mp c
    exact ⟨hx.dp s c1, hy.dp s c2, c1, c2, rfl⟩
  · cases e
theorem is_go {d d' : PyData} {x y : V} {k : Bool} (s : SR K G H σ r) (hx : OV K G H x d) (hy : OV K G H y d') (e : isD d d' = some k) : (y = .non ∧ decide (x = .non) = k) ∨ ∃ a b : Bool, x = .bl a ∧ y = .bl b ∧ decide (a = b) = k := by
  unfold isD at e
  split at e <;> cases e
  · exact .inl ⟨hy.non, by rw [hx.non]; rfl⟩
  · exact .inl ⟨hy.non, by rw [hx.bl]; rfl⟩
  · exact .inl ⟨hy.non, by rw [hx.int]; rfl⟩
  · exact .inl ⟨hy.non, by rw [hx.str]; rfl⟩
  · obtain ⟨a, vs, e, _⟩ := hx.lst s
    exact .inl ⟨hy.non, by rw [e]; rfl⟩
  · obtain ⟨a, vs, e, _⟩ := hx.tup s
    exact .inl ⟨hy.non, by rw [e]; rfl⟩
  · rcases hx with hx | ⟨_, _, _, _, e, _⟩
    · cases hx with
      | obj a => exact .inl ⟨hy.non, rfl⟩
    · cases e
  · exact .inr ⟨_, _, hx.bl, hy.bl, by rw [Bool.beq_eq_decide_eq]⟩
theorem in_go {d d' : PyData} {x y : V} {k : Bool} (s : SR K G H σ r) (hx : OV K G H x d) (hy : OV K G H y d') (e : inD d d' = some k) :
    (∃ ds, Dp K H x d ∧ Dp K H y (.list ds) ∧ SeqAt.shaped d = true ∧ SeqAt.shaped (.list ds) = true ∧ (ds.any fun z => PyData.eqv z d) = k) ∨ (∃ ds, Dp K H x d ∧ Dp K H y (.tuple ds) ∧ SeqAt.shaped d = true ∧ SeqAt.shaped (.tuple ds) = true ∧ (ds.any fun z => PyData.eqv z d) = k) ∨ ∃ i j, x = .str i ∧ y = .str j ∧ (!(Builtin.Str.occurrences j i 0 j.length 1).isEmpty) = k := by
  unfold inD at e
  split at e
  · split at e
    · rename_i c
      cases e
      obtain ⟨c1, c2⟩ := Bool.and_eq_true_iff.mp c
      exact .inl ⟨_, hx.dp s c1, hy.dp s c2, c1, c2, rfl⟩
    · cases e
  · split at e
    · rename_i c
      cases e
      obtain ⟨c1, c2⟩ := Bool.and_eq_true_iff.mp c
      exact .inr (.inl ⟨_, hx.dp s c1, hy.dp s c2, c1, c2, rfl⟩)
    · cases e
  · split at e
    · cases e
      exact .inr (.inr ⟨_, _, hx.str, hy.str, rfl⟩)
    · cases e
  · cases e
theorem cmp_go {op : CmpOp} {x y : V} {d d' : PyData} {k : Bool} {Q : VK} (s : SR K G H σ r) (hx : OV K G H x d) (hy : OV K G H y d') (e : cmpD op d d' = some k) (q : Q (.bl k) H) : rC K op x y H Q := by
  unfold cmpD at e
  split at e
  · obtain ⟨h1, h2, h3, h4, rfl⟩ := eq_go s hx hy e
    exact ⟨_, _, h1, h2, h3, h4, q⟩
  · obtain ⟨k', e', rfl⟩ := Option.map_eq_some_iff.mp e
    obtain ⟨h1, h2, h3, h4, rfl⟩ := eq_go s hx hy e'
    exact ⟨_, _, h1, h2, h3, h4, q⟩
  · cases e; exact ⟨_, _, hx.int, hy.int, q⟩
  · cases e; exact ⟨_, _, hx.int, hy.int, q⟩
  · cases e; exact ⟨_, _, hx.int, hy.int, q⟩
  · cases e; exact ⟨_, _, hx.int, hy.int, q⟩
  · rcases is_go s hx hy e with ⟨h1, rfl⟩ | ⟨a, b, h1, h2, rfl⟩
    · exact .inl ⟨h1, q⟩
    · exact .inr ⟨a, b, h1, h2, q⟩
  · obtain ⟨k', e', rfl⟩ := Option.map_eq_some_iff.mp e
    rcases is_go s hx hy e' with ⟨h1, rfl⟩ | ⟨a, b, h1, h2, rfl⟩
    · exact .inl ⟨h1, q⟩
    · exact .inr ⟨a, b, h1, h2, q⟩
  · rcases in_go s hx hy e with ⟨ds, h1, h2, h3, h4, rfl⟩ | ⟨ds, h1, h2, h3, h4, rfl⟩ | ⟨i, j, h1, h2, rfl⟩
    · exact .inl (.inl ⟨_, _, h1, h2, h3, h4, q⟩)
    · exact .inl (.inr ⟨_, _, h1, h2, h3, h4, q⟩)
    · exact .inr ⟨i, j, h1, h2, q⟩
  · obtain ⟨k', e', rfl⟩ := Option.map_eq_some_iff.mp e
    rcases in_go s hx hy e' with ⟨ds, h1, h2, h3, h4, rfl⟩ | ⟨ds, h1, h2, h3, h4, rfl⟩ | ⟨i, j, h1, h2, rfl⟩
    · exact .inl (.inl ⟨_, _, h1, h2, h3, h4, q⟩)
    · exact .inl (.inr ⟨_, _, h1, h2, h3, h4, q⟩)
    · exact .inr ⟨i, j, h1, h2, q⟩
  · cases e
theorem tru_go {x : V} {d : PyData} {k : Bool} (s : SR K G H σ r) (hx : OV K G H x d) (e : truD d = some k) : TruV K x H k := by
  unfold truD at e
  split at e
  · cases e; rw [hx.non]; rfl
  · cases e; rw [hx.bl]; rfl
  · cases e; rw [hx.int]; rfl
  · rename_i y
    split at e
    · rename_i z
      cases e
      rw [hx.str]
      exact ⟨z, by cases y.length <;> rfl⟩
    · cases e
  · cases e
    obtain ⟨a, vs, e, h1, h2⟩ := hx.lst s
    subst e
    refine .inl ⟨vs, SqL.of h1, ?_⟩
    cases h2 <;> rfl
  · cases e
    obtain ⟨a, vs, e, h1, h2, _⟩ := hx.tup s
    subst e
    refine .inr (.inl ⟨vs, SqT.of h1, ?_⟩)
    cases h2 <;> rfl
  · cases e
end

/-! ### the rules -/
section
variable {X : Cx} {F : Fs} {W : Nat → L2.St → Hp → Prop} {pos : Pos}
theorem s_int {i : Int} {j : Nat} : PE X (.Constant (.int i) j pos) (tV X.K F W (.cst (.int i))) := PE.imp pe_int fun σ H Q ⟨G, r, s, h⟩ => by
  rw [ev] at h; exact h G H s Stp.refl _ (Rp.int i)
theorem s_bl {i : Bool} {j : Nat} : PE X (.Constant (.bool i) j pos) (tV X.K F W (.cst (.bool i))) := PE.imp pe_bl fun σ H Q ⟨G, r, s, h⟩ => by
  rw [ev] at h; exact h G H s Stp.refl _ (Rp.bl i)
theorem s_non {j : Nat} : PE X (.Constant .none j pos) (tV X.K F W (.cst .none)) := PE.imp pe_non fun σ H Q ⟨G, r, s, h⟩ => by
  rw [ev] at h; exact h G H s Stp.refl _ Rp.non
theorem s_str {x : Str} {j : Nat} : PE X (.Constant (.str x) j pos) (tV X.K F W (.cst (.str x))) := PE.imp pe_str fun σ H Q ⟨G, r, s, h⟩ => by
  rw [ev] at h; exact h G H s Stp.refl _ (Rp.str x)
theorem s_opd {e : Expr} {ce : CE} (hc : ∀ i, ce ≠ .var i) (h : PE X e (tV X.K F W ce)) (hc2 : ∀ k i, ce ≠ .res k (.var i) := by intro k i h; cases h) : PE X e (tO X.K F W ce) := by
  refine PE.imp h fun σ H Q ⟨G, r, s, h⟩ => ⟨G, r, s, ?_⟩
  have e : ∃ f : PyData → Opd, (∀ d v G, OR X.K G σ v (f d) = Rp X.K G v d) ∧ mkO ce r (ev F ce r) = (ev F ce r).bnd fun v r' => .ok (f v.toD) r' := by
    unfold mkO
    split
    · exact absurd rfl (hc _)
    · exact absurd rfl (hc2 _ _)
    · exact ⟨.datR _, fun _ _ _ => rfl, rfl⟩
    · exact ⟨.dat, fun _ _ _ => rfl, rfl⟩
  obtain ⟨f, hf, e⟩ := e
  rw [e] at h
  refine h.bnd.imp fun val r1 G1 H1 s1 t1 h1 v hv => ?_
  obtain ⟨G2, s2, t2, e2, p2⟩ := frzV s1 t1 hv
  exact h1 G2 H1 s2 t2 v ((hf _ _ _).mpr p2)
end
end SC

set_option Elab.async false
set_option maxRecDepth 100000
namespace SC
open PySem L2

def clen : CE → Nat
  | .cons _ es => clen es + 1
  | _ => 0
theorem evs_len {F : Fs} : ∀ {ce : CE} {r r' : EV} {ds : List PyData}, evs F ce r = .ok ds r' → ds.length = clen ce := by
  intro ce
  induction ce with
  | nil => intro r r' ds h; rw [evs] at h; cases h; rfl
  | cons e es ih1 ih2 =>
    intro r r' ds h
    rw [evs] at h
    cases q : ev F e r with
    | ok v r1 =>
      rw [q] at h
      cases q2 : evs F es r1 with
      | ok ds' r2 =>
        rw [bnd_ok, q2] at h
        cases h
        rw [List.length_cons, ih2 q2]; rfl
      | exc c r2 => rw [bnd_ok, q2] at h; cases h
      | bad => rw [bnd_ok, q2] at h; cases h
    | exc c r2 => rw [q] at h; cases h
    | bad => rw [q] at h; cases h
  | _ => intro r r' ds h; simp [evs] at h

section
variable {X : Cx} {F : Fs} {W : Nat → L2.St → Hp → Prop} {pos : Pos} {a b c e : Expr} {ca cb cc ce ces : CE} {es : List Expr}
/-! ### argument lists -/
theorem s_nil : PA X [] (tVs X.K F W .nil) := PA.imp pa_nil fun σ H Q ⟨G, r, s, h⟩ => by
  rw [evs] at h; exact h G H s Stp.refl _ .nil
theorem s_nilO : PA X [] (tOs X.K F W .nil) := PA.imp pa_nil fun σ H Q ⟨G, r, s, h⟩ => by
  rw [evO] at h; exact h G H s Stp.refl _ .nil
theorem star_ok {e : Expr} {es : List Expr} {env : Env} (h : PySem.W.isStarred e = false) : starEach (e :: es) env = (false, eval e env) :: starEach es env := by
  cases e <;> first | rfl | cases h
theorem s_cons (hs : PySem.W.isStarred e = false) (h1 : PE X e (tV X.K F W ce)) (h2 : PA X es (tVs X.K F W ces)) : PA X (e :: es) (tVs X.K F W (.cons ce ces)) := by
  refine PA.imp (pa_cons h1 h2 (star_ok hs)) fun σ H Q ⟨G, r, s, h⟩ => ⟨G, r, s, ?_⟩
  rw [evs] at h
  refine h.bnd.imp fun val r1 G1 H1 s1 t1 h1 v hv => ?_
  obtain ⟨G2, s2, t2, e2, p2⟩ := frzV s1 t1 hv
  refine ⟨G2, r1, s2, (h1.rebase t2).bnd.imp fun ds r3 G3 H3 s3 t3 h3 vs hvs => ?_⟩
  exact (h3.rebase t3) G3 H3 s3 Stp.refl _ (.cons (p2.mono t3.ex) hvs)
theorem s_consO (hs : PySem.W.isStarred e = false) (h1 : PE X e (tO X.K F W ce)) (h2 : PA X es (tOs X.K F W ces)) : PA X (e :: es) (tOs X.K F W (.cons ce ces)) := by
  refine PA.imp (pa_cons h1 h2 (star_ok hs)) fun σ H Q ⟨G, r, s, h⟩ => ⟨G, r, s, ?_⟩
  rw [evO] at h
  refine h.bnd.imp fun o r1 G1 H1 s1 t1 h1 v hv => ?_
  refine ⟨G1, r1, s1, (h1.rebase t1).bnd.imp fun ds r3 G3 H3 s3 t3 h3 vs hvs => ?_⟩
  exact (h3.rebase t3) G3 H3 s3 Stp.refl _ (.cons (hv.mono t3.ex) hvs)

/-! ### displays -/
theorem s_tup {k : Nat} (hl : clen ces ≤ sizeLine) (h : PA X es (tVs X.K F W ces)) : PE X (.Tuple es k pos) (tV X.K F W (.tup ces)) := by
  refine PE.imp (pe_tup h) fun σ H Q ⟨G, r, s, h⟩ => ⟨G, r, s, ?_⟩
  rw [ev] at h
  refine (h.bnd.eqn (P := fun ds => ds.length = clen ces) fun ds r' e => evs_len e).imp fun ds r1 G1 H1 s1 t1 ⟨hl', h1⟩ vs hvs => ?_
  have z : vs.length ≤ sizeLine := by rw [hvs.length, hl']; exact hl
  refine ⟨z, fun p hp => ?_⟩
  exact Kv.tup (fun v G' H' s' t' hv => (h1.rebase t1) G' H' s' t' v hv) s1 hvs z hp
theorem s_lst (hl : clen ces ≤ sizeLine) (h : PA X es (tVs X.K F W ces)) : PE X (.List es pos) (tV X.K F W (.lst ces)) := by
  refine PE.imp (pe_lst h) fun σ H Q ⟨G, r, s, h⟩ => ⟨G, r, s, ?_⟩
  rw [ev] at h
  refine (h.bnd.eqn (P := fun ds => ds.length = clen ces) fun ds r' e => evs_len e).imp fun ds r1 G1 H1 s1 t1 ⟨hl', h1⟩ vs hvs => ?_
  have z : vs.length ≤ sizeLine := by rw [hvs.length, hl']; exact hl
  refine ⟨z, fun p hp => ?_⟩
  exact Kv.lst (fun v G' H' s' t' hv => (h1.rebase t1) G' H' s' t' v (hv.base t1)) s1 hvs z hp

/-! ### operators -/
theorem s_bin {op : Operator} (ha : PE X a (tO X.K F W ca)) (hb : PE X b (tO X.K F W cb)) : PE X (.BinOp a op b pos) (tV X.K F W (.bin op ca cb)) := by
  refine PE.imp (pe_op (op_bin op) ha hb) fun σ H Q ⟨G, r, s, h⟩ => ?_
  rw [ev] at h
  refine op2_go s h fun x y d d' r2 G2 H2 s2 t2 hx hy h2 => ?_
  obtain ⟨val, e, k⟩ := h2.kv s2 t2
  exact bin_go s2 hx hy e k
theorem s_neg (ha : PE X a (tO X.K F W ca)) : PE X (.UnaryOp .USub a pos) (tV X.K F W (.neg ca)) := by
  refine PE.imp (pe_un un_neg ha) fun σ H Q ⟨G, r, s, h⟩ => ?_
  rw [ev] at h
  refine op1_go s h fun x d r2 G2 H2 s2 t2 hx h2 => ?_
  cases d with
  | int i => exact ⟨i, hx.int, h2 G2 H2 s2 Stp.refl _ (Rp.int _)⟩
  | _ => exact h2.elim
theorem s_cmp {op : CmpOp} (hu : X.A.units + 65 < cLine) (hm : behindInMarks op b = false) (ha : PE X a (tO X.K F W ca)) (hb : PE X b (tO X.K F W cb)) : PE X (.Compare a [op] [b] pos) (tV X.K F W (.cmp op ca cb)) := by
  refine PE.imp (pe_cmpR (op_cmp op hu) ha hb hm) fun σ H Q ⟨G, r, s, h⟩ => ?_
  rw [ev] at h
  refine op2_go s h fun x y d d' r2 G2 H2 s2 t2 hx hy h2 => ?_
  obtain ⟨val, e, k⟩ := h2.kv s2 t2
  obtain ⟨kb, e1, rfl⟩ := Option.map_eq_some_iff.mp e
  exact cmp_go s2 hx hy e1 (k.fz s2 (.bl kb))
/-- a test by a value that is a truth -/
theorem tval_read {K : PySem.W.Frag} {σ : L2.St} {H : Hp} {Q : Bool → Hp → Prop} (hc : ∀ i, ce ≠ .var i) (hb : ∀ r val r', ev F ce r = .ok val r' → ∃ k, val = .fz (.bool k)) (h : tT K F W (.tval ce) σ H Q) (hc2 : ∀ k e, ce ≠ .res k e := by intro k e h; cases h) :
    tV K F W ce σ H fun x H' => ∃ k, x = .bl k ∧ Q k H' := by
  obtain ⟨G, r, s, h⟩ := h
  refine ⟨G, r, s, ?_⟩
  rw [evT] at h
  have e : mkO ce r (ev F ce r) = (ev F ce r).bnd fun v r' => .ok (.dat v.toD) r' := by
    unfold mkO
    split
    · exact absurd rfl (hc _)
    · exact absurd rfl (hc2 _ _)
    · exact absurd rfl (hc2 _ _)
    · rfl
  rw [e] at h
  refine (h.bnd.bnd.eqn (P := fun val => ∃ k, val = .fz (.bool k)) fun val r' q => hb r val r' q).imp fun val r1 G1 H1 s1 t1 ⟨⟨k, hk⟩, h1⟩ v hv => ?_
  subst hk
  have h2 := h1 G1 H1 s1 t1
  have hv : Rp K G1 v (.bool k) := hv
  cases hv
  exact ⟨k, rfl, h2 G1 H1 s1 t1⟩
theorem op2_val {P : Val → Prop} {f : PyData → PyData → EV → Out Val} {x : Out Val} {y : EV → Out Val} (hf : ∀ d d' r val r', f d d' r = .ok val r' → P val) {r r' : EV} {val : Val} (h : op2 ca cb r x y f = .ok val r') : P val := by
  unfold op2 at h
  cases q1 : mkO ca r x with
  | ok o r1 =>
    rw [q1, bnd_ok] at h
    cases q2 : mkO cb r1 (y r1) with
    | ok o' r2 =>
      rw [q2, bnd_ok] at h
      cases q3 : opd r2 o with
      | none => rw [q3] at h; cases h
      | some d =>
        cases q4 : opd r2 o' with
        | none => rw [q3, q4] at h; cases h
        | some d' => rw [q3, q4] at h; exact hf _ _ _ _ _ h
    | exc c r2 => rw [q2] at h; cases h
    | bad => rw [q2] at h; cases h
  | exc c r2 => rw [q1] at h; cases h
  | bad => rw [q1] at h; cases h
theorem op1_val {P : Val → Prop} {f : PyData → EV → Out Val} {x : Out Val} (hf : ∀ d r val r', f d r = .ok val r' → P val) {r r' : EV} {val : Val} (h : op1 ca r x f = .ok val r') : P val := by
  unfold op1 at h
  cases q1 : mkO ca r x with
  | ok o r1 =>
    rw [q1, bnd_ok] at h
    cases q3 : opd r1 o with
    | none => rw [q3] at h; cases h
    | some d => rw [q3] at h; exact hf _ _ _ _ h
  | exc c r2 => rw [q1] at h; cases h
  | bad => rw [q1] at h; cases h
theorem of_bool {o : Option Bool} {r r' : EV} {val : Val} (h : Out.of (o.map fun k => Val.fz (.bool k)) r = .ok val r') : ∃ k, val = .fz (.bool k) := by
  cases o with
  | none => cases h
  | some k => cases h; exact ⟨k, rfl⟩
theorem cmp_read {op : CmpOp} {K : PySem.W.Frag} {σ : L2.St} {H : Hp} {Q : VK} (h : tV K F W (.cmp op ca cb) σ H Q) : tOp (rC K op) (tO K F W ca) (tO K F W cb) σ H Q := by
  obtain ⟨G, r, s, h⟩ := h
  rw [ev] at h
  refine op2_go s h fun x y d d' r2 G2 H2 s2 t2 hx hy h2 => ?_
  obtain ⟨val, e, k⟩ := h2.kv s2 t2
  obtain ⟨kb, e1, rfl⟩ := Option.map_eq_some_iff.mp e
  exact cmp_go s2 hx hy e1 (k.fz s2 (.bl kb))
theorem s_cmpT {op : CmpOp} (hu : X.A.units + 65 < cLine) (hm : behindInMarks op b = false) (ha : PE X a (tO X.K F W ca)) (hb : PE X b (tO X.K F W cb)) : PT X (.Compare a [op] [b] pos) (tT X.K F W (.tval (.cmp op ca cb))) := by
  refine PT.imp (pt_cmpR (op_cmp op hu) ha hb hm) fun σ H Q h => ?_
  refine cmp_read (tval_read (fun i q => nomatch q) (fun r val r' q => ?_) h)
  rw [ev] at q
  exact op2_val (fun _ _ _ _ _ z => of_bool z) q
theorem chain_read {op op' : CmpOp} {K : PySem.W.Frag} {σ : L2.St} {H : Hp} {Q : VK} (h : tV K F W (.chain op op' ca cb cc) σ H Q) : tChain (rC K op) (rC K op') (tO K F W ca) (tO K F W cb) (tO K F W cc) σ H Q := by
  obtain ⟨G, r, s, h⟩ := h
  rw [ev] at h
  refine op2_go s h fun x y d d' r2 G2 H2 s2 t2 hx hy h2 => ?_
  obtain ⟨k, e1, h3⟩ := h2.ofB
  refine cmp_go s2 hx hy e1 ⟨k, rfl, ?_⟩
  cases k with
  | false => exact iteF (h3 G2 H2 s2 Stp.refl _ (Rp.bl false))
  | true =>
    refine iteT ?_
    rw [if_pos rfl] at h3
    cases d' with
    | int j =>
      refine op1_go s2 h3 fun z d'' r4 G4 H4 s4 t4 hz h4 => ?_
      obtain ⟨val, e, k⟩ := h4.kv s4 (t2.trans t4)
      obtain ⟨kb, e1, rfl⟩ := Option.map_eq_some_iff.mp e
      have hy' := hy.int
      subst hy'
      exact cmp_go s4 (.inl (.int j)) hz e1 (k.fz s4 (.bl kb))
    | _ => exact h3.elim
theorem s_chain {op op' : CmpOp} (hu : X.A.units + 65 < cLine) (hm : behindInMarks op' c = false) (ha : PE X a (tO X.K F W ca)) (hb : PE X b (tO X.K F W cb)) (hc : PE X c (tO X.K F W cc)) : PE X (.Compare a [op, op'] [b, c] pos) (tV X.K F W (.chain op op' ca cb cc)) :=
  PE.imp (pe_chain (op_cmp op hu) (op_cmp op' hu) ha hb hc hm) fun σ H Q h => chain_read h
theorem s_chainT {op op' : CmpOp} (hu : X.A.units + 65 < cLine) (hm : behindInMarks op' c = false) (ha : PE X a (tO X.K F W ca)) (hb : PE X b (tO X.K F W cb)) (hc : PE X c (tO X.K F W cc)) : PT X (.Compare a [op, op'] [b, c] pos) (tT X.K F W (.tval (.chain op op' ca cb cc))) := by
  refine PT.imp (pt_chain (op_cmp op hu) (op_cmp op' hu) ha hb hc hm) fun σ H Q h => ?_
  refine chain_read (tval_read (fun i q => nomatch q) (fun r val r' q => ?_) h)
  rw [ev] at q
  refine op2_val (P := fun val => ∃ k, val = Val.fz (PyData.bool k)) (fun d d' r val r' z => ?_) q
  cases q1 : cmpD op d d' with
  | none => rw [q1] at z; cases z
  | some k =>
    rw [q1] at z
    cases k with
    | false => cases z; exact ⟨_, rfl⟩
    | true =>
      cases d' with
      | int j => exact op1_val (fun _ _ _ _ w => of_bool w) z
      | _ => cases z
/-! ### a op b op' c op'' d -/
def tChain3 (r r' r'' : R2) (ta tb tc td : TE) : TE := fun σ H Q => ta σ H fun x H1 => tb σ H1 fun y H2 => r x y H2 fun z H3 => ∃ k, z = .bl k ∧
  (if k = true then tc σ H3 fun u H4 => r' y u H4 fun z' H5 => ∃ k', z' = .bl k' ∧ (if k' = true then td σ H5 fun v H6 => r'' u v H6 Q else Q (.bl false) H5) else Q (.bl false) H3)
theorem pe_chain3 {X : Cx} {a b c d : Expr} {pos : Pos} {ta tb tc td : TE} {op op' op'' : CmpOp} {r r' r'' : R2} (ho : OpR X (compareOp op) r) (ho' : OpR X (compareOp op') r') (ho'' : OpR X (compareOp op'') r'') (ha : PE X a ta) (hb : PE X b tb) (hc : PE X c tc) (hd : PE X d td)
    (hm : lastMarks [op, op', op''] [b, c, d] = false) : PE X (.Compare a [op, op', op''] [b, c, d] pos) (tChain3 r r' r'' ta tb tc td) := by
  refine ⟨fun pins s σ H Q I h => ?_⟩
  refine PyProof.Rows.Compare_chain (thn (ha.run pins s σ H _ I h) fun v s1 ⟨x, H1, I1, r1, q1⟩ => PyProof.Rows.chain_link (thn (hb.run pins s1 σ H1 _ I1 q1) fun u s2 ⟨y, H2, I2, r2, q2⟩ =>
    thn (ho pins s2 σ H2 x y v u _ I2 r1 r2 q2) fun dd s3 ⟨z, H3, I3, r3, k, e, q3⟩ => ?_)) hm
  subst e
  cases r3
  refine wpAny_truthy_bool ?_
  cases k with
  | false => exact PyProof.Rows.ite_ff ⟨.bl false, H3, I3, rfl, q3⟩
  | true =>
    refine PyProof.Rows.ite_tt (PyProof.Rows.chain_link (thn (hc.run pins s3 σ H3 _ I3 q3) fun w' s4 ⟨z', H4, I4, r4, q4⟩ => thn (ho' pins s4 σ H4 y z' u w' _ I4 r2 r4 q4) fun dd s5 ⟨z5, H5, I5, r5, k5, e5, q5⟩ => ?_))
    subst e5
    cases r5
    refine wpAny_truthy_bool ?_
    cases k5 with
    | false => exact PyProof.Rows.ite_ff ⟨.bl false, H5, I5, rfl, q5⟩
    | true => exact PyProof.Rows.ite_tt (PyProof.Rows.chain_last (thn (hd.run pins s5 σ H5 _ I5 q5) fun w6 s6 ⟨z6, H6, I6, r6, q6⟩ => ho'' pins s6 σ H6 z' z6 w' w6 Q I6 r4 r6 q6))
theorem s_chain3 {d : Expr} {cd : CE} {op op' op'' : CmpOp} (hu : X.A.units + 65 < cLine) (hm : behindInMarks op'' d = false) (ha : PE X a (tO X.K F W ca)) (hb : PE X b (tO X.K F W cb)) (hc : PE X c (tO X.K F W cc)) (hd : PE X d (tO X.K F W cd)) :
    PE X (.Compare a [op, op', op''] [b, c, d] pos) (tV X.K F W (.chain3 op op' op'' ca cb cc cd)) := by
  refine PE.imp (pe_chain3 (op_cmp op hu) (op_cmp op' hu) (op_cmp op'' hu) ha hb hc hd hm) fun σ H Q ⟨G, r, s, h⟩ => ?_
  rw [ev] at h
  refine op2_go s h fun x y d d' r2 G2 H2 s2 t2 hx hy h2 => ?_
  obtain ⟨k, e1, h3⟩ := h2.ofB
  refine cmp_go s2 hx hy e1 ⟨k, rfl, ?_⟩
  cases k with
  | false => exact iteF (h3 G2 H2 s2 Stp.refl _ (Rp.bl false))
  | true =>
    refine iteT ?_
    rw [if_pos rfl] at h3
    cases d' with
    | int j =>
      have hy' := hy.int
      subst hy'
      refine op1_go s2 h3 fun z d'' r4 G4 H4 s4 t4 hz h4 => ?_
      obtain ⟨k2, e2, h5⟩ := h4.ofB
      refine cmp_go s4 (.inl (.int j)) hz e2 ⟨k2, rfl, ?_⟩
      cases k2 with
      | false => exact iteF (h5 G4 H4 s4 Stp.refl _ (Rp.bl false))
      | true =>
        refine iteT ?_
        rw [if_pos rfl] at h5
        cases d'' with
        | int i =>
          have hz' := hz.int
          subst hz'
          refine op1_go s4 h5 fun z6 d6 r6 G6 H6 s6 t6 hz6 h6 => ?_
          obtain ⟨val, e6, k⟩ := h6.kv s6 (t2.trans (t4.trans t6))
          obtain ⟨kb, e7, rfl⟩ := Option.map_eq_some_iff.mp e6
          exact cmp_go s6 (.inl (.int i)) hz6 e7 (k.fz s6 (.bl kb))
        | _ => exact h5.elim
    | _ => exact h3.elim
/-! ### and, or, not, if -/
theorem s_and {rest : List Expr} (ha : PE X a (tV X.K F W ca)) (hb : PE X (.BoolOp .And (b :: rest) pos) (tV X.K F W cb)) : PE X (.BoolOp .And (a :: b :: rest) pos) (tV X.K F W (.and ca cb)) := by
  refine PE.imp (pe_andT ha hb) fun σ H Q ⟨G, r, s, h⟩ => ⟨G, r, s, ?_⟩
  rw [ev] at h
  refine h.bnd.imp fun val r1 G1 H1 s1 t1 h1 v hv => ?_
  obtain ⟨G2, s2, t2, e2, p2⟩ := frzV s1 t1 hv
  obtain ⟨k, e1, h3⟩ := h1.ofB
  refine ⟨k, tru_go s2 (.inl p2) e1, ?_⟩
  cases k with
  | true => exact iteT ⟨G2, r1, s2, ((h3 : Gd _ _ _ _ _ _ (ev F cb r1) _).rebase t2).imp fun val r3 G3 H3 s3 t3 h5 w hw => h5 w (hw.base t2)⟩
  | false => exact iteF (h3 G2 H1 s2 t2 v p2)
theorem s_or {rest : List Expr} (ha : PE X a (tV X.K F W ca)) (hb : PE X (.BoolOp .Or (b :: rest) pos) (tV X.K F W cb)) : PE X (.BoolOp .Or (a :: b :: rest) pos) (tV X.K F W (.or ca cb)) := by
  refine PE.imp (pe_orT ha hb) fun σ H Q ⟨G, r, s, h⟩ => ⟨G, r, s, ?_⟩
  rw [ev] at h
  refine h.bnd.imp fun val r1 G1 H1 s1 t1 h1 v hv => ?_
  obtain ⟨G2, s2, t2, e2, p2⟩ := frzV s1 t1 hv
  obtain ⟨k, e1, h3⟩ := h1.ofB
  refine ⟨k, tru_go s2 (.inl p2) e1, ?_⟩
  cases k with
  | false => exact iteF ⟨G2, r1, s2, ((h3 : Gd _ _ _ _ _ _ (ev F cb r1) _).rebase t2).imp fun val r3 G3 H3 s3 t3 h5 w hw => h5 w (hw.base t2)⟩
  | true => exact iteT (h3 G2 H1 s2 t2 v p2)
theorem s_not (ha : PE X a (tO X.K F W ca)) : PE X (.UnaryOp .Not a pos) (tV X.K F W (.not ca)) := by
  refine PE.imp (pe_notT ha) fun σ H Q ⟨G, r, s, h⟩ => ?_
  rw [ev] at h
  refine op1_go s h fun x d r2 G2 H2 s2 t2 hx h2 => ?_
  obtain ⟨val, e, k⟩ := h2.kv s2 t2
  obtain ⟨kb, e1, rfl⟩ := Option.map_eq_some_iff.mp e
  exact ⟨kb, tru_go s2 hx e1, k.fz s2 (.bl _)⟩
theorem s_ite (hc : PT X c (tT X.K F W cc)) (ha : PE X a (tV X.K F W ca)) (hb : PE X b (tV X.K F W cb)) : PE X (.IfExp c a b pos) (tV X.K F W (.ite cc ca cb)) := by
  refine PE.imp (pe_ifExp hc ha hb) fun σ H Q ⟨G, r, s, h⟩ => ⟨G, r, s, ?_⟩
  rw [ev] at h
  refine h.bnd.imp fun k r1 G1 H1 s1 t1 h1 => ?_
  cases k with
  | true => exact iteT ⟨G1, r1, s1, ((h1 : Gd _ _ _ _ _ _ (ev F ca r1) _).rebase t1).imp fun val r3 G3 H3 s3 t3 h5 w hw => h5 w (hw.base t1)⟩
  | false => exact iteF ⟨G1, r1, s1, ((h1 : Gd _ _ _ _ _ _ (ev F cb r1) _).rebase t1).imp fun val r3 G3 H3 s3 t3 h5 w hw => h5 w (hw.base t1)⟩
/-! ### tests -/
theorem t_and {rest : List Expr} (ha : PT X a (tT X.K F W ca)) (hb : PW X (.BoolOp .And (b :: rest) pos) (tT X.K F W cb)) : PW X (.BoolOp .And (a :: b :: rest) pos) (tT X.K F W (.tand ca cb)) := by
  refine PW.imp (pw_and ha hb) fun σ H Q ⟨G, r, s, h⟩ => ⟨G, r, s, ?_⟩
  rw [evT] at h
  refine h.bnd.imp fun k r1 G1 H1 s1 t1 h1 => ?_
  cases k with
  | true => exact iteT ⟨G1, r1, s1, (h1 : Gd _ _ _ _ _ _ (evT F cb r1) _).rebase t1⟩
  | false => exact iteF ((h1 : Gd _ _ _ _ _ _ (.ok false r1) _) G1 H1 s1 t1)
theorem t_or {rest : List Expr} (ha : PT X a (tT X.K F W ca)) (hb : PW X (.BoolOp .Or (b :: rest) pos) (tT X.K F W cb)) : PW X (.BoolOp .Or (a :: b :: rest) pos) (tT X.K F W (.tor ca cb)) := by
  refine PW.imp (pw_or ha hb) fun σ H Q ⟨G, r, s, h⟩ => ⟨G, r, s, ?_⟩
  rw [evT] at h
  refine h.bnd.imp fun k r1 G1 H1 s1 t1 h1 => ?_
  cases k with
  | false => exact iteF ⟨G1, r1, s1, (h1 : Gd _ _ _ _ _ _ (evT F cb r1) _).rebase t1⟩
  | true => exact iteT ((h1 : Gd _ _ _ _ _ _ (.ok true r1) _) G1 H1 s1 t1)
theorem t_not (ha : PT X a (tT X.K F W ca)) : PT X (.UnaryOp .Not a pos) (tT X.K F W (.tnot ca)) := by
  refine PT.imp (pt_not ha) fun σ H Q ⟨G, r, s, h⟩ => ⟨G, r, s, ?_⟩
  rw [evT] at h
  exact h.bnd.imp fun k r1 G1 H1 s1 t1 h1 => (h1 : Gd _ _ _ _ _ _ (.ok (!k) r1) _) G1 H1 s1 t1
theorem t_val (ha : PE X a (tO X.K F W ca)) (he : ∀ whole, isTrue a X.env whole = (do let v ← whole; standAt a.pos; holding [v] (truthy v))) : PT X a (tT X.K F W (.tval ca)) := by
  refine PT.imp (pt_truth ha he) fun σ H Q ⟨G, r, s, h⟩ => ⟨G, r, s, ?_⟩
  rw [evT] at h
  refine h.bnd.imp fun o r1 G1 H1 s1 t1 h1 v hv => ?_
  obtain ⟨d, e1, h2⟩ := h1.ofB
  cases q : truD d with
  | none => rw [q] at h2; exact h2.elim
  | some k =>
    rw [q] at h2
    exact ⟨k, tru_go s1 (hv.ov s1 e1) q, h2 G1 H1 s1 t1⟩
theorem t_bad : PT X e (tT X.K F W .bad) := ⟨fun _ _ _ _ _ _ ⟨_, _, _, h⟩ => h.elim⟩
/-! ### subscripts -/
theorem atI_len {α β : Type} {xs : List α} {ys : List β} {i : Int} {x : α} (hl : xs.length = ys.length) (h : atI xs i = some x) : ∃ j : Nat, xs[j]? = some x ∧ ∀ y, ys[j]? = some y → atI ys i = some y := by
  unfold atI at h ⊢
  rw [← hl]
  cases q : ixN xs.length i with
  | none => rw [q] at h; cases h
  | some j => rw [q] at h; exact ⟨j, h, fun y hy => hy⟩
theorem idx_go {K : PySem.W.Frag} {G H : Hp} {σ : L2.St} {r : EV} {x y : V} {d d' d'' : PyData} {Q : VK} (s : SR K G H σ r) (hx : OV K G H x d) (hy : OV K G H y d') (e : idxD d d' = some d'') (k : ∀ v, Rp K G v d'' → Q v H) : rIx K x y H Q := by
  unfold idxD at e
  split at e
  · obtain ⟨a, vs, e1, h1, h2⟩ := hx.lst s
    obtain ⟨j, e2, e3⟩ := atI_len h2.length.symm e
    obtain ⟨v, e4, h4⟩ := h2.get e2
    exact .inl ⟨a, vs, _, v, e1, hy.int, SqL.of h1, e3 v e4, k v h4⟩
  · obtain ⟨a, vs, e1, h1, h2, _⟩ := hx.tup s
    obtain ⟨j, e2, e3⟩ := atI_len h2.length.symm e
    obtain ⟨v, e4, h4⟩ := h2.get e2
    exact .inr (.inl ⟨a, vs, _, v, e1, hy.int, SqT.of h1, e3 v e4, k v h4⟩)
  · split at e
    · rename_i z
      obtain ⟨c, e1, e2⟩ := Option.map_eq_some_iff.mp e
      subst e2
      exact .inr (.inr ⟨_, _, c, hx.str, hy.int, z, e1, k _ (.str _)⟩)
    · cases e
  · obtain ⟨a, ns, e1, e2, h1⟩ := hx.scr s (fun z => by rw [z] at e; cases e)
    subst e2
    have e : atI (ns.map PyData.int) _ = some d'' := e
    obtain ⟨j, e2, e3⟩ := atI_len (ys := ns.map V.int) (by rw [List.length_map, List.length_map]) e
    rw [List.getElem?_map] at e2
    obtain ⟨n, e4, e5⟩ := Option.map_eq_some_iff.mp e2
    subst e5
    exact .inl ⟨a, _, _, .int n, e1, hy.int, h1, e3 _ (by rw [List.getElem?_map, e4]; rfl), k _ (.int n)⟩
  · cases e
theorem s_idx (hp : PlainIx b) (ha : PE X a (tO X.K F W ca)) (hb : PE X b (tO X.K F W cb)) : PE X (.Subscript a b pos) (tV X.K F W (.idx ca cb)) := by
  refine PE.imp (pe_ix ix_seq ha hb hp) fun σ H Q ⟨G, r, s, h⟩ => ?_
  rw [ev] at h
  refine op2_go s h fun x y d d' r2 G2 H2 s2 t2 hx hy h2 => ?_
  obtain ⟨val, e, k⟩ := h2.kv s2 t2
  obtain ⟨kb, e1, rfl⟩ := Option.map_eq_some_iff.mp e
  exact idx_go s2 hx hy e1 fun v hv => k.fz s2 hv
end
end SC

set_option Elab.async false
set_option maxRecDepth 100000
set_option maxHeartbeats 1000000
namespace SC
open PySem L2 HT PySem.Spec PyProof.Rows

section
variable {prog : Program} {w : World} {A : Around} {E : Value → Shared → Prop} {s : Shared} {l : Addr} {its : List Value} {ns : List Int} {Q : Value → Shared → Prop} {xs : Array (Int × Tok)}
theorem iter_tupA {items : Array Value} (hl : s.heap.IsTuple l items)
    (h : ∀ s₂ : Shared, s₂ = { s with heap := s.heap.push { cls := .type "tuple_iterator", data := .fields #[.ref l, .int 0 0] } } →
      (s₂.heap.IsTupleIter s.heap.objs.size l 0 ∧ s₂.heap.IsTuple l items) → (∀ b ∈ [s.heap.objs.size, l], b < s₂.heap.objs.size) → l ≠ s.heap.objs.size → Q (.ref s.heap.objs.size) s₂) :
    wpAny (model prog w) A (pyIter (.ref l)) Q E s := by
  have hlt : l < s.heap.objs.size := by obtain ⟨_, e, _⟩ := hl; exact Heap.lt_size e
  refine wpAny_pyIter_tuple hl (h _ rfl ⟨⟨_, Heap.get?_push_size _ rfl, rfl, rfl⟩, hl.at fun o e => Heap.get?_push_of_some _ e⟩ (fun b hb => ?_) (Nat.ne_of_lt hlt))
  show b < (s.heap.push _).objs.size
  rw [Heap.size_push]
  rcases List.mem_cons.mp hb with rfl | hb
  · exact Nat.lt_succ_self _
  · rcases List.mem_cons.mp hb with rfl | hb
    · exact Nat.lt_succ_of_lt hlt
    · cases hb
theorem old_keptT {h' : Heap} (hk : ∀ b o, b ∉ [s.heap.objs.size] → (s.heap.push { cls := .type "tuple_iterator", data := .fields #[.ref l, .int 0 0] }).get? b = some o → h'.get? b = some o) :
    ∀ b o, s.heap.get? b = some o → h'.get? b = some o := fun b o e => by
  refine hk b o (fun hm => ?_) (Heap.get?_push_of_some _ e)
  rcases List.mem_cons.mp hm with e1 | hm
  · exact absurd (e1 ▸ Heap.lt_size e) (Nat.lt_irrefl _)
  · cases hm
theorem sum_tup (hh : A.handled = none) (hl : s.heap.IsTuple l its.toArray) (hi : IntsAre its ns)
    (h : ∀ h' tk t', (∀ b o, s.heap.get? b = some o → h'.get? b = some o) → Q (.int ns.sum t') { s with heap := h', toks := tk }) : wpAny (model prog w) A (call (.builtin "sum") [.ref l]) Q E s := by
  obtain ⟨xs, e⟩ := hi.allInts.items
  have hn : numsOf (intItems xs).toList = ns := by rw [← e]; exact hi.numsOf
  rw [nums_intItems] at hn
  rw [e] at hl
  refine call_sum_walkG (iter_tupA hl fun s₂ e st hfp hlI => ?_)
  subst e
  refine ⟨_, _, _, _, _, _, numAt xs, rfl, Walks.tuple (A := A.in1) hh _ l hlI (intItems xs), st, hfp, (fun _ _ => intItems_at), fun h' tk t' hk => ?_⟩
  have := h h' tk t' (old_keptT hk)
  have e2 : (intItems xs).size = xs.size := by simp [intItems]
  rw [e2, preSum_eq, List.take_of_length_le (by simp), hn]
  exact this
theorem min_tup (hh : A.handled = none) (hl : s.heap.IsTuple l its.toArray) (hi : IntsAre its ns) (hne : 0 < ns.length)
    (h : ∀ h' tk M t', (∀ b o, s.heap.get? b = some o → h'.get? b = some o) → M ∈ ns → (∀ a, a ∈ ns → M ≤ a) → Q (.int M t') { s with heap := h', toks := tk }) : wpAny (model prog w) A (call (.builtin "min") [.ref l]) Q E s := by
  obtain ⟨xs, e⟩ := hi.allInts.items
  have hn : numsOf (intItems xs).toList = ns := by rw [← e]; exact hi.numsOf
  rw [nums_intItems] at hn
  subst hn
  rw [e] at hl
  have hsz : 0 < xs.size := by simpa using hne
  refine call_min_walk (iter_tupA hl fun s₂ e st hfp hlI => ?_)
  subst e
  refine ⟨_, _, _, _, _, _, _, rfl, Walks.tuple (A := A.in1) hh _ l hlI (intItems xs), st, hfp, by simpa [intItems] using hsz, CmpOf.ints_lt (numAt xs) (fun _ _ => intItems_at), fun v h' tk hP hk => ?_⟩
  have hP : (intItems xs)[argBest (fun i j => decide (numAt xs i < numAt xs j)) (xs.size - 1)]? = some v := by simpa [intItems] using hP
  obtain ⟨t, rfl⟩ := intItems_at hP
  obtain ⟨h1, h2⟩ := argBest_lt (numAt xs) (xs.size - 1)
  refine h h' tk _ t (old_keptT hk) ?_ fun a ha => ?_
  · rw [numAt_eq]; exact PySem.getD_mem (by rw [List.length_map, Array.length_toList]; omega)
  · obtain ⟨j, hj, rfl⟩ := mem_getD ha
    rw [List.length_map, Array.length_toList] at hj
    rw [← numAt_eq]; exact h2 j (by omega)
theorem max_tup (hh : A.handled = none) (hl : s.heap.IsTuple l its.toArray) (hi : IntsAre its ns) (hne : 0 < ns.length)
    (h : ∀ h' tk M t', (∀ b o, s.heap.get? b = some o → h'.get? b = some o) → M ∈ ns → (∀ a, a ∈ ns → a ≤ M) → Q (.int M t') { s with heap := h', toks := tk }) : wpAny (model prog w) A (call (.builtin "max") [.ref l]) Q E s := by
  obtain ⟨xs, e⟩ := hi.allInts.items
  have hn : numsOf (intItems xs).toList = ns := by rw [← e]; exact hi.numsOf
  rw [nums_intItems] at hn
  subst hn
  rw [e] at hl
  have hsz : 0 < xs.size := by simpa using hne
  refine call_max_walk (iter_tupA hl fun s₂ e st hfp hlI => ?_)
  subst e
  refine ⟨_, _, _, _, _, _, _, rfl, Walks.tuple (A := A.in1) hh _ l hlI (intItems xs), st, hfp, by simpa [intItems] using hsz, CmpOf.ints_gt (numAt xs) (fun _ _ => intItems_at), fun v h' tk hP hk => ?_⟩
  have hP : (intItems xs)[argBest (fun i j => decide (numAt xs i > numAt xs j)) (xs.size - 1)]? = some v := by simpa [intItems] using hP
  obtain ⟨t, rfl⟩ := intItems_at hP
  obtain ⟨h1, h2⟩ := argBest_gt (numAt xs) (xs.size - 1)
  refine h h' tk _ t (old_keptT hk) ?_ fun a ha => ?_
  · rw [numAt_eq]; exact PySem.getD_mem (by rw [List.length_map, Array.length_toList]; omega)
  · obtain ⟨j, hj, rfl⟩ := mem_getD ha
    rw [List.length_map, Array.length_toList] at hj
    rw [← numAt_eq]; exact h2 j (by omega)
end
section
variable {X : Cx}
def rSumT (K : PySem.W.Frag) : List V → Hp → VK → Prop := fun vs H Q => ∃ (a : Addr) (ns : List Int), vs = [V.ref a] ∧ SqT K H a (ns.map V.int) ∧ Q (.int ns.sum) H
def rMaxT (K : PySem.W.Frag) : List V → Hp → VK → Prop := fun vs H Q => ∃ (a : Addr) (ns : List Int), vs = [V.ref a] ∧ SqT K H a (ns.map V.int) ∧ 0 < ns.length ∧ ∀ m, m ∈ ns → (∀ y, y ∈ ns → y ≤ m) → Q (.int m) H
def rMinT (K : PySem.W.Frag) : List V → Hp → VK → Prop := fun vs H Q => ∃ (a : Addr) (ns : List Int), vs = [V.ref a] ∧ SqT K H a (ns.map V.int) ∧ 0 < ns.length ∧ ∀ m, m ∈ ns → (∀ y, y ∈ ns → m ≤ y) → Q (.int m) H
theorem cr_sumT (hc : X.calm = true) : CallR X (.builtin "sum") (rSumT X.K) := by
  intro pins s σ H vs us Q I r h
  obtain ⟨a, ns, rfl, hs, q⟩ := h
  obtain ⟨its, rv, hl, _⟩ := I.tuple hs
  rw [Vals.ref1 r]
  exact sum_tup (I.ok.hd hc) hl rv.ints fun h' tk t' hk => ⟨.int _, H, I.kept hk, ⟨_, rfl⟩, q⟩
theorem cr_maxT (hc : X.calm = true) : CallR X (.builtin "max") (rMaxT X.K) := by
  intro pins s σ H vs us Q I r h
  obtain ⟨a, ns, rfl, hs, hne, q⟩ := h
  obtain ⟨its, rv, hl, _⟩ := I.tuple hs
  rw [Vals.ref1 r]
  exact max_tup (I.ok.hd hc) hl rv.ints hne fun h' tk m t' hk h1 h2 => ⟨.int _, H, I.kept hk, ⟨_, rfl⟩, q m h1 h2⟩
theorem cr_minT (hc : X.calm = true) : CallR X (.builtin "min") (rMinT X.K) := by
  intro pins s σ H vs us Q I r h
  obtain ⟨a, ns, rfl, hs, hne, q⟩ := h
  obtain ⟨its, rv, hl, _⟩ := I.tuple hs
  rw [Vals.ref1 r]
  exact min_tup (I.ok.hd hc) hl rv.ints hne fun h' tk m t' hk h1 h2 => ⟨.int _, H, I.kept hk, ⟨_, rfl⟩, q m h1 h2⟩
end

/-! ### t[::-1] -/
theorem range_pick {α : Type} : ∀ l : List α, (List.range l.length).filterMap (fun (m : Nat) => l[m]?) = l
  | [] => rfl
  | x :: l => by
    rw [List.length_cons, List.range_succ_eq_map, List.filterMap_cons]
    have e : (List.map Nat.succ (List.range l.length)).filterMap (fun (m : Nat) => (x :: l)[m]?) = (List.range l.length).filterMap (fun (m : Nat) => l[m]?) := by
      rw [List.filterMap_map]
      rfl
    rw [e, range_pick l]
    rfl
theorem fm_congr {α β : Type} {f g : α → Option β} : ∀ {l : List α}, (∀ m ∈ l, f m = g m) → l.filterMap f = l.filterMap g
  | [], _ => rfl
  | x :: l, h => by
    rw [List.filterMap_cons, List.filterMap_cons, h x (List.mem_cons_self), fm_congr (l := l) fun m hm => h m (List.mem_cons_of_mem _ hm)]
theorem pick_rev (xs : Array Value) : ((List.range xs.size).filterMap fun (m : Nat) => xs[(((xs.size : Int) - 1) + (m : Int) * (-1)).toNat]?).toArray = xs.toList.reverse.toArray := by
  have e : (List.range xs.size).filterMap (fun (m : Nat) => xs[(((xs.size : Int) - 1) + (m : Int) * (-1)).toNat]?) = (List.range xs.toList.reverse.length).filterMap (fun (m : Nat) => xs.toList.reverse[m]?) := by
    rw [List.length_reverse, Array.length_toList]
    refine fm_congr fun m hm => ?_
    have hm' : m < xs.size := List.mem_range.mp hm
    have e1 : (((xs.size : Int) - 1) + (m : Int) * (-1)).toNat = xs.size - 1 - m := by omega
    rw [e1, List.getElem?_reverse (by rw [Array.length_toList]; exact hm'), Array.length_toList, Array.getElem?_toList]
  rw [e, range_pick]
section
variable {prog : Program} {w : World} {A : Around} {E : Value → Shared → Prop} {s : Shared}
theorem sliceApplied_rev {sl : Addr} {vl vu vs : Value} {n : Nat} {Q : Int × Int × Nat → Shared → Prop} (hs : s.heap.IsSliceOf sl vl vu vs) (pl : IsPart vl none) (pu : IsPart vu none) (ps : IsPart vs (some (-1)))
    (h : Q ((n : Int) - 1, -1, n) s) : wpAny (model prog w) A (Builtin.Slice.sliceApplied (.ref sl) (pure (n : Int))) Q E s := by
  obtain ⟨os, hos, hcs, hds⟩ := id hs
  unfold Builtin.Slice.sliceApplied Builtin.Slice.sliceFields
  refine wpAny_bind (wpAny_bind (wpAny_field hos hds (x := vl) rfl (wpAny_bind (wpAny_field hos hds (x := vu) rfl (wpAny_bind (wpAny_field hos hds (x := vs) rfl (wpAny_pure ?_)))))))
  refine wpAny_bind (slicePart_ ps ?_)
  show wpAny _ _ (if ((-1 : Int) == 0) = true then _ else _) _ _ s
  rw [if_neg (by decide)]
  refine wpAny_bind (slicePart_ pl (wpAny_bind (slicePart_ pu (wpAny_bind (wpAny_pure ?_)))))
  show wpAny _ _ (pure ((n : Int) - 1, (-1 : Int), Builtin.Slice.slicePlaces ((n : Int) - 1) (-1) (-1))) _ _ s
  have e : Builtin.Slice.slicePlaces ((n : Int) - 1) (-1) (-1) = n := by
    unfold Builtin.Slice.slicePlaces
    rw [if_neg (by omega)]
    split
    · have : ((n : Int) - 1 - -1 - 1) / (- -1) = (n : Int) - 1 := by simp
      rw [this]; omega
    · omega
  rw [e]
  exact wpAny_pure h
theorem getItem_tuple_rev {t sl : Addr} {items : Array Value} {vl vu vs : Value} {Q : Value → Shared → Prop} (ht : IsTup s.heap t items) (hs : s.heap.IsSliceOf sl vl vu vs) (pl : IsPart vl none) (pu : IsPart vu none) (ps : IsPart vs (some (-1)))
    (h : Q (.ref s.heap.objs.size) { s with heap := s.heap.push { cls := .type "tuple", data := .seq items.toList.reverse.toArray } })
    (hsz : items.size ≤ sizeLine) : wpAny (model prog w) A (getItem (.ref t) (.ref sl)) Q E s := by
  have htake : sizeOk (.seq items.toList.reverse.toArray) := by
    show items.toList.reverse.toArray.size ≤ sizeLine
    rw [List.size_toArray, List.length_reverse, Array.length_toList]
    exact hsz
  obtain ⟨os, hos, hcs, hds⟩ := id hs
  have hTs : s.TypeIs (.ref sl) "slice" := ⟨os, hos, hcs⟩
  unfold getItem
  try with_reducible refine wpAny_holding ?_
  first | refine wpAny_bind (wpAny_pure ?_) | skip
  refine wpAny_bind (wpAny_sequenceKey ht.typeIs (by decide) ?_)
  refine wpAny_bind (wpAny_callSpecial?_slot (name := Str.ofString "__getitem__") ht.typeIs PyProof.Rows.slot_tuple_getitem
    (wpAny_call_entry PyProof.Rows.slot_tuple_getitem ht.typeIs entry_tuple_getitem ?_ (args_tuple_getitem _ _)))
  show wpAny _ _ (Builtin.Tuple.tupleItemsOf (.ref t) >>= _) _ _ s
  refine wpAny_bind (tupleItemsOf_ ht ?_)
  refine wpAny_bind (wpAny_typeOf hTs ?_)
  rw [if_pos (by decide)]
  refine wpAny_bind (sliceApplied_rev hs pl pu ps ?_)
  show wpAny _ _ (if (((items.size : Int) - 1) == 0 && (-1 : Int) == 1 && items.size == items.size) = true then _ else _) _ _ s
  rw [if_neg (by simp), pick_rev]
  first
    | exact wpAny_bind (m := Builtin.Tuple.tupleExact _) (wpAny_newObj_type (wpAny_pure ⟨_, rfl, wpAny_pure h⟩) htake)
    | exact wpAny_bind (m := Builtin.Tuple.tupleExact _) (wpAny_newObj_type (wpAny_bind (wpAny_pure (wpAny_pure ⟨_, rfl, wpAny_pure h⟩))) htake)
    | exact wpAny_bind (wpAny_bind (m := Builtin.Tuple.tupleExact _) (wpAny_newObj_type (wpAny_pure (wpAny_pure ⟨_, rfl, wpAny_pure h⟩)) htake))
    | exact wpAny_bind (wpAny_bind (m := Builtin.Tuple.tupleExact _) (wpAny_newObj_type (wpAny_pure ⟨_, rfl, wpAny_pure h⟩) htake))
end
section
variable {X : Cx}
def tRevA (K : PySem.W.Frag) (te : TE) : TE := fun σ H Q => te σ H fun x H1 => (∃ a xs, x = .ref a ∧ SqL K H1 a xs ∧ ∀ p, H1 p = none → Q (.ref p) (upd H1 p (.lst xs.reverse))) ∨
  ∃ a xs, x = .ref a ∧ SqT K H1 a xs ∧ ∀ p, H1 p = none → Q (.ref p) (upd H1 p (.tup xs.reverse))
theorem pe_revA {e : Expr} {te : TE} {k : Nat} {p1 p2 p3 pos : Pos} (he : PE X e te) : PE X (.Subscript e (.Slice none none (some (.UnaryOp .USub (.Constant (.int 1) k p1) p2)) p3) pos) (tRevA X.K te) := by
  refine ⟨fun pins s σ H Q I h => ?_⟩
  refine Subscript_ (thn (he.run pins s σ H _ I h) fun v s1 ⟨x, H1, I1, r1, q1⟩ => ?_)
  have hst : PO X (some (.UnaryOp .USub (.Constant (.int 1) k p1) p2)) (tPart (tUn (rU fun i => .int (-i)) (tC (.int 1)))) := po_some (pe_un un_neg pe_int)
  refine wpAny_Slice (thn (po_none.run pins s1 σ H1 (fun o H2 => o = none ∧ H2 = H1) I1 ⟨rfl, rfl⟩) fun vl s2 ⟨l, H2, I2, pl, el, e2⟩ => ?_)
  subst el e2
  refine thn (po_none.run pins s2 σ H2 (fun o H3 => o = none ∧ H3 = H2) I2 ⟨rfl, rfl⟩) fun vu s3 ⟨u, H3, I3, pu, eu, e3⟩ => ?_
  subst eu e3
  refine thn (hst.run pins s3 σ H3 (fun o H4 => o = some (-1) ∧ H4 = H3) I3 ⟨1, rfl, -1, rfl, rfl, rfl⟩) fun vs s4 ⟨o, H4, I4, ps, eo, e4⟩ => ?_
  subst eo e4
  have I5 : Inv X pins σ H4 { s4 with heap := s4.heap.push { cls := .type "slice", data := .fields #[vl, vu, vs] } } := I4.kept (t' := s4.toks) fun b ob q => Heap.get?_push_of_some _ q
  rcases q1 with ⟨a, xs, ex, hx, q⟩ | ⟨a, xs, ex, hx, q⟩
  · subst ex
    cases r1
    obtain ⟨its, r, ht, hz⟩ := I5.list hx
    have hlen := r.length
    show wpAny (model X.prog X.w) X.A (subscriptTail e (.Slice none none (some (.UnaryOp .USub (.Constant (.int 1) k p1) p2)) p3) (.ref a) (.ref s4.heap.objs.size)) (EP X pins σ Q) X.xe { s4 with heap := s4.heap.push { cls := .type "slice", data := .fields #[vl, vu, vs] } }
    refine tail_any (ops := [.ref a, .ref s4.heap.objs.size]) ht.isList.typeIs (PySem.slot_list_getitem.lookup) ?_ (by with_unfolding_all rfl)
    refine wpAny_getItem_list_slice ht.isList (Heap.IsSliceOf.new _ vl vu vs) pl pu ps (by decide) ?_ (by rw [List.size_toArray]; omega)
    rw [PySem.W.krv_pick]
    refine ⟨.ref _, _, I5.laid (t' := s4.toks) (o := .lst xs.reverse) (fun b ob q => Heap.get?_push_of_some _ q) (Nat.le_refl _) ?_, rfl, q _ (I5.hok.fresh (Nat.le_refl _))⟩
    exact ⟨by rw [List.length_reverse]; exact hz, _, 0, r.reverse, Heap.get?_push_size _ rfl⟩
  · subst ex
    cases r1
    obtain ⟨its, r, ht, hz⟩ := I5.tuple hx
    have hlen := r.length
    show wpAny (model X.prog X.w) X.A (subscriptTail e (.Slice none none (some (.UnaryOp .USub (.Constant (.int 1) k p1) p2)) p3) (.ref a) (.ref s4.heap.objs.size)) (EP X pins σ Q) X.xe { s4 with heap := s4.heap.push { cls := .type "slice", data := .fields #[vl, vu, vs] } }
    refine tail_any (ops := [.ref a, .ref s4.heap.objs.size]) ht.typeIs (PyProof.Rows.slot_tuple_getitem.lookup) ?_ (by with_unfolding_all rfl)
    refine getItem_tuple_rev ht (Heap.IsSliceOf.new _ vl vu vs) pl pu ps ?_ (by rw [List.size_toArray]; omega)
    refine ⟨.ref _, _, I5.laid (t' := s4.toks) (o := .tup xs.reverse) (fun b ob q => Heap.get?_push_of_some _ q) (Nat.le_refl _) ?_, rfl, q _ (I5.hok.fresh (Nat.le_refl _))⟩
    exact ⟨by rw [List.length_reverse]; exact hz, _, r.reverse, IsTup.new _ _⟩
end
end SC

set_option Elab.async false
set_option maxRecDepth 100000
set_option maxHeartbeats 1000000
namespace SC
open PySem L2

section order
variable {α β : Type} {lt : α → α → Bool} {lt' : β → β → Bool}
open SrtO
theorem insR_split (O : Swo lt) (y : α) : ∀ {l : List α}, Srtd lt l → ∃ M N, l = M ++ N ∧ insR lt y l = M ++ y :: N ∧ (∀ x ∈ M, lt y x = false) ∧ ∀ x ∈ N, lt y x = true
  | [], _ => ⟨[], [], rfl, rfl, (fun _ h => nomatch h), (fun _ h => nomatch h)⟩
  | x :: l, h => by
    cases q : lt y x with
    | true => exact ⟨[], x :: l, rfl, by simp [insR, q], (fun _ h => nomatch h), O.lt_all h q⟩
    | false =>
      obtain ⟨M, N, e1, e2, h1, h2⟩ := insR_split O y (List.pairwise_cons.mp h).2
      refine ⟨x :: M, N, by rw [e1]; rfl, by simp [insR, q, e2], fun z hz => ?_, h2⟩
      rcases List.mem_cons.mp hz with e | hz
      · rw [e]; exact q
      · exact h1 z hz
theorem isort_go (O : Swo lt) : ∀ (xs acc done : List α), Srtd lt acc → Stb lt acc done → Srtd lt (xs.foldl (fun acc y => insR lt y acc) acc) ∧ Stb lt (xs.foldl (fun acc y => insR lt y acc) acc) (done ++ xs)
  | [], acc, done, h1, h2 => ⟨h1, by rw [List.append_nil]; exact h2⟩
  | y :: xs, acc, done, h1, h2 => by
    obtain ⟨M, N, e1, e2, h3, h4⟩ := insR_split O y h1
    have z := isort_go O xs (insR lt y acc) (done ++ [y]) (by rw [e2]; exact ins_srtd O (e1 ▸ h1) h3 h4) (by rw [e2]; exact ins_stb O h4 (e1 ▸ h2))
    rw [List.append_assoc] at z
    exact z
theorem isort_ok (O : Swo lt) (xs : List α) : Srtd lt (isort lt xs) ∧ Stb lt (isort lt xs) xs := isort_go O xs [] [] List.Pairwise.nil (Stb.refl _)
theorem stb_symm {l m : List α} (h : Stb lt l m) : Stb lt m l := ⟨h.perm.symm, fun x => (h.cls x).symm⟩
theorem isort_uniq (O : Swo lt) {xs ys : List α} (h1 : Srtd lt ys) (h2 : Stb lt ys xs) : ys = isort lt xs := stb_uniq O h1 (isort_ok O xs).1 (h2.trans (stb_symm (isort_ok O xs).2))
theorem insR_map (f : α → β) (y : α) : ∀ l : List α, (∀ x ∈ l, lt y x = lt' (f y) (f x)) → (insR lt y l).map f = insR lt' (f y) (l.map f)
  | [], _ => rfl
  | x :: l, h => by
    rw [insR, List.map_cons, insR, ← h x List.mem_cons_self]
    split
    · rfl
    · rw [List.map_cons, insR_map f y l fun z hz => h z (List.mem_cons_of_mem _ hz)]
theorem insR_mem {y z : α} : ∀ {l : List α}, z ∈ insR lt y l ↔ z = y ∨ z ∈ l
  | [] => by simp [insR]
  | x :: l => by
    rw [insR]
    split
    · simp
    · rw [List.mem_cons, insR_mem (l := l), List.mem_cons]
      constructor
      · rintro (h | h | h)
        · exact .inr (.inl h)
        · exact .inl h
        · exact .inr (.inr h)
      · rintro (h | h | h)
        · exact .inr (.inl h)
        · exact .inl h
        · exact .inr (.inr h)
theorem isort_map (f : α → β) {xs : List α} (h : ∀ x ∈ xs, ∀ y ∈ xs, lt x y = lt' (f x) (f y)) : (isort lt xs).map f = isort lt' (xs.map f) := by
  have go : ∀ (zs acc : List α), (∀ z ∈ zs, z ∈ xs) → (∀ z ∈ acc, z ∈ xs) → (zs.foldl (fun acc y => insR lt y acc) acc).map f = (zs.map f).foldl (fun acc y => insR lt' y acc) (acc.map f) := by
    intro zs
    induction zs with
    | nil => intro acc _ _; rfl
    | cons y zs ih =>
      intro acc h1 h2
      rw [List.foldl_cons, List.map_cons, List.foldl_cons, ← insR_map f y acc fun x hx => h y (h1 y List.mem_cons_self) x (h2 x hx)]
      refine ih _ (fun z hz => h1 z (List.mem_cons_of_mem _ hz)) fun z hz => ?_
      rcases insR_mem.mp hz with e | hz
      · rw [e]; exact h1 y List.mem_cons_self
      · exact h2 z hz
  exact go xs [] (fun _ h => h) (fun _ h => nomatch h)
theorem lexP_eq (p q : Int × Int) : lexP p q = lexB p q := rfl
end order

/-! ### sorted of a list or a tuple, by any order -/
section
variable {prog : Program} {w : World} {A : Around} {E : Value → Shared → Prop} {s : Shared}
open PyProof.Rows SrtO Srt
theorem sorted_seq {l : Addr} {T : String} {o : Obj} {n : Nat} {vs : List Value} {ltv : Value → Value → Bool} {Q : Value → Shared → Prop} (O : Swo ltv) (hT : T = "list" ∨ T = "tuple") (ho : s.heap.get? l = some o) (hc : o.cls = .type T) (hd : o.data = .seq vs.toArray n) (hz : vs.length ≤ sizeLine)
    (hS : 2 ≤ vs.length → ∀ (h₁ : Heap) (a : Addr), h₁.get? a = some (seqObj "list" vs.toArray 0) → (∀ b o, s.heap.get? b = some o → b ≠ a ∧ h₁.get? b = some o) → SortableO prog w A.in1.in1 { s with heap := h₁ } a vs ltv)
    (h : ∀ (h' : Heap) (d : Addr) (out : List Value), Srtd ltv out → Stb ltv out vs → (∀ b o, s.heap.get? b = some o → h'.get? b = some o) → s.heap.get? d = none → (∀ H, HOk prog w H s.heap → H d = none) → (∃ n, h'.get? d = some (seqObj "list" out.toArray n)) → Q (.ref d) { s with heap := h' }) :
    wpAny (model prog w) A (call (.builtin "sorted") [.ref l]) Q E s := by
  refine Calls.call_function_entry kind_sorted plain_sorted entry_sorted (args_sorted1 _) ?_
  unfold Builtin.«sorted»
  refine wpAny_bind (m := checkCount "sorted" 1 1 _) (wpAny_pure ?_)
  refine wpAny_bind (wpAny_collect_seq l hT ho hc hd (fun h1 k1 => ?_) (by simpa using hz))
  refine wpAny_bind (wpAny_newList ?_ (by simpa using hz))
  have lt1 : ∀ b o, s.heap.get? b = some o → b < h1.objs.size := fun b o q => Heap.lt_size (k1 b o q)
  have hoL : (h1.push (seqObj "list" vs.toArray 0)).get? h1.objs.size = some (seqObj "list" vs.toArray 0) := Heap.get?_push_size _ rfl
  have keep : ∀ b o, s.heap.get? b = some o → b ≠ h1.objs.size ∧ (h1.push (seqObj "list" vs.toArray 0)).get? b = some o := fun b o q => ⟨Nat.ne_of_lt (lt1 b o q), Heap.get?_push_of_some _ (k1 b o q)⟩
  show wpAny _ _ _ _ _ { s with heap := h1.push (seqObj "list" vs.toArray 0) }
  refine wpAny_bind (wpAny_holding (wpAny_call_entry slot_list_sort ⟨_, hoL, rfl⟩ entry_list_sort (list_sort_ord (s := { s with heap := h1.push (seqObj "list" vs.toArray 0) }) O hoL hz (fun h2 => hS h2 _ _ hoL keep) fun out hs hb => ⟨_, rfl, ?_⟩) (args_list_sort _)))
  refine wpAny_pure ⟨_, rfl, h _ _ out hs hb (fun b o q => ?_) ?_ (fun H hH => ?_) (sortedHeap_at (n := 0) hoL)⟩
  · rw [sortedHeap_old (keep b o q).1 (Heap.lt_size (keep b o q).2)]
    exact (keep b o q).2
  · cases q : s.heap.get? h1.objs.size with
    | none => rfl
    | some o => exact absurd (lt1 _ o q) (Nat.lt_irrefl _)
  · have h2 : HOk prog w H h1 := fun a u e => (hH a u e).stay (fun b v _ q => k1 b v q) (fun _ q => q) fun _ _ q => q
    exact h2.fresh (Nat.le_refl _)
end
section
open SrtO PyProof.Rows PySem.F PySem.W
variable {prog : Program} {w : World} {A : Around} {E : Value → Shared → Prop} {s : Shared}
theorem sorted_seqN {l : Addr} {T : String} {o : Obj} {n : Nat} {vs : List Value} {ds : List PyData} {R : Value → PyData → Prop} {Q : Value → Shared → Prop} (hT : T = "list" ∨ T = "tuple") (ho : s.heap.get? l = some o) (hc : o.cls = .type T) (hd : o.data = .seq vs.toArray n) (hz : vs.length ≤ sizeLine)
    (e : EachIs R vs ds) (er : EachIs (fun v d => ∃ as, Reads s.heap v d as) vs ds) (hal : AllAlike ds) (hk : Sortable ds) (hu : ∀ d, d ∈ ds → A.units + 2 + d.depth < cLine)
    (h : ∀ (h' : Heap) (d : Addr) (out : List Value), EachIs R out (ds.mergeSort (dataLe false fun d => d)) → out.length = vs.length → (∀ b o, s.heap.get? b = some o → h'.get? b = some o) → s.heap.get? d = none → (∀ H, HOk prog w H s.heap → H d = none) → (∃ n, h'.get? d = some (seqObj "list" out.toArray n)) → Q (.ref d) { s with heap := h' }) :
    wpAny (model prog w) A (call (.builtin "sorted") [.ref l]) Q E s := by
  refine Calls.call_function_entry kind_sorted plain_sorted entry_sorted (args_sorted1 _) ?_
  unfold Builtin.«sorted»
  refine wpAny_bind (m := checkCount "sorted" 1 1 _) (wpAny_pure ?_)
  refine wpAny_bind (wpAny_collect_seq l hT ho hc hd (fun h1 k1 => ?_) (by simpa using hz))
  refine wpAny_bind (wpAny_newList ?_ (by simpa using hz))
  have lt1 : ∀ b o, s.heap.get? b = some o → b < h1.objs.size := fun b o q => Heap.lt_size (k1 b o q)
  have hoL : (h1.push (seqObj "list" vs.toArray 0)).get? h1.objs.size = some (seqObj "list" vs.toArray 0) := Heap.get?_push_size _ rfl
  have keep : ∀ b o, s.heap.get? b = some o → b ≠ h1.objs.size ∧ (h1.push (seqObj "list" vs.toArray 0)).get? b = some o := fun b o q => ⟨Nat.ne_of_lt (lt1 b o q), Heap.get?_push_of_some _ (k1 b o q)⟩
  have em : ds.map (fun d => d) = ds := List.map_id' ds
  have er' : EachIs (fun v d => ∃ as, Reads (sortingHeap (h1.push (seqObj "list" vs.toArray 0)) h1.objs.size vs) v d as) vs ds := er.mono fun _ _ ⟨as, r⟩ => ⟨as, PyProof.Rows.Reads.keeps (fun b o q => sortingHeap_old (keep b o q).1 (keep b o q).2) r⟩
  have sv := sortVals_data (h' := sortingHeap (h1.push (seqObj "list" vs.toArray 0)) h1.objs.size vs) (R := R) (enc := fun d => d) false e er' (by rw [em]; exact hal)
  rw [em] at sv
  show wpAny _ _ _ _ _ { s with heap := h1.push (seqObj "list" vs.toArray 0) }
  refine wpAny_bind (wpAny_holding (wpAny_call_entry PyProof.Rows.slot_list_sort ⟨_, hoL, rfl⟩ PyProof.Rows.entry_list_sort (list_sort_vals (s := { s with heap := h1.push (seqObj "list" vs.toArray 0) }) hoL (SortsAt.data (s := { s with heap := sortingHeap (h1.push (seqObj "list" vs.toArray 0)) h1.objs.size vs }) er' hal hk (fun d hd => hu d hd)) hz ⟨_, rfl, ?_⟩) (args_list_sort _)))
  refine wpAny_pure ⟨_, rfl, h _ _ _ sv (by rw [sortVals_length false rfl]) (fun b o q => ?_) ?_ (fun H hH => ?_) (sortedHeap_at (n := 0) hoL)⟩
  · rw [sortedHeap_old (keep b o q).1 (Heap.lt_size (keep b o q).2)]
    exact (keep b o q).2
  · cases q : s.heap.get? h1.objs.size with
    | none => rfl
    | some o => exact absurd (lt1 _ o q) (Nat.lt_irrefl _)
  · have h2 : HOk prog w H h1 := fun a u e => (hH a u e).stay (fun b v _ q => k1 b v q) (fun _ q => q) fun _ _ q => q
    exact h2.fresh (Nat.le_refl _)
end
/-! ### as data -/
/-- a value by its object -/
def bk : Value → V
  | .int i _ => .int i
  | .ref a => .ref a
  | _ => .non
def kG (G : Hp) : V → Int × Int
  | .int i => (i, 0)
  | .ref a => match G a with
    | some (.tup [.int x, .int y]) => (x, y)
    | _ => (0, 0)
  | _ => (0, 0)
section
variable {K : PySem.W.Frag} {G H : Hp}
open SrtO PyProof.Rows
def smpD (d : PyData) : Bool := isIntD d || isPrD d
theorem pr_shape {x : V} {d : PyData} (r : Rp K G x d) (h : isPrD d = true) : ∃ a i j, x = .ref a ∧ d = .tuple [.int i, .int j] ∧ G a = some (.tup [.int i, .int j]) := by
  cases r with
  | tup e rs =>
    cases rs with
    | nil => cases h
    | cons r1 rs =>
      cases r1 <;> first | cases h | skip
      cases rs with
      | nil => cases h
      | cons r2 rs =>
        cases r2 <;> first | cases h | skip
        cases rs with
        | nil => exact ⟨_, _, _, rfl, rfl, e⟩
        | cons _ _ => cases h
  | _ => cases h
theorem int_shape {x : V} {d : PyData} (r : Rp K G x d) (h : isIntD d = true) : ∃ i, x = .int i ∧ d = .int i := by
  cases r with
  | int i => exact ⟨i, rfl, rfl⟩
  | _ => cases h
theorem kG_of {x : V} {d : PyData} (r : Rp K G x d) (h : smpD d = true) : kG G x = keyD d := by
  rcases Bool.or_eq_true_iff.mp h with h | h
  · obtain ⟨i, rfl, rfl⟩ := int_shape r h
    rfl
  · obtain ⟨a, i, j, rfl, rfl, e⟩ := pr_shape r h
    show (match G a with | some (.tup [.int x, .int y]) => (x, y) | _ => (0, 0)) = _
    rw [e]
    rfl
theorem bk_of {x : V} {u : Value} {d : PyData} (r : Rp K G x d) (h : smpD d = true) (hu : RelV x u) : bk u = x := by
  rcases Bool.or_eq_true_iff.mp h with h | h
  · obtain ⟨i, rfl, rfl⟩ := int_shape r h
    obtain ⟨t, rfl⟩ := hu
    rfl
  · obtain ⟨a, i, j, rfl, rfl, e⟩ := pr_shape r h
    cases hu
    rfl
theorem smp_all {ds : List PyData} (h : srtOk ds = true) : ∀ d ∈ ds, smpD d = true := fun d hd => by
  unfold srtOk at h
  rcases Bool.or_eq_true_iff.mp h with h | h
  · exact Bool.or_eq_true_iff.mpr (.inl (List.all_eq_true.mp h d hd))
  · exact Bool.or_eq_true_iff.mpr (.inr (List.all_eq_true.mp h d hd))
/-- the three lists go together -/
theorem zip_rel : ∀ {xs : List V} {us : List Value} {ds : List PyData}, Vals xs us → Rps K G xs ds → (us.zip ds).map (·.1) = us ∧ (us.zip ds).map (·.2) = ds ∧ ∀ z ∈ us.zip ds, ∃ x, RelV x z.1 ∧ Rp K G x z.2
  | _, _, _, .nil, .nil => ⟨rfl, rfl, fun _ h => nomatch h⟩
  | _, _, _, .cons h1 t1, .cons h2 t2 => by
    obtain ⟨e1, e2, e3⟩ := zip_rel t1 t2
    refine ⟨by rw [List.zip_cons_cons, List.map_cons, e1], by rw [List.zip_cons_cons, List.map_cons, e2], fun z hz => ?_⟩
    rw [List.zip_cons_cons, List.mem_cons] at hz
    rcases hz with rfl | hz
    · exact ⟨_, h1, h2⟩
    · exact e3 z hz
theorem rps_of {S : List (Value × PyData)} (h : ∀ z ∈ S, Rp K G (bk z.1) z.2 ∧ RelV (bk z.1) z.1) : Rps K G ((S.map (·.1)).map bk) (S.map (·.2)) ∧ Vals ((S.map (·.1)).map bk) (S.map (·.1)) := by
  induction S with
  | nil => exact ⟨.nil, .nil⟩
  | cons z S ih =>
    obtain ⟨h1, h2⟩ := ih fun z hz => h z (List.mem_cons_of_mem _ hz)
    obtain ⟨h3, h4⟩ := h z List.mem_cons_self
    exact ⟨.cons h3 h1, .cons h4 h2⟩
theorem swo_k (G : Hp) : Swo fun u v => lexB (kG G (bk u)) (kG G (bk v)) := swo_lex fun u => kG G (bk u)
theorem int_cmpK {prog : Program} {w : World} {A : Around} {s : Shared} {vs : List Value} {ns : List Int} (hI : IntsAre vs ns) : Cmp prog w A s oneType' (fun p => p.1 ∈ vs) (lt2 fun u v => lexB (kG G (bk u)) (kG G (bk v))) := by
  intro p q hm hm'
  have z := int_cmp (prog := prog) (w := w) (A := A) (s := s) hI p q hm hm'
  obtain ⟨a, t, e⟩ := ints_mem hI _ hm
  obtain ⟨b, u, e'⟩ := ints_mem hI _ hm'
  have e2 : lt2 ltIv p q = lt2 (fun u v => lexB (kG G (bk u)) (kG G (bk v))) p q := by
    show ltIv p.1 q.1 = lexB (kG G (bk p.1)) (kG G (bk q.1))
    rw [e, e']
    show decide (a < b) = if a = b then decide ((0 : Int) < 0) else decide (a < b)
    split
    · rename_i c; subst c; simp
    · rfl
  rw [← e2]
  exact z
theorem ints_sortableK {prog : Program} {w : World} {A : Around} {s : Shared} {a : Addr} {vs : List Value} {ns : List Int} (hI : IntsAre vs ns) (h2 : 2 ≤ vs.length) : SortableO prog w A s a vs fun u v => lexB (kG G (bk u)) (kG G (bk v)) := by
  intro h' k'
  obtain ⟨κ, h1, _⟩ := ints_sortable (prog := prog) (w := w) (A := A) (s := s) (a := a) hI h2 h' k'
  refine ⟨oneType', fun Q E hq => ?_, int_cmpK hI⟩
  match vs, hI, h2 with
  | v1 :: v2 :: rest, hI, _ =>
    rw [keyKind_ints hI]
    exact wpAny_pure hq
  | [], _, h => exact absurd h (by decide)
  | [v], _, h => exact absurd h (by simp)
theorem ints_all : ∀ {xs : List V} {ds : List PyData}, Rps K G xs ds → ds.all isIntD = true → ∃ ns : List Int, xs = ns.map V.int
  | _, _, .nil, _ => ⟨[], rfl⟩
  | _, _, .cons r rs, h => by
    rw [List.all_cons, Bool.and_eq_true] at h
    obtain ⟨i, rfl, rfl⟩ := int_shape r h.1
    obtain ⟨ns, rfl⟩ := ints_all rs h.2
    exact ⟨i :: ns, rfl⟩
def rSortD (K : PySem.W.Frag) : List V → Hp → VK → Prop := fun vs H Q => ∃ (a : Addr) (xs : List V) (ds : List PyData) (G : Hp), vs = [.ref a] ∧ (H a = some (.lst xs) ∨ H a = some (.tup xs)) ∧ Sub G H ∧ Rps K G xs ds ∧ srtOk ds = true ∧
  ∀ ys p, Rps K G ys (isort ltD ds) → ys.length ≤ sizeLine → H p = none → Q (.ref p) (upd H p (.lst ys))
theorem cr_sortedD {X : Cx} : CallR X (.builtin "sorted") (rSortD X.K) := by
  intro pins s σ H vs us Q I r h
  obtain ⟨a, xs, ds, G, rfl, hs, sm, rp, ok, q⟩ := h
  rw [Vals.ref1 r]
  obtain ⟨T, o, n, its, hT, ho, hc, hd, rv, hz⟩ : ∃ (T : String) (o : Obj) (n : Nat) (its : List Value), (T = "list" ∨ T = "tuple") ∧ s.heap.get? a = some o ∧ o.cls = .type T ∧ o.data = .seq its.toArray n ∧ Vals xs its ∧ xs.length ≤ sizeLine := by
    rcases hs with hs | hs
    · obtain ⟨z, its, n, rv, e⟩ := I.hok _ _ hs
      exact ⟨"list", _, n, its, .inl rfl, e, rfl, rfl, rv, z⟩
    · obtain ⟨z, its, rv, o, e, c, n, d⟩ := I.hok _ _ hs
      exact ⟨"tuple", o, n, its, .inr rfl, e, c, d, rv, z⟩
  obtain ⟨e1, e2, e3⟩ := zip_rel rv rp
  have sa := smp_all ok
  have e4 : ∀ z ∈ its.zip ds, Rp X.K G (bk z.1) z.2 ∧ RelV (bk z.1) z.1 ∧ kG G (bk z.1) = keyD z.2 := fun z hz => by
    obtain ⟨x, h1, h2⟩ := e3 z hz
    have hm : smpD z.2 = true := sa _ (by rw [← e2]; exact List.mem_map.mpr ⟨z, hz, rfl⟩)
    have := bk_of h2 hm h1
    rw [this]
    exact ⟨h2, h1, kG_of h2 hm⟩
  refine sorted_seq (swo_k G) hT ho hc hd (by rw [← rv.length]; exact hz) (fun h2 h₁ b hb kk => ?_) fun h' d out h1 h2 kp hn hn2 hd' => ?_
  · unfold srtOk at ok
    rcases Bool.or_eq_true_iff.mp ok with ok | ok
    · obtain ⟨ns, rfl⟩ := ints_all rp ok
      exact ints_sortableK rv.ints h2
    · refine pairs_sortableO (s := { s with heap := h₁ }) (k := fun u => kG G (bk u)) (by omega) (fun v hv => ?_) fun o' e => ?_
      · rw [← e1] at hv
        obtain ⟨z, hz1, rfl⟩ := List.mem_map.mp hv
        obtain ⟨g1, g2, g3⟩ := e4 z hz1
        have hm : isPrD z.2 = true := List.all_eq_true.mp ok _ (by rw [← e2]; exact List.mem_map.mpr ⟨z, hz1, rfl⟩)
        obtain ⟨t, i, j, b1, b2, b3⟩ := pr_shape g1 hm
        rw [b1] at g2
        obtain ⟨_, its2, r2, o, ho, hc, n, hd⟩ := I.hok _ _ (sm _ _ b3 rfl)
        obtain ⟨u1, u2, rfl, ri, rj⟩ := vals2 r2
        obtain ⟨t1, rfl⟩ := ri
        obtain ⟨t2, rfl⟩ := rj
        have g4 : kG G (bk z.1) = (i, j) := by rw [g3, b2]; rfl
        show Srt.IsPair h₁ z.1 (kG G (bk z.1)).1 (kG G (bk z.1)).2
        rw [g4]
        exact ⟨t, o, t1, t2, n, g2, (kk _ _ ho).2, hc, hd⟩
      · have e' : some o' = some (seqObj "list" its.toArray 0) := e.symm.trans hb
        cases e'
        intro c
        exact absurd (Value.type.inj c) (by decide)
  · have eo := isort_uniq (swo_k G) h1 h2
    have f1 : (isort (fun z z' : Value × PyData => ltD z.2 z'.2) (its.zip ds)).map (·.1) = out := by
      rw [eo, ← e1]
      rw [e1]
      have := isort_map (lt := fun z z' : Value × PyData => ltD z.2 z'.2) (lt' := fun u v => lexB (kG G (bk u)) (kG G (bk v))) (·.1) (xs := its.zip ds) fun x hx y hy => by
        show lexP (keyD x.2) (keyD y.2) = lexB (kG G (bk x.1)) (kG G (bk y.1))
        rw [(e4 x hx).2.2, (e4 y hy).2.2, lexP_eq]
      rw [this, e1]
    have f2 : (isort (fun z z' : Value × PyData => ltD z.2 z'.2) (its.zip ds)).map (·.2) = isort ltD ds := by
      have := isort_map (lt := fun z z' : Value × PyData => ltD z.2 z'.2) (lt' := ltD) (·.2) (xs := its.zip ds) fun x hx y hy => rfl
      rw [this, e2]
    have f3 := rps_of (K := X.K) (G := G) (S := isort (fun z z' : Value × PyData => ltD z.2 z'.2) (its.zip ds)) fun z hz => by
      have sw : Swo (fun z z' : Value × PyData => ltD z.2 z'.2) := ⟨fun x y h => by
        have a := SrtO.lexB_iff.mp h
        exact SrtO.lexB_no.mpr (by omega), fun x y z h1 h2 => by
        have a := SrtO.lexB_no.mp h1
        have b := SrtO.lexB_no.mp h2
        exact SrtO.lexB_no.mpr (by omega)⟩
      have := e4 z ((isort_ok sw _).2.perm.mem_iff.mp hz)
      exact ⟨this.1, this.2.1⟩
    rw [f1, f2] at f3
    obtain ⟨n, hd'⟩ := hd'
    have hlen : (out.map bk).length ≤ sizeLine := by
      rw [List.length_map, h2.len, ← rv.length]
      exact hz
    refine ⟨.ref d, upd H d (.lst (out.map bk)), I.laidN (t' := s.toks) kp hn (hn2 H I.hok) ⟨hlen, out, n, f3.2, hd'⟩, rfl, q _ d f3.1 hlen (hn2 H I.hok)⟩
/-! ### tuples of any alike data -/
theorem each_of : ∀ {xs : List V} {us : List Value} {ds : List PyData}, Vals xs us → Rps K G xs ds → PySem.W.EachIs (fun u d => ∃ x, RelV x u ∧ Rp K G x d) us ds
  | _, _, _, .nil, .nil => .nil
  | _, _, _, .cons h1 t1, .cons h2 t2 => .cons ⟨_, h1, h2⟩ (each_of t1 t2)
theorem of_each : ∀ {us : List Value} {ds : List PyData}, PySem.W.EachIs (fun u d => ∃ x, RelV x u ∧ Rp K G x d) us ds → ∃ xs, Vals xs us ∧ Rps K G xs ds
  | _, _, .nil => ⟨[], .nil, .nil⟩
  | _, _, .cons ⟨x, h1, h2⟩ t => by
    obtain ⟨xs, t1, t2⟩ := of_each t
    exact ⟨x :: xs, .cons h1 t1, .cons h2 t2⟩
theorem nst_of {ds : List PyData} (h : nstOk ds = true) : (∀ d ∈ ds, (∃ x r, d = .tuple (x :: r)) ∧ d.canLay0 = true ∧ d.depth ≤ 20) ∧ PySem.W.AllAlike ds := by
  obtain ⟨h1, h2⟩ := Bool.and_eq_true_iff.mp h
  refine ⟨fun d hd => ?_, fun d hd d' hd' => List.all_eq_true.mp (List.all_eq_true.mp h2 d hd) d' hd'⟩
  have := List.all_eq_true.mp h1 d hd
  simp only [Bool.and_eq_true, decide_eq_true_eq] at this
  refine ⟨?_, this.2.1, this.2.2⟩
  have t := this.1
  unfold isTupNe at t
  split at t
  · exact ⟨_, _, rfl⟩
  · cases t
theorem lay_each : ∀ {ds : List PyData}, (∀ d ∈ ds, d.canLay0 = true) → PyData.canLayAll0 ds = true
  | [], _ => rfl
  | d :: ds, h => by
    show (d.canLay0 && PyData.canLayAll0 ds) = true
    rw [h d List.mem_cons_self, lay_each fun x hx => h x (List.mem_cons_of_mem _ hx)]
    rfl
def rSortN (K : PySem.W.Frag) : List V → Hp → VK → Prop := fun vs H Q => ∃ (a : Addr) (xs : List V) (ds : List PyData) (G : Hp), vs = [.ref a] ∧ (H a = some (.lst xs) ∨ H a = some (.tup xs)) ∧ Sub G H ∧ Rps K G xs ds ∧ nstOk ds = true ∧
  ∀ ys p, Rps K G ys (nsort ds) → ys.length ≤ sizeLine → H p = none → Q (.ref p) (upd H p (.lst ys))
theorem cr_sortedN {X : Cx} (hu : X.A.units + 65 < cLine) : CallR X (.builtin "sorted") (rSortN X.K) := by
  intro pins s σ H vs us Q I r h
  obtain ⟨a, xs, ds, G, rfl, hs, sm, rp, ok, q⟩ := h
  rw [Vals.ref1 r]
  obtain ⟨T, o, n, its, hT, ho, hc, hd, rv, hz⟩ : ∃ (T : String) (o : Obj) (n : Nat) (its : List Value), (T = "list" ∨ T = "tuple") ∧ s.heap.get? a = some o ∧ o.cls = .type T ∧ o.data = .seq its.toArray n ∧ Vals xs its ∧ xs.length ≤ sizeLine := by
    rcases hs with hs | hs
    · obtain ⟨z, its, n, rv, e⟩ := I.hok _ _ hs
      exact ⟨"list", _, n, its, .inl rfl, e, rfl, rfl, rv, z⟩
    · obtain ⟨z, its, rv, o, e, c, n, d⟩ := I.hok _ _ hs
      exact ⟨"tuple", o, n, its, .inr rfl, e, c, d, rv, z⟩
  obtain ⟨ok1, ok2⟩ := nst_of ok
  have en := each_of rv rp
  have em : ds.map (fun d => d) = ds := List.map_id' ds
  obtain ⟨as, hr⟩ := Dp.readsAll I ds xs its (Rps.dp (rp.toH sm (lay_each fun d hd => (ok1 d hd).2.1)) (lay_each fun d hd => (ok1 d hd).2.1)) rv
  have hr' : ReadsAll s.heap its (ds.map fun d => d) as := by rw [em]; exact hr
  refine sorted_seqN hT ho hc hd (by rw [← rv.length]; exact hz) en (PySem.W.readsAll_each (fun d => d) hr') ok2 (.inl fun d hd => (ok1 d hd).1) (fun d hd => ?_) fun h' d out he hl kp hn hn2 hd' => ?_
  · have := (ok1 d hd).2.2
    show X.A.units + 2 + d.depth < cLine
    omega
  · obtain ⟨ys, v1, v2⟩ := of_each he
    obtain ⟨n, hd'⟩ := hd'
    have hlen : ys.length ≤ sizeLine := by
      rw [v1.length, hl, ← rv.length]
      exact hz
    exact ⟨.ref d, upd H d (.lst ys), I.laidN (t' := s.toks) kp hn (hn2 H I.hok) ⟨hlen, out, n, v1, hd'⟩, rfl, q _ _ v2 hlen (hn2 H I.hok)⟩
theorem minD_mem : ∀ (xs : List PyData) (x : PyData), PySem.W.minD x xs ∈ x :: xs
  | [], x => List.mem_cons_self
  | y :: ys, x => by
    have h := minD_mem ys (if PySem.W.dataLt y x then y else x)
    have e : PySem.W.minD x (y :: ys) = PySem.W.minD (if PySem.W.dataLt y x then y else x) ys := rfl
    rw [e]
    rcases List.mem_cons.mp h with h | h
    · rw [h]
      split
      · exact List.mem_cons_of_mem _ List.mem_cons_self
      · exact List.mem_cons_self
    · exact List.mem_cons_of_mem _ (List.mem_cons_of_mem _ h)
theorem depth_all {ds : List PyData} {k : Nat} (h : ∀ d ∈ ds, d.depth ≤ k) : PyData.depthAll ds ≤ k := by
  induction ds with
  | nil => exact Nat.zero_le _
  | cons d ds ih =>
    show max d.depth (PyData.depthAll ds) ≤ k
    have h1 := h d List.mem_cons_self
    have h2 := ih fun x hx => h x (List.mem_cons_of_mem _ hx)
    omega
def rMinN (K : PySem.W.Frag) : List V → Hp → VK → Prop := fun vs H Q => ∃ (a : Addr) (xs : List V) (d : PyData) (ds : List PyData) (G : Hp), vs = [.ref a] ∧ H a = some (.lst xs) ∧ Sub G H ∧ Rps K G xs (d :: ds) ∧ nstOk (d :: ds) = true ∧
  ∀ v, Rp K G v (PySem.W.minD d ds) → Q v H
theorem cr_minN {X : Cx} (hc : X.calm = true) (hu : X.A.units + 65 < cLine) : CallR X (.builtin "min") (rMinN X.K) := by
  intro pins s σ H vs us Q I r h
  obtain ⟨a, xs, d, ds, G, rfl, ha, sm, rp, ok, q⟩ := h
  rw [Vals.ref1 r]
  obtain ⟨z, its, n, rv, e⟩ := I.hok _ _ ha
  obtain ⟨ok1, ok2⟩ := nst_of ok
  obtain ⟨as, hr⟩ := Dp.readsAll I (d :: ds) xs its (Rps.dp (rp.toH sm (lay_each fun d hd => (ok1 d hd).2.1)) (lay_each fun d hd => (ok1 d hd).2.1)) rv
  have hdp := depth_all fun x hx => (ok1 x hx).2.2
  refine PySem.W.min_list_data (vs := its.toArray) (I.ok.hd hc) ⟨_, e, rfl, _, rfl⟩ (by simpa using hr) ⟨fun x hx y hy => ok2 x hx y hy, fun x hx => ?_⟩ (by omega) fun i v h' tk bs hv hR hk => ?_
  · obtain ⟨x', r', e'⟩ := (ok1 x hx).1
    rw [e']
    exact fun z => nomatch z
  · have hv' : its[i]? = some v := by simpa using hv
    obtain ⟨bs2, r2, hlt, _, _⟩ := PySem.W.readsAll_at hr i v hv'
    obtain ⟨y, hy, ry⟩ := rp.get (i := i) (d := (d :: ds).getD i .none) (by rw [List.getElem?_eq_getElem hlt]; simp [List.getD, List.getElem?_eq_getElem hlt])
    have hmem : (d :: ds).getD i .none ∈ d :: ds := by
      rw [List.getD, List.getElem?_eq_getElem hlt]
      exact List.getElem_mem _
    have e1 := SeqAt.readOf_eq (ok1 _ hmem).2.1 (Reads.keeps hk r2)
    have e2 := SeqAt.readOf_eq (ok1 _ (minD_mem ds d)).2.1 hR
    obtain ⟨u, hu1, hu2⟩ := rv.get hy
    rw [hv'] at hu1
    cases hu1
    exact ⟨y, H, I.kept hk, hu2, q y (by rw [← e2, e1]; exact ry)⟩
end
/-! ### len(set(xs)), xs a list of tuples of whole numbers -/
section
variable {X : Cx} {F : Fs} {W : Nat → L2.St → Hp → Prop} {pos p p2 q : Pos} {a : Expr} {ca : CE}
theorem cr_lenT : CallR X (.builtin "len") (fun vs H Q => ∃ (a : Addr) (L : List (Addr × List Int)), vs = [.ref a] ∧ H a = some (SetTO X.prog X.w a L) ∧ (∀ p ∈ L, SqT X.K H p.1 (p.2.map V.int)) ∧ ((L.map (·.2)).Nodup → Q (.int (L.length : Nat)) H)) := by
  intro pins s σ H vs us Q I r h
  obtain ⟨a, L, rfl, ha, hk, q⟩ := h
  rw [Vals.ref1 r]
  have R0 : SetT0 X.prog X.w s.heap a L := (I.hok a _ ha).1
  obtain ⟨es, ep, t, R⟩ := R0.full fun p hp => I.isT (hk p hp)
  obtain ⟨o, ho, hex, hd⟩ := R.ob
  have hn := R.size
  have hf := R.few
  refine call_len_set ho hex hd R.fits (by rw [hn]; omega) ⟨.int (L.length : Nat), H, I.tok _, ⟨_, by rw [hn]⟩, q R.nd⟩
theorem Sz.newX {H : Hp} (h : Sz H) {p : Addr} {φ : Heap → Prop} : Sz (upd H p (.ext φ)) := h.put rfl fun ys q => by rcases q with q | q <;> cases q
theorem tupsI_rel {K : PySem.W.Frag} {G : Hp} : ∀ {vs : List V} {ds : List PyData} {ks : List (List Int)}, Rps K G vs ds → tupsI ds = some ks → ∃ ps : List (Addr × List Int), vs = ps.map (fun p => V.ref p.1) ∧ ps.map (·.2) = ks ∧ ∀ p ∈ ps, G p.1 = some (.tup (p.2.map V.int))
  | _, _, ks, .nil, h => by
    cases h
    exact ⟨[], rfl, rfl, fun _ h => nomatch h⟩
  | _, _, ks, .cons (d := d) r rs, h => by
    cases d with
    | tuple es =>
      obtain ⟨k, e1, e2⟩ := Option.bind_eq_some_iff.mp h
      obtain ⟨ks', e3, rfl⟩ := Option.map_eq_some_iff.mp e2
      obtain ⟨ps, e4, e5, e6⟩ := tupsI_rel rs e3
      cases r with
      | tup hg hr =>
        have e7 := hr.ints e1
        subst e7
        refine ⟨(_, k) :: ps, by rw [List.map_cons, e4], by rw [List.map_cons, e5], fun p hp => ?_⟩
        rcases List.mem_cons.mp hp with rfl | hp
        · exact hg
        · exact e6 p hp
    | _ => cases h
theorem mem_ddp {k : List Int} : ∀ {ks : List (List Int)}, k ∈ ddp ks ↔ k ∈ ks
  | [] => Iff.rfl
  | j :: ks => by
    rw [ddp]
    split
    · rename_i c
      rw [mem_ddp (ks := ks), List.mem_cons]
      exact ⟨.inr, fun h => h.elim (fun e => e ▸ c) id⟩
    · rw [List.mem_cons, List.mem_cons, mem_ddp (ks := ks)]
theorem nodup_ddp : ∀ {ks : List (List Int)}, (ddp ks).Nodup
  | [] => List.nodup_nil
  | j :: ks => by
    rw [ddp]
    split
    · exact nodup_ddp
    · rename_i c
      exact List.nodup_cons.mpr ⟨fun h => c (mem_ddp.mp h), nodup_ddp⟩
theorem sub_len {α : Type} [DecidableEq α] : ∀ {l m : List α}, l.Nodup → (∀ x ∈ l, x ∈ m) → l.length ≤ m.length
  | [], _, _, _ => Nat.zero_le _
  | x :: l, m, h, hs => by
    obtain ⟨h1, h2⟩ := List.nodup_cons.mp h
    have hx := hs x List.mem_cons_self
    have := sub_len (l := l) (m := m.erase x) h2 fun y hy => (List.mem_erase_of_ne (fun e : y = x => h1 (by rw [← e]; exact hy))).mpr (hs y (List.mem_cons_of_mem _ hy))
    rw [List.length_erase_of_mem hx] at this
    have := List.length_pos_of_mem hx
    rw [List.length_cons]
    omega
theorem dup_len {ks ls : List (List Int)} (h1 : ∀ k ∈ ls, k ∈ ks) (h2 : ∀ k ∈ ks, k ∈ ls) (hn : ls.Nodup) : ls.length = (ddp ks).length :=
  Nat.le_antisymm (sub_len hn fun k hk => mem_ddp.mpr (h1 k hk)) (sub_len nodup_ddp fun k hk => h2 k (mem_ddp.mp hk))
theorem s_lset (hc : X.calm = true) (hu : X.A.units + 65 < cLine) (hg : Gl X "len") (hm : X.mg "len" = none) (hg2 : Gl X "set") (hm2 : X.mg "set" = none) (hs : PySem.W.isStarred a = false) (ha : PE X a (tO X.K F W ca)) :
    PE X (.Call (.Name "len" p) [.Call (.Name "set" p2) [a] [] q] [] pos) (tV X.K F W (.lset ca)) := by
  refine PE.imp (pe_callB cr_lenT hg hm boot_len (pa_cons (pe_callTy (cr_setOfT hc (by omega)) hg2 hm2 PyProof.Rows.boot_set (pa_cons ha pa_nil (star_ok hs)) (by decide) (by decide) (star_ok hs)) pa_nil)) fun σ H Q ⟨G, r, s, h⟩ => ?_
  rw [ev] at h
  refine op1_go s h fun x d r2 G2 H2 s2 t2 hx h2 => ?_
  obtain ⟨val, e, k⟩ := h2.kv s2 t2
  obtain ⟨n, e1, rfl⟩ := Option.map_eq_some_iff.mp e
  cases d with
  | list ds =>
    obtain ⟨ks, e2, e3⟩ := Option.bind_eq_some_iff.mp e1
    split at e3
    · rename_i hlt
      cases e3
      obtain ⟨l, vs, rfl, h3, h4⟩ := hx.lst s2
      obtain ⟨ps, rfl, rfl, h5⟩ := tupsI_rel h4 e2
      refine ⟨l, ps, rfl, SqL.of h3, fun p hp => SqT.of (s2.ex _ _ (h5 p hp) rfl), by rw [List.length_map] at hlt; exact hlt, fun b L hb hL1 hL2 => ?_⟩
      have s3 := s2.new (o := SetTO X.prog X.w b L) hb s2.sz.newX
      refine ⟨b, L, rfl, upd_same, fun p hp => SqT.of (s3.ex _ _ (h5 p (hL1 p hp)) rfl), fun nd => ?_⟩
      have e4 : L.length = (ddp (ps.map (·.2))).length := by
        have := dup_len (ks := ps.map (·.2)) (ls := L.map (·.2)) (fun z hz => by
          obtain ⟨p, hp, rfl⟩ := List.mem_map.mp hz
          exact List.mem_map.mpr ⟨p, hL1 p hp, rfl⟩) (fun z hz => by
          obtain ⟨p, hp, rfl⟩ := List.mem_map.mp hz
          exact hL2 p hp) nd
        rw [List.length_map] at this
        exact this
      rw [e4]
      exact k _ _ _ s3 (Stp.newH s2 hb) (Rp.int _)
    · cases e3
  | _ => cases e1
theorem kcode_le {a b : List Int} (h : prB a = true) (h' : prB b = true) (h1 : kcode a ≤ kcode b) (h2 : kcode b ≤ kcode a) : a = b := by
  match a, b, h, h' with
  | [x, y], [z, w], h, h' =>
    simp only [prB, Bool.and_eq_true, decide_eq_true_eq] at h h'
    simp only [kcode] at h1 h2
    have e1 : x = z := by omega
    have e2 : y = w := by omega
    rw [e1, e2]
theorem kcode_ts {a : List Int} (h : prB a = true) : TS.code 64 a = kcode a ∧ a.length = 2 ∧ TS.Bd 64 a := by
  match a, h with
  | [x, y], h =>
    simp only [prB, Bool.and_eq_true, decide_eq_true_eq] at h
    refine ⟨code_pair x y, rfl, fun m hm => ?_⟩
    simp at hm
    omega
theorem insR_cd (y : List Int) : ∀ {l : List (List Int)}, (l.Pairwise fun a b => kcode a ≤ kcode b) → (insR (fun a b => decide (kcode a < kcode b)) y l).Pairwise fun a b => kcode a ≤ kcode b
  | [], _ => List.pairwise_singleton _ _
  | x :: r, h => by
    have h' := List.pairwise_cons.mp h
    unfold insR
    split
    · rename_i c
      simp only [decide_eq_true_eq] at c
      rw [List.pairwise_cons]
      refine ⟨fun z hz => ?_, h⟩
      rcases List.mem_cons.mp hz with rfl | hz
      · omega
      · have := h'.1 z hz; omega
    · rename_i c
      simp only [decide_eq_true_eq] at c
      rw [List.pairwise_cons]
      refine ⟨fun z hz => ?_, insR_cd y h'.2⟩
      have m : z = y ∨ z ∈ r := by
        clear h h' c
        induction r with
        | nil => exact .inl (by simpa [insR] using hz)
        | cons q r ih =>
          unfold insR at hz
          split at hz
          · rcases List.mem_cons.mp hz with e | e
            · exact .inl e
            · exact .inr e
          · rcases List.mem_cons.mp hz with e | e
            · exact .inr (by rw [e]; simp)
            · rcases ih e with e | e
              · exact .inl e
              · exact .inr (List.mem_cons_of_mem _ e)
      rcases m with rfl | m
      · omega
      · exact h'.1 z m
theorem isort_cd (xs : List (List Int)) : (isort (fun a b => decide (kcode a < kcode b)) xs).Pairwise fun a b => kcode a ≤ kcode b := by
  have key : ∀ (xs acc : List (List Int)), (acc.Pairwise fun a b => kcode a ≤ kcode b) → (xs.foldl (fun acc y => insR (fun a b => decide (kcode a < kcode b)) y acc) acc).Pairwise fun a b => kcode a ≤ kcode b := by
    intro xs
    induction xs with
    | nil => exact fun acc h => h
    | cons x xs ih => exact fun acc h => ih _ (insR_cd x h)
  exact key xs [] List.Pairwise.nil
theorem insR_pm {α : Type} (lt : α → α → Bool) (y : α) : ∀ xs : List α, (insR lt y xs).Perm (y :: xs)
  | [] => List.Perm.refl _
  | x :: xs => by
    unfold insR
    split
    · exact List.Perm.refl _
    · exact ((insR_pm lt y xs).cons x).trans (List.Perm.swap y x xs)
theorem isort_pm {α : Type} (lt : α → α → Bool) (xs : List α) : (isort lt xs).Perm xs := by
  have go : ∀ (xs acc : List α), (xs.foldl (fun acc y => insR lt y acc) acc).Perm (xs ++ acc) := by
    intro xs
    induction xs with
    | nil => exact fun acc => List.Perm.refl _
    | cons x xs ih =>
      intro acc
      refine (ih _).trans ?_
      refine ((insR_pm lt x acc).append_left xs).trans ?_
      exact List.perm_middle
  have := go xs []
  rwa [List.append_nil] at this
theorem s_sset (hc : X.calm = true) (hu : X.A.units + 65 < cLine) (hg : Gl X "sorted") (hm : X.mg "sorted" = none) (hg2 : Gl X "set") (hm2 : X.mg "set" = none) (hs : PySem.W.isStarred a = false) (ha : PE X a (tO X.K F W ca)) :
    PE X (.Call (.Name "sorted" p) [.Call (.Name "set" p2) [a] [] q] [] pos) (tV X.K F W (.sset ca)) := by
  refine PE.imp (pe_callB (cr_sortedT hc) hg hm PyProof.Rows.boot_sorted (pa_cons (pe_callTy (cr_setOfT hc (by omega)) hg2 hm2 PyProof.Rows.boot_set (pa_cons ha pa_nil (star_ok hs)) (by decide) (by decide) (star_ok hs)) pa_nil)) fun σ H Q ⟨G, r, s, h⟩ => ?_
  rw [ev] at h
  refine op1_go s h fun x d r2 G2 H2 s2 t2 hx h2 => ?_
  obtain ⟨val, e, k⟩ := h2.kv s2 t2
  cases d with
  | list ds =>
    obtain ⟨ks, e2, e3⟩ := Option.bind_eq_some_iff.mp e
    split at e3
    · rename_i hlt
      rw [Bool.and_eq_true, decide_eq_true_eq, List.all_eq_true] at hlt
      obtain ⟨hlt, hpr⟩ := hlt
      cases e3
      obtain ⟨l, vs, rfl, h3, h4⟩ := hx.lst s2
      obtain ⟨ps, rfl, rfl, h5⟩ := tupsI_rel h4 e2
      refine ⟨l, ps, rfl, SqL.of h3, fun p hp => SqT.of (s2.ex _ _ (h5 p hp) rfl), by rw [List.length_map] at hlt; exact hlt, fun b L hb hL1 hL2 => ?_⟩
      have s3 := s2.new (o := SetTO X.prog X.w b L) hb s2.sz.newX
      have t3 := Stp.newH (o := SetTO X.prog X.w b L) s2 hb
      have pr2 : ∀ p ∈ L, prB p.2 = true := fun p hp => hpr _ (List.mem_map.mpr ⟨p, hL1 p hp, rfl⟩)
      refine ⟨b, L, 2, 64, rfl, upd_same, fun p hp => SqT.of (s3.ex _ _ (h5 p (hL1 p hp)) rfl), by omega, fun p hp => ⟨(kcode_ts (pr2 p hp)).2.1, (kcode_ts (pr2 p hp)).2.2⟩, fun L' pp hp' nd hlen pw hpn => ?_⟩
      have pr3 : ∀ p ∈ L', prB p.2 = true := fun p hp => pr2 p (hp'.mem_iff.mp hp)
      have eL : L'.map (·.2) = isort (fun a b => decide (kcode a < kcode b)) (ddp (ps.map (·.2))) := by
        refine List.Perm.eq_of_pairwise (le := fun a b => kcode a ≤ kcode b) (fun a b ha hb h1 h2 => ?_) ?_ (isort_cd _) ?_
        · obtain ⟨p, hp, rfl⟩ := List.mem_map.mp ha
          have hb' := mem_ddp.mp ((isort_pm _ _).mem_iff.mp hb)
          exact kcode_le (pr3 p hp) (hpr _ hb') h1 h2
        · rw [List.pairwise_map]
          refine pw.imp_of_mem ?_
          intro a b ha hb h1
          rw [(kcode_ts (pr3 a ha)).1, (kcode_ts (pr3 b hb)).1] at h1
          exact h1
        · refine (List.perm_ext_iff_of_nodup nd ((isort_pm _ _).nodup_iff.mpr nodup_ddp)).mpr fun z => ?_
          rw [(isort_pm _ _).mem_iff, mem_ddp]
          constructor
          · intro hz
            obtain ⟨p, hp, rfl⟩ := List.mem_map.mp hz
            exact List.mem_map.mpr ⟨p, hL1 p (hp'.mem_iff.mp hp), rfl⟩
          · intro hz
            obtain ⟨p, hp, rfl⟩ := List.mem_map.mp hz
            have := hL2 p hp
            obtain ⟨p', hp2, e⟩ := List.mem_map.mp this
            exact List.mem_map.mpr ⟨p', hp'.mem_iff.mpr hp2, e⟩
      rw [← eL] at k
      have rp : ∀ M : List (Addr × List Int), (∀ p ∈ M, G2 p.1 = some (.tup (p.2.map V.int))) → Rps X.K G2 (M.map fun q => V.ref q.1) ((M.map (·.2)).map fun k => PyData.tuple (k.map .int)) := by
        intro M
        induction M with
        | nil => exact fun _ => .nil
        | cons p M ih =>
          intro hM
          refine .cons (.tup (hM p List.mem_cons_self) ?_) (ih fun q hq => hM q (List.mem_cons_of_mem _ hq))
          have itsI : ∀ ns : List Int, Rps X.K G2 (ns.map V.int) (ns.map PyData.int) := by
            intro ns
            induction ns with
            | nil => exact .nil
            | cons n ns ih => exact .cons (.int n) ih
          exact itsI _
      have rr := rp L' fun p hp => h5 p (hL1 p (hp'.mem_iff.mp hp))
      exact Kv.lst (fun v G' H' s' t' hv => k v G' H' s' (t3.trans t') (VT.base t3 hv)) s3 rr (by rw [List.length_map]; show _ ≤ 16777216; omega) hpn
    · cases e3
  | _ => cases e
end
end SC

set_option Elab.async false
set_option maxRecDepth 100000
set_option maxHeartbeats 1000000
namespace SC
open PySem L2

section
variable {K : PySem.W.Frag} {G G1 G2 G' H H1 H2 H' : Hp} {σ σ1 σ2 σ' : L2.St} {r r1 r2 r' : EV} {W : Nat → L2.St → Hp → Prop} {F : Fs}
def tP (K : PySem.W.Frag) (F : Fs) (W : Nat → L2.St → Hp → Prop) (ce : CE) : TO := fun σ H Q => ∃ G r, SR K G H σ r ∧
  Gd K W σ r G H ((evs F ce r).bnd fun ds r' => .of (optI ds) r') fun o r' G' H' => Q o H'
theorem Rps.cut {vs : List V} {ds : List PyData} (h : Rps K G vs ds) (lo hi : Option Int) : Rps K G (cutV vs lo hi) (cutD ds lo hi) := by
  unfold cutV cutD
  rw [h.length]
  exact (h.drop _).take _
theorem cut_whole {ds : List PyData} {lo hi : Option Int} (h1 : HT.sIx ds.length 0 lo = 0) (h2 : HT.sIx ds.length ds.length hi = ds.length) : cutD ds lo hi = ds := by
  unfold cutD
  rw [h1, h2, List.drop_zero, Nat.sub_zero, List.take_length]
theorem slc_go {x : V} {d : PyData} {lo hi : Option Int} {val : Val} {Q : VK} (s : SR K G H σ r) (hx : OV K G H x d) (e : slcD lo hi d = some val) (k : Kv K σ r G H val Q) :
    rSlL K x lo hi H Q ∨ rSlA K x lo hi H Q ∨ rSlS x lo hi H Q := by
  unfold slcD at e
  split at e
  · cases e
    obtain ⟨a, vs, e1, h1, h2⟩ := hx.lst s
    exact .inl ⟨a, vs, e1, SqL.of h1, fun p hp => k.lst s (h2.cut lo hi) (Nat.le_trans (cutV_length _ _ _) (szL s h1)) hp⟩
  · cases e
    obtain ⟨a, vs, e1, h1, h2, h3⟩ := hx.tup s
    refine .inr (.inl ⟨a, vs, e1, SqT.of h1, fun w => ?_, fun w p hp => k.tup s (h2.cut lo hi) (Nat.le_trans (cutV_length _ _ _) (szT s h1)) hp⟩)
    rw [h2.length] at w
    rw [cut_whole w.1 w.2] at k
    exact k.fz s (.tup h3 h2)
  · split at e
    · rename_i z
      cases e
      exact .inr (.inr ⟨_, hx.str, z, k.fz s (.str _)⟩)
    · cases e
  · cases e
theorem rev_go {x : V} {d : PyData} {val : Val} {Q : VK} (s : SR K G H σ r) (hx : OV K G H x d) (e : revD d = some val) (k : Kv K σ r G H val Q) :
    (∃ a xs, x = .ref a ∧ SqL K H a xs ∧ ∀ p, H p = none → Q (.ref p) (upd H p (.lst xs.reverse))) ∨ ∃ a xs, x = .ref a ∧ SqT K H a xs ∧ ∀ p, H p = none → Q (.ref p) (upd H p (.tup xs.reverse)) := by
  unfold revD at e
  split at e
  · cases e
    obtain ⟨a, vs, e1, h1, h2⟩ := hx.lst s
    exact .inl ⟨a, vs, e1, SqL.of h1, fun p hp => k.lst s h2.reverse (by rw [List.length_reverse]; exact szL s h1) hp⟩
  · cases e
    obtain ⟨a, vs, e1, h1, h2, h3⟩ := hx.tup s
    exact .inr ⟨a, vs, e1, SqT.of h1, fun p hp => k.tup s h2.reverse (by rw [List.length_reverse]; exact szT s h1) hp⟩
  · cases e

/-! ### built-ins -/
theorem minI_mem : ∀ {ns : List Int} {m : Int}, minI ns = some m → m ∈ ns ∧ ∀ y ∈ ns, m ≤ y
  | [], m, h => by simp [minI] at h
  | [a], m, h => by
    have : a = m := by simpa [minI] using h
    subst this
    exact ⟨by simp, by simp⟩
  | a :: b :: r, m, h => by
    rw [minI, Option.map_eq_some_iff] at h
    · obtain ⟨k, h1, h2⟩ := h
      obtain ⟨h3, h4⟩ := minI_mem h1
      subst h2
      refine ⟨?_, fun y hy => ?_⟩
      · by_cases c : a ≤ k
        · rw [Int.min_eq_left c]; exact List.mem_cons_self
        · rw [Int.min_eq_right (by omega)]; exact List.mem_cons_of_mem _ h3
      · rcases List.mem_cons.mp hy with e | e
        · subst e; exact Int.min_le_left _ _
        · exact Int.le_trans (Int.min_le_right _ _) (h4 y e)
    · simp
theorem maxI_mem : ∀ {ns : List Int} {m : Int}, maxI ns = some m → m ∈ ns ∧ ∀ y ∈ ns, y ≤ m
  | [], m, h => by simp [maxI] at h
  | [a], m, h => by
    have : a = m := by simpa [maxI] using h
    subst this
    exact ⟨by simp, by simp⟩
  | a :: b :: r, m, h => by
    rw [maxI, Option.map_eq_some_iff] at h
    · obtain ⟨k, h1, h2⟩ := h
      obtain ⟨h3, h4⟩ := maxI_mem h1
      subst h2
      refine ⟨?_, fun y hy => ?_⟩
      · by_cases c : a ≤ k
        · rw [Int.max_eq_right c]; exact List.mem_cons_of_mem _ h3
        · rw [Int.max_eq_left (by omega)]; exact List.mem_cons_self
      · rcases List.mem_cons.mp hy with e | e
        · subst e; exact Int.le_max_left _ _
        · exact Int.le_trans (h4 y e) (Int.le_max_right _ _)
    · simp
theorem min_uniq {ns : List Int} {m k : Int} (h : m ∈ ns ∧ ∀ y ∈ ns, m ≤ y) (h' : k ∈ ns ∧ ∀ y ∈ ns, k ≤ y) : m = k := Int.le_antisymm (h.2 k h'.1) (h'.2 m h.1)
theorem max_uniq {ns : List Int} {m k : Int} (h : m ∈ ns ∧ ∀ y ∈ ns, y ≤ m) (h' : k ∈ ns ∧ ∀ y ∈ ns, y ≤ k) : m = k := Int.le_antisymm (h'.2 m h.1) (h.2 k h'.1)
theorem pos_of_mem {α : Type} {m : α} {ns : List α} (h : m ∈ ns) : 0 < ns.length := List.length_pos_of_mem h

/-- what each built-in asks of values -/
def rBl (K : PySem.W.Frag) : Bn → List V → Hp → VK → Prop
  | .len => fun xs H Q => ∃ x n, xs = [x] ∧ LenV K x H n ∧ Q (.int (n : Nat)) H
  | .min => fun xs H Q => (∃ i j, xs = [.int i, .int j] ∧ Q (.int (if j < i then j else i)) H) ∨ rMin K xs H Q ∨ rMinT K xs H Q ∨ rMinN K xs H Q
  | .max => fun xs H Q => (∃ i j, xs = [.int i, .int j] ∧ Q (.int (if j > i then j else i)) H) ∨ rMax K xs H Q ∨ rMaxT K xs H Q
  | .sum => fun xs H Q => rSum K xs H Q ∨ rSumT K xs H Q
  | .all => rAll K
  | .any => rAny K
  | .tuple => fun xs H Q => ∃ p ys, xs = [.ref p] ∧ ((SqL K H p ys ∧ ∀ l, H l = none → Q (.ref l) (upd H l (.tup ys))) ∨ (SqT K H p ys ∧ Q (.ref p) H))
  | .list => fun xs H Q => ∃ p ys, xs = [.ref p] ∧ (SqL K H p ys ∨ SqT K H p ys) ∧ ∀ l, H l = none → Q (.ref l) (upd H l (.lst ys))
  | .sorted => fun xs H Q => rSortD K xs H Q ∨ rSortN K xs H Q
  | .int => fun xs H Q => ((∃ i, xs = [.int i] ∧ Q (.int i) H) ∨ ∃ k, xs = [.bl k] ∧ Q (.int (if k then 1 else 0)) H) ∨ ∃ a n, xs = [.str a] ∧ PySem.intText? a = some n ∧ a.length ≤ 640 ∧ Q (.int n) H
  | .str => fun xs H Q => ∃ i, xs = [.int i] ∧ i.natAbs.log2 < 1920 ∧ Q (.str (toString i)) H
theorem seq_go {x : V} {d : PyData} {ds : List PyData} (s : SR K G H σ r) (hx : OV K G H x d) (e : itemsD d = some ds) :
    ∃ a vs, x = .ref a ∧ Rps K G vs ds ∧ vs.length ≤ sizeLine ∧ ((d = .list ds ∧ H a = some (.lst vs)) ∨ (d = .tuple ds ∧ H a = some (.tup vs) ∧ G a = some (.tup vs))) := by
  unfold itemsD at e
  split at e
  · cases e
    obtain ⟨a, vs, e1, h1, h2⟩ := hx.lst s
    exact ⟨a, vs, e1, h2, szL s h1, .inl ⟨rfl, h1⟩⟩
  · cases e
    obtain ⟨a, vs, e1, h1, h2, h3⟩ := hx.tup s
    exact ⟨a, vs, e1, h2, szT s h1, .inr ⟨rfl, h1, h3⟩⟩
  · cases e
theorem len_go {x : V} {d : PyData} {n : Nat} (s : SR K G H σ r) (hx : OV K G H x d) (e : lenD d = some n) : LenV K x H n := by
  unfold lenD at e
  split at e
  · cases e
    obtain ⟨a, vs, e1, h1, h2⟩ := hx.lst s
    subst e1
    exact .inl ⟨vs, SqL.of h1, h2.length.symm⟩
  · cases e
    obtain ⟨a, vs, e1, h1, h2, h3⟩ := hx.tup s
    subst e1
    exact .inr ⟨vs, SqT.of h1, h2.length.symm⟩
  · split at e
    · rename_i z
      cases e
      rw [hx.str]
      exact ⟨z, rfl⟩
    · cases e
  · obtain ⟨a, ns, e1, e2, h1⟩ := hx.scr s (fun z => by rw [z] at e; cases e)
    subst e1 e2
    have e : (some (ns.map PyData.int)).map (·.length) = some n := e
    cases e
    exact .inl ⟨_, h1, by show (ns.map PyData.int).length = _; rw [List.length_map, List.length_map]⟩
  · cases e
theorem blt_go {b : Bn} {xs : List V} {ds : List PyData} {val : Val} {Q : VK} (s : SR K G H σ r) (hx : OVs K G H xs ds) (e : bltD b ds = some val) (k : Kv K σ r G H val Q) : rBl K b xs H Q := by
  unfold bltD at e
  split at e
  · -- len
    cases hx with
    | cons h1 h2 =>
      cases h2
      obtain ⟨n, e1, rfl⟩ := Option.map_eq_some_iff.mp e
      exact ⟨_, n, rfl, len_go s h1 e1, k.fz s (.int _)⟩
  · cases hx with
    | cons h1 h2 =>
      cases h2 with
      | cons h3 h4 =>
        cases h4
        cases e
        have := h1.int
        have := h3.int
        subst_vars
        exact .inl ⟨_, _, rfl, k.fz s (.int _)⟩
  · cases hx with
    | cons h1 h2 =>
      cases h2 with
      | cons h3 h4 =>
        cases h4
        cases e
        have := h1.int
        have := h3.int
        subst_vars
        exact .inl ⟨_, _, rfl, k.fz s (.int _)⟩
  · cases hx with
    | cons h1 h2 =>
      cases h2
      split at e
      · rename_i ns e1
        obtain ⟨es, e3, e4⟩ := Option.bind_eq_some_iff.mp e1
        obtain ⟨m, e5, rfl⟩ := Option.map_eq_some_iff.mp e
        obtain ⟨a, vs, rfl, h5, _, h6⟩ := seq_go s h1 e3
        have h7 := h5.ints e4
        subst h7
        have hm := minI_mem e5
        refine .inr ?_
        rcases h6 with ⟨_, h6⟩ | ⟨_, h6, _⟩
        · exact .inl ⟨a, ns, rfl, SqL.of h6, pos_of_mem hm.1, fun m' p q => by rw [min_uniq ⟨p, q⟩ hm]; exact k.fz s (.int _)⟩
        · exact .inr (.inl ⟨a, ns, rfl, SqT.of h6, pos_of_mem hm.1, fun m' p q => by rw [min_uniq ⟨p, q⟩ hm]; exact k.fz s (.int _)⟩)
      · obtain ⟨m, e5, rfl⟩ := Option.map_eq_some_iff.mp e
        unfold minN at e5
        split at e5
        · rename_i x xs _
          split at e5
          · rename_i ok
            cases e5
            obtain ⟨a, vs, rfl, h5, _, h6⟩ := seq_go s h1 (show itemsD (.list (x :: xs)) = some (x :: xs) from rfl)
            rcases h6 with ⟨_, h6⟩ | ⟨h6, _⟩
            · exact .inr (.inr (.inr ⟨a, vs, x, xs, G, rfl, h6, s.ex, h5, ok, fun v hv => k.fz s hv⟩))
            · cases h6
          · cases e5
        · cases e5
  · cases hx with
    | cons h1 h2 =>
      cases h2
      obtain ⟨ns, e1, e2⟩ := Option.bind_eq_some_iff.mp e
      obtain ⟨es, e3, e4⟩ := Option.bind_eq_some_iff.mp e1
      obtain ⟨m, e5, rfl⟩ := Option.map_eq_some_iff.mp e2
      obtain ⟨a, vs, rfl, h5, _, h6⟩ := seq_go s h1 e3
      have h7 := h5.ints e4
      subst h7
      have hm := maxI_mem e5
      refine .inr ?_
      rcases h6 with ⟨_, h6⟩ | ⟨_, h6, _⟩
      · exact .inl ⟨a, ns, rfl, SqL.of h6, pos_of_mem hm.1, fun m' p q => by rw [max_uniq ⟨p, q⟩ hm]; exact k.fz s (.int _)⟩
      · exact .inr ⟨a, ns, rfl, SqT.of h6, pos_of_mem hm.1, fun m' p q => by rw [max_uniq ⟨p, q⟩ hm]; exact k.fz s (.int _)⟩
  · cases hx with
    | cons h1 h2 =>
      cases h2
      obtain ⟨ns, e1, rfl⟩ := Option.map_eq_some_iff.mp e
      obtain ⟨es, e3, e4⟩ := Option.bind_eq_some_iff.mp e1
      obtain ⟨a, vs, rfl, h5, _, h6⟩ := seq_go s h1 e3
      have h7 := h5.ints e4
      subst h7
      rcases h6 with ⟨_, h6⟩ | ⟨_, h6, _⟩
      · exact .inl ⟨a, ns, rfl, SqL.of h6, k.fz s (.int _)⟩
      · exact .inr ⟨a, ns, rfl, SqT.of h6, k.fz s (.int _)⟩
  · cases hx with
    | cons h1 h2 =>
      cases h2
      obtain ⟨bs, e1, rfl⟩ := Option.map_eq_some_iff.mp e
      obtain ⟨a, vs, rfl, h5, h6⟩ := h1.lst s
      have h7 := h6.bools e1
      subst h7
      exact ⟨a, bs, rfl, SqL.of h5, k.fz s (.bl _)⟩
  · cases hx with
    | cons h1 h2 =>
      cases h2
      obtain ⟨bs, e1, rfl⟩ := Option.map_eq_some_iff.mp e
      obtain ⟨a, vs, rfl, h5, h6⟩ := h1.lst s
      have h7 := h6.bools e1
      subst h7
      exact ⟨a, bs, rfl, SqL.of h5, k.fz s (.bl _)⟩
  · cases hx with
    | cons h1 h2 =>
      cases h2
      obtain ⟨es, e1, rfl⟩ := Option.map_eq_some_iff.mp e
      obtain ⟨a, vs, rfl, h5, z, h6⟩ := seq_go s h1 e1
      rcases h6 with ⟨_, h6⟩ | ⟨_, h6, h7⟩
      · exact ⟨a, vs, rfl, .inl ⟨SqL.of h6, fun l hl => k.tup s h5 z hl⟩⟩
      · exact ⟨a, vs, rfl, .inr ⟨SqT.of h6, k.fz s (.tup h7 h5)⟩⟩
  · cases hx with
    | cons h1 h2 =>
      cases h2
      obtain ⟨es, e1, rfl⟩ := Option.map_eq_some_iff.mp e
      obtain ⟨a, vs, rfl, h5, z, h6⟩ := seq_go s h1 e1
      rcases h6 with ⟨_, h6⟩ | ⟨_, h6, h7⟩
      · exact ⟨a, vs, rfl, .inl (SqL.of h6), fun l hl => k.lst s h5 z hl⟩
      · exact ⟨a, vs, rfl, .inr (SqT.of h6), fun l hl => k.lst s h5 z hl⟩
  · cases hx with
    | cons h1 h2 =>
      cases h2
      obtain ⟨es, e1, rfl⟩ := Option.map_eq_some_iff.mp e
      obtain ⟨fs, e2, e3⟩ := Option.bind_eq_some_iff.mp e1
      split at e3
      · rename_i ok
        cases e3
        obtain ⟨a, vs, rfl, h5, z, h6⟩ := seq_go s h1 e2
        refine .inl ⟨a, vs, fs, G, rfl, h6.elim (fun q => .inl q.2) (fun q => .inr q.2.1), s.ex, h5, ok, fun ys p h7 z7 hp => k.lst s h7 z7 hp⟩
      · split at e3
        · rename_i ok
          cases e3
          obtain ⟨a, vs, rfl, h5, z, h6⟩ := seq_go s h1 e2
          exact .inr ⟨a, vs, fs, G, rfl, h6.elim (fun q => .inl q.2) (fun q => .inr q.2.1), s.ex, h5, ok, fun ys p h7 z7 hp => k.lst s h7 z7 hp⟩
        · cases e3
  · cases hx with
    | cons h1 h2 =>
      cases h2
      cases e
      have := h1.int
      subst this
      exact .inl (.inl ⟨_, rfl, k.fz s (.int _)⟩)
  · cases hx with
    | cons h1 h2 =>
      cases h2
      cases e
      have := h1.bl
      subst this
      exact .inl (.inr ⟨_, rfl, k.fz s (.int _)⟩)
  · cases hx with
    | cons h1 h2 =>
      cases h2
      split at e
      · rename_i hl
        obtain ⟨m, e1, rfl⟩ := Option.map_eq_some_iff.mp e
        exact .inr ⟨_, m, congrArg (fun z => [z]) h1.str, e1, hl, k.fz s (.int _)⟩
      · cases e
  · cases hx with
    | cons h1 h2 =>
      cases h2
      split at e
      · rename_i hl
        cases e
        exact ⟨_, congrArg (fun z => [z]) h1.int, hl, k.fz s (.str _)⟩
      · cases e
  · cases e
end
section
variable {X : Cx} {F : Fs} {W : Nat → L2.St → Hp → Prop} {pos : Pos} {a b c e : Expr} {ca cb cc ce ces : CE} {es : List Expr}
theorem PO.imp {X : Cx} {e : Option Expr} {t t' : TO} (h : PO X e t) (f : ∀ σ H Q, t' σ H Q → t σ H Q) : PO X e t' := ⟨fun pins s σ H Q I q => h.run pins s σ H Q I (f σ H Q q)⟩
theorem p_none : PO X none (tP X.K F W .nil) := by
  refine PO.imp po_none fun σ H Q ⟨G, r, s, h⟩ => ?_
  rw [evs] at h
  exact h G H s Stp.refl
theorem p_some (h : PE X e (tV X.K F W ce)) : PO X (some e) (tP X.K F W (.cons ce .nil)) := by
  refine PO.imp (po_some h) fun σ H Q ⟨G, r, s, h⟩ => ⟨G, r, s, ?_⟩
  have e : evs F (.cons ce .nil) r = (ev F ce r).bnd fun v r1 => .ok [v.toD] r1 := by
    rw [evs]
    cases ev F ce r with
    | ok v r1 => rw [bnd_ok, bnd_ok, evs]; rfl
    | exc c r1 => rfl
    | bad => rfl
  rw [e] at h
  refine h.bnd.bnd.imp fun val r1 G1 H1 s1 t1 h1 v hv => ?_
  have h2 := h1 G1 H1 s1 t1
  cases val with
  | sto S => exact hv.elim
  | ol ds => exact h2.elim
  | fz d =>
    cases d with
    | int i =>
      have hv : Rp X.K G1 v (.int i) := hv
      cases hv
      exact ⟨i, rfl, h2 G1 H1 s1 t1⟩
    | _ => exact h2.elim
theorem s_slc {lo hi : Option Expr} {cl ch : CE} {p2 : Pos} (ha : PE X a (tO X.K F W ca)) (hl : PO X lo (tP X.K F W cl)) (hh : PO X hi (tP X.K F W ch)) : PE X (.Subscript a (.Slice lo hi none p2) pos) (tV X.K F W (.slc ca cl ch)) := by
  refine PE.imp (pe_slice (sl_list.or (sl_tupA.or sl_str)) ha hl hh) fun σ H Q ⟨G, r, s, h⟩ => ⟨G, r, s, ?_⟩
  rw [ev] at h
  refine h.bnd.imp fun o r1 G1 H1 s1 t1 h1 x hx => ⟨G1, r1, s1, (h1.rebase t1).bnd.imp fun l r2 G2 H2 s2 t2 h2 => ⟨G2, r2, s2, (h2.rebase t2).bnd.imp fun u r3 G3 H3 s3 t3 h3 => ?_⟩⟩
  obtain ⟨d, e1, h4⟩ := h3.ofB
  obtain ⟨val, e2, k⟩ := (h4.rebase t3).kv s3 ((t1.trans t2).trans t3)
  exact slc_go s3 ((hx.mono (t2.ex.trans t3.ex)).ov s3 e1) e2 k
theorem s_rev {k : Nat} {p1 p2 p3 : Pos} (ha : PE X a (tO X.K F W ca)) : PE X (.Subscript a (.Slice none none (some (.UnaryOp .USub (.Constant (.int 1) k p1) p2)) p3) pos) (tV X.K F W (.rev ca)) := by
  refine PE.imp (pe_revA ha) fun σ H Q ⟨G, r, s, h⟩ => ?_
  rw [ev] at h
  refine op1_go s h fun x d r2 G2 H2 s2 t2 hx h2 => ?_
  obtain ⟨val, e, k⟩ := h2.kv s2 t2
  exact rev_go s2 hx e k
/-! ### calls of built-ins -/
def bnName : Bn → Str
  | .len => "len" | .min => "min" | .max => "max" | .sum => "sum" | .all => "all" | .any => "any" | .tuple => "tuple" | .list => "list" | .int => "int" | .str => "str" | .sorted => "sorted"
theorem no_star {es : List Expr} {env : Env} {pos : Pos} (h : es.all (fun e => !PySem.W.isStarred e) = true) : (backTo pos (starEach es env)).any (·.1) = false := by
  have e : ∀ {l : List Expr}, l.all (fun e => !PySem.W.isStarred e) = true → (starEach l env).any (·.1) = false := by
    intro l
    induction l with
    | nil => intro _; rfl
    | cons x l ih =>
      intro hl
      rw [List.all_cons, Bool.and_eq_true] at hl
      rw [star_ok (by simpa using hl.1), List.any_cons, ih hl.2]
      rfl
  have e2 := e h
  unfold backTo
  rw [List.any_map]
  exact e2
theorem blt_read {b : Bn} {K : PySem.W.Frag} {σ : L2.St} {H : Hp} {Q : VK} (h : tV K F W (.blt b ces) σ H Q) : tCB (rBl K b) (tOs K F W ces) σ H Q := by
  obtain ⟨G, r, s, h⟩ := h
  refine ⟨G, r, s, ?_⟩
  rw [ev] at h
  refine h.bnd.imp fun os r1 G1 H1 s1 t1 h1 vs hvs => ?_
  obtain ⟨ds, e1, h2⟩ := h1.ofB
  obtain ⟨val, e2, k⟩ := (h2.rebase t1).kv s1 t1
  exact blt_go s1 (ORs.ov (s := s1) hvs e1) e2 k
end
end SC

set_option Elab.async false
set_option maxRecDepth 100000
set_option maxHeartbeats 1000000
namespace SC
open PySem L2

section
variable {X : Cx} {F : Fs} {W : Nat → L2.St → Hp → Prop} {pos p : Pos} {a b c e : Expr} {ca cb cc ce ces : CE} {es : List Expr}
theorem s_blt {b : Bn} (hc : X.calm = true) (hu : X.A.units + 65 < cLine) (hg : Gl X (bnName b)) (hm : X.mg (bnName b) = none) (hs : PySem.W.isStarred e = false) (hss : es.all (fun e => !PySem.W.isStarred e) = true) (h : PA X (e :: es) (tOs X.K F W ces)) :
    PE X (.Call (.Name (bnName b) p) (e :: es) [] pos) (tV X.K F W (.blt b ces)) := by
  have s1 := fun env => star_ok (es := es) (env := env) hs
  have s2 := fun env pos => no_star (env := env) (pos := pos) hss
  cases b with
  | len => exact PE.imp (pe_callB call_len hg hm boot_len h (by decide) (by decide) (s1 _) (s2 _ _)) fun σ H Q h => blt_read h
  | min => exact PE.imp (pe_callB ((call_min2 hc).or ((cr_min hc).or ((cr_minT hc).or (cr_minN hc hu)))) hg hm PyProof.Rows.boot_min h (by decide) (by decide) (s1 _) (s2 _ _)) fun σ H Q h => blt_read h
  | max => exact PE.imp (pe_callB ((call_max2 hc).or ((cr_max hc).or (cr_maxT hc))) hg hm (by decide +kernel) h (by decide) (by decide) (s1 _) (s2 _ _)) fun σ H Q h => blt_read h
  | sum => exact PE.imp (pe_callB ((cr_sum hc).or (cr_sumT hc)) hg hm (by decide +kernel) h (by decide) (by decide) (s1 _) (s2 _ _)) fun σ H Q h => blt_read h
  | all => exact PE.imp (pe_callB (cr_all hc) hg hm (by decide +kernel) h (by decide) (by decide) (s1 _) (s2 _ _)) fun σ H Q h => blt_read h
  | any => exact PE.imp (pe_callB (cr_any hc) hg hm (by decide +kernel) h (by decide) (by decide) (s1 _) (s2 _ _)) fun σ H Q h => blt_read h
  | tuple => exact PE.imp (pe_callTy call_tuple_of hg hm (by decide +kernel) h (by decide) (by decide) (s1 _) (s2 _ _)) fun σ H Q h => blt_read h
  | list => exact PE.imp (pe_callTy call_list_of hg hm (by decide +kernel) h (by decide) (by decide) (s1 _) (s2 _ _)) fun σ H Q h => blt_read h
  | int => exact PE.imp (pe_callTy (call_int1.or call_int_str) hg hm (by decide +kernel) h (by decide) (by decide) (s1 _) (s2 _ _)) fun σ H Q h => blt_read h
  | str => exact PE.imp (pe_callTy call_str_int hg hm (by decide +kernel) h (by decide) (by decide) (s1 _) (s2 _ _)) fun σ H Q h => blt_read h
  | sorted => exact PE.imp (pe_callB (cr_sortedD.or (cr_sortedN hu)) hg hm (by decide +kernel) h (by decide) (by decide) (s1 _) (s2 _ _)) fun σ H Q h => blt_read h

/-! ### texts -/
theorem strs_go {K : PySem.W.Frag} {G : Hp} : ∀ {vs : List V} {ds : List PyData} {ys : List Str}, Rps K G vs ds → strsD ds = some ys → vs = ys.map V.str
  | _, _, _, .nil, e => by cases e; rfl
  | _, _, _, .cons h t, e => by
    cases h with
    | str x =>
      obtain ⟨zs, e1, rfl⟩ := Option.map_eq_some_iff.mp e
      rw [strs_go t e1]
      rfl
    | _ => cases e
theorem rps_strs {K : PySem.W.Frag} {G : Hp} : ∀ ys : List Str, Rps K G (ys.map V.str) (ys.map PyData.str)
  | [] => .nil
  | y :: ys => .cons (.str y) (rps_strs ys)
theorem s_split {apos : Pos} (hs : PySem.W.isStarred b = false) (hb0 : attributeBase a "split" X.env (eval a X.env) = eval a X.env) (hl : (apos.endLine == pos.line) = true) (ha : PE X a (tO X.K F W ca)) (hb : PE X b (tO X.K F W cb)) :
    PE X (.Call (.Attribute a "split" apos) [b] [] pos) (tV X.K F W (.split ca cb)) := by
  refine PE.imp (pe_split ha hb (star_ok hs) hb0 hl) fun σ H Q ⟨G, r, s, h⟩ => ?_
  rw [ev] at h
  refine op1_go s h fun x d r2 G2 H2 s2 t2 hx h2 => ?_
  cases d with
  | str z =>
    refine ⟨⟨z, hx.str⟩, ?_⟩
    refine op1_go s2 h2 fun y d' r3 G3 H3 s3 t3 hy h3 => ?_
    obtain ⟨val, e, k⟩ := h3.kv s3 (t2.trans t3)
    unfold splD at e
    split at e
    · rename_i w
      split at e
      · rename_i c
        cases e
        refine ⟨z, w, hx.str, congrArg (fun u => [u]) hy.str, c.1, c.2, fun p hp => ?_⟩
        exact k.lst s3 (rps_strs _) (by rw [List.length_map]; exact Nat.le_trans (PyProof.Rows.split_le z w) c.2) hp
      · cases e
    · cases e
  | _ => exact h2.elim
theorem s_join {apos : Pos} (hs : PySem.W.isStarred b = false) (hb0 : attributeBase a "join" X.env (eval a X.env) = eval a X.env) (hl : (apos.endLine == pos.line) = true) (ha : PE X a (tO X.K F W ca)) (hb : PE X b (tO X.K F W cb)) :
    PE X (.Call (.Attribute a "join" apos) [b] [] pos) (tV X.K F W (.join ca cb)) := by
  refine PE.imp (pe_join ha hb (star_ok hs) hb0 hl) fun σ H Q ⟨G, r, s, h⟩ => ?_
  rw [ev] at h
  refine op1_go s h fun x d r2 G2 H2 s2 t2 hx h2 => ?_
  cases d with
  | str z =>
    refine ⟨⟨z, hx.str⟩, ?_⟩
    refine op1_go s2 h2 fun y d' r3 G3 H3 s3 t3 hy h3 => ?_
    obtain ⟨val, e, k⟩ := h3.kv s3 (t2.trans t3)
    unfold joinD at e
    obtain ⟨ys, e1, e2⟩ := Option.bind_eq_some_iff.mp e
    obtain ⟨ds, e3, e4⟩ := Option.bind_eq_some_iff.mp e1
    split at e2
    · rename_i c
      cases e2
      obtain ⟨p, vs, rfl, h5, _, h6⟩ := seq_go s3 hy e3
      have h7 := strs_go h5 e4
      subst h7
      exact ⟨z, p, ys, hx.str, rfl, h6.elim (fun q => .inl (SqL.of q.2)) (fun q => .inr (SqT.of q.2.1)), c, k.fz s3 (.str _)⟩
    · cases e2
  | _ => exact h2.elim
/-! ### isinstance -/
def tyOk (t : String) : Bool := t == "int" || t == "bool" || t == "str" || t == "tuple" || t == "list"
def tyN : PyData → String
  | .none => "NoneType" | .bool _ => "bool" | .int _ => "int" | .str _ => "str" | .list _ => "list" | .tuple _ => "tuple" | .dict _ => ""
theorem kit_tab : ∀ a ∈ ["NoneType", "bool", "int", "str", "list", "tuple"], ∀ b ∈ ["int", "bool", "str", "tuple", "list"], kitB a b = some (a == b || (a == "bool" && b == "int")) := by decide +kernel
theorem tyOk_mem {t : String} (h : tyOk t = true) : t ∈ ["int", "bool", "str", "tuple", "list"] := by
  unfold tyOk at h
  simp only [Bool.or_eq_true, beq_iff_eq] at h
  rcases h with (((h | h) | h) | h) | h <;> subst h <;> decide
theorem kit_ty2 {K : PySem.W.Frag} {d : PyData} {t : String} (h : tyOk t = true) (hd : ∀ kvs, d ≠ .dict kvs) : PySem.W.kitOne K (.type (tyN d)) (.type t) = some (tyD d t) := by
  have hm := tyOk_mem h
  have q : ∀ n, n ∈ ["NoneType", "bool", "int", "str", "list", "tuple"] → kitB n t = some (n == t || (n == "bool" && t == "int")) := fun n hn => kit_tab n hn t hm
  refine kit_ty ?_
  have e : ∀ x : String, (x == t) = (t == x) := fun x => Bool.beq_comm
  cases d with
  | none => rw [tyN, q _ (by decide), e]; simp [tyD]
  | bool b => rw [tyN, q _ (by decide), e]; simp [tyD]
  | int i => rw [tyN, q _ (by decide), e]; simp [tyD]
  | str x => rw [tyN, q _ (by decide), e]; simp [tyD]
  | list x => rw [tyN, q _ (by decide), e]; simp [tyD]
  | tuple x => rw [tyN, q _ (by decide), e]; simp [tyD]
  | dict kvs => exact absurd rfl (hd kvs)
theorem kit_any {K : PySem.W.Frag} {d : PyData} (hd : ∀ kvs, d ≠ .dict kvs) : ∀ {ts : List String}, ts.all tyOk = true → PySem.W.kitAny K (.type (tyN d)) (ts.map Value.type) = some (ts.any (tyD d))
  | [], _ => rfl
  | t :: ts, h => by
    rw [List.all_cons, Bool.and_eq_true] at h
    rw [List.map_cons, List.any_cons]
    refine kitAny_cons (kit_ty2 h.1 hd) (fun z => ?_) (fun z => ?_)
    · rw [z, Bool.false_or]; exact kit_any hd h.2
    · rw [z, Bool.true_or]
theorem ty_go {K : PySem.W.Frag} {G H : Hp} {σ : L2.St} {r : EV} {x : V} {d : PyData} (s : SR K G H σ r) (hx : OV K G H x d) (hd : ∀ kvs, d ≠ .dict kvs) : TyX K H x (.type (tyN d)) := by
  refine .base ?_
  cases d with
  | none => rw [hx.non]; exact .non
  | bool b => rw [hx.bl]; exact .bl b
  | int i => rw [hx.int]; exact .int i
  | str x => rw [hx.str]; exact .str x
  | list x =>
    obtain ⟨a, vs, e1, h1, h2⟩ := hx.lst s
    rw [e1]; exact .lst h1
  | tuple x =>
    obtain ⟨a, vs, e1, h1, h2, _⟩ := hx.tup s
    rw [e1]; exact .tup h1
  | dict kvs => exact absurd rfl (hd kvs)
theorem s_isin1 {t : Str} {n : String} {p2 : Pos} (ht : bootBuiltins t = some (.type n)) (hn : tyOk n = true) (hnm : t ≠ "__name__") (hnd : (t == ("__debug__" : Str)) = false) (hg : Gl X "isinstance") (hm : X.mg "isinstance" = none) (hg2 : Gl X t) (hm2 : X.mg t = none) (hs : PySem.W.isStarred a = false)
    (ha : PE X a (tO X.K F W ca)) : PE X (.Call (.Name "isinstance" p) [a, .Name t p2] [] pos) (tV X.K F W (.isin ca [n])) := by
  have hty : PE X (.Name t p2) (tC (.ty n)) := pe_bltn hg2 hm2 ht rfl hnm hnd
  refine PE.imp (pe_callB call_isi hg hm PyProof.Rows.boot_isinstance (pa_cons ha (pa_cons hty pa_nil) (star_ok hs)) (by decide) (by decide) (star_ok hs)) fun σ H Q ⟨G, r, s, h⟩ => ?_
  rw [ev] at h
  refine op1_go s h fun x d r2 G2 H2 s2 t2 hx h2 => ?_
  by_cases hd : ∃ kvs, d = .dict kvs
  · obtain ⟨kvs, rfl⟩ := hd
    exact h2.elim
  · have hd' : ∀ kvs, d ≠ .dict kvs := fun kvs e => hd ⟨kvs, e⟩
    have h3 : Gd X.K W σ r2 G2 H2 (.ok (.fz (.bool ([n].any (tyD d)))) r2) fun val r' G' H' => ∀ v, VT X.K σ r H G' H' σ r' v val → Q v H' := by
      cases d <;> first | exact h2 | exact absurd rfl (hd' _)
    refine ⟨x, .ty n, _, _, _, rfl, .ty n, ty_go s2 hx hd', kit_ty2 hn hd', ?_⟩
    have h4 := h3 G2 H2 s2 Stp.refl (.bl ([n].any (tyD d))) (.bl _)
    simpa using h4
theorem s_isin2 {t1 t2 : Str} {n1 n2 : String} {p2 p3 p4 : Pos} {kk : Nat} (ht : bootBuiltins t1 = some (.type n1)) (ht' : bootBuiltins t2 = some (.type n2)) (hn : tyOk n1 = true) (hn' : tyOk n2 = true) (hnm : t1 ≠ "__name__") (hnd : (t1 == ("__debug__" : Str)) = false) (hnm' : t2 ≠ "__name__") (hnd' : (t2 == ("__debug__" : Str)) = false)
    (hg : Gl X "isinstance") (hm : X.mg "isinstance" = none) (hg2 : Gl X t1) (hm2 : X.mg t1 = none) (hg3 : Gl X t2) (hm3 : X.mg t2 = none) (hs : PySem.W.isStarred a = false)
    (ha : PE X a (tO X.K F W ca)) : PE X (.Call (.Name "isinstance" p) [a, .Tuple [.Name t1 p2, .Name t2 p3] kk p4] [] pos) (tV X.K F W (.isin ca [n1, n2])) := by
  have hty : PE X (.Name t1 p2) (tC (.ty n1)) := pe_bltn hg2 hm2 ht rfl hnm hnd
  have hty' : PE X (.Name t2 p3) (tC (.ty n2)) := pe_bltn hg3 hm3 ht' rfl hnm' hnd'
  refine PE.imp (pe_callB call_isiT hg hm PyProof.Rows.boot_isinstance (pa_cons ha (pa_cons (pe_tup (pa_cons hty (pa_cons hty' pa_nil))) pa_nil) (star_ok hs)) (by decide) (by decide) (star_ok hs)) fun σ H Q ⟨G, r, s, h⟩ => ?_
  rw [ev] at h
  refine op1_go s h fun x d r2 G2 H2 s2 t2 hx h2 => ?_
  refine ⟨by show 2 ≤ sizeLine; decide, fun q hq => ?_⟩
  by_cases hd : ∃ kvs, d = .dict kvs
  · obtain ⟨kvs, rfl⟩ := hd
    exact h2.elim
  · have hd' : ∀ kvs, d ≠ .dict kvs := fun kvs e => hd ⟨kvs, e⟩
    have h3 : Gd X.K W σ r2 G2 H2 (.ok (.fz (.bool ([n1, n2].any (tyD d)))) r2) fun val r' G' H' => ∀ v, VT X.K σ r H G' H' σ r' v val → Q v H' := by
      cases d <;> first | exact h2 | exact absurd rfl (hd' _)
    have s3 := s2.new (o := .tup [.ty n1, .ty n2]) hq (s2.sz.newT (by show 2 ≤ sizeLine; decide))
    have hx' : OV X.K G2 (upd H2 q (.tup [.ty n1, .ty n2])) x d := by
      rcases hx with h | ⟨a, vs, ds, e1, e2, e3, e4⟩
      · exact .inl h
      · exact .inr ⟨a, vs, ds, e1, e2, same_frz hq _ _ e3, e4⟩
    refine ⟨x, q, _, _, _, _, rfl, upd_same, .cons (.ty n1) (.cons (.ty n2) .nil), ty_go s3 hx' hd', kit_any (ts := [n1, n2]) hd' (by simp [hn, hn']), ?_⟩
    exact h3 G2 _ s3 (Stp.newH s2 hq) (.bl ([n1, n2].any (tyD d))) (.bl _)

/-! ### methods of a slot's list -/
theorem isOl_of {r : EV} {i : Nat} (h : isOl r i = true) : ∃ ds, r[i]? = some (some (.ol ds)) := by
  unfold isOl at h
  split at h
  · rename_i ds e; exact ⟨ds, getS_some e⟩
  · cases h
theorem tyV_own {K : PySem.W.Frag} {G H : Hp} {σ : L2.St} {r : EV} {i : Nat} (s : SR K G H σ r) (h : isOl r i = true) : ∃ a, σ[i]? = some (some (.ref a)) ∧ tyV K "list" (.ref a) H := by
  obtain ⟨ds, e⟩ := isOl_of h
  obtain ⟨v, h1, a, vs, rfl, h2, h3, h4⟩ := s.slot i _ e ns_ol
  exact ⟨a, h1, .inl ⟨rfl, vs, SqL.of h3⟩⟩
theorem s_app {i : Nat} {x : Str} {px apos cpos : Pos} (hN : X.N[i]? = some x) (hv : Vis X.env.scope x) (hd : (x == ("__debug__" : Str)) = false) (hcd : (x == ("__classdict__" : Str)) = false) (hl : (apos.endLine == cpos.line) = true) (hs : PySem.W.isStarred e = false)
    (h : PE X e (tV X.K F W ce)) : PE X (.Call (.Attribute (.Name x px) "append" apos) [e] [] cpos) (tV X.K F W (.app i ce)) := by
  refine PE.imp (pe_bm PySem.F.plainAttrs_list PySem.F.slot_list_append PySem.F.type_list_append mt_append (pe_var hN hv hd hcd) (s_cons (F := F) (W := W) hs h s_nil) rfl (by rw [star_ok hs]; rfl) hl (star_ok hs) rfl) fun σ H Q ⟨G, r, s, h⟩ => ?_
  rw [ev] at h
  by_cases c : isOl r i = true
  · rw [c] at h
    obtain ⟨a, h1, h2⟩ := tyV_own s c
    refine ⟨_, h1, h2, G, r, s, ?_⟩
    rw [evs]
    have h : Gd X.K W σ r G H ((ev F ce r).bnd fun v r1 => match getS r1 i with
      | some (.ol ds) => if ds.length < sizeLine then .ok (.fz .none) (r1.set i (some (.ol (ds ++ [v.toD])))) else .bad
      | _ => .bad) fun val r' G' H' => ∀ v, VT X.K σ r H G' H' σ r' v val → Q v H' := h
    have e2 : ((ev F ce r).bnd fun v r1 => (evs F .nil r1).bnd fun ds r2 => Out.ok (v.toD :: ds) r2) = (ev F ce r).bnd fun v r1 => .ok [v.toD] r1 := by
      cases ev F ce r with
      | ok v r1 => rw [bnd_ok, bnd_ok, evs]; rfl
      | exc c r1 => rfl
      | bad => rfl
    rw [e2]
    cases q : ev F ce r with
    | exc c r1 => rw [q] at h; exact h
    | bad => rw [q] at h; exact h.elim
    | ok v0 r1 =>
      rw [q, bnd_ok] at h
      rw [bnd_ok]
      intro G1 H1 s1 t1 vs hvs
      split at h
      · rename_i ds eg
        split at h
        · rename_i z
          obtain ⟨v', h3, b, ws, rfl, h4, h5, h6⟩ := s1.slot i _ (getS_some eg) ns_ol
          rw [h1] at h3
          cases h3
          cases hvs with
          | cons hv1 hv2 =>
            cases hv2
            have z' : ws.length < sizeLine := by rw [h6.length]; exact z
            obtain ⟨s2, t2⟩ := wrLst (es := ds ++ [v0.toD]) (vs := ws ++ [_]) s1 (getS_some eg) h1 (h6.append (.cons hv1 .nil)) (by rw [List.length_append]; exact z')
            exact ⟨a, ws, _, rfl, rfl, h5, z', h G1 _ s2 (t1.trans t2) _ .non⟩
        · exact h.elim
      · exact h.elim
  · rw [Bool.not_eq_true] at c
    rw [c] at h
    exact h.elim
theorem s_popL {i : Nat} {x : Str} {px apos cpos : Pos} (hN : X.N[i]? = some x) (hv : Vis X.env.scope x) (hd : (x == ("__debug__" : Str)) = false) (hcd : (x == ("__classdict__" : Str)) = false) (hl : (apos.endLine == cpos.line) = true) :
    PE X (.Call (.Attribute (.Name x px) "pop" apos) [] [] cpos) (tV X.K F W (.popL i)) := by
  refine PE.imp (pe_bm0 PySem.F.plainAttrs_list PySem.F.slot_list_pop PySem.F.type_list_pop mt_pop (pe_var hN hv hd hcd) rfl hl) fun σ H Q ⟨G, r, s, h⟩ => ?_
  rw [ev] at h
  split at h
  · rename_i ds eg
    split at h
    · rename_i d ed
      obtain ⟨v, h1, a, vs, rfl, h2, h3, h4⟩ := s.slot i _ (getS_some eg) ns_ol
      obtain ⟨y, h5, h6⟩ := h4.get ed
      rw [← h4.length] at h5
      obtain ⟨s2, t2⟩ := wrLst (es := ds.dropLast) (vs := vs.dropLast) s (getS_some eg) h1 h4.dropLast (by rw [List.length_dropLast]; exact Nat.le_trans (Nat.sub_le _ _) (szL s h3))
      exact ⟨_, h1, .inl ⟨rfl, vs, SqL.of h3⟩, a, vs, y, rfl, rfl, h3, h5, h G _ s2 t2 y h6⟩
    · exact h.elim
  · exact h.elim
theorem s_popA {i : Nat} {x : Str} {px apos cpos : Pos} (hN : X.N[i]? = some x) (hv : Vis X.env.scope x) (hd : (x == ("__debug__" : Str)) = false) (hcd : (x == ("__classdict__" : Str)) = false) (hl : (apos.endLine == cpos.line) = true) (hs : PySem.W.isStarred e = false)
    (h : PE X e (tV X.K F W ce)) : PE X (.Call (.Attribute (.Name x px) "pop" apos) [e] [] cpos) (tV X.K F W (.popA i ce)) := by
  refine PE.imp (pe_bm PySem.F.plainAttrs_list PySem.F.slot_list_pop PySem.F.type_list_pop mt_popAt (pe_var hN hv hd hcd) (s_cons (F := F) (W := W) hs h s_nil) rfl (by rw [star_ok hs]; rfl) hl (star_ok hs) rfl) fun σ H Q ⟨G, r, s, h⟩ => ?_
  rw [ev] at h
  by_cases c : isOl r i = true
  · rw [c] at h
    obtain ⟨a, h1, h2⟩ := tyV_own s c
    refine ⟨_, h1, h2, G, r, s, ?_⟩
    rw [evs]
    have e2 : ((ev F ce r).bnd fun v r1 => (evs F .nil r1).bnd fun ds r2 => Out.ok (v.toD :: ds) r2) = (ev F ce r).bnd fun v r1 => .ok [v.toD] r1 := by
      cases ev F ce r with
      | ok v r1 => rw [bnd_ok, bnd_ok, evs]; rfl
      | exc c r1 => rfl
      | bad => rfl
    rw [e2]
    simp only [Bool.not_true, Bool.false_eq_true, if_false] at h
    cases q : ev F ce r with
    | exc c r1 => rw [q] at h; exact h
    | bad => rw [q] at h; exact h.elim
    | ok v0 r1 =>
      rw [q, bnd_ok] at h
      rw [bnd_ok]
      intro G1 H1 s1 t1 vs hvs
      split at h
      · rename_i ds k eg ek
        split at h
        · rename_i j ej
          split at h
          · rename_i d ed
            obtain ⟨v', h3, b, ws, rfl, h4, h5, h6⟩ := s1.slot i _ (getS_some eg) ns_ol
            rw [h1] at h3
            cases h3
            cases hvs with
            | cons hv1 hv2 =>
              cases hv2
              rw [ek] at hv1
              cases hv1
              obtain ⟨y, h7, h8⟩ := h6.get ed
              rw [← h6.length] at ej
              obtain ⟨i1, i2, i3, i4⟩ := ixN_seq ej
              have zz := szL s1 h5
              have zs := sizeLine_eq
              obtain ⟨s2, t2⟩ := wrLst (es := ds.eraseIdx j) (vs := ws.eraseIdx j) s1 (getS_some eg) h1 (h6.eraseIdx j) (Nat.le_trans (len_erase _ _) zz)
              exact ⟨a, ws, k, j, y, rfl, rfl, h5, by omega, by omega, i1, h7, h G1 _ s2 (t1.trans t2) y h8⟩
          · exact h.elim
        · exact h.elim
      · exact h.elim
  · rw [Bool.not_eq_true] at c
    rw [c] at h
    exact h.elim
end
end SC

set_option Elab.async false
set_option maxRecDepth 100000
set_option maxHeartbeats 1000000
namespace SC
open PySem L2 PySem.AutoSeq1

/-- a list grows by a tuple's items, whatever else the tuple's object bears -/
theorem ext_by_tuple (l b : Addr) (ls ts : Array Value) (n m : Nat) (td : Option Addr) (tsl : Array (Option Value)) (short : ¬ (!ls.isEmpty && Builtin.List.listTooLong (ls.size + ts.size)) = true) (z1 : ls.size ≤ sizeLine) (z2 : ls.size + ts.size ≤ sizeLine + 1) :
    Meets (Builtin.«list.extend» ⟨[.ref l, .ref b], []⟩) fun _ R s => s.heap.get? l = some { cls := .type "list", data := .seq ls n } ∧ s.heap.get? b = some ⟨.type "tuple", td, .seq ts m, tsl⟩ ∧
      R (.ok (.ret .none)) { s with heap := s.heap.update l (Obj.mapSeq fun x => x ++ ts) } :=
  .of_wp fun prog w A R s h => by
    obtain ⟨hp, g, d, tk, os⟩ := s
    obtain ⟨el, et, h⟩ := h
    have y1 := idx_int
    have y2 := sub_tuple_tuple
    have y3 := sub_list_list
    have y4 := sub_tuple_list
    have y5 := sub_list_tuple
    have z3 : (ls ++ ts).size ≤ sizeLine + 1 := by
      rw [Array.size_append]
      exact z2
    wp_walk using (wpAny_updateSeq el rfl (hz := z1) (_hz' := z3)), wpAny_loadPart' el, wpAny_loadPart' et
    exact ⟨_, rfl, h⟩
section
variable {X : Cx}
def rExtendA (K : PySem.W.Frag) : V → List V → Hp → VK → Prop := fun x vs H Q => ∃ l b xs zs, x = .ref l ∧ vs = [.ref b] ∧ H l = some (.lst xs) ∧ (H b = some (.lst zs) ∨ H b = some (.tup zs)) ∧ xs.length + zs.length ≤ sizeLine ∧ Q .non (upd H l (.lst (xs ++ zs)))
theorem mt_extendA : MtM X "list.extend" (rExtendA X.K) := by
  intro pins s σ H x vs v us Q I rx rv h
  obtain ⟨l, b, xs, zs, rfl, rfl, hH, hB, hz, q⟩ := h
  rcases hB with hB | hB
  · exact mt_extend pins s σ H _ _ v us Q I rx rv ⟨l, b, xs, zs, rfl, rfl, hH, hB, hz, q⟩
  cases rx
  obtain ⟨u, rfl, ru⟩ := rv.one
  cases ru
  obtain ⟨z, its, n, r, hl, e⟩ := I.lstM hH
  obtain ⟨its2, r2, ⟨o2, e2, c2, n2, d2⟩, z2⟩ := I.tuple (SqT.of hB)
  obtain ⟨oc, od, dt, sl⟩ := o2
  simp only at c2 d2
  subst c2 d2
  have hl2 := r2.length
  have z3 : its.toArray.size + its2.toArray.size ≤ sizeLine := by
    show its.length + its2.length ≤ sizeLine
    omega
  have short : ¬ (!its.toArray.isEmpty && Builtin.List.listTooLong (its.toArray.size + its2.toArray.size)) = true := fun w => by
    rw [notLongL z3, Bool.and_false] at w
    cases w
  refine call_meets F.slot_list_extend ⟨_, e, rfl⟩ F.entry_list_extend (F.args_list_extend_2 _ _) (ext_by_tuple l b its.toArray its2.toArray n n2 od sl short (by omega) (by omega)) ⟨e, e2, ?_⟩
  have z4 : (xs ++ zs).length ≤ sizeLine := by rw [List.length_append]; exact hz
  exact ⟨.non, _, I.lset (its' := its ++ its2) hH e (by simp) (r.append r2) z4, rfl, q⟩
end

/-! ### calls of own defs -/
/-- what a def promises: its answer is F's, what stood before stands as it did -/
def spF (K : PySem.W.Frag) (C : Nat → Addr) (F : Fs) (np f : Nat) : Sp := fun vs H Q E => ∃ G ds, vs.length = np ∧ Sub G H ∧ Sz H ∧ (∀ a n, G a = some (tg n) → H a ≠ none ∧ ∀ xs, H a ≠ some (.tup xs)) ∧ Rps K G vs ds ∧ match F f ds with
  | .ret val => ∀ v G' H', Same G G' → (∀ a, G' a ≠ none → G a ≠ none ∨ H a = none ∨ ∃ xs, H' a = some (.tup xs)) → (∀ a n, G' a = some (tg n) → G a = some (tg n)) → Sub G' H' → Same H H' → Sz H' →
      (match val with
        | .fz d => Rp K G' v d
        | .ol es => ∃ p us, v = .ref p ∧ H p = none ∧ G' p = none ∧ H' p = some (.lst us) ∧ Rps K G' us es
        | .sto _ => False) → Q v H'
  | .exc c => ∀ H', Same H H' → Sz H' → E (.ref (C c)) none H'
  | .bad => False
/-- what the things of a store own -/
def OwnT (G H : Hp) (S : List Ob) (a : Addr) : Prop := ∃ (n : Nat) (o : Ob), S[n]? = some o ∧ o.free = true ∧ (G a = some (tg n) ∨ ∃ p C fs, G p = some (tg n) ∧ H p = some (.ins C a fs))
theorem OwnS.toT {G H : Hp} {r : EV} {a : Addr} (h : OwnS G H r a) : ∃ (i : Nat) (S : List Ob), r[i]? = some (some (.sto S)) ∧ OwnT G H S a := by
  obtain ⟨i, S, n, o, h1, h2⟩ := h
  exact ⟨i, S, h1, n, o, h2⟩
theorem OwnT.toS {G H : Hp} {r : EV} {S : List Ob} {a : Addr} {i : Nat} (h : OwnT G H S a) (h1 : r[i]? = some (some (.sto S))) : OwnS G H r a := by
  obtain ⟨n, o, h2⟩ := h
  exact ⟨i, S, n, o, h1, h2⟩
/-- what a def with store does to the store -/
structure SS (K : PySem.W.Frag) (G H : Hp) (S : List Ob) (G' H' : Hp) (S' : List Ob) : Prop where
  ex : Same G G'
  keep : ∀ a o, H a = some o → ¬ OwnT G H S a → H' a = some o
  dom : ∀ a, H' a = none → H a = none
  tups : ∀ a xs, H a = some (.tup xs) → H' a = some (.tup xs)
  new : ∀ a, G' a ≠ none → G a ≠ none ∨ H a = none ∨ ∃ xs, H' a = some (.tup xs)
  sub : Sub G' H'
  sz : Sz H'
  sto : StoR K G' H' S'
  ows : ∀ a, OwnT G' H' S' a → OwnT G H S a ∨ H a = none
/-- what a def with store promises -/
def spS (K : PySem.W.Frag) (C : Nat → Addr) (F : Fs) (np f : Nat) : Sp := fun vs H Q E => ∃ G ds S, vs.length = np ∧ Sub G H ∧ Sz H ∧ StoR K G H S ∧ Rps K G vs ds ∧ match F.s f ds S with
  | .ret d S' => ∀ v G' H', SS K G H S G' H' S' → Rp K G' v d → Q v H'
  | .exc c S' => ∀ G' H', SS K G H S G' H' S' → E (.ref (C c)) none H'
  | .bad => False
def spB (K : PySem.W.Frag) (C : Nat → Addr) (F : Fs) (np f : Nat) : Sp := fun vs H Q E => spF K C F np f vs H Q E ∨ spS K C F np f vs H Q E
def wx (C : Nat → Addr) (W : Nat → L2.St → Hp → Prop) : WX := fun cls d σ H => ∃ c, cls = .ref (C c) ∧ d = none ∧ W c σ H
section
variable {K : PySem.W.Frag} {G G1 G2 G' H H1 H2 H' : Hp} {σ σ1 σ2 σ' : L2.St} {r r1 r2 r' : EV}
/-- behind a call -/
theorem SR.called (s : SR K G H σ r) (e1 : Same G G') (e2 : ∀ a, G' a ≠ none → G a ≠ none ∨ H a = none ∨ ∃ xs, H' a = some (.tup xs)) (et : ∀ a n, G' a = some (tg n) → G a = some (tg n)) (e3 : Sub G' H') (e4 : Same H H') (z : Sz H') : SR K G' H' σ r ∧ Stp σ r G H σ r G' H' := by
  have nn : ∀ a o, H a = some o → G a = none → (∀ xs, o ≠ .tup xs) → G' a = none := fun a o h1 h2 h3 => by
    cases q : G' a with
    | none => rfl
    | some u =>
      rcases e2 a (by rw [q]; simp) with w | w | ⟨xs, w⟩
      · exact absurd h2 w
      · rw [h1] at w; cases w
      · rw [e4 _ _ h1] at w; exact absurd (Option.some.inj w) (h3 xs)
  have dm : ∀ a, H' a = none → H a = none := fun a h => by
    cases q : H a with
    | none => rfl
    | some o => rw [e4 _ _ q] at h; cases h
  refine ⟨⟨e3, s.len, fun i val h hv => ?_, s.uniq, z, fun i S h => (s.sto i S h).mono e1 et (fun b u q _ => e4 b u q) fun b p q w => nn b _ q w (fun xs c => nomatch c), fun a n h => ⟨fun w => (s.tgd a n (et a n h)).1 (dm a w), fun xs w => ?_⟩, s.sone⟩, ⟨e1, fun a o h _ _ => e4 a o h, dm, fun a xs h => e4 _ _ h, fun a h => (e2 a h).imp id fun q => .inr q, fun a h => .inl h, fun a h => ?_, fun a n h => .inl (et a n h), id⟩⟩
  · obtain ⟨v, h1, h2⟩ := s.slot i val h hv
    refine ⟨v, h1, ?_⟩
    cases val with
    | fz d => exact Rp.mono e1 h2
    | ol ds =>
      obtain ⟨a, vs, e, h3, h4, h5⟩ := h2
      exact ⟨a, vs, e, nn a _ h4 h3 (fun xs c => nomatch c), e4 _ _ h4, h5.mono e1⟩
    | sto S => exact h2
  · cases q : H a with
    | none => exact (s.tgd a n (et a n h)).1 q
    | some o =>
      rw [e4 _ _ q] at w
      cases w
      exact (s.tgd a n (et a n h)).2 xs q
  · obtain ⟨i, S, n, o, h1, h2, h3, h4⟩ := h
    refine .inl ⟨i, S, n, o, h1, h2, h3, h4.imp (et a n) fun ⟨p, C, fs, h5, h6⟩ => ⟨p, C, fs, et p n h5, ?_⟩⟩
    cases q : H p with
    | none => exact absurd q (s.tgd p n (et p n h5)).1
    | some u =>
      rw [e4 _ _ q] at h6
      exact h6
theorem ObR.sh {a : Addr} {o : Ob} (h : ObR K G H a o) : H a ≠ none ∧ (∀ xs, H a ≠ some (.tup xs)) ∧ ∀ p, H a ≠ some (.own p) := by
  cases o with
  | lst ds => obtain ⟨vs, h3, _⟩ := h; rw [h3]; simp
  | ins c fs => obtain ⟨C, dx, vs, _, h3, _⟩ := h; rw [h3]; simp
  | dK ds => obtain ⟨vs, h3, _⟩ := h; rw [h3]; simp
  | dT ds => obtain ⟨vs, h3, _⟩ := h; rw [h3]; simp
  | lkL ds => obtain ⟨vs, h3, _⟩ := h; rw [h3]; simp
  | lkK ds => obtain ⟨o, vs, h3, _⟩ := h; rw [h3]; simp
  | lkT ds => obtain ⟨o, vs, h3, _⟩ := h; rw [h3]; simp
theorem StoR.at {S : List Ob} (h : StoR K G H S) {a : Addr} {n : Nat} (q : G a = some (tg n)) : ∃ o, S[n]? = some o ∧ ObR K G H a o := by
  have hl := h.lt a n q
  obtain ⟨b, h1, h2⟩ := h.ob n S[n] (List.getElem?_eq_getElem hl)
  have e := h.one a b n q h1
  subst e
  exact ⟨_, List.getElem?_eq_getElem hl, h2⟩
theorem StoR.tgd {S : List Ob} (h : StoR K G H S) : ∀ (a : Addr) (n : Nat), G a = some (tg n) → H a ≠ none ∧ ∀ xs, H a ≠ some (.tup xs) := fun a n q => by
  obtain ⟨o, _, h2⟩ := h.at q
  exact ⟨h2.sh.1, h2.sh.2.1⟩
/-- the slot of the store is set anew -/
theorem stoSet_get {k j : Nat} {S S' : List Ob} {val : Val} (h1 : r[k]? = some (some (.sto S))) (h : (r.set k (some (.sto S')))[j]? = some (some val)) : (j = k ∧ val = .sto S') ∨ (j ≠ k ∧ r[j]? = some (some val)) := by
  have hk : k < r.length := (List.getElem?_eq_some_iff.mp h1).1
  by_cases e : j = k
  · subst e
    rw [List.getElem?_set_self hk] at h
    cases h
    exact .inl ⟨rfl, rfl⟩
  · rw [List.getElem?_set_ne (Ne.symm e)] at h
    exact .inr ⟨e, h⟩
/-- behind what changes the store alone -/
theorem SR.calledS {k : Nat} {S S' : List Ob} (s : SR K G H σ r) (hS : r[k]? = some (some (.sto S))) (c : SS K G H S G' H' S') : SR K G' H' σ (r.set k (some (.sto S'))) ∧ Stp σ r G H σ (r.set k (some (.sto S'))) G' H' := by
  have st := s.sto k S hS
  have kp : ∀ a vs, H a = some (.lst vs) → G a = none → H' a = some (.lst vs) := fun a vs h1 h2 => c.keep a _ h1 fun w => s.notS h1 (fun p z => nomatch z) (fun n z => by rw [h2] at z; cases z) (w.toS hS)
  have nn : ∀ a vs, H a = some (.lst vs) → G a = none → G' a = none := fun a vs h1 h2 => by
    cases q : G' a with
    | none => rfl
    | some u =>
      rcases c.new a (by rw [q]; simp) with w | w | ⟨xs, w⟩
      · exact absurd h2 w
      · rw [h1] at w; cases w
      · rw [kp a vs h1 h2] at w; cases w
  have ow : ∀ a, Own σ (r.set k (some (.sto S'))) a → Own σ r a := fun a ⟨j, ds, h1, h2⟩ => by
    rcases stoSet_get hS h1 with ⟨_, z⟩ | ⟨_, z⟩
    · cases z
    · exact ⟨j, ds, z, h2⟩
  refine ⟨⟨c.sub, by rw [List.length_set]; exact s.len, fun j val q hv => ?_, fun i j a ds es h1 h2 h3 h4 => ?_, c.sz, fun j S2 q => ?_, c.sto.tgd, fun i j S1 S2 q1 q2 => ?_⟩, ⟨c.ex, fun a o h _ m => c.keep a o h fun w => m (w.toS hS), c.dom, c.tups, fun a h => (c.new a h).imp id .inr, fun a h => .inl (ow a h), fun a h => ?_, fun a n h => .inr ⟨k, S, hS⟩, fun _ => ⟨k, S, hS⟩⟩⟩
  · rcases stoSet_get hS q with ⟨_, z⟩ | ⟨_, z⟩
    · exact absurd z (hv S')
    · obtain ⟨v, h1, h2⟩ := s.slot j val z hv
      refine ⟨v, h1, ?_⟩
      cases val with
      | fz d => exact Rp.mono c.ex h2
      | ol ds =>
        obtain ⟨a, vs, e, h3, h4, h5⟩ := h2
        exact ⟨a, vs, e, nn a vs h4 h3, kp a vs h4 h3, h5.mono c.ex⟩
      | sto S2 => exact h2
  · rcases stoSet_get hS h1 with ⟨_, z⟩ | ⟨_, z⟩
    · cases z
    · rcases stoSet_get hS h3 with ⟨_, z3⟩ | ⟨_, z3⟩
      · cases z3
      · exact s.uniq i j a ds es z h2 z3 h4
  · rcases stoSet_get hS q with ⟨_, z⟩ | ⟨e, z⟩
    · cases z; exact c.sto
    · exact absurd (s.sone j k S2 S z hS) e
  · rcases stoSet_get hS q1 with ⟨e1, _⟩ | ⟨e1, z1⟩
    · rcases stoSet_get hS q2 with ⟨e2, _⟩ | ⟨e2, z2⟩
      · rw [e1, e2]
      · exact absurd (s.sone j k S2 S z2 hS) e2
    · exact absurd (s.sone i k S1 S z1 hS) e1
  · obtain ⟨j, S2, h1, h2⟩ := h.toT
    rcases stoSet_get hS h1 with ⟨_, z⟩ | ⟨e, z⟩
    · cases z
      rcases c.ows a h2 with w | w
      · exact .inl (w.toS hS)
      · exact .inr (.inr w)
    · exact absurd (s.sone j k S2 S z hS) e
end
section
variable {X : Cx} {F : Fs} {W : Nat → L2.St → Hp → Prop} {C : Nat → Addr} {pos p : Pos} {e : Expr} {ce ces : CE} {es : List Expr}
theorem s_ext {i : Nat} {x : Str} {px apos cpos : Pos} (hN : X.N[i]? = some x) (hv : Vis X.env.scope x) (hd : (x == ("__debug__" : Str)) = false) (hcd : (x == ("__classdict__" : Str)) = false) (hl : (apos.endLine == cpos.line) = true) (hs : PySem.W.isStarred e = false)
    (h : PE X e (tO X.K F W ce)) : PE X (.Call (.Attribute (.Name x px) "extend" apos) [e] [] cpos) (tV X.K F W (.ext i ce)) := by
  refine PE.imp (pe_bm PySem.F.plainAttrs_list PySem.F.slot_list_extend PySem.F.type_list_extend mt_extendA (pe_var hN hv hd hcd) (s_consO (F := F) (W := W) hs h s_nilO) rfl (by rw [star_ok hs]; rfl) hl (star_ok hs) rfl) fun σ H Q ⟨G, r, s, h⟩ => ?_
  rw [ev] at h
  by_cases c : isOl r i = true
  · rw [c] at h
    obtain ⟨a, h1, h2⟩ := tyV_own s c
    refine ⟨_, h1, h2, G, r, s, ?_⟩
    rw [evO]
    simp only [Bool.not_true, Bool.false_eq_true, if_false] at h
    have e2 : ((mkO ce r (ev F ce r)).bnd fun o r1 => (evO F .nil r1).bnd fun os r2 => Out.ok (o :: os) r2) = (mkO ce r (ev F ce r)).bnd fun o r1 => .ok [o] r1 := by
      cases mkO ce r (ev F ce r) with
      | ok v r1 => rw [bnd_ok, bnd_ok, evO]; rfl
      | exc c r1 => rfl
      | bad => rfl
    rw [e2]
    cases q : mkO ce r (ev F ce r) with
    | exc c r1 => rw [q] at h; exact h
    | bad => rw [q] at h; exact h.elim
    | ok o r1 =>
      rw [q, bnd_ok] at h
      rw [bnd_ok]
      intro G1 H1 s1 t1 vs hvs
      cases hvs with
      | cons ho hn =>
        cases hn
        split at h
        · rename_i ds es eg eo
          split at h
          · rename_i z
            obtain ⟨v', h3, b, ws, rfl, h4, h5, h6⟩ := s1.slot i _ (getS_some eg) ns_ol
            rw [h1] at h3
            cases h3
            obtain ⟨b2, us, e3, h7, h8⟩ := (ho.ov s1 eo).lst s1
            subst e3
            have z' : ws.length + us.length ≤ sizeLine := by rw [h6.length, h8.length]; exact z
            obtain ⟨s2, t2⟩ := wrLst (es := ds ++ es) (vs := ws ++ us) s1 (getS_some eg) h1 (h6.append h8) (by rw [List.length_append]; exact z')
            exact ⟨a, b2, ws, us, rfl, rfl, h5, .inl h7, z', h G1 _ s2 (t1.trans t2) _ .non⟩
          · exact h.elim
        · rename_i ds es eg eo
          split at h
          · rename_i z
            obtain ⟨v', h3, b, ws, rfl, h4, h5, h6⟩ := s1.slot i _ (getS_some eg) ns_ol
            rw [h1] at h3
            cases h3
            obtain ⟨b2, us, e3, h7, h8, _⟩ := (ho.ov s1 eo).tup s1
            subst e3
            have z' : ws.length + us.length ≤ sizeLine := by rw [h6.length, h8.length]; exact z
            obtain ⟨s2, t2⟩ := wrLst (es := ds ++ es) (vs := ws ++ us) s1 (getS_some eg) h1 (h6.append h8) (by rw [List.length_append]; exact z')
            exact ⟨a, b2, ws, us, rfl, rfl, h5, .inr h7, z', h G1 _ s2 (t1.trans t2) _ .non⟩
          · exact h.elim
        · exact h.elim
  · rw [Bool.not_eq_true] at c
    rw [c] at h
    exact h.elim
theorem s_call {f k : Nat} {x : Str} {fa : Addr} {fd : FuncData} {ps : List Str} (Fo : FnOk X.prog X.w X.K X.mg X.base (L2.CX X.prog X.w) k fa fd ps (spB X.K C F ps.length f)) (hr : Room k X.A) (hg : Gl X x) (hm : X.mg x = some (.ref fa)) (hk : PySem.W.keepIn X.K (.ref fa) = true)
    (hb : Binds X.K fd ps []) (tk : Takes X (wx C W)) (hd : (x == ("__debug__" : Str)) = false) (hs : PySem.W.isStarred e = false) (hss : es.all (fun e => !PySem.W.isStarred e) = true) (hln : clen ces = ps.length) (h : PA X (e :: es) (tVs X.K F W ces)) :
    PE X (.Call (.Name x p) (e :: es) [] pos) (tV X.K F W (.call f ces)) := by
  refine PE.imp (pe_callS (E := WE (wx C W)) Fo hr hg hm hk hb (fun σ => passAt tk σ) h hd (star_ok hs) (no_star hss)) fun σ H Q ⟨G, r, s, h⟩ => ⟨G, r, s, ?_⟩
  rw [ev] at h
  refine (h.bnd.eqn (P := fun ds => ds.length = clen ces) fun ds r' e => evs_len e).imp fun ds r1 G1 H1 s1 t1 ⟨hl, h1⟩ vs hvs => ?_
  refine .inl ⟨G1, ds, by rw [hvs.length, hl, hln], s1.ex, s1.sz, s1.tgd, hvs, ?_⟩
  cases q : F f ds with
  | ret val =>
    rw [q] at h1
    intro v G' H' e1 e2 et e3 e4 z hv
    obtain ⟨s2, t2⟩ := s1.called e1 e2 et e3 e4 z
    refine h1 G' H' s2 (t1.trans t2) v ?_
    cases val with
    | fz d => exact hv
    | ol es =>
      obtain ⟨p, us, e5, h5, h6, h7, h8⟩ := hv
      exact ⟨p, us, e5, h6, h7, h8, s1.nown h5, t1.back (.inr h5)⟩
    | sto S => exact hv
  | exc c =>
    rw [q] at h1
    intro H' e4 z
    obtain ⟨s2, t2⟩ := s1.called (Same.refl _) (fun a h => .inl h) (fun _ _ h => h) (fun a o h w => e4 _ _ (s1.ex a o h w)) e4 z
    exact ⟨c, rfl, rfl, h1 G1 H' s2 (t1.trans t2)⟩
  | bad => rw [q] at h1; exact h1.elim
end
end SC

set_option Elab.async false
set_option maxRecDepth 100000
set_option maxHeartbeats 2000000
namespace SC
open PySem L2 PySem.Spec PyProof.Rows
theorem enm_new {v : Value} {ob : Obj} {P : Heap → Prop} (Bg : Begins v ob P) :
    Meets (Builtin.«enumerate.__new__» ⟨[.type "enumerate", v], []⟩) (fun _ R st => P st.heap ∧
      R (.ok (.ret (.ref (st.heap.push ob).objs.size))) { st with heap := (st.heap.push ob).push { cls := .type "enumerate", data := .fields #[.none, .bool false, .ref st.heap.objs.size, rawInt 0, .none, .none] } }) :=
  .of_wp fun prog w B R st hh => by
    obtain ⟨hp, g, d, tk, os⟩ := st
    obtain ⟨h1, h2⟩ := hh
    have hsub := sub_enumerate
    have go : ∀ {B' : Around} {E : Value → Shared → Prop} {Q : Value → Shared → Prop}, Q (.ref hp.objs.size) ⟨hp.push ob, g, d, tk, os⟩ → wpAny (model prog w) B' (pyIter v) Q E ⟨hp, g, d, tk, os⟩ := fun q => Bg.iter prog w _ _ ⟨hp, g, d, tk, os⟩ _ h1 q
    wp_walk using go
    refine wpAny_stack_any fun stk => wpAny_pure ?_
    split
    · rename_i cc _ _ _ _ _
      cases (cc == Value.type "enumerate") <;> (wp_walk using go; exact ⟨_, rfl, h2⟩)
    · wp_walk using go; exact ⟨_, rfl, h2⟩
section
variable {prog : Program} {w : World} {B : Around} {E : Value → Shared → Prop} {st : Shared}
theorem enm_call {v : Value} {ob : Obj} {P : Heap → Prop} {Q : Value → Shared → Prop} (Bg : Begins v ob P) (h1 : P st.heap)
    (h : ∀ h', IsEnum h' (st.heap.objs.size + 1) st.heap.objs.size 0 .none → h'.get? st.heap.objs.size = some ob → (∀ b o, st.heap.get? b = some o → h'.get? b = some o) → Q (.ref (st.heap.objs.size + 1)) { st with heap := h' }) :
    wpAny (model prog w) B (call (.type "enumerate") [v]) Q E st := by
  refine callType_new F.called_enumerate (by decide) (F.typeCall_enumerate_1 _) (F.newCall_enumerate_1 _) (fun x => F.args_object_init_2 x _) F.entry_enumerate_new (enm_new Bg) ⟨h1, ?_⟩
  have sz1 : (st.heap.push ob).objs.size = st.heap.objs.size + 1 := Heap.size_push ..
  show _ ∧ _
  rw [sz1]
  have ie : IsEnum ((st.heap.push ob).push { cls := .type "enumerate", data := .fields #[.none, .bool false, .ref st.heap.objs.size, rawInt 0, .none, .none] }) (st.heap.objs.size + 1) st.heap.objs.size 0 .none := by
    have z := Heap.get?_push_size (st.heap.push ob) (o := { cls := .type "enumerate", data := .fields #[.none, .bool false, .ref st.heap.objs.size, rawInt 0, .none, .none] }) rfl
    rwa [sz1] at z
  exact ⟨⟨_, ie, rfl⟩, h _ ie (Heap.get?_push_of_some _ (Heap.get?_push_size _ Bg.free)) fun b o x => Heap.get?_push_of_some _ (Heap.get?_push_of_some _ x)⟩
end
/-- the tuple at a, each item in a new pair -/
def IteT (K : PySem.W.Frag) (a : Addr) : It where
  go := fun i H => ∃ (xs : List V) (x : V), SqT K H a xs ∧ xs[i]? = some x
  yld := fun i H v H' => ∃ T x, v = .ref T ∧ H T = none ∧ H' = upd H T (.tup [.int (i : Nat), x]) ∧ ∀ xs, SqT K H a xs → xs[i]? = some x
  stop := fun i H => ∃ xs : List V, SqT K H a xs ∧ xs.length ≤ i
theorem enm_apart {h : Heap} {e it a : Addr} {c : Int} {old : Value} {its : Array Value} {i : Nat} (he : IsEnum h e it c old) (hi : h.IsTupleIter it a i) (ht : h.IsTuple a its) : e ≠ it ∧ e ≠ a ∧ a ≠ it := by
  obtain ⟨o1, e1, c1, _⟩ := hi
  obtain ⟨o2, e2, c2, _⟩ := ht
  refine ⟨fun z => ?_, fun z => ?_, fun z => ?_⟩
  · subst z; rw [he] at e1; cases e1; exact absurd (Value.type.inj c1) (by decide)
  · subst z; rw [he] at e2; cases e2; exact absurd (Value.type.inj c2) (by decide)
  · subst z; rw [e1] at e2; cases e2; rw [c1] at c2; exact absurd (Value.type.inj c2) (by decide)
theorem turn_enmT {P : Program} {w : World} {K : PySem.W.Frag} {elts : List Expr} {kk : Nat} {tpos : Pos} (a e it : Addr) :
    Turn P w K (.Tuple elts kk tpos) (IteT K a) [e, it] e (fun i h => (∃ old, IsEnum h e it (0 + (i : Int)) old) ∧ h.IsTupleIter it a i) where
  mem := by simp
  obj := fun i h t b hb => by
    obtain ⟨⟨old, he⟩, ⟨o, ho, hc, hd⟩⟩ := t
    rcases (by simpa using hb : b = e ∨ b = it) with z | z
    · subst z; exact ⟨_, he, fun v q => nomatch q⟩
    · subst z; exact ⟨o, ho, fun v q => by rw [hd] at q; cases q⟩
  keep := fun i h h' t k => by
    obtain ⟨⟨old, he⟩, hi⟩ := t
    exact ⟨⟨old, k e (by simp) _ he⟩, hi.at fun o q => k it (by simp) o q⟩
  item := by
    intro X hP hw hK hc i pins s σ H E I hf t hg
    subst hP hw hK
    obtain ⟨⟨old, he⟩, hi⟩ := t
    obtain ⟨xs, x, hq, hx⟩ := hg
    obtain ⟨its, rv, pt, hz⟩ := I.tuple hq
    have ht : s.heap.IsTuple a its.toArray := pt
    obtain ⟨n1, n2, n3⟩ := enm_apart he hi ht
    obtain ⟨u0, hu0, ru0⟩ := rv.get hx
    have hel : e < s.heap.objs.size := Heap.lt_size he
    have hil : it < s.heap.objs.size := by
      obtain ⟨_, q, _⟩ := hi
      exact Heap.lt_size q
    have Dr : Draws X.prog X.w X.A.in1 it [it, a] its.toArray.size (fun i v => its.toArray[i]? = some v) (fun i h => h.IsTupleIter it a i ∧ h.IsTuple a its.toArray) := Draws.tuple (A := X.A.in1) (I.ok.hd hc) it a n3 its.toArray
    have hlt : i < its.toArray.size := by
      have := (List.getElem?_eq_some_iff.mp hu0).1
      simpa using this
    refine wpAny_pyNext_enum_itemC Dr he ⟨hi, ht⟩ hlt n1 (by simp [n1, n2]) fun u h' tk hu ho hst hT hsz hk => ?_
    have hu' : u = u0 := by
      have q : its[i]? = some u := by simpa using hu
      rw [q] at hu0
      exact Option.some.inj hu0
    subst hu'
    refine ⟨_, rfl, wpAny_letOwnedTupleGo_enum (s := { s with heap := h', toks := tk + 1 }) ho fun h'' he' sb => ?_⟩
    have hT2 : h''.get? s.heap.objs.size = some { cls := .type "tuple", data := .seq #[.int (0 + (i : Int)) tk, u] } := (sb.2 _ (Nat.ne_of_gt hel)).trans hT
    have ob : ObjOk X.prog X.w (upd H s.heap.objs.size (.tup [.int (i : Nat), x])) h'' s.heap.objs.size (.tup [.int (i : Nat), x]) :=
      ⟨by show 2 ≤ sizeLine; decide, [.int (0 + (i : Int)) tk, u], .cons ⟨_, by rw [Int.zero_add]⟩ (.cons ru0 .nil), ⟨_, hT2, rfl, _, rfl⟩⟩
    have I1 : Inv X pins σ (upd H s.heap.objs.size (.tup [.int (i : Nat), x])) { s with heap := h'', toks := tk + 1 } :=
      I.turnedNew (ch := [e, it]) (fun b o hb q => (sb.2 b (fun z => hb (by simp [z]))).trans (hk b o (fun z => hb (by simp [z])) (fun z => hb (by simp [z])) q)) hf (Nat.le_refl _) ob
    refine ⟨.ref s.heap.objs.size, _, I1, rfl, ⟨_, x, rfl, I.hok.fresh (Nat.le_refl _), rfl, fun ys hy => by rw [I.tuple_inj hy hq]; exact hx⟩, ⟨⟨u, ?_⟩, hst.1.at fun o q => (sb.2 it (Ne.symm n1)).trans q⟩, fun b hb => ?_⟩
    · rw [show (0 : Int) + ((i + 1 : Nat) : Int) = 0 + (i : Int) + 1 by omega]; exact he'
    · have hb' : b < s.heap.objs.size := by
        rcases (by simpa using hb : b = e ∨ b = it) with z | z
        · subst z; exact hel
        · subst z; exact hil
      rw [upd_ne (Nat.ne_of_lt hb')]
      exact (hf b hb).1
  done := by
    intro X hP hw hK hc i pins s σ H E I hf t hg
    subst hP hw hK
    obtain ⟨⟨old, he⟩, hi⟩ := t
    obtain ⟨xs, hq, hx⟩ := hg
    obtain ⟨its, rv, pt, hz⟩ := I.tuple hq
    have ht : s.heap.IsTuple a its.toArray := pt
    obtain ⟨n1, n2, n3⟩ := enm_apart he hi ht
    obtain ⟨f0, f1, f2, f3, f4, f5⟩ := hf it (by simp)
    have hl := rv.length
    have Dr : Draws X.prog X.w X.A.in1 it [it, a] i (fun i v => its.toArray[i]? = some v) (fun j h => j = i ∧ h.IsTupleIter it a j ∧ h.IsTuple a its.toArray) :=
      ⟨fun j h q => by obtain ⟨_, ⟨o, ho, _⟩, _⟩ := q; exact ⟨o, ho⟩, fun j h h' q k => ⟨q.1, (Draws.tuple (prog := X.prog) (w := X.w) (A := X.A.in1) (I.ok.hd hc) it a n3 its.toArray).frame j h h' q.2 k⟩, fun j st Q E hj q hQ => absurd q.1 (Nat.ne_of_lt hj), fun st Q E q hE => wpAny_nextOf_tuple_end (A := X.A.in1) (I.ok.hd hc) q.2.1 q.2.2 (by simp; omega) hE⟩
    exact wpAny_pyNext_enum_endD Dr he ⟨rfl, hi, ht⟩ fun h' eb => ⟨rfl, I.turned (t' := s.toks) (fun b o hb q => eb b o hb q) f0 f1 f3 f4 f5⟩
  self := fun A i s Q E t h => by
    obtain ⟨⟨_, he⟩, _⟩ := t
    exact wpAny_pyIter_enum he h
/-- a list or a tuple, with its indexes -/
def iEnm (K : PySem.W.Frag) (ta : TA) : TI := fun σ H R => ta σ H fun vs H1 => ∃ a xs, vs = [.ref a] ∧ ((SqL K H1 a xs ∧ R (Ite K a) H1) ∨ (SqT K H1 a xs ∧ R (IteT K a) H1))
theorem pi_enm {X : Cx} {e : Expr} {ta : TA} {p pos tpos : Pos} {elts : List Expr} {kk : Nat} (hg : Gl X "enumerate") (hm : X.mg "enumerate" = none) (ha : PA X [e] ta) (hs : starEach [e] X.env = [(false, eval e X.env)] := by rfl) :
    PI X (.Tuple elts kk tpos) (.Call (.Name "enumerate" p) [e] [] pos) (iEnm X.K ta) := by
  refine ⟨fun pins s σ H R I h => Call_ (ld_blt I hg hm boot_enumerate (PyProof.Rows.callWith_type1 (thn (ha.run pos pins s σ H _ I h) fun us s1 q0 => ?_) hs rfl))⟩
  obtain ⟨vs, H1, I1, r1, a, xs, ex, q⟩ := q0
  subst ex
  cases r1 with
  | cons r rr =>
    cases rr
    cases r
    have fp : ∀ b ∈ [s1.heap.objs.size + 1, s1.heap.objs.size], FpOk X pins H1 b := fun b hb => by
      have hle : s1.heap.objs.size ≤ b := by
        rcases (by simpa using hb : b = s1.heap.objs.size + 1 ∨ b = s1.heap.objs.size) with z | z
        · subst z; exact Nat.le_add_right _ _
        · subst z; exact Nat.le_refl _
      exact I1.fpOk hle (I1.hok.fresh hle)
    rcases q with ⟨hq, q⟩ | ⟨hq, q⟩
    · obtain ⟨its, rv, pl, hz⟩ := I1.list hq
      refine call_enumerate_list pl.isList fun h' ie hit hsz hk => wpAny_pyIter_enum ie ?_
      exact ⟨_, [s1.heap.objs.size + 1, s1.heap.objs.size], _, _, H1, rfl, I1.kept (t' := s1.toks) hk, turn_enum a (s1.heap.objs.size + 1) s1.heap.objs.size, ⟨⟨.none, ie⟩, hit, Nat.succ_ne_self _⟩, fp, q⟩
    · obtain ⟨its, rv, pt, hz⟩ := I1.tuple hq
      have ht : s1.heap.IsTuple a its.toArray := pt
      refine enm_call (begins_tuple a its.toArray) ht fun h' ie hit hk => wpAny_pyIter_enum ie ?_
      exact ⟨_, [s1.heap.objs.size + 1, s1.heap.objs.size], _, _, H1, rfl, I1.kept (t' := s1.toks) hk, turn_enmT a (s1.heap.objs.size + 1) s1.heap.objs.size, ⟨⟨.none, ie⟩, ⟨_, hit, rfl, rfl⟩⟩, fp, q⟩
theorem walk_enmT {K : PySem.W.Frag} {a : Addr} {xs : List V} : Walk (IteT K a) xs.length (fun H => SqT K H a xs) (YPair (fun i => some (.int (i : Nat))) (fun i => xs[i]?)) := by
  refine ⟨fun i _ hi q => ⟨xs, xs[i], q, by simp [hi]⟩, fun _ q => ⟨xs, q, Nat.le_refl _⟩, fun i H v H' _ q y => ?_⟩
  obtain ⟨T, x, h1, h2, h3, h4⟩ := y
  exact ⟨T, .int (i : Nat), x, h1, h2, h3, rfl, h4 xs q⟩
end SC

set_option Elab.async false
set_option maxRecDepth 100000
set_option maxHeartbeats 1000000
namespace SC
open PySem L2

/-- while the frozen part stands, and the list that is walked (a slot's own) -/
def StI (G : Hp) (hs : Option (Addr × List V)) (H : Hp) : Prop := Sub G H ∧ ∀ p, hs = some p → H p.1 = some (.lst p.2)
/-- what is given at turn i -/
def YI (K : PySem.W.Frag) (G : Hp) (ds : List PyData) (i : Nat) (H : Hp) (x : V) (H' : Hp) : Prop := ∃ d, ds[i]? = some d ∧
  ((H' = H ∧ Rp K G x d) ∨ ∃ T vs es, x = .ref T ∧ H T = none ∧ H' = upd H T (.tup vs) ∧ Rps K G vs es ∧ d = .tuple es ∧ vs.length ≤ sizeLine)
/-- whose list is walked -/
def HS (σ : L2.St) (r : EV) (ci : CE) (H : Hp) (hs : Option (Addr × List V)) : Prop := ∀ p, hs = some p → H p.1 = some (.lst p.2) ∧ ∃ i ds, ci = .itr (.var i) ∧ r[i]? = some (some (.ol ds)) ∧ σ[i]? = some (some (.ref p.1))
def tI (K : PySem.W.Frag) (F : Fs) (W : Nat → L2.St → Hp → Prop) (ci : CE) : TI := fun σ H R => ∃ G r, SR K G H σ r ∧
  Gd K W σ r G H (evI F ci r) fun ds r' G' H' => ∀ J hs, Walk J ds.length (StI G' hs) (YI K G' ds) → HS σ r' ci H' hs → ds.length ≤ sizeLine → R J H'
/-- or it is a list of the store, and the store is hidden -/
def HL (σ : L2.St) (r : EV) (ci : CE) (G H : Hp) (hs : Option (Addr × List V)) : Prop := HS σ r ci H hs ∨ ∀ p, hs = some p → H p.1 = some (.lst p.2) ∧ ∃ k e S n, ci = .itr (.res k e) ∧ r[k]? = some (some (.sto S)) ∧ G p.1 = some (tg n)
def tJ (K : PySem.W.Frag) (F : Fs) (W : Nat → L2.St → Hp → Prop) (ci : CE) : TI := fun σ H R => ∃ G r, SR K G H σ r ∧
  Gd K W σ r G H (evI F ci r) fun ds r' G' H' => ∀ J hs, Walk J ds.length (StI G' hs) (YI K G' ds) → HL σ r' ci G' H' hs → ds.length ≤ sizeLine → R J H'
theorem PI.toJ {X : Cx} {F : Fs} {W : Nat → L2.St → Hp → Prop} {ci : CE} {tg e : Expr} (h : PI X tg e (tI X.K F W ci)) : PI X tg e (tJ X.K F W ci) :=
  PI.imp h fun σ H R ⟨G, r, s, h⟩ => ⟨G, r, s, h.imp fun ds r' G' H' s' t' h1 J hs wk hh zl => h1 J hs wk (.inl hh) zl⟩
theorem PI.or {X : Cx} {tg e : Expr} {t t' : TI} (h : PI X tg e t) (h' : PI X tg e t') : PI X tg e (fun σ H R => t σ H R ∨ t' σ H R) :=
  ⟨fun pins s σ H R I q => q.elim (fun z => h.run pins s σ H R I z) fun z => h'.run pins s σ H R I z⟩

section
variable {K : PySem.W.Frag} {G G1 G2 G' H H1 H2 H' : Hp} {σ σ1 σ2 σ' : L2.St} {r r1 r2 r' : EV}
theorem big (n : Nat) (h : n ≤ sizeLine) : n ≤ sizeLine := h
theorem smI_of {n : Int} (h : smI n = true) : -8388608 ≤ n ∧ n ≤ 8388608 := by
  have := blI_iff.mp h
  omega
/-- a list or tuple of items that stand -/
theorem wk_list {a : Addr} {vs : List V} {ds : List PyData} (hr : Rps K G vs ds) (hs : Option (Addr × List V)) (h : ∀ H, StI G hs H → H a = some (.lst vs)) : Walk (Itl K a) ds.length (StI G hs) (YI K G ds) := by
  rw [← hr.length]
  refine (walk_list (K := K) (a := a) (xs := vs)).mono (fun H q => SqL.of (h H q)) fun i H x H' hi _ ⟨e1, e2⟩ => ?_
  obtain ⟨d, e3, e4⟩ := hr.getV e2
  exact ⟨d, e3, .inl ⟨e1, e4⟩⟩
theorem wk_tup {a : Addr} {vs : List V} {ds : List PyData} (hr : Rps K G vs ds) (h : G a = some (.tup vs)) : Walk (Itt K a) ds.length (StI G none) (YI K G ds) := by
  rw [← hr.length]
  refine (walk_tup (K := K) (a := a) (xs := vs)).mono (fun H q => SqT.of (q.1 _ _ h rfl)) fun i H x H' hi _ ⟨e1, e2⟩ => ?_
  obtain ⟨d, e3, e4⟩ := hr.getV e2
  exact ⟨d, e3, .inl ⟨e1, e4⟩⟩
theorem Rps.zip : ∀ {vs ws : List V} {ds es : List PyData} {i : Nat} {x y : V}, Rps K G vs ds → Rps K G ws es → vs[i]? = some x → ws[i]? = some y → ∃ d e, ((ds.zip es).map fun p => PyData.tuple [p.1, p.2])[i]? = some (.tuple [d, e]) ∧ Rp K G x d ∧ Rp K G y e
  | vs, ws, ds, es, i, x, y, h1, h2, e1, e2 => by
    obtain ⟨d, e3, e4⟩ := h1.getV e1
    obtain ⟨e, e5, e6⟩ := h2.getV e2
    refine ⟨d, e, ?_, e4, e6⟩
    have z : (ds.zip es)[i]? = some (d, e) := List.getElem?_zip_eq_some.mpr ⟨e3, e5⟩
    rw [List.getElem?_map, z]
    rfl
end

section
variable {X : Cx} {F : Fs} {W : Nat → L2.St → Hp → Prop} {pos p : Pos} {a b e tg : Expr} {ca ce ces : CE} {es : List Expr}
theorem mkO_slot {r r1 : EV} {x : Out Val} {o : Opd} (hr : ∀ k e, ca ≠ .res k e) (h : mkO ca r x = .ok o r1) : (∃ i, o = .slot i ∧ ca = .var i) ∨ ∃ d, o = .dat d := by
  unfold mkO at h
  split at h
  · split at h
    · cases h; exact .inl ⟨_, rfl, rfl⟩
    · cases h
  · exact absurd rfl (hr _ _)
  · exact absurd rfl (hr _ _)
  · cases x with
    | ok v r' => cases h; exact .inr ⟨_, rfl⟩
    | exc c r' => cases h
    | bad => cases h
theorem i_bad : PI X tg e (tI X.K F W .bad) := ⟨fun _ _ _ _ _ _ ⟨_, _, _, h⟩ => h.elim⟩
theorem i_itr (ha : PE X a (tO X.K F W ca)) (hr : ∀ k e, ca ≠ .res k e) : PI X tg a (tI X.K F W (.itr ca)) := by
  refine PI.imp (PI.or (pi_list ha) (pi_tup ha)) fun σ H R ⟨G, r, s, h⟩ => ?_
  rw [evI] at h
  cases q : mkO ca r (ev F ca r) with
  | bad => rw [q] at h; exact h.elim
  | exc c r1 =>
    rw [q] at h
    refine .inl ⟨G, r, s, ?_⟩
    rw [q]
    exact h
  | ok o r1 =>
    rw [q, bnd_ok] at h
    obtain ⟨d, e1, h2⟩ := h.ofB
    have fin : ∀ ds, itemsD d = some ds → ∀ G' H', SR X.K G' H' σ r1 → Stp σ r G H σ r1 G' H' → ∀ J hs, Walk J ds.length (StI G' hs) (YI X.K G' ds) → HS σ r1 (.itr ca) H' hs → ds.length ≤ sizeLine → R J H' := fun ds e2 G' H' s' t' => by
      rw [e2] at h2
      exact h2 G' H' s' t'
    cases d with
    | list ds =>
      refine .inl ⟨G, r, s, ?_⟩
      rw [q]
      intro G1 H1 s1 t1 v hv
      rcases mkO_slot hr q with ⟨i, rfl, hca⟩ | ⟨d', rfl⟩
      rotate_left
      · cases e1
        have hv : Rp X.K G1 v (.list ds) := hv
        cases hv with
        | lst h5 h6 =>
          refine ⟨_, rfl, ⟨_, SqL.of (s1.ex _ _ h5 rfl)⟩, ?_⟩
          refine fin ds rfl G1 H1 s1 t1 _ none (wk_list h6 none fun H z => z.1 _ _ h5 rfl) (fun p z => nomatch z) ?_
          rw [← h6.length]
          exact big _ (szL s1 (s1.ex _ _ h5 rfl))
      · have hv : σ[i]? = some (some v) := hv
        subst hca
        obtain ⟨val, e3, e0⟩ := Option.bind_eq_some_iff.mp (show (getS r1 i).bind valD = some (.list ds) from e1)
        obtain ⟨hns, e4⟩ := valD_ns e0
        obtain ⟨v', h1, h3⟩ := s1.slot i val (getS_some e3) hns
        rw [hv] at h1
        cases h1
        cases val with
        | sto S => exact absurd rfl (hns S)
        | fz d =>
          cases e4
          have h3 : Rp X.K G1 v (.list ds) := h3
          cases h3 with
          | lst h5 h6 =>
            refine ⟨_, rfl, ⟨_, SqL.of (s1.ex _ _ h5 rfl)⟩, ?_⟩
            refine fin ds rfl G1 H1 s1 t1 _ none (wk_list h6 none fun H z => z.1 _ _ h5 rfl) (fun p z => nomatch z) ?_
            rw [← h6.length]
            exact big _ (szL s1 (s1.ex _ _ h5 rfl))
        | ol es =>
          cases e4
          obtain ⟨a', vs, rfl, h4, h5, h6⟩ := h3
          refine ⟨_, rfl, ⟨_, SqL.of h5⟩, ?_⟩
          refine fin ds rfl G1 H1 s1 t1 _ (some (a', vs)) (wk_list h6 _ fun H z => z.2 _ rfl) (fun p z => ?_) ?_
          · cases z
            exact ⟨h5, i, ds, rfl, getS_some e3, hv⟩
          · rw [← h6.length]
            exact big _ (szL s1 h5)
    | tuple ds =>
      refine .inr ⟨G, r, s, ?_⟩
      rw [q]
      intro G1 H1 s1 t1 v hv
      obtain ⟨a', vs, rfl, h1, h2', h3⟩ := (hv.ov s1 e1).tup s1
      refine ⟨_, rfl, ⟨_, SqT.of h1⟩, ?_⟩
      refine fin ds rfl G1 H1 s1 t1 _ none (wk_tup h2' h3) (fun p z => nomatch z) ?_
      rw [← h2'.length]
      exact big _ (szT s1 h1)
    | _ => exact h2.elim
theorem i_rng1 (hg : Gl X "range") (hm : X.mg "range" = none) (hs : PySem.W.isStarred a = false) (hl : clen ces = 1) (ha : PA X [a] (tVs X.K F W ces)) : PI X tg (.Call (.Name "range" p) [a] [] pos) (tI X.K F W (.rng ces)) := by
  refine PI.imp (pi_range1 hg hm ha (star_ok hs)) fun σ H R ⟨G, r, s, h⟩ => ⟨G, r, s, ?_⟩
  rw [evI] at h
  refine (h.bnd.eqn (P := fun ds => ds.length = clen ces) fun ds r' e => evs_len e).imp fun ds r1 G1 H1 s1 t1 ⟨hl', h1⟩ vs hvs => ?_
  rw [hl] at hl'
  unfold rngD at h1
  split at h1
  · rename_i n _
    split at h1
    · rename_i c
      have c := smI_of c
      have zl := sizeLine_eq
      cases hvs with
      | cons h2 h3 =>
        cases h3
        cases h2
        refine ⟨n, rfl, by omega, by omega, ?_⟩
        refine h1 G1 H1 s1 t1 (Itr 0 n.toNat) none ?_ (fun p z => nomatch z) ?_
        · rw [List.length_map, List.length_range]
          refine (walk_range (lo := 0) (n := n.toNat)).mono (fun _ _ => trivial) fun i H x H' hi _ ⟨e1, e2⟩ => ⟨.int i, ?_, .inl ⟨e1, ?_⟩⟩
          · rw [List.getElem?_map, List.getElem?_range hi]; rfl
          · have e3 : x = .int (0 + (i : Int)) := e2
            rw [e3, Int.zero_add]; exact .int i
        · rw [List.length_map, List.length_range]; omega
    · exact h1.elim
  · cases hl'
  · exact h1.elim
theorem i_rng2 (hg : Gl X "range") (hm : X.mg "range" = none) (hs : PySem.W.isStarred a = false) (hs2 : PySem.W.isStarred b = false) (hl : clen ces = 2) (ha : PA X [a, b] (tVs X.K F W ces)) : PI X tg (.Call (.Name "range" p) [a, b] [] pos) (tI X.K F W (.rng ces)) := by
  refine PI.imp (pi_range2 hg hm ha (by rw [star_ok hs, star_ok hs2]; rfl) (star_ok hs2)) fun σ H R ⟨G, r, s, h⟩ => ⟨G, r, s, ?_⟩
  rw [evI] at h
  refine (h.bnd.eqn (P := fun ds => ds.length = clen ces) fun ds r' e => evs_len e).imp fun ds r1 G1 H1 s1 t1 ⟨hl', h1⟩ vs hvs => ?_
  rw [hl] at hl'
  unfold rngD at h1
  split at h1
  · cases hl'
  · rename_i lo n _
    split at h1
    · rename_i c
      have c1 := smI_of (Bool.and_eq_true_iff.mp c).1
      have c2 := smI_of (Bool.and_eq_true_iff.mp c).2
      have zl := sizeLine_eq
      cases hvs with
      | cons h2 h3 =>
        cases h3 with
        | cons h4 h5 =>
          cases h5
          cases h4
          cases h2
          refine ⟨lo, n, rfl, ⟨by omega, by omega, by omega, by omega⟩, ?_⟩
          refine h1 G1 H1 s1 t1 (Itr lo (n - lo).toNat) none ?_ (fun p z => nomatch z) ?_
          · rw [List.length_map, List.length_range]
            refine (walk_range (lo := lo) (n := (n - lo).toNat)).mono (fun _ _ => trivial) fun i H x H' hi _ ⟨e1, e2⟩ => ⟨.int (lo + i), ?_, .inl ⟨e1, ?_⟩⟩
            · rw [List.getElem?_map, List.getElem?_range hi]; rfl
            · have e3 : x = .int (lo + (i : Int)) := e2
              rw [e3]; exact .int _
          · rw [List.length_map, List.length_range]; omega
    · exact h1.elim
  · exact h1.elim
theorem wk_zipT {K : PySem.W.Frag} {G : Hp} {a b : Addr} {vs ws : List V} {ds es : List PyData} (h1 : Rps K G vs ds) (h2 : Rps K G ws es) (g1 : G a = some (.tup vs)) (g2 : G b = some (.tup ws)) :
    Walk (RZ.ItzT K a b) ((ds.zip es).map fun p => PyData.tuple [p.1, p.2]).length (StI G none) (YI K G ((ds.zip es).map fun p => PyData.tuple [p.1, p.2])) := by
  have e1 := h1.length
  have e2 := h2.length
  have hn : ((ds.zip es).map fun p => PyData.tuple [p.1, p.2]).length = min vs.length ws.length := by rw [List.length_map, List.length_zip, e1, e2]
  rw [hn]
  refine ⟨fun i H hi q => ?_, fun H q => ⟨vs, ws, SqT.of (q.1 _ _ g1 rfl), SqT.of (q.1 _ _ g2 rfl), by omega⟩, fun i H x H' hi q y => ?_⟩
  · have l1 : i < vs.length := by omega
    have l2 : i < ws.length := by omega
    exact ⟨vs, ws, vs[i], ws[i], SqT.of (q.1 _ _ g1 rfl), SqT.of (q.1 _ _ g2 rfl), by simp [l1], by simp [l2]⟩
  · obtain ⟨T, u, v, y1, y2, y3, y4, y5⟩ := y
    obtain ⟨d, e, z1, z2, z3⟩ := Rps.zip h1 h2 (y4 vs (SqT.of (q.1 _ _ g1 rfl))) (y5 ws (SqT.of (q.1 _ _ g2 rfl)))
    exact ⟨_, z1, .inr ⟨T, [u, v], [d, e], y1, y2, y3, .cons z2 (.cons z3 .nil), rfl, by show 2 ≤ sizeLine; decide⟩⟩
theorem wk_zipL {K : PySem.W.Frag} {G : Hp} {a b : Addr} {vs ws : List V} {ds es : List PyData} (h1 : Rps K G vs ds) (h2 : Rps K G ws es) (g1 : G a = some (.lst vs)) (g2 : G b = some (.lst ws)) :
    Walk (Itz K a b) ((ds.zip es).map fun p => PyData.tuple [p.1, p.2]).length (StI G none) (YI K G ((ds.zip es).map fun p => PyData.tuple [p.1, p.2])) := by
  have e1 := h1.length
  have e2 := h2.length
  have hn : ((ds.zip es).map fun p => PyData.tuple [p.1, p.2]).length = min vs.length ws.length := by rw [List.length_map, List.length_zip, e1, e2]
  refine (walk_zip (K := K) (a := a) (b := b) hn).mono (fun H q => ⟨SqL.of (q.1 _ _ g1 rfl), SqL.of (q.1 _ _ g2 rfl)⟩) fun i H x H' hi q y => ?_
  obtain ⟨T, u, v, y1, y2, y3, y4, y5⟩ := y
  obtain ⟨d, e, z1, z2, z3⟩ := Rps.zip h1 h2 y4 y5
  exact ⟨_, z1, .inr ⟨T, [u, v], [d, e], y1, y2, y3, .cons z2 (.cons z3 .nil), rfl, by show 2 ≤ sizeLine; decide⟩⟩
theorem i_zip {elts : List Expr} {kk : Nat} {tpos : Pos} (hg : Gl X "zip") (hm : X.mg "zip" = none) (hs : PySem.W.isStarred a = false) (hs2 : PySem.W.isStarred b = false) (ha : PA X [a, b] (tVs X.K F W ces)) :
    PI X (.Tuple elts kk tpos) (.Call (.Name "zip" p) [a, b] [] pos) (tI X.K F W (.zip ces)) := by
  refine PI.imp (RZ.pi_zipA hg hm ha (star_ok hs) (no_star (by simp [hs2]))) fun σ H R ⟨G, r, s, h⟩ => ⟨G, r, s, ?_⟩
  rw [evI] at h
  refine h.bnd.imp fun ds r1 G1 H1 s1 t1 h1 vs hvs => ?_
  unfold zipD at h1
  split at h1
  · cases hvs with
    | cons h2 h3 =>
      cases h3 with
      | cons h4 h5 =>
        cases h5
        cases h2 with
        | tup g1 p1 =>
          cases h4 with
          | tup g2 p2 =>
            refine ⟨_, _, _, _, rfl, .inr ⟨SqT.of (s1.ex _ _ g1 rfl), SqT.of (s1.ex _ _ g2 rfl), h1 G1 H1 s1 t1 _ none (wk_zipT p1 p2 g1 g2) (fun p z => nomatch z) ?_⟩⟩
            rw [List.length_map, List.length_zip]
            have := szT s1 (s1.ex _ _ g1 rfl)
            have := p1.length
            omega
  · cases hvs with
    | cons h2 h3 =>
      cases h3 with
      | cons h4 h5 =>
        cases h5
        cases h2 with
        | lst g1 p1 =>
          cases h4 with
          | lst g2 p2 =>
            refine ⟨_, _, _, _, rfl, .inl ⟨SqL.of (s1.ex _ _ g1 rfl), SqL.of (s1.ex _ _ g2 rfl), h1 G1 H1 s1 t1 _ none (wk_zipL p1 p2 g1 g2) (fun p z => nomatch z) ?_⟩⟩
            rw [List.length_map, List.length_zip]
            have := szL s1 (s1.ex _ _ g1 rfl)
            have := p1.length
            omega
  · exact h1.elim
theorem enmL_get : ∀ {ds : List PyData} {k i : Nat} {d : PyData}, ds[i]? = some d → (enmL k ds)[i]? = some (.tuple [.int ((k + i : Nat) : Int), d])
  | [], _, _, _, h => by simp at h
  | x :: ds, k, 0, d, h => by simp at h; subst h; simp [enmL]
  | x :: ds, k, i + 1, d, h => by
    have := enmL_get (k := k + 1) (i := i) (d := d) (ds := ds) (by simpa using h)
    rw [show k + 1 + i = k + (i + 1) by omega] at this
    simpa [enmL] using this
theorem enmL_len : ∀ {ds : List PyData} {k : Nat}, (enmL k ds).length = ds.length
  | [], _ => rfl
  | x :: ds, k => by rw [enmL, List.length_cons, List.length_cons, enmL_len]
theorem enm_pair {K : PySem.W.Frag} {G H H' : Hp} {xs : List V} {es : List PyData} {i : Nat} {x : V} (p1 : Rps K G xs es) (y : YPair (fun i => some (.int (i : Nat))) (fun i => xs[i]?) i H x H') : YI K G (enmL 0 es) i H x H' := by
  obtain ⟨T, u, v, y1, y2, y3, y4, y5⟩ := y
  obtain ⟨d, e3, e4⟩ := p1.getV y5
  cases y4
  exact ⟨_, enmL_get e3, .inr ⟨T, _, _, y1, y2, y3, .cons (.int _) (.cons e4 .nil), by rw [Nat.zero_add], by show 2 ≤ sizeLine; decide⟩⟩
theorem i_enm {elts : List Expr} {kk : Nat} {tpos : Pos} (hg : Gl X "enumerate") (hm : X.mg "enumerate" = none) (hs : PySem.W.isStarred a = false) (ha : PA X [a] (tVs X.K F W ces)) :
    PI X (.Tuple elts kk tpos) (.Call (.Name "enumerate" p) [a] [] pos) (tI X.K F W (.enm ces)) := by
  refine PI.imp (pi_enm hg hm ha (star_ok hs)) fun σ H R ⟨G, r, s, h⟩ => ⟨G, r, s, ?_⟩
  rw [evI] at h
  refine h.bnd.imp fun ds r1 G1 H1 s1 t1 h1 vs hvs => ?_
  unfold enmD at h1
  split at h1
  · cases hvs with
    | cons h2 h3 =>
      cases h3
      cases h2 with
      | lst g1 p1 =>
        refine ⟨_, _, rfl, .inl ⟨SqL.of (s1.ex _ _ g1 rfl), h1 G1 H1 s1 t1 _ none ?_ (fun p z => nomatch z) ?_⟩⟩
        · rw [enmL_len, ← p1.length]
          exact (walk_enum (K := X.K)).mono (fun H q => SqL.of (q.1 _ _ g1 rfl)) fun i H x H' hi q y => enm_pair p1 y
        · rw [enmL_len, ← p1.length]
          exact szL s1 (s1.ex _ _ g1 rfl)
  · cases hvs with
    | cons h2 h3 =>
      cases h3
      cases h2 with
      | tup g1 p1 =>
        refine ⟨_, _, rfl, .inr ⟨SqT.of (s1.ex _ _ g1 rfl), h1 G1 H1 s1 t1 _ none ?_ (fun p z => nomatch z) ?_⟩⟩
        · rw [enmL_len, ← p1.length]
          exact (walk_enmT (K := X.K)).mono (fun H q => SqT.of (q.1 _ _ g1 rfl)) fun i H x H' hi q y => enm_pair p1 y
        · rw [enmL_len, ← p1.length]
          exact szT s1 (s1.ex _ _ g1 rfl)
  · exact h1.elim
theorem i_rvs (hg : Gl X "reversed") (hm : X.mg "reversed" = none) (hs : PySem.W.isStarred a = false) (ha : PE X a (tV X.K F W ca)) : PI X tg (.Call (.Name "reversed" p) [a] [] pos) (tI X.K F W (.rvs ca)) := by
  refine PI.imp (RT.pi_revA hg hm ha (star_ok hs)) fun σ H R ⟨G, r, s, h⟩ => ⟨G, r, s, ?_⟩
  rw [evI] at h
  refine h.bnd.imp fun val r1 G1 H1 s1 t1 h1 v hv => ?_
  obtain ⟨G2, s2, t2, e2, p2⟩ := frzV s1 t1 hv
  obtain ⟨ds, e1, h2⟩ := h1.ofB
  have h3 := h2 G2 H1 s2 t2
  obtain ⟨a', vs, rfl, h5, z, h6⟩ := seq_go s2 (.inl p2) e1
  have hl := h5.length
  rcases h6 with ⟨e3, h6⟩ | ⟨e3, h6, h7⟩
  · rw [e3] at p2
    cases p2 with
    | lst g1 q1 =>
      have e4 := s2.ex _ _ g1 rfl
      rw [h6] at e4
      cases e4
      refine ⟨a', vs, rfl, .inl ⟨SqL.of h6, h3 _ none ?_ (fun p z => nomatch z) (by rw [List.length_reverse, ← hl]; exact z)⟩⟩
      rw [List.length_reverse, ← hl]
      refine (walk_rev (K := X.K) (a := a') (xs := vs)).mono (fun H q => SqL.of (q.1 _ _ g1 rfl)) fun i H x H' hi q y => ?_
      obtain ⟨d, e5, e6⟩ := h5.getV y.2
      refine ⟨d, ?_, .inl ⟨y.1, e6⟩⟩
      rw [List.getElem?_reverse (by omega), ← hl]
      exact e5
  · refine ⟨a', vs, rfl, .inr ⟨SqT.of h6, h3 _ none ?_ (fun p z => nomatch z) (by rw [List.length_reverse, ← hl]; exact z)⟩⟩
    rw [List.length_reverse, ← hl]
    refine ⟨fun i H hi q => ⟨hi, vs, vs[vs.length - 1 - i]'(by omega), SqT.of (q.1 _ _ h7 rfl), by simp [show vs.length - 1 - i < vs.length by omega]⟩, fun H q => Nat.le_refl _, fun i H x H' hi q y => ?_⟩
    obtain ⟨d, e5, e6⟩ := h5.getV (y.2 vs (SqT.of (q.1 _ _ h7 rfl)))
    refine ⟨d, ?_, .inl ⟨y.1, e6⟩⟩
    rw [List.getElem?_reverse (by omega), ← hl]
    exact e5
end
end SC

set_option Elab.async false
set_option maxRecDepth 100000
set_option maxHeartbeats 1000000
namespace SC
open PySem L2

/-! ### slots forgotten -/
theorem wipe_get {σ : L2.St} : ∀ {vs : List Nat} {j : Nat}, (wipe σ vs)[j]? = if j ∈ vs ∧ j < σ.length then some none else σ[j]?
  | [], j => by simp [wipe]
  | v :: vs, j => by
    unfold wipe
    by_cases e : v = j
    · subst e
      by_cases hj : v < σ.length
      · rw [List.getElem?_set_self (by rw [wipe_length]; exact hj), if_pos ⟨List.mem_cons_self, hj⟩]
      · rw [List.getElem?_eq_none (by rw [List.length_set, wipe_length]; omega), if_neg (fun q => hj q.2), List.getElem?_eq_none (by omega)]
    · rw [List.getElem?_set_ne e, wipe_get]
      have : (j ∈ v :: vs) ↔ j ∈ vs := by simp [Ne.symm e]
      simp only [this]
theorem wip_len {r : EV} : ∀ {vs : List Nat}, (wip r vs).length = r.length
  | [] => rfl
  | v :: vs => by unfold wip; rw [List.length_set, wip_len]
theorem wip_get {r : EV} : ∀ {vs : List Nat} {j : Nat}, (wip r vs)[j]? = if j ∈ vs ∧ j < r.length then some none else r[j]?
  | [], j => by simp [wip]
  | v :: vs, j => by
    unfold wip
    by_cases e : v = j
    · subst e
      by_cases hj : v < r.length
      · rw [List.getElem?_set_self (by rw [wip_len]; exact hj), if_pos ⟨List.mem_cons_self, hj⟩]
      · rw [List.getElem?_eq_none (by rw [List.length_set, wip_len]; omega), if_neg (fun q => hj q.2), List.getElem?_eq_none (by omega)]
    · rw [List.getElem?_set_ne e, wip_get]
      have : (j ∈ v :: vs) ↔ j ∈ vs := by simp [Ne.symm e]
      simp only [this]
theorem wip_some {r : EV} {vs : List Nat} {j : Nat} {val : Val} (h : (wip r vs)[j]? = some (some val)) : j ∉ vs ∧ r[j]? = some (some val) := by
  rw [wip_get] at h
  split at h
  · cases h
  · rename_i c
    refine ⟨fun m => c ⟨m, ?_⟩, h⟩
    exact (List.getElem?_eq_some_iff.mp h).1
theorem wip_of {r : EV} {vs : List Nat} {j : Nat} (h : j ∉ vs) : (wip r vs)[j]? = r[j]? := by
  rw [wip_get, if_neg (fun q => h q.1)]
theorem wipe_of {σ : L2.St} {vs : List Nat} {j : Nat} (h : j ∉ vs) : (wipe σ vs)[j]? = σ[j]? := by
  rw [wipe_get, if_neg (fun q => h q.1)]
theorem rst_len {r0 r : EV} : ∀ {vs : List Nat}, (rst r0 r vs).length = r.length
  | [] => rfl
  | v :: vs => by unfold rst; rw [List.length_set, rst_len]
theorem rst_get {r0 r : EV} : ∀ {vs : List Nat} {j : Nat}, (rst r0 r vs)[j]? = if j ∈ vs ∧ j < r.length then some (getS r0 j) else r[j]?
  | [], j => by simp [rst]
  | v :: vs, j => by
    unfold rst
    by_cases e : v = j
    · subst e
      by_cases hj : v < r.length
      · rw [List.getElem?_set_self (by rw [rst_len]; exact hj), if_pos ⟨List.mem_cons_self, hj⟩]
      · rw [List.getElem?_eq_none (by rw [List.length_set, rst_len]; omega), if_neg (fun q => hj q.2), List.getElem?_eq_none (by omega)]
    · rw [List.getElem?_set_ne e, rst_get]
      have : (j ∈ v :: vs) ↔ j ∈ vs := by simp [Ne.symm e]
      simp only [this]
theorem ext_get {α : Type} {xs ys : List α} (h : ∀ j : Nat, xs[j]? = ys[j]?) : xs = ys := List.ext_getElem? h
theorem wipe_set {σ : L2.St} {vs : List Nat} {i : Nat} {v : Option V} (h : i ∈ vs) : wipe (σ.set i v) vs = wipe σ vs := ext_get fun j => by
  rw [wipe_get, wipe_get, List.length_set]
  split
  · rfl
  · rename_i c
    by_cases e : i = j
    · subst e
      have : ¬ i < σ.length := fun q => c ⟨h, q⟩
      rw [List.getElem?_eq_none (by rw [List.length_set]; omega), List.getElem?_eq_none (by omega)]
    · rw [List.getElem?_set_ne e]
theorem wipe_wipe {σ : L2.St} {vs : List Nat} : wipe (wipe σ vs) vs = wipe σ vs := ext_get fun j => by
  rw [wipe_get, wipe_length]
  split
  · rename_i c; rw [wipe_get, if_pos c]
  · rfl

/-! ### targets -/
def gNs : List Nat → TGs
  | [] => gNil
  | i :: is => gCons (gName i) (gNs is)
def gT (K : PySem.W.Frag) : Bool → List Nat → TG
  | false, [i] => gName i
  | true, is => gTup K is.length (gNs is)
  | _, _ => fun _ _ _ _ => False
section
variable {K : PySem.W.Frag} {G G1 G2 G' H H1 H2 H' : Hp} {σ σ1 σ2 σ' : L2.St} {r r1 r2 r' : EV}
theorem gNs_go {P : L2.St → Hp → Prop} {all : List Nat} : ∀ {is : List Nat} {vs : List V} {ds : List PyData} {σ : L2.St} {r : EV}, (∀ i ∈ is, i ∈ all) → SR K G H σ r → Rps K G vs ds → ds.length = is.length →
    (∀ σ2, SR K G H σ2 ((is.zip ds).foldl (fun r p => r.set p.1 (some (.fz p.2))) r) → Stp σ r G H σ2 ((is.zip ds).foldl (fun r p => r.set p.1 (some (.fz p.2))) r) G H → wipe σ2 all = wipe σ all → P σ2 H) → gNs is vs σ H P
  | [], vs, ds, σ, r, _, s, hr, hl, k => by
    have e : ds = [] := List.length_eq_zero_iff.mp hl
    subst e
    cases hr
    exact ⟨rfl, k σ s Stp.refl rfl⟩
  | i :: is, vs, ds, σ, r, hm, s, hr, hl, k => by
    cases hr with
    | nil => cases hl
    | cons h1 h2 =>
      refine ⟨_, _, rfl, ?_⟩
      obtain ⟨s1, t1⟩ := setFz (i := i) s h1
      refine gNs_go (fun j hj => hm j (List.mem_cons_of_mem _ hj)) s1 h2 (by simpa using hl) fun σ2 s2 t2 e2 => ?_
      exact k σ2 s2 (t1.trans t2) (e2.trans (wipe_set (hm i List.mem_cons_self)))
theorem gT_go {P : L2.St → Hp → Prop} {tup : Bool} {tg : List Nat} {x : V} {d : PyData} (s : SR K G H σ r) (hd : Rp K G x d) (e : setT tup tg d r = some r1)
    (k : ∀ σ2, SR K G H σ2 r1 → Stp σ r G H σ2 r1 G H → wipe σ2 tg = wipe σ tg → P σ2 H) : gT K tup tg x σ H P := by
  unfold setT at e
  split at e
  · cases e
    obtain ⟨s1, t1⟩ := setFz s hd
    exact k _ s1 t1 (wipe_set (by simp))
  · split at e
    · rename_i c
      cases e
      cases hd with
      | tup h1 h2 =>
        refine ⟨_, _, rfl, SqT.of (s.ex _ _ h1 rfl), by rw [h2.length, c], ?_⟩
        exact gNs_go (fun i hi => hi) s h2 c k
    · cases e
  · cases e
/-- what a turn gives, laid into the frozen part -/
theorem YI.go {ds : List PyData} {i : Nat} {x : V} (s : SR K G H σ r) (y : YI K G1 ds i H x H') (e : Same G1 G) :
    ∃ d G', ds[i]? = some d ∧ SR K G' H' σ r ∧ Stp σ r G H σ r G' H' ∧ Rp K G' x d := by
  obtain ⟨d, e1, y⟩ := y
  rcases y with ⟨rfl, h⟩ | ⟨T, vs, es, rfl, h1, rfl, h2, rfl, z⟩
  · exact ⟨d, G, e1, s, Stp.refl, Rp.mono e h⟩
  · obtain ⟨s1, t1, p1⟩ := newTup s h1 (h2.mono e) z
    exact ⟨_, _, e1, s1, t1, p1⟩
/-- into the block -/
theorem SR.wiped {vs ws : List Nat} (s : SR K G H σ r) (h : ∀ i ∈ vs, i ∈ ws) : SR K G H (wipe σ vs) (wip r ws) := by
  have f : ∀ {j : Nat} {val : Val}, (wip r ws)[j]? = some (some val) → r[j]? = some (some val) ∧ (wipe σ vs)[j]? = σ[j]? := fun {j val} q => by
    obtain ⟨h1, h2⟩ := wip_some q
    exact ⟨h2, wipe_of fun m => h1 (h j m)⟩
  refine ⟨s.ex, by rw [wip_len, wipe_length]; exact s.len, fun j val q hv => ?_, fun j k a ds es h1 h2 h3 h4 => ?_, s.sz, fun j S q => s.sto j S (f q).1, s.tgd, fun a b S S' q1 q2 => s.sone a b S S' (f q1).1 (f q2).1⟩
  · obtain ⟨q1, q2⟩ := f q
    rw [q2]
    exact s.slot j val q1 hv
  · obtain ⟨q1, q2⟩ := f h1
    obtain ⟨q3, q4⟩ := f h3
    rw [q2] at h2
    rw [q4] at h4
    exact s.uniq j k a ds es q1 h2 q3 h4
theorem Own.wiped {vs ws : List Nat} {a : Addr} (h : ∀ i ∈ vs, i ∈ ws) (w : Own (wipe σ vs) (wip r ws) a) : ∃ (k : Nat) (ds : List PyData), k ∉ ws ∧ r[k]? = some (some (.ol ds)) ∧ σ[k]? = some (some (.ref a)) := by
  obtain ⟨i, ds, h1, h2⟩ := w
  obtain ⟨h3, h4⟩ := wip_some h1
  rw [wipe_of fun m => h3 (h i m)] at h2
  exact ⟨i, ds, h3, h4, h2⟩
theorem Own.wiped1 {vs ws : List Nat} {a : Addr} (h : ∀ i ∈ vs, i ∈ ws) (w : Own (wipe σ vs) (wip r ws) a) : Own σ r a := by
  obtain ⟨k, ds, _, h1, h2⟩ := w.wiped h
  exact ⟨k, ds, h1, h2⟩
theorem OwnS.wiped1 {ws : List Nat} {a : Addr} (w : OwnS G H (wip r ws) a) : OwnS G H r a := w.of (fun _ _ q => (wip_some q).2) fun _ _ _ _ z => z
/-- a list that no slot owns is written -/
theorem SR.updD {D : Addr} {vs ws : List V} (s : SR K G H σ r) (hg : G D = none) (hD : H D = some (.lst ws)) (n : ¬ Own σ r D) (z : vs.length ≤ sizeLine) : SR K G (upd H D (.lst vs)) σ r := by
  have ne : ∀ b u, H b = some u → ((∃ n, G b = some (tg n)) ∨ ∃ p, u = .own p) → upd H D (.lst vs) b = some u := fun b u q c => by
    rw [upd_ne]
    · exact q
    · intro e; subst e
      rcases c with ⟨n, c⟩ | ⟨p, c⟩
      · rw [hg] at c; cases c
      · rw [hD, c] at q; cases q
  refine ⟨fun b o q hu => ?_, s.len, fun j val q hv => ?_, s.uniq, s.sz.newL z, fun j S q => (s.sto j S q).mono (Same.refl _) (fun _ _ q => q) ne fun _ _ _ z => z, fun b n q => tgd_upd (s.tgd b n q) (fun e => by subst e; rw [hg] at q; cases q), s.sone⟩
  · rw [upd_ne (ne_of_none q hg)]; exact s.ex b o q hu
  · obtain ⟨v, h1, h2⟩ := s.slot j val q hv
    refine ⟨v, h1, ?_⟩
    cases val with
    | fz d => exact h2
    | ol ds =>
      obtain ⟨a, ws, rfl, h3, h4, h5⟩ := h2
      refine ⟨a, ws, rfl, h3, ?_, h5⟩
      rw [upd_ne]
      · exact h4
      · intro e; subst e; exact n ⟨j, ds, q, h1⟩
    | sto S => exact h2
theorem Stp.updD {D : Addr} {vs ws : List V} (t : Stp σ r G H σ' r' G' H') (hD : H D = none) (hD' : H' D = some (.lst ws)) (hg : G' D = none) : Stp σ r G H σ' r' G' (upd H' D (.lst vs)) where
  ex := t.ex
  keep := fun a u q n m => by rw [upd_ne (ne_of_none q hD)]; exact t.keep a u q n m
  dom := fun a q => t.dom a (dom_upd q)
  tups := fun a xs q => by rw [upd_ne (ne_of_none q hD)]; exact t.tups a xs q
  new := fun a q => by
    rcases t.new a q with z | z | z | ⟨xs, z⟩
    · exact .inl z
    · exact .inr (.inl z)
    · exact .inr (.inr (.inl z))
    · refine .inr (.inr (.inr ⟨xs, ?_⟩))
      rw [upd_ne]
      · exact z
      · intro e; subst e; rw [hD'] at z; cases z
  own := t.own
  ows := fun a q => t.ows a (q.of (fun _ _ z => z) fun p C fs ⟨n, c⟩ z => by
    rw [upd_ne] at z
    · exact z
    · intro e; subst e; rw [hg] at c; cases c)
  tgs := t.tgs
  hst := t.hst
/-- out of the block again -/
theorem SR.restored {vs ws : List Nat} (s1 : SR K G1 H1 σ r1) (h : ∀ i ∈ vs, i ∈ ws) (s : SR K G H (wipe σ vs) r) (t : Stp (wipe σ vs) (wip r1 ws) G1 H1 (wipe σ vs) r G H) :
    SR K G H σ (rst r1 r ws) ∧ Stp σ r1 G1 H1 σ (rst r1 r ws) G H := by
  have hl : r.length = r1.length := by
    rw [s.len, wipe_length, ← s1.len]
  have f : ∀ {j : Nat} {val : Val}, (rst r1 r ws)[j]? = some (some val) → (j ∈ ws ∧ r1[j]? = some (some val)) ∨ (j ∉ ws ∧ r[j]? = some (some val)) := fun {j val} q => by
    rw [rst_get] at q
    split at q
    · rename_i c
      exact .inl ⟨c.1, getS_some (Option.some.inj q)⟩
    · rename_i c
      refine .inr ⟨fun m => c ⟨m, (List.getElem?_eq_some_iff.mp q).1⟩, q⟩
  have old : ∀ {j : Nat} {ds : List PyData} {a : Addr}, j ∈ ws → r1[j]? = some (some (.ol ds)) → σ[j]? = some (some (.ref a)) → G a = none ∧ ¬ Own (wipe σ vs) r a ∧ ∀ o, H1 a = some o → H a = some o := fun {j ds a} hj q1 q2 => by
    obtain ⟨g1, us, hh⟩ := s1.owned ⟨j, ds, q1, q2⟩
    have nw : ¬ Own (wipe σ vs) (wip r1 ws) a := fun w => by
      obtain ⟨k, es, k1, k2, k3⟩ := w.wiped h
      exact k1 (s1.uniq k j a _ _ k2 k3 q1 q2 ▸ hj)
    have kp : ∀ o, H1 a = some o → H a = some o := fun o ho => t.keep a o ho nw ((s1.wiped h).notS hh (fun p z => nomatch z) fun n z => by rw [g1] at z; cases z)
    refine ⟨?_, fun w => ?_, kp⟩
    · cases q : G a with
      | none => rfl
      | some o =>
        rcases t.new a (by rw [q]; simp) with z | z | z | ⟨xs, z⟩
        · exact absurd g1 z
        · exact absurd z nw
        · rw [hh] at z; cases z
        · rw [kp _ hh] at z; cases z
    · rcases t.own a w with z | z
      · exact nw z
      · rw [hh] at z; cases z
  have sto : ∀ {j : Nat} {S : List Ob}, (rst r1 r ws)[j]? = some (some (.sto S)) → (j ∈ ws ∧ r1[j]? = some (some (.sto S)) ∧ ¬ HasS (wip r1 ws)) ∨ (j ∉ ws ∧ r[j]? = some (some (.sto S))) := fun {j S} q => by
    rcases f q with ⟨hj, q1⟩ | z
    · refine .inl ⟨hj, q1, fun ⟨k, S', w⟩ => ?_⟩
      obtain ⟨w1, w2⟩ := wip_some w
      exact w1 (s1.sone j k S S' q1 w2 ▸ hj)
    · exact .inr z
  have hst : HasS (rst r1 r ws) → HasS r1 := fun ⟨j, S, q⟩ => by
    rcases sto q with ⟨_, q1, _⟩ | ⟨_, q1⟩
    · exact ⟨j, S, q1⟩
    · obtain ⟨k, S', w⟩ := t.hst ⟨j, S, q1⟩
      exact ⟨k, S', (wip_some w).2⟩
  have kept : ¬ HasS (wip r1 ws) → ∀ b u, H1 b = some u → ((∃ n, G1 b = some (tg n)) ∨ ∃ p, u = .own p) → H b = some u := fun nh b u q c => by
    refine t.keep b u q (fun w => ?_) fun ⟨i, S, _, _, w, _⟩ => nh ⟨i, S, w⟩
    obtain ⟨w1, us, w2⟩ := (s1.wiped h).owned w
    rcases c with ⟨n, c⟩ | ⟨p, c⟩
    · rw [w1] at c; cases c
    · rw [w2, c] at q; cases q
  refine ⟨⟨s.ex, by rw [rst_len, hl]; exact s1.len, fun j val q hv => ?_, fun j k a ds es q1 q2 q3 q4 => ?_, s.sz, fun j S q => ?_, s.tgd, fun a b S S' q1 q2 => ?_⟩, ⟨t.ex, fun a o q n m => t.keep a o q (fun w => n (w.wiped1 h)) fun w => m w.wiped1, t.dom, t.tups, fun a q => ?_, fun a w => ?_, fun a w => ?_, fun a n q => (t.tgs a n q).imp id fun ⟨k, S, w⟩ => ⟨k, S, (wip_some w).2⟩, hst⟩⟩
  · rcases f q with ⟨hj, q1⟩ | ⟨hj, q1⟩
    · obtain ⟨v, h1, h2⟩ := s1.slot j val q1 hv
      refine ⟨v, h1, ?_⟩
      cases val with
      | sto S => exact absurd rfl (hv S)
      | fz d => exact Rp.mono t.ex h2
      | ol ds =>
        obtain ⟨a, us, rfl, h3, h4, h5⟩ := h2
        obtain ⟨o1, _, o3⟩ := old hj q1 h1
        exact ⟨a, us, rfl, o1, o3 _ h4, h5.mono t.ex⟩
    · obtain ⟨v, h1, h2⟩ := s.slot j val q1 hv
      rw [wipe_of fun m => hj (h j m)] at h1
      exact ⟨v, h1, h2⟩
  · rcases f q1 with ⟨hj, p1⟩ | ⟨hj, p1⟩
    · rcases f q3 with ⟨hk, p3⟩ | ⟨hk, p3⟩
      · exact s1.uniq j k a _ _ p1 q2 p3 q4
      · obtain ⟨_, o2, _⟩ := old hj p1 q2
        exact absurd ⟨k, es, p3, by rw [wipe_of fun m => hk (h k m)]; exact q4⟩ o2
    · rcases f q3 with ⟨hk, p3⟩ | ⟨hk, p3⟩
      · obtain ⟨_, o2, _⟩ := old hk p3 q4
        exact absurd ⟨j, ds, p1, by rw [wipe_of fun m => hj (h j m)]; exact q2⟩ o2
      · refine s.uniq j k a _ _ p1 ?_ p3 ?_
        · rw [wipe_of fun m => hj (h j m)]; exact q2
        · rw [wipe_of fun m => hk (h k m)]; exact q4
  · rcases sto q with ⟨_, q1, nh⟩ | ⟨_, q1⟩
    · refine (s1.sto j S q1).mono t.ex (fun a n w => (t.tgs a n w).resolve_right nh) (kept nh) fun b p w z => ?_
      cases q2 : G b with
      | none => rfl
      | some o =>
        rcases t.new b (by rw [q2]; simp) with c | c | c | ⟨xs, c⟩
        · exact absurd z c
        · obtain ⟨_, us, c2⟩ := (s1.wiped h).owned c
          rw [w] at c2; cases c2
        · rw [w] at c; cases c
        · rw [kept nh b _ w (.inr ⟨p, rfl⟩)] at c; cases c
    · exact s.sto j S q1
  · rcases sto q1 with ⟨_, p1, n1⟩ | ⟨_, p1⟩
    · rcases sto q2 with ⟨_, p2, n2⟩ | ⟨_, p2⟩
      · exact s1.sone _ _ _ _ p1 p2
      · exact absurd (t.hst ⟨_, _, p2⟩) n1
    · rcases sto q2 with ⟨_, p2, n2⟩ | ⟨_, p2⟩
      · exact absurd (t.hst ⟨_, _, p1⟩) n2
      · exact s.sone _ _ _ _ p1 p2
  · rcases t.new a q with z | z | z | z
    · exact .inl z
    · exact .inr (.inl (z.wiped1 h))
    · exact .inr (.inr (.inl z))
    · exact .inr (.inr (.inr z))
  · obtain ⟨j, ds, q1, q2⟩ := w
    rcases f q1 with ⟨hj, p1⟩ | ⟨hj, p1⟩
    · exact .inl ⟨j, ds, p1, q2⟩
    · have w' : Own (wipe σ vs) r a := ⟨j, ds, p1, by rw [wipe_of fun m => hj (h j m)]; exact q2⟩
      rcases t.own a w' with z | z
      · exact .inl (z.wiped1 h)
      · exact .inr z
  · obtain ⟨i, S, n, o, h1, h2, h3, h4⟩ := w
    rcases sto h1 with ⟨_, p1, nh⟩ | ⟨_, p1⟩
    · refine .inl ⟨i, S, n, o, p1, h2, h3, h4.imp (fun c => (t.tgs a n c).resolve_right nh) fun ⟨p, C, fs, h5, h6⟩ => ⟨p, C, fs, (t.tgs p n h5).resolve_right nh, ?_⟩⟩
      have g1 := (t.tgs p n h5).resolve_right nh
      cases q : H1 p with
      | none => exact absurd q (s1.tgd p n g1).1
      | some u =>
        rw [kept nh p u q (.inl ⟨n, g1⟩)] at h6
        exact h6
    · rcases t.ows a ⟨i, S, n, o, p1, h2, h3, h4⟩ with z | z | z
      · exact .inl z.wiped1
      · exact .inr (.inl (z.wiped1 h))
      · exact .inr (.inr z)
end

/-! ### list comprehensions -/
theorem lcLoop_ok {tup : Bool} {tg ws : List Nat} {c : EV → Out Bool} {e : EV → Out Val} : ∀ {ds : List PyData} {r : EV} {acc : List PyData} {k : Nat} {r' : EV}, lcLoop tup tg ws c e ds r acc ≠ .exc k r'
  | [], r, acc, k, r', h => by cases h
  | d :: ds, r, acc, k, r', h => by
    unfold lcLoop at h
    split at h
    · cases h
    · split at h
      · split at h
        · exact lcLoop_ok h
        · cases h
      · exact lcLoop_ok h
      · cases h
theorem mem_wip {r : EV} {tg ws : List Nat} {j : Nat} {val : Val} (h : (wip r tg)[j]? = some (some val)) : j ∉ tg ∧ r[j]? = some (some val) := wip_some h
def W0 : Nat → L2.St → Hp → Prop := fun _ _ _ => False
section
variable {K : PySem.W.Frag} {F : Fs} {W : Nat → L2.St → Hp → Prop} {ci cc ce : CE} {tup : Bool} {tg : List Nat}
/-- between two turns -/
def LcI (K : PySem.W.Frag) (F : Fs) (cc ce : CE) (tup : Bool) (tg ws : List Nat) (ds : List PyData) (σ : L2.St) (r1 : EV) (G1 H1 : Hp) (D : Addr) (acc : List PyData) (r2 : EV) (i : Nat) (Hc : Hp) : Prop :=
  ∃ Gc rc accV accD, SR K Gc Hc (wipe σ tg) rc ∧ Stp (wipe σ tg) (wip r1 ws) G1 H1 (wipe σ tg) rc Gc Hc ∧ Hc D = some (.lst accV) ∧ Rps K Gc accV accD ∧ Gc D = none ∧ ¬ Own (wipe σ tg) rc D ∧ accV.length ≤ i ∧
    lcLoop tup tg ws (evT F cc) (ev F ce) (ds.drop i) rc accD = .ok acc r2
theorem lc_read {σ : L2.St} {H : Hp} {Q : VK} (h : tV K F W (.lc tup tg ci cc ce) σ H Q) : tLc (tJ K F W ci) (gT K tup tg) (tT K F W0 cc) (tV K F W0 ce) tg σ H Q := by
  obtain ⟨G, r, s, h⟩ := h
  rw [ev] at h
  refine ⟨G, r, s, h.bnd.imp fun ds r1 G1 H1 s1 t1 h1 J hs wk hhs zl D hD => ?_⟩
  generalize hws : tg ++ hidOf ci = ws at h1
  have sub : ∀ i ∈ tg, i ∈ ws := fun i hi => by rw [← hws]; exact List.mem_append_left _ hi
  cases hfin : lcLoop tup tg ws (evT F cc) (ev F ce) ds (wip r1 ws) [] with
  | bad => rw [hfin] at h1; exact h1.elim
  | exc k r' => exact absurd hfin lcLoop_ok
  | ok acc r2 =>
    rw [hfin, bnd_ok] at h1
    have nD1 : ¬ Own (wipe σ tg) (wip r1 ws) D := (s1.wiped sub).nown hD
    refine lc_it wk (LcI K F cc ce tup tg ws ds σ r1 G1 H1 D acc r2) ?_ ?_ ?_ ?_
    · refine ⟨G1, wip r1 ws, [], [], (s1.wiped sub).new hD (s1.sz.newL (Nat.zero_le _)), Stp.newH (s1.wiped sub) hD, upd_same, .nil, s1.gnone hD, nD1, Nat.zero_le _, hfin⟩
    · rintro i Hc hi ⟨Gc, rc, accV, accD, sc, tc, hDc, hra, gD, nD, la, hl⟩
      refine ⟨fun a o q w => sc.ex a o (tc.ex a o q) w, fun p hp => ?_⟩
      rcases hhs with hhs | hhs
      rotate_left
      · obtain ⟨q1, k, e, S, n, q2, q3, q4⟩ := hhs p hp
        refine tc.keep _ _ q1 (fun w => ?_) fun w => ?_
        · rw [((s1.wiped sub).owned w).1] at q4; cases q4
        · obtain ⟨j, S', m, o, w1, _⟩ := w
          obtain ⟨w2, w3⟩ := wip_some w1
          have e1 := s1.sone j k S' S w3 q3
          subst e1
          apply w2
          rw [← hws, q2]
          exact List.mem_append_right _ (List.mem_singleton.mpr rfl)
      obtain ⟨q1, j, es, q2, q3, q4⟩ := hhs p hp
      refine tc.keep _ _ q1 (fun w => ?_) ((s1.wiped sub).notS q1 (fun p z => nomatch z) fun n z => by rw [(s1.owned ⟨j, es, q3, q4⟩).1] at z; cases z)
      obtain ⟨k, fs, k1, k2, k3⟩ := w.wiped sub
      have e := s1.uniq k j _ _ _ k2 k3 q3 q4
      subst e
      apply k1
      rw [← hws, q2]
      exact List.mem_append_right _ (List.mem_singleton.mpr rfl)
    · rintro i x Hc H' hi ⟨Gc, rc, accV, accD, sc, tc, hDc, hra, gD, nD, la, hl⟩ y
      have mD : ¬ OwnS Gc Hc rc D := sc.notS hDc (fun p z => nomatch z) fun n z => by rw [gD] at z; cases z
      obtain ⟨d, Gy, ed, sy, ty, py⟩ := y.go sc tc.ex
      have hdrop : ds.drop i = d :: ds.drop (i + 1) := by
        obtain ⟨hlt, e⟩ := List.getElem?_eq_some_iff.mp ed
        rw [List.drop_eq_getElem_cons hlt, e]
      rw [hdrop] at hl
      unfold lcLoop at hl
      cases hset : setT tup tg d rc with
      | none => rw [hset] at hl; cases hl
      | some r1' =>
        rw [hset] at hl
        dsimp only at hl
        refine gT_go sy py hset fun σ2 s2 t2 e2 => ⟨e2.trans wipe_wipe, Gy, r1', s2, ?_⟩
        have e3 : wipe σ2 tg = wipe σ tg := e2.trans wipe_wipe
        cases hcc : evT F cc r1' with
        | bad => rw [hcc] at hl; cases hl
        | exc k r' => rw [hcc] at hl; cases hl
        | ok k r2' =>
          rw [hcc] at hl
          intro G3 H3 s3 t3
          have tall := ty.trans (t2.trans t3)
          cases k with
          | false =>
            have hl : lcLoop tup tg ws (evT F cc) (ev F ce) (ds.drop (i + 1)) (wip r2' tg) accD = .ok acc r2 := hl
            refine iteF ⟨G3, wip r2' tg, accV, accD, ?_, ?_, tall.keep D _ hDc nD mD, hra.mono tall.ex, ?_, ?_, Nat.le_succ_of_le la, hl⟩
            · rw [← e3]; exact s3.wiped fun i hi => hi
            · have t4 := tc.trans tall
              refine ⟨t4.ex, t4.keep, t4.dom, t4.tups, t4.new, fun a w => t4.own a ?_, fun a w => t4.ows a w.wiped1, t4.tgs, fun ⟨k, S, w⟩ => t4.hst ⟨k, S, (wip_some w).2⟩⟩
              rw [← e3] at w
              exact w.wiped1 fun i hi => hi
            · cases q : G3 D with
              | none => rfl
              | some o =>
                rcases tall.new D (by rw [q]; simp) with z | z | z | ⟨xs, z⟩
                · exact absurd gD z
                · exact absurd z nD
                · rw [hDc] at z; cases z
                · rw [tall.keep D _ hDc nD mD] at z; cases z
            · intro w
              rw [← e3] at w
              rcases tall.own D (w.wiped1 fun i hi => hi) with z | z
              · exact nD z
              · rw [hDc] at z; cases z
          | true =>
            dsimp only at hl
            refine iteT ⟨G3, r2', s3, ?_⟩
            cases hev : ev F ce r2' with
            | bad => rw [hev] at hl; cases hl
            | exc k r' => rw [hev] at hl; cases hl
            | ok val r3 =>
              rw [hev] at hl
              have hl : lcLoop tup tg ws (evT F cc) (ev F ce) (ds.drop (i + 1)) (wip r3 tg) (accD ++ [val.toD]) = .ok acc r2 := hl
              intro G4 H4 s4 t4 v hv
              obtain ⟨G5, s5, t5, e5, p5⟩ := frzV s4 t4 hv
              have tt := tall.trans t5
              have hD4 : H4 D = some (.lst accV) := tt.keep D _ hDc nD mD
              have gD5 : G5 D = none := by
                cases q : G5 D with
                | none => rfl
                | some o =>
                  rcases tt.new D (by rw [q]; simp) with z | z | z | ⟨xs, z⟩
                  · exact absurd gD z
                  · exact absurd z nD
                  · rw [hDc] at z; cases z
                  · rw [hD4] at z; cases z
              have nD5 : ¬ Own (wipe σ tg) (wip r3 tg) D := fun w => by
                rw [← e3] at w
                rcases tt.own D (w.wiped1 fun i hi => hi) with z | z
                · exact nD z
                · rw [hDc] at z; cases z
              have zz : accV.length < sizeLine := by omega
              have s6 : SR K G5 H4 (wipe σ tg) (wip r3 tg) := by rw [← e3]; exact s5.wiped fun i hi => hi
              refine ⟨accV, hD4, zz, G5, wip r3 tg, accV ++ [v], accD ++ [val.toD], s6.updD gD5 hD4 nD5 (by rw [List.length_append]; exact zz), ?_, upd_same, (hra.mono tt.ex).append (.cons p5 .nil), gD5, nD5, by rw [List.length_append]; exact Nat.succ_le_succ la, hl⟩
              have t6 := tc.trans tt
              refine Stp.updD ⟨t6.ex, t6.keep, t6.dom, t6.tups, t6.new, fun a w => t6.own a ?_, fun a w => t6.ows a w.wiped1, t6.tgs, fun ⟨k, S, w⟩ => t6.hst ⟨k, S, (wip_some w).2⟩⟩ hD hD4 gD5
              rw [← e3] at w
              exact w.wiped1 fun i hi => hi
    · rintro Hc ⟨Gc, rc, accV, accD, sc, tc, hDc, hra, gD, nD, la, hl⟩
      rw [List.drop_length] at hl
      have e : Out.ok accD rc = Out.ok acc r2 := hl
      cases e
      obtain ⟨s3, t3⟩ := s1.restored sub sc tc
      refine h1 Gc Hc s3 (t1.trans t3) _ ⟨D, accV, rfl, gD, hDc, hra, fun w => ?_, t1.back (.inr hD)⟩
      obtain ⟨j, es, q1, q2⟩ := w
      rw [rst_get] at q1
      split at q1
      · rename_i c
        have q3 := getS_some (Option.some.inj q1)
        obtain ⟨_, us, z⟩ := s1.owned ⟨j, es, q3, q2⟩
        rw [hD] at z; cases z
      · rename_i c
        have hj : j ∉ ws := fun m => c ⟨m, (List.getElem?_eq_some_iff.mp q1).1⟩
        exact nD ⟨j, es, q1, by rw [wipe_of fun m => hj (sub j m)]; exact q2⟩
end
section
variable {X : Cx} {F : Fs} {W : Nat → L2.St → Hp → Prop} {pos : Pos} {tgE iter elt : Expr} {ifs : List Expr} {ci cc ce : CE} {tup : Bool} {tg : List Nat} {scope : Scope} {own : List (Str × Nat)}
theorem pts_none {X : Cx} : PTs X [] (tT X.K F W (.tval (.cst (.bool true)))) := by
  refine ⟨fun pins s σ H Q I ⟨G, r, sr, h⟩ => pts_nil.run pins s σ H Q I ?_⟩
  rw [evT] at h
  have e : mkO (.cst (.bool true)) r (ev F (.cst (.bool true)) r) = .ok (.dat (.bool true)) r := by
    unfold mkO; rw [ev]; rfl
  rw [e] at h
  exact h G H sr Stp.refl
theorem s_lcJ (hc : X.calm = true) (hN : X.N.Nodup) (hi : PI X tgE iter (tJ X.K F W ci)) (ok : BlkOk X.N X.env.scope scope own) (ho : own.map (·.2) = tg)
    (hg : ∀ (s : Shared) (H : Hp) (C : Addr) (cl : List (Str × Addr)) (fp : List Addr), PG (X.blk s H scope (compEnvC scope cl C X.env) fp) tgE (gT X.K tup tg))
    (ht : ∀ (s : Shared) (H : Hp) (C : Addr) (cl : List (Str × Addr)) (fp : List Addr), PTs (X.blk s H scope (compEnvC scope cl C X.env) fp) ifs (tT X.K F W0 cc))
    (he : ∀ (s : Shared) (H : Hp) (C : Addr) (cl : List (Str × Addr)) (fp : List Addr), PE (X.blk s H scope (compEnvC scope cl C X.env) fp) elt (tV X.K F W0 ce)) (hs : ∀ x, foldedSetIterable iter X.env x = pure x) :
    PE X (.ListComp elt [⟨tgE, iter, ifs, 0⟩] scope pos) (tV X.K F W (.lc tup tg ci cc ce)) := by
  subst ho
  exact PE.imp (pe_lc hc hN hi ok hg ht he hs) fun σ H Q h => lc_read h
theorem s_lc (hc : X.calm = true) (hN : X.N.Nodup) (hi : PI X tgE iter (tI X.K F W ci)) (ok : BlkOk X.N X.env.scope scope own) (ho : own.map (·.2) = tg)
    (hg : ∀ (s : Shared) (H : Hp) (C : Addr) (cl : List (Str × Addr)) (fp : List Addr), PG (X.blk s H scope (compEnvC scope cl C X.env) fp) tgE (gT X.K tup tg))
    (ht : ∀ (s : Shared) (H : Hp) (C : Addr) (cl : List (Str × Addr)) (fp : List Addr), PTs (X.blk s H scope (compEnvC scope cl C X.env) fp) ifs (tT X.K F W0 cc))
    (he : ∀ (s : Shared) (H : Hp) (C : Addr) (cl : List (Str × Addr)) (fp : List Addr), PE (X.blk s H scope (compEnvC scope cl C X.env) fp) elt (tV X.K F W0 ce)) (hs : ∀ x, foldedSetIterable iter X.env x = pure x) :
    PE X (.ListComp elt [⟨tgE, iter, ifs, 0⟩] scope pos) (tV X.K F W (.lc tup tg ci cc ce)) :=
  s_lcJ hc hN (PI.toJ hi) ok ho hg ht he hs
end
end SC

set_option Elab.async false
set_option maxRecDepth 100000
set_option maxHeartbeats 1000000
namespace SC
open PySem L2

/-- what is wanted behind a statement -/
def Ge (K : PySem.W.Frag) (W : Nat → L2.St → Hp → Prop) (D : Ends) (σ : L2.St) (r : EV) (G H : Hp) (x : Out Flow) : Prop := match x with
  | .ok .nx r' => ∀ σ' G' H', SR K G' H' σ' r' → Stp σ r G H σ' r' G' H' → D.nx σ' H'
  | .ok .bk r' => ∀ σ' G' H', SR K G' H' σ' r' → Stp σ r G H σ' r' G' H' → D.bk σ' H'
  | .ok .ct r' => ∀ σ' G' H', SR K G' H' σ' r' → Stp σ r G H σ' r' G' H' → D.ct σ' H'
  | .ok (.rt val) r' => ∀ v σ' G' H', SR K G' H' σ' r' → Stp σ r G H σ' r' G' H' → VT K σ r H G' H' σ' r' v val → D.rt v H'
  | .exc c r' => ∀ σ' G' H', SR K G' H' σ' r' → Stp σ r G H σ' r' G' H' → W c σ' H'
  | .bad => False
def tS (K : PySem.W.Frag) (F : Fs) (W : Nat → L2.St → Hp → Prop) (cs : CS) : TS := fun D σ H => ∃ G r, SR K G H σ r ∧ Ge K W D σ r G H (exec F cs r)
section
variable {K : PySem.W.Frag} {G G1 G2 G' H H1 H2 H' : Hp} {σ σ1 σ2 σ' : L2.St} {r r1 r2 r' : EV} {W : Nat → L2.St → Hp → Prop} {D : Ends} {α : Type}
theorem Ge.rebase {x : Out Flow} (h : Ge K W D σ r G H x) (t : Stp σ r G H σ1 r1 G1 H1) : Ge K W D σ1 r1 G1 H1 x := by
  cases x with
  | ok f r' =>
    cases f with
    | nx => exact fun σ' G' H' s t' => h σ' G' H' s (t.trans t')
    | bk => exact fun σ' G' H' s t' => h σ' G' H' s (t.trans t')
    | ct => exact fun σ' G' H' s t' => h σ' G' H' s (t.trans t')
    | rt val => exact fun v σ' G' H' s t' hv => h v σ' G' H' s (t.trans t') (hv.base t)
  | exc c r' => exact fun σ' G' H' s t' => h σ' G' H' s (t.trans t')
  | bad => exact h
theorem Ge.bnd {x : Out α} {f : α → EV → Out Flow} (h : Ge K W D σ r G H (x.bnd f)) : Gd K W σ r G H x fun a r1 _ _ => Ge K W D σ r G H (f a r1) := by
  cases x with
  | ok a r1 => exact fun _ _ _ _ => h
  | exc c r1 => exact fun G' H' s t => h σ G' H' s t
  | bad => exact h
end
section
variable {X : Cx} {F : Fs} {W : Nat → L2.St → Hp → Prop} {pos p : Pos} {a b c e : Expr} {ca cb cc ce ci : CE} {cs ct : CS} {st : Stmt} {sts : List Stmt}
theorem x_bad {st : Stmt} : PS X st (tS X.K F W .bad) := ⟨fun _ _ _ _ _ _ ⟨_, _, _, h⟩ => h.elim⟩
theorem x_bads {st : List Stmt} : PSs X st (tS X.K F W .bad) := ⟨fun _ _ _ _ _ _ ⟨_, _, _, h⟩ => h.elim⟩
theorem x_nil : PSs X [] (tS X.K F W .nil) := PSs.imp pss_nil fun D σ H ⟨G, r, s, h⟩ => h σ G H s Stp.refl
theorem x_cons (h1 : PS X st (tS X.K F W cs)) (h2 : PSs X sts (tS X.K F W ct)) : PSs X (st :: sts) (tS X.K F W (.seq cs ct)) := by
  refine PSs.imp (pss_cons h1 h2) fun D σ H ⟨G, r, s, h⟩ => ⟨G, r, s, ?_⟩
  rw [exec] at h
  cases q : exec F cs r with
  | ok f r1 =>
    rw [q] at h
    cases f with
    | nx => exact fun σ' G' H' s' t' => ⟨G', r1, s', Ge.rebase h t'⟩
    | bk => exact h
    | ct => exact h
    | rt val => exact h
  | exc c r1 => rw [q] at h; exact h
  | bad => rw [q] at h; exact h
theorem x_pass : PS X (.Pass pos) (tS X.K F W .pass) := PS.imp ps_pass fun D σ H ⟨G, r, s, h⟩ => h σ G H s Stp.refl
theorem x_brk : PS X (.Break pos) (tS X.K F W .brk) := PS.imp ps_break fun D σ H ⟨G, r, s, h⟩ => h σ G H s Stp.refl
theorem x_cont : PS X (.Continue pos) (tS X.K F W .cont) := PS.imp ps_continue fun D σ H ⟨G, r, s, h⟩ => h σ G H s Stp.refl
theorem x_retN : PS X (.Return none pos) (tS X.K F W .retN) := PS.imp ps_retN fun D σ H ⟨G, r, s, h⟩ => by
  rw [exec] at h; exact h _ σ G H s Stp.refl Rp.non
theorem x_expr (hs : swapsWith e none pos.line X.env = pure false) (he : PE X e (tV X.K F W ce)) : PS X (.Expr e pos) (tS X.K F W (.expr ce)) := by
  refine PS.imp (ps_expr he hs) fun D σ H ⟨G, r, s, h⟩ => ⟨G, r, s, ?_⟩
  rw [exec] at h
  exact h.bnd.imp fun val r1 G1 H1 s1 t1 h1 v hv => h1 σ G1 H1 s1 t1
theorem x_ret (hc : ∀ i, ce ≠ .var i) (he : PE X e (tV X.K F W ce)) : PS X (.Return (some e) pos) (tS X.K F W (.ret ce)) := by
  refine PS.imp (ps_ret he) fun D σ H ⟨G, r, s, h⟩ => ⟨G, r, s, ?_⟩
  rw [exec] at h
  have e2 : retV F ce r = (ev F ce r).bnd fun v r1 => .ok (.rt v) r1 := by
    unfold retV
    split
    · exact absurd rfl (hc _)
    · rfl
  rw [e2] at h
  exact h.bnd.imp fun val r1 G1 H1 s1 t1 h1 v hv => h1 v σ G1 H1 s1 t1 hv
theorem x_retV {i : Nat} {x : Str} {px : Pos} (hN : X.N[i]? = some x) (hv : Vis X.env.scope x) (hd : (x == ("__debug__" : Str)) = false) (hcd : (x == ("__classdict__" : Str)) = false) : PS X (.Return (some (.Name x px)) pos) (tS X.K F W (.ret (.var i))) := by
  refine PS.imp (ps_ret (pe_var hN hv hd hcd)) fun D σ H ⟨G, r, s, h⟩ => ?_
  rw [exec] at h
  unfold retV at h
  dsimp only at h
  split at h
  · exact h.elim
  · rename_i val hns eg
    have q := getS_some eg
    obtain ⟨v, h1, h2⟩ := s.slot i val q (fun S z => hns S (by rw [z]))
    obtain ⟨s1, t1⟩ := forget (i := i) s
    refine ⟨v, h1, h v σ G H s1 t1 ?_⟩
    cases val with
    | sto S => exact h2
    | fz d => exact h2
    | ol ds =>
      obtain ⟨a, vs, rfl, h3, h4, h5⟩ := h2
      refine ⟨a, vs, rfl, h3, h4, h5, fun w => ?_, .inl ⟨i, ds, q, h1⟩⟩
      obtain ⟨j, es, w1, w2⟩ := w
      have hi : i < r.length := (List.getElem?_eq_some_iff.mp q).1
      by_cases e : j = i
      · subst e; rw [List.getElem?_set_self hi] at w1; cases w1
      · rw [List.getElem?_set_ne (Ne.symm e)] at w1
        exact e (s.uniq j i a _ _ w1 w2 q h1)
  · exact h.elim
theorem x_ite {p1 p2 : List Stmt} (hc : PT X c (tT X.K F W cc)) (ha : PSs X p1 (tS X.K F W cs)) (hb : PSs X p2 (tS X.K F W ct)) : PS X (.If c p1 p2 pos) (tS X.K F W (.ite cc cs ct)) := by
  refine PS.imp (ps_if hc ha hb) fun D σ H ⟨G, r, s, h⟩ => ⟨G, r, s, ?_⟩
  rw [exec] at h
  refine h.bnd.imp fun k r1 G1 H1 s1 t1 h1 => ?_
  cases k with
  | true => exact iteT ⟨G1, r1, s1, Ge.rebase h1 t1⟩
  | false => exact iteF ⟨G1, r1, s1, Ge.rebase h1 t1⟩
theorem set_read {i : Nat} {K : PySem.W.Frag} {D : Ends} {σ : L2.St} {H : Hp} (h : tS K F W (.set i ce) D σ H) : tAsg (tV K F W ce) (gName i) D σ H := by
  obtain ⟨G, r, s, h⟩ := h
  refine ⟨G, r, s, ?_⟩
  rw [exec] at h
  refine h.bnd.imp fun val r1 G1 H1 s1 t1 h1 v hv => ?_
  obtain ⟨s2, t2⟩ := setSlot (i := i) s1 t1 hv
  exact h1 _ G1 H1 s2 t2
theorem x_set {i : Nat} {x : Str} {px : Pos} (hN : X.N.Nodup) (hi : X.N[i]? = some x) (hx : Loc X.env.scope x) (hf : X.fn x = true ∨ X.env.scope.names.lookup x = some .local) (hs : swapsWith e (some (.Name x px)) pos.line X.env = pure false) (he : PE X e (tV X.K F W ce)) :
    PS X (.Assign [.Name x px] e pos) (tS X.K F W (.set i ce)) := PS.imp (ps_set hN hi hx he hs hf) fun D σ H h => set_read h
theorem x_setLc {i : Nat} {y : Str} {py spos : Pos} {tgE iter elt : Expr} {ifs : List Expr} {tup : Bool} {tg : List Nat} {scope : Scope} {own : List (Str × Nat)} (hc : X.calm = true) (hN : X.N.Nodup) (hy : X.N[i]? = some y) (hyl : X.env.scope.names.lookup y = some .local)
    (hsw : swapsWith (.ListComp elt [⟨tgE, iter, ifs, 0⟩] scope pos) (some (.Name y py)) spos.line X.env = pure true) (hi : PI X tgE iter (tJ X.K F W ci)) (ok : BlkOk X.N X.env.scope scope own) (ho : own.map (·.2) = tg)
    (hg : ∀ (s : Shared) (H : Hp) (C : Addr) (cl : List (Str × Addr)) (fp : List Addr), PG (X.blk s H scope (compEnvC scope cl C X.env) fp) tgE (gT X.K tup tg))
    (ht : ∀ (s : Shared) (H : Hp) (C : Addr) (cl : List (Str × Addr)) (fp : List Addr), PTs (X.blk s H scope (compEnvC scope cl C X.env) fp) ifs (tT X.K F W0 cc))
    (he : ∀ (s : Shared) (H : Hp) (C : Addr) (cl : List (Str × Addr)) (fp : List Addr), PE (X.blk s H scope (compEnvC scope cl C X.env) fp) elt (tV X.K F W0 ce)) (hs : ∀ x, foldedSetIterable iter X.env x = pure x) :
    PS X (.Assign [.Name y py] (.ListComp elt [⟨tgE, iter, ifs, 0⟩] scope pos) spos) (tS X.K F W (.set i (.lc tup tg ci cc ce))) := by
  subst ho
  refine PS.imp (ps_setLc hc hN hy hyl hsw hi ok hg ht he hs) fun D σ H h => ?_
  have h := set_read h
  exact lc_read h
theorem x_unp {is : List Nat} {tgE : Expr} (hg : PG X tgE (gT X.K true is)) (hs : swapsWithSole [tgE] e pos.line X.env = pure false) (hw : swappedStores [tgE] e X.env = pure none) (h1 : (assignEach [tgE] X.env).map (·.2) = [assign tgE X.env]) (he : PE X e (tV X.K F W ce)) :
    PS X (.Assign [tgE] e pos) (tS X.K F W (.unp is ce)) := by
  refine PS.imp (ps_asg he hg hs hw h1) fun D σ H ⟨G, r, s, h⟩ => ⟨G, r, s, ?_⟩
  rw [exec] at h
  refine h.bnd.imp fun val r1 G1 H1 s1 t1 h1 v hv => ?_
  obtain ⟨G2, s2, t2, e2, p2⟩ := frzV s1 t1 hv
  split at h1
  · rename_i r3 e3
    exact gT_go s2 p2 e3 fun σ2 s3 t3 _ => h1 σ2 G2 H1 s3 (t2.trans t3)
  · exact h1.elim
theorem x_par {i j : Nat} {x y : Str} {px py pt : Pos} {kt k2 pt2} (hc : X.calm = true) (hN : X.N.Nodup) (hi : X.N[i]? = some x) (hj : X.N[j]? = some y) (hij : i ≠ j) (hx : X.env.scope.names.lookup x = some .local) (hy : X.env.scope.names.lookup y = some .local)
    (hs1 : PySem.W.isStarred a = false) (hs2 : PySem.W.isStarred b = false)
    (hw : swappedStores [.Tuple [.Name x px, .Name y py] kt pt] (.Tuple [a, b] k2 pt2) X.env = pure (some [x, y])) (ha : PE X a (tV X.K F W ca)) (hb : PE X b (tV X.K F W cb)) :
    PS X (.Assign [.Tuple [.Name x px, .Name y py] kt pt] (.Tuple [a, b] k2 pt2) pos) (tS X.K F W (.par i j ca cb)) := by
  refine PS.imp (ps_par hc hN hi hj hij hx hy (s_cons (F := F) (W := W) hs1 ha (s_cons hs2 hb s_nil)) hw) fun D σ H ⟨G, r, s, h⟩ => ⟨G, r, s, ?_⟩
  rw [exec] at h
  have e2 : evs F (.cons ca (.cons cb .nil)) r = (ev F ca r).bnd fun v r1 => (ev F cb r1).bnd fun v' r2 => .ok [v.toD, v'.toD] r2 := by
    rw [evs]
    cases ev F ca r with
    | ok v r1 =>
      rw [bnd_ok, bnd_ok, evs]
      cases ev F cb r1 with
      | ok v' r2 => rw [bnd_ok, bnd_ok, evs]; rfl
      | exc c r1 => rfl
      | bad => rfl
    | exc c r1 => rfl
    | bad => rfl
  rw [e2]
  cases q1 : ev F ca r with
  | bad => rw [q1] at h; exact h.elim
  | exc c r1 => rw [q1] at h; exact fun G' H' s t => h σ G' H' s t
  | ok v r1 =>
    rw [q1, bnd_ok] at h
    rw [bnd_ok]
    cases q2 : ev F cb r1 with
    | bad => rw [q2] at h; exact h.elim
    | exc c r1 => rw [q2] at h; exact fun G' H' s t => h σ G' H' s t
    | ok v' r2 =>
      rw [q2, bnd_ok] at h
      rw [bnd_ok]
      intro G1 H1 s1 t1 vs hvs
      cases hvs with
      | cons h1 h2 =>
        cases h2 with
        | cons h3 h4 =>
          cases h4
          obtain ⟨s2, t2⟩ := setFz (i := i) s1 h1
          obtain ⟨s3, t3⟩ := setFz (i := j) s2 h3
          exact ⟨_, _, rfl, h _ G1 H1 s3 (t1.trans (t2.trans t3))⟩
end
end SC

set_option Elab.async false
set_option maxRecDepth 100000
set_option maxHeartbeats 1000000
namespace SC
open PySem L2

section
variable {X : Cx} {F : Fs} {W : Nat → L2.St → Hp → Prop} {C : Nat → Addr} {pos p : Pos} {a b c e tgE iter : Expr} {ca cb cc ce ci : CE} {cs ct : CS} {st : Stmt} {sts : List Stmt} {tup : Bool} {tg : List Nat}
/-- the list that a for walks is not changed any more -/
theorem frzI_go {K : PySem.W.Frag} {G H : Hp} {σ : L2.St} {r : EV} {J : It} {hs : Option (Addr × List V)} {ds : List PyData} (s : SR K G H σ r) (wk : Walk J ds.length (StI G hs) (YI K G ds)) (hh : HS σ r ci H hs) :
    ∃ G', SR K G' H σ (frzI ci r) ∧ Stp σ r G H σ (frzI ci r) G' H ∧ Walk J ds.length (StI G' none) (YI K G' ds) := by
  have up : ∀ {G' : Hp}, Same G G' → (∀ H, StI G' none H → StI G hs H) → Walk J ds.length (StI G' none) (YI K G' ds) := fun {G'} e f => wk.mono f fun i H x H' hi _ y => by
    obtain ⟨d, e1, y⟩ := y
    refine ⟨d, e1, ?_⟩
    rcases y with ⟨y1, y2⟩ | ⟨T, vs, es, y1, y2, y3, y4, y5, y6⟩
    · exact .inl ⟨y1, Rp.mono e y2⟩
    · exact .inr ⟨T, vs, es, y1, y2, y3, y4.mono e, y5, y6⟩
  unfold frzI
  split
  · rename_i i
    split
    · rename_i es eg
      have q := getS_some eg
      obtain ⟨a, G', h1, s', t', h2⟩ := frzS s q
      refine ⟨G', s', t', up t'.ex fun H h => ⟨fun a o q w => h.1 a o (t'.ex a o q) w, fun p hp => ?_⟩⟩
      obtain ⟨q1, j, fs, q2, q3, q4⟩ := hh p hp
      cases q2
      rw [h1] at q4
      cases q4
      have q5 := s'.ex
      cases h2 with
      | lst g1 g2 =>
        have e1 := s'.ex _ _ g1 rfl
        rw [q1] at e1
        cases e1
        exact h.1 _ _ g1 rfl
    · rename_i hn
      cases hs with
      | none => exact ⟨G, s, Stp.refl, wk⟩
      | some p =>
        obtain ⟨q1, j, fs, q2, q3, q4⟩ := hh p rfl
        cases q2
        exact absurd (getS_of q3) (hn fs)
  · rename_i hn
    cases hs with
    | none => exact ⟨G, s, Stp.refl, wk⟩
    | some p =>
      obtain ⟨q1, j, fs, q2, q3, q4⟩ := hh p rfl
      exact absurd q2 (hn j)
theorem x_for {body : List Stmt} (hp : PassesOwn (model X.prog X.w) X.A X.env X.xe) (hc : X.calm = true) (hi : PI X tgE iter (tI X.K F W ci)) (hg : PG X tgE (gT X.K tup tg)) (hb : PSs X body (tS X.K F W cs)) (hs : ∀ x, foldedSetIterable iter X.env x = pure x) :
    PS X (.For tgE iter body [] pos) (tS X.K F W (.forS tup tg ci cs)) := by
  refine PS.imp (ps_for hp hc hi hg hb hs) fun D σ H ⟨G, r, s, h⟩ => ⟨G, r, s, ?_⟩
  rw [exec] at h
  refine h.bnd.imp fun ds r1 G1 H1 s1 t1 h1 J hs wk hhs zl => ?_
  obtain ⟨G2, s2, t2, wk2⟩ := frzI_go s1 wk hhs
  have t12 := t1.trans t2
  refine for_it wk2 (fun i σc Hc => ∃ Gc rc, SR X.K Gc Hc σc rc ∧ Stp σ r G H σc rc Gc Hc ∧ Same G2 Gc ∧ Ge X.K W D σ r G H (forLoop tup tg (exec F cs) (ds.drop i) rc)) ?_ ?_ ?_ ?_
  · exact ⟨G2, _, s2, t12, Same.refl _, h1⟩
  · rintro i σc Hc hi ⟨Gc, rc, sc, tc, ec, hl⟩
    exact ⟨fun a o q w => sc.ex a o (ec a o q) w, fun p hp => nomatch hp⟩
  · rintro i x σc Hc H' hi ⟨Gc, rc, sc, tc, ec, hl⟩ y
    obtain ⟨d, Gy, ed, sy, ty, py⟩ := y.go sc ec
    have hdrop : ds.drop i = d :: ds.drop (i + 1) := by
      obtain ⟨hlt, e⟩ := List.getElem?_eq_some_iff.mp ed
      rw [List.drop_eq_getElem_cons hlt, e]
    rw [hdrop] at hl
    unfold forLoop at hl
    cases hset : setT tup tg d rc with
    | none => rw [hset] at hl; exact hl.elim
    | some r1' =>
      rw [hset] at hl
      dsimp only at hl
      refine gT_go sy py hset fun σ2 s3 t3 e2 => ⟨Gy, r1', s3, ?_⟩
      have tb := tc.trans (ty.trans t3)
      cases hx : exec F cs r1' with
      | bad => rw [hx] at hl; exact hl.elim
      | exc k r' => rw [hx] at hl; exact fun σ' G' H' s' t' => hl σ' G' H' s' (tb.trans t')
      | ok f r' =>
        rw [hx] at hl
        cases f with
        | nx => exact fun σ' G' H' s' t' => ⟨G', r', s', tb.trans t', ec.trans (ty.ex.trans (t3.ex.trans t'.ex)), hl⟩
        | ct => exact fun σ' G' H' s' t' => ⟨G', r', s', tb.trans t', ec.trans (ty.ex.trans (t3.ex.trans t'.ex)), hl⟩
        | bk => exact fun σ' G' H' s' t' => hl σ' G' H' s' (tb.trans t')
        | rt val => exact fun v σ' G' H' s' t' hv => hl v σ' G' H' s' (tb.trans t') (hv.base tb)
  · rintro σc Hc ⟨Gc, rc, sc, tc, ec, hl⟩
    rw [List.drop_length] at hl
    exact hl σc Gc Hc sc tc
theorem x_whl {body : List Stmt} (hp : PassesOwn (model X.prog X.w) X.A X.env X.xe) (hc : PT X c (tT X.K F W cc)) (hb : PSs X body (tS X.K F W cs)) : PS X (.While c body [] pos) (tS X.K F W (.whl cc cs)) := by
  refine PS.imp (ps_while hp hc hb) fun D σ H ⟨G, r, s, h⟩ => ?_
  rw [exec] at h
  refine ⟨fun m σc Hc => ∃ Gc rc, SR X.K Gc Hc σc rc ∧ Stp σ r G H σc rc Gc Hc ∧ Ge X.K W D σ r G H (whlLoop (evT F cc) (exec F cs) m rc), ⟨1000, G, r, s, Stp.refl, h⟩, ?_⟩
  rintro m σc Hc ⟨Gc, rc, sc, tc, hl⟩
  cases m with
  | zero => exact hl.elim
  | succ m =>
    unfold whlLoop at hl
    refine ⟨Gc, rc, sc, ?_⟩
    cases hcc : evT F cc rc with
    | bad => rw [hcc] at hl; exact hl.elim
    | exc k r' => rw [hcc] at hl; exact fun G' H' s' t' => hl σc G' H' s' (tc.trans t')
    | ok k r1 =>
      rw [hcc] at hl
      intro G1 H1 s1 t1
      cases k with
      | false => exact iteF (hl σc G1 H1 s1 (tc.trans t1))
      | true =>
        dsimp only at hl
        have tb := tc.trans t1
        refine iteT ⟨fun σ' H' => ∃ G' r', SR X.K G' H' σ' r' ∧ Stp σ r G H σ' r' G' H' ∧ Ge X.K W D σ r G H (whlLoop (evT F cc) (exec F cs) m r'), fun σ' H' q => ⟨m, Nat.lt_succ_self m, q⟩, G1, r1, s1, ?_⟩
        cases hx : exec F cs r1 with
        | bad => rw [hx] at hl; exact hl.elim
        | exc k r' => rw [hx] at hl; exact fun σ' G' H' s' t' => hl σ' G' H' s' (tb.trans t')
        | ok f r' =>
          rw [hx] at hl
          cases f with
          | nx => exact fun σ' G' H' s' t' => ⟨G', r', s', tb.trans t', hl⟩
          | ct => exact fun σ' G' H' s' t' => ⟨G', r', s', tb.trans t', hl⟩
          | bk => exact fun σ' G' H' s' t' => hl σ' G' H' s' (tb.trans t')
          | rt val => exact fun v σ' G' H' s' t' hv => hl v σ' G' H' s' (tb.trans t') (hv.base tb)
/-- x[k] = v, x a slot's own list -/
theorem x_put {i : Nat} {x : Str} {px p2 : Pos} {kE vE : Expr} {ck cv : CE} (hN : X.N[i]? = some x) (hv : Vis X.env.scope x) (hd : (x == ("__debug__" : Str)) = false) (hcd : (x == ("__classdict__" : Str)) = false)
    (ha : ∀ v, assign (.Subscript (.Name x px) kE p2) X.env v = (do
      let ov ← holding [v] (eval (.Name x px) X.env)
      let iv ← holding [v, ov] (eval kE X.env)
      standAt p2
      holding [v, ov, iv] (setItem ov iv v)
      release [v, ov, iv] []))
    (hs : swapsWithSole [.Subscript (.Name x px) kE p2] vE pos.line X.env = pure false) (hw : swappedStores [.Subscript (.Name x px) kE p2] vE X.env = pure none) (h1 : (assignEach [.Subscript (.Name x px) kE p2] X.env).map (·.2) = [assign (.Subscript (.Name x px) kE p2) X.env])
    (hk : PE X kE (tV X.K F W ck)) (hvv : PE X vE (tV X.K F W cv)) : PS X (.Assign [.Subscript (.Name x px) kE p2] vE pos) (tS X.K F W (.put i ck cv)) := by
  refine PS.imp (ps_asg hvv (pg_sub (pe_var hN hv hd hcd) hk set_list ha) hs hw h1) fun D σ H ⟨G, r, s, h⟩ => ⟨G, r, s, ?_⟩
  rw [exec] at h
  refine h.bnd.imp fun val r1 G1 H1 s1 t1 h1 v hv => ?_
  obtain ⟨G2, s2, t2, e2, p2⟩ := frzV s1 t1 hv
  have h2 := Ge.rebase h1 t2
  by_cases c : isOl r1 i = true
  · rw [c] at h2
    simp only [Bool.not_true, Bool.false_eq_true, if_false] at h2
    obtain ⟨a, h3, h4⟩ := tyV_own s2 c
    refine ⟨_, h3, G2, r1, s2, h2.bnd.imp fun y r3 G3 H3 s3 t3 h5 w hw => ?_⟩
    obtain ⟨G4, s4, t4, e4, p4⟩ := frzV s3 t3 hw
    split at h5
    · rename_i ds n eg ek
      split at h5
      · rename_i j ej
        obtain ⟨v', q1, b, ws, rfl, q2, q3, q4⟩ := s4.slot i _ (getS_some eg) ns_ol
        rw [h3] at q1
        cases q1
        rw [ek] at p4
        cases p4
        rw [← q4.length] at ej
        obtain ⟨s5, t5⟩ := wrLst (es := ds.set j val.toD) (vs := ws.set j v) s4 (getS_some eg) h3 (q4.set (p2.mono t4.ex) j) (by rw [List.length_set]; exact szL s4 q3)
        exact ⟨a, ws, n, j, rfl, rfl, q3, ej, h5 σ G4 _ s5 (t4.trans t5)⟩
      · exact h5.elim
    · exact h5.elim
  · rw [Bool.not_eq_true] at c
    rw [c] at h2
    exact h2.elim
theorem x_raise {k : Nat} {x m : Str} {j : Nat} {p2 p3 : Pos} {bmB : List Value} {B newId initId : String} (hc : X.calm = true) (tk : Takes X (wx C W)) (Fb : ExcBaseFacts B newId initId bmB) (q : PySem.W.excIn X.K (C k) bmB newId = true) (gC : X.mg x = some (.ref (C k)))
    (kC : PySem.W.keepIn X.K (.ref (C k)) = true) (r1 : PySem.W.subIn X.K (.ref (C k)) (.type "BaseException") = some true) (r2 : PySem.W.typeIn X.K (.ref (C k)) = some (.type "type")) (hg : Gl X x) (hd : (x == ("__debug__" : Str)) = false) :
    PS X (.Raise (some (.Call (.Name x p) [.Constant (.str m) j p2] [] p3)) none pos) (tS X.K F W (.raise k)) := by
  refine PS.imp (ps_raise hc tk (pmk_own Fb q gC kC (raises_own r1 r2) hg hd)) fun D σ H ⟨G, r, s, h⟩ => ?_
  rw [exec] at h
  exact ⟨k, rfl, rfl, h σ G H s Stp.refl⟩
end
end SC

set_option Elab.async false
set_option maxRecDepth 100000
set_option maxHeartbeats 1000000
namespace SC
open PySem L2
def okE (i : Nat) : CE → Bool
  | .var j => j != i
  | .cst _ => true
  | .isx j o _ => j == i && o.isNone
  | .nil => true
  | .bad => true
  | .cons e es => okE i e && okE i es
  | .tup es => okE i es
  | .bin _ a b => okE i a && okE i b
  | .and a b => okE i a && okE i b
  | .or a b => okE i a && okE i b
  | .not a => okE i a
  | .ite c a b => okE i c && okE i a && okE i b
  | .tand a b => okE i a && okE i b
  | .tor a b => okE i a && okE i b
  | .tnot a => okE i a
  | .tval a => okE i a
  | _ => false
/-- the same for one exception -/
def adr (a : Nat) : CE → CE
  | .isx i _ b => .isx i (some a) b
  | .cons e es => .cons (adr a e) (adr a es)
  | .tup es => .tup (adr a es)
  | .bin op x y => .bin op (adr a x) (adr a y)
  | .and x y => .and (adr a x) (adr a y)
  | .or x y => .or (adr a x) (adr a y)
  | .not x => .not (adr a x)
  | .ite c x y => .ite (adr a c) (adr a x) (adr a y)
  | .tand x y => .tand (adr a x) (adr a y)
  | .tor x y => .tor (adr a x) (adr a y)
  | .tnot x => .tnot (adr a x)
  | .tval x => .tval (adr a x)
  | e => e
def adrS (a : Nat) : CS → CS
  | .seq x y => .seq (adrS a x) (adrS a y)
  | .set j e => .set j (adr a e)
  | .ret e => .ret (adr a e)
  | .expr e => .expr (adr a e)
  | .ite c x y => .ite (adr a c) (adrS a x) (adrS a y)
  | s => s
def okS (i : Nat) : CS → Bool
  | .nil => true
  | .pass => true
  | .bad => true
  | .retN => true
  | .seq a b => okS i a && okS i b
  | .set j e => j != i && okE i e
  | .ret e => okE i e
  | .expr e => okE i e
  | .ite c a b => okE i c && okS i a && okS i b
  | _ => false
def swO {α : Type} (i a : Nat) : Out α → Out α
  | .ok x r => .ok x (r.set i (some (.fz (mkX a))))
  | .exc c r => .exc c (r.set i (some (.fz (mkX a))))
  | .bad => .bad
def Mk (i : Nat) (r : EV) : Prop := ∃ b, getS r i = some (.fz (mkX b))
/-- the outcome keeps the marker -/
def MkO {α : Type} (i : Nat) : Out α → Prop
  | .ok _ r => Mk i r
  | .exc _ r => Mk i r
  | .bad => True
section
variable {i a : Nat} {F : Fs} {r : EV} {α β : Type}
theorem getS_ne {j : Nat} {x : Option Val} (h : j ≠ i) : getS (r.set i x) j = getS r j := by
  unfold getS
  rw [List.getElem?_set_ne (fun e => h e.symm)]
theorem getS_eq {x : Option Val} (h : i < r.length) : getS (r.set i x) i = x := by
  unfold getS
  rw [List.getElem?_set_self h]
  cases x <;> rfl
theorem Mk.lt (h : Mk i r) : i < r.length := by
  obtain ⟨b, h⟩ := h
  unfold getS at h
  cases q : r[i]? with
  | none => rw [q] at h; cases h
  | some x => exact (List.getElem?_eq_some_iff.mp q).1
theorem Mk.set {j : Nat} {x : Option Val} (h : Mk i r) (hj : j ≠ i) : Mk i (r.set j x) := by
  obtain ⟨b, h⟩ := h
  exact ⟨b, by rw [getS_ne (fun e => hj e.symm)]; exact h⟩
theorem Mk.sw (h : Mk i r) : Mk i (r.set i (some (.fz (mkX a)))) := ⟨a, getS_eq h.lt⟩
theorem sw_bnd {x : Out α} {f : α → EV → Out β} {g : α → EV → Out β} (hx : MkO i x) (h : ∀ v r1, Mk i r1 → x = .ok v r1 → g v (r1.set i (some (.fz (mkX a)))) = swO i a (f v r1)) : (swO i a x).bnd g = swO i a (x.bnd f) := by
  cases x with
  | ok v r1 => exact h v r1 hx rfl
  | exc c r1 => rfl
  | bad => rfl
theorem mko_bnd {x : Out α} {f : α → EV → Out β} (hx : MkO i x) (h : ∀ v r1, Mk i r1 → x = .ok v r1 → MkO i (f v r1)) : MkO i (x.bnd f) := by
  cases x with
  | ok v r1 => exact h v r1 hx rfl
  | exc c r1 => exact hx
  | bad => trivial
theorem sw_of (o : Option α) : Out.of o (r.set i (some (.fz (mkX a)))) = swO i a (Out.of o r) := by cases o <;> rfl
theorem mko_of (o : Option α) (h : Mk i r) : MkO i (Out.of o r) := by cases o <;> first | trivial | exact h
/-- what is shown of an expression -/
structure Ni (i a : Nat) (F : Fs) (e : CE) : Prop where
  ev : ∀ r, Mk i r → SC.ev F (adr a e) (r.set i (some (.fz (mkX a)))) = swO i a (SC.ev F e r) ∧ MkO i (SC.ev F e r)
  evs : ∀ r, Mk i r → SC.evs F (adr a e) (r.set i (some (.fz (mkX a)))) = swO i a (SC.evs F e r) ∧ MkO i (SC.evs F e r)
  evT : ∀ r, Mk i r → SC.evT F (adr a e) (r.set i (some (.fz (mkX a)))) = swO i a (SC.evT F e r) ∧ MkO i (SC.evT F e r)
/-- an operand -/
theorem ni_mkO {e : CE} (ok : okE i e = true) (n : Ni i a F e) (r : EV) (h : Mk i r) : mkO (adr a e) (r.set i (some (.fz (mkX a)))) (SC.ev F (adr a e) (r.set i (some (.fz (mkX a))))) = swO i a (mkO e r (SC.ev F e r)) ∧ MkO i (mkO e r (SC.ev F e r)) ∧ ∀ o r1, mkO e r (SC.ev F e r) = .ok o r1 → ∀ r2, opd (r2.set i (some (.fz (mkX a)))) o = opd r2 o := by
  obtain ⟨h1, h2⟩ := n.ev r h
  by_cases q : ∃ j, e = .var j
  · obtain ⟨j, rfl⟩ := q
    have hj : j ≠ i := by simpa [okE] using ok
    show (if ((getS (r.set i _) j).bind valD).isSome then Out.ok (Opd.slot j) (r.set i _) else .bad) = swO i a (if ((getS r j).bind valD).isSome then Out.ok (Opd.slot j) r else .bad) ∧ MkO i (if ((getS r j).bind valD).isSome then Out.ok (Opd.slot j) r else .bad) ∧ ∀ o r1, (if ((getS r j).bind valD).isSome then Out.ok (Opd.slot j) r else .bad) = .ok o r1 → ∀ r2, opd (r2.set i (some (.fz (mkX a)))) o = opd r2 o
    rw [getS_ne hj]
    split
    · refine ⟨rfl, h, fun o r1 e r2 => ?_⟩
      cases e
      show (getS (r2.set i _) j).bind _ = (getS r2 j).bind _
      rw [getS_ne hj]
    · exact ⟨rfl, trivial, fun o r1 e => nomatch e⟩
  · have em : ∀ (s : EV) (x : Out Val), mkO e s x = x.bnd fun v r' => .ok (.dat v.toD) r' := fun s x => by
      unfold mkO
      split
      · exact absurd ⟨_, rfl⟩ q
      · cases ok
      · cases ok
      · rfl
    have em2 : ∀ (s : EV) (x : Out Val), mkO (adr a e) s x = x.bnd fun v r' => .ok (.dat v.toD) r' := fun s x => by
      cases e <;> first | rfl | exact absurd ⟨_, rfl⟩ q | cases ok
    rw [em, em2, h1]
    refine ⟨sw_bnd h2 fun v r1 _ _ => rfl, mko_bnd h2 fun v r1 m _ => m, fun o r1 eq r2 => ?_⟩
    cases z : SC.ev F e r with
    | ok v r3 => rw [z] at eq; cases eq; rfl
    | exc c r3 => rw [z] at eq; cases eq
    | bad => rw [z] at eq; cases eq
theorem evs_other {e : CE} (h : ∀ r, evs F e r = .bad ∧ evs F (adr a e) r = .bad) (h2 : ∀ r, evT F e r = .bad ∧ evT F (adr a e) r = .bad) (h3 : ∀ r, Mk i r → SC.ev F (adr a e) (r.set i (some (.fz (mkX a)))) = swO i a (SC.ev F e r) ∧ MkO i (SC.ev F e r)) : Ni i a F e :=
  ⟨h3, fun r _ => by rw [(h _).1, (h _).2]; exact ⟨rfl, trivial⟩, fun r _ => by rw [(h2 _).1, (h2 _).2]; exact ⟨rfl, trivial⟩⟩
theorem ni_all : ∀ e : CE, okE i e = true → Ni i a F e
  | .var j, ok => evs_other (fun _ => ⟨rfl, rfl⟩) (fun _ => ⟨rfl, rfl⟩) fun r h => by
    have hj : j ≠ i := by simpa [okE] using ok
    simp only [adr]
    rw [ev, ev]
    unfold varV
    rw [getS_ne hj]
    split
    · exact ⟨rfl, h⟩
    · refine ⟨?_, h.set hj⟩
      show Out.ok _ ((r.set i _).set j _) = Out.ok _ ((r.set j _).set i _)
      rw [List.set_comm _ _ (fun e => hj e.symm)]
    · exact ⟨rfl, trivial⟩
    · exact ⟨rfl, trivial⟩
  | .cst d, _ => evs_other (fun _ => ⟨rfl, rfl⟩) (fun _ => ⟨rfl, rfl⟩) fun r h => by simp only [adr]; rw [ev, ev]; exact ⟨rfl, h⟩
  | .isx j o b, ok => evs_other (fun _ => ⟨rfl, rfl⟩) (fun _ => ⟨rfl, rfl⟩) fun r h => by
    have hj := Bool.and_eq_true_iff.mp (show (j == i && o.isNone) = true from ok)
    have hj1 : j = i := by simpa using hj.1
    have hj2 : o = none := by simpa using hj.2
    subst hj1 hj2
    obtain ⟨c, hc⟩ := h
    simp only [adr]
    rw [ev, ev, getS_eq (Mk.lt ⟨c, hc⟩), hc]
    dsimp only
    rw [if_pos (show mkOk (some a) (mkX a) = true by simp [mkOk, mkX]), if_pos (show mkOk none (mkX c) = true from rfl)]
    exact ⟨rfl, c, hc⟩
  | .bad, _ => evs_other (fun _ => ⟨rfl, rfl⟩) (fun _ => ⟨rfl, rfl⟩) fun r h => ⟨rfl, trivial⟩
  | .nil, _ => ⟨fun r h => ⟨rfl, trivial⟩, fun r h => by simp only [adr]; rw [evs, evs]; exact ⟨rfl, h⟩, fun r h => ⟨rfl, trivial⟩⟩
  | .cons e es, ok => by
    have ok' := Bool.and_eq_true_iff.mp (show (okE i e && okE i es) = true from ok)
    have n1 := ni_all e ok'.1
    have n2 := ni_all es ok'.2
    refine ⟨fun r h => ⟨rfl, trivial⟩, fun r h => ?_, fun r h => ⟨rfl, trivial⟩⟩
    simp only [adr]
    rw [evs, evs, (n1.ev r h).1]
    refine ⟨sw_bnd (n1.ev r h).2 fun v r1 m _ => ?_, mko_bnd (n1.ev r h).2 fun v r1 m _ => mko_bnd (n2.evs r1 m).2 fun _ _ m2 _ => m2⟩
    rw [(n2.evs r1 m).1]
    exact sw_bnd (n2.evs r1 m).2 fun _ _ _ _ => rfl
  | .tup es, ok => evs_other (fun _ => ⟨rfl, rfl⟩) (fun _ => ⟨rfl, rfl⟩) fun r h => by
    have n := ni_all es ok
    simp only [adr]
    rw [ev, ev, (n.evs r h).1]
    exact ⟨sw_bnd (n.evs r h).2 fun _ _ _ _ => rfl, mko_bnd (n.evs r h).2 fun _ _ m _ => m⟩
  | .bin op x y, ok => evs_other (fun _ => ⟨rfl, rfl⟩) (fun _ => ⟨rfl, rfl⟩) fun r h => by
    have ok' := Bool.and_eq_true_iff.mp (show (okE i x && okE i y) = true from ok)
    have n1 := ni_all x ok'.1
    have n2 := ni_all y ok'.2
    obtain ⟨p1, p2, p3⟩ := ni_mkO ok'.1 n1 r h
    simp only [adr]
    rw [ev, ev]
    unfold op2
    rw [p1]
    refine ⟨sw_bnd p2 fun o r1 m eo => ?_, mko_bnd p2 fun o r1 m eo => ?_⟩
    · obtain ⟨q1, q2, q3⟩ := ni_mkO ok'.2 n2 r1 m
      rw [q1]
      refine sw_bnd q2 fun o2 r2 m2 eo2 => ?_
      rw [p3 o r1 eo r2, q3 o2 r2 eo2 r2, sw_of, sw_of]
      refine sw_bnd (mko_of _ m2) fun d _ _ _ => ?_
      refine sw_bnd (mko_of _ m2) fun d' _ _ _ => sw_of _
    · obtain ⟨q1, q2, q3⟩ := ni_mkO ok'.2 n2 r1 m
      exact mko_bnd q2 fun o2 r2 m2 eo2 => mko_bnd (mko_of _ m2) fun d _ _ _ => mko_bnd (mko_of _ m2) fun d' _ _ _ => mko_of _ m2
  | .and x y, ok => evs_other (fun _ => ⟨rfl, rfl⟩) (fun _ => ⟨rfl, rfl⟩) fun r h => by
    have ok' := Bool.and_eq_true_iff.mp (show (okE i x && okE i y) = true from ok)
    have n1 := ni_all x ok'.1
    have n2 := ni_all y ok'.2
    simp only [adr]
    rw [ev, ev, (n1.ev r h).1]
    refine ⟨sw_bnd (n1.ev r h).2 fun v r1 m _ => ?_, mko_bnd (n1.ev r h).2 fun v r1 m _ => mko_bnd (mko_of _ m) fun k _ _ _ => ?_⟩
    · rw [sw_of]
      refine sw_bnd (mko_of _ m) fun k _ _ _ => ?_
      cases k with
      | true => exact (n2.ev r1 m).1
      | false => rfl
    · cases k with
      | true => exact (n2.ev r1 m).2
      | false => exact m
  | .or x y, ok => evs_other (fun _ => ⟨rfl, rfl⟩) (fun _ => ⟨rfl, rfl⟩) fun r h => by
    have ok' := Bool.and_eq_true_iff.mp (show (okE i x && okE i y) = true from ok)
    have n1 := ni_all x ok'.1
    have n2 := ni_all y ok'.2
    simp only [adr]
    rw [ev, ev, (n1.ev r h).1]
    refine ⟨sw_bnd (n1.ev r h).2 fun v r1 m _ => ?_, mko_bnd (n1.ev r h).2 fun v r1 m _ => mko_bnd (mko_of _ m) fun k _ _ _ => ?_⟩
    · rw [sw_of]
      refine sw_bnd (mko_of _ m) fun k _ _ _ => ?_
      cases k with
      | true => rfl
      | false => exact (n2.ev r1 m).1
    · cases k with
      | true => exact m
      | false => exact (n2.ev r1 m).2
  | .not x, ok => evs_other (fun _ => ⟨rfl, rfl⟩) (fun _ => ⟨rfl, rfl⟩) fun r h => by
    have n1 := ni_all x ok
    obtain ⟨p1, p2, p3⟩ := ni_mkO (e := x) ok n1 r h
    simp only [adr]
    rw [ev, ev]
    unfold op1
    rw [p1]
    refine ⟨sw_bnd p2 fun o r1 m eo => ?_, mko_bnd p2 fun o r1 m eo => mko_bnd (mko_of _ m) fun d r2 m2 _ => mko_of _ m2⟩
    rw [p3 o r1 eo r1, sw_of]
    exact sw_bnd (mko_of _ m) fun d _ _ _ => sw_of _
  | .ite c x y, ok => evs_other (fun _ => ⟨rfl, rfl⟩) (fun _ => ⟨rfl, rfl⟩) fun r h => by
    have ok1 := Bool.and_eq_true_iff.mp (show (okE i c && okE i x && okE i y) = true from ok)
    have ok2 := Bool.and_eq_true_iff.mp ok1.1
    have n0 := ni_all c ok2.1
    have n1 := ni_all x ok2.2
    have n2 := ni_all y ok1.2
    simp only [adr]
    rw [ev, ev, (n0.evT r h).1]
    refine ⟨sw_bnd (n0.evT r h).2 fun k r1 m _ => ?_, mko_bnd (n0.evT r h).2 fun k r1 m _ => ?_⟩
    · cases k with
      | true => exact (n1.ev r1 m).1
      | false => exact (n2.ev r1 m).1
    · cases k with
      | true => exact (n1.ev r1 m).2
      | false => exact (n2.ev r1 m).2
  | .tand x y, ok => by
    have ok' := Bool.and_eq_true_iff.mp (show (okE i x && okE i y) = true from ok)
    have n1 := ni_all x ok'.1
    have n2 := ni_all y ok'.2
    refine ⟨fun r h => ⟨rfl, trivial⟩, fun r h => ⟨rfl, trivial⟩, fun r h => ?_⟩
    simp only [adr]
    rw [evT, evT, (n1.evT r h).1]
    refine ⟨sw_bnd (n1.evT r h).2 fun k r1 m _ => ?_, mko_bnd (n1.evT r h).2 fun k r1 m _ => ?_⟩
    · cases k with
      | true => exact (n2.evT r1 m).1
      | false => rfl
    · cases k with
      | true => exact (n2.evT r1 m).2
      | false => exact m
  | .tor x y, ok => by
    have ok' := Bool.and_eq_true_iff.mp (show (okE i x && okE i y) = true from ok)
    have n1 := ni_all x ok'.1
    have n2 := ni_all y ok'.2
    refine ⟨fun r h => ⟨rfl, trivial⟩, fun r h => ⟨rfl, trivial⟩, fun r h => ?_⟩
    simp only [adr]
    rw [evT, evT, (n1.evT r h).1]
    refine ⟨sw_bnd (n1.evT r h).2 fun k r1 m _ => ?_, mko_bnd (n1.evT r h).2 fun k r1 m _ => ?_⟩
    · cases k with
      | true => rfl
      | false => exact (n2.evT r1 m).1
    · cases k with
      | true => exact m
      | false => exact (n2.evT r1 m).2
  | .tnot x, ok => by
    have n1 := ni_all x ok
    refine ⟨fun r h => ⟨rfl, trivial⟩, fun r h => ⟨rfl, trivial⟩, fun r h => ?_⟩
    simp only [adr]
    rw [evT, evT, (n1.evT r h).1]
    exact ⟨sw_bnd (n1.evT r h).2 fun _ _ _ _ => rfl, mko_bnd (n1.evT r h).2 fun _ _ m _ => m⟩
  | .tval x, ok => by
    have n1 := ni_all x ok
    refine ⟨fun r h => ⟨rfl, trivial⟩, fun r h => ⟨rfl, trivial⟩, fun r h => ?_⟩
    obtain ⟨p1, p2, p3⟩ := ni_mkO (e := x) ok n1 r h
    simp only [adr]
    rw [evT, evT, p1]
    refine ⟨sw_bnd p2 fun o r1 m eo => ?_, mko_bnd p2 fun o r1 m eo => mko_bnd (mko_of _ m) fun d _ _ _ => mko_of _ m⟩
    rw [p3 o r1 eo r1, sw_of]
    exact sw_bnd (mko_of _ m) fun d _ _ _ => sw_of _
theorem ni_S : ∀ s : CS, okS i s = true → ∀ r, Mk i r → exec F (adrS a s) (r.set i (some (.fz (mkX a)))) = swO i a (exec F s r) ∧ MkO i (exec F s r)
  | .nil, _, r, h => by simp only [adrS]; rw [exec, exec]; exact ⟨rfl, h⟩
  | .pass, _, r, h => by simp only [adrS]; rw [exec, exec]; exact ⟨rfl, h⟩
  | .bad, _, r, h => by simp only [adrS]; rw [exec, exec]; exact ⟨rfl, trivial⟩
  | .retN, _, r, h => by simp only [adrS]; rw [exec, exec]; exact ⟨rfl, h⟩
  | .seq x y, ok, r, h => by
    have ok' := Bool.and_eq_true_iff.mp (show (okS i x && okS i y) = true from ok)
    obtain ⟨h1, h2⟩ := ni_S x ok'.1 r h
    simp only [adrS]
    rw [exec, exec, h1]
    cases q : exec F x r with
    | ok f r1 =>
      rw [q] at h2
      cases f with
      | nx => exact ni_S y ok'.2 r1 h2
      | bk => exact ⟨rfl, h2⟩
      | ct => exact ⟨rfl, h2⟩
      | rt v => exact ⟨rfl, h2⟩
    | exc c r1 => rw [q] at h2; exact ⟨rfl, h2⟩
    | bad => exact ⟨rfl, trivial⟩
  | .set j e, ok, r, h => by
    have ok' := Bool.and_eq_true_iff.mp (show (j != i && okE i e) = true from ok)
    have hj : j ≠ i := by simpa using ok'.1
    have n := ni_all (a := a) (F := F) e ok'.2
    simp only [adrS]
    rw [exec, exec, (n.ev r h).1]
    refine ⟨sw_bnd (n.ev r h).2 fun v r1 m _ => ?_, mko_bnd (n.ev r h).2 fun v r1 m _ => m.set hj⟩
    show Out.ok _ ((r1.set i _).set j _) = Out.ok _ ((r1.set j _).set i _)
    rw [List.set_comm _ _ (fun e => hj e.symm)]
  | .expr e, ok, r, h => by
    have n := ni_all (a := a) (F := F) e ok
    simp only [adrS]
    rw [exec, exec, (n.ev r h).1]
    exact ⟨sw_bnd (n.ev r h).2 fun _ _ _ _ => rfl, mko_bnd (n.ev r h).2 fun _ _ m _ => m⟩
  | .ret e, ok, r, h => by
    have n := ni_all (a := a) (F := F) e ok
    simp only [adrS]
    rw [exec, exec]
    by_cases q : ∃ j, e = .var j
    · obtain ⟨j, rfl⟩ := q
      have hj : j ≠ i := by simpa [okS, okE] using ok
      simp only [adr]
      unfold retV
      dsimp only
      rw [getS_ne hj]
      cases z : getS r j with
      | none => exact ⟨rfl, trivial⟩
      | some v =>
        cases v with
        | sto S => exact ⟨rfl, trivial⟩
        | _ =>
          refine ⟨?_, h.set hj⟩
          show Out.ok _ ((r.set i _).set j _) = Out.ok _ ((r.set j _).set i _)
          rw [List.set_comm _ _ (fun e => hj e.symm)]
    · have em : ∀ s : EV, retV F e s = (ev F e s).bnd fun v r1 => .ok (.rt v) r1 := fun s => by
        unfold retV
        split
        · exact absurd ⟨_, rfl⟩ q
        · rfl
      have em2 : ∀ s : EV, retV F (adr a e) s = (ev F (adr a e) s).bnd fun v r1 => .ok (.rt v) r1 := fun s => by
        cases e <;> first | rfl | exact absurd ⟨_, rfl⟩ q | cases ok
      rw [em, em2, (n.ev r h).1]
      exact ⟨sw_bnd (n.ev r h).2 fun _ _ _ _ => rfl, mko_bnd (n.ev r h).2 fun _ _ m _ => m⟩
  | .ite c x y, ok, r, h => by
    have ok1 := Bool.and_eq_true_iff.mp (show (okE i c && okS i x && okS i y) = true from ok)
    have ok2 := Bool.and_eq_true_iff.mp ok1.1
    have n0 := ni_all (a := a) (F := F) c ok2.1
    simp only [adrS]
    rw [exec, exec, (n0.evT r h).1]
    refine ⟨sw_bnd (n0.evT r h).2 fun k r1 m _ => ?_, mko_bnd (n0.evT r h).2 fun k r1 m _ => ?_⟩
    · cases k with
      | true => exact (ni_S x ok2.2 r1 m).1
      | false => exact (ni_S y ok1.2 r1 m).1
    · cases k with
      | true => exact (ni_S x ok2.2 r1 m).2
      | false => exact (ni_S y ok1.2 r1 m).2
end
section
variable {K : PySem.W.Frag} {G H : Hp} {σ : L2.St} {r : EV}
/-- a slot gone -/
theorem gone {i : Nat} (s : SR K G H σ r) : SR K G H (σ.set i none) (r.set i none) ∧ Stp σ r G H (σ.set i none) (r.set i none) G H ∧ ∀ p, Own (σ.set i none) (r.set i none) p → Own σ r p := by
  have f : ∀ {m : Nat} {w : Val}, (r.set i none)[m]? = some (some w) → m ≠ i ∧ r[m]? = some (some w) := fun {m w} q => by
    by_cases e : m = i
    · subst e
      by_cases hi : m < r.length
      · rw [List.getElem?_set_self hi] at q; cases q
      · rw [List.getElem?_eq_none (by simpa using hi)] at q; cases q
    · rw [List.getElem?_set_ne (Ne.symm e)] at q; exact ⟨e, q⟩
  have g : ∀ {m : Nat}, m ≠ i → (σ.set i none)[m]? = σ[m]? := fun h => List.getElem?_set_ne (Ne.symm h)
  have ow : ∀ p, Own (σ.set i none) (r.set i none) p → Own σ r p := fun p ⟨j, fs, h1, h2⟩ => ⟨j, fs, (f h1).2, by rw [g (f h1).1] at h2; exact h2⟩
  refine ⟨⟨s.ex, by rw [List.length_set, List.length_set]; exact s.len, fun j w q hw => ?_, fun j k b fs gs h1 h2 h3 h4 => ?_, s.sz, fun j S q => s.sto j S (f q).2, s.tgd, fun a b S S' q1 q2 => s.sone a b S S' (f q1).2 (f q2).2⟩, ⟨Same.refl _, fun _ _ q _ _ => q, fun _ q => q, fun _ _ q => q, fun _ q => .inl q, fun b q => .inl (ow b q), fun b q => .inl (q.of (fun _ _ z => (f z).2) fun _ _ _ _ z => z), fun _ _ q => .inl q, fun ⟨j, S, q⟩ => ⟨j, S, (f q).2⟩⟩, ow⟩
  · rw [g (f q).1]
    exact s.slot j w (f q).2 hw
  · rw [g (f h1).1] at h2
    rw [g (f h3).1] at h4
    exact s.uniq j k b fs gs (f h1).2 h2 (f h3).2 h4
end
section
variable {X : Cx} {F : Fs} {W : Nat → L2.St → Hp → Prop} {C : Nat → Addr} {x n : Str} {c : Value} {i : Nat} {body suite : List Stmt} {b₀ : Stmt} {np pos pos' : Pos} {cb s0 s1 s2 s3 s4 : CS}
def sOf (s0 s1 s2 s3 s4 : CS) : Nat → CS
  | 0 => s0
  | 1 => s1
  | 2 => s2
  | 3 => s3
  | 4 => s4
  | _ => .bad
theorem exec_try {F : Fs} {cb s0 s1 s2 s3 s4 : CS} {o : Option Nat} {r r1 : EV} {k : Nat} (h : exec F cb r = .exc k r1) : exec F (.tryE cb o s0 s1 s2 s3 s4) r = noX o r1 (exec F (sOf s0 s1 s2 s3 s4 k) (hold o r1)) := by
  rw [exec, h]
  match k with
  | 0 => rfl
  | 1 => rfl
  | 2 => rfl
  | 3 => rfl
  | 4 => rfl
  | k + 5 =>
    show Out.bad = noX o r1 (exec F .bad _)
    rw [exec]
    rfl
theorem exec_tryN {F : Fs} {cb s0 s1 s2 s3 s4 : CS} {o : Option Nat} {r : EV} (h : ∀ k r1, exec F cb r ≠ .exc k r1) : exec F (.tryE cb o s0 s1 s2 s3 s4) r = exec F cb r := by
  rw [exec]
  cases q : exec F cb r with
  | ok f r1 => rfl
  | bad => rfl
  | exc k r1 => exact absurd q (h k r1)
theorem x_tryAs (hs : X.stack = X.env :: X.outer) (hf : X.env.frame = some X.env.locals) (hN : X.N.Nodup) (hi : X.N[i]? = some n) (hln : X.env.kindOf n = some .local) (hc : Names X x c) (tk : Takes X (wx C W))
    (hb : ∀ (W' : Nat → L2.St → Hp → Prop) (pn : List (Addr × Obj)) (xe : Value → Shared → Prop), Takes (X.tr pn xe) (wx C W') → PassesOwn (model X.prog X.w) X.A X.env xe → PSs (X.tr pn xe) body (tS X.K F W' cb))
    (hsu : ∀ (k : Nat) (a : Addr) (oe : Obj) (pn : List (Addr × Obj)), Zc (.ref (C k)) none oe → (∃ vs, oe.data = .fields vs) → PSs (X.suite a ((a, oe) :: pn)) (b₀ :: suite) (tS X.K F (fun _ _ _ => False) (adrS a (sOf s0 s1 s2 s3 s4 k))))
    (hex : ∀ k, sOf s0 s1 s2 s3 s4 k = .bad ∨ PySem.W.exmOne X.K (.ref (C k)) c = some true) (hok : ∀ k, okS i (sOf s0 s1 s2 s3 s4 k) = true) :
    PS X (.Try body [.ExceptHandler (some (.Name x np)) (some n) (b₀ :: suite) pos'] [] [] pos) (tS X.K F W (.tryE cb (some i) s0 s1 s2 s3 s4)) := by
  refine PS.imp (ps_try_as (tb := fun W' => tS X.K F (fun k σ H => W' (.ref (C k)) none σ H) cb) (ts := fun a cls d => fun D σ H => ∃ k, cls = .ref (C k) ∧ d = none ∧ tS X.K F (fun _ _ _ => False) (adrS a (sOf s0 s1 s2 s3 s4 k)) D σ H) hs hf hN hi hln hc tk
    (fun W' pn xe t p => hb _ pn xe (t.imp fun cls d σ H ⟨k, e1, e2, e3⟩ => by rw [e1, e2]; exact e3) p)
    (fun a oe cls d pn hz hd => ⟨fun pins s σ H D I ⟨k, e1, e2, h⟩ => by subst e1 e2; exact (hsu k a oe pn hz hd).run pins s σ H D I h⟩)) fun D σ H ⟨G, r, s, h⟩ => ⟨G, r, s, ?_⟩
  cases q : exec F cb r with
  | ok f r1 =>
    rw [exec_tryN (fun k r2 z => by rw [q] at z; cases z), q] at h
    cases f <;> exact h
  | bad =>
    rw [exec_tryN (fun k r2 z => by rw [q] at z; cases z), q] at h
    exact h
  | exc k r1 =>
    rw [exec_try q] at h
    intro σ' G' H' s' t'
    rcases hex k with e | e
    · rw [e] at h
      rw [exec] at h
      exact h.elim
    refine ⟨true, e, fun _ a ha => ⟨k, rfl, rfl, ?_⟩, fun z => nomatch z⟩
    obtain ⟨s2', t2⟩ := setFz (i := i) s' (Rp.exc a)
    refine ⟨G', _, s2', ?_⟩
    have key : ∀ (f : Flow) (r2 r2' : EV), r2'.set i none = r2.set i none → Ge X.K W D σ r G H (.ok f (r2.set i none)) →
        Ge X.K (fun _ _ _ => False) { nx := fun σ' H' => D.nx (σ'.set i none) H', rt := D.rt, bk := fun σ' H' => D.bk (σ'.set i none) H', ct := fun σ' H' => D.ct (σ'.set i none) H' } (σ'.set i (some (.ref a))) (r1.set i (some (.fz (mkX a)))) G' H' (.ok f r2') := fun f r2 r2' cl h => by
      have go : ∀ {σ2 : L2.St} {G2 H2 : Hp}, SR X.K G2 H2 σ2 r2' → Stp (σ'.set i (some (.ref a))) (r1.set i (some (.fz (mkX a)))) G' H' σ2 r2' G2 H2 → SR X.K G2 H2 (σ2.set i none) (r2.set i none) ∧ Stp σ r G H (σ2.set i none) (r2.set i none) G2 H2 ∧ ∀ p, Own (σ2.set i none) (r2.set i none) p → Own σ2 r2' p := fun {σ2 G2 H2} s3 t3 => by
        obtain ⟨g1, g2, g3⟩ := gone (i := i) s3
        rw [cl] at g1 g2 g3
        exact ⟨g1, t'.trans (t2.trans (t3.trans g2)), g3⟩
      cases f with
      | nx => exact fun σ2 G2 H2 s3 t3 => h _ G2 H2 (go s3 t3).1 (go s3 t3).2.1
      | bk => exact fun σ2 G2 H2 s3 t3 => h _ G2 H2 (go s3 t3).1 (go s3 t3).2.1
      | ct => exact fun σ2 G2 H2 s3 t3 => h _ G2 H2 (go s3 t3).1 (go s3 t3).2.1
      | rt val =>
        intro v σ2 G2 H2 s3 t3 hv
        refine h v _ G2 H2 (go s3 t3).1 (go s3 t3).2.1 ?_
        have hv' := hv.base (t'.trans t2)
        cases val with
        | sto S => exact hv'
        | fz d => exact hv'
        | ol ds =>
          obtain ⟨p, vs, e1, e2, e3, e4, e5, e6⟩ := hv'
          exact ⟨p, vs, e1, e2, e3, e4, fun w => e5 ((go s3 t3).2.2 p w), e6⟩
    have h : Ge X.K W D σ r G H (noX (some i) r1 (exec F (sOf s0 s1 s2 s3 s4 k) (r1.set i (some (.fz (mkX 0)))))) := h
    by_cases hlt : i < r1.length
    · have mk0 : Mk i (r1.set i (some (.fz (mkX 0)))) := ⟨0, getS_eq hlt⟩
      obtain ⟨n1, n2⟩ := ni_S (a := a) (F := F) _ (hok k) _ mk0
      rw [List.set_set] at n1
      rw [n1]
      cases z : exec F (sOf s0 s1 s2 s3 s4 k) (r1.set i (some (.fz (mkX 0)))) with
      | exc c2 r2 => rw [z] at h; exact h.elim
      | bad => rw [z] at h; exact h.elim
      | ok f r2 =>
        rw [z] at h
        have g : noX (some i) r1 (.ok f r2) = .ok f (r2.set i none) := by
          show (if _ then _ else _) = _
          rw [if_pos (by simpa using hlt)]
          rfl
        rw [g] at h
        exact key f r2 _ (List.set_set ..) h
    · exfalso
      cases z : exec F (sOf s0 s1 s2 s3 s4 k) (r1.set i (some (.fz (mkX 0)))) with
      | exc c2 r2 => rw [z] at h; exact h
      | bad => rw [z] at h; exact h
      | ok f r2 =>
        rw [z] at h
        have g : noX (some i) r1 (.ok f r2) = .bad := by
          show (if _ then _ else _) = _
          rw [if_neg (by simpa using hlt)]
        rw [g] at h
        exact h
theorem x_tryOnly (hs : X.stack = X.env :: X.outer) (hf : X.env.frame = some X.env.locals) (hc : Names X x c) (tk : Takes X (wx C W))
    (hb : ∀ (W' : Nat → L2.St → Hp → Prop) (pn : List (Addr × Obj)) (xe : Value → Shared → Prop), Takes (X.tr pn xe) (wx C W') → PassesOwn (model X.prog X.w) X.A X.env xe → PSs (X.tr pn xe) body (tS X.K F W' cb))
    (hsu : ∀ (k : Nat) (a : Addr) (oe : Obj) (pn : List (Addr × Obj)), Zc (.ref (C k)) none oe → (∃ vs, oe.data = .fields vs) → PSs (X.suite a ((a, oe) :: pn)) (b₀ :: suite) (tS X.K F (fun _ _ _ => False) (sOf s0 s1 s2 s3 s4 k)))
    (hex : ∀ k, sOf s0 s1 s2 s3 s4 k = .bad ∨ PySem.W.exmOne X.K (.ref (C k)) c = some true) :
    PS X (.Try body [.ExceptHandler (some (.Name x np)) none (b₀ :: suite) pos'] [] [] pos) (tS X.K F W (.tryE cb none s0 s1 s2 s3 s4)) := by
  refine PS.imp (ps_try_only (tb := fun W' => tS X.K F (fun k σ H => W' (.ref (C k)) none σ H) cb) (ts := fun a cls d => fun D σ H => ∃ k, cls = .ref (C k) ∧ d = none ∧ tS X.K F (fun _ _ _ => False) (sOf s0 s1 s2 s3 s4 k) D σ H) hs hf hc tk
    (fun W' pn xe t p => hb _ pn xe (t.imp fun cls d σ H ⟨k, e1, e2, e3⟩ => by rw [e1, e2]; exact e3) p)
    (fun a oe cls d pn hz hd => ⟨fun pins s σ H D I ⟨k, e1, e2, h⟩ => by subst e1 e2; exact (hsu k a oe pn hz hd).run pins s σ H D I h⟩)) fun D σ H ⟨G, r, s, h⟩ => ⟨G, r, s, ?_⟩
  cases q : exec F cb r with
  | ok f r1 =>
    rw [exec_tryN (fun k r2 z => by rw [q] at z; cases z), q] at h
    cases f <;> exact h
  | bad =>
    rw [exec_tryN (fun k r2 z => by rw [q] at z; cases z), q] at h
    exact h
  | exc k r1 =>
    rw [exec_try q] at h
    intro σ' G' H' s' t'
    rcases hex k with e | e
    · rw [e] at h
      rw [exec] at h
      exact h.elim
    refine ⟨true, e, fun _ a ha => ⟨k, rfl, rfl, G', r1, s', ?_⟩, fun z => nomatch z⟩
    have h : Ge X.K W D σ r G H (noX none r1 (exec F (sOf s0 s1 s2 s3 s4 k) r1)) := h
    cases z : exec F (sOf s0 s1 s2 s3 s4 k) r1 with
    | exc c2 r2 => rw [z] at h; exact h.elim
    | bad => rw [z] at h; exact h.elim
    | ok f r2 =>
      rw [z] at h
      have h2 : Ge X.K W D σ' r1 G' H' (.ok f r2) := Ge.rebase h t'
      cases f <;> exact h2
end
end SC

set_option Elab.async false
set_option maxRecDepth 100000
set_option maxHeartbeats 1000000
/-! SE1: things of the store: found, written, made; calls of defs with store. -/
namespace SC
open PySem L2

section
variable {K : PySem.W.Frag}
open Classical in
/-- without the marks from the n-th on -/
noncomputable def cutG (n : Nat) (G : Hp) : Hp := fun a => if ∃ m, n ≤ m ∧ G a = some (tg m) then none else G a
theorem cutG_of {n : Nat} {G : Hp} {a : Addr} {o : HO} (h : cutG n G a = some o) : G a = some o := by
  unfold cutG at h
  split at h
  · cases h
  · exact h
theorem cutG_no {n : Nat} {G : Hp} {a : Addr} {o : HO} (h : G a = some o) (ht : isTg o = false) : cutG n G a = some o := by
  unfold cutG
  rw [if_neg]
  · exact h
  · rintro ⟨m, _, e⟩
    rw [h] at e
    cases e
    rw [tg_is] at ht
    cases ht
theorem cutG_lt {n m : Nat} {G : Hp} {a : Addr} (h : G a = some (tg m)) (hm : m < n) : cutG n G a = some (tg m) := by
  unfold cutG
  rw [if_neg]
  · exact h
  · rintro ⟨k, hk, e⟩
    rw [h] at e
    have := tg_inj (Option.some.inj e)
    omega
theorem cutG_tg {n m : Nat} {G : Hp} {a : Addr} (h : cutG n G a = some (tg m)) : m < n := by
  unfold cutG at h
  split at h
  · cases h
  · rename_i c
    by_cases q : m < n
    · exact q
    · exact absurd ⟨m, by omega, h⟩ c
mutual
theorem Rp.cut {n : Nat} {G : Hp} : ∀ {v : V} {d : PyData}, Rp K G v d → rfLt n d = true → Rp K (cutG n G) v d
  | _, _, .non, _ => .non
  | _, _, .bl b, _ => .bl b
  | _, _, .int i, _ => .int i
  | _, _, .str x, _ => .str x
  | _, _, .lst h r, c => .lst (cutG_no h rfl) (Rps.cut0 r c)
  | _, _, .tup h r, c => .tup (cutG_no h rfl) (Rps.cut0 r c)
  | _, _, .exc a, _ => .exc a
  | _, _, .scr h, _ => .scr (by
      rcases h with (h | ⟨o, h⟩) | h
      · exact .inl (.inl (cutG_no h rfl))
      · exact .inl (.inr ⟨o, cutG_no h rfl⟩)
      · exact .inr h)
  | _, _, .obj h, c => .obj (cutG_lt h (by
      have c : decide (((_ : Nat) : Int) < (n : Int)) = true := c
      have := of_decide_eq_true c
      omega))
theorem Rps.cut0 {n : Nat} {G : Hp} : ∀ {vs : List V} {ds : List PyData}, Rps K G vs ds → rfLts n ds = true → Rps K (cutG n G) vs ds
  | _, _, .nil, _ => .nil
  | _, _, .cons h r, c => by
    have c' := Bool.and_eq_true_iff.mp (show (rfLt n _ && rfLts n _) = true from c)
    exact .cons (Rp.cut h c'.1) (Rps.cut0 r c'.2)
end
theorem rfLts_all {n : Nat} : ∀ {ds : List PyData}, ds.all (rfLt n) = true → rfLts n ds = true
  | [], _ => rfl
  | d :: ds, h => by
    rw [List.all_cons, Bool.and_eq_true] at h
    show (rfLt n d && rfLts n ds) = true
    rw [h.1, rfLts_all h.2]
    rfl
theorem RKV.cut {κ : Type} {n : Nat} {G : Hp} : ∀ {vs : List (κ × V)} {ds : List (κ × PyData)}, RKV K G vs ds → ds.all (fun p => rfLt n p.2) = true → RKV K (cutG n G) vs ds
  | _, _, .nil, _ => .nil
  | _, _, .cons h r, c => by
    rw [List.all_cons, Bool.and_eq_true] at c
    exact .cons (Rp.cut h c.1) (RKV.cut r c.2)
theorem cutG_none {n : Nat} {G : Hp} {a : Addr} (h : G a = none) : cutG n G a = none := by
  cases q : cutG n G a with
  | none => rfl
  | some o => rw [cutG_of q] at h; cases h
theorem ObR.cut {n : Nat} {G H : Hp} {a : Addr} {o : Ob} (h : ObR K G H a o) (c : o.rfLt n = true) : ObR K (cutG n G) H a o := by
  cases o with
  | lst ds => obtain ⟨vs, h1, h2⟩ := h; exact ⟨vs, h1, h2.cut0 (rfLts_all c)⟩
  | ins k fs => obtain ⟨C, dx, vs, h1, h2, h3, h4, h5⟩ := h; exact ⟨C, dx, vs, h1, h2, h3, cutG_none h4, h5.cut c⟩
  | dK ds => obtain ⟨vs, h1, h2⟩ := h; exact ⟨vs, h1, h2.cut c⟩
  | dT ds => obtain ⟨vs, h1, h2⟩ := h; exact ⟨vs, h1, h2.cut c⟩
  | lkL ds => obtain ⟨vs, h1, h2⟩ := h; exact ⟨vs, h1, h2.cut0 (rfLts_all c)⟩
  | lkK ds => obtain ⟨o, vs, h1, h2⟩ := h; exact ⟨o, vs, h1, h2.cut c⟩
  | lkT ds => obtain ⟨o, vs, h1, h2⟩ := h; exact ⟨o, vs, h1, h2.cut c⟩
theorem cut_same {G H : Hp} (e : Sub G H) : Same (cutG 0 G) H := fun a o h => by
  cases q : isTg o with
  | false => exact e a o (cutG_of h) q
  | true =>
    obtain ⟨n, e⟩ := isTg_eq q
    subst e
    have := cutG_tg h
    omega
theorem Rp.toH0 {G H : Hp} (e : Sub G H) {v : V} {d : PyData} (h : Rp K G v d) (c : rfLt 0 d = true) : Rp K H v d := (h.cut c).mono (cut_same e)
end
section
variable {K : PySem.W.Frag} {G G1 G2 G' H H1 H2 H' : Hp} {σ σ1 σ2 σ' : L2.St} {r r1 r2 r' : EV}
theorem stoS_of {k : Nat} {S : List Ob} (h : r[k]? = some (some (.sto S))) : stoS r k = some S := by
  unfold stoS
  rw [getS_of h]
/-- the thing that is meant -/
theorem obN_go {k n : Nat} {d : PyData} {S : List Ob} {ob : Ob} {v : V} (s : SR K G H σ r) (e : obN r k d = some (n, S, ob)) (h : Rp K G v d) : ∃ a, v = .ref a ∧ d = refD n ∧ G a = some (tg n) ∧ r[k]? = some (some (.sto S)) ∧ S[n]? = some ob ∧ ObR K G H a ob := by
  unfold obN at e
  obtain ⟨m, e1, e2⟩ := Option.bind_eq_some_iff.mp e
  obtain ⟨S', e3, e4⟩ := Option.bind_eq_some_iff.mp e2
  obtain ⟨o, e5, e6⟩ := Option.map_eq_some_iff.mp e4
  cases e6
  have ed := refN_eq e1
  subst ed
  have hS := stoS_some e3
  generalize hd : refD n = d at h
  cases h with
  | obj h5 =>
    rename_i a m
    have em : m = n := by
      have := congrArg refN hd
      rw [refN_refD, refN_refD] at this
      exact (Option.some.inj this).symm
    subst em
    obtain ⟨o', q1, q2⟩ := (s.sto k _ hS).at h5
    rw [e5] at q1
    cases q1
    exact ⟨a, rfl, hd.symm, h5, hS, e5, q2⟩
  | _ => simp [refD, mkX] at hd
/-- a thing of the store is written -/
theorem SS.wr {k n : Nat} {S : List Ob} {ob ob' : Ob} {a : Addr} {o : HO} (s : SR K G H σ r) (hS : r[k]? = some (some (.sto S))) (hn : S[n]? = some ob) (hf : ob.free = true) (hg : G a = some (tg n)) (hz : Sz (upd H a o)) (ho : ObR K G (upd H a o) a ob')
    (hd : ∀ C c fs, o = .ins C c fs → ∃ C' fs', H a = some (.ins C' c fs')) : SS K G H S G (upd H a o) (S.set n ob') := by
  have st := s.sto k S hS
  obtain ⟨ob0, q1, q2⟩ := st.at hg
  rw [hn] at q1
  cases q1
  have sh := q2.sh
  have hlt : n < S.length := (List.getElem?_eq_some_iff.mp hn).1
  have ow : OwnT G H S a := ⟨n, ob, hn, hf, .inl hg⟩
  refine ⟨Same.refl _, fun b u h w => ?_, fun b h => dom_upd h, fun b xs h => ?_, fun b h => .inl h, fun b u h w => ?_, hz, ⟨fun m o2 h => ?_, fun b m h => by rw [List.length_set]; exact st.lt b m h, st.one⟩, fun b h => ?_⟩
  · rw [upd_ne]
    · exact h
    · intro e; subst e; exact w ow
  · rw [upd_ne]
    · exact h
    · intro e; subst e; exact sh.2.1 xs h
  · rw [upd_ne]
    · exact s.ex b u h w
    · intro e; subst e
      rw [hg] at h
      cases h
      rw [tg_is] at w
      cases w
  · by_cases e : m = n
    · subst e
      rw [List.getElem?_set_self hlt] at h
      cases h
      exact ⟨a, hg, ho⟩
    · rw [List.getElem?_set_ne (Ne.symm e)] at h
      obtain ⟨b, h1, h2⟩ := st.ob m o2 h
      have nb : b ≠ a := fun z => by
        subst z
        rw [hg] at h1
        exact e (tg_inj (Option.some.inj h1)).symm
      refine ⟨b, h1, h2.mono (Same.refl _) (fun c u q w => ?_) fun _ _ z => z⟩
      rw [upd_ne]
      · exact q
      · intro z; subst z
        rcases w with w | w
        · exact nb w.symm
        · rw [w] at q; exact sh.2.2 b q
  · obtain ⟨m, o2, h1, h2, h3⟩ := h
    by_cases e : m = n
    · subst e
      refine .inl ⟨m, ob, hn, hf, h3.imp id fun ⟨p, C, fs, h4, h5⟩ => ?_⟩
      have ep := st.one p a m h4 hg
      subst ep
      rw [upd_same] at h5
      obtain ⟨C', fs', h6⟩ := hd C b fs (Option.some.inj h5)
      exact ⟨p, C', fs', h4, h6⟩
    · rw [List.getElem?_set_ne (Ne.symm e)] at h1
      refine .inl ⟨m, o2, h1, h2, h3.imp id fun ⟨p, C, fs, h4, h5⟩ => ⟨p, C, fs, h4, ?_⟩⟩
      rw [upd_ne] at h5
      · exact h5
      · intro z; subst z
        rw [hg] at h4
        exact e (tg_inj (Option.some.inj h4)).symm
theorem tg_new {p a : Addr} {n m : Nat} (h : upd G p (tg n) a = some (tg m)) : (a = p ∧ m = n) ∨ (a ≠ p ∧ G a = some (tg m)) := by
  by_cases e : a = p
  · subst e
    rw [upd_same] at h
    exact .inl ⟨rfl, (tg_inj (Option.some.inj h)).symm⟩
  · rw [upd_ne e] at h
    exact .inr ⟨e, h⟩
/-- a thing that nothing owns comes into the store -/
theorem toSto {k : Nat} {S : List Ob} {ob : Ob} {p : Addr} {σ0 : L2.St} {r0 : EV} {G0 H0 : Hp} (s : SR K G H σ r) (t : Stp σ0 r0 G0 H0 σ r G H) (hS : r[k]? = some (some (.sto S))) (hg : G p = none) (n : ¬ Own σ r p) (hp : H p ≠ none ∧ (∀ xs, H p ≠ some (.tup xs)) ∧ ∀ q, H p ≠ some (.own q))
    (ho : ObR K (upd G p (tg S.length)) H p ob) (hb : Own σ0 r0 p ∨ H0 p = none) (hd : ∀ C c fs, H p = some (.ins C c fs) → Own σ0 r0 c ∨ H0 c = none) :
    SR K (upd G p (tg S.length)) H σ (r.set k (some (.sto (S ++ [ob])))) ∧ Stp σ0 r0 G0 H0 σ (r.set k (some (.sto (S ++ [ob])))) (upd G p (tg S.length)) H ∧ Rp K (upd G p (tg S.length)) (.ref p) (refD S.length) := by
  have st := s.sto k S hS
  have sm : Same G (upd G p (tg S.length)) := same_frz hg
  have own' : ∀ a, Own σ (r.set k (some (.sto (S ++ [ob])))) a → Own σ r a := fun a ⟨j, ds, h1, h2⟩ => by
    rcases stoSet_get hS h1 with ⟨_, z⟩ | ⟨_, z⟩
    · cases z
    · exact ⟨j, ds, z, h2⟩
  have st' : StoR K (upd G p (tg S.length)) H (S ++ [ob]) := by
    refine ⟨fun m o h => ?_, fun a m h => ?_, fun a b m h1 h2 => ?_⟩
    · by_cases c : m < S.length
      · rw [List.getElem?_append_left c] at h
        obtain ⟨a, h1, h2⟩ := st.ob m o h
        refine ⟨a, sm _ _ h1, h2.mono sm (fun _ _ q _ => q) fun b q z => ?_⟩
        rw [upd_ne]
        · exact z
        · intro e; subst e; exact hp.2.2 _ q
      · have hm := (List.getElem?_eq_some_iff.mp h).1
        rw [List.length_append, List.length_singleton] at hm
        have e : m = S.length := by omega
        subst e
        rw [List.getElem?_append_right (Nat.le_refl _), Nat.sub_self] at h
        cases h
        exact ⟨p, upd_same, ho⟩
    · rw [List.length_append, List.length_singleton]
      rcases tg_new h with ⟨_, e⟩ | ⟨_, e⟩
      · omega
      · have := st.lt a m e; omega
    · rcases tg_new h1 with ⟨e1, m1⟩ | ⟨e1, g1⟩
      · rcases tg_new h2 with ⟨e2, m2⟩ | ⟨e2, g2⟩
        · rw [e1, e2]
        · have := st.lt b m g2; omega
      · rcases tg_new h2 with ⟨e2, m2⟩ | ⟨e2, g2⟩
        · have := st.lt a m g1; omega
        · exact st.one a b m g1 g2
  refine ⟨⟨fun a o h w => ?_, by rw [List.length_set]; exact s.len, fun j val q hv => ?_, fun i j a ds es h1 h2 h3 h4 => ?_, s.sz, fun j S2 q => ?_, st'.tgd, fun i j S1 S2 q1 q2 => ?_⟩, ⟨t.ex.trans sm, t.keep, t.dom, t.tups, fun a h => ?_, fun a h => t.own a (own' a h), fun a h => ?_, fun a m h => ?_, fun _ => t.hst ⟨k, S, hS⟩⟩, .obj upd_same⟩
  · by_cases e : a = p
    · subst e
      rw [upd_same] at h
      cases h
      rw [tg_is] at w
      cases w
    · rw [upd_ne e] at h
      exact s.ex a o h w
  · rcases stoSet_get hS q with ⟨_, z⟩ | ⟨_, z⟩
    · exact absurd z (hv _)
    · obtain ⟨v, h1, h2⟩ := s.slot j val z hv
      refine ⟨v, h1, ?_⟩
      cases val with
      | fz d => exact Rp.mono sm h2
      | ol ds =>
        obtain ⟨a, vs, e, h3, h4, h5⟩ := h2
        subst e
        refine ⟨a, vs, rfl, ?_, h4, h5.mono sm⟩
        rw [upd_ne]
        · exact h3
        · intro z2; subst z2; exact n ⟨j, ds, z, h1⟩
      | sto S2 => exact h2
  · rcases stoSet_get hS h1 with ⟨_, z⟩ | ⟨_, z⟩
    · cases z
    · rcases stoSet_get hS h3 with ⟨_, z3⟩ | ⟨_, z3⟩
      · cases z3
      · exact s.uniq i j a ds es z h2 z3 h4
  · rcases stoSet_get hS q with ⟨_, z⟩ | ⟨e, z⟩
    · cases z; exact st'
    · exact absurd (s.sone j k S2 S z hS) e
  · rcases stoSet_get hS q1 with ⟨e1, _⟩ | ⟨e1, z1⟩
    · rcases stoSet_get hS q2 with ⟨e2, _⟩ | ⟨e2, z2⟩
      · rw [e1, e2]
      · exact absurd (s.sone j k S2 S z2 hS) e2
    · exact absurd (s.sone i k S1 S z1 hS) e1
  · by_cases e : a = p
    · subst e; exact .inr (hb.imp id .inl)
    · rw [upd_ne e] at h; exact t.new a h
  · obtain ⟨j, S2, h1, m, o, h2, h3, h4⟩ := h.toT
    rcases stoSet_get hS h1 with ⟨_, z⟩ | ⟨e, z⟩
    · cases z
      by_cases c : m < S.length
      · rw [List.getElem?_append_left c] at h2
        refine t.ows a ⟨k, S, m, o, hS, h2, h3, h4.imp (fun q => ?_) fun ⟨q, C, fs, h5, h6⟩ => ⟨q, C, fs, ?_, h6⟩⟩
        · rcases tg_new q with ⟨_, e⟩ | ⟨_, e⟩
          · omega
          · exact e
        · rcases tg_new h5 with ⟨_, e⟩ | ⟨_, e⟩
          · omega
          · exact e
      · have hm := (List.getElem?_eq_some_iff.mp h2).1
        rw [List.length_append, List.length_singleton] at hm
        have e : m = S.length := by omega
        subst e
        have f : ∀ {b}, upd G p (tg S.length) b = some (tg S.length) → b = p := fun q => by
          rcases tg_new q with ⟨e, _⟩ | ⟨_, e⟩
          · exact e
          · have := st.lt _ _ e; omega
        rcases h4 with h4 | ⟨q, C, fs, h5, h6⟩
        · rw [f h4]; exact .inr hb
        · rw [f h5] at h6
          exact .inr (hd C a fs h6)
    · exact absurd (s.sone j k S2 S z hS) e
  · rcases tg_new h with ⟨_, _⟩ | ⟨_, e⟩
    · exact .inr (t.hst ⟨k, S, hS⟩)
    · exact t.tgs a m e
end
section
variable {X : Cx} {F : Fs} {W : Nat → L2.St → Hp → Prop} {C : Nat → Addr} {pos p px apos cpos : Pos} {a b c e o : Expr} {ca cb cc ce co ces : CE} {es : List Expr} {k : Nat}
/-! ### marks on expressions -/
theorem s_res (h : PE X e (tV X.K F W ce)) : PE X e (tV X.K F W (.res k ce)) := by
  refine PE.imp h fun σ H Q ⟨G, r, s, h⟩ => ⟨G, r, s, ?_⟩
  rw [ev] at h
  exact h
theorem s_resO (hc : ∀ i, ce ≠ .var i) (h : PE X e (tV X.K F W ce)) : PE X e (tO X.K F W (.res k ce)) := s_opd (fun i z => nomatch z) (s_res h) (fun k i z => by cases z; exact hc i rfl)
theorem s_prm (h : PE X e (tV X.K F W ce)) : PE X e (tV X.K F W (.prm k ce)) := by
  refine PE.imp h fun σ H Q ⟨G, r, s, h⟩ => ⟨G, r, s, ?_⟩
  rw [ev] at h
  refine h.bnd.imp fun val r1 G1 H1 s1 t1 h1 v hv => ?_
  cases val with
  | fz d => exact h1 G1 H1 s1 t1 v hv
  | sto S => exact hv.elim
  | ol ds =>
    dsimp only at h1
    cases q : stoS r1 k with
    | none => rw [q] at h1; exact h1.elim
    | some S =>
      rw [q] at h1
      obtain ⟨p, vs, rfl, g1, g2, g3, g4, g5⟩ := hv
      obtain ⟨s2, t2, p2⟩ := toSto (ob := .lst ds) s1 t1 (stoS_some q) g1 g4 (by rw [g2]; simp) ⟨vs, g2, g3.mono (same_frz g1)⟩ g5 (fun C c fs z => by rw [g2] at z; cases z)
      exact h1 _ H1 s2 t2 _ p2
/-! ### calls -/
theorem all_lt {ds : List PyData} (h : ds.all (rfLt 0) = true) : ∀ d ∈ ds, rfLt 0 d = true := List.all_eq_true.mp h
theorem Rps.toH0 {K : PySem.W.Frag} {G H : Hp} (e : Sub G H) : ∀ {vs : List V} {ds : List PyData}, Rps K G vs ds → ds.all (rfLt 0) = true → Rps K H vs ds
  | _, _, .nil, _ => .nil
  | _, _, .cons h r, c => by
    rw [List.all_cons, Bool.and_eq_true] at c
    exact .cons (h.toH0 e c.1) (Rps.toH0 e r c.2)
theorem s_calS {f kf : Nat} {x : Str} {fa : Addr} {fd : FuncData} {ps : List Str} (Fo : FnOk X.prog X.w X.K X.mg X.base (L2.CX X.prog X.w) kf fa fd ps (spB X.K C F ps.length f)) (hr : Room kf X.A) (hg : Gl X x) (hm : X.mg x = some (.ref fa)) (hk : PySem.W.keepIn X.K (.ref fa) = true)
    (hb : Binds X.K fd ps []) (tk : Takes X (wx C W)) (hd : (x == ("__debug__" : Str)) = false) (hs : PySem.W.isStarred e = false) (hss : es.all (fun e => !PySem.W.isStarred e) = true) (hln : clen ces = ps.length) (h : PA X (e :: es) (tVs X.K F W ces)) :
    PE X (.Call (.Name x p) (e :: es) [] pos) (tV X.K F W (.calS k f ces)) := by
  refine PE.imp (pe_callS (E := WE (wx C W)) Fo hr hg hm hk hb (fun σ => passAt tk σ) h hd (star_ok hs) (no_star hss)) fun σ H Q ⟨G, r, s, h⟩ => ⟨G, r, s, ?_⟩
  rw [ev] at h
  refine (h.bnd.eqn (P := fun ds => ds.length = clen ces) fun ds r' e => evs_len e).imp fun ds r1 G1 H1 s1 t1 ⟨hl, h1⟩ vs hvs => ?_
  cases q : stoS r1 k with
  | none => rw [q] at h1; exact h1.elim
  | some S =>
    rw [q] at h1
    dsimp only at h1
    have hS := stoS_some q
    refine .inr ⟨G1, ds, S, by rw [hvs.length, hl, hln], s1.ex, s1.sz, s1.sto k S hS, hvs, ?_⟩
    cases q2 : F.s f ds S with
    | bad => rw [q2] at h1; exact h1.elim
    | ret d S' =>
      rw [q2] at h1
      intro v G' H' c hv
      obtain ⟨s2, t2⟩ := s1.calledS hS c
      exact h1 G' H' s2 (t1.trans t2) v hv
    | exc cx S' =>
      rw [q2] at h1
      intro G' H' c
      obtain ⟨s2, t2⟩ := s1.calledS hS c
      exact ⟨cx, rfl, rfl, h1 G' H' s2 (t1.trans t2)⟩
/-- what is new and frozen in a call with no store -/
def addG (G G' : Hp) : Hp := fun a => match G a with
  | some o => some o
  | none => match G' a with
    | some o => if isTg o then none else some o
    | none => none
theorem s_calE {f kf : Nat} {x : Str} {fa : Addr} {fd : FuncData} {ps : List Str} (Fo : FnOk X.prog X.w X.K X.mg X.base (L2.CX X.prog X.w) kf fa fd ps (spB X.K C F ps.length f)) (hr : Room kf X.A) (hg : Gl X x) (hm : X.mg x = some (.ref fa)) (hk : PySem.W.keepIn X.K (.ref fa) = true)
    (hb : Binds X.K fd ps []) (tk : Takes X (wx C W)) (hd : (x == ("__debug__" : Str)) = false) (hs : PySem.W.isStarred e = false) (hss : es.all (fun e => !PySem.W.isStarred e) = true) (hln : clen ces = ps.length) (h : PA X (e :: es) (tVs X.K F W ces)) :
    PE X (.Call (.Name x p) (e :: es) [] pos) (tV X.K F W (.calE f ces)) := by
  refine PE.imp (pe_callS (E := WE (wx C W)) Fo hr hg hm hk hb (fun σ => passAt tk σ) h hd (star_ok hs) (no_star hss)) fun σ H Q ⟨G, r, s, h⟩ => ⟨G, r, s, ?_⟩
  rw [ev] at h
  refine (h.bnd.eqn (P := fun ds => ds.length = clen ces) fun ds r' e => evs_len e).imp fun ds r1 G1 H1 s1 t1 ⟨hl, h1⟩ vs hvs => ?_
  by_cases ca : ds.all (rfLt 0) = true
  · rw [if_pos ca] at h1
    have st : StoR X.K (cutG 0 G1) H1 [] := ⟨fun n o h => by simp at h, fun a n h => by have := cutG_tg h; omega, fun a b n h => by have := cutG_tg h; omega⟩
    have rp : ∀ {vs : List V} {ds : List PyData}, Rps X.K G1 vs ds → ds.all (rfLt 0) = true → Rps X.K (cutG 0 G1) vs ds := fun {vs ds} h => by
      induction ds generalizing vs with
      | nil => cases h; exact fun _ => .nil
      | cons d ds ih =>
        intro c
        rw [List.all_cons, Bool.and_eq_true] at c
        cases h with
        | cons h1 h2 => exact .cons (h1.cut c.1) (ih h2 c.2)
    -- behind the call
    have go : ∀ {G' H' : Hp}, SS X.K (cutG 0 G1) H1 [] G' H' [] → SR X.K (addG G1 G') H' σ r1 ∧ Stp σ r1 G1 H1 σ r1 (addG G1 G') H' ∧ Same G' (addG G1 G') := fun {G' H'} c => by
      have kp : Same H1 H' := fun a o h => c.keep a o h fun ⟨n, o, w, _⟩ => by simp at w
      have notg : ∀ {a n}, G1 a = some (tg n) → G' a = none := fun {a n} h => by
        cases q : G' a with
        | none => rfl
        | some o =>
          rcases c.new a (by rw [q]; simp) with z | z | ⟨xs, z⟩
          · obtain ⟨u, hu⟩ := Option.ne_none_iff_exists'.mp z
            have := cutG_of hu
            rw [h] at this
            cases this
            have := cutG_tg hu
            omega
          · exact absurd z (s1.tgd a n h).1
          · cases q3 : H1 a with
            | none => exact absurd q3 (s1.tgd a n h).1
            | some u =>
              rw [kp _ _ q3] at z
              cases z
              exact absurd q3 ((s1.tgd a n h).2 xs)
      have nt' : ∀ {a o}, G' a = some o → isTg o = false := fun {a o} h => by
        cases q : isTg o with
        | false => rfl
        | true =>
          obtain ⟨n, e⟩ := isTg_eq q
          subst e
          have := c.sto.lt a n h
          simp at this
      have sm2 : Same G' (addG G1 G') := fun a o h => by
        unfold addG
        cases q : G1 a with
        | none => simp [h, nt' h]
        | some u =>
          cases q2 : isTg u with
          | true =>
            obtain ⟨n, e⟩ := isTg_eq q2
            subst e
            rw [notg q] at h
            cases h
          | false =>
            have h2 := c.ex a u (cutG_no q q2)
            rw [h] at h2
            exact h2.symm
      have sm1 : Same G1 (addG G1 G') := fun a o h => by unfold addG; rw [h]
      have inv : ∀ {a o}, addG G1 G' a = some o → G1 a = some o ∨ (G1 a = none ∧ G' a = some o ∧ isTg o = false) := fun {a o} h => by
        unfold addG at h
        cases q : G1 a with
        | some u => rw [q] at h; exact .inl h
        | none =>
          rw [q] at h
          dsimp only at h
          cases q2 : G' a with
          | none => rw [q2] at h; cases h
          | some u =>
            rw [q2] at h
            dsimp only at h
            rw [nt' q2] at h
            cases h
            exact .inr ⟨rfl, rfl, nt' q2⟩
      obtain ⟨s2, t2⟩ := s1.called (G' := addG G1 G') sm1 (fun a h => by
        obtain ⟨o, ho⟩ := Option.ne_none_iff_exists'.mp h
        rcases inv ho with z | ⟨z, z2, _⟩
        · exact .inl (by rw [z]; simp)
        · rcases c.new a (by rw [z2]; simp) with w | w | w
          · obtain ⟨u, hu⟩ := Option.ne_none_iff_exists'.mp w
            rw [cutG_of hu] at z
            cases z
          · exact .inr (.inl w)
          · exact .inr (.inr w)) (fun a n h => by
        rcases inv h with z | ⟨_, _, z⟩
        · exact z
        · rw [tg_is] at z; cases z) (fun a o h w => by
        rcases inv h with z | ⟨_, z, _⟩
        · exact kp _ _ (s1.ex a o z w)
        · exact c.sub a o z w) kp c.sz
      exact ⟨s2, t2, sm2⟩
    refine .inr ⟨cutG 0 G1, ds, [], by rw [hvs.length, hl, hln], fun a o h w => s1.ex a o (cutG_of h) w, s1.sz, st, rp hvs ca, ?_⟩
    cases q2 : F.s f ds [] with
    | bad => rw [q2] at h1; exact h1.elim
    | ret d S' =>
      rw [q2] at h1
      cases S' with
      | cons _ _ => exact h1.elim
      | nil =>
        intro v G' H' c hv
        obtain ⟨s2, t2, sm⟩ := go c
        exact h1 _ H' s2 (t1.trans t2) v (hv.mono sm)
    | exc cx S' =>
      rw [q2] at h1
      cases S' with
      | cons _ _ => exact h1.elim
      | nil =>
        intro G' H' c
        obtain ⟨s2, t2, sm⟩ := go c
        exact ⟨cx, rfl, rfl, h1 _ H' s2 (t1.trans t2)⟩
  · rw [if_neg ca] at h1
    exact h1.elim
end
end SC

set_option Elab.async false
set_option maxRecDepth 100000
set_option maxHeartbeats 1000000
/-! SE2: dicts of the store. -/
namespace SC
open PySem L2

section
variable {K : PySem.W.Frag} {G G1 G2 G' H H1 H2 H' : Hp} {σ σ1 σ2 σ' : L2.St} {r r1 r2 r' : EV} {κ : Type} [DecidableEq κ]
theorem RKV.length {κ : Type} : ∀ {vs : List (κ × V)} {ds : List (κ × PyData)}, RKV K G vs ds → vs.length = ds.length
  | _, _, .nil => rfl
  | _, _, .cons _ r => by rw [List.length_cons, List.length_cons, r.length]
theorem RKV.val (k : κ) : ∀ {vs : List (κ × V)} {ds : List (κ × PyData)}, RKV K G vs ds → (∀ d, valA ds k = some d → ∃ v, valV vs k = some v ∧ Rp K G v d) ∧ (valA ds k = none → valV vs k = none)
  | _, _, .nil => ⟨(fun d h => by cases h), fun _ => rfl⟩
  | _, _, .cons (x := x) (v := v) (d := d) h t => by
    obtain ⟨h1, h2⟩ := RKV.val k t
    by_cases e : x = k
    · refine ⟨fun d' q => ⟨v, valV_pos e, ?_⟩, fun q => ?_⟩
      · have : some d = some d' := by
          rw [← q]
          simp [valA, List.find?_cons, e]
        cases this
        exact h
      · exfalso
        revert q
        simp [valA, List.find?_cons, e]
    · have ea : ∀ ds : List (κ × PyData), valA ((x, d) :: ds) k = valA ds k := fun ds => by simp [valA, List.find?_cons, e]
      rw [ea]
      refine ⟨fun d' q => ?_, fun q => ?_⟩
      · obtain ⟨w, q1, q2⟩ := h1 d' q
        exact ⟨w, by rw [valV_neg (p := (x, v)) e]; exact q1, q2⟩
      · rw [valV_neg (p := (x, v)) e]; exact h2 q
theorem RKV.anyK (k : κ) : ∀ {vs : List (κ × V)} {ds : List (κ × PyData)}, RKV K G vs ds → (vs.any fun p => decide (p.1 = k)) = ds.any fun p => decide (p.1 = k)
  | _, _, .nil => rfl
  | _, _, .cons _ r => by rw [List.any_cons, List.any_cons, r.anyK]
theorem RKV.mapK {k : κ} {v : V} {d : PyData} (hv : Rp K G v d) : ∀ {vs : List (κ × V)} {ds : List (κ × PyData)}, RKV K G vs ds → RKV K G (vs.map fun p => if p.1 = k then (p.1, v) else p) (ds.map fun p => if p.1 = k then (p.1, d) else p)
  | _, _, .nil => .nil
  | _, _, .cons (x := x) h r => by
    rw [List.map_cons, List.map_cons]
    by_cases e : x = k
    · rw [if_pos e, if_pos e]; exact .cons hv (r.mapK hv)
    · rw [if_neg e, if_neg e]; exact .cons h (r.mapK hv)
theorem RKV.snoc {κ : Type} {k : κ} {v : V} {d : PyData} (hv : Rp K G v d) : ∀ {vs : List (κ × V)} {ds : List (κ × PyData)}, RKV K G vs ds → RKV K G (vs ++ [(k, v)]) (ds ++ [(k, d)])
  | _, _, .nil => .cons hv .nil
  | _, _, .cons h r => .cons h (r.snoc hv)
theorem RKV.put {k : κ} {v : V} {d : PyData} (hv : Rp K G v d) {vs : List (κ × V)} {ds : List (κ × PyData)} (h : RKV K G vs ds) : RKV K G (putK vs k v) (putB ds k d) := by
  unfold putK putB
  rw [h.anyK]
  split
  · exact h.mapK hv
  · exact h.snoc hv
/-- a tuple of whole numbers as a key -/
theorem key_tup {y : V} {ds : List PyData} {ns : List Int} (h : Rp K G y (.tuple ds)) (e : intsD ds = some ns) : ∃ b, y = .ref b ∧ G b = some (.tup ((tKey ns).map kV)) := by
  cases h with
  | tup h1 h2 =>
    refine ⟨_, rfl, ?_⟩
    rw [h1, h2.ints e]
    congr 2
    unfold tKey
    rw [List.map_map]
    rfl
theorem dget_go {a : Addr} {ob : Ob} {y : V} {d : PyData} {x : Option PyData} (e : Sub G H) (ho : ObR K G H a ob) (hy : Rp K G y d) (q : dGet ob d = some x) : ∃ o, DGet H a y o ∧ (∀ d', x = some d' → ∃ v, o = some v ∧ Rp K G v d') ∧ (x = none → o = none) := by
  have fin : ∀ {κ : Type} [DecidableEq κ] {vs : List (κ × V)} {kvs : List (κ × PyData)} {k : κ}, RKV K G vs kvs → x = valA kvs k → (∀ d', x = some d' → ∃ v, valV vs k = some v ∧ Rp K G v d') ∧ (x = none → valV vs k = none) := fun h ex => by
    subst ex
    exact h.val _
  unfold dGet at q
  split at q
  · cases q; cases hy
    obtain ⟨vs, h1, h2⟩ := ho
    exact ⟨_, .inl ⟨vs, .inl _, .inl h1, rfl, rfl⟩, fin h2 rfl⟩
  · cases q; cases hy
    obtain ⟨vs, h1, h2⟩ := ho
    exact ⟨_, .inl ⟨vs, .inr _, .inl h1, rfl, rfl⟩, fin h2 rfl⟩
  · cases q; cases hy
    obtain ⟨o, vs, h1, h2⟩ := ho
    exact ⟨_, .inl ⟨vs, .inl _, .inr ⟨o, h1⟩, rfl, rfl⟩, fin h2 rfl⟩
  · cases q; cases hy
    obtain ⟨o, vs, h1, h2⟩ := ho
    exact ⟨_, .inl ⟨vs, .inr _, .inr ⟨o, h1⟩, rfl, rfl⟩, fin h2 rfl⟩
  · obtain ⟨ns, q1, q2⟩ := Option.map_eq_some_iff.mp q
    obtain ⟨b, rfl, q3⟩ := key_tup hy q1
    obtain ⟨vs, h1, h2⟩ := ho
    exact ⟨_, .inr ⟨vs, tKey ns, b, .inl h1, rfl, e _ _ q3 rfl, rfl⟩, fin h2 q2.symm⟩
  · obtain ⟨ns, q1, q2⟩ := Option.map_eq_some_iff.mp q
    obtain ⟨b, rfl, q3⟩ := key_tup hy q1
    obtain ⟨o, vs, h1, h2⟩ := ho
    exact ⟨_, .inr ⟨vs, tKey ns, b, .inr ⟨o, h1⟩, rfl, e _ _ q3 rfl, rfl⟩, fin h2 q2.symm⟩
  · cases q
theorem isD_go {a : Addr} {ob : Ob} (ho : ObR K G H a ob) (h : ob.isD = true) : IsD H a := by
  cases ob with
  | dK kvs => obtain ⟨vs, h1, _⟩ := ho; exact .inl ⟨vs, .inl h1⟩
  | dT kvs => obtain ⟨vs, h1, _⟩ := ho; exact .inr ⟨vs, .inl h1⟩
  | lkK kvs => obtain ⟨o, vs, h1, _⟩ := ho; exact .inl ⟨vs, .inr ⟨o, h1⟩⟩
  | lkT kvs => obtain ⟨o, vs, h1, _⟩ := ho; exact .inr ⟨vs, .inr ⟨o, h1⟩⟩
  | _ => cases h
theorem dput_go {a : Addr} {ob ob' : Ob} {y v : V} {d d' : PyData} (e : Sub G H) (hz : Sz H) (ho : ObR K G H a ob) (hy : Rp K G y d) (hv : Rp K G v d') (q : dPut ob d d' = some ob') :
    ∃ o, DPut H a y v (upd H a o) ∧ Sz (upd H a o) ∧ ob.free = true ∧ (∀ C c fs, o ≠ .ins C c fs) ∧ (H a = none ∨ ∀ G2, G2 = G → ObR K G (upd H a o) a ob') := by
  have zl := sizeLine_eq
  unfold dPut at q
  split at q
  · split at q
    · rename_i z
      cases q; cases hy
      obtain ⟨vs, h1, h2⟩ := ho
      exact ⟨.dK (putK vs (.inl _) v), DPut.k (k := Sum.inl _) h1 (by rw [h2.length]; omega), hz.put rfl (fun xs w => by rcases w with w | w <;> cases w), rfl, (fun _ _ _ w => nomatch w), .inr fun _ _ => ⟨_, upd_same, h2.put hv⟩⟩
    · cases q
  · split at q
    · rename_i z
      cases q; cases hy
      obtain ⟨vs, h1, h2⟩ := ho
      exact ⟨.dK (putK vs (.inr _) v), DPut.k (k := Sum.inr _) h1 (by rw [h2.length]; omega), hz.put rfl (fun xs w => by rcases w with w | w <;> cases w), rfl, (fun _ _ _ w => nomatch w), .inr fun _ _ => ⟨_, upd_same, h2.put hv⟩⟩
    · cases q
  · split at q
    · rename_i z
      obtain ⟨ns, q1, q2⟩ := Option.map_eq_some_iff.mp q
      obtain ⟨b, rfl, q3⟩ := key_tup hy q1
      obtain ⟨vs, h1, h2⟩ := ho
      subst q2
      exact ⟨.dT (putK vs (tKey ns) v), DPut.t h1 (e _ _ q3 rfl) (by rw [h2.length]; omega), hz.put rfl (fun xs w => by rcases w with w | w <;> cases w), rfl, (fun _ _ _ w => nomatch w), .inr fun _ _ => ⟨_, upd_same, h2.put hv⟩⟩
    · cases q
  · cases q
end
section
variable {K : PySem.W.Frag} {G G1 G2 G' H H1 H2 H' : Hp} {σ σ1 σ2 σ' : L2.St} {r r1 r2 r' : EV}
/-- a thing that nothing owns is written -/
theorem SR.updN {D : Addr} {o u : HO} (s : SR K G H σ r) (hg : G D = none) (hD : H D = some u) (hu : ∀ q, u ≠ .own q) (hl : ∀ xs, u ≠ .tup xs) (n : ¬ Own σ r D) (z : Sz (upd H D o)) : SR K G (upd H D o) σ r := by
  have ne : ∀ b w, H b = some w → ((∃ n, G b = some (tg n)) ∨ ∃ p, w = .own p) → upd H D o b = some w := fun b w q c => by
    rw [upd_ne]
    · exact q
    · intro e; subst e
      rcases c with ⟨n, c⟩ | ⟨p, c⟩
      · rw [hg] at c; cases c
      · rw [hD, c] at q; exact hu p (Option.some.inj q)
  refine ⟨fun b w q hw => ?_, s.len, fun j val q hv => ?_, s.uniq, z, fun j S q => (s.sto j S q).mono (Same.refl _) (fun _ _ q => q) ne fun _ _ _ z => z, fun b n q => tgd_upd (s.tgd b n q) (fun e => by subst e; rw [hg] at q; cases q), s.sone⟩
  · rw [upd_ne (ne_of_none q hg)]; exact s.ex b w q hw
  · obtain ⟨v, h1, h2⟩ := s.slot j val q hv
    refine ⟨v, h1, ?_⟩
    cases val with
    | fz d => exact h2
    | ol ds =>
      obtain ⟨a, ws, rfl, h3, h4, h5⟩ := h2
      refine ⟨a, ws, rfl, h3, ?_, h5⟩
      rw [upd_ne]
      · exact h4
      · intro e; subst e; exact n ⟨j, ds, q, h1⟩
    | sto S => exact h2
theorem Stp.updN {D : Addr} {o u : HO} (t : Stp σ r G H σ' r' G' H') (hD : H D = none) (hD' : H' D = some u) (hl : ∀ xs, u ≠ .tup xs) (hg : G' D = none) : Stp σ r G H σ' r' G' (upd H' D o) where
  ex := t.ex
  keep := fun a u q n m => by rw [upd_ne (ne_of_none q hD)]; exact t.keep a u q n m
  dom := fun a q => t.dom a (dom_upd q)
  tups := fun a xs q => by rw [upd_ne (ne_of_none q hD)]; exact t.tups a xs q
  new := fun a q => by
    rcases t.new a q with z | z | z | ⟨xs, z⟩
    · exact .inl z
    · exact .inr (.inl z)
    · exact .inr (.inr (.inl z))
    · refine .inr (.inr (.inr ⟨xs, ?_⟩))
      rw [upd_ne]
      · exact z
      · intro e; subst e; rw [hD'] at z; exact hl xs (Option.some.inj z)
  own := t.own
  ows := fun a q => t.ows a (q.of (fun _ _ z => z) fun p C fs ⟨n, c⟩ z => by
    rw [upd_ne] at z
    · exact z
    · intro e; subst e; rw [hg] at c; cases c)
  tgs := t.tgs
  hst := t.hst
end
section
variable {X : Cx} {F : Fs} {W : Nat → L2.St → Hp → Prop} {C : Nat → Addr} {pos p px apos cpos : Pos} {a b c e o : Expr} {ca cb cc ce co ces : CE} {es : List Expr} {k : Nat}
theorem fz_of {v : V} {val : Val} {K : PySem.W.Frag} {G H : Hp} {σ : L2.St} {r : EV} {G0 H0 : Hp} {r0 : EV} (s : SR K G H σ r) (t : Stp σ r0 G0 H0 σ r G H) (h : VT K σ r0 H0 G H σ r v val) : ∃ G', SR K G' H σ r ∧ Stp σ r0 G0 H0 σ r G' H ∧ Same G G' ∧ Rp K G' v val.toD := frzV s t h
/-- o[a], a dict of the store -/
theorem s_dgi (hu : X.A.units + 65 < cLine) (hp : PlainIx b) (ha : PE X a (tV X.K F W ca)) (hb : PE X b (tV X.K F W cb)) : PE X (.Subscript a b pos) (tV X.K F W (.dgi k ca cb)) := by
  refine PE.imp (pe_dget (by omega) ha hb (fun o i => hp o i)) fun σ H Q ⟨G, r, s, h⟩ => ⟨G, r, s, ?_⟩
  rw [ev] at h
  refine h.bnd.imp fun val r1 G1 H1 s1 t1 h1 v hv => ?_
  obtain ⟨G2, s2, t2, e2, p2⟩ := frzV s1 t1 hv
  refine ⟨G2, r1, s2, (h1.rebase t2).bnd.imp fun val' r3 G3 H3 s3 t3 h3 w hw => ?_⟩
  obtain ⟨G4, s4, t4, e4, p4⟩ := frzV s3 t3 hw
  have h3 := h3.rebase t4
  cases q : obN r3 k val.toD with
  | none => rw [q] at h3; exact h3.elim
  | some x =>
    obtain ⟨n, S, ob⟩ := x
    rw [q] at h3
    dsimp only at h3
    obtain ⟨ad, rfl, _, g1, g2, g3, g4⟩ := obN_go s4 q (p2.mono t4.ex)
    cases q2 : dGet ob val'.toD with
    | none => rw [q2] at h3; exact h3.elim
    | some y =>
      obtain ⟨o, d1, d2, d3⟩ := dget_go s4.ex g4 p4 q2
      cases y with
      | none => rw [q2] at h3; exact h3.elim
      | some d =>
        rw [q2] at h3
        obtain ⟨v', rfl, d4⟩ := d2 d rfl
        exact ⟨ad, v', rfl, d1, h3 G4 H3 s4 Stp.refl v' d4⟩
/-- o.get(a, b), a dict of the store -/
theorem s_dgt {f : Expr} (hu : X.A.units + 65 < cLine) (hb0 : attributeBase o "get" X.env (eval o X.env) = eval o X.env) (hl : (apos.endLine == cpos.line) = true) (hs : PySem.W.isStarred a = false) (hs2 : PySem.W.isStarred b = false)
    (ho : PE X o (tV X.K F W co)) (ha : PE X a (tV X.K F W ca)) (hb : PE X b (tV X.K F W cb)) : PE X (.Call (.Attribute o "get" apos) [a, b] [] cpos) (tV X.K F W (.dgt k co ca cb)) := by
  have m : M2 X o "get" apos a b cpos := ⟨hb0, by rw [star_ok hs, star_ok hs2]; rfl, hl, by rw [star_ok hs, star_ok hs2]; rfl⟩
  refine PE.imp (pe_dget2 (by omega) ho ha hb m) fun σ H Q ⟨G, r, s, h⟩ => ⟨G, r, s, ?_⟩
  rw [ev] at h
  refine h.bnd.imp fun val r1 G1 H1 s1 t1 h1 v hv => ?_
  obtain ⟨G2, s2, t2, e2, p2⟩ := frzV s1 t1 hv
  have h1 := h1.rebase t2
  cases q : obN r1 k val.toD with
  | none => rw [q] at h1; exact h1.elim
  | some x =>
    obtain ⟨n, S, ob⟩ := x
    rw [q] at h1
    dsimp only at h1
    obtain ⟨ad, rfl, _, g1, g2, g3, g4⟩ := obN_go s2 q p2
    by_cases cd : ob.isD = true
    · rw [if_pos cd] at h1
      refine ⟨ad, rfl, isD_go g4 cd, G2, r1, s2, h1.bnd.imp fun val' r3 G3 H3 s3 t3 h3 w hw => ?_⟩
      obtain ⟨G4, s4, t4, e4, p4⟩ := frzV s3 t3 hw
      refine ⟨G4, r3, s4, (h3.rebase t4).bnd.imp fun val'' r5 G5 H5 s5 t5 h5 u hu' => ?_⟩
      obtain ⟨G6, s6, t6, e6, p6⟩ := frzV s5 t5 hu'
      have h5 := h5.rebase t6
      cases q2 : obN r5 k val.toD with
      | none => rw [q2] at h5; exact h5.elim
      | some x =>
        obtain ⟨n', S', ob'⟩ := x
        rw [q2] at h5
        dsimp only at h5
        obtain ⟨ad', ead, _, f1, f2, f3, f4⟩ := obN_go s6 q2 (p2.mono (t4.ex.trans t6.ex))
        cases ead
        cases q3 : dGet ob' val'.toD with
        | none => rw [q3] at h5; exact h5.elim
        | some y =>
          obtain ⟨oo, d1, d2, d3⟩ := dget_go s6.ex f4 (p4.mono t6.ex) q3
          rw [q3] at h5
          refine ⟨oo, d1, h5 G6 H5 s6 Stp.refl _ ?_⟩
          cases y with
          | none => rw [d3 rfl]; exact p6
          | some d =>
            obtain ⟨v', rfl, d4⟩ := d2 d rfl
            exact d4
    · rw [if_neg cd] at h1
      exact h1.elim
/-- {} -/
theorem s_dnw {t : Nat} : PE X (.Dict [] [] pos) (tV X.K F W (.dnw k t)) := by
  have go : ∀ {σ : L2.St} {H : Hp} {Q : VK} {ho : HO} {ob : Ob} {p : Addr}, (∃ G r, SR X.K G H σ r ∧ Gd X.K W σ r G H (match stoS r k with
      | some S => .ok (.fz (refD S.length)) (r.set k (some (.sto (S ++ [ob]))))
      | none => .bad) fun val r' G' H' => ∀ v, VT X.K σ r H G' H' σ r' v val → Q v H') → H p = none → isTg ho = false → (∀ xs, ho ≠ .lst xs) → (∀ xs, ho ≠ .tup xs) → (∀ q, ho ≠ .own q) → (∀ C c fs, ho ≠ .ins C c fs) → (∀ G, ObR X.K G (upd H p ho) p ob) → Q (.ref p) (upd H p ho) := fun {σ H Q ho ob p} ⟨G, r, s, h⟩ hp ht hl hu hw hi hob => by
    cases q : stoS r k with
    | none => rw [q] at h; exact h.elim
    | some S =>
      rw [q] at h
      have s1 := s.new (o := ho) hp (s.sz.put ht fun xs w => by
        rcases w with w | w
        · exact absurd w (hl xs)
        · exact absurd w (hu xs))
      obtain ⟨s2, t2, p2⟩ := toSto (ob := ob) s1 (Stp.newH s hp) (stoS_some q) (s.gnone hp) (s.nown hp) (by
        rw [upd_same]
        exact ⟨(fun z => nomatch z), fun xs z => hu xs (Option.some.inj z), fun q z => hw q (Option.some.inj z)⟩) (hob _) (.inr hp) (fun C c fs z => by rw [upd_same] at z; exact absurd (Option.some.inj z) (hi C c fs))
      exact h _ _ s2 t2 _ p2
  by_cases c : t = 0
  · refine PE.imp pe_dnewK fun σ H Q ⟨G, r, s, h⟩ p hp => ?_
    rw [ev] at h
    rw [if_pos c] at h
    exact go ⟨G, r, s, h⟩ hp rfl (fun _ z => nomatch z) (fun _ z => nomatch z) (fun _ z => nomatch z) (fun _ _ _ z => nomatch z) fun G => ⟨[], upd_same, .nil⟩
  · refine PE.imp pe_dnewT fun σ H Q ⟨G, r, s, h⟩ p hp => ?_
    rw [ev] at h
    rw [if_neg c] at h
    exact go ⟨G, r, s, h⟩ hp rfl (fun _ z => nomatch z) (fun _ z => nomatch z) (fun _ z => nomatch z) (fun _ _ _ z => nomatch z) fun G => ⟨[], upd_same, .nil⟩
/-- o[a] = e -/
theorem x_dpt {p2 : Pos} (hu : X.A.units + 65 < cLine) (hs : swapsWith e (some (.Subscript a b p2)) pos.line X.env = pure false) (ha : PE X a (tV X.K F W ca)) (hb : PE X b (tV X.K F W cb)) (he : PE X e (tV X.K F W ce)) :
    PS X (.Assign [.Subscript a b p2] e pos) (tS X.K F W (.dpt k ca cb ce)) := by
  refine PS.imp (ps_dput (by omega) ha hb he hs) fun D σ H ⟨G, r, s, h⟩ => ⟨G, r, s, ?_⟩
  rw [exec] at h
  refine h.bnd.imp fun val r1 G1 H1 s1 t1 h1 v hv => ?_
  obtain ⟨G2, s2, t2, e2, p2⟩ := frzV s1 t1 hv
  refine ⟨G2, r1, s2, ((Ge.rebase h1 t2).bnd).imp fun val' r3 G3 H3 s3 t3 h3 x hx => ?_⟩
  obtain ⟨G4, s4, t4, e4, p4⟩ := frzV s3 t3 hx
  refine ⟨G4, r3, s4, ((Ge.rebase h3 t4).bnd).imp fun val'' r5 G5 H5 s5 t5 h5 y hy => ?_⟩
  obtain ⟨G6, s6, t6, e6, p6⟩ := frzV s5 t5 hy
  have h5 := Ge.rebase h5 t6
  cases q2 : obN r5 k val'.toD with
  | none => rw [q2] at h5; exact h5.elim
  | some z =>
    obtain ⟨n, S, ob⟩ := z
    rw [q2] at h5
    dsimp only at h5
    obtain ⟨ad, rfl, _, f1, f2, f3, f4⟩ := obN_go s6 q2 (p4.mono t6.ex)
    cases q3 : dPut ob val''.toD val.toD with
    | none => rw [q3] at h5; exact h5.elim
    | some ob' =>
      rw [q3] at h5
      obtain ⟨o, d1, d2, d3, d4, d5⟩ := dput_go s6.ex s6.sz f4 p6 (p2.mono (t4.ex.trans t6.ex)) q3
      have d5 := d5.resolve_left f4.sh.1 G6 rfl
      obtain ⟨s7, t7⟩ := s6.calledS f2 (SS.wr s6 f2 f3 d3 f1 d2 d5 fun C c fs z => absurd z (d4 C c fs))
      exact ⟨ad, _, rfl, d1, h5 σ G6 _ s7 t7⟩
/-! ### {a: b}, a a tuple -/
def tDispT (ta tb : TE) : TE := fun σ H Q => ∀ p, H p = none → tPairs [(ta, tb)] σ (upd H p (.dT [])) fun ps H2 => H2 p = some (.dT []) ∧ ∃ (b : Addr) (kk : List Key) (y : V), ps = [(.ref b, y)] ∧ H2 b = some (.tup (kk.map kV)) ∧ Q (.ref p) (upd H2 p (.dT [(kk, y)]))
theorem pe_dispT {ta tb : TE} (hu : X.A.units + 65 < cLine) (ha : PE X a ta) (hb : PE X b tb) : PE X (.Dict [some a] [b] pos) (tDispT ta tb) := by
  refine ⟨fun pins s σ H Q I q => ?_⟩
  have hn := I.hok.fresh (Nat.le_refl s.heap.objs.size)
  have I1 := I.laid (a := s.heap.objs.size) (o := .dT []) (h' := s.heap.push { cls := .type "dict", data := .dict #[] }) (t' := s.toks) (fun _ _ q => Heap.get?_push_of_some _ q) (Nat.le_refl _) (dt_empty s.heap I.big)
  have h : PPs X pos [some a] [b] [(ta, tb)] := pps_cons ha hb pps_nil
  have hz : (evalEachOpt [some a] X.env).zip ((evalEach [b] X.env).map fun v => do let x ← v; standAt pos; pure x) = (pairTrees [some a] [b] X.env pos).map fun p => (some p.1, p.2) := zip_pairTrees [some a] [b] X.env pos rfl rfl
  rw [arm_eval_Dict, hz, dictDisplay_pairs _ (by intro z; cases z) (by show (1 : Nat) < 17; decide)]
  refine wpAny_bind (wpAny_standAt (wpAny_bind (PySem.wpAny_subDictH (knd := tupleKind (mixKind X.prog X.w)) (show X.A.units < cLine by omega) (by show (1 : Nat) ≤ 15; decide) (thn (h.run pins _ σ _ _ I1 (q _ hn)) fun ws s2 ⟨ps, H2, I2, rel, e, b, kk, y, ep, eb, q2⟩ => ?_))))
  subst ep
  cases rel with
  | @cons _ pr _ _ r1 r2 =>
    cases r2
    obtain ⟨k1, v1⟩ := pr
    obtain ⟨z, hd, xs0, rel0, dd⟩ := dt_of I2.hok e
    cases rel0
    have ek : k1 = Value.ref b := r1.1
    subst ek
    refine ⟨[(kk, b, v1)], ⟨rfl, rfl, key_of I2.hok eb, trivial⟩, dd, fun h' tk dd' hs => wpAny_pure ⟨.ref s.heap.objs.size, _, ?_, rfl, q2⟩⟩
    obtain ⟨qo, es, ep, hq, h2, h3, h4, _, h5⟩ := dd'
    refine d_write I2 (by rw [e]; exact True.intro) hs ⟨qo, hq⟩ ⟨by show 1 ≤ sizeLine; decide, hd, [(kk, b, v1)], .cons ⟨rfl, ?_, r1.2⟩ .nil, qo, es, ep, hq, h2, h3, h4, h5⟩
    show upd H2 s.heap.objs.size _ b = _
    rw [upd_ne (ne_of eb e (fun z => nomatch z))]
    exact eb
theorem s_dds (hu : X.A.units + 65 < cLine) (ha : PE X a (tV X.K F W ca)) (hb : PE X b (tV X.K F W cb)) : PE X (.Dict [some a] [b] pos) (tV X.K F W (.dds k ca cb)) := by
  refine PE.imp (pe_dispT hu ha hb) fun σ H Q ⟨G, r, s, h⟩ p hp => ?_
  rw [ev] at h
  have s0 := s.new (o := .dT []) hp (s.sz.put rfl fun xs w => by rcases w with w | w <;> cases w)
  have t0 := Stp.newH (o := .dT []) s hp
  have gp := s.gnone hp
  refine ⟨G, r, s0, (h.bnd.rebase t0).imp fun val r1 G1 H1 s1 t1 h1 v hv => ?_⟩
  obtain ⟨G2, s2, t2, e2, p2⟩ := frzV s1 t1 hv
  refine ⟨G2, r1, s2, (h1.bnd.rebase (t0.trans t2)).imp fun val' r3 G3 H3 s3 t3 h3 w hw => ?_⟩
  obtain ⟨G4, s4, t4, e4, p4⟩ := frzV s3 t3 hw
  have tt := t0.trans (t2.trans t4)
  have t24 := t2.trans t4
  have hp0 : (upd H p (.dT [])) p = some (.dT []) := upd_same
  have nS : ¬ OwnS G (upd H p (.dT [])) r p := s0.notS hp0 (fun q z => nomatch z) (fun n z => by rw [gp] at z; cases z)
  have nO : ¬ Own σ r p := s.nown hp
  have hp4 : H3 p = some (.dT []) := t24.keep p _ hp0 nO nS
  have gp4 : G4 p = none := by
    cases q : G4 p with
    | none => rfl
    | some o =>
      rcases t24.new p (by rw [q]; simp) with z | z | z | ⟨xs, z⟩
      · exact absurd gp z
      · exact absurd z nO
      · rw [hp0] at z; cases z
      · rw [hp4] at z; cases z
  have nO4 : ¬ Own σ r3 p := fun z => by
    rcases t24.own p z with z | z
    · exact nO z
    · rw [hp0] at z; cases z
  cases q : stoS r3 k with
  | none => rw [q] at h3; exact h3.elim
  | some S =>
    rw [q] at h3
    dsimp only at h3
    cases q2 : dPut (.dT []) val.toD val'.toD with
    | none => rw [q2] at h3; exact h3.elim
    | some ob =>
      rw [q2] at h3
      unfold dPut at q2
      split at q2
      · rename_i z _; cases z
      · rename_i z _; cases z
      · rename_i kvs ds v0 ez ed
        cases ez
        rw [if_pos (by decide)] at q2
        obtain ⟨ns, q3, q4⟩ := Option.map_eq_some_iff.mp q2
        rw [ed] at p2
        obtain ⟨b', rfl, q5⟩ := key_tup (p2.mono t4.ex) q3
        subst q4
        refine ⟨hp4, b', tKey ns, w, rfl, s4.ex _ _ q5 rfl, ?_⟩
        have hsz : Sz (upd H3 p (.dT [(tKey ns, w)])) := s4.sz.put rfl fun xs w => by rcases w with w | w <;> cases w
        -- the new dict, in the store
        have s5 : SR X.K G4 (upd H3 p (.dT [(tKey ns, w)])) σ r3 := s4.updN gp4 hp4 (fun _ z => nomatch z) (fun _ z => nomatch z) nO4 hsz
        have t5 : Stp σ r G H σ r3 G4 (upd H3 p (.dT [(tKey ns, w)])) := tt.updN hp hp4 (fun _ z => nomatch z) gp4
        obtain ⟨s6, t6, p6⟩ := toSto (ob := .dT (putB [] (tKey ns) val'.toD)) s5 t5 (stoS_some q) gp4 nO4 (by rw [upd_same]; simp) ⟨_, upd_same, .cons (p4.mono (same_frz gp4)) .nil⟩ (.inr hp) (fun C c fs z => by rw [upd_same] at z; cases z)
        exact h3 _ _ s6 t6 _ p6
      · cases q2
end
end SC

set_option Elab.async false
set_option maxRecDepth 100000
set_option maxHeartbeats 1000000
/-! SE3: dicts of the store sorted, walked. -/
namespace SC
open PySem L2

theorem sortI_eq {ns ys : List Int} (h : ys.Perm ns) (hs : ys.Pairwise (· ≤ ·)) : ys = sortI ns := by
  refine List.Perm.eq_of_pairwise (le := fun a b : Int => a ≤ b) (fun a b _ _ h1 h2 => by omega) hs ?_ (h.trans (List.mergeSort_perm ns _).symm)
  have := List.pairwise_mergeSort (le := fun a b : Int => decide (a ≤ b)) (fun a b c h1 h2 => by simp at *; omega) (fun a b => by simp; omega) ns
  exact this.imp fun h => by simpa using h
section
variable {K : PySem.W.Frag} {G G1 G2 G' H H1 H2 H' : Hp} {σ σ1 σ2 σ' : L2.St} {r r1 r2 r' : EV}
theorem kInts_go : ∀ {vs : List (Key × V)} {ds : List (Key × PyData)} {ns : List Int}, RKV K G vs ds → kInts ds = some ns → vs.map (·.1) = ns.map Sum.inl
  | _, _, ns, .nil, h => by cases h; rfl
  | _, _, ns, .cons (x := x) _ r, h => by
    cases x with
    | inl i =>
      obtain ⟨ms, h1, rfl⟩ := Option.map_eq_some_iff.mp h
      rw [List.map_cons, kInts_go r h1]
      rfl
    | inr z => cases h
theorem rps_ints : ∀ ns : List Int, Rps K G (ns.map V.int) (ns.map PyData.int)
  | [] => .nil
  | n :: ns => .cons (.int n) (rps_ints ns)
theorem RKV.getV {κ : Type} : ∀ {vs : List (κ × V)} {ds : List (κ × PyData)} {i : Nat} {k : κ} {v : V}, RKV K G vs ds → vs[i]? = some (k, v) → ∃ d, ds[i]? = some (k, d)
  | _, _, _, _, _, .nil, e => by simp at e
  | _, _, 0, _, _, .cons h _, e => by simp at e; obtain ⟨rfl, rfl⟩ := e; exact ⟨_, rfl⟩
  | _, _, i + 1, k, v, .cons _ r, e => by
    obtain ⟨d, h1⟩ := RKV.getV (i := i) (k := k) (v := v) r (by simpa using e)
    exact ⟨d, by simpa using h1⟩
theorem rps_keys : ∀ ks : List Key, Rps K G (ks.map kV) (ks.map keyV)
  | [] => .nil
  | .inl i :: ks => .cons (.int i) (rps_keys ks)
  | .inr x :: ks => .cons (.str x) (rps_keys ks)
theorem StoR.wr {n : Nat} {S : List Ob} {ob : Ob} {a : Addr} {o : HO} (st : StoR K G H S) (hg : G a = some (tg n)) (ho : ObR K G (upd H a o) a ob) : StoR K G (upd H a o) (S.set n ob) := by
  obtain ⟨ob0, q1, q2⟩ := st.at hg
  have sh := q2.sh
  have hlt : n < S.length := (List.getElem?_eq_some_iff.mp q1).1
  refine ⟨fun m o2 h => ?_, fun b m h => by rw [List.length_set]; exact st.lt b m h, st.one⟩
  by_cases e : m = n
  · subst e
    rw [List.getElem?_set_self hlt] at h
    cases h
    exact ⟨a, hg, ho⟩
  · rw [List.getElem?_set_ne (Ne.symm e)] at h
    obtain ⟨b, h1, h2⟩ := st.ob m o2 h
    have nb : b ≠ a := fun z => by
      subst z
      rw [hg] at h1
      exact e (tg_inj (Option.some.inj h1)).symm
    refine ⟨b, h1, h2.mono (Same.refl _) (fun c u q w => ?_) fun _ _ z => z⟩
    rw [upd_ne]
    · exact q
    · intro z; subst z
      rcases w with w | w
      · exact nb w.symm
      · rw [w] at q; exact sh.2.2 b q
/-- a thing of the store is written, whether it is locked or not -/
theorem SR.setO {k n : Nat} {S S' : List Ob} {a : Addr} {o : HO} (s : SR K G H σ r) (hS : r[k]? = some (some (.sto S))) (hg : G a = some (tg n)) (hz : Sz (upd H a o)) (st : StoR K G (upd H a o) S') : SR K G (upd H a o) σ (r.set k (some (.sto S'))) := by
  refine ⟨fun b u q hu => ?_, by rw [List.length_set]; exact s.len, fun j val q hv => ?_, fun i j b ds es h1 h2 h3 h4 => ?_, hz, fun j S2 q => ?_, st.tgd, fun i j S1 S2 q1 q2 => ?_⟩
  · rw [upd_ne]
    · exact s.ex b u q hu
    · intro e; subst e
      rw [hg] at q
      cases q
      rw [tg_is] at hu
      cases hu
  · rcases stoSet_get hS q with ⟨_, z⟩ | ⟨_, z⟩
    · exact absurd z (hv S')
    · obtain ⟨v, h1, h2⟩ := s.slot j val z hv
      refine ⟨v, h1, ?_⟩
      cases val with
      | fz d => exact h2
      | ol ds =>
        obtain ⟨b, vs, e, h3, h4, h5⟩ := h2
        refine ⟨b, vs, e, h3, ?_, h5⟩
        rw [upd_ne]
        · exact h4
        · intro z2; subst z2; rw [h3] at hg; cases hg
      | sto S2 => exact h2
  · rcases stoSet_get hS h1 with ⟨_, z⟩ | ⟨_, z⟩
    · cases z
    · rcases stoSet_get hS h3 with ⟨_, z3⟩ | ⟨_, z3⟩
      · cases z3
      · exact s.uniq i j b ds es z h2 z3 h4
  · rcases stoSet_get hS q with ⟨_, z⟩ | ⟨e, z⟩
    · cases z; exact st
    · exact absurd (s.sone j k S2 S z hS) e
  · rcases stoSet_get hS q1 with ⟨e1, _⟩ | ⟨e1, z1⟩
    · rcases stoSet_get hS q2 with ⟨e2, _⟩ | ⟨e2, z2⟩
      · rw [e1, e2]
      · exact absurd (s.sone j k S2 S z2 hS) e2
    · exact absurd (s.sone i k S1 S z1 hS) e1
theorem own_set {k : Nat} {S S' : List Ob} (hS : r[k]? = some (some (.sto S))) {a : Addr} (h : Own σ (r.set k (some (.sto S'))) a) : Own σ r a := by
  obtain ⟨j, ds, h1, h2⟩ := h
  rcases stoSet_get hS h1 with ⟨_, z⟩ | ⟨_, z⟩
  · cases z
  · exact ⟨j, ds, z, h2⟩
/-- what stands locked is not owned -/
theorem lk_not {k n : Nat} {S : List Ob} {lk : Ob} {a : Addr} {o : HO} (s : SR K G H σ r) (hS : r[k]? = some (some (.sto S))) (hn : S[n]? = some lk) (hf : lk.free = false) (hg : G a = some (tg n)) (ho : H a = some o) (hw : ∀ p, o ≠ .own p) : ¬ OwnS G H r a := fun w => by
  obtain ⟨i, S', m, o2, h1, h2, h3, h4⟩ := w
  have e := s.sone i k S' S h1 hS
  subst e
  rw [hS] at h1
  cases h1
  rcases h4 with h4 | h4
  · rw [hg] at h4
    have := tg_inj (Option.some.inj h4)
    subst this
    rw [hn] at h2
    cases h2
    rw [hf] at h3
    cases h3
  · rcases s.ownedS ⟨_, _, m, o2, hS, h2, h3, .inr h4⟩ with _ | ⟨p, _, _, z, _⟩
    · obtain ⟨p, C, fs, h5, h6⟩ := h4
      obtain ⟨ob, q1, q2⟩ := (s.sto _ _ hS).at h5
      rw [h2] at q1
      cases q1
      cases o2 with
      | ins c fs' =>
        obtain ⟨C', dx, vs, _, g3, g4, g5, _⟩ := q2
        rw [g3] at h6
        cases h6
        rw [ho] at g4
        exact hw p (Option.some.inj g4)
      | lst ds => obtain ⟨vs, g3, _⟩ := q2; rw [g3] at h6; cases h6
      | dK ds => obtain ⟨vs, g3, _⟩ := q2; rw [g3] at h6; cases h6
      | dT ds => obtain ⟨vs, g3, _⟩ := q2; rw [g3] at h6; cases h6
      | lkL ds => cases h3
      | lkK ds => cases h3
      | lkT ds => cases h3
    · rw [ho] at z
      exact hw p (Option.some.inj z)
/-- what was locked is free again -/
theorem unlock {k n : Nat} {S S2 : List Ob} {ob lk : Ob} {a : Addr} {od : Obj} {u : HO} (s : SR K G H σ r) (hS : r[k]? = some (some (.sto S))) (hn : S[n]? = some ob) (hf : ob.free = true) (hlk : lk.free = false) (hg : G a = some (tg n)) (hu : H a = some u) (hui : ∀ C c fs, u ≠ .ins C c fs) (hut : ∀ xs, u ≠ .tup xs)
    (s2 : SR K G2 H2 σ2 r2) (t : Stp σ (r.set k (some (.sto (S.set n lk)))) G (upd H a (.frz od u)) σ2 r2 G2 H2) (hS2 : r2[k]? = some (some (.sto S2))) (h2 : H2 a = some (.frz od u)) (ho : ObR K G2 (upd H2 a u) a ob) (hz : Sz (upd H2 a u)) :
    SR K G2 (upd H2 a u) σ2 (r2.set k (some (.sto (S2.set n ob)))) ∧ Stp σ r G H σ2 (r2.set k (some (.sto (S2.set n ob)))) G2 (upd H2 a u) := by
  have hg2 := t.ex _ _ hg
  have ow : OwnS G H r a := ⟨k, S, n, ob, hS, hn, hf, .inl hg⟩
  have rr : (r.set k (some (.sto (S.set n lk))))[k]? = some (some (.sto (S.set n lk))) := List.getElem?_set_self (List.getElem?_eq_some_iff.mp hS).1
  have up : ∀ b, b ≠ a → upd H a (.frz od u) b = H b := fun b e => upd_ne e
  have owS : ∀ b, OwnS G (upd H a (.frz od u)) (r.set k (some (.sto (S.set n lk)))) b → OwnS G H r b := fun b w => by
    obtain ⟨i, S', m, o2, h1, h3, h4, h5⟩ := w
    rcases stoSet_get hS h1 with ⟨_, z⟩ | ⟨e, z⟩
    · cases z
      by_cases e : m = n
      · subst e
        rw [List.getElem?_set_self (List.getElem?_eq_some_iff.mp hn).1] at h3
        cases h3
        rw [hlk] at h4
        cases h4
      · rw [List.getElem?_set_ne (Ne.symm e)] at h3
        refine ⟨k, S, m, o2, hS, h3, h4, h5.imp id fun ⟨p, C, fs, h6, h7⟩ => ⟨p, C, fs, h6, ?_⟩⟩
        rw [upd_ne] at h7
        · exact h7
        · intro z; subst z; rw [upd_same] at h7; cases h7
    · exact absurd (s.sone i k S' S z hS) e
  refine ⟨s2.setO hS2 hg2 hz ((s2.sto k S2 hS2).wr hg2 ho), ⟨t.ex, fun b o q w m => ?_, fun b q => ?_, fun b xs q => ?_, fun b q => ?_, fun b q => ?_, fun b q => ?_, fun b m q => ?_, fun _ => ⟨k, S, hS⟩⟩⟩
  · have nb : b ≠ a := fun z => by subst z; exact m ow
    rw [upd_ne nb]
    exact t.keep b o (by rw [up b nb]; exact q) (fun z => w (own_set hS z)) fun z => m (owS b z)
  · have nb : b ≠ a := fun z => by subst z; rw [upd_same] at q; cases q
    rw [upd_ne nb] at q
    have := t.dom b q
    rw [up b nb] at this
    exact this
  · have nb : b ≠ a := fun z => by subst z; rw [hu] at q; exact hut xs (Option.some.inj q)
    rw [upd_ne nb]
    exact t.tups b xs (by rw [up b nb]; exact q)
  · rcases t.new b q with z | z | z | ⟨xs, z⟩
    · exact .inl z
    · exact .inr (.inl (own_set hS z))
    · have nb : b ≠ a := fun e => by subst e; rw [upd_same] at z; cases z
      rw [up b nb] at z
      exact .inr (.inr (.inl z))
    · have nb : b ≠ a := fun e => by subst e; rw [h2] at z; cases z
      exact .inr (.inr (.inr ⟨xs, by rw [upd_ne nb]; exact z⟩))
  · rcases t.own b (own_set hS2 q) with z | z
    · exact .inl (own_set hS z)
    · have nb : b ≠ a := fun e => by subst e; rw [upd_same] at z; cases z
      rw [up b nb] at z
      exact .inr z
  · obtain ⟨i, S', m, o2, h1, h3, h4, h5⟩ := q
    rcases stoSet_get hS2 h1 with ⟨_, z⟩ | ⟨e, z⟩
    · cases z
      by_cases e : m = n
      · subst e
        have st2 := s2.sto k S2 hS2
        rcases h5 with h5 | ⟨p, C, fs, h6, h7⟩
        · rw [st2.one b a m h5 hg2]
          exact .inl ow
        · rw [st2.one p a m h6 hg2, upd_same] at h7
          exact absurd (Option.some.inj h7) (hui C b fs)
      · rw [List.getElem?_set_ne (Ne.symm e)] at h3
        have w : OwnS G2 H2 r2 b := ⟨k, S2, m, o2, hS2, h3, h4, h5.imp id fun ⟨p, C, fs, h6, h7⟩ => ⟨p, C, fs, h6, by
          rw [upd_ne] at h7
          · exact h7
          · intro z; subst z; rw [upd_same] at h7; exact absurd (Option.some.inj h7) (hui C b fs)⟩⟩
        rcases t.ows b w with z | z | z
        · exact .inl (owS b z)
        · exact .inr (.inl (own_set hS z))
        · have nb : b ≠ a := fun e => by subst e; rw [upd_same] at z; cases z
          rw [up b nb] at z
          exact .inr (.inr z)
    · exact absurd (s2.sone i k S' S2 z hS2) e
  · rcases t.tgs b m q with z | z
    · exact .inl z
    · exact .inr ⟨k, S, hS⟩
/-- a tuple that stands comes into the frozen part -/
theorem frzTup {q : Addr} {xs : List V} (s : SR K G H σ r) (h : H q = some (.tup xs)) : ∃ G', SR K G' H σ r ∧ Stp σ r G H σ r G' H ∧ G' q = some (.tup xs) ∧ Same G G' := by
  cases e : G q with
  | none =>
    have no : ¬ Own σ r q := fun w => by
      obtain ⟨_, vs, z⟩ := s.owned w
      rw [h] at z; cases z
    refine ⟨upd G q (.tup xs), s.frz h e no (fun _ z => nomatch z), ⟨same_frz e, fun _ _ z _ _ => z, fun _ z => z, fun _ _ z => z, fun b z => ?_, fun b z => .inl z, fun b z => .inl (own_frz rfl z), fun b n z => .inl (tg_frz rfl z), id⟩, upd_same, same_frz e⟩
    by_cases eb : b = q
    · subst eb; exact .inr (.inr (.inr ⟨xs, h⟩))
    · rw [upd_ne eb] at z; exact .inl z
  | some o =>
    cases w : isTg o with
    | true =>
      obtain ⟨n, e2⟩ := isTg_eq w
      subst e2
      exact absurd h ((s.tgd q n e).2 xs)
    | false =>
      have := s.ex q o e w
      rw [h] at this
      cases this
      exact ⟨G, s, Stp.refl, e, Same.refl _⟩
end
section
variable {X : Cx} {F : Fs} {W : Nat → L2.St → Hp → Prop} {C : Nat → Addr} {pos p px py apos cpos : Pos} {a b c e o : Expr} {ca cb cc ce co ces : CE} {es : List Expr} {cs : CS} {k : Nat}
/-- sorted(o), a dict whose keys are whole numbers -/
theorem s_dst (hc : X.calm = true) (hg : Gl X "sorted") (hm : X.mg "sorted" = none) (hs : PySem.W.isStarred o = false) (ho : PE X o (tV X.K F W co)) : PE X (.Call (.Name "sorted" p) [o] [] pos) (tV X.K F W (.dst k co)) := by
  refine PE.imp (pe_callB (call_sortedDI hc) hg hm (by decide +kernel) (s_cons (F := F) (W := W) hs ho s_nil) (by decide) (by decide) (star_ok hs)) fun σ H Q ⟨G, r, s, h⟩ => ⟨G, r, s, ?_⟩
  rw [ev] at h
  have e2 : evs F (.cons co .nil) r = (ev F co r).bnd fun v r1 => .ok [v.toD] r1 := by
    rw [evs]
    cases ev F co r with
    | ok v r1 => rw [bnd_ok, bnd_ok, evs]; rfl
    | exc c r1 => rfl
    | bad => rfl
  rw [e2]
  cases q : ev F co r with
  | bad => rw [q] at h; exact h.elim
  | exc c r1 => rw [q] at h; exact h
  | ok val r1 =>
    rw [q, bnd_ok] at h
    rw [bnd_ok]
    intro G1 H1 s1 t1 vs hvs
    cases hvs with
    | cons hv hn =>
      cases hn
      cases q1 : obN r1 k val.toD with
      | none => rw [q1] at h; exact h.elim
      | some x =>
        obtain ⟨n, S, ob⟩ := x
        rw [q1] at h
        obtain ⟨ad, rfl, _, g1, g2, g3, g4⟩ := obN_go s1 q1 hv
        cases ob with
        | dK kvs =>
          dsimp only at h
          cases q2 : kInts kvs with
          | none => rw [q2] at h; exact h.elim
          | some ns =>
            rw [q2] at h
            dsimp only at h
            by_cases c : ns.length < 64
            · rw [if_pos c] at h
              obtain ⟨ws, w1, w2⟩ := g4
              refine ⟨ad, ws, ns, rfl, .inl w1, kInts_go w2 q2, c, fun ys p hp1 hp2 hp => ?_⟩
              have ey := sortI_eq hp1 hp2
              subst ey
              have zl : ((sortI ns).map V.int).length ≤ sizeLine := by
                have := sizeLine_eq
                rw [List.length_map, hp1.length_eq]
                omega
              obtain ⟨s2, t2, r2⟩ := newLst s1 hp (rps_ints (sortI ns)) zl
              exact h _ _ s2 (t1.trans t2) _ (r2.base t1)
            · rw [if_neg c] at h
              exact h.elim
        | _ => exact h.elim
theorem lock_go {K : PySem.W.Frag} {G H : Hp} {σ : L2.St} {r : EV} {n : Nat} {S : List Ob} {lk : Ob} {ad : Addr} {od : Obj} {u : HO} (s : SR K G H σ r) (hS : r[k]? = some (some (.sto S))) (hg : G ad = some (tg n)) (ho : ObR K G (upd H ad (.frz od u)) ad lk) : SR K G (upd H ad (.frz od u)) σ (r.set k (some (.sto (S.set n lk)))) :=
  s.setO hS hg (s.sz.put rfl fun xs w => by rcases w with w | w <;> cases w) ((s.sto k S hS).wr hg ho)
/-- for x in y, y a dict of the store -/
theorem x_forK {i j : Nat} {x y : Str} {body : List Stmt} (hp : PassesOwn (model X.prog X.w) X.A X.env X.xe) (hc : X.calm = true) (hN : X.N.Nodup) (hi : X.N[i]? = some x) (hx : Loc X.env.scope x) (hf : X.fn x = true ∨ X.env.scope.names.lookup x = some .local)
    (hj : X.N[j]? = some y) (hv : Vis X.env.scope y) (hd : (y == ("__debug__" : Str)) = false) (hcd : (y == ("__classdict__" : Str)) = false) (hb : PSs X body (tS X.K F W cs)) :
    PS X (.For (.Name x px) (.Name y py) body [] pos) (tS X.K F W (.forK k j i cs)) := by
  refine PS.imp (ps_lock (ps_for hp hc (pi_keys (pe_var hj hv hd hcd)) (pg_name hN hi hx hf) hb (fun z => rfl))) fun D σ H ⟨G, r, s, h⟩ => ?_
  rw [exec] at h
  cases eg : getS r j with
  | none => rw [eg] at h; exact h.elim
  | some val =>
    rw [eg] at h
    cases val with
    | ol ds => exact h.elim
    | sto S => exact h.elim
    | fz d =>
      dsimp only at h
      cases q1 : obN r k d with
      | none => rw [q1] at h; exact h.elim
      | some z =>
        obtain ⟨n, S, ob⟩ := z
        rw [q1] at h
        dsimp only at h
        obtain ⟨v, hσ, hv0⟩ := s.slot j _ (getS_some eg) ns_fz
        obtain ⟨ad, rfl, ed, g1, g2, g3, g4⟩ := obN_go s q1 hv0
        -- the loop, for either kind of dict
        have main : ∀ (lk : Ob) (ks : List PyData) (u : HO) (od : Obj) (J : It), lk.free = false → ob.free = true → H ad = some u → (∀ C c fs, u ≠ .ins C c fs) → (∀ xs, u ≠ .tup xs) → (∀ xs, u ≠ .lst xs) → (∀ q, u ≠ .own q) → isTg u = false →
            ObR X.K G (upd H ad (.frz od u)) ad lk → (∀ G' H', Same G G' → H' ad = some (.frz od u) → ObR X.K G' (upd H' ad u) ad ob) →
            Ge X.K W D σ r G H (unlk k n ob (forLoop false [i] (exec F cs) ks (r.set k (some (.sto (S.set n lk)))))) →
            (Walk J ks.length (fun H' => H' ad = some (.frz od u)) fun m H' x H'' => H'' = H' ∧ ∃ d', ks[m]? = some d' ∧ ∀ σ' r' G', SR X.K G' H' σ' r' → ∃ G'', SR X.K G'' H' σ' r' ∧ Stp σ' r' G' H' σ' r' G'' H' ∧ Rp X.K G'' x d') →
            ∃ W' : Nat → Nat → L2.St → Hp → Prop, (∃ m, W' 0 m σ (upd H ad (.frz od u))) ∧ ∀ m m2 σ' H', W' m m2 σ' H' →
              (J.stop m H' ∧ (H' ad = some (.frz od u) ∧ D.nx σ' (upd H' ad u))) ∨ (J.go m H' ∧ ∃ N : L2.St → Hp → Prop, (∀ σ2 H2, N σ2 H2 → ∃ m', m' < m2 ∧ W' (m + 1) m' σ2 H2) ∧ ∀ x H2, J.yld m H' x H2 → gName i x σ' H2 fun σ3 H3 => tS X.K F W cs
                { nx := N, rt := fun v H' => H' ad = some (.frz od u) ∧ D.rt v (upd H' ad u), bk := fun σ' H' => H' ad = some (.frz od u) ∧ D.nx σ' (upd H' ad u), ct := N } σ3 H3) := fun lk ks u od J hlk hf hu hui hut hul huo hutg ho1 ho2 hge wk => by
          have s1 := lock_go s g2 g1 ho1
          have rS : (r.set k (some (.sto (S.set n lk))))[k]? = some (some (.sto (S.set n lk))) := List.getElem?_set_self (List.getElem?_eq_some_iff.mp g2).1
          have nn : (S.set n lk)[n]? = some lk := List.getElem?_set_self (List.getElem?_eq_some_iff.mp g3).1
          have hfz : (upd H ad (.frz od u)) ad = some (.frz od u) := upd_same
          have nO : ¬ Own σ (r.set k (some (.sto (S.set n lk)))) ad := fun w => by
            obtain ⟨w1, _⟩ := s1.owned w
            rw [g1] at w1; cases w1
          have nS : ¬ OwnS G (upd H ad (.frz od u)) (r.set k (some (.sto (S.set n lk)))) ad := lk_not s1 rS nn hlk g1 hfz (fun _ z => nomatch z)
          -- at the end of the loop
          have fin : ∀ {f : Flow} {r2 : EV} {σ2 : L2.St} {G2 H2 : Hp}, Ge X.K W D σ r G H (unlk k n ob (.ok f r2)) → SR X.K G2 H2 σ2 r2 → Stp σ (r.set k (some (.sto (S.set n lk)))) G (upd H ad (.frz od u)) σ2 r2 G2 H2 →
              H2 ad = some (.frz od u) ∧ ∃ S2 : List Ob, SR X.K G2 (upd H2 ad u) σ2 (r2.set k (some (.sto (S2.set n ob)))) ∧ Stp σ r G H σ2 (r2.set k (some (.sto (S2.set n ob)))) G2 (upd H2 ad u) ∧ Ge X.K W D σ r G H (.ok f (r2.set k (some (.sto (S2.set n ob))))) := fun {f r2 σ2 G2 H2} h s2 t2 => by
            have h2 : H2 ad = some (.frz od u) := t2.keep ad _ hfz nO nS
            dsimp only [unlk] at h
            cases q : stoS r2 k with
            | none => rw [q] at h; exact h.elim
            | some S2 =>
              rw [q] at h
              have hz : Sz (upd H2 ad u) := s2.sz.put hutg fun xs w => by
                rcases w with w | w
                · exact absurd w (hul xs)
                · exact absurd w (hut xs)
              obtain ⟨s3, t3⟩ := unlock s g2 g3 hf hlk g1 hu hui hut s2 t2 (stoS_some q) h2 (ho2 G2 H2 t2.ex h2) hz
              exact ⟨h2, S2, s3, t3, h⟩
          refine for_it (D := { nx := fun σ' H' => H' ad = some (.frz od u) ∧ D.nx σ' (upd H' ad u), rt := fun v H' => H' ad = some (.frz od u) ∧ D.rt v (upd H' ad u), bk := fun σ' H' => H' ad = some (.frz od u) ∧ D.bk σ' (upd H' ad u), ct := fun σ' H' => H' ad = some (.frz od u) ∧ D.ct σ' (upd H' ad u) }) wk
            (fun m σc Hc => ∃ Gc rc, SR X.K Gc Hc σc rc ∧ Stp σ (r.set k (some (.sto (S.set n lk)))) G (upd H ad (.frz od u)) σc rc Gc Hc ∧ Ge X.K W D σ r G H (unlk k n ob (forLoop false [i] (exec F cs) (ks.drop m) rc))) ?_ ?_ ?_ ?_
          · exact ⟨G, _, s1, Stp.refl, hge⟩
          · rintro m σc Hc hm ⟨Gc, rc, sc, tc, hl⟩
            exact tc.keep ad _ hfz nO nS
          · rintro m x' σc Hc H'' hm ⟨Gc, rc, sc, tc, hl⟩ ⟨e1, d', e2, yy⟩
            subst e1
            obtain ⟨Gy, sy, ty, py⟩ := yy σc rc Gc sc
            have hdrop : ks.drop m = d' :: ks.drop (m + 1) := by
              obtain ⟨hlt, e⟩ := List.getElem?_eq_some_iff.mp e2
              rw [List.drop_eq_getElem_cons hlt, e]
            rw [hdrop] at hl
            unfold forLoop at hl
            dsimp only [setT] at hl
            obtain ⟨s3, t3⟩ := setFz (i := i) sy py
            refine ⟨Gy, rc.set i (some (.fz d')), s3, ?_⟩
            have tb := tc.trans (ty.trans t3)
            cases hx' : exec F cs (rc.set i (some (.fz d'))) with
            | bad => rw [hx'] at hl; exact hl.elim
            | exc kx r' => rw [hx'] at hl; exact hl.elim
            | ok f r' =>
              rw [hx'] at hl
              cases f with
              | nx => exact fun σ' G' H' s' t' => ⟨G', r', s', tb.trans t', hl⟩
              | ct => exact fun σ' G' H' s' t' => ⟨G', r', s', tb.trans t', hl⟩
              | bk =>
                intro σ' G' H' s' t'
                obtain ⟨f1, S2, f2, f3, f4⟩ := fin (f := .nx) hl s' (tb.trans t')
                exact ⟨f1, f4 _ _ _ f2 f3⟩
              | rt val =>
                intro v σ' G' H' s' t' hv'
                obtain ⟨f1, S2, f2, f3, f4⟩ := fin (f := .rt val) hl s' (tb.trans t')
                refine ⟨f1, f4 v _ _ _ f2 f3 ?_⟩
                have hv2 := hv'.base tb
                cases val with
                | fz d => exact hv2
                | ol ds =>
                  obtain ⟨p, vs, e1, e2, e3, e4, e5, e6⟩ := hv2
                  have np : p ≠ ad := fun z => by subst z; rw [f1] at e3; cases e3
                  refine ⟨p, vs, e1, e2, by rw [upd_ne np]; exact e3, e4, fun w => e5 ?_, e6.imp (fun w => own_set g2 w) fun w => ?_⟩
                  · cases q : stoS r' k with
                    | none => dsimp only [unlk] at hl; rw [q] at hl; exact hl.elim
                    | some S3 => exact own_set (stoS_some q) w
                  · rw [upd_ne np] at w; exact w
                | sto S3 => exact hv2
          · rintro σc Hc ⟨Gc, rc, sc, tc, hl⟩
            rw [List.drop_length] at hl
            obtain ⟨f1, S2, f2, f3, f4⟩ := fin (f := .nx) hl sc tc
            exact ⟨f1, f4 _ _ _ f2 f3⟩
        cases ob with
        | dK kvs =>
          obtain ⟨ws, w1, w2⟩ := g4
          refine ⟨ad, .dK ws, w1, trivial, fun od => ⟨_, hσ, ad, od, rfl, .inl ⟨ws, upd_same, ?_⟩⟩⟩
          refine main (.lkK kvs) _ (.dK ws) od _ rfl rfl w1 (fun _ _ _ z => nomatch z) (fun _ z => nomatch z) (fun _ z => nomatch z) (fun _ z => nomatch z) rfl ⟨od, ws, upd_same, w2⟩ (fun G' H' e _ => ⟨ws, upd_same, w2.mono e⟩) h ?_
          have hl : (kvs.map fun p => keyV p.1).length = ws.length := by rw [List.length_map, w2.length]
          rw [hl]
          refine walk_keys.mono (fun H q => q) fun m H' x' H'' hm _ ⟨e1, kk, vv, e2, e3⟩ => ⟨e1, keyV kk, ?_, fun σ' r' G' s' => ⟨G', s', Stp.refl, ?_⟩⟩
          · obtain ⟨d', e4⟩ := w2.getV e2
            rw [List.getElem?_map, e4]
            rfl
          · rw [e3]
            cases kk with
            | inl z => exact .int z
            | inr z => exact .str z
        | dT kvs =>
          obtain ⟨ws, w1, w2⟩ := g4
          refine ⟨ad, .dT ws, w1, trivial, fun od => ⟨_, hσ, ad, od, rfl, .inr ⟨ws, upd_same, ?_⟩⟩⟩
          refine main (.lkT kvs) _ (.dT ws) od _ rfl rfl w1 (fun _ _ _ z => nomatch z) (fun _ z => nomatch z) (fun _ z => nomatch z) (fun _ z => nomatch z) rfl ⟨od, ws, upd_same, w2⟩ (fun G' H' e _ => ⟨ws, upd_same, w2.mono e⟩) h ?_
          have hl : (kvs.map fun p => PyData.tuple (p.1.map keyV)).length = ws.length := by rw [List.length_map, w2.length]
          rw [hl]
          refine walk_keysT.mono (fun H q => q) fun m H' x' H'' hm _ ⟨e1, kk, vv, q', e2, e3, e4⟩ => ⟨e1, .tuple (kk.map keyV), ?_, fun σ' r' G' s' => ?_⟩
          · obtain ⟨d', e5⟩ := w2.getV e2
            rw [List.getElem?_map, e5]
            rfl
          · obtain ⟨G2, s2, t2, g2', e5⟩ := frzTup s' e4
            refine ⟨G2, s2, t2, ?_⟩
            rw [e3]
            exact .tup g2' (rps_keys kk)
        | _ => exact h.elim
end
end SC

set_option Elab.async false
set_option maxRecDepth 100000
set_option maxHeartbeats 1000000
/-! SE6: methods of lists that only look: index, count. -/
namespace SC
open PySem L2 PyProof.Rows
section
variable {X : Cx}
def rCntD (K : PySem.W.Frag) : V → List V → Hp → VK → Prop := fun x xs H Q => ∃ (a : Addr) (y : V) (d : PyData) (ds : List PyData), x = V.ref a ∧ xs = [y] ∧ Dp K H (V.ref a) (.list ds) ∧ Dp K H y d ∧ SeqAt.shaped (.list ds) = true ∧ SeqAt.shaped d = true ∧ Q (.int ((ds.countP fun z => PyData.eqv z d : Nat) : Int)) H
theorem mt_countD (hu : X.A.units + 65 < cLine) : MtR X "list.count" (rCntD X.K) := by
  intro pins s σ H x xs v us Q I rx rxs h
  obtain ⟨a, y, d, ds, rfl, rfl, hl, hy, sl, sd, q⟩ := h
  cases rx
  cases rxs with
  | cons ry rt =>
    rename_i uy ut
    cases rt
    obtain ⟨bs, r1⟩ := Dp.reads I d y uy hy ry
    have hxs : PyData.canLayAll0 ds = true := SeqAt.canLay_of_shaped sl
    have hroom : X.A.units + 1 + min (PyData.depthAll ds) d.depth < cLine := room_in_shaped sd hu
    cases hl with
    | lst hs ha =>
      obtain ⟨its, rv, ⟨⟨cls, dd, data, sls⟩, n, ho, hc, hdn, hdt⟩, hlen⟩ := I.list hs
      simp only at hc hdt
      subst hc hdt
      obtain ⟨as, h4⟩ := Dp.readsAll I ds _ its ha rv
      have hmap : its.map (SeqAt.readOf s.heap) = ds := SeqAt.readsAll_map ds its as hxs h4
      have ec : its.toArray.toList.countP (fun u => PyData.eqv (SeqAt.readOf s.heap u) d) = ds.countP fun z => PyData.eqv z d := by
        rw [← hmap, List.countP_map]
        rfl
      refine call_meets PySem.F.slot_list_count ⟨_, ho, rfl⟩ PySem.F.entry_list_count (PySem.F.args_list_count_2 _ _)
        (SeqAt.list_countAt a its.toArray n dd sls uy (fun u => PyData.eqv (SeqAt.readOf s.heap u) d)) ⟨ho, SeqAt.items_eqAt (vs := its.toArray) (show ReadsAll s.heap its.toArray.toList ds as from h4) r1 hxs (SeqAt.canLay_of_shaped sd) hroom, ?_⟩
      refine ⟨.int ((ds.countP fun z => PyData.eqv z d : Nat) : Int), H, I.tok _, ⟨s.toks, ?_⟩, q⟩
      show Value.int ((its.toArray.toList.countP (fun u => PyData.eqv (SeqAt.readOf s.heap u) d) : Nat) : Int) s.toks = _
      rw [ec]
end
section
variable {K : PySem.W.Frag} {G G1 G2 G' H H1 H2 H' : Hp} {σ σ1 σ2 σ' : L2.St} {r r1 r2 r' : EV} {W : Nat → L2.St → Hp → Prop} {α β : Type} {F : Fs}
theorem opm_go {a b : CE} {f : PyData → PyData → EV → Out Val} {R : Val → EV → Hp → Hp → Prop} {P : V → V → Hp → Prop} (s : SR K G H σ r) (h : Gd K W σ r G H (opm a b r (ev F a r) (ev F b) f) R)
    (k : ∀ x y d d' r2 G2 H2, SR K G2 H2 σ r2 → Stp σ r G H σ r2 G2 H2 → OV K G2 H2 x d → OV K G2 H2 y d' → Gd K W σ r2 G2 H2 (f d d' r2) R → P x y H2) :
    tO K F W a σ H fun x H1 => tyV K "list" x H1 ∧ tO K F W b σ H1 fun y H2 => P x y H2 := by
  unfold opm at h
  refine ⟨G, r, s, h.bnd.imp fun o r1 G1 H1 s1 t1 h1 x hx => ?_⟩
  obtain ⟨d0, e0, h1⟩ := h1.ofB
  have ov := hx.ov s1 e0
  by_cases c : isLstD d0 = true
  · rw [if_pos c] at h1
    cases d0 with
    | list ds =>
      obtain ⟨p, vs, rfl, hl, _⟩ := ov.lst s1
      refine ⟨.inl ⟨rfl, vs, SqL.of hl⟩, G1, r1, s1, (h1.rebase t1).bnd.imp fun o' r2 G2 H2 s2 t2 h2 y hy => ?_⟩
      obtain ⟨d, e1, h3⟩ := h2.ofB
      obtain ⟨d', e2, h4⟩ := h3.ofB
      exact k _ y d d' r2 G2 H2 s2 (t1.trans t2) ((hx.mono t2.ex).ov s2 e1) (hy.ov s2 e2) (h4.rebase t2)
    | _ => cases c
  · rw [if_neg c] at h1
    exact h1.elim
end
section
variable {X : Cx} {F : Fs} {W : Nat → L2.St → Hp → Prop} {pos p : Pos} {a b : Expr} {ca cb : CE}
theorem s_cnt {apos : Pos} (hu : X.A.units + 65 < cLine) (hs : PySem.W.isStarred b = false) (hb0 : attributeBase a "count" X.env (eval a X.env) = eval a X.env) (hl : (apos.endLine == pos.line) = true) (ha : PE X a (tO X.K F W ca)) (hb : PE X b (tO X.K F W cb)) :
    PE X (.Call (.Attribute a "count" apos) [b] [] pos) (tV X.K F W (.cnt ca cb)) := by
  refine PE.imp (pe_bm PySem.F.plainAttrs_list PySem.F.slot_list_count PySem.F.type_list_count (mt_countD hu) ha (pa_cons hb pa_nil (star_ok hs)) hb0 (by rw [star_ok hs]; rfl) hl (star_ok hs) rfl) fun σ H Q ⟨G, r, s, h⟩ => ?_
  rw [ev] at h
  refine opm_go s h fun x y d d' r2 G2 H2 s2 t2 hx hy h2 => ?_
  obtain ⟨val, e, k⟩ := h2.kv s2 t2
  unfold cntD at e
  split at e
  · rename_i d ds
    split at e
    · rename_i c
      rw [Bool.and_eq_true] at c
      cases e
      obtain ⟨p, vs, rfl, _, _⟩ := hx.lst s2
      exact ⟨p, y, _, ds, rfl, rfl, hx.dp s2 c.2, hy.dp s2 c.1, c.2, c.1, k.fz s2 (.int _)⟩
    · cases e
  · cases e
theorem s_fnd {apos : Pos} (hu : X.A.units + 65 < cLine) (hs : PySem.W.isStarred b = false) (hb0 : attributeBase a "index" X.env (eval a X.env) = eval a X.env) (hl : (apos.endLine == pos.line) = true) (ha : PE X a (tO X.K F W ca)) (hb : PE X b (tO X.K F W cb)) :
    PE X (.Call (.Attribute a "index" apos) [b] [] pos) (tV X.K F W (.fnd ca cb)) := by
  refine PE.imp (pe_bm PySem.F.plainAttrs_list PySem.F.slot_list_index PySem.F.type_list_index (mt_indexD hu) ha (pa_cons hb pa_nil (star_ok hs)) hb0 (by rw [star_ok hs]; rfl) hl (star_ok hs) rfl) fun σ H Q ⟨G, r, s, h⟩ => ?_
  rw [ev] at h
  refine opm_go s h fun x y d d' r2 G2 H2 s2 t2 hx hy h2 => ?_
  obtain ⟨val, e, k⟩ := h2.kv s2 t2
  unfold fndD at e
  split at e
  · rename_i d ds
    split at e
    · rename_i c
      rw [Bool.and_eq_true] at c
      obtain ⟨j, e1, e2⟩ := Option.map_eq_some_iff.mp e
      cases e2
      obtain ⟨p, vs, rfl, _, _⟩ := hx.lst s2
      obtain ⟨hj, h5, h6⟩ := List.findIdx?_eq_some_iff_getElem.mp e1
      refine ⟨p, y, _, ds, j, ds[j], rfl, rfl, hx.dp s2 c.2, hy.dp s2 c.1, c.2, c.1, List.getElem?_eq_getElem hj, h5, fun m z hm hz => ?_, k.fz s2 (.int _)⟩
      obtain ⟨hmd, rfl⟩ := List.getElem?_eq_some_iff.mp hz
      have := h6 m hm
      simpa using this
    · cases e
  · cases e
end
end SC

set_option Elab.async false
set_option maxRecDepth 100000
set_option maxHeartbeats 1000000
/-! SG1: instances of classes: attributes, methods, new ones; a list of the store is written. -/
namespace SC
open PySem L2

section
variable {K : PySem.W.Frag} {G G1 G2 G' H H1 H2 H' : Hp} {σ σ1 σ2 σ' : L2.St} {r r1 r2 r' : EV}
theorem RKV.look {x : Str} : ∀ {vs : List (Str × V)} {ds : List (Str × PyData)}, RKV K G vs ds → (∀ d, valA ds x = some d → ∃ v, vs.lookup x = some v ∧ Rp K G v d) ∧ (valA ds x = none → vs.lookup x = none)
  | _, _, .nil => ⟨fun d h => by simp [valA] at h, fun _ => rfl⟩
  | _, _, .cons (x := y) (v := v) (d := d0) (ds := ds0) h rest => by
    obtain ⟨i1, i2⟩ := RKV.look (x := x) rest
    by_cases e : y = x
    · subst e
      have e1 : valA ((y, d0) :: ds0) y = some d0 := by unfold valA; rw [List.find?_cons_of_pos (by simp)]; rfl
      refine ⟨fun d hd => ?_, fun hn => ?_⟩
      · rw [e1] at hd
        cases hd
        exact ⟨v, by simp [List.lookup], h⟩
      · rw [e1] at hn; cases hn
    · have e1 : ∀ ds, valA ((y, d0) :: ds) x = valA ds x := fun ds => by unfold valA; rw [List.find?_cons_of_neg (by simpa using e)]
      have e2 : ∀ vs, ((y, v) :: vs).lookup x = vs.lookup x := fun vs => by
        have : (x == y) = false := beq_eq_false_iff_ne.mpr (Ne.symm e)
        simp [List.lookup, this]
      rw [e1, e2]
      exact ⟨i1, i2⟩
theorem RKV.putF {x : Str} {v : V} {d : PyData} (h : Rp K G v d) : ∀ {vs : List (Str × V)} {ds : List (Str × PyData)}, RKV K G vs ds → RKV K G (L2.putF x v vs) (putA x d ds)
  | _, _, .nil => .cons h .nil
  | _, _, .cons (x := y) h0 rest => by
    unfold L2.putF putA
    by_cases e : y = x
    · rw [if_pos e, if_pos e]; exact .cons h rest
    · rw [if_neg e, if_neg e]; exact .cons h0 (RKV.putF h rest)
end
/-- what a def of an instance is asked for -/
theorem few_ok {args : List Expr} {pos : Pos} {env : Env} (hs : args.all (fun e => !PySem.W.isStarred e) = true) (hl : args.length < 30) : methodCallForm (args.length + ([] : List Keyword).length) (backTo pos (starEach args env)) (backToKw pos (keywordEach [] env)) = true := by
  unfold methodCallForm
  have h1 : (backTo pos (starEach args env)).all (fun x => !x.1) = true := by
    have := no_star (pos := pos) (env := env) hs
    rw [List.all_eq_true]
    intro x hx
    rw [List.any_eq_false] at this
    have := this x hx
    simpa using this
  rw [h1]
  simp [keywordEach, backToKw]
  omega
section
variable {X : Cx} {F : Fs} {W : Nat → L2.St → Hp → Prop} {C : Nat → Addr} {pos p px apos cpos : Pos} {a b c e o : Expr} {ca cb cc ce co ces : CE} {es : List Expr} {k : Nat}
/-- a list of the store is walked in a comprehension -/
theorem i_itrR {tg : Expr} (hv : ∀ i, ce ≠ .var i) (ha : PE X a (tO X.K F W (.res k ce))) : PI X tg a (tJ X.K F W (.itr (.res k ce))) := by
  refine PI.imp (PI.or (pi_list ha) (pi_tup ha)) fun σ H R ⟨G, r, s, h⟩ => ?_
  rw [evI] at h
  cases q : mkO (.res k ce) r (ev F (.res k ce) r) with
  | bad => rw [q] at h; exact h.elim
  | exc c r1 =>
    rw [q] at h
    refine .inl ⟨G, r, s, ?_⟩
    rw [q]
    exact h
  | ok o r1 =>
    rw [q, bnd_ok] at h
    obtain ⟨d, e1, h2⟩ := h.ofB
    have fin : ∀ ds, itemsD d = some ds → ∀ G' H', SR X.K G' H' σ r1 → Stp σ r G H σ r1 G' H' → ∀ J hs, Walk J ds.length (StI G' hs) (YI X.K G' ds) → HL σ r1 (.itr (.res k ce)) G' H' hs → ds.length ≤ sizeLine → R J H' := fun ds e2 G' H' s' t' => by
      rw [e2] at h2
      exact h2 G' H' s' t'
    have ho : ∃ d', o = .datR k d' := by
      unfold mkO at q
      split at q
      · rename_i z; cases z
      · rename_i z; cases z; exact absurd rfl (hv _)
      · rename_i z
        cases z
        cases qe : ev F (.res k ce) r with
        | ok v r' => rw [qe] at q; cases q; exact ⟨_, rfl⟩
        | exc c r' => rw [qe] at q; cases q
        | bad => rw [qe] at q; cases q
      · rename_i z1 z2 z3; exact absurd rfl (z3 _ _)
    obtain ⟨d', rfl⟩ := ho
    obtain ⟨S, eS, ed⟩ := Option.map_eq_some_iff.mp (show (stoS r1 k).map (fun S => resT S d') = some d from e1)
    cases d with
    | list ds =>
      refine .inl ⟨G, r, s, ?_⟩
      rw [q]
      intro G1 H1 s1 t1 v hv'
      have hv' : Rp X.K G1 v d' := hv'
      cases qn : refN d' with
      | none =>
        have e2 : d' = .list ds := by unfold resT at ed; rw [qn] at ed; exact ed
        subst e2
        cases hv' with
        | lst h5 h6 =>
          refine ⟨_, rfl, ⟨_, SqL.of (s1.ex _ _ h5 rfl)⟩, ?_⟩
          refine fin ds rfl G1 H1 s1 t1 _ none (wk_list h6 none fun H z => z.1 _ _ h5 rfl) (.inl fun p z => nomatch z) ?_
          rw [← h6.length]
          exact big _ (szL s1 (s1.ex _ _ h5 rfl))
      | some n =>
        have ob : ∃ ob, obN r1 k d' = some (n, S, ob) ∧ (ob = .lst ds ∨ ob = .lkL ds) := by
          unfold resT at ed
          rw [qn] at ed
          dsimp only at ed
          unfold obN
          rw [qn, eS]
          split at ed
          · rename_i es q2; cases ed; exact ⟨_, by rw [Option.bind_some, Option.bind_some, q2]; rfl, .inl rfl⟩
          · rename_i es q2; cases ed; exact ⟨_, by rw [Option.bind_some, Option.bind_some, q2]; rfl, .inr rfl⟩
          · subst ed; cases qn
        obtain ⟨ob, o1, o2⟩ := ob
        obtain ⟨ad, rfl, _, g1, g2, g3, g4⟩ := obN_go s1 o1 hv'
        obtain ⟨vs, g5, g6⟩ : ∃ vs, H1 ad = some (.lst vs) ∧ Rps X.K G1 vs ds := by
          rcases o2 with rfl | rfl
          · exact g4
          · exact g4
        refine ⟨_, rfl, ⟨_, SqL.of g5⟩, ?_⟩
        refine fin ds rfl G1 H1 s1 t1 _ (some (ad, vs)) (wk_list g6 _ fun H z => z.2 _ rfl) (.inr fun p z => ?_) ?_
        · cases z
          exact ⟨g5, k, ce, S, n, rfl, g2, g1⟩
        · rw [← g6.length]
          exact big _ (szL s1 g5)
    | tuple ds =>
      refine .inr ⟨G, r, s, ?_⟩
      rw [q]
      intro G1 H1 s1 t1 v hv'
      obtain ⟨a', vs, rfl, h1, h2', h3⟩ := (OR.ov s1 hv' e1).tup s1
      refine ⟨_, rfl, ⟨_, SqT.of h1⟩, ?_⟩
      refine fin ds rfl G1 H1 s1 t1 _ none (wk_tup h2' h3) (.inl fun p z => nomatch z) ?_
      rw [← h2'.length]
      exact big _ (szT s1 h1)
    | _ => exact h2.elim
/-- a class of the program, as an attribute is asked of it -/
def ClsA (X : Cx) (cs : List Str) (x : Str) : Prop := ∀ c ∈ cs, ∀ CA, PySem.W.nsIn X.K mainGlobals c = some (some (.ref CA)) → Cls X.K CA ∧ NoAttr X.K CA x
theorem s_fld {x : Str} {cs : List Str} (hb : attributeBase o x X.env (eval o X.env) = eval o X.env) (hc : ClsA X cs x) (h : PE X o (tV X.K F W co)) : PE X (.Attribute o x pos) (tV X.K F W (.fld k cs co x)) := by
  refine PE.imp (pe_fld h hb) fun σ H Q ⟨G, r, s, h⟩ => ⟨G, r, s, ?_⟩
  rw [ev] at h
  refine h.bnd.imp fun val r1 G1 H1 s1 t1 h1 v hv => ?_
  obtain ⟨G2, s2, t2, e2, p2⟩ := frzV s1 t1 hv
  have h1 := h1.rebase t2
  cases q : obN r1 k val.toD with
  | none => rw [q] at h1; exact h1.elim
  | some z =>
    obtain ⟨n, S, ob⟩ := z
    rw [q] at h1
    obtain ⟨ad, rfl, _, g1, g2, g3, g4⟩ := obN_go s2 q p2
    cases ob with
    | ins c fs =>
      dsimp only at h1
      by_cases cc : cs.contains c = true
      · rw [if_pos cc] at h1
        obtain ⟨CA, dx, vs, i1, i2, i3, i4, i5⟩ := g4
        obtain ⟨j1, j2⟩ := hc c (by simpa using cc) CA i1
        cases q2 : valA fs x with
        | none => rw [q2] at h1; exact h1.elim
        | some d =>
          rw [q2] at h1
          obtain ⟨w, w1, w2⟩ := (RKV.look i5).1 d q2
          exact ⟨ad, CA, dx, vs, w, rfl, i2, j1, j2, w1, h1 G2 H1 s2 Stp.refl w w2⟩
      · rw [if_neg cc] at h1; exact h1.elim
    | _ => exact h1.elim
/-- o.x = e -/
theorem x_fset {x : Str} {cs : List Str} {p2 : Pos} (hs : swapsWith e (some (.Attribute o x p2)) pos.line X.env = pure false) (hc : ClsA X cs x) (ho : PE X o (tV X.K F W co)) (he : PE X e (tV X.K F W ce)) :
    PS X (.Assign [.Attribute o x p2] e pos) (tS X.K F W (.fset k cs co x ce)) := by
  refine PS.imp (ps_fld ho he hs) fun D σ H ⟨G, r, s, h⟩ => ⟨G, r, s, ?_⟩
  rw [exec] at h
  refine h.bnd.imp fun val r1 G1 H1 s1 t1 h1 v hv => ?_
  obtain ⟨G2, s2, t2, e2, p2⟩ := frzV s1 t1 hv
  refine ⟨G2, r1, s2, ((Ge.rebase h1 t2).bnd).imp fun val' r3 G3 H3 s3 t3 h3 y hy => ?_⟩
  obtain ⟨G4, s4, t4, e4, p4⟩ := frzV s3 t3 hy
  have h3 := Ge.rebase h3 t4
  cases q : obN r3 k val'.toD with
  | none => rw [q] at h3; exact h3.elim
  | some z =>
    obtain ⟨n, S, ob⟩ := z
    rw [q] at h3
    obtain ⟨ad, rfl, _, g1, g2, g3, g4⟩ := obN_go s4 q p4
    cases ob with
    | ins c fs =>
      dsimp only at h3
      by_cases cc : cs.contains c = true ∧ fs.length < 999
      · rw [if_pos cc] at h3
        have sh := g4.sh
        obtain ⟨CA, dx, vs, i1, i2, i3, i4, i5⟩ := g4
        obtain ⟨j1, j2⟩ := hc c (by simpa using cc.1) CA i1
        have nx : dx ≠ ad := fun z => by subst z; rw [i2] at i3; cases i3
        have ob' : ObR X.K G4 (upd H3 ad (.ins CA dx (L2.putF x v vs))) ad (.ins c (putA x val.toD fs)) :=
          ⟨CA, dx, _, i1, upd_same, by rw [upd_ne nx]; exact i3, i4, RKV.putF (p2.mono t4.ex) i5⟩
        obtain ⟨s7, t7⟩ := s4.calledS g2 (SS.wr s4 g2 g3 rfl g1 (s4.sz.put rfl fun xs w => by rcases w with w | w <;> cases w) ob' fun C' c' fs' z => by cases z; exact ⟨_, _, i2⟩)
        exact ⟨ad, CA, dx, vs, rfl, i2, j1, j2, by rw [i5.length]; omega, h3 σ G4 _ s7 t7⟩
      · rw [if_neg cc] at h3; exact h3.elim
    | _ => exact h3.elim
/-- a method's text -/
theorem meth_wp {prog : Program} {w : World} {A : Around} {E : Value → Shared → Prop} {s : Shared} {env : Env} {m : Str} {args : List Expr} {Q : Value → Shared → Prop} (hb : attributeBase o m env (eval o env) = eval o env) (hl : (apos.endLine == cpos.line) = true)
    (hf : methodCallForm (args.length + ([] : List Keyword).length) (backTo cpos (starEach args env)) (backToKw cpos (keywordEach [] env)) = true)
    (h : ∀ pl, wpAny (model prog w) A (eval o env) (fun ov s₁ => wpAny (model prog w) A (getMethod ov m pl) (fun fx s₂ => wpAny (model prog w) A (callWith cpos fx.1 fx.2 (backTo cpos (starEach args env)) (backToKw cpos (keywordEach [] env))) Q E s₂) E s₁) E s) :
    wpAny (model prog w) A (eval (.Call (.Attribute o m apos) args [] cpos) env) Q E s := by
  rw [arm_eval_Call, hb]
  refine wpAny_bind (wpAny_mono (h (do return (← importBound o env).getD true)) (fun ov s₁ h₁ => ?_) fun _ _ e => e)
  refine wpAny_bind (wpAny_standAt ?_)
  unfold methodCall
  rw [hf]
  have hp : methodCallPos true o env apos cpos = pure cpos := by unfold methodCallPos; simp [hl]
  refine wpAny_bind (wpAny_holding (wpAny_mono h₁ (fun fx s₂ h₂ => ?_) fun _ _ e => e))
  exact wpAny_bind (wpAny_of_eq hp h₂)
/-- methods of classes, by the class's name -/
def MthA (C : Nat → Addr) (F : Fs) (X : Cx) (m : Str) (na : Nat) (ms : List (Str × Nat)) : Prop := ∀ c f, ms.lookup c = some f → ∀ CA, PySem.W.nsIn X.K mainGlobals c = some (some (.ref CA)) →
  Cls X.K CA ∧ ∃ kf fa fd ps, FnOk X.prog X.w X.K X.mg X.base (L2.CX X.prog X.w) kf fa fd ps (spB X.K C F ps.length f) ∧ Room kf X.A ∧ Binds X.K fd ps [] ∧ Meth X.K CA m fa ∧ ps.length = na + 1
/-- o.m(..), by the class -/
def tMcl (C : Nat → Addr) (F : Fs) (W : Nat → L2.St → Hp → Prop) (K : PySem.W.Frag) (m : Str) (ms : List (Str × Nat)) (to : TE) (ta : TA) : TE := fun σ H Q => to σ H fun x H1 => ∃ a c CA dx fs f, x = .ref a ∧ H1 a = some (.ins CA dx fs) ∧ PySem.W.nsIn K mainGlobals c = some (some (.ref CA)) ∧ ms.lookup c = some f ∧ fs.lookup m = none ∧
  ta σ H1 fun vs H2 => ∀ np, np = vs.length + 1 → spB K C F np f (x :: vs) H2 Q (WE (wx C W) σ)
theorem pe_mcl {m : Str} {ms : List (Str × Nat)} {to : TE} {ta : TA} (hb : attributeBase o m X.env (eval o X.env) = eval o X.env) (hl : (apos.endLine == cpos.line) = true) (hs : (e :: es).all (fun e => !PySem.W.isStarred e) = true) (hn : (e :: es).length < 30)
    (hm : MthA C F X m (e :: es).length ms) (tk : Takes X (wx C W)) (ho : PE X o to) (ha : PA X (e :: es) ta) (hlen : ∀ σ H Q, ta σ H Q → ta σ H fun vs H' => vs.length = (e :: es).length ∧ Q vs H') :
    PE X (.Call (.Attribute o m apos) (e :: es) [] cpos) (tMcl C F W X.K m ms to ta) := by
  refine ⟨fun pins s σ H Q I h => ?_⟩
  refine meth_wp hb hl (few_ok hs hn) fun pl => thn (ho.run pins s σ H _ I h) fun u s1 ⟨x, H1, I1, rx, a, c, CA, dx, fs, f, ex, ea, ec, ef, l, q⟩ => ?_
  subst ex
  obtain rfl : u = Value.ref a := rx
  obtain ⟨cl, kf, fa, fd, ps, Fo, hr, bd, me, pl'⟩ := hm c f ef CA ec
  refine getmeth_ok I1 ea cl me l ?_
  rw [List.all_cons, Bool.and_eq_true] at hs
  have hs1 : PySem.W.isStarred e = false := by simpa using hs.1
  refine PySem.W.callWith_K (first := [.ref a]) (h₀ := X.base) I.ok.mod.kin me.kp (thn (ha.run cpos pins s1 σ H1 _ I1 (hlen _ _ _ q)) fun us s2 ⟨vs, H2, I2, r, ql, q2⟩ => ⟨I2.kIn, ?_⟩) (star_ok hs1) (no_star hs.2)
  exact run_fnS (E := WE (wx C W)) (us := .ref a :: us) (vs := .ref a :: vs) Fo hr bd (passAt tk σ) I2 (.cons rfl r) (q2 ps.length (by rw [pl', ql]))
theorem pe_mcl0 {m : Str} {ms : List (Str × Nat)} {to : TE} (hb : attributeBase o m X.env (eval o X.env) = eval o X.env) (hl : (apos.endLine == cpos.line) = true) (hm : MthA C F X m 0 ms) (tk : Takes X (wx C W)) (ho : PE X o to) :
    PE X (.Call (.Attribute o m apos) [] [] cpos) (tMcl C F W X.K m ms to tNil) := by
  refine ⟨fun pins s σ H Q I h => ?_⟩
  refine meth_wp hb hl (few_ok rfl (by decide)) fun pl => thn (ho.run pins s σ H _ I h) fun u s1 ⟨x, H1, I1, rx, a, c, CA, dx, fs, f, ex, ea, ec, ef, l, q⟩ => ?_
  subst ex
  obtain rfl : u = Value.ref a := rx
  obtain ⟨cl, kf, fa, fd, ps, Fo, hr, bd, me, pl'⟩ := hm c f ef CA ec
  refine getmeth_ok I1 ea cl me l ?_
  exact PySem.W.callWith_K0 (first := [.ref a]) I1.kIn me.kp (run_fnS (E := WE (wx C W)) (us := [.ref a]) (vs := [.ref a]) Fo hr bd (passAt tk σ) I1 (.cons rfl .nil) (q ps.length (by rw [pl']; rfl)))
theorem vs_len {σ : L2.St} {H : Hp} {Q : List V → Hp → Prop} {n : Nat} {K : PySem.W.Frag} (hn : clen ces = n) (h : tVs K F W ces σ H Q) : tVs K F W ces σ H fun vs H' => vs.length = n ∧ Q vs H' := by
  obtain ⟨G, r, s, h⟩ := h
  refine ⟨G, r, s, (h.eqn (P := fun ds => ds.length = clen ces) fun ds r' e => evs_len e).imp fun ds r1 G1 H1 s1 t1 ⟨hl, h1⟩ vs hvs => ⟨by rw [hvs.length, hl, hn], h1 vs hvs⟩⟩
/-- behind the instance: the method and what is given -/
theorem mcl_go {σ : L2.St} {H : Hp} {Q : VK} {K : PySem.W.Frag} {m : Str} {ms : List (Str × Nat)} {ta : TA} (ht : ∀ σ H Q, tVs K F W ces σ H Q → ta σ H Q) (h : tV K F W (.mcl k m ms co ces) σ H Q) : tMcl C F W K m ms (tV K F W co) ta σ H Q := by
  obtain ⟨G, r, s, h⟩ := h
  rw [ev] at h
  refine ⟨G, r, s, h.bnd.imp fun val r1 G1 H1 s1 t1 h1 v hv => ?_⟩
  obtain ⟨G2, s2, t2, e2, p2⟩ := frzV s1 t1 hv
  have h1 := h1.rebase t2
  cases q : obN r1 k val.toD with
  | none => rw [q] at h1; exact h1.elim
  | some z =>
    obtain ⟨n, S, ob⟩ := z
    rw [q] at h1
    obtain ⟨ad, rfl, ed, g1, g2, g3, g4⟩ := obN_go s2 q p2
    cases ob with
    | ins c fs =>
      dsimp only at h1
      obtain ⟨CA, dx, vs, i1, i2, i3, i4, i5⟩ := g4
      cases q2 : ms.lookup c with
      | none => rw [q2] at h1; exact h1.elim
      | some f =>
        cases q3 : valA fs m with
        | some d => rw [q2, q3] at h1; exact h1.elim
        | none =>
          rw [q2, q3] at h1
          dsimp only at h1
          refine ⟨ad, c, CA, dx, vs, f, rfl, i2, i1, q2, (RKV.look i5).2 q3, ht _ _ _ ⟨G2, r1, s2, h1.bnd.imp fun ds r3 G3 H3 s3 t3 h3 us hus np hnp => ?_⟩⟩
          cases q4 : stoS r3 k with
          | none => rw [q4] at h3; exact h3.elim
          | some S3 =>
            rw [q4] at h3
            dsimp only at h3
            have hS := stoS_some q4
            have pa : Rp K G3 (.ref ad) (refD n) := .obj (t3.ex _ _ g1)
            refine .inr ⟨G3, refD n :: ds, S3, by rw [hnp]; rfl, s3.ex, s3.sz, s3.sto k S3 hS, .cons pa hus, ?_⟩
            cases q5 : F.s f (refD n :: ds) S3 with
            | bad => rw [q5] at h3; exact h3.elim
            | ret d S' =>
              rw [q5] at h3
              intro v G' H' c' hv
              obtain ⟨s5, t5⟩ := s3.calledS hS c'
              exact h3 G' H' s5 (t3.trans t5) v hv
            | exc cx S' =>
              rw [q5] at h3
              intro G' H' c'
              obtain ⟨s5, t5⟩ := s3.calledS hS c'
              exact ⟨cx, rfl, rfl, h3 G' H' s5 (t3.trans t5)⟩
    | _ => exact h1.elim
theorem s_mcl {m : Str} {ms : List (Str × Nat)} (hb : attributeBase o m X.env (eval o X.env) = eval o X.env) (hl : (apos.endLine == cpos.line) = true) (hs : (e :: es).all (fun e => !PySem.W.isStarred e) = true) (hn : (e :: es).length < 30)
    (hm : MthA C F X m (e :: es).length ms) (tk : Takes X (wx C W)) (hln : clen ces = (e :: es).length) (ho : PE X o (tV X.K F W co)) (ha : PA X (e :: es) (tVs X.K F W ces)) :
    PE X (.Call (.Attribute o m apos) (e :: es) [] cpos) (tV X.K F W (.mcl k m ms co ces)) :=
  PE.imp (pe_mcl hb hl hs hn hm tk ho ha (fun σ H Q h => vs_len hln h)) fun σ H Q h => mcl_go (fun _ _ _ z => z) h
theorem s_mcl0 {m : Str} {ms : List (Str × Nat)} (hb : attributeBase o m X.env (eval o X.env) = eval o X.env) (hl : (apos.endLine == cpos.line) = true) (hm : MthA C F X m 0 ms) (tk : Takes X (wx C W)) (ho : PE X o (tV X.K F W co)) :
    PE X (.Call (.Attribute o m apos) [] [] cpos) (tV X.K F W (.mcl k m ms co .nil)) :=
  PE.imp (pe_mcl0 hb hl hm tk ho) fun σ H Q h => mcl_go (fun σ H Q ⟨G, r, s, h⟩ => by
    rw [evs] at h
    exact h G H s Stp.refl [] .nil) h
/-! ### new instances -/
theorem run_mk {pins : List (Addr × Obj)} {σ : L2.St} {H : Hp} {s : Shared} {Q : VK} {us : List Value} {vs : List V} {CX : CXT} {kf : Nat} {CA fa : Addr} {fd : FuncData} {ps : List Str} {sp : Sp} {E : XK} (M : L2.Mk X.K CA fa) (Fo : FnOk X.prog X.w X.K X.mg X.base CX kf fa fd ps sp) (hr : Room (kf + 1) X.A) (hb : Binds X.K fd ps [])
    (hx : PassesAt CX X σ E) (I : Inv X pins σ H s) (r : Vals vs us)
    (h : ∀ x dx, H x = none → H dx = none → dx ≠ x → sp (.ref x :: vs) (upd (upd H dx (.own x)) x (.ins CA dx [])) (fun v H2 => v = .non ∧ Q (.ref x) H2) E) :
    wpAny (model X.prog X.w) X.A (call (.ref CA) us) (EP X pins σ Q) X.xe s := by
  have hq := h (s.heap.objs.size + 1) s.heap.objs.size (I.hok.fresh (Nat.le_succ _)) (I.hok.fresh (Nat.le_refl _)) (Nat.ne_of_lt (Nat.lt_succ_self _))
  have I2 := Inv.made (C := CA) I
  have r2 : Vals (V.ref (s.heap.objs.size + 1) :: vs) (Value.ref (s.heap.objs.size + 1) :: us) := .cons rfl r
  have hl : (Value.ref (s.heap.objs.size + 1) :: us ++ []).length = ps.length := by
    have e := r2.length
    rw [Fo.len _ _ _ _ hq] at e
    rw [List.append_nil]
    exact e.symm
  have bd := hb _ (Value.ref (s.heap.objs.size + 1) :: us) I2.kIn hl
  rw [List.append_nil] at bd
  refine wpAny_call (make_map (f := fa) I.kIn M.makes M.init (beq_iff_eq.mp M.fn) (codeAny_mono (Fo.run _ X.stack _ _ ⟨Value.ref (s.heap.objs.size + 1) :: us, []⟩ (Value.ref (s.heap.objs.size + 1) :: us) _ _ E (hr.make CA us [])
    (I2.env0.make CA us []) bd r2 hq) fun r s' hq' => ?_))
  cases r with
  | error e => exact hx pins _ _ e s' I2 hq'
  | ok fl =>
    cases fl with
    | ret u =>
      obtain ⟨v, H', I3, rv, ev, q3⟩ := I2.after hq'
      subst ev
      exact ⟨rv, ⟨V.ref (s.heap.objs.size + 1), H', I3, rfl, q3⟩⟩
    | next => exact False.elim hq'
    | brk => exact False.elim hq'
    | cont => exact False.elim hq'
def tMkS (CA : Addr) (sp : Sp) (E : L2.St → XK) (t : TA) : TE := fun σ H Q => t σ H fun vs H1 => ∀ x dx, H1 x = none → H1 dx = none → dx ≠ x →
  sp (.ref x :: vs) (upd (upd H1 dx (.own x)) x (.ins CA dx [])) (fun v H2 => v = .non ∧ Q (.ref x) H2) (E σ)
theorem mk_go {σ : L2.St} {H : Hp} {Q : VK} {K : PySem.W.Frag} {c : Str} {f np : Nat} {CA : Addr} {ta : TA} (hns : PySem.W.nsIn K mainGlobals c = some (some (.ref CA))) (hln : clen ces + 1 = np) (ht : ∀ σ H Q, tVs K F W ces σ H Q → ta σ H Q)
    (h : tV K F W (.mk k c f ces) σ H Q) : tMkS CA (spB K C F np f) (WE (wx C W)) ta σ H Q := by
  obtain ⟨G, r, s, h⟩ := h
  rw [ev] at h
  refine ht _ _ _ ⟨G, r, s, (h.bnd.eqn (P := fun ds => ds.length = clen ces) fun ds r' e => evs_len e).imp fun ds r1 G1 H1 s1 t1 ⟨hl, h1⟩ vs hvs x dx hx hdx nx => ?_⟩
  cases q : stoS r1 k with
  | none => rw [q] at h1; exact h1.elim
  | some S =>
    rw [q] at h1
    dsimp only at h1
    have hS := stoS_some q
    have nt : ∀ {o : HO}, (∀ i j, o ≠ .rng i j) → isTg o = false := fun {o} z => by
      cases o <;> first | rfl | exact absurd rfl (z _ _)
    have sA := s1.new (o := .own x) hdx (s1.sz.put rfl fun xs w => by rcases w with w | w <;> cases w)
    have hx' : upd H1 dx (.own x) x = none := by rw [upd_ne (Ne.symm nx)]; exact hx
    have tA := t1.trans (Stp.newH (o := .own x) s1 hdx)
    have sB := sA.new (o := .ins CA dx []) hx' (sA.sz.put rfl fun xs w => by rcases w with w | w <;> cases w)
    have tB := tA.trans (Stp.newH (o := .ins CA dx []) sA hx')
    have gx : G1 x = none := s1.gnone hx
    have hdx2 : upd (upd H1 dx (.own x)) x (.ins CA dx []) dx = some (.own x) := by rw [upd_ne nx, upd_same]
    have gd : upd G1 x (tg S.length) dx = none := by rw [upd_ne nx]; exact s1.gnone hdx
    obtain ⟨s2, t2, p2⟩ := toSto (ob := .ins c []) sB tB hS gx (sA.nown hx') (by rw [upd_same]; simp) ⟨CA, dx, [], hns, upd_same, hdx2, gd, .nil⟩ (t1.back (.inr hx)) (fun C' c' fs' z => by
      rw [upd_same] at z
      cases z
      exact t1.back (.inr hdx))
    have hk : k < r1.length := (List.getElem?_eq_some_iff.mp hS).1
    have hS2 : (r1.set k (some (.sto (S ++ [.ins c []]))))[k]? = some (some (.sto (S ++ [.ins c []]))) := List.getElem?_set_self hk
    refine .inr ⟨upd G1 x (tg S.length), refD S.length :: ds, S ++ [.ins c []], by rw [← hln, ← hl, ← hvs.length]; rfl, s2.ex, s2.sz, s2.sto k _ hS2, .cons p2 (hvs.mono (same_frz gx)), ?_⟩
    cases q2 : F.s f (refD S.length :: ds) (S ++ [.ins c []]) with
    | bad => rw [q2] at h1; exact h1.elim
    | ret d S' =>
      rw [q2] at h1
      intro v G' H' c' hv
      obtain ⟨s5, t5⟩ := s2.calledS hS2 c'
      rw [List.set_set] at s5 t5
      cases d with
      | none =>
        dsimp only at h1
        by_cases cl : S.length < S'.length
        · rw [if_pos cl] at h1
          cases hv
          exact ⟨rfl, h1 G' H' s5 (t2.trans t5) _ (p2.mono c'.ex)⟩
        · rw [if_neg cl] at h1; exact h1.elim
      | _ => exact h1.elim
    | exc cx S' =>
      rw [q2] at h1
      intro G' H' c'
      obtain ⟨s5, t5⟩ := s2.calledS hS2 c'
      rw [List.set_set] at s5 t5
      exact ⟨cx, rfl, rfl, h1 G' H' s5 (t2.trans t5)⟩
theorem s_mk {c : Str} {f kf : Nat} {CA fa : Addr} {fd : FuncData} {ps : List Str} (hns : PySem.W.nsIn X.K mainGlobals c = some (some (.ref CA))) (M : L2.Mk X.K CA fa) (Fo : FnOk X.prog X.w X.K X.mg X.base (L2.CX X.prog X.w) kf fa fd ps (spB X.K C F ps.length f)) (hr : Room (kf + 1) X.A) (hg : Gl X c) (hm : X.mg c = some (.ref CA))
    (hb : Binds X.K fd ps []) (tk : Takes X (wx C W)) (hd : (c == ("__debug__" : Str)) = false) (hs : PySem.W.isStarred e = false) (hss : es.all (fun e => !PySem.W.isStarred e) = true) (hln : clen ces + 1 = ps.length) (h : PA X (e :: es) (tVs X.K F W ces)) :
    PE X (.Call (.Name c p) (e :: es) [] pos) (tV X.K F W (.mk k c f ces)) := by
  refine PE.imp (t := tMkS CA (spB X.K C F ps.length f) (WE (wx C W)) (tVs X.K F W ces)) ⟨fun pins s σ H Q I q => ?_⟩ fun σ H Q q => mk_go hns hln (fun _ _ _ z => z) q
  refine wpAny_Call_Name_kw (ld_glob I hg hm ?_ hd)
  refine PySem.W.callWith_K (h₀ := X.base) I.ok.mod.kin M.kp (thn (h.run pos pins s σ H _ I q) fun us s1 ⟨vs, H1, I1, r, q⟩ => ⟨I1.kIn, ?_⟩) (star_ok hs) (no_star hss)
  exact run_mk M Fo hr hb (passAt tk σ) I1 r q
theorem s_mk0 {c : Str} {f kf : Nat} {CA fa : Addr} {fd : FuncData} {ps : List Str} (hns : PySem.W.nsIn X.K mainGlobals c = some (some (.ref CA))) (M : L2.Mk X.K CA fa) (Fo : FnOk X.prog X.w X.K X.mg X.base (L2.CX X.prog X.w) kf fa fd ps (spB X.K C F ps.length f)) (hr : Room (kf + 1) X.A) (hg : Gl X c) (hm : X.mg c = some (.ref CA))
    (hb : Binds X.K fd ps []) (tk : Takes X (wx C W)) (hd : (c == ("__debug__" : Str)) = false) (hln : 1 = ps.length) :
    PE X (.Call (.Name c p) [] [] pos) (tV X.K F W (.mk k c f .nil)) := by
  refine PE.imp (t := tMkS CA (spB X.K C F ps.length f) (WE (wx C W)) tNil) ⟨fun pins s σ H Q I q => ?_⟩ fun σ H Q q => mk_go (ces := .nil) hns (show clen .nil + 1 = _ from hln) (fun σ H Q ⟨G, r, s, h⟩ => by
    rw [evs] at h
    exact h G H s Stp.refl [] .nil) q
  refine wpAny_Call_Name_kw (ld_glob I hg hm ?_ hd)
  exact PySem.W.callWith_K0 I.kIn M.kp (run_mk (us := []) M Fo hr hb (passAt tk σ) I .nil q)
/-! ### o[i] = e, a list of the store -/
theorem x_sput {p2 : Pos} {oE kE vE : Expr} {ck cv : CE}
    (ha : ∀ v, assign (.Subscript oE kE p2) X.env v = (do
      let ov ← holding [v] (eval oE X.env)
      let iv ← holding [v, ov] (eval kE X.env)
      standAt p2
      holding [v, ov, iv] (setItem ov iv v)
      release [v, ov, iv] []))
    (hs : swapsWithSole [.Subscript oE kE p2] vE pos.line X.env = pure false) (hw : swappedStores [.Subscript oE kE p2] vE X.env = pure none) (h1 : (assignEach [.Subscript oE kE p2] X.env).map (·.2) = [assign (.Subscript oE kE p2) X.env])
    (ho : PE X oE (tV X.K F W co)) (hk : PE X kE (tV X.K F W ck)) (hvv : PE X vE (tV X.K F W cv)) : PS X (.Assign [.Subscript oE kE p2] vE pos) (tS X.K F W (.sput k co ck cv)) := by
  refine PS.imp (ps_asg hvv (pg_sub ho hk set_list ha) hs hw h1) fun D σ H ⟨G, r, s, h⟩ => ⟨G, r, s, ?_⟩
  rw [exec] at h
  refine h.bnd.imp fun val r1 G1 H1 s1 t1 h1 v hv => ?_
  obtain ⟨G2, s2, t2, e2, p2⟩ := frzV s1 t1 hv
  refine ⟨G2, r1, s2, ((Ge.rebase h1 t2).bnd).imp fun val' r3 G3 H3 s3 t3 h3 x hx => ?_⟩
  obtain ⟨G4, s4, t4, e4, p4⟩ := frzV s3 t3 hx
  have h3 := Ge.rebase h3 t4
  cases q : obN r3 k val'.toD with
  | none => rw [q] at h3; exact h3.elim
  | some z =>
    obtain ⟨n, S, ob⟩ := z
    rw [q] at h3
    obtain ⟨ad, rfl, ed, g1, g2, g3, g4⟩ := obN_go s4 q p4
    cases ob with
    | lst ds0 =>
      dsimp only at h3
      refine ⟨G4, r3, s4, h3.bnd.imp fun val'' r5 G5 H5 s5 t5 h5 y hy => ?_⟩
      obtain ⟨G6, s6, t6, e6, p6⟩ := frzV s5 t5 hy
      have h5 := Ge.rebase h5 t6
      split at h5
      · rename_i n' S' ds m q2 ey
        split at h5
        · rename_i j ej
          obtain ⟨ad', ead, _, f1, f2, f3, f4⟩ := obN_go s6 q2 (p4.mono t6.ex)
          cases ead
          have en : n' = n := tg_inj (Option.some.inj (f1.symm.trans (t6.ex _ _ g1)))
          subst en
          obtain ⟨ws, q3, q4⟩ := f4
          rw [ey] at p6
          cases p6
          rw [← q4.length] at ej
          obtain ⟨s7, t7⟩ := s6.calledS f2 (SS.wr (ob' := .lst (ds.set j val.toD)) s6 f2 f3 rfl f1 (s6.sz.newL (by rw [List.length_set]; exact szL s6 q3)) ⟨ws.set j v, upd_same, q4.set (p2.mono (t4.ex.trans t6.ex)) j⟩ fun C' c' fs' z => by cases z)
          exact ⟨ad, ws, m, j, rfl, rfl, q3, ej, h5 σ G6 _ s7 t7⟩
        · exact h5.elim
      · exact h5.elim
    | _ => exact h3.elim
end
end SC

set_option Elab.async false
set_option maxRecDepth 100000
set_option maxHeartbeats 1000000
namespace SC
open PySem L2

/-- a class: its name, its __init__, its methods, its attributes -/
structure ClsI where
  c : Str
  ini : Nat
  ms : List (Str × Nat)
  ats : List Str
structure Tb where
  N : List Str
  fns : List (Str × Nat)
  exs : List Str
  cns : List (Str × Str) := []
  st : Bool := false
  sfs : List Bool := []
  cls : List ClsI := []
/-- a method's long name -/
def dotB (x : Str) : Bool := x.cps.toList.any fun c => c == 46
def nmOk (x : Str) : Bool := !(x == ("__debug__" : Str)) && !(x == ("__classdict__" : Str)) && !decide (x = ("__name__" : Str))
def visB (sc : Scope) (x : Str) : Bool := match sc.names.lookup x with
  | some .local => true
  | some .cell => true
  | some .free => true
  | _ => false
def glB (sc : Scope) (x : Str) : Bool := match sc.names.lookup x with
  | some .globalImplicit => true
  | _ => false
def ixOf (N : List Str) (x : Str) : Option Nat := N.findIdx? fun y => decide (y = x)
def slotOf (T : Tb) (sc : Scope) (x : Str) : Option Nat := if visB sc x && nmOk x then ixOf T.N x else none
def fnOf (T : Tb) (x : Str) : Option (Nat × Nat) := if dotB x then none else (T.fns.findIdx? fun p => decide (p.1 = x)).bind fun i => (T.fns[i]?).map fun p => (i, p.2)
def bnOf (x : Str) : Option Bn := [Bn.len, .min, .max, .sum, .all, .any, .tuple, .list, .int, .str, .sorted].find? fun b => decide (bnName b = x)
def tyOf (x : Str) : Option String := ["int", "bool", "str", "tuple", "list"].find? fun n => decide ((Str.ofString n) = x)
/-- a global text -/
def cnOf (T : Tb) (sc : Scope) (x : Str) : Option Str := if glB sc x && nmOk x then T.cns.lookup x else none
def cmps (f : Expr → CE) (es : List Expr) : CE := if es.any PySem.W.isStarred then .bad else es.foldr (fun e c => .cons (f e) c) .nil
def cAnd (f : Expr → CE) : List Expr → CE
  | [] => .bad
  | [a] => f a
  | a :: r => .and (f a) (cAnd f r)
def cOr (f : Expr → CE) : List Expr → CE
  | [] => .bad
  | [a] => f a
  | a :: r => .or (f a) (cOr f r)
def tAndC (f : Expr → CE) : List Expr → CE
  | [] => .bad
  | [a] => f a
  | a :: r => .tand (f a) (tAndC f r)
def tOrC (f : Expr → CE) : List Expr → CE
  | [] => .bad
  | [a] => f a
  | a :: r => .tor (f a) (tOrC f r)
def optC (f : Expr → CE) : Option Expr → CE
  | none => .nil
  | some e => .cons (f e) .nil
def nmOf : Expr → Option Str
  | .Name x _ => some x
  | _ => none
/-- a target's names -/
def tgOf : Expr → Option (Bool × List Str)
  | .Name x _ => some (false, [x])
  | .Tuple es _ _ => (es.mapM nmOf).map fun xs => (true, xs)
  | _ => none
def isTupE : Expr → Bool
  | .Tuple _ _ _ => true
  | _ => false
def isSetE : Expr → Bool
  | .Set _ _ _ => true
  | _ => false
/-- a comprehension's own name may be stored in its block -/
def tgB (scope sc : Scope) (x : Str) : Bool := decide ((relS scope sc).names.lookup x = some .local) || (decide ((relS scope sc).names.lookup x = some .cell) && decide (scope.names.lookup x = some .cell))
def isinC (a : CE) (sc : Scope) : Expr → CE
  | .Name t _ => if glB sc t && nmOk t then match tyOf t with
      | some n => .isin a [n]
      | none => .bad
    else .bad
  | .Tuple [.Name t _, .Name u _] _ _ => if glB sc t && nmOk t && glB sc u && nmOk u then match tyOf t, tyOf u with
      | some n, some m => .isin a [n, m]
      | _, _ => .bad
    else .bad
  | _ => .bad
def methC (i : Nat) (f : Expr → CE) (m : Str) : List Expr → CE
  | [e] => if PySem.W.isStarred e then .bad else if m = "append" then .app i (f e) else if m = "extend" then .ext i (f e) else if m = "pop" then .popA i (f e) else if m = "split" then .split (.var i) (f e) else if m = "index" then .fnd (.var i) (f e) else if m = "count" then .cnt (.var i) (f e) else .bad
  | [] => if m = "pop" then .popL i else .bad
  | _ => .bad
def joinC (z : Str) (f : Expr → CE) (m : Str) : List Expr → CE
  | [e] => if PySem.W.isStarred e then .bad else if m = "join" then .join (.cst (.str z)) (f e) else .bad
  | _ => .bad
/-- set(a), looked at for its length -/
def setArg (sc : Scope) : Expr → Option Expr
  | .Call (.Name x _) [a] kws _ => if x = "set" ∧ kws = [] ∧ glB sc "set" = true ∧ PySem.W.isStarred a = false then some a else none
  | _ => none
def lenC (sc : Scope) (b : Bn) (args : List Expr) : Option Expr := match b, args with
  | .len, [e] => setArg sc e
  | _, _ => none
/-- sorted(set(a)) -/
def srtC (sc : Scope) (b : Bn) (args : List Expr) : Option Expr := match b, args with
  | .sorted, [e] => setArg sc e
  | _, _ => none

/-- whether a slot is looked at -/
def hasV (i : Nat) : CE → Bool
  | .var j => j == i
  | .cons a b => hasV i a || hasV i b
  | .tup a => hasV i a
  | .lst a => hasV i a
  | .bin _ a b => hasV i a || hasV i b
  | .neg a => hasV i a
  | .cmp _ a b => hasV i a || hasV i b
  | .and a b => hasV i a || hasV i b
  | .or a b => hasV i a || hasV i b
  | .not a => hasV i a
  | .sset a => hasV i a
  | .lset a => hasV i a
  | .ite c a b => hasV i c || hasV i a || hasV i b
  | .idx a b => hasV i a || hasV i b
  | .slc a b c => hasV i a || hasV i b || hasV i c
  | .call _ es => hasV i es
  | .calE _ es => hasV i es
  | .calS _ _ es => hasV i es
  | .mcl _ _ _ o es => hasV i o || hasV i es
  | .blt _ es => hasV i es
  | .lc _ _ it c e => hasV i it || hasV i c || hasV i e
  | .tand a b => hasV i a || hasV i b
  | .tor a b => hasV i a || hasV i b
  | .tnot a => hasV i a
  | .tval a => hasV i a
  | .itr a => hasV i a
  | .rng a => hasV i a
  | _ => false
/-- an attribute as an operand: a list of the store is looked at -/
def opC : CE → CE
  | .fld k cs o x => .res k (.fld k cs o x)
  | c => c
def fixJ : CE → CE
  | .itr (.fld k cs o x) => .itr (.res k (.fld k cs o x))
  | c => c
/-- a list that is walked and looked at -/
def fixI (ci cc ce : CE) : CE := match ci with
  | .itr (.var i) => if hasV i cc || hasV i ce then .itr (.prm 0 (.var i)) else .itr (.var i)
  | ci => fixJ ci
/-- a def with store -/
def isSf (T : Tb) (g : Nat) : Bool := (T.sfs[g]?).getD false
/-- the store's slot -/
def stK (T : Tb) : Nat := T.N.length - 1
/-- names that stand for dicts -/
def dNm (x : Str) : Bool := decide (x = "rooms") || decide (x = "found") || decide (x = "counts") || decide (x = "bad") || decide (x = "table")
def noSl : Expr → Bool
  | .Slice _ _ _ _ => false
  | _ => true
def supB : Expr → Bool
  | .Call (.Name x _) _ _ _ => decide (x = "super")
  | _ => false
def isAtt : Expr → Bool
  | .Attribute _ _ _ => true
  | _ => false
/-- the classes with an attribute; the methods of a name -/
def clsA (T : Tb) (x : Str) : List Str := (T.cls.filter fun ci => decide (x ∈ ci.ats)).map (·.c)
def mthA (T : Tb) (m : Str) : List (Str × Nat) := T.cls.filterMap fun ci => (ci.ms.lookup m).map fun f => (ci.c, f)
def ariB (T : Tb) (n f : Nat) : Bool := decide ((T.fns.map (·.2))[f]? = some n)
/-- instances -/
def preO (T : Tb) (f : Scope → Expr → CE) (sc : Scope) (e : Expr) : Option CE := match e with
  | .Attribute (.Name y p) x _ => if T.st && !T.cls.isEmpty then some (.fld (stK T) (clsA T x) (f sc (.Name y p)) x) else none
  | .Call (.Attribute o m apos) args kws cpos => if T.st && !T.cls.isEmpty && kws.isEmpty then match mthA T m with
      | [] => match isAtt o, args with
        | true, [a] => some (if !(apos.endLine == cpos.line) || PySem.W.isStarred a then .bad else if m = "index" then .fnd (opC (f sc o)) (f sc a) else if m = "count" then .cnt (opC (f sc o)) (f sc a) else .bad)
        | _, _ => none
      | p :: ms => some (if supB o || !(apos.endLine == cpos.line) || args.any PySem.W.isStarred || decide (30 ≤ args.length) || !((p :: ms).all fun q => ariB T (args.length + 1) q.2) then .bad else .mcl (stK T) m (p :: ms) (f sc o) (cmps (f sc) args))
    else none
  | .Call (.Name c _) args kws _ => if T.st && kws.isEmpty && glB sc c && nmOk c then match T.cls.find? fun ci => decide (ci.c = c) with
      | some ci => some (if args.any PySem.W.isStarred || !ariB T (args.length + 1) ci.ini then .bad else .mk (stK T) c ci.ini (cmps (f sc) args))
      | none => none
    else none
  | _ => none
/-- what has to do with the store -/
def preE1 (T : Tb) (f : Scope → Expr → CE) (sc : Scope) (e : Expr) : Option CE := match e with
  | .Call (.Name x _) args kws _ => if kws.isEmpty && glB sc x && nmOk x then match fnOf T x with
      | some (g, k) => if isSf T g then some (if args.length = k ∧ 0 < k then (if T.st then .calS (stK T) g (cmps (f sc) args) else .calE g (cmps (f sc) args)) else .bad) else none
      | none => if T.st && T.cls.isEmpty then match x == "sorted", args with
          | true, [.Name y _] => if dNm y then some (match slotOf T sc y with
              | some i => .dst (stK T) (.var i)
              | none => .bad) else none
          | _, _ => none
        else none
    else none
  | .Subscript (.Name x p) s _ => if T.st && T.cls.isEmpty && dNm x && noSl s then some (.dgi (stK T) (f sc (.Name x p)) (f sc s)) else none
  | .Call (.Attribute (.Name x p) m apos) [a, b] kws cpos => if T.st && kws.isEmpty && decide (m = "get") then some (if !(apos.endLine == cpos.line) || PySem.W.isStarred a || PySem.W.isStarred b then .bad else .dgt (stK T) (f sc (.Name x p)) (f sc a) (f sc b)) else none
  | .Dict [some a] [b] _ => if T.st then some (.dds (stK T) (f sc a) (f sc b)) else none
  | _ => none
def preE (T : Tb) (f : Scope → Expr → CE) (sc : Scope) (e : Expr) : Option CE := match preO T f sc e with
  | some c => some c
  | none => preE1 T f sc e
def cmpE0 (T : Tb) (f ft : Scope → Expr → CE) (fi : Scope → Bool → Expr → CE) (sc : Scope) (e : Expr) : CE := match e with
    | .Name x _ => match slotOf T sc x with
      | some i => .var i
      | none => match cnOf T sc x with
        | some z => .cst (.str z)
        | none => .bad
    | .Constant c _ _ => match c with
      | .int i => .cst (.int i)
      | .bool b => .cst (.bool b)
      | .none => .cst .none
      | .str x => .cst (.str x)
      | _ => .bad
    | .Tuple es _ _ => if es.length ≤ 1000 then .tup (cmps (f sc) es) else .bad
    | .List es _ => if es.length ≤ 1000 then .lst (cmps (f sc) es) else .bad
    | .BinOp a op b _ => .bin op (f sc a) (f sc b)
    | .UnaryOp op a _ => match op with
      | .USub => .neg (f sc a)
      | .Not => .not (f sc a)
      | _ => .bad
    | .BoolOp op vs _ => match op with
      | .And => if 2 ≤ vs.length then cAnd (f sc) vs else .bad
      | .Or => if 2 ≤ vs.length then cOr (f sc) vs else .bad
    | .Compare a ops bs _ => match ops, bs with
      | [op], [b] => if behindInMarks op b then .bad else .cmp op (opC (f sc a)) (opC (f sc b))
      | [op, op'], [b, c] => if behindInMarks op' c then .bad else .chain op op' (f sc a) (f sc b) (f sc c)
      | [op, op', op''], [b, c, d] => if behindInMarks op'' d then .bad else .chain3 op op' op'' (f sc a) (f sc b) (f sc c) (f sc d)
      | _, _ => .bad
    | .IfExp c a b _ => .ite (ft sc c) (f sc a) (f sc b)
    | .Subscript a s _ => match s with
      | .Slice none none (some (.UnaryOp .USub (.Constant (.int 1) _ _) _)) _ => .rev (f sc a)
      | .Slice lo hi none _ => .slc (f sc a) (optC (f sc) lo) (optC (f sc) hi)
      | .Slice _ _ _ _ => .bad
      | s => .idx (opC (f sc a)) (f sc s)
    | .Call g args kws cpos => if !kws.isEmpty then .bad else match g with
      | .Name x _ => if !(glB sc x && nmOk x) then .bad else match fnOf T x with
        | some (g, k) => if args.length = k ∧ 0 < k then .call g (cmps (f sc) args) else .bad
        | none => if x = "isinstance" then match args with
            | [a, t] => if PySem.W.isStarred a then .bad else isinC (f sc a) sc t
            | _ => .bad
          else match bnOf x with
            | some b => match lenC sc b args with
              | some a => .lset (f sc a)
              | none => match srtC sc b args with
                | some a => .sset (f sc a)
                | none => if 0 < args.length then .blt b (cmps (fun e => opC (f sc e)) args) else .bad
            | none => .bad
      | .Attribute (.Name x _) m apos => if !(apos.endLine == cpos.line) then .bad else match slotOf T sc x with
        | some i => methC i (f sc) m args
        | none => .bad
      | .Attribute (.Constant (.str z) _ _) m apos => if !(apos.endLine == cpos.line) then .bad else joinC z (f sc) m args
      | _ => .bad
    | .ListComp elt gs scope _ => match gs with
      | [⟨tg, iter, ifs, k⟩] => if k = 0 ∧ isSetE iter = false then match tgOf tg with
          | some (tup, xs) => match xs.mapM (ixOf T.N) with
            | some is => if blkC T.N sc scope (xs.zip is) && xs.all (tgB scope sc) then
                .lc tup is (fixI (fi sc (isTupE tg) iter) (match ifs with
                  | [] => .tval (.cst (.bool true))
                  | [c] => ft (relS scope sc) c
                  | _ => .bad) (f (relS scope sc) elt)) (match ifs with
                  | [] => .tval (.cst (.bool true))
                  | [c] => ft (relS scope sc) c
                  | _ => .bad) (f (relS scope sc) elt)
              else .bad
            | none => .bad
          | none => .bad
        else .bad
      | _ => .bad
    | _ => .bad
def cmpE (T : Tb) (f ft : Scope → Expr → CE) (fi : Scope → Bool → Expr → CE) (sc : Scope) (e : Expr) : CE := match preE T f sc e with
  | some c => c
  | none => cmpE0 T f ft fi sc e
def cmpET (f ft : Scope → Expr → CE) (sc : Scope) (e : Expr) : CE := match e with
    | .BoolOp op vs _ => match op with
      | .And => tAndC (ft sc) vs
      | .Or => tOrC (ft sc) vs
    | .UnaryOp op a _ => match op with
      | .Not => .tnot (ft sc a)
      | _ => .bad
    | .IfExp _ _ _ _ => .bad
    | .Compare a ops bs _ => match ops, bs with
      | [op], [b] => if behindInMarks op b then .bad else .tval (.cmp op (opC (f sc a)) (opC (f sc b)))
      | [op, op'], [b, c] => if behindInMarks op' c then .bad else .tval (.chain op op' (f sc a) (f sc b) (f sc c))
      | _, _ => .bad
    | e => .tval (f sc e)
def cmpEI (f : Scope → Expr → CE) (sc : Scope) (tup : Bool) (e : Expr) : CE := match e with
    | .Call (.Name x p) args kws cp =>
      if glB sc x && kws.isEmpty && x = "range" then (if args.length = 1 ∨ args.length = 2 then .rng (cmps (f sc) args) else .bad)
      else if glB sc x && kws.isEmpty && x = "zip" then (if tup && args.length = 2 then .zip (cmps (f sc) args) else .bad)
      else if glB sc x && kws.isEmpty && x = "enumerate" then (if tup && args.length = 1 then .enm (cmps (f sc) args) else .bad)
      else if glB sc x && kws.isEmpty && x = "reversed" then match args with
        | [a] => if PySem.W.isStarred a then .bad else .rvs (f sc a)
        | _ => .bad
      else .itr (f sc (.Call (.Name x p) args kws cp))
    | e => .itr (f sc e)
mutual
def cmp (T : Tb) : Nat → Scope → Expr → CE
  | 0 => fun _ _ => .bad
  | n + 1 => cmpE T (cmp T n) (cmpT T n) (cmpI T n)
def cmpT (T : Tb) : Nat → Scope → Expr → CE
  | 0 => fun _ _ => .bad
  | n + 1 => cmpET (cmp T n) (cmpT T n)
def cmpI (T : Tb) : Nat → Scope → Bool → Expr → CE
  | 0 => fun _ _ _ => .bad
  | n + 1 => cmpEI (cmp T n)
end

/-! ### what the context must be -/
def bltNs : List Str := ["len", "min", "max", "sum", "all", "any", "tuple", "list", "int", "bool", "str", "isinstance", "range", "zip", "enumerate", "reversed", "sorted", "set", "dict", "ValueError"]
/-- a class k below a class j: 0 is the least of all of them -/
def subC (c j : Nat) : Bool := c == j || j == 0
/-- what is known of the classes of errors -/
structure ClsF (K : PySem.W.Frag) (C : Nat → Addr) (n : Nat) : Prop where
  exc : ∀ k, k < n → ExcC K (C k)
  kit : ∀ k j, k < n → j < n → PySem.W.kitOne K (.ref (C k)) (.ref (C j)) = some (subC k j)
  kv : ∀ k, k < n → PySem.W.kitOne K (.ref (C k)) (.type "ValueError") = some true
  exm : ∀ k j, k < n → j < n → PySem.W.exmOne K (.ref (C k)) (.ref (C j)) = some (subC k j)
/-- a def as it is called -/
structure DefOk (C : Nat → Addr) (F : Fs) (X : Cx) (f : Nat) (k : Nat) (fa : Addr) (fd : FuncData) (ps : List Str) : Prop where
  ok : FnOk X.prog X.w X.K X.mg X.base (L2.CX X.prog X.w) k fa fd ps (spB X.K C F ps.length f)
  room : Room (k + 1) X.A
  bd : Binds X.K fd ps []
/-- what is known of a class -/
structure ClaOk (ns : List Nat) (C : Nat → Addr) (F : Fs) (X : Cx) (ci : ClsI) : Prop where
  ex : ∃ CA, PySem.W.nsIn X.K mainGlobals ci.c = some (some (.ref CA)) ∧ X.mg ci.c = some (.ref CA) ∧ Cls X.K CA ∧ (∀ x ∈ ci.ats, NoAttr X.K CA x) ∧ (∀ p ∈ ci.ms, ∃ k fa fd ps, DefOk C F X p.2 k fa fd ps ∧ ns[p.2]? = some ps.length ∧ Meth X.K CA p.1 fa) ∧
    ∃ k fa fd ps, DefOk C F X ci.ini k fa fd ps ∧ ns[ci.ini]? = some ps.length ∧ L2.Mk X.K CA fa
structure XC (T : Tb) (F : Fs) (W : Nat → L2.St → Hp → Prop) (C : Nat → Addr) (sc : Scope) (X : Cx) : Prop where
  hN : X.N = T.N
  nd : T.N.Nodup
  hsc : X.env.scope = sc
  calm : X.calm = true
  un : X.A.units + 65 < cLine
  tk : Takes X (wx C W)
  pas : PassesOwn (model X.prog X.w) X.A X.env X.xe
  blt : ∀ x ∈ bltNs, X.mg x = none
  fns : ∀ (f : Nat) (x : Str) (np : Nat), T.fns[f]? = some (x, np) → ∃ (k : Nat) (fa : Addr) (fd : FuncData) (ps : List Str), FnOk X.prog X.w X.K X.mg X.base (L2.CX X.prog X.w) k fa fd ps (spB X.K C F ps.length f) ∧ Room (k + 1) X.A ∧
    (dotB x = false → X.mg x = some (.ref fa)) ∧ PySem.W.keepIn X.K (.ref fa) = true ∧ Binds X.K fd ps [] ∧ ps.length = np
  cla : ∀ ci ∈ T.cls, ClaOk (T.fns.map (·.2)) C F X ci
  exs : ∀ (c : Nat) (x : Str), T.exs[c]? = some x → X.mg x = some (.ref (C c)) ∧ PySem.W.keepIn X.K (.ref (C c)) = true ∧ PySem.W.subIn X.K (.ref (C c)) (.type "BaseException") = some true ∧ PySem.W.typeIn X.K (.ref (C c)) = some (.type "type") ∧
    PySem.W.excIn X.K (C c) [.type "ValueError", .type "Exception", .type "BaseException", .type "object"] "ValueError.__new__" = true
  cls : ClsF X.K C T.exs.length
  cns : ∀ (x z : Str), T.cns.lookup x = some z → ∃ t, X.mg x = some (.str z t)
section
variable {T : Tb} {F : Fs} {W : Nat → L2.St → Hp → Prop} {C : Nat → Addr} {sc : Scope} {X : Cx}
theorem vis_of (h : XC T F W C sc X) {x : Str} (v : visB sc x = true) : Vis X.env.scope x := by
  rw [h.hsc]
  unfold visB at v
  split at v
  · rename_i q; exact .inl q
  · rename_i q; exact .inr (.inl q)
  · rename_i q; exact .inr (.inr q)
  · cases v
theorem gl_of (h : XC T F W C sc X) {x : Str} (v : glB sc x = true) : Gl X x := by
  show X.env.scope.names.lookup x = _
  rw [h.hsc]
  unfold glB at v
  split at v
  · assumption
  · cases v
theorem ixOf_get {N : List Str} {x : Str} {i : Nat} (h : ixOf N x = some i) : N[i]? = some x := by
  unfold ixOf at h
  rw [List.findIdx?_eq_some_iff_getElem] at h
  obtain ⟨h1, h2, _⟩ := h
  rw [List.getElem?_eq_getElem h1]
  exact congrArg some (of_decide_eq_true h2)
theorem nm_of {x : Str} (h : nmOk x = true) : (x == ("__debug__" : Str)) = false ∧ (x == ("__classdict__" : Str)) = false ∧ x ≠ "__name__" := by
  unfold nmOk at h
  simpa [and_assoc] using h
theorem slot_of (h : XC T F W C sc X) {x : Str} {i : Nat} (e : slotOf T sc x = some i) : X.N[i]? = some x ∧ Vis X.env.scope x ∧ (x == ("__debug__" : Str)) = false ∧ (x == ("__classdict__" : Str)) = false := by
  unfold slotOf at e
  split at e
  · rename_i c
    obtain ⟨c1, c2⟩ := Bool.and_eq_true_iff.mp c
    rw [h.hN]
    exact ⟨ixOf_get e, vis_of h c1, (nm_of c2).1, (nm_of c2).2.1⟩
  · cases e
theorem fn_dot {x : Str} {f k : Nat} (e : fnOf T x = some (f, k)) : dotB x = false := by
  unfold fnOf at e
  split at e
  · cases e
  · rename_i c; simpa using c
theorem fn_of {x : Str} {f k : Nat} (e : fnOf T x = some (f, k)) : T.fns[f]? = some (x, k) := by
  unfold fnOf at e
  rw [if_neg (by rw [fn_dot e]; decide)] at e
  obtain ⟨i, e1, e2⟩ := Option.bind_eq_some_iff.mp e
  obtain ⟨p, e3, e4⟩ := Option.map_eq_some_iff.mp e2
  cases e4
  rw [List.findIdx?_eq_some_iff_getElem] at e1
  obtain ⟨h1, h2, _⟩ := e1
  rw [List.getElem?_eq_getElem h1] at e3
  have e5 : T.fns[f] = p := Option.some.inj e3
  have h3 : T.fns[f].1 = x := of_decide_eq_true h2
  rw [List.getElem?_eq_getElem h1, e5]
  rw [e5] at h3
  rw [← h3]
theorem bn_of {x : Str} {b : Bn} (e : bnOf x = some b) : bnName b = x := by
  have q := List.find?_some (p := fun b => decide (bnName b = x)) e
  exact of_decide_eq_true q
theorem ty_of {x : Str} {n : String} (e : tyOf x = some n) : Str.ofString n = x ∧ n ∈ ["int", "bool", "str", "tuple", "list"] := by
  have q := List.find?_some (p := fun n => decide ((Str.ofString n) = x)) e
  exact ⟨of_decide_eq_true q, List.mem_of_find?_eq_some e⟩
theorem clen_cmps {f : Expr → CE} {es : List Expr} (h : es.any PySem.W.isStarred = false) : clen (cmps f es) = es.length := by
  unfold cmps
  rw [if_neg (by rw [h]; decide)]
  induction es with
  | nil => rfl
  | cons e es ih =>
    rw [List.any_cons, Bool.or_eq_false_iff] at h
    have := ih h.2
    rw [List.foldr_cons, clen, this]; rfl
theorem not_star {es : List Expr} (h : es.any PySem.W.isStarred = false) : es.all (fun e => !PySem.W.isStarred e) = true := by
  rw [List.all_eq_true]
  intro e he
  rw [List.any_eq_false] at h
  have := h e he
  simpa using this
end
end SC

set_option Elab.async false
set_option maxRecDepth 100000
set_option maxHeartbeats 2000000
namespace SC
open PySem L2

section
variable {T : Tb} {F : Fs} {C : Nat → Addr}
/-- the claim for one depth -/
structure Snd (T : Tb) (F : Fs) (C : Nat → Addr) (n : Nat) : Prop where
  pe : ∀ {sc X W e}, XC T F W C sc X → PE X e (tV X.K F W (cmp T n sc e))
  pt : ∀ {sc X W e}, XC T F W C sc X → PT X e (tT X.K F W (cmpT T n sc e))
  pi : ∀ {sc X W tg e}, XC T F W C sc X → PI X tg e (tI X.K F W (cmpI T n sc (isTupE tg) e))
  pj : ∀ {sc X W tg e}, XC T F W C sc X → PI X tg e (tJ X.K F W (fixJ (cmpI T n sc (isTupE tg) e)))
variable {W : Nat → L2.St → Hp → Prop} {sc : Scope} {X : Cx} {n : Nat}
theorem cmps_ok {f : Expr → CE} (hf : ∀ e, PE X e (tV X.K F W (f e))) : ∀ {es : List Expr}, es.any PySem.W.isStarred = false → PA X es (tVs X.K F W (cmps f es))
  | [], _ => s_nil
  | e :: es, h => by
    have h' := h
    rw [List.any_cons, Bool.or_eq_false_iff] at h'
    have ih := cmps_ok hf h'.2
    unfold cmps at ih ⊢
    rw [if_neg (by rw [h'.2]; decide)] at ih
    rw [if_neg (by rw [h]; decide), List.foldr_cons]
    exact s_cons h'.1 (hf e) ih
theorem cmps_okO {f : Expr → CE} (hf : ∀ e, PE X e (tO X.K F W (f e))) : ∀ {es : List Expr}, es.any PySem.W.isStarred = false → PA X es (tOs X.K F W (cmps f es))
  | [], _ => s_nilO
  | e :: es, h => by
    have h' := h
    rw [List.any_cons, Bool.or_eq_false_iff] at h'
    have ih := cmps_okO hf h'.2
    unfold cmps at ih ⊢
    rw [if_neg (by rw [h'.2]; decide)] at ih
    rw [if_neg (by rw [h]; decide), List.foldr_cons]
    exact s_consO h'.1 (hf e) ih
theorem cAnd_ok {f : Expr → CE} {pos : Pos} (hf : ∀ e, PE X e (tV X.K F W (f e))) : ∀ {es : List Expr}, PE X (.BoolOp .And es pos) (tV X.K F W (cAnd f es))
  | [] => s_bad
  | [a] => pe_one (hf a)
  | a :: b :: r => s_and (hf a) (cAnd_ok hf)
theorem cOr_ok {f : Expr → CE} {pos : Pos} (hf : ∀ e, PE X e (tV X.K F W (f e))) : ∀ {es : List Expr}, PE X (.BoolOp .Or es pos) (tV X.K F W (cOr f es))
  | [] => s_bad
  | [a] => pe_one (hf a)
  | a :: b :: r => s_or (hf a) (cOr_ok hf)
theorem w_bad {e : Expr} : PW X e (tT X.K F W .bad) := ⟨fun _ _ _ _ _ _ _ ⟨_, _, _, h⟩ => h.elim⟩
theorem tAnd_ok {f : Expr → CE} {pos : Pos} (hf : ∀ e, PT X e (tT X.K F W (f e))) : ∀ {es : List Expr}, PW X (.BoolOp .And es pos) (tT X.K F W (tAndC f es))
  | [] => w_bad
  | [a] => pw_and1 (hf a)
  | a :: b :: r => t_and (hf a) (tAnd_ok hf)
theorem tOr_ok {f : Expr → CE} {pos : Pos} (hf : ∀ e, PT X e (tT X.K F W (f e))) : ∀ {es : List Expr}, PW X (.BoolOp .Or es pos) (tT X.K F W (tOrC f es))
  | [] => w_bad
  | [a] => pw_or1 (hf a)
  | a :: b :: r => t_or (hf a) (tOr_ok hf)
theorem optC_ok {f : Expr → CE} (hf : ∀ e, PE X e (tV X.K F W (f e))) : ∀ (o : Option Expr), PO X o (tP X.K F W (optC f o))
  | none => p_none
  | some e => p_some (hf e)
theorem cAnd_var {f : Expr → CE} {i : Nat} : ∀ {es : List Expr}, 2 ≤ es.length → cAnd f es ≠ .var i
  | [], h => by simp at h
  | [a], h => by simp at h
  | a :: b :: r, _ => by simp [cAnd]
theorem cOr_var {f : Expr → CE} {i : Nat} : ∀ {es : List Expr}, 2 ≤ es.length → cOr f es ≠ .var i
  | [], h => by simp at h
  | [a], h => by simp at h
  | a :: b :: r, _ => by simp [cOr]
theorem preO_no {f : Scope → Expr → CE} {e : Expr} {c : CE} (h : preO T f sc e = some c) : (∀ i, c ≠ .var i) ∧ ∀ k c', c ≠ .res k c' := by
  unfold preO at h
  split at h
  · split at h
    · cases h; exact ⟨(fun i z => by cases z), (fun k c' z => by cases z)⟩
    · cases h
  · split at h
    · split at h
      · split at h
        · cases h
          split
          · exact ⟨(fun i z => by cases z), (fun k c' z => by cases z)⟩
          · split
            · exact ⟨(fun i z => by cases z), (fun k c' z => by cases z)⟩
            · split <;> exact ⟨(fun i z => by cases z), (fun k c' z => by cases z)⟩
        · cases h
      · cases h
        split <;> exact ⟨(fun i z => by cases z), (fun k c' z => by cases z)⟩
    · cases h
  · split at h
    · split at h
      · cases h
        split <;> exact ⟨(fun i z => by cases z), (fun k c' z => by cases z)⟩
      · cases h
    · cases h
  · cases h
theorem pre_no {f : Scope → Expr → CE} {e : Expr} {c : CE} (h : preE T f sc e = some c) : (∀ i, c ≠ .var i) ∧ ∀ k c', c ≠ .res k c' := by
  unfold preE at h
  split at h
  · rename_i c' q; cases h; exact preO_no q
  unfold preE1 at h
  split at h
  · split at h
    · split at h
      · split at h
        · cases h
          split
          · split <;> exact ⟨(fun i z => by cases z), (fun k c' z => by cases z)⟩
          · exact ⟨(fun i z => by cases z), (fun k c' z => by cases z)⟩
        · cases h
      · split at h
        · split at h
          · split at h
            · cases h
              split <;> exact ⟨(fun i z => by cases z), (fun k c' z => by cases z)⟩
            · cases h
          · cases h
        · cases h
    · cases h
  · split at h
    · cases h; exact ⟨(fun i z => by cases z), (fun k c' z => by cases z)⟩
    · cases h
  · split at h
    · cases h
      split <;> exact ⟨(fun i z => by cases z), (fun k c' z => by cases z)⟩
    · cases h
  · split at h
    · cases h; exact ⟨(fun i z => by cases z), (fun k c' z => by cases z)⟩
    · cases h
  · cases h
/-- only a name is compiled to a slot -/
theorem cmp_var {i : Nat} {e : Expr} (h : cmp T n sc e = .var i) : ∃ x pos, e = .Name x pos ∧ slotOf T sc x = some i := by
  cases n with
  | zero => cases h
  | succ n =>
    have h : cmpE T (cmp T n) (cmpT T n) (cmpI T n) sc e = .var i := h
    have h : cmpE0 T (cmp T n) (cmpT T n) (cmpI T n) sc e = .var i := by
      unfold cmpE at h
      split at h
      · rename_i c q; exact absurd h ((pre_no q).1 i)
      · exact h
    cases e with
    | Name x pos =>
      simp only [cmpE0] at h
      split at h
      · rename_i j q; cases h; exact ⟨x, pos, rfl, q⟩
      · split at h <;> cases h
    | BoolOp op vs pos =>
      exfalso
      cases op with
      | And =>
        simp only [cmpE0] at h
        split at h
        · exact cAnd_var (by assumption) h
        · cases h
      | Or =>
        simp only [cmpE0] at h
        split at h
        · exact cOr_var (by assumption) h
        · cases h
    | _ =>
      exfalso
      simp only [cmpE0, methC, isinC, joinC] at h
      repeat' split at h
      all_goals first | cases h | (simp only [methC, isinC, joinC] at h; repeat' split at h) | skip
      all_goals cases h
theorem cAnd_res {f : Expr → CE} {k : Nat} {c : CE} : ∀ {es : List Expr}, 2 ≤ es.length → cAnd f es ≠ .res k c
  | [], h => by simp at h
  | [a], h => by simp at h
  | a :: b :: r, _ => by simp [cAnd]
theorem cOr_res {f : Expr → CE} {k : Nat} {c : CE} : ∀ {es : List Expr}, 2 ≤ es.length → cOr f es ≠ .res k c
  | [], h => by simp at h
  | [a], h => by simp at h
  | a :: b :: r, _ => by simp [cOr]
theorem cmp_res {k : Nat} {c : CE} {e : Expr} (h : cmp T n sc e = .res k c) : False := by
  cases n with
  | zero => cases h
  | succ n =>
    have h : cmpE T (cmp T n) (cmpT T n) (cmpI T n) sc e = .res k c := h
    have h : cmpE0 T (cmp T n) (cmpT T n) (cmpI T n) sc e = .res k c := by
      unfold cmpE at h
      split at h
      · rename_i c' q; exact absurd h ((pre_no q).2 k c)
      · exact h
    cases e with
    | Name x pos =>
      simp only [cmpE0] at h
      split at h
      · cases h
      · split at h <;> cases h
    | BoolOp op vs pos =>
      cases op with
      | And =>
        simp only [cmpE0] at h
        split at h
        · exact cAnd_res (by assumption) h
        · cases h
      | Or =>
        simp only [cmpE0] at h
        split at h
        · exact cOr_res (by assumption) h
        · cases h
    | _ =>
      simp only [cmpE0, methC, isinC, joinC] at h
      repeat' split at h
      all_goals first | cases h | (simp only [methC, isinC, joinC] at h; repeat' split at h) | skip
      all_goals cases h
theorem cmp_bad0 : True := trivial
theorem opd_ok (xc : XC T F W C sc X) {e : Expr} (h : PE X e (tV X.K F W (cmp T n sc e))) : PE X e (tO X.K F W (cmp T n sc e)) := by
  by_cases q : ∃ i, cmp T n sc e = .var i
  · obtain ⟨i, q⟩ := q
    obtain ⟨x, pos, rfl, e1⟩ := cmp_var q
    rw [q]
    obtain ⟨h1, h2, h3, h4⟩ := slot_of xc e1
    exact s_varO h1 h2 h3 h4
  · exact s_opd (fun i z => q ⟨i, z⟩) h (fun k i z => cmp_res z)
theorem opC_ok (xc : XC T F W C sc X) {e : Expr} (h : PE X e (tV X.K F W (cmp T n sc e))) : PE X e (tO X.K F W (opC (cmp T n sc e))) := by
  have d := opd_ok xc h
  unfold opC
  split
  · rename_i k cs o x q
    rw [q] at h
    exact s_resO (fun i z => nomatch z) h
  · exact d

/-! ### targets -/
theorem assign_names {env : Env} : ∀ {es : List Expr} {xs : List Str}, es.mapM nmOf = some xs → (assignEach es env).length = es.length ∧ (assignEach es env).findIdx? (·.1) = none
  | [], xs, _ => ⟨rfl, rfl⟩
  | e :: es, xs, h => by
    rw [List.mapM_cons] at h
    cases e with
    | Name x p =>
      cases q : es.mapM nmOf with
      | none => rw [q] at h; cases h
      | some ys =>
        obtain ⟨h1, h2⟩ := assign_names (env := env) q
        have e1 : assignEach (.Name x p :: es) env = (false, assign (.Name x p) env) :: assignEach es env := rfl
        rw [e1]
        refine ⟨by rw [List.length_cons, List.length_cons, h1], ?_⟩
        rw [List.findIdx?_cons, h2]; rfl
    | _ => cases h
theorem pgs_names {X : Cx} (nd : X.N.Nodup) : ∀ {es : List Expr} {xs : List Str} {is : List Nat}, es.mapM nmOf = some xs → xs.mapM (ixOf X.N) = some is →
    (∀ x ∈ xs, Loc X.env.scope x ∧ (X.fn x = true ∨ X.env.scope.names.lookup x = some .local)) → PGs X es (gNs is) ∧ is.length = es.length
  | [], xs, is, h1, h2, _ => by
    have e : xs = [] := by simpa using h1.symm
    subst e
    have e : is = [] := by simpa using h2.symm
    subst e
    exact ⟨pgs_nil, rfl⟩
  | e :: es, xs, is, h1, h2, h3 => by
    rw [List.mapM_cons] at h1
    cases e with
    | Name x p =>
      cases q : es.mapM nmOf with
      | none => rw [q] at h1; cases h1
      | some ys =>
        rw [q] at h1
        cases h1
        rw [List.mapM_cons] at h2
        cases q1 : ixOf X.N x with
        | none => rw [q1] at h2; cases h2
        | some i =>
          cases q2 : ys.mapM (ixOf X.N) with
          | none => rw [q1, q2] at h2; cases h2
          | some js =>
            rw [q1, q2] at h2
            cases h2
            obtain ⟨g1, g2⟩ := pgs_names nd q q2 fun y hy => h3 y (List.mem_cons_of_mem _ hy)
            obtain ⟨l1, l2⟩ := h3 x List.mem_cons_self
            exact ⟨pgs_cons (pg_name nd (ixOf_get q1) l1 l2) g1 rfl, by rw [List.length_cons, List.length_cons, g2]⟩
    | _ => cases h1
theorem pg_of {X : Cx} {tgE : Expr} {tup : Bool} {xs : List Str} {is : List Nat} (nd : X.N.Nodup) (hc : X.calm = true) (h1 : tgOf tgE = some (tup, xs)) (h2 : xs.mapM (ixOf X.N) = some is)
    (h3 : ∀ x ∈ xs, Loc X.env.scope x ∧ (X.fn x = true ∨ X.env.scope.names.lookup x = some .local)) : PG X tgE (gT X.K tup is) := by
  cases tgE with
  | Name x p =>
    cases h1
    rw [List.mapM_cons] at h2
    cases q1 : ixOf X.N x with
    | none => rw [q1] at h2; cases h2
    | some i =>
      rw [q1] at h2
      have e : is = [i] := by simpa using h2.symm
      subst e
      obtain ⟨l1, l2⟩ := h3 x List.mem_cons_self
      exact pg_name nd (ixOf_get q1) l1 l2
  | Tuple es k p =>
    obtain ⟨ys, e1, e2⟩ := Option.map_eq_some_iff.mp (show (es.mapM nmOf).map (fun xs => (true, xs)) = some (tup, xs) from h1)
    cases e2
    obtain ⟨g1, g2⟩ := pgs_names nd e1 h2 h3
    obtain ⟨a1, a2⟩ := assign_names (env := X.env) e1
    exact pg_tup hc g1 (by rw [a1, g2]) a2
  | _ => cases h1
theorem own_snd : ∀ {xs : List Str} {is : List Nat} {N : List Str}, xs.mapM (ixOf N) = some is → (xs.zip is).map (·.2) = is
  | [], is, N, h => by
    have e : is = [] := by simpa using h.symm
    subst e; rfl
  | x :: xs, is, N, h => by
    rw [List.mapM_cons] at h
    cases q1 : ixOf N x with
    | none => rw [q1] at h; cases h
    | some i =>
      cases q2 : xs.mapM (ixOf N) with
      | none => rw [q1, q2] at h; cases h
      | some js =>
        rw [q1, q2] at h
        cases h
        have := own_snd q2
        show i :: ((xs.zip js).map (·.2)) = i :: js
        rw [this]
theorem XC.blk (xc : XC T F W C sc X) (s : Shared) (H : Hp) (scope : Scope) (cl : List (Str × Addr)) (Cc : Addr) (fp : List Addr) : XC T F W0 C (relS scope sc) (X.blk s H scope (compEnvC scope cl Cc X.env) fp) where
  hN := xc.hN
  nd := xc.nd
  hsc := by
    show relS scope X.env.scope = _
    rw [xc.hsc]
  calm := xc.calm
  un := xc.un
  tk := fun u s' x => by
    obtain ⟨_, _, _, _, _, _, _, _, _, _, _, _, _, _, _, _, _, _, _, z⟩ := x
    exact z.elim
  pas := PassesOwn.never
  blt := xc.blt
  fns := xc.fns
  cla := fun ci h => ⟨by
    obtain ⟨CA, h1, h2, h3, h4, h5, h6⟩ := (xc.cla ci h).ex
    exact ⟨CA, h1, h2, h3, h4, fun p hp => by
      obtain ⟨k, fa, fd, ps, d, n, m⟩ := h5 p hp
      exact ⟨k, fa, fd, ps, ⟨d.ok, d.room, d.bd⟩, n, m⟩, by
      obtain ⟨k, fa, fd, ps, d, n, m⟩ := h6
      exact ⟨k, fa, fd, ps, ⟨d.ok, d.room, d.bd⟩, n, m⟩⟩⟩
  exs := xc.exs
  cls := xc.cls
  cns := xc.cns
theorem tg_loc {scope sc : Scope} {x : Str} {X : Cx} (h : tgB scope sc x = true) (he : X.env.scope = relS scope sc) (hf : X.fn = fun x => scope.names.lookup x == some .cell) : Loc X.env.scope x ∧ (X.fn x = true ∨ X.env.scope.names.lookup x = some .local) := by
  unfold tgB at h
  rw [he, hf]
  simp only [Bool.or_eq_true, Bool.and_eq_true, decide_eq_true_eq] at h
  rcases h with h | ⟨h1, h2⟩
  · exact ⟨.inl h, .inr h⟩
  · refine ⟨.inr h1, .inl ?_⟩
    show (scope.names.lookup x == some .cell) = true
    rw [h2]; rfl
theorem noset {iter : Expr} {env : Env} (h : isSetE iter = false) : ∀ x, foldedSetIterable iter env x = pure x := by
  intro x
  cases iter <;> first | rfl | cases h
theorem cmps_bad {f : Expr → CE} {es : List Expr} (h : es.any PySem.W.isStarred = true) : cmps f es = .bad := by
  unfold cmps; rw [if_pos h]
end
end SC

set_option Elab.async false
set_option maxRecDepth 100000
set_option maxHeartbeats 4000000
namespace SC
open PySem L2

section
variable {T : Tb} {F : Fs} {C : Nat → Addr} {W : Nat → L2.St → Hp → Prop} {sc : Scope} {X : Cx} {n : Nat}
theorem evs_bad {r : EV} : evs F .bad r = .bad := rfl
theorem evO_bad {r : EV} : evO F .bad r = .bad := rfl
theorem plain_ix {s : Expr} (h : ∀ lo hi st p, s ≠ .Slice lo hi st p) : PlainIx s := by
  intro o i
  cases s <;> first | rfl | exact absurd rfl (h _ _ _ _)
theorem boot_ty {n : String} (h : n ∈ ["int", "bool", "str", "tuple", "list"]) : bootBuiltins (Str.ofString n) = some (.type n) ∧ tyOk n = true ∧ Str.ofString n ∈ bltNs := by
  simp only [List.mem_cons, List.mem_nil_iff, or_false] at h
  rcases h with h | h | h | h | h <;> subst h <;> decide +kernel
theorem bn_mem (b : Bn) : bnName b ∈ bltNs := by cases b <;> decide +kernel
theorem isin_ok (xc : XC T F W C sc X) {a t : Expr} {ca : CE} {pos p : Pos} (hg : glB sc "isinstance" = true) (hs : PySem.W.isStarred a = false) (ha : PE X a (tO X.K F W ca)) :
    PE X (.Call (.Name "isinstance" p) [a, t] [] pos) (tV X.K F W (isinC ca sc t)) := by
  have hm := xc.blt "isinstance" (by decide +kernel)
  have hG := gl_of xc hg
  unfold isinC
  split
  · split
    · rename_i t p2 c
      obtain ⟨c1, c2⟩ := Bool.and_eq_true_iff.mp c
      split
      · rename_i n e
        obtain ⟨e1, e2⟩ := ty_of e
        obtain ⟨b1, b2, b3⟩ := boot_ty e2
        rw [e1] at b1 b3
        exact s_isin1 b1 b2 (nm_of c2).2.2 (nm_of c2).1 hG hm (gl_of xc c1) (xc.blt _ b3) hs ha
      · exact s_bad
    · exact s_bad
  · split
    · rename_i t p2 u p3 k p4 c
      simp only [Bool.and_eq_true] at c
      obtain ⟨⟨⟨c1, c2⟩, c3⟩, c4⟩ := c
      split
      · rename_i n m e f
        obtain ⟨e1, e2⟩ := ty_of e
        obtain ⟨b1, b2, b3⟩ := boot_ty e2
        rw [e1] at b1 b3
        obtain ⟨f1, f2⟩ := ty_of f
        obtain ⟨d1, d2, d3⟩ := boot_ty f2
        rw [f1] at d1 d3
        exact s_isin2 b1 d1 b2 d2 (nm_of c2).2.2 (nm_of c2).1 (nm_of c4).2.2 (nm_of c4).1 hG hm (gl_of xc c1) (xc.blt _ b3) (gl_of xc c3) (xc.blt _ d3) hs ha
      · exact s_bad
    · exact s_bad
  · exact s_bad
theorem meth_ok (xc : XC T F W C sc X) {f : Expr → CE} {x m : Str} {i : Nat} {args : List Expr} {px apos cpos : Pos} (hl : (apos.endLine == cpos.line) = true) (e : slotOf T sc x = some i) (hv : ∀ e, PE X e (tV X.K F W (f e))) (ho : ∀ e, PE X e (tO X.K F W (f e))) :
    PE X (.Call (.Attribute (.Name x px) m apos) args [] cpos) (tV X.K F W (methC i f m args)) := by
  obtain ⟨h1, h2, h3, h4⟩ := slot_of xc e
  unfold methC
  split
  · split
    · exact s_bad
    · rename_i e2 c
      rw [Bool.not_eq_true] at c
      split
      · rename_i q; subst q; exact s_app h1 h2 h3 h4 hl c (hv _)
      · split
        · rename_i q; subst q; exact s_ext h1 h2 h3 h4 hl c (ho _)
        · split
          · rename_i q; subst q; exact s_popA h1 h2 h3 h4 hl c (hv _)
          · split
            · rename_i q; subst q; exact s_split c rfl hl (s_varO h1 h2 h3 h4) (ho _)
            · split
              · rename_i q; subst q; exact s_fnd xc.un c rfl hl (s_varO h1 h2 h3 h4) (ho _)
              · split
                · rename_i q; subst q; exact s_cnt xc.un c rfl hl (s_varO h1 h2 h3 h4) (ho _)
                · exact s_bad
  · split
    · rename_i q; subst q; exact s_popL h1 h2 h3 h4 hl
    · exact s_bad
  · exact s_bad
theorem join_ok {f : Expr → CE} {z m : Str} {k : Nat} {args : List Expr} {px apos cpos : Pos} (hl : (apos.endLine == cpos.line) = true) (ho : ∀ e, PE X e (tO X.K F W (f e))) :
    PE X (.Call (.Attribute (.Constant (.str z) k px) m apos) args [] cpos) (tV X.K F W (joinC z f m args)) := by
  unfold joinC
  split
  · split
    · exact s_bad
    · rename_i c
      rw [Bool.not_eq_true] at c
      split
      · rename_i q; subst q; exact s_join c rfl hl (s_opd (fun i w => nomatch w) s_str) (ho _)
      · exact s_bad
  · exact s_bad
theorem s_cn {x z : Str} {pos : Pos} (hg : Gl X x) (hd : (x == ("__debug__" : Str)) = false) (hm : ∃ t, X.mg x = some (.str z t)) : PE X (.Name x pos) (tV X.K F W (.cst (.str z))) := by
  obtain ⟨t, hm⟩ := hm
  refine PE.imp (pe_glob (v := .str z) hg hm ⟨t, rfl⟩ hd) fun σ H Q ⟨G, r, s, h⟩ => ?_
  rw [ev] at h
  exact h G H s Stp.refl _ (Rp.str z)
theorem len_of {b : Bn} {args : List Expr} {a : Expr} (h : lenC sc b args = some a) : b = .len ∧ ∃ p2 q2, args = [.Call (.Name "set" p2) [a] [] q2] ∧ glB sc "set" = true ∧ PySem.W.isStarred a = false := by
  unfold lenC at h
  split at h
  · unfold setArg at h
    split at h
    · split at h
      · rename_i c
        obtain ⟨rfl, rfl, c3, c4⟩ := c
        cases h
        exact ⟨rfl, _, _, rfl, c3, c4⟩
      · cases h
    · cases h
  · cases h
theorem srt_of {b : Bn} {args : List Expr} {a : Expr} (h : srtC sc b args = some a) : b = .sorted ∧ ∃ p2 q2, args = [.Call (.Name "set" p2) [a] [] q2] ∧ glB sc "set" = true ∧ PySem.W.isStarred a = false := by
  unfold srtC at h
  split at h
  · unfold setArg at h
    split at h
    · split at h
      · rename_i c
        obtain ⟨rfl, rfl, c3, c4⟩ := c
        cases h
        exact ⟨rfl, _, _, rfl, c3, c4⟩
      · cases h
    · cases h
  · cases h
theorem args_case {f : Expr → CE} (args : List Expr) : args.any PySem.W.isStarred = false ∨ cmps f args = .bad := by
  cases q : args.any PySem.W.isStarred with
  | false => exact .inl rfl
  | true => exact .inr (cmps_bad q)
/-- instances -/
theorem sup_ok {o : Expr} {m : Str} {env : Env} {w : Sem Value} (h : supB o = false) : attributeBase o m env w = w := by
  unfold attributeBase
  cases o with
  | Call g args kws pos =>
    cases g with
    | Name x p =>
      have hx : (x != ("super" : Str)) = true := by
        unfold supB at h
        simpa using h
      cases args with
      | nil =>
        cases kws with
        | nil => simp [hx]
        | cons _ _ => rfl
      | cons _ _ => rfl
    | _ => rfl
  | _ => rfl
theorem clsA_ok (xc : XC T F W C sc X) (x : Str) : ClsA X (clsA T x) x := fun c hc CA hCA => by
  unfold clsA at hc
  rw [List.mem_map] at hc
  obtain ⟨ci, h1, h2⟩ := hc
  rw [List.mem_filter, decide_eq_true_eq] at h1
  obtain ⟨CA', g1, g2, g3, g4, g5, g6⟩ := (xc.cla ci h1.1).ex
  rw [h2, hCA] at g1
  cases g1
  exact ⟨g3, g4 x h1.2⟩
theorem look_mem {α β : Type} [DecidableEq α] {x : α} {y : β} : ∀ {l : List (α × β)}, l.lookup x = some y → (x, y) ∈ l
  | [], h => by cases h
  | (a, b) :: l, h => by
    rw [List.lookup_cons] at h
    split at h
    · rename_i c
      have e : x = a := by simpa using c
      cases h
      subst e
      exact List.mem_cons_self
    · exact List.mem_cons_of_mem _ (look_mem h)
theorem mthA_ok (xc : XC T F W C sc X) {m : Str} {na : Nat} (ha : ∀ q ∈ mthA T m, ariB T (na + 1) q.2 = true) : MthA C F X m na (mthA T m) := fun c f hf CA hCA => by
  have hm := look_mem hf
  have har := ha _ hm
  unfold mthA at hm
  rw [List.mem_filterMap] at hm
  obtain ⟨ci, h1, h2⟩ := hm
  obtain ⟨f', h3, h4⟩ := Option.map_eq_some_iff.mp h2
  cases h4
  obtain ⟨CA', g1, g2, g3, g4, g5, g6⟩ := (xc.cla ci h1).ex
  rw [hCA] at g1
  cases g1
  obtain ⟨k, fa, fd, ps, d, n, me⟩ := g5 _ (look_mem h3)
  refine ⟨g3, k, fa, fd, ps, d.ok, d.room.mono (Nat.le_succ _), d.bd, me, ?_⟩
  unfold ariB at har
  rw [decide_eq_true_eq, n] at har
  exact Option.some.inj har
theorem preO_ok (ih : Snd T F C n) (xc : XC T F W C sc X) {e : Expr} {c : CE} (h : preO T (cmp T n) sc e = some c) : PE X e (tV X.K F W c) := by
  have hv : ∀ e, PE X e (tV X.K F W (cmp T n sc e)) := fun e => ih.pe xc
  have ho : ∀ e, PE X e (tO X.K F W (cmp T n sc e)) := fun e => opd_ok xc (hv e)
  have oc : ∀ e, PE X e (tO X.K F W (opC (cmp T n sc e))) := fun e => opC_ok xc (hv e)
  unfold preO at h
  split at h
  · split at h
    · cases h
      exact s_fld rfl (clsA_ok xc _) (hv _)
    · cases h
  · split at h
    · rename_i o m apos args kws cpos hk
      simp only [Bool.and_eq_true] at hk
      have hk' : kws = [] := by simpa using hk.2
      subst hk'
      split at h
      · split at h
        · rename_i a ho1
          cases h
          have hb : attributeBase o m X.env (eval o X.env) = eval o X.env := by
            refine sup_ok ?_
            cases o <;> first | rfl | cases ho1
          split
          · exact s_bad
          · rename_i c
            simp only [Bool.or_eq_true, not_or, Bool.not_eq_true, Bool.not_eq_false'] at c
            have hl : (apos.endLine == cpos.line) = true := by simpa using c.1
            split
            · rename_i q; subst q; exact s_fnd xc.un c.2 hb hl (opC_ok xc (hv _)) (ho _)
            · split
              · rename_i q; subst q; exact s_cnt xc.un c.2 hb hl (opC_ok xc (hv _)) (ho _)
              · exact s_bad
        · cases h
      · rename_i p ms hms
        cases h
        split
        · exact s_bad
        · rename_i c
          simp only [Bool.or_eq_true, not_or, Bool.not_eq_true, Bool.not_eq_false', decide_eq_true_eq] at c
          obtain ⟨⟨⟨⟨c1, c2⟩, c3⟩, c4⟩, c5⟩ := c
          have hl : (apos.endLine == cpos.line) = true := by simpa using c2
          have ha : MthA C F X m args.length (p :: ms) := by
            rw [← hms] at c5 ⊢
            have c6 : ((mthA T m).all fun q => ariB T (args.length + 1) q.2) = true := by simpa using c5
            exact mthA_ok xc fun q hq => List.all_eq_true.mp c6 q hq
          cases args with
          | nil => exact s_mcl0 (sup_ok c1) hl ha xc.tk (hv _)
          | cons e es => exact s_mcl (sup_ok c1) hl (not_star c3) (by omega) ha xc.tk (clen_cmps c3) (hv _) (cmps_ok hv c3)
    · cases h
  · split at h
    · rename_i c p args kws pos hk
      simp only [Bool.and_eq_true] at hk
      obtain ⟨⟨⟨_, hk1⟩, hg1⟩, hg2⟩ := hk
      have hk' : kws = [] := by simpa using hk1
      subst hk'
      split at h
      · rename_i ci hci
        cases h
        split
        · exact s_bad
        · rename_i c'
          simp only [Bool.or_eq_true, not_or, Bool.not_eq_true, Bool.not_eq_false'] at c'
          obtain ⟨c3, c5⟩ := c'
          have ec : ci.c = c := of_decide_eq_true (List.find?_some (p := fun (ci : ClsI) => decide (ci.c = c)) hci)
          obtain ⟨CA, g1, g2, g3, g4, g5, k, fa, fd, ps, d, n, M⟩ := (xc.cla ci (List.mem_of_find?_eq_some hci)).ex
          rw [ec] at g1 g2
          have har : args.length + 1 = ps.length := by
            unfold ariB at c5
            rw [n] at c5
            have := (by simpa using c5 : ps.length = args.length + 1)
            omega
          cases args with
          | nil => exact s_mk0 g1 M d.ok d.room (gl_of xc hg1) g2 d.bd xc.tk (nm_of hg2).1 har
          | cons e es =>
            have c6 := c3
            rw [List.any_cons, Bool.or_eq_false_iff] at c6
            exact s_mk g1 M d.ok d.room (gl_of xc hg1) g2 d.bd xc.tk (nm_of hg2).1 c6.1 (not_star c6.2) (by rw [clen_cmps c3]; exact har) (cmps_ok hv c3)
      · cases h
    · cases h
  · cases h
/-- what has to do with the store -/
theorem pre1_ok (ih : Snd T F C n) (xc : XC T F W C sc X) {e : Expr} {c : CE} (h : preE1 T (cmp T n) sc e = some c) : PE X e (tV X.K F W c) := by
  have hv : ∀ e, PE X e (tV X.K F W (cmp T n sc e)) := fun e => ih.pe xc
  unfold preE1 at h
  split at h
  · split at h
    · rename_i x p args kws pos hk
      simp only [Bool.and_eq_true] at hk
      obtain ⟨⟨hk1, hg1⟩, hg2⟩ := hk
      have hk' : kws = [] := by simpa using hk1
      subst hk'
      split at h
      · rename_i g k hf
        split at h
        · cases h
          split
          · rename_i hl
            rcases args_case (f := cmp T n sc) args with c | c
            · obtain ⟨kk, fa, fd, ps, Fo, hr, hm, hkp, hb, hnp⟩ := xc.fns g x k (fn_of hf)
              cases args with
              | nil => exfalso; have := hl.1; have := hl.2; simp at *; omega
              | cons e es =>
                have c' := c
                rw [List.any_cons, Bool.or_eq_false_iff] at c'
                split
                · exact s_calS Fo (hr.mono (Nat.le_succ _)) (gl_of xc hg1) (hm (fn_dot hf)) hkp hb xc.tk (nm_of hg2).1 c'.1 (not_star c'.2) (by rw [clen_cmps c, hnp]; exact hl.1) (cmps_ok hv c)
                · exact s_calE Fo (hr.mono (Nat.le_succ _)) (gl_of xc hg1) (hm (fn_dot hf)) hkp hb xc.tk (nm_of hg2).1 c'.1 (not_star c'.2) (by rw [clen_cmps c, hnp]; exact hl.1) (cmps_ok hv c)
            · rw [c]
              split
              · exact s_noV fun r => by rw [ev, evs_bad]; rfl
              · exact s_noV fun r => by rw [ev, evs_bad]; rfl
          · exact s_bad
        · cases h
      · split at h
        · split at h
          · rename_i y py hx
            split at h
            · cases h
              split
              · rename_i i hi
                have ex : x = "sorted" := by simpa using hx
                subst ex
                obtain ⟨h1, h2, h3, h4⟩ := slot_of xc hi
                exact s_dst xc.calm (gl_of xc hg1) (xc.blt "sorted" (by decide +kernel)) rfl (s_var h1 h2 h3 h4)
              · exact s_bad
            · cases h
          · cases h
        · cases h
    · cases h
  · split at h
    · rename_i x p s pos hc
      cases h
      simp only [Bool.and_eq_true] at hc
      exact s_dgi xc.un (plain_ix fun lo hi st p q => by subst q; cases hc.2) (hv _) (hv _)
    · cases h
  · split at h
    · rename_i x p m apos a b kws cpos hc
      simp only [Bool.and_eq_true, decide_eq_true_eq] at hc
      obtain ⟨⟨_, hk1⟩, hm⟩ := hc
      have hk' : kws = [] := by simpa using hk1
      subst hk' hm
      cases h
      split
      · exact s_bad
      · rename_i c
        simp only [Bool.or_eq_true, not_or, Bool.not_eq_true, Bool.not_eq_false'] at c
        exact s_dgt (f := a) xc.un rfl (by simpa using c.1.1) c.1.2 c.2 (hv _) (hv _) (hv _)
    · cases h
  · split at h
    · cases h
      exact s_dds xc.un (hv _) (hv _)
    · cases h
  · cases h
theorem pre_ok (ih : Snd T F C n) (xc : XC T F W C sc X) {e : Expr} {c : CE} (h : preE T (cmp T n) sc e = some c) : PE X e (tV X.K F W c) := by
  unfold preE at h
  split at h
  · rename_i c' q; cases h; exact preO_ok ih xc q
  · exact pre1_ok ih xc h
theorem cmpI_var {i : Nat} {b : Bool} {e : Expr} (h : cmpI T n sc b e = .itr (.var i)) : ∃ x pos, e = .Name x pos ∧ slotOf T sc x = some i := by
  cases n with
  | zero => cases h
  | succ n =>
    have h : cmpEI (cmp T n) sc b e = .itr (.var i) := h
    unfold cmpEI at h
    split at h
    · repeat' split at h
      all_goals first | (cases h; done) | (injection h with h; exact cmp_var h)
    · injection h with h
      exact cmp_var h
theorem pi_fix (xc : XC T F W C sc X) {tgE e : Expr} {b : Bool} (h : PI X tgE e (tJ X.K F W (fixJ (cmpI T n sc b e)))) (cc ce : CE) : PI X tgE e (tJ X.K F W (fixI (cmpI T n sc b e) cc ce)) := by
  unfold fixI
  split
  · rename_i i q
    split
    · obtain ⟨x, pos, rfl, hs⟩ := cmpI_var q
      obtain ⟨h1, h2, h3, h4⟩ := slot_of xc hs
      exact PI.toJ (i_itr (s_opd (fun i z => nomatch z) (s_prm (s_var h1 h2 h3 h4))) (fun k c z => nomatch z))
    · rw [q] at h; exact h
  · exact h
theorem pe_succ0 (ih : Snd T F C n) (xc : XC T F W C sc X) (e : Expr) : PE X e (tV X.K F W (cmpE0 T (cmp T n) (cmpT T n) (cmpI T n) sc e)) := by
  have hv : ∀ e, PE X e (tV X.K F W (cmp T n sc e)) := fun e => ih.pe xc
  have ho : ∀ e, PE X e (tO X.K F W (cmp T n sc e)) := fun e => opd_ok xc (hv e)
  have oc : ∀ e, PE X e (tO X.K F W (opC (cmp T n sc e))) := fun e => opC_ok xc (hv e)
  have ht : ∀ e, PT X e (tT X.K F W (cmpT T n sc e)) := fun e => ih.pt xc
  have noV : ∀ {e : Expr} {ce : CE}, (∀ r, ev F ce r = .bad) → PE X e (tV X.K F W ce) := fun h => s_noV h
  cases e with
  | Name x pos =>
    simp only [cmpE0]
    split
    · rename_i i q
      obtain ⟨h1, h2, h3, h4⟩ := slot_of xc q
      exact s_var h1 h2 h3 h4
    · split
      · rename_i z q
        unfold cnOf at q
        split at q
        · rename_i c
          obtain ⟨c1, c2⟩ := Bool.and_eq_true_iff.mp c
          exact s_cn (gl_of xc c1) (nm_of c2).1 (xc.cns _ _ q)
        · cases q
      · exact s_bad
  | Constant c k pos =>
    cases c <;> simp only [cmpE0] <;> first | exact s_int | exact s_bl | exact s_non | exact s_str | exact s_bad
  | Tuple es k pos =>
    simp only [cmpE0]
    split
    · rename_i hl
      rcases args_case (f := cmp T n sc) es with c | c
      · exact s_tup (by rw [clen_cmps c]; exact Nat.le_trans hl (by decide)) (cmps_ok hv c)
      · rw [c]; exact noV fun r => by rw [ev, evs_bad]; rfl
    · exact s_bad
  | List es pos =>
    simp only [cmpE0]
    split
    · rename_i hl
      rcases args_case (f := cmp T n sc) es with c | c
      · exact s_lst (by rw [clen_cmps c]; exact Nat.le_trans hl (by decide)) (cmps_ok hv c)
      · rw [c]; exact noV fun r => by rw [ev, evs_bad]; rfl
    · exact s_bad
  | BinOp a op b pos => simp only [cmpE0]; exact s_bin (ho a) (ho b)
  | UnaryOp op a pos => cases op <;> simp only [cmpE0] <;> first | exact s_neg (ho a) | exact s_not (ho a) | exact s_bad
  | BoolOp op vs pos =>
    cases op with
    | And =>
      simp only [cmpE0]
      split
      · exact cAnd_ok hv
      · exact s_bad
    | Or =>
      simp only [cmpE0]
      split
      · exact cOr_ok hv
      · exact s_bad
  | Compare a ops bs pos =>
    simp only [cmpE0]
    split
    · split
      · exact s_bad
      · rename_i c; rw [Bool.not_eq_true] at c; exact s_cmp xc.un c (oc a) (oc _)
    · split
      · exact s_bad
      · rename_i c; rw [Bool.not_eq_true] at c; exact s_chain xc.un c (ho a) (ho _) (ho _)
    · split
      · exact s_bad
      · rename_i c; rw [Bool.not_eq_true] at c; exact s_chain3 xc.un c (ho a) (ho _) (ho _) (ho _)
    · exact s_bad
  | IfExp c a b pos => simp only [cmpE0]; exact s_ite (ht c) (hv a) (hv b)
  | Subscript a s pos =>
    simp only [cmpE0]
    split
    · exact s_rev (ho a)
    · exact s_slc (ho a) (optC_ok hv _) (optC_ok hv _)
    · exact s_bad
    · rename_i hn1 hn2 hn3
      exact s_idx (plain_ix fun lo hi st p q => hn3 lo hi st p q) (oc a) (ho _)
  | Call g args kws cpos =>
    simp only [cmpE0]
    split
    · exact s_bad
    · rename_i hk
      have hk' : kws = [] := by simpa using hk
      subst hk'
      split
      · rename_i x p
        split
        · exact s_bad
        · rename_i hg
          have hg' : glB sc x = true ∧ nmOk x = true := by simpa using hg
          obtain ⟨hg1, hg2⟩ := hg'
          split
          · rename_i f k hf
            split
            · rename_i hl
              rcases args_case (f := cmp T n sc) args with c | c
              · obtain ⟨kk, fa, fd, ps, Fo, hr, hm, hkp, hb, hnp⟩ := xc.fns f x k (fn_of hf)
                cases args with
                | nil => exfalso; have := hl.1; have := hl.2; simp at *; omega
                | cons e es =>
                  have c' := c
                  rw [List.any_cons, Bool.or_eq_false_iff] at c'
                  exact s_call Fo (hr.mono (Nat.le_succ _)) (gl_of xc hg1) (hm (fn_dot hf)) hkp hb xc.tk (nm_of hg2).1 c'.1 (not_star c'.2) (by rw [clen_cmps c, hnp]; exact hl.1) (cmps_ok hv c)
              · rw [c]; exact noV fun r => by rw [ev, evs_bad]; rfl
            · exact s_bad
          · split
            · rename_i hx
              subst hx
              split
              · rename_i a t
                split
                · exact s_bad
                · rename_i c; rw [Bool.not_eq_true] at c; exact isin_ok xc hg1 c (ho a)
              · exact s_bad
            · split
              · rename_i b hb
                split
                · rename_i a hla
                  obtain ⟨rfl, p2, q2, rfl, h1, h2⟩ := len_of hla
                  have e1 : bnName .len = x := bn_of hb
                  subst e1
                  exact s_lset xc.calm xc.un (gl_of xc hg1) (xc.blt _ (bn_mem .len)) (gl_of xc h1) (xc.blt "set" (by decide +kernel)) h2 (ho a)
                split
                · rename_i a hla
                  obtain ⟨rfl, p2, q2, rfl, h1, h2⟩ := srt_of hla
                  have e1 : bnName .sorted = x := bn_of hb
                  subst e1
                  exact s_sset xc.calm xc.un (gl_of xc hg1) (xc.blt _ (bn_mem .sorted)) (gl_of xc h1) (xc.blt "set" (by decide +kernel)) h2 (ho a)
                split
                · rename_i hl
                  rcases args_case (f := fun e => opC (cmp T n sc e)) args with c | c
                  · have e1 := bn_of hb
                    subst e1
                    cases args with
                    | nil => simp at hl
                    | cons e es =>
                      have c' := c
                      rw [List.any_cons, Bool.or_eq_false_iff] at c'
                      exact s_blt xc.calm xc.un (gl_of xc hg1) (xc.blt _ (bn_mem b)) c'.1 (not_star c'.2) (cmps_okO oc c)
                  · rw [c]; exact noV fun r => by rw [ev, evO_bad]; rfl
                · exact s_bad
              · exact s_bad
      · rename_i x px m apos
        split
        · exact s_bad
        · rename_i hl
          have hl' : (apos.endLine == cpos.line) = true := by simpa using hl
          split
          · rename_i i hi; exact meth_ok xc hl' hi hv ho
          · exact s_bad
      · rename_i z k px m apos
        split
        · exact s_bad
        · rename_i hl
          exact join_ok (by simpa using hl) ho
      · exact s_bad
  | ListComp elt gs scope pos =>
    simp only [cmpE0]
    split
    · rename_i tg iter ifs k
      split
      · rename_i hk
        obtain ⟨hk1, hk2⟩ := hk
        subst hk1
        split
        · rename_i tup xs hx
          split
          · rename_i is hi
            split
            · rename_i hc
              obtain ⟨hc1, hc2⟩ := Bool.and_eq_true_iff.mp hc
              rw [List.all_eq_true] at hc2
              have ok : BlkOk X.N X.env.scope scope (xs.zip is) := by
                rw [xc.hN, xc.hsc]
                exact blkOk_by hc1
              refine s_lcJ xc.calm (by rw [xc.hN]; exact xc.nd) (pi_fix xc (ih.pj xc) _ _) ok (own_snd hi) (fun s H Cc cl fp => ?_) (fun s H Cc cl fp => ?_) (fun s H Cc cl fp => ?_) (noset hk2)
              · have xb := xc.blk s H scope cl Cc fp
                refine pg_of (X := X.blk s H scope (compEnvC scope cl Cc X.env) fp) (by rw [xb.hN]; exact xc.nd) xc.calm hx (by rw [xb.hN]; exact hi) fun x hx => tg_loc (hc2 x hx) xb.hsc rfl
              · have xb := xc.blk s H scope cl Cc fp
                split
                · exact pts_none
                · exact pts_one (ih.pt xb)
                · exact ⟨fun _ _ _ _ _ _ ⟨_, _, _, h⟩ => h.elim⟩
              · exact ih.pe (xc.blk s H scope cl Cc fp)
            · exact s_bad
          · exact s_bad
        · exact s_bad
      · exact s_bad
    · exact s_bad
  | _ => simp only [cmpE0]; exact s_bad
theorem pe_succ (ih : Snd T F C n) (xc : XC T F W C sc X) (e : Expr) : PE X e (tV X.K F W (cmp T (n + 1) sc e)) := by
  show PE X e (tV X.K F W (cmpE T (cmp T n) (cmpT T n) (cmpI T n) sc e))
  unfold cmpE
  split
  · rename_i c q; exact pre_ok ih xc q
  · exact pe_succ0 ih xc e
theorem pt_succ (ih : Snd T F C n) (xc : XC T F W C sc X) (e : Expr) : PT X e (tT X.K F W (cmpT T (n + 1) sc e)) := by
  have hv : ∀ e, PE X e (tV X.K F W (cmp T n sc e)) := fun e => ih.pe xc
  have ho : ∀ e, PE X e (tO X.K F W (cmp T n sc e)) := fun e => opd_ok xc (hv e)
  have oc : ∀ e, PE X e (tO X.K F W (opC (cmp T n sc e))) := fun e => opC_ok xc (hv e)
  have ht : ∀ e, PT X e (tT X.K F W (cmpT T n sc e)) := fun e => ih.pt xc
  show PT X e (tT X.K F W (cmpET (cmp T n) (cmpT T n) sc e))
  cases e with
  | BoolOp op vs pos =>
    cases op with
    | And => simp only [cmpET]; exact (tAnd_ok ht).pt
    | Or => simp only [cmpET]; exact (tOr_ok ht).pt
  | UnaryOp op a pos => cases op <;> simp only [cmpET] <;> first | exact t_not (ht a) | exact t_bad
  | IfExp c a b pos => simp only [cmpET]; exact t_bad
  | Compare a ops bs pos =>
    simp only [cmpET]
    split
    · split
      · exact t_bad
      · rename_i c; rw [Bool.not_eq_true] at c; exact s_cmpT xc.un c (oc a) (oc _)
    · split
      · exact t_bad
      · rename_i c; rw [Bool.not_eq_true] at c; exact s_chainT xc.un c (ho a) (ho _) (ho _)
    · exact t_bad
  | _ => simp only [cmpET]; exact t_val (ho _) (by intro _; rfl)
theorem pi_succ (ih : Snd T F C n) (xc : XC T F W C sc X) (tg e : Expr) : PI X tg e (tI X.K F W (cmpI T (n + 1) sc (isTupE tg) e)) := by
  have hv : ∀ e, PE X e (tV X.K F W (cmp T n sc e)) := fun e => ih.pe xc
  have ho : ∀ e, PE X e (tO X.K F W (cmp T n sc e)) := fun e => opd_ok xc (hv e)
  have oc : ∀ e, PE X e (tO X.K F W (opC (cmp T n sc e))) := fun e => opC_ok xc (hv e)
  show PI X tg e (tI X.K F W (cmpEI (cmp T n) sc (isTupE tg) e))
  have dflt : PI X tg e (tI X.K F W (.itr (cmp T n sc e))) := i_itr (ho e) (fun k c z => cmp_res z)
  have no : ∀ {ci : CE}, (∀ r, evI F ci r = .bad) → PI X tg e (tI X.K F W ci) := fun h => ⟨fun _ _ _ _ _ _ ⟨_, r, _, q⟩ => by rw [h r] at q; exact q.elim⟩
  unfold cmpEI
  split
  · rename_i x p args kws cp
    split
    · rename_i hc
      simp only [Bool.and_eq_true, List.isEmpty_iff, decide_eq_true_eq] at hc
      obtain ⟨⟨hg, rfl⟩, rfl⟩ := hc
      split
      · rename_i hl
        rcases args_case (f := cmp T n sc) args with c | c
        · have hm := xc.blt "range" (by decide +kernel)
          match args, hl, c with
          | [a], _, c =>
            have c' : PySem.W.isStarred a = false := by simpa using c
            exact i_rng1 (gl_of xc hg) hm c' (clen_cmps c) (cmps_ok hv c)
          | [a, b], _, c =>
            have c' : PySem.W.isStarred a = false ∧ PySem.W.isStarred b = false := by simpa using c
            exact i_rng2 (gl_of xc hg) hm c'.1 c'.2 (clen_cmps c) (cmps_ok hv c)
          | [], hl, _ => exact absurd hl (by simp)
          | _ :: _ :: _ :: _, hl, _ => exact absurd hl (by simp)
        · rw [c]; exact no fun r => by rw [evI, evs_bad]; rfl
      · exact i_bad
    · split
      · rename_i hc
        simp only [Bool.and_eq_true, List.isEmpty_iff, decide_eq_true_eq] at hc
        obtain ⟨⟨hg, rfl⟩, rfl⟩ := hc
        split
        · rename_i hl
          obtain ⟨hl1, hl2⟩ := Bool.and_eq_true_iff.mp hl
          rcases args_case (f := cmp T n sc) args with c | c
          · have hm := xc.blt "zip" (by decide +kernel)
            cases tg with
            | Tuple elts kk tp =>
              match args, hl2, c with
              | [a, b], _, c =>
                have c' : PySem.W.isStarred a = false ∧ PySem.W.isStarred b = false := by simpa using c
                exact i_zip (gl_of xc hg) hm c'.1 c'.2 (cmps_ok hv c)
              | [], hl, _ => exact absurd hl (by simp)
              | [_], hl, _ => exact absurd hl (by simp)
              | _ :: _ :: _ :: _, hl, _ => exact absurd hl (by simp)
            | _ => cases hl1
          · rw [c]; exact no fun r => by rw [evI, evs_bad]; rfl
        · exact i_bad
      · split
        · rename_i hc
          simp only [Bool.and_eq_true, List.isEmpty_iff, decide_eq_true_eq] at hc
          obtain ⟨⟨hg, rfl⟩, rfl⟩ := hc
          split
          · rename_i hl
            obtain ⟨hl1, hl2⟩ := Bool.and_eq_true_iff.mp hl
            rcases args_case (f := cmp T n sc) args with c | c
            · have hm := xc.blt "enumerate" (by decide +kernel)
              cases tg with
              | Tuple elts kk tp =>
                match args, hl2, c with
                | [a], _, c =>
                  have c' : PySem.W.isStarred a = false := by simpa using c
                  exact i_enm (gl_of xc hg) hm c' (cmps_ok hv c)
                | [], hl, _ => exact absurd hl (by simp)
                | _ :: _ :: _, hl, _ => exact absurd hl (by simp)
              | _ => cases hl1
            · rw [c]; exact no fun r => by rw [evI, evs_bad]; rfl
          · exact i_bad
        · split
          · rename_i hc
            simp only [Bool.and_eq_true, List.isEmpty_iff, decide_eq_true_eq] at hc
            obtain ⟨⟨hg, rfl⟩, rfl⟩ := hc
            split
            · split
              · exact i_bad
              · rename_i c; rw [Bool.not_eq_true] at c
                exact i_rvs (gl_of xc hg) (xc.blt "reversed" (by decide +kernel)) c (hv _)
            · exact i_bad
          · exact dflt
  · exact dflt
theorem pj_succ (ih : Snd T F C n) (xc : XC T F W C sc X) (tg e : Expr) : PI X tg e (tJ X.K F W (fixJ (cmpI T (n + 1) sc (isTupE tg) e))) := by
  have d := pi_succ ih xc tg e
  unfold fixJ
  split
  · rename_i k cs o x q
    have h : cmpEI (cmp T n) sc (isTupE tg) e = .itr (.fld k cs o x) := q
    have h2 : cmp T n sc e = .fld k cs o x := by
      unfold cmpEI at h
      split at h
      · repeat' split at h
        all_goals first | (cases h; done) | (injection h)
      · injection h
    exact i_itrR (fun i z => nomatch z) (s_resO (fun i z => nomatch z) (by rw [← h2]; exact ih.pe xc))
  · exact PI.toJ d
theorem snd_all : ∀ n, Snd T F C n
  | 0 => ⟨fun _ => s_bad, fun _ => t_bad, fun _ => i_bad, fun _ => PI.toJ i_bad⟩
  | n + 1 => ⟨fun xc => pe_succ (snd_all n) xc _, fun xc => pt_succ (snd_all n) xc _, fun xc => pi_succ (snd_all n) xc _ _, fun xc => pj_succ (snd_all n) xc _ _⟩
end
end SC

set_option Elab.async false
set_option maxRecDepth 100000
set_option maxHeartbeats 1000000
namespace SC
open PySem L2
section
variable {X : Cx} {F : Fs} {W : Nat → L2.St → Hp → Prop} {pos p px pc : Pos}
/-- isinstance(n, cls), n the caught exception -/
theorem s_isx {a D : Addr} {oe : Obj} {pn : List (Addr × Obj)} {i : Nat} {n x : Str} {cv : Value} {c : V} {b : Bool} (Ec : ExcC X.K D) (hz : Zc (.ref D) none oe) (hf : ∃ vs, oe.data = .fields vs)
    (hN : X.N[i]? = some n) (hv : Vis X.env.scope n) (hd : (n == ("__debug__" : Str)) = false) (hcd : (n == ("__classdict__" : Str)) = false) (hg : Gl X "isinstance") (hm : X.mg "isinstance" = none)
    (hx : PE (X.suite a ((a, oe) :: pn)) (.Name x pc) (tC c)) (hc : ∀ u, RelV c u → u = cv) (hk : PySem.W.kitOne X.K (.ref D) cv = some b) :
    PE (X.suite a ((a, oe) :: pn)) (.Call (.Name "isinstance" p) [.Name n px, .Name x pc] [] pos) (tV X.K F W (.isx i (some a) b)) := by
  refine PE.imp (pe_callB (X := X.suite a ((a, oe) :: pn)) (call_isE Ec hz hf) hg hm PyProof.Rows.boot_isinstance (pa_cons (pe_var (X := X.suite a ((a, oe) :: pn)) hN hv hd hcd) (pa_cons hx pa_nil))) fun σ H Q ⟨G, r, s, h⟩ => ?_
  rw [ev] at h
  split at h
  · rename_i d eg
    split at h
    · rename_i hmk
      obtain ⟨v, h1, h2⟩ := s.slot i _ (getS_some eg) ns_fz
      have h2 : Rp X.K G v d := h2
      have hv : v = .ref a := by
        cases h2 with
        | exc a' =>
          have : decide ((a' : Int) = (a : Int)) = true := hmk
          have := of_decide_eq_true this
          rw [show a' = a from Int.ofNat.inj this]
        | scr _ => cases hmk
        | _ => cases hmk
      subst hv
      exact ⟨_, h1, c, cv, b, rfl, hc, hk, h G H s Stp.refl _ (Rp.bl b)⟩
    · exact h.elim
  · exact h.elim
end
/-! ### a compiler for suites: i is the caught thing's slot, k its class -/
def clsU (T : Tb) (k : Nat) (x : Str) : Option Bool := if x = "ValueError" then some true else (ixOf T.exs x).map (subC k)
def cstC : Const → CE
  | .int i => .cst (.int i)
  | .bool b => .cst (.bool b)
  | .none => .cst .none
  | .str x => .cst (.str x)
  | _ => .bad
def cmpUE (T : Tb) (i k : Nat) (o : Option Nat) (sc : Scope) (f ft : Expr → CE) (e : Expr) : CE := match e with
  | .Name x _ => match slotOf T sc x with
    | some j => if j = i then .bad else .var j
    | none => .bad
  | .Constant c _ _ => cstC c
  | .Tuple es _ _ => if es.length ≤ 1000 then .tup (cmps f es) else .bad
  | .BinOp a op b _ => .bin op (f a) (f b)
  | .UnaryOp .Not a _ => .not (f a)
  | .BoolOp .And vs _ => if 2 ≤ vs.length then cAnd f vs else .bad
  | .BoolOp .Or vs _ => if 2 ≤ vs.length then cOr f vs else .bad
  | .IfExp c a b _ => .ite (ft c) (f a) (f b)
  | .Call (.Name g _) [.Name y _, .Name x _] [] _ => if g = "isinstance" ∧ glB sc "isinstance" = true ∧ slotOf T sc y = some i ∧ glB sc x = true ∧ nmOk x = true then match clsU T k x with
      | some b => .isx i o b
      | none => .bad
    else .bad
  | _ => .bad
def cmpUT (f ft : Expr → CE) (e : Expr) : CE := match e with
  | .BoolOp .And vs _ => tAndC ft vs
  | .BoolOp .Or vs _ => tOrC ft vs
  | .UnaryOp .Not a _ => .tnot (ft a)
  | .UnaryOp _ _ _ => .bad
  | .IfExp _ _ _ _ => .bad
  | .Compare _ _ _ _ => .bad
  | e => .tval (f e)
mutual
def cmpU (T : Tb) (i k : Nat) (o : Option Nat) (sc : Scope) : Nat → Expr → CE
  | 0 => fun _ => .bad
  | n + 1 => cmpUE T i k o sc (cmpU T i k o sc n) (cmpUt T i k o sc n)
def cmpUt (T : Tb) (i k : Nat) (o : Option Nat) (sc : Scope) : Nat → Expr → CE
  | 0 => fun _ => .bad
  | n + 1 => cmpUT (cmpU T i k o sc n) (cmpUt T i k o sc n)
end
section
variable {T : Tb} {i k a : Nat} {sc : Scope}
theorem adr_cmps {f g : Expr → CE} (h : ∀ e, adr a (f e) = g e) (es : List Expr) : adr a (cmps f es) = cmps g es := by
  unfold cmps
  split
  · rfl
  · induction es with
    | nil => rfl
    | cons e es ih =>
      rename_i c
      have c' : ¬ es.any PySem.W.isStarred = true := fun z => c (by rw [List.any_cons, z, Bool.or_true])
      show CE.cons (adr a (f e)) (adr a (es.foldr _ _)) = _
      rw [h, ih c']
      rfl
theorem adr_cAnd {f g : Expr → CE} (h : ∀ e, adr a (f e) = g e) : ∀ es : List Expr, adr a (cAnd f es) = cAnd g es
  | [] => rfl
  | [e] => h e
  | e :: e2 :: es => by
    show CE.and (adr a (f e)) (adr a (cAnd f (e2 :: es))) = _
    rw [h, adr_cAnd h (e2 :: es)]
    rfl
theorem adr_cOr {f g : Expr → CE} (h : ∀ e, adr a (f e) = g e) : ∀ es : List Expr, adr a (cOr f es) = cOr g es
  | [] => rfl
  | [e] => h e
  | e :: e2 :: es => by
    show CE.or (adr a (f e)) (adr a (cOr f (e2 :: es))) = _
    rw [h, adr_cOr h (e2 :: es)]
    rfl
theorem adr_tAnd {f g : Expr → CE} (h : ∀ e, adr a (f e) = g e) : ∀ es : List Expr, adr a (tAndC f es) = tAndC g es
  | [] => rfl
  | [e] => h e
  | e :: e2 :: es => by
    show CE.tand (adr a (f e)) (adr a (tAndC f (e2 :: es))) = _
    rw [h, adr_tAnd h (e2 :: es)]
    rfl
theorem adr_tOr {f g : Expr → CE} (h : ∀ e, adr a (f e) = g e) : ∀ es : List Expr, adr a (tOrC f es) = tOrC g es
  | [] => rfl
  | [e] => h e
  | e :: e2 :: es => by
    show CE.tor (adr a (f e)) (adr a (tOrC f (e2 :: es))) = _
    rw [h, adr_tOr h (e2 :: es)]
    rfl
theorem adr_cst (c : Const) : adr a (cstC c) = cstC c := by cases c <;> rfl
theorem adr_U : ∀ n : Nat, (∀ e, adr a (cmpU T i k none sc n e) = cmpU T i k (some a) sc n e) ∧ ∀ e, adr a (cmpUt T i k none sc n e) = cmpUt T i k (some a) sc n e
  | 0 => ⟨fun _ => rfl, fun _ => rfl⟩
  | n + 1 => by
    obtain ⟨h1, h2⟩ := adr_U n
    refine ⟨fun e => ?_, fun e => ?_⟩
    · show adr a (cmpUE T i k none sc _ _ e) = cmpUE T i k (some a) sc _ _ e
      unfold cmpUE
      split
      · split
        · split <;> rfl
        · rfl
      · exact adr_cst _
      · split
        · show CE.tup (adr a (cmps _ _)) = _
          rw [adr_cmps h1]
        · rfl
      · show CE.bin _ (adr a _) (adr a _) = _
        rw [h1, h1]
      · show CE.not (adr a _) = _
        rw [h1]
      · split
        · exact adr_cAnd h1 _
        · rfl
      · split
        · exact adr_cOr h1 _
        · rfl
      · show CE.ite (adr a _) (adr a _) (adr a _) = _
        rw [h2, h1, h1]
      · split
        · split <;> rfl
        · rfl
      · rfl
    · show adr a (cmpUT _ _ e) = cmpUT _ _ e
      unfold cmpUT
      split
      · exact adr_tAnd h2 _
      · exact adr_tOr h2 _
      · show CE.tnot (adr a _) = _
        rw [h2]
      · rfl
      · rfl
      · rfl
      · show CE.tval (adr a _) = _
        rw [h1]
theorem ok_cmps {f : Expr → CE} (h : ∀ e, okE i (f e) = true) (es : List Expr) : okE i (cmps f es) = true := by
  unfold cmps
  split
  · rfl
  · induction es with
    | nil => rfl
    | cons e es ih =>
      rename_i c
      have c' : ¬ es.any PySem.W.isStarred = true := fun z => c (by rw [List.any_cons, z, Bool.or_true])
      show (okE i (f e) && okE i (es.foldr _ _)) = true
      rw [h, ih c']
      rfl
theorem ok_cAnd {f : Expr → CE} (h : ∀ e, okE i (f e) = true) : ∀ es : List Expr, okE i (cAnd f es) = true
  | [] => rfl
  | [e] => h e
  | e :: e2 :: es => by
    show (okE i (f e) && okE i (cAnd f (e2 :: es))) = true
    rw [h, ok_cAnd h (e2 :: es)]
    rfl
theorem ok_cOr {f : Expr → CE} (h : ∀ e, okE i (f e) = true) : ∀ es : List Expr, okE i (cOr f es) = true
  | [] => rfl
  | [e] => h e
  | e :: e2 :: es => by
    show (okE i (f e) && okE i (cOr f (e2 :: es))) = true
    rw [h, ok_cOr h (e2 :: es)]
    rfl
theorem ok_tAnd {f : Expr → CE} (h : ∀ e, okE i (f e) = true) : ∀ es : List Expr, okE i (tAndC f es) = true
  | [] => rfl
  | [e] => h e
  | e :: e2 :: es => by
    show (okE i (f e) && okE i (tAndC f (e2 :: es))) = true
    rw [h, ok_tAnd h (e2 :: es)]
    rfl
theorem ok_tOr {f : Expr → CE} (h : ∀ e, okE i (f e) = true) : ∀ es : List Expr, okE i (tOrC f es) = true
  | [] => rfl
  | [e] => h e
  | e :: e2 :: es => by
    show (okE i (f e) && okE i (tOrC f (e2 :: es))) = true
    rw [h, ok_tOr h (e2 :: es)]
    rfl
theorem ok_U : ∀ n : Nat, (∀ e, okE i (cmpU T i k none sc n e) = true) ∧ ∀ e, okE i (cmpUt T i k none sc n e) = true
  | 0 => ⟨fun _ => rfl, fun _ => rfl⟩
  | n + 1 => by
    obtain ⟨h1, h2⟩ := ok_U n
    refine ⟨fun e => ?_, fun e => ?_⟩
    · show okE i (cmpUE T i k none sc _ _ e) = true
      unfold cmpUE
      split
      · split
        · split
          · rfl
          · rename_i hj; simpa [okE] using hj
        · rfl
      · rename_i c _ _; cases c <;> rfl
      · split
        · exact ok_cmps h1 _
        · rfl
      · show (okE i _ && okE i _) = true
        rw [h1, h1]; rfl
      · exact h1 _
      · split
        · exact ok_cAnd h1 _
        · rfl
      · split
        · exact ok_cOr h1 _
        · rfl
      · show (okE i _ && okE i _ && okE i _) = true
        rw [h2, h1, h1]; rfl
      · split
        · split
          · simp [okE]
          · rfl
        · rfl
      · rfl
    · show okE i (cmpUT _ _ e) = true
      unfold cmpUT
      split
      · exact ok_tAnd h2 _
      · exact ok_tOr h2 _
      · exact h2 _
      · rfl
      · rfl
      · rfl
      · exact h1 _
end
/-! ### suites are right -/
section
variable {T : Tb} {F : Fs} {C : Nat → Addr} {W W0 : Nat → L2.St → Hp → Prop} {sc : Scope} {X : Cx} {i k : Nat} {a : Addr} {oe : Obj} {pn : List (Addr × Obj)}
theorem cstC_ok {c : Const} {j : Nat} {pos : Pos} : PE X (.Constant c j pos) (tV X.K F W (cstC c)) := by
  cases c <;> first | exact s_int | exact s_bl | exact s_non | exact s_str | exact s_bad
theorem cst_var {c : Const} {j : Nat} : cstC c ≠ .var j := by cases c <;> (intro z; cases z)
theorem cmpU_var {o : Option Nat} {n j : Nat} {e : Expr} (h : cmpU T i k o sc n e = .var j) : ∃ x pos, e = .Name x pos ∧ slotOf T sc x = some j := by
  cases n with
  | zero => cases h
  | succ n =>
    have h : cmpUE T i k o sc (cmpU T i k o sc n) (cmpUt T i k o sc n) e = .var j := h
    cases e with
    | Name x pos =>
      simp only [cmpUE] at h
      split at h
      · rename_i j' q
        split at h
        · cases h
        · cases h; exact ⟨x, pos, rfl, q⟩
      · cases h
    | Constant c k pos => exact absurd (show cstC c = .var j from h) cst_var
    | Tuple es k pos =>
      simp only [cmpUE] at h
      split at h <;> cases h
    | UnaryOp op a pos => cases op <;> cases h
    | BoolOp op vs pos =>
      cases op with
      | And =>
        simp only [cmpUE] at h
        split at h
        · exact absurd h (cAnd_var (by assumption))
        · cases h
      | Or =>
        simp only [cmpUE] at h
        split at h
        · exact absurd h (cOr_var (by assumption))
        · cases h
    | Call g args kws pos =>
      unfold cmpUE at h
      split at h
      all_goals first | (rename_i z; cases z; done) | skip
      all_goals first | (split at h <;> (try split at h) <;> cases h; done) | cases h
    | _ => cases h
theorem cst_res {c : Const} {k : Nat} {e : CE} : cstC c ≠ .res k e := by cases c <;> intro h <;> cases h
theorem cmpU_res {o : Option Nat} {n k' : Nat} {c' : CE} {e : Expr} (h : cmpU T i k o sc n e = .res k' c') : False := by
  cases n with
  | zero => cases h
  | succ n =>
    have h : cmpUE T i k o sc (cmpU T i k o sc n) (cmpUt T i k o sc n) e = .res k' c' := h
    cases e with
    | Name x pos =>
      simp only [cmpUE] at h
      split at h
      · split at h <;> cases h
      · cases h
    | Constant c k pos => exact absurd (show cstC c = .res k' c' from h) cst_res
    | Tuple es k pos =>
      simp only [cmpUE] at h
      split at h <;> cases h
    | UnaryOp op a pos => cases op <;> cases h
    | BoolOp op vs pos =>
      cases op with
      | And =>
        simp only [cmpUE] at h
        split at h
        · exact absurd h (cAnd_res (by assumption))
        · cases h
      | Or =>
        simp only [cmpUE] at h
        split at h
        · exact absurd h (cOr_res (by assumption))
        · cases h
    | Call g args kws pos =>
      unfold cmpUE at h
      split at h
      all_goals first | (rename_i z; cases z; done) | skip
      all_goals first | (split at h <;> (try split at h) <;> cases h; done) | cases h
    | _ => cases h
theorem opdU {o : Option Nat} {n : Nat} (xc : XC T F W0 C sc X) {e : Expr} (h : PE (X.suite a ((a, oe) :: pn)) e (tV X.K F W (cmpU T i k o sc n e))) : PE (X.suite a ((a, oe) :: pn)) e (tO X.K F W (cmpU T i k o sc n e)) := by
  by_cases q : ∃ j, cmpU T i k o sc n e = .var j
  · obtain ⟨j, q⟩ := q
    obtain ⟨x, pos, rfl, e1⟩ := cmpU_var q
    rw [q]
    obtain ⟨h1, h2, h3, h4⟩ := slot_of xc e1
    exact s_varO (X := X.suite a ((a, oe) :: pn)) h1 h2 h3 h4
  · exact s_opd (X := X.suite a ((a, oe) :: pn)) (fun j z => q ⟨j, z⟩) h (fun k i z => cmpU_res z)
theorem snd_U {o : Option Nat} (xc : XC T F W0 C sc X) (hk : k < T.exs.length) (hO : o = some a ∨ T.N.length ≤ i) (hz : Zc (.ref (C k)) none oe) (hf : ∃ vs, oe.data = .fields vs) : ∀ n : Nat,
    (∀ e, PE (X.suite a ((a, oe) :: pn)) e (tV X.K F W (cmpU T i k o sc n e))) ∧ ∀ e, PT (X.suite a ((a, oe) :: pn)) e (tT X.K F W (cmpUt T i k o sc n e))
  | 0 => ⟨fun _ => s_bad (X := X.suite a ((a, oe) :: pn)), fun _ => t_bad (X := X.suite a ((a, oe) :: pn))⟩
  | n + 1 => by
    obtain ⟨hv, ht⟩ := snd_U xc hk hO hz hf n
    have ho : ∀ e, PE (X.suite a ((a, oe) :: pn)) e (tO X.K F W (cmpU T i k o sc n e)) := fun e => opdU xc (hv e)
    have bad : ∀ {e}, PE (X.suite a ((a, oe) :: pn)) e (tV X.K F W .bad) := s_bad (X := X.suite a ((a, oe) :: pn))
    refine ⟨fun e => ?_, fun e => ?_⟩
    · show PE _ e (tV X.K F W (cmpUE T i k o sc _ _ e))
      unfold cmpUE
      split
      · split
        · rename_i j q
          split
          · exact bad
          · obtain ⟨h1, h2, h3, h4⟩ := slot_of xc q
            exact s_var (X := X.suite a ((a, oe) :: pn)) h1 h2 h3 h4
        · exact bad
      · exact cstC_ok (X := X.suite a ((a, oe) :: pn))
      · rename_i es _ _
        split
        · rename_i hl
          rcases args_case (f := cmpU T i k o sc n) es with c | c
          · exact s_tup (X := X.suite a ((a, oe) :: pn)) (by rw [clen_cmps c]; exact Nat.le_trans hl (by decide)) (cmps_ok (X := X.suite a ((a, oe) :: pn)) hv c)
          · rw [c]; exact s_noV (X := X.suite a ((a, oe) :: pn)) fun r => by rw [ev, evs_bad]; rfl
        · exact bad
      · exact s_bin (X := X.suite a ((a, oe) :: pn)) (ho _) (ho _)
      · exact s_not (X := X.suite a ((a, oe) :: pn)) (ho _)
      · split
        · exact cAnd_ok (X := X.suite a ((a, oe) :: pn)) hv
        · exact bad
      · split
        · exact cOr_ok (X := X.suite a ((a, oe) :: pn)) hv
        · exact bad
      · exact s_ite (X := X.suite a ((a, oe) :: pn)) (ht _) (hv _) (hv _)
      · rename_i g _ y _ x pc _
        split
        · rename_i c
          obtain ⟨rfl, c2, c3, c4, c5⟩ := c
          obtain ⟨h1, h2, h3, h4⟩ := slot_of xc c3
          have hO : o = some a := hO.resolve_right fun z => by
            have := (List.getElem?_eq_some_iff.mp h1).1
            rw [xc.hN] at this
            omega
          subst hO
          have hgi := gl_of xc c2
          have hmi := xc.blt "isinstance" (by decide +kernel)
          unfold clsU
          split
          · rename_i b hb
            split at hb
            · rename_i hx
              subst hx
              cases hb
              have hxx : PE (X.suite a ((a, oe) :: pn)) (.Name "ValueError" pc) (tC (.ty "ValueError")) := pe_bltn (X := X.suite a ((a, oe) :: pn)) (u := .type "ValueError") (gl_of xc c4) (xc.blt "ValueError" (by decide +kernel)) (by decide +kernel) rfl
              exact s_isx (xc.cls.exc k hk) hz hf h1 h2 h3 h4 hgi hmi hxx (fun u hu => hu) (xc.cls.kv k hk)
            · cases q : ixOf T.exs x with
              | none => rw [q] at hb; cases hb
              | some j =>
                rw [q] at hb
                cases hb
                have hj := ixOf_get q
                have hjl : j < T.exs.length := (List.getElem?_eq_some_iff.mp hj).1
                have hxx : PE (X.suite a ((a, oe) :: pn)) (.Name x pc) (tC (.ref (C j))) := pe_glob (X := X.suite a ((a, oe) :: pn)) (gl_of xc c4) (xc.exs j x hj).1 rfl (nm_of c5).1
                exact s_isx (xc.cls.exc k hk) hz hf h1 h2 h3 h4 hgi hmi hxx (fun u hu => hu) (xc.cls.kit k j hk hjl)
          · exact bad
        · exact bad
      · exact bad
    · show PT _ e (tT X.K F W (cmpUT _ _ e))
      have vl : ∀ {e}, (∀ whole, isTrue e X.env whole = (do let v ← whole; standAt e.pos; holding [v] (truthy v))) → PT (X.suite a ((a, oe) :: pn)) e (tT X.K F W (.tval (cmpU T i k o sc n e))) := fun h => t_val (X := X.suite a ((a, oe) :: pn)) (ho _) h
      cases e with
      | BoolOp op vs pos =>
        cases op with
        | And => exact (tAnd_ok (X := X.suite a ((a, oe) :: pn)) ht).pt
        | Or => exact (tOr_ok (X := X.suite a ((a, oe) :: pn)) ht).pt
      | UnaryOp op b pos => cases op <;> first | exact t_not (X := X.suite a ((a, oe) :: pn)) (ht _) | exact t_bad (X := X.suite a ((a, oe) :: pn))
      | IfExp _ _ _ _ => exact t_bad (X := X.suite a ((a, oe) :: pn))
      | Compare _ _ _ _ => exact t_bad (X := X.suite a ((a, oe) :: pn))
      | _ => exact vl (by intro _; rfl)
end
/-! ### a suite's statements -/
def compE : Expr → Bool
  | .ListComp .. => true
  | .SetComp .. => true
  | .DictComp .. => true
  | _ => false
/-- a def's own name may be stored -/
def locB (sc : Scope) (x : Str) : Bool := match sc.names.lookup x with
  | some .local => true
  | some .cell => true
  | _ => false
def isLoc (sc : Scope) (x : Str) : Bool := match sc.names.lookup x with
  | some .local => true
  | _ => false
def cmpUS (T : Tb) (i k : Nat) (o : Option Nat) (sc : Scope) (f : List Stmt → CS) (st : Stmt) : CS := match st with
  | .Pass _ => .pass
  | .Return none _ => .retN
  | .Return (some e) _ => .ret (cmpU T i k o sc 20 e)
  | .If c x y _ => .ite (cmpUt T i k o sc 20 c) (f x) (f y)
  | .Assign [.Name x _] e _ => if !locB sc x || compE e then .bad else match ixOf T.N x with
    | some j => if j = i then .bad else .set j (cmpU T i k o sc 20 e)
    | none => .bad
  | _ => .bad
def blkC' (f : Stmt → CS) (sts : List Stmt) : CS := sts.foldr (fun s c => .seq (f s) c) .nil
def cmpUs (T : Tb) (i k : Nat) (o : Option Nat) (sc : Scope) : Nat → Stmt → CS
  | 0 => fun _ => .bad
  | n + 1 => cmpUS T i k o sc (blkC' (cmpUs T i k o sc n))
section
variable {T : Tb} {i k a : Nat} {sc : Scope}
theorem adr_blk {f g : Stmt → CS} (h : ∀ s, adrS a (f s) = g s) : ∀ ss : List Stmt, adrS a (blkC' f ss) = blkC' g ss
  | [] => rfl
  | s :: ss => by
    show CS.seq (adrS a (f s)) (adrS a (blkC' f ss)) = _
    rw [h, adr_blk h ss]
    rfl
theorem ok_blk {f : Stmt → CS} (h : ∀ s, okS i (f s) = true) : ∀ ss : List Stmt, okS i (blkC' f ss) = true
  | [] => rfl
  | s :: ss => by
    show (okS i (f s) && okS i (blkC' f ss)) = true
    rw [h, ok_blk h ss]
    rfl
theorem adr_Us : ∀ (n : Nat) (st : Stmt), adrS a (cmpUs T i k none sc n st) = cmpUs T i k (some a) sc n st
  | 0, _ => rfl
  | n + 1, st => by
    show adrS a (cmpUS T i k none sc _ st) = cmpUS T i k (some a) sc _ st
    have ih := adr_blk (adr_Us n)
    unfold cmpUS
    split
    · rfl
    · rfl
    · show CS.ret (adr a _) = _
      rw [(adr_U 20).1]
    · show CS.ite (adr a _) (adrS a _) (adrS a _) = _
      rw [(adr_U 20).2, ih, ih]
    · split
      · rfl
      · split
        · split
          · rfl
          · show CS.set _ (adr a _) = _
            rw [(adr_U 20).1]
        · rfl
    · rfl
theorem ok_Us : ∀ (n : Nat) (st : Stmt), okS i (cmpUs T i k none sc n st) = true
  | 0, _ => rfl
  | n + 1, st => by
    show okS i (cmpUS T i k none sc _ st) = true
    have ih := ok_blk (ok_Us n)
    unfold cmpUS
    split
    · rfl
    · rfl
    · exact (ok_U 20).1 _
    · show (okE i _ && okS i _ && okS i _) = true
      rw [(ok_U 20).2, ih, ih]; rfl
    · split
      · rfl
      · split
        · split
          · rfl
          · rename_i hj
            show (_ != _ && okE i _) = true
            rw [(ok_U 20).1]
            simpa using hj
        · rfl
    · rfl
end
/-- what a def's body has besides -/
structure XS (X : Cx) : Prop where
  fn : X.fn = fun _ => true
  kind : X.env.scope.kind = .function
  stk : X.stack = X.env :: X.outer
  frm : X.env.frame = some X.env.locals
section
variable {T : Tb} {F : Fs} {C : Nat → Addr} {W W0 : Nat → L2.St → Hp → Prop} {sc : Scope} {X : Cx} {i k : Nat} {a : Addr} {oe : Obj} {pn : List (Addr × Obj)}
theorem loc_of {x : Str} (h : locB sc x = true) : Loc sc x := by
  unfold locB at h
  split at h
  · rename_i q; exact .inl q
  · rename_i q; exact .inr q
  · cases h
theorem XS.fnt (xs : XS X) (x : Str) : X.fn x = true := by rw [xs.fn]
theorem blk_ok {f : Stmt → CS} (h : ∀ st, PS X st (tS X.K F W (f st))) : ∀ sts, PSs X sts (tS X.K F W (blkC' f sts))
  | [] => x_nil
  | st :: sts => x_cons (h st) (blk_ok h sts)
theorem sw_false {e : Expr} {t : Option Expr} {l : Nat} {env : Env} (h : compE e = false) : swapsWith e t l env = pure false := by
  cases e <;> first | rfl | cases h
theorem snd_Us {o : Option Nat} (xc : XC T F W0 C sc X) (xs : XS X) (hk : k < T.exs.length) (hO : o = some a ∨ T.N.length ≤ i) (hz : Zc (.ref (C k)) none oe) (hf : ∃ vs, oe.data = .fields vs) : ∀ (n : Nat) (st : Stmt),
    PS (X.suite a ((a, oe) :: pn)) st (tS X.K F W (cmpUs T i k o sc n st))
  | 0, _ => x_bad (X := X.suite a ((a, oe) :: pn))
  | n + 1, st => by
    have ih := blk_ok (X := X.suite a ((a, oe) :: pn)) (snd_Us xc xs hk hO hz hf n)
    obtain ⟨hv, ht⟩ := snd_U (W := W) (i := i) (pn := pn) xc hk hO hz hf 20
    show PS _ st (tS X.K F W (cmpUS T i k o sc _ st))
    unfold cmpUS
    split
    · exact x_pass (X := X.suite a ((a, oe) :: pn))
    · exact x_retN (X := X.suite a ((a, oe) :: pn))
    · rename_i e _
      by_cases q : ∃ j, cmpU T i k o sc 20 e = .var j
      · obtain ⟨j, q⟩ := q
        obtain ⟨x, pos, rfl, e1⟩ := cmpU_var q
        rw [q]
        obtain ⟨h1, h2, h3, h4⟩ := slot_of xc e1
        exact x_retV (X := X.suite a ((a, oe) :: pn)) h1 h2 h3 h4
      · exact x_ret (X := X.suite a ((a, oe) :: pn)) (fun j z => q ⟨j, z⟩) (hv e)
    · exact x_ite (X := X.suite a ((a, oe) :: pn)) (ht _) (ih _) (ih _)
    · split
      · exact x_bad (X := X.suite a ((a, oe) :: pn))
      · rename_i x px e pos c
        simp only [Bool.or_eq_true, not_or, Bool.not_eq_true, Bool.not_eq_false'] at c
        split
        · rename_i j hj
          split
          · exact x_bad (X := X.suite a ((a, oe) :: pn))
          · exact x_set (X := X.suite a ((a, oe) :: pn)) (by show X.N.Nodup; rw [xc.hN]; exact xc.nd) (by show X.N[j]? = _; rw [xc.hN]; exact ixOf_get hj) (by show Loc X.env.scope x; rw [xc.hsc]; exact loc_of c.1) (.inl (xs.fnt x)) (sw_false c.2) (hv e)
        · exact x_bad (X := X.suite a ((a, oe) :: pn))
    · exact x_bad (X := X.suite a ((a, oe) :: pn))
end
/-! ### what is known of a class -/
section
variable {K : PySem.W.Frag} {a b : Addr} {v : Bool}
theorem cls_exm (r : PySem.W.subIn K (.ref b) (.type "BaseException") = some true) (i : PySem.W.isClsIn K b = true) (t : PySem.W.typeIn K (.ref b) = some (.type "type")) (s : PySem.W.subIn K (.ref a) (.ref b) = some v) : PySem.W.exmOne K (.ref a) (.ref b) = some v := by
  unfold PySem.W.exmOne
  rw [r, if_pos (by rfl)]
  show (if _ then _ else _) = _
  rw [show (PySem.W.clsIn K b).isSome = true from i, t, if_pos (by rfl)]
  exact s
theorem cls_kit (i : PySem.W.isClsIn K b = true) (t : PySem.W.typeIn K (.ref b) = some (.type "type")) (s : PySem.W.subIn K (.ref a) (.ref b) = some v) (hv : v = true ∨ (Value.ref a == Value.ref b) = false) : PySem.W.kitOne K (.ref a) (.ref b) = some v := by
  unfold PySem.W.kitOne
  cases q : (Value.ref a == Value.ref b) with
  | true =>
    rw [if_pos rfl]
    rcases hv with e | e
    · rw [e]
    · rw [q] at e; cases e
  | false =>
    rw [if_neg (by decide)]
    show (if _ then _ else _) = _
    rw [show (PySem.W.clsIn K b).isSome = true from i, t, if_pos (by rfl)]
    exact s
theorem cls_kv (s : PySem.W.subIn K (.ref a) (.type "ValueError") = some true) : PySem.W.kitOne K (.ref a) (.type "ValueError") = some true := by
  unfold PySem.W.kitOne
  rw [if_neg (by rw [show (Value.ref a == Value.type "ValueError") = false from rfl]; decide)]
  unfold PySem.W.kitCls
  dsimp only
  rw [if_pos (by decide +kernel)]
  exact s
end
/-! ### the suites of one clause -/
def suC (T : Tb) (sc : Scope) (i j : Nat) (suite : List Stmt) (k : Nat) : CS := if k < T.exs.length ∧ subC k j = true then blkC' (cmpUs T i k none sc 10) suite else .bad
def tryC (T : Tb) (sc : Scope) (b : CS) (x : Str) (o : Option Str) (suite : List Stmt) : CS := if glB sc x && nmOk x then match ixOf T.exs x with
    | none => .bad
    | some j => match o with
      | some n => if isLoc sc n then match ixOf T.N n with
          | some i => .tryE b (some i) (suC T sc i j suite 0) (suC T sc i j suite 1) (suC T sc i j suite 2) (suC T sc i j suite 3) (suC T sc i j suite 4)
          | none => .bad
        else .bad
      | none => .tryE b none (suC T sc T.N.length j suite 0) (suC T sc T.N.length j suite 1) (suC T sc T.N.length j suite 2) (suC T sc T.N.length j suite 3) (suC T sc T.N.length j suite 4)
  else .bad
theorem sOf_or (g : Nat → CS) (k : Nat) : sOf (g 0) (g 1) (g 2) (g 3) (g 4) k = g k ∨ sOf (g 0) (g 1) (g 2) (g 3) (g 4) k = .bad := by
  match k with
  | 0 => exact .inl rfl
  | 1 => exact .inl rfl
  | 2 => exact .inl rfl
  | 3 => exact .inl rfl
  | 4 => exact .inl rfl
  | k + 5 => exact .inr rfl
section
variable {T : Tb} {F : Fs} {C : Nat → Addr} {W W0 : Nat → L2.St → Hp → Prop} {sc : Scope} {X : Cx}
theorem isLoc_of {x : Str} (h : isLoc sc x = true) : sc.names.lookup x = some .local := by
  unfold isLoc at h
  split at h
  · assumption
  · cases h
theorem XC.tr (xc : XC T F W0 C sc X) {pn : List (Addr × Obj)} {xe : Value → Shared → Prop} (tk : Takes (X.tr pn xe) (wx C W)) (pa : PassesOwn (model X.prog X.w) X.A X.env xe) : XC T F W C sc (X.tr pn xe) :=
  ⟨xc.hN, xc.nd, xc.hsc, xc.calm, xc.un, tk, pa, xc.blt, xc.fns, fun ci h => ⟨by
    obtain ⟨CA, h1, h2, h3, h4, h5, h6⟩ := (xc.cla ci h).ex
    exact ⟨CA, h1, h2, h3, h4, fun p hp => by
      obtain ⟨k, fa, fd, ps, d, n, m⟩ := h5 p hp
      exact ⟨k, fa, fd, ps, ⟨d.ok, d.room, d.bd⟩, n, m⟩, by
      obtain ⟨k, fa, fd, ps, d, n, m⟩ := h6
      exact ⟨k, fa, fd, ps, ⟨d.ok, d.room, d.bd⟩, n, m⟩⟩⟩, xc.exs, xc.cls, xc.cns⟩
theorem XS.tr (xs : XS X) {pn : List (Addr × Obj)} {xe : Value → Shared → Prop} : XS (X.tr pn xe) := ⟨xs.fn, xs.kind, xs.stk, xs.frm⟩
theorem try_ok (xc : XC T F W C sc X) (xs : XS X) {cb : CS} {body suite : List Stmt} {b₀ : Stmt} {np pos pos' : Pos} {x : Str} {o : Option Str}
    (hb : ∀ (W' : Nat → L2.St → Hp → Prop) (pn : List (Addr × Obj)) (xe : Value → Shared → Prop), XC T F W' C sc (X.tr pn xe) → XS (X.tr pn xe) → PSs (X.tr pn xe) body (tS X.K F W' cb)) :
    PS X (.Try body [.ExceptHandler (some (.Name x np)) o (b₀ :: suite) pos'] [] [] pos) (tS X.K F W (tryC T sc cb x o (b₀ :: suite))) := by
  unfold tryC
  split
  · rename_i c
    obtain ⟨c1, c2⟩ := Bool.and_eq_true_iff.mp c
    split
    · exact x_bad
    · rename_i j hj
      have hj' := ixOf_get hj
      have hjl : j < T.exs.length := (List.getElem?_eq_some_iff.mp hj').1
      have nm : Names X x (.ref (C j)) := ⟨gl_of xc c1, (nm_of c2).1, .inl (xc.exs j x hj').1⟩
      have hb' : ∀ (W' : Nat → L2.St → Hp → Prop) (pn : List (Addr × Obj)) (xe : Value → Shared → Prop), Takes (X.tr pn xe) (wx C W') → PassesOwn (model X.prog X.w) X.A X.env xe → PSs (X.tr pn xe) body (tS X.K F W' cb) := fun W' pn xe t p => hb W' pn xe (xc.tr t p) xs.tr
      have hex : ∀ i k, sOf (suC T sc i j (b₀ :: suite) 0) (suC T sc i j (b₀ :: suite) 1) (suC T sc i j (b₀ :: suite) 2) (suC T sc i j (b₀ :: suite) 3) (suC T sc i j (b₀ :: suite) 4) k = .bad ∨ PySem.W.exmOne X.K (.ref (C k)) (.ref (C j)) = some true := fun i k => by
        rcases sOf_or (suC T sc i j (b₀ :: suite)) k with e | e
        · by_cases q : k < T.exs.length ∧ subC k j = true
          · right
            rw [xc.cls.exm k j q.1 hjl, q.2]
          · left
            rw [e]
            exact if_neg q
        · exact .inl e
      split
      · rename_i n
        split
        · rename_i hl
          split
          · rename_i i hi
            refine x_tryAs (i := i) xs.stk xs.frm (by rw [xc.hN]; exact xc.nd) (by rw [xc.hN]; exact ixOf_get hi) (by show X.env.scope.names.lookup n = _; rw [xc.hsc]; exact isLoc_of hl) nm xc.tk hb' (fun k a oe pn hz hf => ?_) (hex i) (fun k => ?_)
            · rcases sOf_or (suC T sc i j (b₀ :: suite)) k with e | e
              · rw [e]
                unfold suC
                split
                · rename_i q
                  rw [adr_blk (adr_Us 10)]
                  exact blk_ok (X := X.suite a ((a, oe) :: pn)) (snd_Us xc xs q.1 (.inl rfl) hz hf 10) _
                · exact x_bads (X := X.suite a ((a, oe) :: pn))
              · rw [e]
                exact x_bads (X := X.suite a ((a, oe) :: pn))
            · rcases sOf_or (suC T sc i j (b₀ :: suite)) k with e | e
              · rw [e]
                unfold suC
                split
                · exact ok_blk (ok_Us 10) _
                · rfl
              · rw [e]; rfl
          · exact x_bad
        · exact x_bad
      · refine x_tryOnly xs.stk xs.frm nm xc.tk hb' (fun k a oe pn hz hf => ?_) (hex _)
        rcases sOf_or (suC T sc T.N.length j (b₀ :: suite)) k with e | e
        · rw [e]
          unfold suC
          split
          · rename_i q
            exact blk_ok (X := X.suite a ((a, oe) :: pn)) (snd_Us xc xs q.1 (.inr (Nat.le_refl _)) hz hf 10) _
          · exact x_bads (X := X.suite a ((a, oe) :: pn))
        · rw [e]
          exact x_bads (X := X.suite a ((a, oe) :: pn))
  · exact x_bad
end
end SC

set_option Elab.async false
set_option maxRecDepth 100000
set_option maxHeartbeats 4000000
namespace SC
open PySem L2

def isSlcE : Expr → Bool
  | .Slice .. => true
  | _ => false
def isTupX : Expr → Bool
  | .Tuple .. => true
  | _ => false
/-- both sides written, two names: stored from the right, or a constant pair unpacked -/
def swp (sc : Scope) (x y : Str) (px py : Pos) (a b : Expr) : Bool := isLoc sc x && isLoc sc y && (px.line == py.line) && !decide (x = y) && !PySem.W.isStarred a && !PySem.W.isStarred b && !(foldedForSure 8 a && foldedForSure 8 b) && !(constantsAlone 8 a && constantsAlone 8 b)
/-- both sides written: stored from the left for sure -/
def swNm (sc : Scope) (line : Nat) : Expr → Option Str
  | .Name id pos => if sc.names.lookup id == some .local && pos.line == line then some id else none
  | _ => none
def swOff (sc : Scope) (ts : List Expr) : Expr → Bool
  | .Tuple vs _ _ => !(ts.length == 2 || ts.length == 3) || vs.length != ts.length || vs.any PySem.W.isStarred || (ts.filterMap (swNm sc ((ts.head?.map (·.pos.line)).getD 0))).length != ts.length || vs.all (foldedForSure 8)
  | _ => false
/-- what has to do with the store -/
def preS (T : Tb) (sc : Scope) (f : List Stmt → CS) (st : Stmt) : Option CS := match st with
  | .Assign [.Attribute (.Name y p) x _] e _ => if T.st && !T.cls.isEmpty then some (.fset (stK T) (clsA T x) (cmp T 40 sc (.Name y p)) x (.prm (stK T) (cmp T 40 sc e))) else none
  | .Assign [.Subscript (.Attribute (.Name y p) x ap) k _] e _ => if T.st && !T.cls.isEmpty then some (if compE e || isSlcE k || isTupX e then .bad else .sput (stK T) (cmp T 40 sc (.Attribute (.Name y p) x ap)) (cmp T 40 sc k) (cmp T 40 sc e)) else none
  | .Assign [.Name x _] (.Dict [] [] _) _ => if T.st then some (if !locB sc x then .bad else match ixOf T.N x with
      | some i => .set i (.dnw (stK T) (if x = "found" then 1 else 0))
      | none => .bad) else none
  | .Assign [.Subscript (.Name x p) k _] e _ => if T.st && T.cls.isEmpty && dNm x then some (if compE e || isSlcE k || isTupX e then .bad else .dpt (stK T) (cmp T 40 sc (.Name x p)) (cmp T 40 sc k) (cmp T 40 sc e)) else none
  | .For (.Name x _) (.Name y _) body orelse _ => if T.st && T.cls.isEmpty && dNm y then some (if !orelse.isEmpty || !locB sc x then .bad else match ixOf T.N x, slotOf T sc y with
      | some i, some j => .forK (stK T) j i (f body)
      | _, _ => .bad) else none
  | _ => none
def cmpSE0 (T : Tb) (sc : Scope) (f : List Stmt → CS) (st : Stmt) : CS := match st with
  | .Pass _ => .pass
  | .Break _ => .brk
  | .Continue _ => .cont
  | .Return none _ => .retN
  | .Return (some e) _ => .ret (cmp T 40 sc e)
  | .Expr e _ => if compE e then .bad else .expr (cmp T 40 sc e)
  | .If c a b _ => .ite (cmpT T 40 sc c) (f a) (f b)
  | .While c body orelse _ => if orelse.isEmpty then .whl (cmpT T 40 sc c) (f body) else .bad
  | .For tg it body orelse _ => if !orelse.isEmpty || isSetE it then .bad else match tgOf tg with
    | some (tup, xs) => match xs.mapM (ixOf T.N) with
      | some is => if xs.all (locB sc) then .forS tup is (cmpI T 40 sc (isTupE tg) it) (f body) else .bad
      | none => .bad
    | none => .bad
  | .Assign [.Name x _] e _ => if !locB sc x then .bad else match ixOf T.N x with
    | some i => .set i (cmp T 40 sc e)
    | none => .bad
  | .Assign [.Tuple ts k tp] e _ => match tgOf (.Tuple ts k tp) with
    | some (tup, xs) => match xs.mapM (ixOf T.N) with
      | some is => if !xs.all (locB sc) || compE e || !tup then .bad else if !isTupX e || swOff sc ts e then .unp is (cmp T 40 sc e) else match ts, e with
        | [.Name x px, .Name y py], .Tuple [a, b] _ _ => match is with
          | [i, j] => if swp sc x y px py a b && !decide (i = j) then .par i j (cmp T 40 sc a) (cmp T 40 sc b)
            else if foldedForSure 8 a && foldedForSure 8 b && !PySem.W.isStarred a && !PySem.W.isStarred b && isLoc sc x && isLoc sc y && (px.line == py.line) then .unp is (cmp T 40 sc e) else .bad
          | _ => .bad
        | _, _ => .bad
      | none => .bad
    | none => .bad
  | .Assign [.Subscript (.Name x _) k _] e _ => if compE e || isSlcE k || isTupX e then .bad else match slotOf T sc x with
    | some i => .put i (cmp T 40 sc k) (cmp T 40 sc e)
    | none => .bad
  | .Raise (some (.Call (.Name x _) [.Constant (.str _) _ _] kws _)) none _ => if !kws.isEmpty || !glB sc x || !nmOk x then .bad else match ixOf T.exs x with
    | some c => .raise c
    | none => .bad
  | .Try body [.ExceptHandler (some (.Name x _)) o (b₀ :: suite) _] [] [] _ => tryC T sc (f body) x o (b₀ :: suite)
  | _ => .bad
def cmpSE (T : Tb) (sc : Scope) (f : List Stmt → CS) (st : Stmt) : CS := match preS T sc f st with
  | some c => c
  | none => cmpSE0 T sc f st
def cmpS (T : Tb) : Nat → Scope → Stmt → CS
  | 0 => fun _ _ => .bad
  | n + 1 => fun sc => cmpSE T sc (blkC' (cmpS T n sc))
def cmpF (T : Tb) (st : Stmt) : CS := blkC' (cmpS T 30 (defScope st)) (defBody st)

section
variable {T : Tb} {F : Fs} {C : Nat → Addr} {W : Nat → L2.St → Hp → Prop} {sc : Scope} {X : Cx} {n : Nat}
theorem sws_none {t e : Expr} {env : Env} (h : isTupX e = false) : swappedStores [t] e env = pure none := by
  cases e <;> first | cases h | skip
  all_goals (cases t <;> rfl)
theorem sws_off {ts : List Expr} {e : Expr} {k : Nat} {tp : Pos} {env : Env} (h : swOff env.scope ts e = true) : swappedStores [.Tuple ts k tp] e env = pure none := by
  cases e with
  | Tuple vs k2 tp2 =>
    unfold swOff at h
    unfold swappedStores
    dsimp only
    simp only [Bool.or_eq_true] at h
    show (if _ then _ else _) = _
    split
    · rfl
    · rename_i c1
      show (if _ then _ else _) = _
      split
      · rfl
      · rename_i c2
        show (if _ then _ else _) = _
        split
        · rfl
        · rename_i c3
          show (if _ then _ else _) = _
          split
          · rfl
          · rename_i c4
            exfalso
            rcases h with (((h | h) | h) | h) | h
            · exact c1 (by simp [h])
            · exact c1 (by simp [h])
            · exact c2 h
            · exact c3 (Bool.or_eq_true_iff.mpr (.inl h))
            · exact c4 h
  | _ => cases h
theorem tup_each {ts : List Expr} {k : Nat} {tp : Pos} {env : Env} : (assignEach [.Tuple ts k tp] env).map (·.2) = [assign (.Tuple ts k tp) env] := rfl
theorem exs_of (xc : XC T F W C sc X) {x : Str} {c : Nat} (h : ixOf T.exs x = some c) : T.exs[c]? = some x := ixOf_get h
theorem ret_ok (xc : XC T F W C sc X) {e : Expr} {pos : Pos} : PS X (.Return (some e) pos) (tS X.K F W (.ret (cmp T 40 sc e))) := by
  by_cases q : ∃ i, cmp T 40 sc e = .var i
  · obtain ⟨i, q⟩ := q
    obtain ⟨x, p, rfl, e1⟩ := cmp_var q
    rw [q]
    obtain ⟨h1, h2, h3, h4⟩ := slot_of xc e1
    exact x_retV h1 h2 h3 h4
  · exact x_ret (fun i z => q ⟨i, z⟩) ((snd_all 40).pe xc)
theorem set_bad {i : Nat} {st : Stmt} : PS X st (tS X.K F W (.set i .bad)) := ⟨fun _ _ _ _ _ _ ⟨_, _, _, h⟩ => h.elim⟩
theorem set_ok (xc : XC T F W C sc X) (xs : XS X) {x : Str} {px pos : Pos} {e : Expr} {i : Nat} (hl : locB sc x = true) (hi : ixOf T.N x = some i) : PS X (.Assign [.Name x px] e pos) (tS X.K F W (.set i (cmp T 40 sc e))) := by
  have hN : X.N.Nodup := by rw [xc.hN]; exact xc.nd
  have hi' : X.N[i]? = some x := by rw [xc.hN]; exact ixOf_get hi
  have hl' : Loc X.env.scope x := by rw [xc.hsc]; exact loc_of hl
  have plain : swapsWith e (some (.Name x px)) pos.line X.env = pure false → PS X (.Assign [.Name x px] e pos) (tS X.K F W (.set i (cmp T 40 sc e))) := fun hc => x_set hN hi' hl' (.inl (xs.fnt x)) hc ((snd_all 40).pe xc)
  cases hce : compE e with
  | false => exact plain (sw_false hce)
  | true =>
    cases e with
    | ListComp elt gs scope lp =>
      have esw : swapsWith (.ListComp elt gs scope lp) (some (.Name x px)) pos.line X.env = pure (X.env.blockKind == .function && X.env.kindOf x == some .local && px.line == lp.line && !(scope.names.any fun (n, k) => n == x && (k == .local || k == .cell))) := rfl
      cases hb : (X.env.blockKind == .function && X.env.kindOf x == some .local && px.line == lp.line && !(scope.names.any fun (n, k) => n == x && (k == .local || k == .cell))) with
      | false => exact plain (by rw [esw, hb])
      | true =>
        rw [hb] at esw
        have hxl : X.env.scope.names.lookup x = some .local := by
          simp only [Bool.and_eq_true] at hb
          have q : (X.env.scope.names.lookup x == some .local) = true := hb.1.1.2
          cases q2 : X.env.scope.names.lookup x with
          | none => rw [q2] at q; cases q
          | some k => rw [q2] at q; cases k <;> first | rfl | cases q
        show PS X _ (tS X.K F W (.set i (cmpE0 T (cmp T 39) (cmpT T 39) (cmpI T 39) sc (.ListComp elt gs scope lp))))
        have ih := snd_all (T := T) (F := F) (C := C) 39
        simp only [cmpE0]
        split
        · rename_i tg iter ifs k
          split
          · rename_i hk
            obtain ⟨hk1, hk2⟩ := hk
            subst hk1
            split
            · rename_i tup ys hx
              split
              · rename_i is hi
                split
                · rename_i hc
                  obtain ⟨hc1, hc2⟩ := Bool.and_eq_true_iff.mp hc
                  rw [List.all_eq_true] at hc2
                  have ok : BlkOk X.N X.env.scope scope (ys.zip is) := by
                    rw [xc.hN, xc.hsc]
                    exact blkOk_by hc1
                  refine x_setLc xc.calm hN hi' hxl esw (pi_fix xc (ih.pj xc) _ _) ok (own_snd hi) (fun s H Cc cl fp => ?_) (fun s H Cc cl fp => ?_) (fun s H Cc cl fp => ?_) (noset hk2)
                  · have xb := xc.blk s H scope cl Cc fp
                    refine pg_of (X := X.blk s H scope (compEnvC scope cl Cc X.env) fp) (by rw [xb.hN]; exact xc.nd) xc.calm hx (by rw [xb.hN]; exact hi) fun x hx => tg_loc (hc2 x hx) xb.hsc rfl
                  · have xb := xc.blk s H scope cl Cc fp
                    split
                    · exact pts_none
                    · exact pts_one (ih.pt xb)
                    · exact ⟨fun _ _ _ _ _ _ ⟨_, _, _, h⟩ => h.elim⟩
                  · exact ih.pe (xc.blk s H scope cl Cc fp)
                · exact set_bad
              · exact set_bad
            · exact set_bad
          · exact set_bad
        · exact set_bad
    | SetComp _ _ _ _ => exact set_bad
    | DictComp _ _ _ _ _ => exact set_bad
    | _ => cases hce
theorem sw_pair (xc : XC T F W C sc X) (xs : XS X) {x y : Str} {px py tp tp2 : Pos} {k k2 : Nat} {a b : Expr} (h : swp sc x y px py a b = true) : swappedStores [.Tuple [.Name x px, .Name y py] k tp] (.Tuple [a, b] k2 tp2) X.env = pure (some [x, y]) := by
  unfold swp at h
  simp only [Bool.and_eq_true, Bool.not_eq_true', decide_eq_false_iff_not] at h
  obtain ⟨⟨⟨⟨⟨⟨⟨h1, h2⟩, h3⟩, h4⟩, h5⟩, h6⟩, h7⟩, h8⟩ := h
  have hb : X.env.blockKind = .function := by unfold Env.blockKind; rw [xs.kind]; rfl
  have kx : X.env.kindOf x = some .local := by show X.env.scope.names.lookup x = _; rw [xc.hsc]; exact isLoc_of h1
  have ky : X.env.kindOf y = some .local := by show X.env.scope.names.lookup y = _; rw [xc.hsc]; exact isLoc_of h2
  have h3' : (py.line == px.line) = true := by rw [Bool.beq_comm]; exact h3
  have ne : (y == x) = false := beq_eq_false_iff_ne.mpr fun q => h4 q.symm
  have ne2 : (x == y) = false := beq_eq_false_iff_ne.mpr h4
  have sa : ∀ {c : Expr}, PySem.W.isStarred c = false → (match c with | .Starred .. => true | _ => false) = false := fun {c} q => by cases c <;> first | rfl | cases q
  have fa : (List.all [a, b] (foldedForSure 8)) = false := by simpa using h7
  have ca : (List.all [a, b] (constantsAlone 8)) = false := by simpa using h8
  have er : [x, y].eraseDups = [x, y] := by simp [List.eraseDups_cons, ne]
  unfold swappedStores
  have hln : py.line = px.line := eq_of_beq h3'
  have s5 := sa h5
  have s6 := sa h6
  simp [hb, kx, ky, hln, List.filterMap_cons, er, Expr.pos, fa, ca]
  intro w
  exfalso
  rcases w with w | w
  · revert w; cases a <;> simp [PySem.W.isStarred] at h5 ⊢
  · revert w; cases b <;> simp [PySem.W.isStarred] at h6 ⊢
theorem sw_const (xc : XC T F W C sc X) (xs : XS X) {x y : Str} {px py tp tp2 : Pos} {k k2 : Nat} {a b : Expr} (h1 : isLoc sc x = true) (h2 : isLoc sc y = true) (h3 : (px.line == py.line) = true) (h5 : PySem.W.isStarred a = false) (h6 : PySem.W.isStarred b = false) (h7 : foldedForSure 8 a = true) (h8 : foldedForSure 8 b = true) :
    swappedStores [.Tuple [.Name x px, .Name y py] k tp] (.Tuple [a, b] k2 tp2) X.env = pure none := by
  unfold swappedStores
  simp [h7, h8]
/-! ### statements, by induction -/
theorem PS.bad2 {st : Stmt} {cs : CS} (h : ∀ r, exec F cs r = .bad) : PS X st (tS X.K F W cs) := ⟨fun _ _ _ _ _ _ ⟨_, r, _, q⟩ => by rw [h r] at q; exact q.elim⟩
theorem loc_all (xc : XC T F W C sc X) (xs : XS X) {ys : List Str} (h : ys.all (locB sc) = true) : ∀ x ∈ ys, Loc X.env.scope x ∧ (X.fn x = true ∨ X.env.scope.names.lookup x = some .local) := fun x hx => by
  rw [List.all_eq_true] at h
  exact ⟨by rw [xc.hsc]; exact loc_of (h x hx), .inl (xs.fnt x)⟩
theorem preS_ok (xc : XC T F W C sc X) (xs : XS X) {f : List Stmt → CS} (hf : ∀ sts, PSs X sts (tS X.K F W (f sts))) {st : Stmt} {c : CS} (h : preS T sc f st = some c) : PS X st (tS X.K F W c) := by
  have hv : ∀ e, PE X e (tV X.K F W (cmp T 40 sc e)) := fun e => (snd_all 40).pe xc
  have hN : X.N.Nodup := by rw [xc.hN]; exact xc.nd
  unfold preS at h
  split at h
  · split at h
    · cases h
      exact x_fset (by rename_i e _ _; cases e <;> rfl) (clsA_ok xc _) (hv _) (s_prm (hv _))
    · cases h
  · split at h
    · cases h
      split
      · exact x_bad
      · rename_i y p x ap k _ e _ _ c
        simp only [Bool.or_eq_true, not_or, Bool.not_eq_true] at c
        obtain ⟨⟨c1, c2⟩, c3⟩ := c
        exact x_sput (by intro v; cases k <;> first | rfl | cases c2) (by unfold swapsWithSole; exact sw_false c1) (sws_none c3) rfl (hv _) (hv _) (hv _)
    · cases h
  · split at h
    · cases h
      split
      · exact x_bad
      · rename_i hl
        split
        · rename_i i hi
          exact x_set hN (by rw [xc.hN]; exact ixOf_get hi) (by rw [xc.hsc]; exact loc_of (by simpa using hl)) (.inl (xs.fnt _)) rfl s_dnw
        · exact x_bad
    · cases h
  · split at h
    · cases h
      split
      · exact x_bad
      · rename_i c
        simp only [Bool.or_eq_true, not_or, Bool.not_eq_true] at c
        obtain ⟨⟨c1, c2⟩, c3⟩ := c
        exact x_dpt xc.un (sw_false c1) (hv _) (hv _) (hv _)
    · cases h
  · split at h
    · cases h
      split
      · exact x_bad
      · rename_i c
        simp only [Bool.or_eq_true, not_or, Bool.not_eq_true, Bool.not_eq_false'] at c
        obtain ⟨c1, c2⟩ := c
        split
        · rename_i x px y py body orelse pos _ _ _ i j hi hj
          have o1 : orelse = [] := List.isEmpty_iff.mp (by simpa using c1)
          subst o1
          obtain ⟨h1, h2, h3, h4⟩ := slot_of xc hj
          exact x_forK xc.pas xc.calm hN (by rw [xc.hN]; exact ixOf_get hi) (by rw [xc.hsc]; exact loc_of (by simpa using c2)) (.inl (xs.fnt _)) h1 h2 h3 h4 (hf _)
        · exact x_bad
    · cases h
  · cases h
theorem st_succ0 (xc : XC T F W C sc X) (xs : XS X) {f : List Stmt → CS} (hF : ∀ {W : Nat → L2.St → Hp → Prop} {X : Cx}, XC T F W C sc X → XS X → ∀ sts, PSs X sts (tS X.K F W (f sts))) (st : Stmt) : PS X st (tS X.K F W (cmpSE0 T sc f st)) := by
  have hv : ∀ e, PE X e (tV X.K F W (cmp T 40 sc e)) := fun e => (snd_all 40).pe xc
  have ht : ∀ e, PT X e (tT X.K F W (cmpT T 40 sc e)) := fun e => (snd_all 40).pt xc
  have hN : X.N.Nodup := by rw [xc.hN]; exact xc.nd
  have hf := hF xc xs
  unfold cmpSE0
  split
  · exact x_pass
  · exact x_brk
  · exact x_cont
  · exact x_retN
  · exact ret_ok xc
  · split
    · exact x_bad
    · rename_i c; rw [Bool.not_eq_true] at c; exact x_expr (sw_false c) (hv _)
  · exact x_ite (ht _) (hf _) (hf _)
  · split
    · rename_i c
      rename_i o _
      have o1 : _ = [] := List.isEmpty_iff.mp c
      subst o1
      exact x_whl xc.pas (ht _) (hf _)
    · exact x_bad
  · split
    · exact x_bad
    · rename_i tg it body orelse pos c
      simp only [Bool.or_eq_true, not_or, Bool.not_eq_true, Bool.not_eq_false'] at c
      obtain ⟨c1, c2⟩ := c
      have o1 : orelse = [] := List.isEmpty_iff.mp c1
      subst o1
      split
      · rename_i tup ys hx
        split
        · rename_i is hi
          split
          · rename_i hl
            exact x_for xc.pas xc.calm ((snd_all 40).pi xc) (pg_of hN xc.calm hx (by rw [xc.hN]; exact hi) (loc_all xc xs hl)) (hf _) (noset c2)
          · exact x_bad
        · exact x_bad
      · exact x_bad
  · split
    · exact x_bad
    · rename_i x px e pos c
      have c' : locB sc x = true := by simpa using c
      split
      · rename_i i hi; exact set_ok xc xs c' hi
      · exact x_bad
  · rename_i ts k tp e pos
    split
    · rename_i tup ys hx
      split
      · rename_i is hi
        split
        · exact x_bad
        · rename_i c
          simp only [Bool.or_eq_true, not_or, Bool.not_eq_true, Bool.not_eq_false'] at c
          obtain ⟨⟨c1, c2⟩, c3⟩ := c
          subst c3
          have hg : PG X (.Tuple ts k tp) (gT X.K true is) := pg_of hN xc.calm hx (by rw [xc.hN]; exact hi) (loc_all xc xs c1)
          have hsw : swapsWithSole [.Tuple ts k tp] e pos.line X.env = pure false := by
            unfold swapsWithSole
            exact sw_false c2
          split
          · rename_i c4
            rw [Bool.or_eq_true] at c4
            rcases c4 with c4 | c4
            · have c5 : isTupX e = false := by simpa using c4
              exact x_unp hg hsw (sws_none c5) tup_each (hv _)
            · exact x_unp hg hsw (sws_off (by rw [xc.hsc]; exact c4)) tup_each (hv _)
          · split
            · rename_i x px y py a b k2 tp2 _
              split
              · rename_i i j
                have hxs : ys = [x, y] := by
                  have := hx
                  simp [tgOf, nmOf] at this
                  exact this.symm
                subst hxs
                split
                · rename_i c6
                  simp only [Bool.and_eq_true, Bool.not_eq_true', decide_eq_false_iff_not] at c6
                  obtain ⟨c7, c8⟩ := c6
                  have sp := sw_pair xc xs (k := k) (k2 := k2) (tp := tp) (tp2 := tp2) c7
                  unfold swp at c7
                  simp only [Bool.and_eq_true, Bool.not_eq_true', decide_eq_false_iff_not] at c7
                  have e1 : ixOf T.N x = some i ∧ ixOf T.N y = some j := by
                    rw [List.mapM_cons] at hi
                    cases q1 : ixOf T.N x with
                    | none => rw [q1] at hi; cases hi
                    | some i' =>
                      cases q2 : ixOf T.N y with
                      | none => rw [q1, List.mapM_cons, q2] at hi; cases hi
                      | some j' =>
                        rw [q1, List.mapM_cons, q2] at hi
                        have hi : some [i', j'] = some [i, j] := hi
                        cases hi
                        exact ⟨rfl, rfl⟩
                  exact x_par xc.calm hN (by rw [xc.hN]; exact ixOf_get e1.1) (by rw [xc.hN]; exact ixOf_get e1.2) c8 (by rw [xc.hsc]; exact isLoc_of c7.1.1.1.1.1.1.1) (by rw [xc.hsc]; exact isLoc_of c7.1.1.1.1.1.1.2) c7.1.1.1.2 c7.1.1.2 sp (hv a) (hv b)
                · split
                  · rename_i c6
                    simp only [Bool.and_eq_true, Bool.not_eq_true'] at c6
                    obtain ⟨⟨⟨⟨⟨⟨d1, d2⟩, d3⟩, d4⟩, d5⟩, d6⟩, d7⟩ := c6
                    exact x_unp hg hsw (sw_const xc xs d5 d6 d7 d3 d4 d1 d2) tup_each (hv _)
                  · exact x_bad
              · exact x_bad
            · exact x_bad
      · exact x_bad
    · exact x_bad
  · rename_i x px k p2 e pos
    split
    · exact x_bad
    · rename_i c
      simp only [Bool.or_eq_true, not_or, Bool.not_eq_true] at c
      obtain ⟨⟨c1, c2⟩, c3⟩ := c
      split
      · rename_i i hi
        obtain ⟨h1, h2, h3, h4⟩ := slot_of xc hi
        exact x_put h1 h2 h3 h4 (by intro v; cases k <;> first | rfl | cases c2) (by unfold swapsWithSole; exact sw_false c1) (sws_none c3) rfl (hv _) (hv _)
      · exact x_bad
  · rename_i x p m j p2 kws p3 pos
    split
    · exact x_bad
    · rename_i c
      simp only [Bool.or_eq_true, not_or, Bool.not_eq_true, Bool.not_eq_false'] at c
      obtain ⟨⟨c1, c2⟩, c3⟩ := c
      have o1 : kws = [] := List.isEmpty_iff.mp c1
      subst o1
      split
      · rename_i cl hcl
        obtain ⟨e1, e2, e3, e4, e5⟩ := xc.exs cl x (ixOf_get hcl)
        exact x_raise xc.calm xc.tk PySem.F.excBase_ValueError e5 e1 e2 e3 e4 (gl_of xc c2) (nm_of c3).1
      · exact x_bad
  · exact try_ok xc xs fun W' pn xe xc' xs' => hF xc' xs' _
  · exact x_bad
theorem st_succ (xc : XC T F W C sc X) (xs : XS X) {f : List Stmt → CS} (hF : ∀ {W : Nat → L2.St → Hp → Prop} {X : Cx}, XC T F W C sc X → XS X → ∀ sts, PSs X sts (tS X.K F W (f sts))) (st : Stmt) : PS X st (tS X.K F W (cmpSE T sc f st)) := by
  unfold cmpSE
  split
  · rename_i c q; exact preS_ok xc xs (hF xc xs) q
  · exact st_succ0 xc xs hF st
theorem st_all : ∀ (n : Nat) {W : Nat → L2.St → Hp → Prop} {X : Cx}, XC T F W C sc X → XS X → ∀ st, PS X st (tS X.K F W (cmpS T n sc st))
  | 0, _, _, _, _, st => x_bad
  | n + 1, _, _, xc, xs, st => st_succ xc xs (fun xc xs sts => blk_ok (st_all n xc xs) sts) st
end
end SC

set_option Elab.async false
set_option maxRecDepth 100000
set_option maxHeartbeats 1000000
namespace SC
open PySem L2

/-- a def: its long name, parameters, names, text; its short name, whether it is one with store -/
structure DefI where
  nm : Str
  ps : List Str
  N : List Str
  st : Stmt
  mn : Str
  so : Bool
/-- a law's table: classes of errors, defs, global texts, classes -/
structure TabI where
  exs : List Str
  ds : List DefI
  cs : List (Str × Str) := []
  cl : List ClsI := []
def tbOf (I : TabI) (d : DefI) : Tb := ⟨d.N, I.ds.map fun d => (d.nm, d.ps.length), I.exs, I.cs, d.so, I.ds.map (·.so), I.cl⟩
def bodyOf (I : TabI) (d : DefI) : CS := if d.so then .sfn (cmpF (tbOf I d) d.st) else cmpF (tbOf I d) d.st
def tabOf (I : TabI) : List FD := I.ds.map fun d => ⟨d.ps.length, d.N.length, bodyOf I d⟩
/-- where a table's defs and classes stand -/
structure TabOk (K : PySem.W.Frag) (mg : Str → Option Value) (C : Nat → Addr) (A : Nat → Addr) (D : Nat → FuncData) (I : TabI) : Prop where
  fn : ∀ (i : Nat) (d : DefI), I.ds[i]? = some d → Fun K d.mn d.nm d.st (A i) (D i) ∧ (dotB d.nm = false → mg d.nm = some (.ref (A i))) ∧ Binds K (D i) d.ps [] ∧ FnScope d.N d.ps (defScope d.st)
  blt : ∀ x ∈ bltNs, mg x = none
  exs : ∀ (c : Nat) (x : Str), I.exs[c]? = some x → mg x = some (.ref (C c)) ∧ PySem.W.keepIn K (.ref (C c)) = true ∧ PySem.W.subIn K (.ref (C c)) (.type "BaseException") = some true ∧ PySem.W.typeIn K (.ref (C c)) = some (.type "type") ∧
    PySem.W.excIn K (C c) [.type "ValueError", .type "Exception", .type "BaseException", .type "object"] "ValueError.__new__" = true
  cls : ClsF K C I.exs.length
  cns : ∀ (x z : Str), I.cs.lookup x = some z → ∃ t, mg x = some (.str z t)
  cla : ∀ ci ∈ I.cl, ∃ CA, PySem.W.nsIn K mainGlobals ci.c = some (some (.ref CA)) ∧ mg ci.c = some (.ref CA) ∧ Cls K CA ∧ (∀ x ∈ ci.ats, NoAttr K CA x) ∧ (∀ p ∈ ci.ms, p.2 < I.ds.length ∧ Meth K CA p.1 (A p.2)) ∧ ci.ini < I.ds.length ∧ L2.Mk K CA (A ci.ini)
theorem ini_len (fd : FD) (ds : List PyData) : (ini fd ds).length = ds.length + (fd.ns - ds.length) := by simp [ini]
theorem ini_fz {fd : FD} {ds : List PyData} {i : Nat} {val : Val} (h : (ini fd ds)[i]? = some (some val)) : ∃ d, ds[i]? = some d ∧ val = .fz d := by
  unfold ini at h
  rw [List.getElem?_append] at h
  split at h
  · rw [List.getElem?_map] at h
    cases q : ds[i]? with
    | none => rw [q] at h; cases h
    | some d => rw [q] at h; cases h; exact ⟨d, rfl, rfl⟩
  · rw [List.getElem?_replicate] at h
    split at h <;> cases h
theorem ini_own {fd : FD} {ds : List PyData} {σ : L2.St} {a : Addr} : ¬ Own σ (ini fd ds) a := fun ⟨i, es, h, _⟩ => by
  obtain ⟨d, _, e⟩ := ini_fz h
  cases e
theorem start_get {N : List Str} {vs : List V} {i : Nat} {v : V} (h : vs[i]? = some v) : (start N vs)[i]? = some (some v) := by
  unfold L2.start
  have hi : i < (vs.map some).length := by
    rw [List.length_map]
    exact (List.getElem?_eq_some_iff.mp h).1
  rw [List.getElem?_append_left hi, List.getElem?_map, h]
  rfl
theorem cmpF_sfn {T : Tb} {st : Stmt} {b : CS} : cmpF T st ≠ .sfn b := by
  unfold cmpF
  cases defBody st with
  | nil => intro h; cases h
  | cons s r => intro h; cases h
section
variable {P : Program} {w : World} {K : PySem.W.Frag} {mg : Str → Option Value} {base : Heap} {C A : Nat → Addr} {D : Nat → FuncData} {I : TabI}
theorem sr_start {N : List Str} {fd : FD} {G H : Hp} {vs : List V} {es : List PyData} (hn : fd.ns = N.length) (hG : Sub G H) (hz : Sz H) (ht : ∀ a n, G a = some (tg n) → H a ≠ none ∧ ∀ xs, H a ≠ some (.tup xs)) (r : Rps K G vs es) : SR K G H (start N vs) (ini fd es) := by
  refine ⟨hG, ?_, fun i val h hv => ?_, fun i j a d1 d2 h1 _ _ _ => ?_, hz, fun i S h => ?_, ht, fun i j S S' h => ?_⟩
  · rw [ini_len]
    simp [L2.start, hn, r.length]
  · obtain ⟨d, h1, rfl⟩ := ini_fz h
    obtain ⟨v, h2, h3⟩ := r.get h1
    exact ⟨v, start_get h2, h3⟩
  · obtain ⟨d, _, e⟩ := ini_fz h1
    cases e
  · obtain ⟨d, _, e⟩ := ini_fz h
    cases e
  · obtain ⟨d, _, e⟩ := ini_fz h
    cases e
theorem ini_noS {fd : FD} {ds : List PyData} : ¬ HasS (ini fd ds) := fun ⟨i, S, h⟩ => by
  obtain ⟨d, _, e⟩ := ini_fz h
  cases e
theorem ge_of {Q : VK} {E : XK} {σ : L2.St} {fd : FD} {es : List PyData} {G H : Hp} {x : Out Flow}
    (h : match fin x with
      | .ret val => ∀ v G' H', Same G G' → (∀ a, G' a ≠ none → G a ≠ none ∨ H a = none ∨ ∃ xs, H' a = some (.tup xs)) → (∀ a n, G' a = some (tg n) → G a = some (tg n)) → Sub G' H' → Same H H' → Sz H' →
          (match val with
            | .fz d => Rp K G' v d
            | .ol es => ∃ p us, v = .ref p ∧ H p = none ∧ G' p = none ∧ H' p = some (.lst us) ∧ Rps K G' us es
            | .sto _ => False) → Q v H'
      | .exc c => ∀ H', Same H H' → Sz H' → E (.ref (C c)) none H'
      | .bad => False) : Ge K (fun c _ H => E (.ref (C c)) none H) { nx := fun _ H' => Q .non H', rt := Q } σ (ini fd es) G H x := by
  have nw : ∀ {σ' r' G' H'}, Stp σ (ini fd es) G H σ' r' G' H' → (∀ a, G' a ≠ none → G a ≠ none ∨ H a = none ∨ ∃ xs, H' a = some (.tup xs)) ∧ Same H H' ∧ ∀ a n, G' a = some (tg n) → G a = some (tg n) := fun t => ⟨fun a h => (t.new a h).imp id fun z => z.elim (fun o => absurd o ini_own) id, fun a o h => t.keep a o h ini_own fun ⟨i, S, _, _, w, _⟩ => ini_noS ⟨i, S, w⟩, fun a n h => (t.tgs a n h).resolve_right ini_noS⟩
  cases x with
  | ok f r' =>
    cases f with
    | nx => exact fun σ' G' H' s t => h .non G' H' t.ex (nw t).1 (nw t).2.2 s.ex (nw t).2.1 s.sz Rp.non
    | bk => exact h.elim
    | ct => exact h.elim
    | rt val =>
      intro v σ' G' H' s t hv
      refine h v G' H' t.ex (nw t).1 (nw t).2.2 s.ex (nw t).2.1 s.sz ?_
      cases val with
      | fz d => exact hv
      | ol es =>
        obtain ⟨p, us, e, h1, h2, h3, h4, h5⟩ := hv
        exact ⟨p, us, e, h5.elim (fun o => absurd o ini_own) id, h1, h2, h3⟩
      | sto S => exact hv
  | exc c r' => exact fun σ' G' H' s t => h H' (nw t).2.1 s.sz
  | bad => exact h.elim
/-! ### defs with store -/
/-- how a def with store leaves the store -/
theorem gc_ss {σ σ1 : L2.St} {r r1 : EV} {G H G1 H1 : Hp} {S S1 : List Ob} {k k1 : Nat} {d : PyData} (st : StoR K G H S) (hS : r[k]? = some (some (.sto S))) (no : ∀ a, ¬ Own σ r a) (one : ∀ (i : Nat) (S' : List Ob), r[i]? = some (some (.sto S')) → S' = S)
    (s : SR K G1 H1 σ1 r1) (t : Stp σ r G H σ1 r1 G1 H1) (hS1 : r1[k1]? = some (some (.sto S1))) : ∃ G', SS K G H S G' H1 (gcS S.length d S1) ∧ ∀ v, Rp K G1 v d → Rp K G' v d := by
  have toT : ∀ {a}, OwnS G H r a → OwnT G H S a := fun w => by
    obtain ⟨i, S', h1, h2⟩ := w.toT
    rw [one i S' h1] at h2
    exact h2
  have st1 := s.sto k1 S1 hS1
  have full : SS K G H S G1 H1 S1 := ⟨t.ex, fun a o h n => t.keep a o h (no a) fun w => n (toT w), t.dom, t.tups, fun a h => (t.new a h).imp id fun z => z.elim (fun w => absurd w (no a)) id, s.ex, s.sz, st1, fun a h => by
    rcases t.ows a (h.toS hS1) with w | w | w
    · exact .inl (toT w)
    · exact absurd w (no a)
    · exact .inr w⟩
  unfold gcS
  split
  · rename_i c
    obtain ⟨c1, c2⟩ := Bool.and_eq_true_iff.mp c
    refine ⟨cutG S.length G1, ⟨fun a o h => ?_, full.keep, full.dom, full.tups, fun a h => full.new a fun w => h (cutG_none w), fun a o h w => s.ex a o (cutG_of h) w, s.sz, ⟨fun n o h => ?_, fun a n h => ?_, fun a b n h1 h2 => st1.one a b n (cutG_of h1) (cutG_of h2)⟩, fun a h => full.ows a ?_⟩, fun v h => h.cut c1⟩
    · have h1 := t.ex a o h
      cases q : isTg o with
      | false => exact cutG_no h1 q
      | true =>
        obtain ⟨n, e⟩ := isTg_eq q
        subst e
        exact cutG_lt h1 (st.lt a n h)
    · have hn : n < S.length := by
        have := (List.getElem?_eq_some_iff.mp h).1
        rw [List.length_take] at this
        omega
      rw [List.getElem?_take] at h
      rw [if_pos hn] at h
      obtain ⟨a, h1, h2⟩ := st1.ob n o h
      exact ⟨a, cutG_lt h1 hn, h2.cut (List.all_eq_true.mp c2 o (by
        refine List.mem_of_getElem? (i := n) ?_
        rw [List.getElem?_take, if_pos hn]
        exact h))⟩
    · rw [List.length_take]
      have := cutG_tg h
      have := st1.lt a n (cutG_of h)
      omega
    · obtain ⟨n, o, h1, h2, h3⟩ := h
      have hn := (List.getElem?_eq_some_iff.mp h1).1
      rw [List.length_take] at hn
      rw [List.getElem?_take, if_pos (by omega)] at h1
      exact ⟨n, o, h1, h2, h3.imp cutG_of fun ⟨p, C, fs, h4, h5⟩ => ⟨p, C, fs, cutG_of h4, h5⟩⟩
  · exact ⟨G1, full, fun v h => h⟩
theorem iniS_get {fd : FD} {es : List PyData} {S : List Ob} {i : Nat} {val : Val} (hl : es.length = fd.np) (hn : fd.np < fd.ns) (h : ((ini fd es).set (fd.ns - 1) (some (.sto S)))[i]? = some (some val)) : (i = fd.ns - 1 ∧ val = .sto S) ∨ ∃ d, es[i]? = some d ∧ val = .fz d := by
  by_cases e : i = fd.ns - 1
  · subst e
    rw [List.getElem?_set_self (by rw [ini_len]; omega)] at h
    cases h
    exact .inl ⟨rfl, rfl⟩
  · rw [List.getElem?_set_ne (Ne.symm e)] at h
    exact .inr (ini_fz h)
theorem iniS_at {fd : FD} {es : List PyData} {S : List Ob} (hl : es.length = fd.np) (hn : fd.np < fd.ns) : ((ini fd es).set (fd.ns - 1) (some (.sto S)))[fd.ns - 1]? = some (some (.sto S)) := List.getElem?_set_self (by rw [ini_len]; omega)
theorem sr_startS {N : List Str} {fd : FD} {G H : Hp} {vs : List V} {es : List PyData} {S : List Ob} (hn : fd.ns = N.length) (hl : es.length = fd.np) (hns : fd.np < fd.ns) (hG : Sub G H) (hz : Sz H) (st : StoR K G H S) (r : Rps K G vs es) : SR K G H (start N vs) ((ini fd es).set (fd.ns - 1) (some (.sto S))) := by
  refine ⟨hG, ?_, fun i val h hv => ?_, fun i j a d1 d2 h1 _ _ _ => ?_, hz, fun i S' h => ?_, st.tgd, fun i j S1 S2 h1 h2 => ?_⟩
  · rw [List.length_set, ini_len]
    simp [L2.start, hn, r.length]
  · rcases iniS_get hl hns h with ⟨_, z⟩ | ⟨d, h1, rfl⟩
    · exact absurd z (hv S)
    · obtain ⟨v, h2, h3⟩ := r.get h1
      exact ⟨v, start_get h2, h3⟩
  · rcases iniS_get hl hns h1 with ⟨_, z⟩ | ⟨d, _, z⟩ <;> cases z
  · rcases iniS_get hl hns h with ⟨_, z⟩ | ⟨d, _, z⟩
    · cases z; exact st
    · cases z
  · rcases iniS_get hl hns h1 with ⟨e1, _⟩ | ⟨d, _, z⟩
    · rcases iniS_get hl hns h2 with ⟨e2, _⟩ | ⟨d, _, z⟩
      · rw [e1, e2]
      · cases z
    · cases z
theorem ge_ofS {Q : VK} {E : XK} {σ : L2.St} {fd : FD} {es : List PyData} {G H : Hp} {x : Out Flow} {S : List Ob} (hl : es.length = fd.np) (hns : fd.np < fd.ns) (st : StoR K G H S)
    (h : match finS (fd.ns - 1) S.length x with
      | .ret d S' => ∀ v G' H', SS K G H S G' H' S' → Rp K G' v d → Q v H'
      | .exc c S' => ∀ G' H', SS K G H S G' H' S' → E (.ref (C c)) none H'
      | .bad => False) : Ge K (fun c _ H => E (.ref (C c)) none H) { nx := fun _ H' => Q .non H', rt := Q } σ ((ini fd es).set (fd.ns - 1) (some (.sto S))) G H x := by
  have no : ∀ a, ¬ Own σ ((ini fd es).set (fd.ns - 1) (some (.sto S))) a := fun a ⟨i, ds, h1, _⟩ => by
    rcases iniS_get hl hns h1 with ⟨_, z⟩ | ⟨d, _, z⟩ <;> cases z
  have one : ∀ (i : Nat) (S' : List Ob), ((ini fd es).set (fd.ns - 1) (some (.sto S)))[i]? = some (some (.sto S')) → S' = S := fun i S' h1 => by
    rcases iniS_get hl hns h1 with ⟨_, z⟩ | ⟨d, _, z⟩
    · cases z; rfl
    · cases z
  cases x with
  | ok f r' =>
    cases f with
    | nx =>
      intro σ' G' H' s t
      dsimp only [finS] at h
      cases q : stoS r' (fd.ns - 1) with
      | none => rw [q] at h; exact h.elim
      | some S1 =>
        rw [q] at h
        obtain ⟨G2, c, f⟩ := gc_ss (d := .none) st (iniS_at hl hns) no one s t (stoS_some q)
        exact h .non G2 H' c (f _ .non)
    | bk => exact h.elim
    | ct => exact h.elim
    | rt val =>
      intro v σ' G' H' s t hv
      obtain ⟨G3, s3, t3, e3, p3⟩ := frzV s t hv
      dsimp only [finS] at h
      cases q : stoS r' (fd.ns - 1) with
      | none => rw [q] at h; exact h.elim
      | some S1 =>
        rw [q] at h
        obtain ⟨G2, c, f⟩ := gc_ss (d := val.toD) st (iniS_at hl hns) no one s3 t3 (stoS_some q)
        exact h v G2 H' c (f _ p3)
  | exc c r' =>
    intro σ' G' H' s t
    dsimp only [finS] at h
    cases q : stoS r' (fd.ns - 1) with
    | none => rw [q] at h; exact h.elim
    | some S1 =>
      rw [q] at h
      obtain ⟨G2, c, f⟩ := gc_ss (d := .none) st (iniS_at hl hns) no one s t (stoS_some q)
      exact h G2 H' c
  | bad => exact h.elim
theorem all_ok (T : TabOk K mg C A D I) : ∀ (n i : Nat) (d : DefI), I.ds[i]? = some d → FnOk P w K mg base (L2.CX P w) (2 * n) (A i) (D i) d.ps (spB K C (run (tabOf I) n) d.ps.length i)
  | 0, i, d, hd => by
    have no : ∀ vs H Q E, ¬ spB K C (run (tabOf I) 0) d.ps.length i vs H Q E := fun vs H Q E h => by
      rcases h with ⟨G, es, _, _, _, _, _, h⟩ | ⟨G, es, S, _, _, _, _, _, h⟩
      · exact h
      · exact h
    exact ⟨fun vs H Q E h => absurd h (no vs H Q E), fun A outer s H args us vs Q E _ _ _ _ h => absurd h (no vs H Q E)⟩
  | n + 1, i, d, hd => by
    obtain ⟨F, hm, hb, S⟩ := T.fn i d hd
    show FnOk P w K mg base (L2.CX P w) (2 * n + 1 + 1) (A i) (D i) d.ps _
    refine F.okX S (fun vs H Q E h => ?_) (fun cdv B outer s H vs Q E hr h => ?_)
    · rcases h with ⟨_, _, h, _⟩ | ⟨_, _, _, h, _⟩
      · exact h
      · exact h
    refine ⟨tS K (run (tabOf I) n) (fun c _ H => E (.ref (C c)) none H) (cmpF (tbOf I d) d.st), ?_, ?_⟩
    · have df : ∀ (f : Nat) (d' : DefI), I.ds[f]? = some d' → DefOk C (run (tabOf I) n) (cxOf (L2.CX P w) P w K mg base d.N d.nm (defScope d.st) (A i) cdv B outer s H E) f (2 * n) (A f) (D f) d'.ps := fun f d' q => ⟨all_ok T n f d' q, hr, (T.fn f d' q).2.2.1⟩
      have xc : XC (tbOf I d) (run (tabOf I) n) (fun c _ H => E (.ref (C c)) none H) C (defScope d.st) (cxOf (L2.CX P w) P w K mg base d.N d.nm (defScope d.st) (A i) cdv B outer s H E) := by
        refine ⟨rfl, S.nd, rfl, rfl, ?_, ?_, ?_, T.blt, ?_, fun ci h => ⟨?_⟩, T.exs, T.cls, T.cns⟩
        · have := hr.un
          show (B.deeper _).units + 65 < cLine
          omega
        · exact (takes_of rfl rfl rfl rfl).imp fun cls dd σ' H' ⟨c, e1, e2, e3⟩ => by rw [e1, e2]; exact e3
        · exact passes_of rfl
        · intro f x np hf
          have hf : (I.ds.map fun d => (d.nm, d.ps.length))[f]? = some (x, np) := hf
          rw [List.getElem?_map] at hf
          cases q : I.ds[f]? with
          | none => rw [q] at hf; cases hf
          | some d' =>
            rw [q] at hf
            cases hf
            obtain ⟨F', hm', hb', S'⟩ := T.fn f d' q
            exact ⟨2 * n, A f, D f, d'.ps, all_ok T n f d' q, hr, hm', F'.kp, hb', rfl⟩
        · obtain ⟨CA, h1, h2, h3, h4, h5, h6, h7⟩ := T.cla ci h
          have nsz : ∀ {f : Nat} (q : f < I.ds.length), ((tbOf I d).fns.map (·.2))[f]? = some (I.ds[f]).ps.length := fun {f} q => by
            show ((I.ds.map fun d => (d.nm, d.ps.length)).map (·.2))[f]? = _
            rw [List.getElem?_map, List.getElem?_map, List.getElem?_eq_getElem q]
            rfl
          refine ⟨CA, h1, h2, h3, h4, fun p hp => ?_, ?_⟩
          · obtain ⟨q1, q2⟩ := h5 p hp
            exact ⟨_, _, _, _, df p.2 _ (List.getElem?_eq_getElem q1), nsz q1, q2⟩
          · exact ⟨_, _, _, _, df ci.ini _ (List.getElem?_eq_getElem h6), nsz h6, h7⟩
      exact blk_ok (st_all 30 xc ⟨rfl, S.kind, rfl, rfl⟩) (defBody d.st)
    · have hd' : (tabOf I)[i]? = some ⟨d.ps.length, d.N.length, bodyOf I d⟩ := by
        unfold tabOf
        rw [List.getElem?_map, hd]
        rfl
      rcases h with ⟨G, es, hl, hG, hz, ht, hv, h⟩ | ⟨G, es, Sx, hl, hG, hz, hst, hv, h⟩
      · have e : run (tabOf I) (n + 1) i es = fin (exec (run (tabOf I) n) (bodyOf I d) (ini ⟨d.ps.length, d.N.length, bodyOf I d⟩ es)) := by
          show (match (tabOf I)[i]? with
            | some fd => if es.length = fd.np then fin (exec (run (tabOf I) n) fd.body (ini fd es)) else .bad
            | none => .bad) = _
          rw [hd']
          exact if_pos (by rw [← hl, hv.length])
        rw [e] at h
        by_cases so : d.so = true
        · have eb : bodyOf I d = .sfn (cmpF (tbOf I d) d.st) := by unfold bodyOf; rw [if_pos so]
          rw [eb] at h
          rw [exec] at h
          exact h.elim
        · have eb : bodyOf I d = cmpF (tbOf I d) d.st := by unfold bodyOf; rw [if_neg so]
          rw [eb] at h
          exact ⟨G, ini ⟨d.ps.length, d.N.length, cmpF (tbOf I d) d.st⟩ es, sr_start rfl hG hz ht hv, ge_of h⟩
      · have e : (run (tabOf I) (n + 1)).s i es Sx = match bodyOf I d with
            | .sfn b => if es.length = d.ps.length ∧ d.ps.length < d.N.length then finS (d.N.length - 1) Sx.length (exec (run (tabOf I) n) b ((ini ⟨d.ps.length, d.N.length, bodyOf I d⟩ es).set (d.N.length - 1) (some (.sto Sx)))) else .bad
            | _ => .bad := by
          show (match (tabOf I)[i]? with
            | some fd => match fd.body with
              | .sfn b => if es.length = fd.np ∧ fd.np < fd.ns then finS (fd.ns - 1) Sx.length (exec (run (tabOf I) n) b ((ini fd es).set (fd.ns - 1) (some (.sto Sx)))) else .bad
              | _ => .bad
            | none => .bad) = _
          rw [hd']
        rw [e] at h
        by_cases so : d.so = true
        · have eb : bodyOf I d = .sfn (cmpF (tbOf I d) d.st) := by unfold bodyOf; rw [if_pos so]
          rw [eb] at h
          dsimp only at h
          by_cases c : es.length = d.ps.length ∧ d.ps.length < d.N.length
          · rw [if_pos c] at h
            refine ⟨G, (ini ⟨d.ps.length, d.N.length, .sfn (cmpF (tbOf I d) d.st)⟩ es).set (d.N.length - 1) (some (.sto Sx)), sr_startS (fd := ⟨d.ps.length, d.N.length, .sfn (cmpF (tbOf I d) d.st)⟩) rfl c.1 c.2 hG hz hst hv, ?_⟩
            exact ge_ofS (fd := ⟨d.ps.length, d.N.length, .sfn (cmpF (tbOf I d) d.st)⟩) c.1 c.2 hst h
          · rw [if_neg c] at h
            exact h.elim
        · have eb : bodyOf I d = cmpF (tbOf I d) d.st := by unfold bodyOf; rw [if_neg so]
          have nb : ∀ b, cmpF (tbOf I d) d.st ≠ .sfn b := fun b => cmpF_sfn
          rw [eb] at h
          generalize cmpF (tbOf I d) d.st = bb at h nb
          cases bb with
          | sfn b => exact absurd rfl (nb b)
          | _ => exact h.elim
theorem only_sz {H : Hp} (hO : Only H) : Sz H where
  le := fun b xs q => by
    rcases hO b with z | ⟨o, ys, z⟩
    · rw [z] at q; rcases q with q | q <;> cases q
    · rw [z] at q; rcases q with q | q <;> cases q
  nt := fun b o q => by
    rcases hO b with z | ⟨o, ys, z⟩
    · rw [z] at q; cases q
    · rw [z] at q; cases q; rfl
theorem only_tg {H : Hp} (hO : Only H) (a : Addr) (n : Nat) : H a ≠ some (tg n) := fun q => by
  have := (only_sz hO).nt a _ q
  rw [tg_is] at this
  cases this
/-- what the law's def comes to -/
theorem law_sp (T : List FD) (n i : Nat) {ns : List Int} {a : Addr} {H : Hp} (hO : Only H) (hS : SqL K H a (ns.map V.int)) (h : run T n i [scrD ns] = .ret (.fz (.bool true)) ∨ (run T n).s i [scrD ns] [] = .ret (.bool true) []) :
    spB K C (run T n) 1 i [.ref a] H (fun v _ => v = .bl true) fun _ _ _ => False := by
  rcases h with h | h
  · refine .inl ⟨H, [scrD ns], rfl, Sub.refl _, only_sz hO, fun a n q => absurd q (only_tg hO a n), .cons (.scr hS) .nil, ?_⟩
    rw [h]
    intro v G' H' _ _ _ _ _ _ r
    cases r
    rfl
  · refine .inr ⟨H, [scrD ns], [], rfl, Sub.refl _, only_sz hO, ⟨fun n o q => by simp at q, fun a n q => absurd q (only_tg hO a n), fun a b n q => absurd q (only_tg hO a n)⟩, .cons (.scr hS) .nil, ?_⟩
    rw [h]
    intro v G' H' _ r
    cases r
    rfl
end
/-- the law, from its table -/
theorem walkT {l : PySem.W.OpenLaw} {q : Program} {loose : List Str} {XP : (Str → Option Value) → Heap → Prop} {YP : World → Heap → Prop} {d : DefRec} {K : Params → PySem.W.Frag} {I : TabI} {n i m : Nat} {dl : DefI} {x : Str} (hn : l.most = some m) (hm : m ≤ sizeLine) (hdf : d.params.defaults = []) (hr : Room (2 * n) callerA)
    (hi : I.ds[i]? = some dl) (hps : dl.ps = [x]) (hnm : dl.nm = d.name) (hdot : dotB dl.nm = false)
    (hY : ∀ (w : World) (h : Heap), YP w h → (K w.params).In h)
    (F : ∀ (w : World) (mg : Str → Option Value) (h : Heap), (K w.params).In h → h.Ns mainGlobals mg → ∃ C A D, TabOk (K w.params) mg C A D I)
    (hb : ∀ (K : PySem.W.Frag) (fa : Addr) (fd : FuncData), Fun K dl.mn dl.nm dl.st fa fd → ∀ (s : Shared) (u : Value), BindsTo s fd ⟨[u], []⟩ [(x, u)])
    (hL : ∀ ns : List Int, ns.length ≤ m → run (tabOf I) n i [scrD ns] = .ret (.fz (.bool true)) ∨ (run (tabOf I) n).s i [scrD ns] [] = .ret (.bool true) []) :
    PySem.W.WalkO q loose XP YP l.row.toRowW d [] (fun f vs => PySem.call f vs) := by
  refine L2.walk_of (n := m) (k := 2 * n) (x := x) (K := K) (CX := fun w => L2.CX l.prog w) (sp := fun w vs H Q E => ∀ C, spB (K w.params) C (run (tabOf I) n) 1 i vs H Q E) hn hm hdf hr hY (fun w mg fa h KX G hmg => ?_) (fun w H a ns hl hO hS C => law_sp _ _ _ hO hS (hL ns hl)) ?_
  · obtain ⟨C, A, D, T⟩ := F w mg h KX G
    obtain ⟨F1, h1, h2, h3⟩ := T.fn i dl hi
    have h1 := h1 hdot
    rw [hnm, hmg] at h1
    cases h1
    refine ⟨D i, hb _ _ _ F1, fun base _ _ => ?_⟩
    have Z := all_ok (P := l.prog) (w := w) (base := base) T n i dl hi
    rw [hps] at Z
    exact Z.imp fun vs H Q E h => h C
  · intro w H s e s' h
    obtain ⟨_, _, _, _, _, _, _, _, _, _, _, _, z⟩ := h
    exact z.elim
end SC

set_option Elab.async false
set_option maxRecDepth 100000
set_option maxHeartbeats 1000000
namespace SC
open PySem
@[simp] theorem toD_fz (d : PyData) : (Val.fz d).toD = d := rfl
@[simp] theorem toD_ol (ds : List PyData) : (Val.ol ds).toD = .list ds := rfl
@[simp] theorem getS_nil (i : Nat) : getS [] i = none := rfl
@[simp] theorem getS_zero (x : Option Val) (r : EV) : getS (x :: r) 0 = x := by cases x <;> rfl
@[simp] theorem getS_succ (x : Option Val) (r : EV) (i : Nat) : getS (x :: r) (i + 1) = getS r i := rfl
@[simp] theorem valD_fz (d : PyData) : valD (.fz d) = some d := rfl
@[simp] theorem valD_ol (d : List PyData) : valD (.ol d) = some (.list d) := rfl
@[simp] theorem opd_slot (r : EV) (i : Nat) : opd r (.slot i) = (getS r i).bind valD := rfl
@[simp] theorem opd_dat (r : EV) (d : PyData) : opd r (.dat d) = some d := rfl
@[simp] theorem mkO_var (i : Nat) (r : EV) (x : Out Val) : mkO (.var i) r x = if ((getS r i).bind valD).isSome then .ok (.slot i) r else .bad := rfl
@[simp] theorem isOl_fz {r : EV} {i : Nat} {d : PyData} (h : getS r i = some (.fz d)) : isOl r i = false := by unfold isOl; rw [h]
@[simp] theorem isOl_ol {r : EV} {i : Nat} {d : List PyData} (h : getS r i = some (.ol d)) : isOl r i = true := by unfold isOl; rw [h]
@[simp] theorem varV_fz {r : EV} {i : Nat} {d : PyData} (h : getS r i = some (.fz d)) : varV r i = .ok (.fz d) r := by unfold varV; rw [h]
@[simp] theorem varV_ol {r : EV} {i : Nat} {d : List PyData} (h : getS r i = some (.ol d)) : varV r i = .ok (.fz (.list d)) (r.set i (some (.fz (.list d)))) := by unfold varV; rw [h]
section
variable {F : Fs}
@[simp] theorem mkO_cst (d : PyData) (r : EV) (x : Out Val) : mkO (.cst d) r x = x.bnd fun v r1 => .ok (.dat v.toD) r1 := rfl
@[simp] theorem mkO_tup (es : CE) (r : EV) (x : Out Val) : mkO (.tup es) r x = x.bnd fun v r1 => .ok (.dat v.toD) r1 := rfl
@[simp] theorem retV_tup (es : CE) (r : EV) : retV F (.tup es) r = (ev F (.tup es) r).bnd fun v r1 => .ok (.rt v) r1 := rfl
@[simp] theorem mkO_lst (es : CE) (r : EV) (x : Out Val) : mkO (.lst es) r x = x.bnd fun v r1 => .ok (.dat v.toD) r1 := rfl
@[simp] theorem retV_lst (es : CE) (r : EV) : retV F (.lst es) r = (ev F (.lst es) r).bnd fun v r1 => .ok (.rt v) r1 := rfl
@[simp] theorem mkO_bin (op : Operator) (a b : CE) (r : EV) (x : Out Val) : mkO (.bin op a b) r x = x.bnd fun v r1 => .ok (.dat v.toD) r1 := rfl
@[simp] theorem retV_bin (op : Operator) (a b : CE) (r : EV) : retV F (.bin op a b) r = (ev F (.bin op a b) r).bnd fun v r1 => .ok (.rt v) r1 := rfl
@[simp] theorem mkO_neg (a : CE) (r : EV) (x : Out Val) : mkO (.neg a) r x = x.bnd fun v r1 => .ok (.dat v.toD) r1 := rfl
@[simp] theorem retV_neg (a : CE) (r : EV) : retV F (.neg a) r = (ev F (.neg a) r).bnd fun v r1 => .ok (.rt v) r1 := rfl
@[simp] theorem mkO_cmp (op : CmpOp) (a b : CE) (r : EV) (x : Out Val) : mkO (.cmp op a b) r x = x.bnd fun v r1 => .ok (.dat v.toD) r1 := rfl
@[simp] theorem retV_cmp (op : CmpOp) (a b : CE) (r : EV) : retV F (.cmp op a b) r = (ev F (.cmp op a b) r).bnd fun v r1 => .ok (.rt v) r1 := rfl
@[simp] theorem mkO_chain (op op2 : CmpOp) (a b c : CE) (r : EV) (x : Out Val) : mkO (.chain op op2 a b c) r x = x.bnd fun v r1 => .ok (.dat v.toD) r1 := rfl
@[simp] theorem retV_chain (op op2 : CmpOp) (a b c : CE) (r : EV) : retV F (.chain op op2 a b c) r = (ev F (.chain op op2 a b c) r).bnd fun v r1 => .ok (.rt v) r1 := rfl
@[simp] theorem mkO_chain3 (op op2 op3 : CmpOp) (a b c d : CE) (r : EV) (x : Out Val) : mkO (.chain3 op op2 op3 a b c d) r x = x.bnd fun v r1 => .ok (.dat v.toD) r1 := rfl
@[simp] theorem retV_chain3 (op op2 op3 : CmpOp) (a b c d : CE) (r : EV) : retV F (.chain3 op op2 op3 a b c d) r = (ev F (.chain3 op op2 op3 a b c d) r).bnd fun v r1 => .ok (.rt v) r1 := rfl
@[simp] theorem mkO_lset (a : CE) (r : EV) (x : Out Val) : mkO (.lset a) r x = x.bnd fun v r1 => .ok (.dat v.toD) r1 := rfl
@[simp] theorem retV_lset (a : CE) (r : EV) : retV F (.lset a) r = (ev F (.lset a) r).bnd fun v r1 => .ok (.rt v) r1 := rfl
@[simp] theorem mkO_and (a b : CE) (r : EV) (x : Out Val) : mkO (.and a b) r x = x.bnd fun v r1 => .ok (.dat v.toD) r1 := rfl
@[simp] theorem retV_and (a b : CE) (r : EV) : retV F (.and a b) r = (ev F (.and a b) r).bnd fun v r1 => .ok (.rt v) r1 := rfl
@[simp] theorem mkO_or (a b : CE) (r : EV) (x : Out Val) : mkO (.or a b) r x = x.bnd fun v r1 => .ok (.dat v.toD) r1 := rfl
@[simp] theorem retV_or (a b : CE) (r : EV) : retV F (.or a b) r = (ev F (.or a b) r).bnd fun v r1 => .ok (.rt v) r1 := rfl
@[simp] theorem mkO_not (a : CE) (r : EV) (x : Out Val) : mkO (.not a) r x = x.bnd fun v r1 => .ok (.dat v.toD) r1 := rfl
@[simp] theorem retV_not (a : CE) (r : EV) : retV F (.not a) r = (ev F (.not a) r).bnd fun v r1 => .ok (.rt v) r1 := rfl
@[simp] theorem mkO_ite (c a b : CE) (r : EV) (x : Out Val) : mkO (.ite c a b) r x = x.bnd fun v r1 => .ok (.dat v.toD) r1 := rfl
@[simp] theorem retV_ite (c a b : CE) (r : EV) : retV F (.ite c a b) r = (ev F (.ite c a b) r).bnd fun v r1 => .ok (.rt v) r1 := rfl
@[simp] theorem mkO_idx (a i : CE) (r : EV) (x : Out Val) : mkO (.idx a i) r x = x.bnd fun v r1 => .ok (.dat v.toD) r1 := rfl
@[simp] theorem retV_idx (a i : CE) (r : EV) : retV F (.idx a i) r = (ev F (.idx a i) r).bnd fun v r1 => .ok (.rt v) r1 := rfl
@[simp] theorem mkO_slc (a lo hi : CE) (r : EV) (x : Out Val) : mkO (.slc a lo hi) r x = x.bnd fun v r1 => .ok (.dat v.toD) r1 := rfl
@[simp] theorem retV_slc (a lo hi : CE) (r : EV) : retV F (.slc a lo hi) r = (ev F (.slc a lo hi) r).bnd fun v r1 => .ok (.rt v) r1 := rfl
@[simp] theorem mkO_rev (a : CE) (r : EV) (x : Out Val) : mkO (.rev a) r x = x.bnd fun v r1 => .ok (.dat v.toD) r1 := rfl
@[simp] theorem retV_rev (a : CE) (r : EV) : retV F (.rev a) r = (ev F (.rev a) r).bnd fun v r1 => .ok (.rt v) r1 := rfl
@[simp] theorem mkO_call (f : Nat) (es : CE) (r : EV) (x : Out Val) : mkO (.call f es) r x = x.bnd fun v r1 => .ok (.dat v.toD) r1 := rfl
@[simp] theorem retV_call (f : Nat) (es : CE) (r : EV) : retV F (.call f es) r = (ev F (.call f es) r).bnd fun v r1 => .ok (.rt v) r1 := rfl
@[simp] theorem mkO_blt (b : Bn) (es : CE) (r : EV) (x : Out Val) : mkO (.blt b es) r x = x.bnd fun v r1 => .ok (.dat v.toD) r1 := rfl
@[simp] theorem retV_blt (b : Bn) (es : CE) (r : EV) : retV F (.blt b es) r = (ev F (.blt b es) r).bnd fun v r1 => .ok (.rt v) r1 := rfl
@[simp] theorem mkO_isin (a : CE) (ts : List String) (r : EV) (x : Out Val) : mkO (.isin a ts) r x = x.bnd fun v r1 => .ok (.dat v.toD) r1 := rfl
@[simp] theorem retV_isin (a : CE) (ts : List String) (r : EV) : retV F (.isin a ts) r = (ev F (.isin a ts) r).bnd fun v r1 => .ok (.rt v) r1 := rfl
@[simp] theorem mkO_popL (i : Nat) (r : EV) (x : Out Val) : mkO (.popL i) r x = x.bnd fun v r1 => .ok (.dat v.toD) r1 := rfl
@[simp] theorem retV_popL (i : Nat) (r : EV) : retV F (.popL i) r = (ev F (.popL i) r).bnd fun v r1 => .ok (.rt v) r1 := rfl
@[simp] theorem mkO_popA (i : Nat) (e : CE) (r : EV) (x : Out Val) : mkO (.popA i e) r x = x.bnd fun v r1 => .ok (.dat v.toD) r1 := rfl
@[simp] theorem retV_popA (i : Nat) (e : CE) (r : EV) : retV F (.popA i e) r = (ev F (.popA i e) r).bnd fun v r1 => .ok (.rt v) r1 := rfl
@[simp] theorem mkO_lc (tup : Bool) (tg : List Nat) (it c e : CE) (r : EV) (x : Out Val) : mkO (.lc tup tg it c e) r x = x.bnd fun v r1 => .ok (.dat v.toD) r1 := rfl
@[simp] theorem retV_lc (tup : Bool) (tg : List Nat) (it c e : CE) (r : EV) : retV F (.lc tup tg it c e) r = (ev F (.lc tup tg it c e) r).bnd fun v r1 => .ok (.rt v) r1 := rfl
@[simp] theorem retV_fz {r : EV} {i : Nat} {d : PyData} (h : getS r i = some (.fz d)) : retV F (.var i) r = .ok (.rt (.fz d)) (r.set i none) := by
  show (match getS r i with | some (.sto _) => Out.bad | some v => Out.ok (Flow.rt v) (r.set i none) | none => .bad) = _
  rw [h]
@[simp] theorem retV_ol {r : EV} {i : Nat} {d : List PyData} (h : getS r i = some (.ol d)) : retV F (.var i) r = .ok (.rt (.ol d)) (r.set i none) := by
  show (match getS r i with | some (.sto _) => Out.bad | some v => Out.ok (Flow.rt v) (r.set i none) | none => .bad) = _
  rw [h]
@[simp] theorem retV_cst (d : PyData) (r : EV) : retV F (.cst d) r = .ok (.rt (.fz d)) r := rfl
@[simp] theorem ev_var (i : Nat) (r : EV) : ev F (.var i) r = varV r i := by rw [ev]
@[simp] theorem ev_cst (d : PyData) (r : EV) : ev F (.cst d) r = .ok (.fz d) r := by rw [ev]
@[simp] theorem ev_tup (es : CE) (r : EV) : ev F (.tup es) r = (evs F es r).bnd fun ds r1 => .ok (.fz (.tuple ds)) r1 := by rw [ev]
@[simp] theorem ev_lst (es : CE) (r : EV) : ev F (.lst es) r = (evs F es r).bnd fun ds r1 => .ok (.ol ds) r1 := by rw [ev]
@[simp] theorem ev_bin (op : Operator) (a b : CE) (r : EV) : ev F (.bin op a b) r = op2 a b r (ev F a r) (ev F b) fun d d' r1 => .of (binD op d d') r1 := by rw [ev]
@[simp] theorem ev_cmp (op : CmpOp) (a b : CE) (r : EV) : ev F (.cmp op a b) r = op2 a b r (ev F a r) (ev F b) fun d d' r1 => .of ((cmpD op d d').map fun k => .fz (.bool k)) r1 := by rw [ev]
@[simp] theorem ev_neg (i : Int) (r : EV) : ev F (.neg (.cst (.int i))) r = .ok (.fz (.int (-i))) r := by rw [ev]; rfl
@[simp] theorem ev_and (a b : CE) (r : EV) : ev F (.and a b) r = (ev F a r).bnd fun v r1 => (Out.of (truD v.toD) r1).bnd fun k _ => if k then ev F b r1 else .ok (.fz v.toD) r1 := by rw [ev]
@[simp] theorem ev_or (a b : CE) (r : EV) : ev F (.or a b) r = (ev F a r).bnd fun v r1 => (Out.of (truD v.toD) r1).bnd fun k _ => if k then .ok (.fz v.toD) r1 else ev F b r1 := by rw [ev]
@[simp] theorem ev_not (a : CE) (r : EV) : ev F (.not a) r = op1 a r (ev F a r) fun d r1 => .of ((truD d).map fun k => .fz (.bool (!k))) r1 := by rw [ev]
@[simp] theorem ev_ite (c a b : CE) (r : EV) : ev F (.ite c a b) r = (evT F c r).bnd fun k r1 => if k then ev F a r1 else ev F b r1 := by rw [ev]
@[simp] theorem ev_idx (a i : CE) (r : EV) : ev F (.idx a i) r = op2 a i r (ev F a r) (ev F i) fun d d' r1 => .of ((idxD d d').map .fz) r1 := by rw [ev]
@[simp] theorem ev_slc (a lo hi : CE) (r : EV) : ev F (.slc a lo hi) r = (mkO a r (ev F a r)).bnd fun o r1 => ((evs F lo r1).bnd fun ds r' => .of (optI ds) r').bnd fun l r2 => ((evs F hi r2).bnd fun ds r' => .of (optI ds) r').bnd fun h r3 => (Out.of (opd r3 o) r3).bnd fun d _ => .of (slcD l h d) r3 := by rw [ev]
@[simp] theorem ev_rev (a : CE) (r : EV) : ev F (.rev a) r = op1 a r (ev F a r) fun d r1 => .of (revD d) r1 := by rw [ev]
/-- the second half of a chain -/
def chO (op : CmpOp) (y z : PyData) (r : EV) : Out Val := match y with
  | .int j => .of ((cmpD op (.int j) z).map fun k => .fz (.bool k)) r
  | _ => .bad
@[simp] theorem ev_chain (op op' : CmpOp) (a b c : CE) (r : EV) : ev F (.chain op op' a b c) r = op2 a b r (ev F a r) (ev F b) fun d d' r1 => (Out.of (cmpD op d d') r1).bnd fun k _ =>
      if k then match d' with
        | .int j => op1 c r1 (ev F c r1) fun d'' r2 => .of ((cmpD op' (.int j) d'').map fun k => .fz (.bool k)) r2
        | _ => .bad
      else .ok (.fz (.bool false)) r1 := by rw [ev] <;> rfl
@[simp] theorem ev_chain3 (op op' op'' : CmpOp) (a b c d : CE) (r : EV) : ev F (.chain3 op op' op'' a b c d) r = op2 a b r (ev F a r) (ev F b) fun x y r1 => (Out.of (cmpD op x y) r1).bnd fun k _ =>
      if k then match y with
        | .int j => op1 c r1 (ev F c r1) fun z r2 => (Out.of (cmpD op' (.int j) z) r2).bnd fun k2 _ =>
          if k2 then match z with
            | .int i => op1 d r2 (ev F d r2) fun w r3 => .of ((cmpD op'' (.int i) w).map fun k => .fz (.bool k)) r3
            | _ => .bad
          else .ok (.fz (.bool false)) r2
        | _ => .bad
      else .ok (.fz (.bool false)) r1 := by rw [ev] <;> rfl
@[simp] theorem mkO_sset (a : CE) (r : EV) (x : Out Val) : mkO (.sset a) r x = x.bnd fun v r1 => .ok (.dat v.toD) r1 := rfl
@[simp] theorem retV_sset (a : CE) (r : EV) : retV F (.sset a) r = (ev F (.sset a) r).bnd fun v r1 => .ok (.rt v) r1 := rfl
@[simp] theorem ev_sset (a : CE) (r : EV) : ev F (.sset a) r = op1 a r (ev F a r) fun d r1 => .of (ssetD d) r1 := by rw [ev]
@[simp] theorem ev_lset (a : CE) (r : EV) : ev F (.lset a) r = op1 a r (ev F a r) fun d r1 => .of ((lsetD d).map fun (n : Nat) => .fz (.int (n : Int))) r1 := by rw [ev]
/-- what a call leaves -/
def rtO (x : Rt) (r : EV) : Out Val := match x with
  | .ret v => .ok v r
  | .exc c => .exc c r
  | .bad => .bad
@[simp] theorem rtO_ret (v : Val) (r : EV) : rtO (.ret v) r = .ok v r := rfl
@[simp] theorem rtO_exc (c : Nat) (r : EV) : rtO (.exc c) r = .exc c r := rfl
@[simp] theorem ev_call (f : Nat) (es : CE) (r : EV) : ev F (.call f es) r = (evs F es r).bnd fun ds r1 => rtO (F f ds) r1 := by rw [ev]; rfl
@[simp] theorem ev_blt (b : Bn) (es : CE) (r : EV) : ev F (.blt b es) r = (evO F es r).bnd fun os r1 => (Out.of (os.mapM (opd r1)) r1).bnd fun ds _ => .of (bltD b ds) r1 := by rw [ev]
def isinD (ts : List String) (d : PyData) (r : EV) : Out Val := match d with
  | .dict _ => .bad
  | d => .ok (.fz (.bool (ts.any (tyD d)))) r
@[simp] theorem isinD_none (ts : List String) (r : EV) : isinD ts .none r = .ok (.fz (.bool (ts.any (tyD .none)))) r := rfl
@[simp] theorem isinD_bool (ts : List String) (b : Bool) (r : EV) : isinD ts (.bool b) r = .ok (.fz (.bool (ts.any (tyD (.bool b))))) r := rfl
@[simp] theorem isinD_int (ts : List String) (b : Int) (r : EV) : isinD ts (.int b) r = .ok (.fz (.bool (ts.any (tyD (.int b))))) r := rfl
@[simp] theorem isinD_str (ts : List String) (b : Str) (r : EV) : isinD ts (.str b) r = .ok (.fz (.bool (ts.any (tyD (.str b))))) r := rfl
@[simp] theorem isinD_list (ts : List String) (b : List PyData) (r : EV) : isinD ts (.list b) r = .ok (.fz (.bool (ts.any (tyD (.list b))))) r := rfl
@[simp] theorem isinD_tuple (ts : List String) (b : List PyData) (r : EV) : isinD ts (.tuple b) r = .ok (.fz (.bool (ts.any (tyD (.tuple b))))) r := rfl
@[simp] theorem ev_isin (a : CE) (ts : List String) (r : EV) : ev F (.isin a ts) r = op1 a r (ev F a r) (isinD ts) := by rw [ev]; rfl
def appD (i : Nat) (d : PyData) (r : EV) : Out Val := match getS r i with
  | some (.ol ds) => if ds.length < sizeLine then .ok (.fz .none) (r.set i (some (.ol (ds ++ [d])))) else .bad
  | _ => .bad
theorem appD_ol {i : Nat} {r : EV} {ds : List PyData} (h : getS r i = some (.ol ds)) (hl : ds.length < sizeLine) (d : PyData) : appD i d r = .ok (.fz .none) (r.set i (some (.ol (ds ++ [d])))) := by
  unfold appD; rw [h]; exact if_pos hl
@[simp] theorem ev_app (i : Nat) (e : CE) (r : EV) : ev F (.app i e) r = if !isOl r i then .bad else (ev F e r).bnd fun v r1 => appD i v.toD r1 := by rw [ev]; rfl
def extD (i : Nat) (d : PyData) (r : EV) : Out Val := match getS r i, some d with
    | some (.ol ds), some (.list es) => if ds.length + es.length ≤ sizeLine then .ok (.fz .none) (r.set i (some (.ol (ds ++ es)))) else .bad
    | some (.ol ds), some (.tuple es) => if ds.length + es.length ≤ sizeLine then .ok (.fz .none) (r.set i (some (.ol (ds ++ es)))) else .bad
    | _, _ => .bad
theorem extD_ol {i : Nat} {r : EV} {ds es : List PyData} (h : getS r i = some (.ol ds)) (hl : ds.length + es.length ≤ sizeLine) : extD i (.list es) r = .ok (.fz .none) (r.set i (some (.ol (ds ++ es)))) := by
  unfold extD; rw [h]; exact if_pos hl
theorem extD_olT {i : Nat} {r : EV} {ds es : List PyData} (h : getS r i = some (.ol ds)) (hl : ds.length + es.length ≤ sizeLine) : extD i (.tuple es) r = .ok (.fz .none) (r.set i (some (.ol (ds ++ es)))) := by
  unfold extD; rw [h]; exact if_pos hl
theorem ev_ext {i : Nat} {e : CE} {r r1 : EV} {v : Val} (hi : isOl r i = true) (hv : ∀ j, e ≠ .var j) (he : ev F e r = .ok v r1) (hv2 : ∀ k c, e ≠ .res k c := by intro k c h; cases h) : ev F (.ext i e) r = extD i v.toD r1 := by
  have em : mkO e r (ev F e r) = .ok (.dat v.toD) r1 := by
    rw [he]
    unfold mkO
    split
    · exact absurd rfl (hv _)
    · exact absurd rfl (hv2 _ _)
    · exact absurd rfl (hv2 _ _)
    · rfl
  rw [ev, hi, em]
  rfl
def popD (i : Nat) (d : PyData) (r1 : EV) : Out Val := match getS r1 i, d with
    | some (.ol ds), .int k => match L2.ixN ds.length k with
      | some j => match ds[j]? with
        | some d => .ok (.fz d) (r1.set i (some (.ol (ds.eraseIdx j))))
        | none => .bad
      | none => .bad
    | _, _ => .bad
theorem popD_ol {i : Nat} {r : EV} {ds : List PyData} {k : Int} {d : PyData} (h : getS r i = some (.ol ds)) (h0 : 0 ≤ k) (hd : ds[k.toNat]? = some d) : popD i (.int k) r = .ok (.fz d) (r.set i (some (.ol (ds.eraseIdx k.toNat)))) := by
  have hk := (List.getElem?_eq_some_iff.mp hd).1
  have e : L2.ixN ds.length k = some k.toNat := by
    unfold L2.ixN
    rw [if_pos h0, if_pos (by omega)]
  unfold popD
  rw [h]
  dsimp only
  rw [e]
  dsimp only
  rw [hd]
@[simp] theorem ev_popA (i : Nat) (e : CE) (r : EV) : ev F (.popA i e) r = if !isOl r i then .bad else (ev F e r).bnd fun v r1 => popD i v.toD r1 := by rw [ev]; rfl
@[simp] theorem ev_lc (tup : Bool) (tg : List Nat) (it c e : CE) (r : EV) : ev F (.lc tup tg it c e) r = (evI F it r).bnd fun ds r1 =>
      (lcLoop tup tg (tg ++ hidOf it) (evT F c) (ev F e) ds (wip r1 (tg ++ hidOf it)) []).bnd fun acc r2 => .ok (.ol acc) (rst r1 r2 (tg ++ hidOf it)) := by rw [ev]
@[simp] theorem evs_nil (r : EV) : evs F .nil r = .ok [] r := by rw [evs]
@[simp] theorem evs_cons (e es : CE) (r : EV) : evs F (.cons e es) r = (ev F e r).bnd fun v r1 => (evs F es r1).bnd fun ds r2 => .ok (v.toD :: ds) r2 := by rw [evs]
@[simp] theorem evO_nil (r : EV) : evO F .nil r = .ok [] r := by rw [evO]
@[simp] theorem evO_cons (e es : CE) (r : EV) : evO F (.cons e es) r = (mkO e r (ev F e r)).bnd fun o r1 => (evO F es r1).bnd fun os r2 => .ok (o :: os) r2 := by rw [evO]
@[simp] theorem evT_tand (a b : CE) (r : EV) : evT F (.tand a b) r = (evT F a r).bnd fun k r1 => if k then evT F b r1 else .ok false r1 := by rw [evT]
@[simp] theorem evT_tor (a b : CE) (r : EV) : evT F (.tor a b) r = (evT F a r).bnd fun k r1 => if k then .ok true r1 else evT F b r1 := by rw [evT]
@[simp] theorem evT_tnot (a : CE) (r : EV) : evT F (.tnot a) r = (evT F a r).bnd fun k r1 => .ok (!k) r1 := by rw [evT]
@[simp] theorem evT_tval (a : CE) (r : EV) : evT F (.tval a) r = (mkO a r (ev F a r)).bnd fun o r1 => (Out.of (opd r1 o) r1).bnd fun d _ => .of (truD d) r1 := by rw [evT]
@[simp] theorem evI_itr (a : CE) (r : EV) : evI F (.itr a) r = (mkO a r (ev F a r)).bnd fun o r1 => (Out.of (opd r1 o) r1).bnd fun d _ => .of (itemsD d) r1 := by rw [evI]
@[simp] theorem evI_rng (es : CE) (r : EV) : evI F (.rng es) r = (evs F es r).bnd fun ds r1 => .of (rngD ds) r1 := by rw [evI]
@[simp] theorem evI_zip (es : CE) (r : EV) : evI F (.zip es) r = (evs F es r).bnd fun ds r1 => .of (zipD ds) r1 := by rw [evI]
@[simp] theorem evI_enm (es : CE) (r : EV) : evI F (.enm es) r = (evs F es r).bnd fun ds r1 => .of (enmD ds) r1 := by rw [evI]
@[simp] theorem evI_rvs (a : CE) (r : EV) : evI F (.rvs a) r = (ev F a r).bnd fun v r1 => (Out.of (itemsD v.toD) r1).bnd fun ds _ => .ok ds.reverse r1 := by rw [evI]
@[simp] theorem op1_def (a : CE) (r : EV) (x : Out Val) (f : PyData → EV → Out Val) : op1 a r x f = (mkO a r x).bnd fun o r1 => (Out.of (opd r1 o) r1).bnd f := rfl
@[simp] theorem op2_def (a b : CE) (r : EV) (x : Out Val) (y : EV → Out Val) (f : PyData → PyData → EV → Out Val) : op2 a b r x y f =
  (mkO a r x).bnd fun o r1 => (mkO b r1 (y r1)).bnd fun o' r2 => (Out.of (opd r2 o) r2).bnd fun d _ => (Out.of (opd r2 o') r2).bnd fun d' _ => f d d' r2 := rfl
@[simp] theorem truD_none : truD .none = some false := rfl
@[simp] theorem truD_bool (b : Bool) : truD (.bool b) = some b := rfl
@[simp] theorem truD_int (i : Int) : truD (.int i) = some (i != 0) := rfl
@[simp] theorem truD_list (ds : List PyData) : truD (.list ds) = some (!ds.isEmpty) := rfl
@[simp] theorem truD_tuple (ds : List PyData) : truD (.tuple ds) = some (!ds.isEmpty) := rfl
@[simp] theorem bin_add (a b : Int) : binD .Add (.int a) (.int b) = some (.fz (.int (a + b))) := rfl
@[simp] theorem bin_sub (a b : Int) : binD .Sub (.int a) (.int b) = some (.fz (.int (a - b))) := rfl
theorem mulOk_r {a b : Int} (h : -(2 ^ 64) < b) (h2 : b < 2 ^ 64) : mulOk a b = true := by
  unfold mulOk
  rw [Bool.or_eq_true]
  exact .inr (blI_iff.mpr (by omega))
theorem mulOk_l {a b : Int} (h : -(2 ^ 64) < a) (h2 : a < 2 ^ 64) : mulOk a b = true := by
  unfold mulOk
  rw [Bool.or_eq_true]
  exact .inl (blI_iff.mpr (by omega))
theorem bin_mul {a b : Int} (h : mulOk a b = true) : binD .Mult (.int a) (.int b) = some (.fz (.int (a * b))) := by
  show (if mulOk a b then _ else _) = _
  rw [if_pos h]
theorem bin_mod {a b : Int} (h : 0 < b) : binD .Mod (.int a) (.int b) = some (.fz (.int (a % b))) := by
  show (if 0 < b then _ else _) = _
  rw [if_pos h]
theorem bin_div {a b : Int} (h : 0 < b) (h2 : b < 1073741824) : binD .FloorDiv (.int a) (.int b) = some (.fz (.int (a / b))) := by
  show (if (decide (0 < b) && blI b 1073741823) = true then _ else _) = _
  rw [if_pos (by rw [decide_eq_true h, blI_iff.mpr (by omega)]; rfl)]
theorem bin_cat {a b : List PyData} (h : a.length + b.length ≤ sizeLine) : binD .Add (.tuple a) (.tuple b) = some (.fz (.tuple (a ++ b))) := by
  show (if a.length + b.length ≤ sizeLine then _ else _) = _
  rw [if_pos h]
theorem bin_catL {a b : List PyData} (h : a.length + b.length ≤ sizeLine) : binD .Add (.list a) (.list b) = some (.ol (a ++ b)) := by
  show (if a.length + b.length ≤ sizeLine then _ else _) = _
  rw [if_pos h]
@[simp] theorem cmp_lt (a b : Int) : cmpD .Lt (.int a) (.int b) = some (decide (a < b)) := rfl
@[simp] theorem cmp_le (a b : Int) : cmpD .LtE (.int a) (.int b) = some (decide (a ≤ b)) := rfl
@[simp] theorem cmp_gt (a b : Int) : cmpD .Gt (.int a) (.int b) = some (decide (b < a)) := rfl
@[simp] theorem cmp_ge (a b : Int) : cmpD .GtE (.int a) (.int b) = some (decide (b ≤ a)) := rfl
@[simp] theorem cmp_is (a b : PyData) : cmpD .Is a b = isD a b := by cases a <;> cases b <;> rfl
@[simp] theorem cmp_isNot (a b : PyData) : cmpD .IsNot a b = (isD a b).map (! ·) := by cases a <;> cases b <;> rfl
@[simp] theorem cmp_eq (a b : PyData) : cmpD .Eq a b = eqD a b := by cases a <;> cases b <;> rfl
@[simp] theorem cmp_ne (a b : PyData) : cmpD .NotEq a b = (eqD a b).map (! ·) := by cases a <;> cases b <;> rfl
@[simp] theorem cmp_in (a b : PyData) : cmpD .In a b = inD a b := by cases a <;> cases b <;> rfl
@[simp] theorem cmp_notIn (a b : PyData) : cmpD .NotIn a b = (inD a b).map (! ·) := by cases a <;> cases b <;> rfl
@[simp] theorem isD_bool (a b : Bool) : isD (.bool a) (.bool b) = some (a == b) := rfl
@[simp] theorem isD_none : isD .none .none = some true := rfl
@[simp] theorem isD_int (i : Int) : isD (.int i) .none = some false := rfl
@[simp] theorem isD_str (i : Str) : isD (.str i) .none = some false := rfl
@[simp] theorem isD_tuple (i : List PyData) : isD (.tuple i) .none = some false := rfl
@[simp] theorem isD_list (i : List PyData) : isD (.list i) .none = some false := rfl
@[simp] theorem isD_bn (i : Bool) : isD (.bool i) .none = some false := rfl
@[simp] theorem shaped_int (i : Int) : SeqAt.shaped (.int i) = true := rfl
@[simp] theorem eqD_int (a b : Int) : eqD (.int a) (.int b) = some (a == b) := rfl
@[simp] theorem idx_tuple (ds : List PyData) (i : Int) : idxD (.tuple ds) (.int i) = L2.atI ds i := rfl
@[simp] theorem idx_list (ds : List PyData) (i : Int) : idxD (.list ds) (.int i) = L2.atI ds i := rfl
@[simp] theorem idx_scr (ns : List Int) (i : Int) : idxD (scrD ns) (.int i) = L2.atI (ns.map PyData.int) i := rfl
@[simp] theorem len_scr (ns : List Int) : lenD (scrD ns) = some ns.length := by show some (ns.map PyData.int).length = _; simp
@[simp] theorem len_list (ds : List PyData) : lenD (.list ds) = some ds.length := rfl
@[simp] theorem len_tuple (ds : List PyData) : lenD (.tuple ds) = some ds.length := rfl
@[simp] theorem items_list (ds : List PyData) : itemsD (.list ds) = some ds := rfl
@[simp] theorem items_tuple (ds : List PyData) : itemsD (.tuple ds) = some ds := rfl
@[simp] theorem slc_tuple (lo hi : Option Int) (ds : List PyData) : slcD lo hi (.tuple ds) = some (.fz (.tuple (cutD ds lo hi))) := rfl
@[simp] theorem slc_list (lo hi : Option Int) (ds : List PyData) : slcD lo hi (.list ds) = some (.ol (cutD ds lo hi)) := rfl
@[simp] theorem optI_nil : optI [] = some none := rfl
@[simp] theorem optI_int (i : Int) : optI [.int i] = some (some i) := rfl
@[simp] theorem rev_tuple (ds : List PyData) : revD (.tuple ds) = some (.fz (.tuple ds.reverse)) := rfl
@[simp] theorem rev_list (ds : List PyData) : revD (.list ds) = some (.ol ds.reverse) := rfl
@[simp] theorem blt_len (d : PyData) : bltD .len [d] = (lenD d).map fun (n : Nat) => .fz (.int (n : Int)) := by cases d <;> rfl
@[simp] theorem blt_tuple (d : PyData) : bltD .tuple [d] = (itemsD d).map fun ds => .fz (.tuple ds) := by cases d <;> rfl
@[simp] theorem blt_list (d : PyData) : bltD .list [d] = (itemsD d).map fun ds => .ol ds := by cases d <;> rfl
@[simp] theorem blt_sorted (d : PyData) : bltD .sorted [d] = (sortD d).map fun ds => .ol ds := by cases d <;> rfl
@[simp] theorem blt_min2 (a b : Int) : bltD .min [.int a, .int b] = some (.fz (.int (min a b))) := by
  show some (Val.fz (.int (if b < a then b else a))) = _
  rw [show (if b < a then b else a) = min a b by omega]
@[simp] theorem blt_max2 (a b : Int) : bltD .max [.int a, .int b] = some (.fz (.int (max a b))) := by
  show some (Val.fz (.int (if b > a then b else a))) = _
  rw [show (if b > a then b else a) = max a b by omega]
@[simp] theorem blt_intB (b : Bool) : bltD .int [.bool b] = some (.fz (.int (if b then 1 else 0))) := rfl
@[simp] theorem blt_sum (d : PyData) : bltD .sum [d] = ((itemsD d).bind intsD).map fun ns => .fz (.int ns.sum) := by cases d <;> rfl
@[simp] theorem blt_all (ds : List PyData) : bltD .all [.list ds] = (boolsD ds).map fun bs => .fz (.bool (bs.all id)) := rfl
@[simp] theorem blt_any (ds : List PyData) : bltD .any [.list ds] = (boolsD ds).map fun bs => .fz (.bool (bs.any id)) := rfl
@[simp] theorem intsD_nil : intsD [] = some [] := rfl
@[simp] theorem intsD_cons (i : Int) (r : List PyData) : intsD (.int i :: r) = (intsD r).map (i :: ·) := rfl
theorem intsD_map : ∀ ns : List Int, intsD (ns.map PyData.int) = some ns
  | [] => rfl
  | n :: ns => by rw [List.map_cons, intsD_cons, intsD_map ns]; rfl
theorem boolsD_map : ∀ ns : List Bool, boolsD (ns.map PyData.bool) = some ns
  | [] => rfl
  | n :: ns => by
    show (boolsD (ns.map PyData.bool)).map (n :: ·) = _
    rw [boolsD_map ns]; rfl
@[simp] theorem ty_none (t : String) : tyD .none t = (t == "NoneType") := rfl
@[simp] theorem ty_bool (b : Bool) (t : String) : tyD (.bool b) t = (t == "bool" || t == "int") := rfl
@[simp] theorem ty_int (b : Int) (t : String) : tyD (.int b) t = (t == "int") := rfl
@[simp] theorem ty_str (b : Str) (t : String) : tyD (.str b) t = (t == "str") := rfl
@[simp] theorem ty_list (b : List PyData) (t : String) : tyD (.list b) t = (t == "list") := rfl
@[simp] theorem ty_tuple (b : List PyData) (t : String) : tyD (.tuple b) t = (t == "tuple") := rfl
/-! ### statements -/
@[simp] theorem exec_nil (r : EV) : exec F .nil r = .ok .nx r := by rw [exec]
theorem exec_seq {a b : CS} {r r1 : EV} (h : exec F a r = .ok .nx r1) : exec F (.seq a b) r = exec F b r1 := by rw [exec, h]
theorem exec_seq_rt {a b : CS} {r r1 : EV} {v : Val} (h : exec F a r = .ok (.rt v) r1) : exec F (.seq a b) r = .ok (.rt v) r1 := by rw [exec, h]
/-- what is done behind a statement -/
def sqO (x : Out Flow) (b : EV → Out Flow) : Out Flow := match x with
  | .ok .nx r1 => b r1
  | x => x
@[simp] theorem sqO_nx (r : EV) (b : EV → Out Flow) : sqO (.ok .nx r) b = b r := rfl
@[simp] theorem sqO_bk (r : EV) (b : EV → Out Flow) : sqO (.ok .bk r) b = .ok .bk r := rfl
@[simp] theorem sqO_ct (r : EV) (b : EV → Out Flow) : sqO (.ok .ct r) b = .ok .ct r := rfl
@[simp] theorem sqO_rt (v : Val) (r : EV) (b : EV → Out Flow) : sqO (.ok (.rt v) r) b = .ok (.rt v) r := rfl
@[simp] theorem sqO_exc (c : Nat) (r : EV) (b : EV → Out Flow) : sqO (.exc c r) b = .exc c r := rfl
@[simp] theorem exec_sq (a b : CS) (r : EV) : exec F (.seq a b) r = sqO (exec F a r) (exec F b) := by
  rw [exec]
  unfold sqO
  rfl
@[simp] theorem exec_set (i : Nat) (e : CE) (r : EV) : exec F (.set i e) r = (ev F e r).bnd fun v r1 => .ok .nx (r1.set i (some v)) := by rw [exec]
@[simp] theorem exec_expr (e : CE) (r : EV) : exec F (.expr e) r = (ev F e r).bnd fun _ r1 => .ok .nx r1 := by rw [exec]
@[simp] theorem exec_ret (e : CE) (r : EV) : exec F (.ret e) r = retV F e r := by rw [exec]
@[simp] theorem exec_retN (r : EV) : exec F .retN r = .ok (.rt (.fz .none)) r := by rw [exec]
@[simp] theorem exec_pass (r : EV) : exec F .pass r = .ok .nx r := by rw [exec]
@[simp] theorem exec_ite (c : CE) (a b : CS) (r : EV) : exec F (.ite c a b) r = (evT F c r).bnd fun k r1 => if k then exec F a r1 else exec F b r1 := by rw [exec]
@[simp] theorem exec_for (tup : Bool) (tg : List Nat) (it : CE) (body : CS) (r : EV) : exec F (.forS tup tg it body) r = (evI F it r).bnd fun ds r1 => forLoop tup tg (exec F body) ds (frzI it r1) := by rw [exec]
@[simp] theorem exec_par (i j : Nat) (a b : CE) (r : EV) : exec F (.par i j a b) r = (ev F a r).bnd fun v r1 => (ev F b r1).bnd fun v' r2 => .ok .nx ((r2.set i (some (.fz v.toD))).set j (some (.fz v'.toD))) := by rw [exec]
def unpO (is : List Nat) (d : PyData) (r : EV) : Out Flow := match setT true is d r with
  | some r2 => .ok .nx r2
  | none => .bad
theorem unpO_ok {is : List Nat} {d : PyData} {r r2 : EV} (h : setT true is d r = some r2) : unpO is d r = .ok .nx r2 := by unfold unpO; rw [h]
@[simp] theorem exec_unp (is : List Nat) (e : CE) (r : EV) : exec F (.unp is e) r = (ev F e r).bnd fun v r1 => unpO is v.toD r1 := by rw [exec]; rfl
@[simp] theorem exec_raise (c : Nat) (r : EV) : exec F (.raise c) r = .exc c r := by rw [exec]
@[simp] theorem exec_whl (c : CE) (b : CS) (r : EV) : exec F (.whl c b) r = whlLoop (evT F c) (exec F b) 1000 r := by rw [exec]
@[simp] theorem fin_rt (v : Val) (r : EV) : fin (.ok (.rt v) r) = .ret v := rfl
@[simp] theorem fin_nx (r : EV) : fin (.ok .nx r) = .ret (.fz .none) := rfl
@[simp] theorem fin_exc (c : Nat) (r : EV) : fin (.exc c r) = .exc c := rfl
theorem run_def {T : List FD} {f n : Nat} {fd : FD} {ds : List PyData} (h : T[f]? = some fd) (hl : ds.length = fd.np) : run T (n + 1) f ds = fin (exec (run T n) fd.body (ini fd ds)) := by
  show (match T[f]? with
    | some fd => if ds.length = fd.np then fin (exec (run T n) fd.body (ini fd ds)) else .bad
    | none => .bad) = _
  rw [h]
  exact if_pos hl
end
/-! ### loops -/
/-- what one item does in a comprehension -/
def itemO (tup : Bool) (tg : List Nat) (c : EV → Out Bool) (e : EV → Out Val) (r : EV) (d : PyData) : Out (Option PyData) :=
  (Out.of (setT tup tg d r) []).bnd fun r1 _ => (c r1).bnd fun k r2 => if k then (e r2).bnd fun v r3 => .ok (some v.toD) (wip r3 tg) else .ok none (wip r2 tg)
theorem itemO_one {i : Nat} {c : EV → Out Bool} {e : EV → Out Val} {r : EV} {d : PyData} : itemO false [i] c e r d = (c (r.set i (some (.fz d)))).bnd fun k r2 => if k then (e r2).bnd fun v r3 => .ok (some v.toD) (r3.set i none) else .ok none (r2.set i none) := rfl
theorem itemO_two {i j : Nat} {c : EV → Out Bool} {e : EV → Out Val} {r : EV} {a b : PyData} : itemO true [i, j] c e r (.tuple [a, b]) = (c ((r.set i (some (.fz a))).set j (some (.fz b)))).bnd fun k r2 => if k then (e r2).bnd fun v r3 => .ok (some v.toD) ((r3.set j none).set i none) else .ok none ((r2.set j none).set i none) := rfl
theorem lc_go {tup : Bool} {tg hid : List Nat} {c : EV → Out Bool} {e : EV → Out Val} {r : EV} {f : PyData → Option PyData} : ∀ (ds : List PyData) (acc : List PyData), (∀ d ∈ ds, itemO tup tg c e r d = .ok (f d) r) → lcLoop tup tg hid c e ds r acc = .ok (acc ++ ds.filterMap f) r
  | [], acc, _ => by rw [lcLoop]; simp
  | d :: ds, acc, h => by
    have h1 := h d (List.mem_cons_self ..)
    have ih := fun acc => lc_go (hid := hid) ds acc (fun d hd => h d (List.mem_cons_of_mem _ hd))
    unfold itemO at h1
    rw [lcLoop]
    cases q : setT tup tg d r with
    | none => rw [q] at h1; cases h1
    | some r1 =>
      rw [q, of_some, bnd_ok] at h1
      dsimp only at h1 ⊢
      cases q2 : c r1 with
      | bad => rw [q2] at h1; cases h1
      | exc _ _ => rw [q2] at h1; cases h1
      | ok k r2 =>
        rw [q2, bnd_ok] at h1
        cases k with
        | false =>
          dsimp only at h1 ⊢
          cases q3 : f d with
          | some y => rw [q3] at h1; cases h1
          | none =>
            rw [q3] at h1
            injection h1 with _ h1
            rw [h1, ih, List.filterMap_cons_none q3]
        | true =>
          dsimp only at h1 ⊢
          rw [if_pos rfl] at h1
          cases q3 : e r2 with
          | bad => rw [q3] at h1; cases h1
          | exc _ _ => rw [q3] at h1; cases h1
          | ok v r3 =>
            rw [q3, bnd_ok] at h1
            dsimp only
            injection h1 with h2 h1
            rw [h1, ih, List.filterMap_cons_some h2.symm, List.append_assoc]
            rfl
/-- a comprehension without a test -/
theorem lc_map {tup : Bool} {tg hid : List Nat} {c : EV → Out Bool} {e : EV → Out Val} {r : EV} {ds acc : List PyData} (f : PyData → PyData) (h : ∀ d ∈ ds, itemO tup tg c e r d = .ok (some (f d)) r) : lcLoop tup tg hid c e ds r acc = .ok (acc ++ ds.map f) r := by
  rw [lc_go (f := fun d => some (f d)) ds acc h, show (fun d => some (f d)) = some ∘ f from rfl, List.filterMap_eq_map]
/-- a loop by an invariant -/
theorem for_inv {tup : Bool} {tg : List Nat} {body : EV → Out Flow} (I : Nat → EV → Prop) : ∀ (ds : List PyData) (k : Nat) (r : EV), I k r →
    (∀ i d r, ds[i]? = some d → I (k + i) r → ∃ r1 r2, setT tup tg d r = some r1 ∧ (body r1 = .ok .nx r2 ∨ body r1 = .ok .ct r2) ∧ I (k + i + 1) r2) → ∃ r', forLoop tup tg body ds r = .ok .nx r' ∧ I (k + ds.length) r'
  | [], k, r, h, _ => ⟨r, by rw [forLoop], h⟩
  | d :: ds, k, r, h, hs => by
    obtain ⟨r1, r2, h1, h2, h3⟩ := hs 0 d r rfl h
    obtain ⟨r', h4, h5⟩ := for_inv (body := body) I ds (k + 1) r2 h3 fun i d' r hd hi => by
      have := hs (i + 1) d' r (by simpa using hd) (by rw [show k + (i + 1) = k + 1 + i by omega]; exact hi)
      rw [show k + (i + 1) + 1 = k + 1 + i + 1 by omega] at this
      exact this
    refine ⟨r', ?_, ?_⟩
    · rw [forLoop, h1]
      dsimp only
      rcases h2 with h2 | h2 <;> rw [h2] <;> exact h4
    · rw [List.length_cons, show k + (ds.length + 1) = k + 1 + ds.length by omega]
      exact h5
/-! ### step by step -/
/-- the block ends, and then P -/
def Nx (F : Fs) (c : CS) (r : EV) (P : EV → Prop) : Prop := ∃ r2, exec F c r = .ok .nx r2 ∧ P r2
section
variable {F : Fs} {a b body : CS} {r r0 r1 : EV} {P : EV → Prop} {tup : Bool} {tg : List Nat} {it : CE} {ds : List PyData} {z : Rt}
theorem nx_nil (h : P r) : Nx F .nil r P := ⟨r, exec_nil r, h⟩
theorem nx_seq (r1 : EV) (h : exec F a r = .ok .nx r1) (h2 : Nx F b r1 P) : Nx F (.seq a b) r P := by
  obtain ⟨r2, e, p⟩ := h2
  exact ⟨r2, by rw [exec_seq h]; exact e, p⟩
theorem for_go (I : Nat → EV → Prop) (ds : List PyData) (r : EV) (h0 : I 0 r) (hs : ∀ i d r, ds[i]? = some d → I i r → ∃ r1, setT tup tg d r = some r1 ∧ Nx F body r1 (I (i + 1))) : ∃ r', forLoop tup tg (exec F body) ds r = .ok .nx r' ∧ I ds.length r' := by
  obtain ⟨r', h1, h2⟩ := for_inv (tup := tup) (tg := tg) (body := exec F body) I ds 0 r h0 fun i d r hd hi => by
    rw [Nat.zero_add] at hi ⊢
    obtain ⟨r1, e1, r2, e2, p⟩ := hs i d r hd hi
    exact ⟨r1, r2, e1, .inl e2, p⟩
  rw [Nat.zero_add] at h2
  exact ⟨r', h1, h2⟩
/-- a loop that returns at the first bad item -/
theorem for_find (I : Nat → EV → Prop) (bad : PyData → Bool) (v : Val) : ∀ (ds : List PyData) (k : Nat) (r : EV), I k r → (∀ i d r, ds[i]? = some d → I (k + i) r → ∃ r1, setT tup tg d r = some r1 ∧ (bad d = true → ∃ r2, exec F body r1 = .ok (.rt v) r2) ∧ (bad d = false → Nx F body r1 (I (k + i + 1)))) →
    (ds.any bad = true → ∃ r2, forLoop tup tg (exec F body) ds r = .ok (.rt v) r2) ∧ (ds.any bad = false → ∃ r', forLoop tup tg (exec F body) ds r = .ok .nx r' ∧ I (k + ds.length) r')
  | [], k, r, h, _ => ⟨fun q => by simp at q, fun _ => ⟨r, by rw [forLoop], h⟩⟩
  | d :: ds, k, r, h, hs => by
    obtain ⟨r1, e1, h1, h2⟩ := hs 0 d r rfl h
    cases q : bad d with
    | true =>
      refine ⟨fun _ => ?_, fun z => by rw [List.any_cons, q] at z; cases z⟩
      obtain ⟨r2, e2⟩ := h1 q
      exact ⟨r2, by rw [forLoop, e1]; dsimp only; rw [e2]⟩
    | false =>
      obtain ⟨r2, e2, h3⟩ := h2 q
      obtain ⟨g1, g2⟩ := for_find I bad v ds (k + 1) r2 h3 fun i d' r hd hi => by
        have := hs (i + 1) d' r (by simpa using hd) (by rw [show k + (i + 1) = k + 1 + i by omega]; exact hi)
        rw [show k + (i + 1) + 1 = k + 1 + i + 1 by omega] at this
        exact this
      rw [List.any_cons, q, Bool.false_or]
      have e3 : forLoop tup tg (exec F body) (d :: ds) r = forLoop tup tg (exec F body) ds r2 := by
        rw [forLoop, e1]
        dsimp only
        rw [e2]
      rw [e3, List.length_cons, show k + (ds.length + 1) = k + 1 + ds.length by omega]
      exact ⟨g1, g2⟩
theorem nx_for (I : Nat → EV → Prop) (r0 : EV) (hi : evI F it r = .ok ds r0) (h0 : I 0 (frzI it r0)) (hs : ∀ i d r, ds[i]? = some d → I i r → ∃ r1, setT tup tg d r = some r1 ∧ Nx F body r1 (I (i + 1))) (hb : ∀ r', I ds.length r' → Nx F b r' P) :
    Nx F (.seq (.forS tup tg it body) b) r P := by
  obtain ⟨r', h1, h2⟩ := for_go I ds _ h0 hs
  refine nx_seq r' ?_ (hb r' h2)
  rw [exec_for, hi]
  exact h1
theorem fn_seq (r1 : EV) (h : exec F a r = .ok .nx r1) (h2 : fin (exec F b r1) = z) : fin (exec F (.seq a b) r) = z := by rw [exec_seq h]; exact h2
theorem fn_ret {v : Val} (h : exec F a r = .ok (.rt v) r1) : fin (exec F (.seq a b) r) = .ret v := by rw [exec_seq_rt h]; rfl
theorem fn_for (I : Nat → EV → Prop) (r0 : EV) (hi : evI F it r = .ok ds r0) (h0 : I 0 (frzI it r0)) (hs : ∀ i d r, ds[i]? = some d → I i r → ∃ r1, setT tup tg d r = some r1 ∧ Nx F body r1 (I (i + 1))) (hb : ∀ r', I ds.length r' → fin (exec F b r') = z) :
    fin (exec F (.seq (.forS tup tg it body) b) r) = z := by
  obtain ⟨r', h1, h2⟩ := for_go I ds _ h0 hs
  refine fn_seq r' ?_ (hb r' h2)
  rw [exec_for, hi]
  exact h1
end
@[simp] theorem frzI_rng (es : CE) (r : EV) : frzI (.rng es) r = r := rfl
@[simp] theorem frzI_zip (es : CE) (r : EV) : frzI (.zip es) r = r := rfl
@[simp] theorem frzI_enm (es : CE) (r : EV) : frzI (.enm es) r = r := rfl
@[simp] theorem frzI_rvs (es : CE) (r : EV) : frzI (.rvs es) r = r := rfl
@[simp] theorem frzI_call (f : Nat) (es : CE) (r : EV) : frzI (.itr (.call f es)) r = r := rfl
theorem rng1 {n : Int} (h : -8388608 ≤ n) (h2 : n ≤ 8388608) : rngD [.int n] = some ((List.range n.toNat).map fun (i : Nat) => PyData.int i) := by
  show (if smI n then _ else _) = _
  rw [if_pos (show smI n = true from blI_iff.mpr (by omega))]
theorem rng2 {a n : Int} (h : -8388608 ≤ n) (h2 : n ≤ 8388608) (g : -8388608 ≤ a) (g2 : a ≤ 8388608) : rngD [.int a, .int n] = some ((List.range (n - a).toNat).map fun (i : Nat) => PyData.int (a + i)) := by
  show (if smI a && smI n then _ else _) = _
  rw [if_pos (by rw [Bool.and_eq_true]; exact ⟨(show smI a = true from blI_iff.mpr (by omega)), (show smI n = true from blI_iff.mpr (by omega))⟩)]
end SC

set_option Elab.async false
set_option maxRecDepth 100000
set_option maxHeartbeats 1000000
namespace SC
open PySem
def libIsNumber : CS := (.seq (.ret (.and (.isin (.var 0) ["int"]) (.and (.not (.isin (.var 0) ["bool"])) (.chain .LtE .LtE (.cst (.int 0)) (.var 0) (.cst (.int 9)))))) .nil)
def libIsPiece (iIsNumber : Nat) : CS := (.seq (.ret (.and (.isin (.var 0) ["tuple"]) (.and (.cmp .Eq (.blt .len (.cons (.var 0) .nil)) (.cst (.int 2))) (.and (.call iIsNumber (.cons (.idx (.var 0) (.cst (.int 0))) .nil)) (.call iIsNumber (.cons (.idx (.var 0) (.cst (.int 1))) .nil)))))) .nil)
def libIsStone (iIsPiece : Nat) : CS := (.seq (.ret (.and (.call iIsPiece (.cons (.var 0) .nil)) (.cmp .LtE (.idx (.var 0) (.cst (.int 0))) (.idx (.var 0) (.cst (.int 1)))))) .nil)
def libAllStones : CS := (.seq (.set 1 (.lst .nil)) (.seq (.forS false [2] (.rng (.cons (.bin .Add (.var 0) (.cst (.int 1))) .nil)) (.seq (.expr (.ext 1 (.lc false [3] (.rng (.cons (.var 2) (.cons (.bin .Add (.var 0) (.cst (.int 1))) .nil))) (.tval (.cst (.bool true))) (.tup (.cons (.var 2) (.cons (.var 3) .nil)))))) .nil)) (.seq (.ret (.blt .tuple (.cons (.var 1) .nil))) .nil)))
def libStoneOf : CS := (.seq (.ret (.tup (.cons (.blt .min (.cons (.var 0) .nil)) (.cons (.blt .max (.cons (.var 0) .nil)) .nil)))) .nil)
def libPoints : CS := (.seq (.ret (.blt .sum (.cons (.lc true [1, 2] (.itr (.var 0)) (.tval (.cst (.bool true))) (.bin .Add (.var 1) (.var 2))) .nil))) .nil)
def libLawCell : CS := (.seq (.ite (.tval (.cmp .Lt (.var 1) (.blt .len (.cons (.var 0) .nil)))) (.seq (.ret (.idx (.var 0) (.var 1))) .nil) .nil) (.seq (.ret (.cst (.int 0))) .nil))
def libLawMix : CS := (.seq (.set 3 (.bin .Mod (.bin .Mult (.var 0) (.cst (.int 48271))) (.var 1))) (.seq (.ret (.bin .Mod (.bin .Mod (.bin .Mult (.var 3) (.bin .Add (.var 3) (.cst (.int 7)))) (.var 1)) (.var 2))) .nil))
def libLawSame (iLawSame : Nat) : CS := (.seq (.ite (.tval (.isin (.var 1) ["tuple"])) (.seq (.ite (.tor (.tnot (.tval (.isin (.var 0) ["tuple"]))) (.tval (.cmp .NotEq (.blt .len (.cons (.var 0) .nil)) (.blt .len (.cons (.var 1) .nil))))) (.seq (.ret (.cst (.bool false))) .nil) .nil) (.seq (.ret (.blt .all (.cons (.lc true [2, 3] (.zip (.cons (.var 0) (.cons (.var 1) .nil))) (.tval (.cst (.bool true))) (.call iLawSame (.cons (.var 2) (.cons (.var 3) .nil)))) .nil))) .nil)) .nil) (.seq (.ite (.tval (.cmp .Is (.var 1) (.cst .none))) (.seq (.ret (.cmp .Is (.var 0) (.cst .none))) .nil) .nil) (.seq (.ite (.tor (.tval (.isin (.var 1) ["bool"])) (.tval (.isin (.var 0) ["bool"]))) (.seq (.ret (.and (.isin (.var 1) ["bool"]) (.and (.isin (.var 0) ["bool"]) (.cmp .Eq (.var 0) (.var 1))))) .nil) .nil) (.seq (.ret (.and (.isin (.var 0) ["int", "str"]) (.cmp .Eq (.var 0) (.var 1)))) .nil))))
def libLawAll : CS := (.seq (.set 1 (.lst .nil)) (.seq (.forS false [2] (.rng (.cons (.bin .Add (.var 0) (.cst (.int 1))) .nil)) (.seq (.forS false [3] (.rng (.cons (.var 2) (.cons (.bin .Add (.var 0) (.cst (.int 1))) .nil))) (.seq (.expr (.app 1 (.tup (.cons (.var 2) (.cons (.var 3) .nil))))) .nil)) .nil)) (.seq (.ret (.var 1)) .nil)))
def libLawSome (iLawAll : Nat) (iLawMix : Nat) : CS := (.seq (.set 3 (.call iLawAll (.cons (.var 1) .nil))) (.seq (.set 4 (.lst .nil)) (.seq (.forS false [5] (.rng (.cons (.blt .min (.cons (.var 2) (.cons (.blt .len (.cons (.var 3) .nil)) .nil))) .nil)) (.seq (.expr (.app 4 (.popA 3 (.call iLawMix (.cons (.bin .Add (.var 0) (.bin .Mult (.cst (.int 7)) (.var 5))) (.cons (.cst (.int 9973)) (.cons (.blt .len (.cons (.var 3) .nil)) .nil))))))) .nil)) (.seq (.ret (.var 4)) .nil))))
def libLawOdd (iLawMix : Nat) (iLawOdd : Nat) : CS := (.seq (.ite (.tand (.tval (.isin (.var 0) ["tuple"])) (.tand (.tval (.cmp .NotEq (.var 0) (.tup .nil))) (.tval (.cmp .Gt (.call iLawMix (.cons (.var 1) (.cons (.cst (.int 9781)) (.cons (.cst (.int 5)) .nil)))) (.cst (.int 0)))))) (.seq (.set 2 (.call iLawMix (.cons (.var 1) (.cons (.cst (.int 9769)) (.cons (.blt .len (.cons (.var 0) .nil)) .nil))))) (.seq (.ret (.bin .Add (.bin .Add (.slc (.var 0) .nil (.cons (.var 2) .nil)) (.tup (.cons (.call iLawOdd (.cons (.idx (.var 0) (.var 2)) (.cons (.bin .Add (.bin .Add (.var 1) (.bin .Mult (.cst (.int 31)) (.var 2))) (.cst (.int 7))) .nil))) .nil))) (.slc (.var 0) (.cons (.bin .Add (.var 2) (.cst (.int 1))) .nil) .nil))) .nil)) .nil) (.seq (.set 3 (.lst (.cons (.cst .none) (.cons (.cst (.bool true)) (.cons (.cst (.bool false)) (.cons (.cst (.int 0)) (.cons (.cst (.int 1)) (.cons (.neg (.cst (.int 1))) (.cons (.cst (.int 2)) (.cons (.cst (.int 7)) (.cons (.cst (.int 10)) (.cons (.cst (.int 1000)) (.cons (.cst (.str "")) (.cons (.cst (.str "a")) (.cons (.cst (.str "A")) (.cons (.tup .nil) (.cons (.tup (.cons (.cst (.str "a")) .nil)) (.cons (.lst (.cons (.cst (.int 1)) .nil)) .nil)))))))))))))))))) (.seq (.ite (.tval (.isin (.var 0) ["tuple"])) (.seq (.set 3 (.bin .Add (.var 3) (.bin .Mult (.lst (.cons (.blt .list (.cons (.var 0) .nil)) (.cons (.bin .Add (.var 0) (.slc (.var 0) (.cons (.neg (.cst (.int 1))) .nil) .nil)) (.cons (.slc (.var 0) .nil (.cons (.neg (.cst (.int 1))) .nil)) (.cons (.rev (.var 0)) (.cons (.slc (.var 0) (.cons (.cst (.int 1)) .nil) .nil) (.cons (.tup (.cons (.var 0) .nil)) .nil))))))) (.cst (.int 2))))) .nil) (.seq (.ite (.tval (.isin (.var 0) ["str"])) (.seq (.set 3 (.bin .Add (.var 3) (.bin .Mult (.lst (.cons (.bin .Add (.var 0) (.cst (.str "a"))) (.cons (.slc (.var 0) .nil (.cons (.neg (.cst (.int 1))) .nil)) (.cons .bad (.cons (.bin .Add (.var 0) (.cst (.str " "))) (.cons (.bin .Mult (.var 0) (.cst (.int 2))) (.cons (.lst (.cons (.var 0) .nil)) (.cons (.bin .Add (.var 0) (.slc (.var 0) .nil (.cons (.cst (.int 1)) .nil))) .nil)))))))) (.cst (.int 2))))) .nil) (.seq (.ite (.tval (.isin (.var 0) ["int"])) (.seq (.set 3 (.bin .Add (.var 3) (.bin .Mult (.lst (.cons (.bin .Add (.var 0) (.cst (.int 1))) (.cons (.bin .Sub (.var 0) (.cst (.int 1))) (.cons (.bin .Sub (.cst (.int 0)) (.var 0)) (.cons (.tup (.cons (.var 0) .nil)) (.cons (.bin .Add (.var 0) (.cst (.int 2))) (.cons (.bin .Mult (.var 0) (.cst (.int 2))) .nil))))))) (.cst (.int 2))))) .nil) .nil) .nil)) .nil)) (.seq (.ret (.idx (.var 3) (.call iLawMix (.cons (.var 1) (.cons (.cst (.int 9749)) (.cons (.blt .len (.cons (.var 3) .nil)) .nil)))))) .nil))))
def libIsChain (iIsPiece : Nat) (iStoneOf : Nat) : CS := (.seq (.ite (.tor (.tnot (.tval (.isin (.var 0) ["tuple"]))) (.tnot (.tval (.blt .all (.cons (.lc false [1] (.itr (.var 0)) (.tval (.cst (.bool true))) (.call iIsPiece (.cons (.var 1) .nil))) .nil))))) (.seq (.ret (.cst (.bool false))) .nil) .nil) (.seq (.set 2 (.lc false [3] (.itr (.var 0)) (.tval (.cst (.bool true))) (.call iStoneOf (.cons (.var 3) .nil)))) (.seq (.ite (.tval (.cmp .NotEq (.lset (.var 2)) (.blt .len (.cons (.var 2) .nil)))) (.seq (.ret (.cst (.bool false))) .nil) .nil) (.seq (.ret (.blt .all (.cons (.lc false [4] (.rng (.cons (.cst (.int 1)) (.cons (.blt .len (.cons (.var 0) .nil)) .nil))) (.tval (.cst (.bool true))) (.cmp .Eq (.idx (.idx (.var 0) (.bin .Sub (.var 4) (.cst (.int 1)))) (.cst (.int 1))) (.idx (.idx (.var 0) (.var 4)) (.cst (.int 0))))) .nil))) .nil))))
def libTurned : CS := (.seq (.ret (.blt .tuple (.cons (.lc false [1] (.itr (.rev (.var 0))) (.tval (.cst (.bool true))) (.tup (.cons (.idx (.var 1) (.cst (.int 1))) (.cons (.idx (.var 1) (.cst (.int 0))) .nil)))) .nil))) .nil)
def libEnds : CS := (.seq (.ite (.tnot (.tval (.var 0))) (.seq (.ret (.cst .none)) .nil) .nil) (.seq (.ret (.tup (.cons (.idx (.idx (.var 0) (.cst (.int 0))) (.cst (.int 0))) (.cons (.idx (.idx (.var 0) (.neg (.cst (.int 1)))) (.cst (.int 1))) .nil)))) .nil))
def libLawChain (iLawMix : Nat) : CS := (.seq (.set 3 (.lst .nil)) (.seq (.set 4 (.lst .nil)) (.seq (.forS false [5] (.rng (.cons (.var 2) .nil)) (.seq (.set 6 (.ite (.tval (.var 3)) (.idx (.idx (.var 3) (.neg (.cst (.int 1)))) (.cst (.int 1))) (.call iLawMix (.cons (.var 0) (.cons (.cst (.int 9967)) (.cons (.bin .Add (.var 1) (.cst (.int 1))) .nil)))))) (.seq (.set 7 (.lc false [8] (.rng (.cons (.bin .Add (.var 1) (.cst (.int 1))) .nil)) (.tval (.cmp .NotIn (.tup (.cons (.blt .min (.cons (.var 6) (.cons (.var 8) .nil))) (.cons (.blt .max (.cons (.var 6) (.cons (.var 8) .nil))) .nil))) (.var 4))) (.var 8))) (.seq (.ite (.tval (.var 7)) (.seq (.set 9 (.idx (.var 7) (.call iLawMix (.cons (.bin .Add (.var 0) (.bin .Mult (.cst (.int 11)) (.var 5))) (.cons (.cst (.int 9949)) (.cons (.blt .len (.cons (.var 7) .nil)) .nil)))))) (.seq (.expr (.app 4 (.tup (.cons (.blt .min (.cons (.var 6) (.cons (.var 9) .nil))) (.cons (.blt .max (.cons (.var 6) (.cons (.var 9) .nil))) .nil))))) (.seq (.expr (.app 3 (.tup (.cons (.var 6) (.cons (.var 9) .nil))))) .nil))) .nil) .nil)))) (.seq (.ret (.blt .tuple (.cons (.var 3) .nil))) .nil))))
def libFitting : CS := (.seq (.unp [2, 3] (.var 0)) (.seq (.ite (.tval (.cmp .Eq (.var 2) (.var 1))) (.seq (.ret (.tup (.cons (.var 2) (.cons (.var 3) .nil)))) .nil) .nil) (.seq (.ite (.tval (.cmp .Eq (.var 3) (.var 1))) (.seq (.ret (.tup (.cons (.var 3) (.cons (.var 2) .nil)))) .nil) .nil) (.seq (.raise 1) .nil))))
def libBehind (iFitting : Nat) : CS := (.seq (.ite (.tnot (.tval (.var 0))) (.seq (.ret (.tup (.cons (.var 1) .nil))) .nil) .nil) (.seq (.ret (.bin .Add (.var 0) (.tup (.cons (.call iFitting (.cons (.var 1) (.cons (.idx (.idx (.var 0) (.neg (.cst (.int 1)))) (.cst (.int 1))) .nil))) .nil)))) .nil))
def libAhead (iBehind : Nat) (iTurned : Nat) : CS := (.seq (.ret (.ite (.tval (.var 0)) (.call iTurned (.cons (.call iBehind (.cons (.call iTurned (.cons (.var 0) .nil)) (.cons (.var 1) .nil))) .nil)) (.tup (.cons (.var 1) .nil)))) .nil)
def libCountEnd : CS := (.seq (.ite (.tval (.cmp .Eq (.idx (.var 0) (.cst (.int 0))) (.idx (.var 0) (.cst (.int 1))))) (.seq (.ret (.bin .Mult (.cst (.int 2)) (.var 1))) .nil) .nil) (.seq (.ret (.var 1)) .nil))
def libFives (iCountEnd : Nat) : CS := (.seq (.ite (.tnot (.tval (.var 0))) (.seq (.ret (.cst (.int 0))) .nil) .nil) (.seq (.set 1 (.blt .sum (.cons (.idx (.var 0) (.cst (.int 0))) .nil))) (.seq (.ite (.tval (.cmp .Gt (.blt .len (.cons (.var 0) .nil)) (.cst (.int 1)))) (.seq (.set 1 (.bin .Add (.call iCountEnd (.cons (.idx (.var 0) (.cst (.int 0))) (.cons (.idx (.idx (.var 0) (.cst (.int 0))) (.cst (.int 0))) .nil))) (.call iCountEnd (.cons (.idx (.var 0) (.neg (.cst (.int 1)))) (.cons (.idx (.idx (.var 0) (.neg (.cst (.int 1)))) (.cst (.int 1))) .nil))))) .nil) .nil) (.seq (.ite (.tval (.cmp .NotEq (.bin .Mod (.var 1) (.cst (.int 5))) (.cst (.int 0)))) (.seq (.ret (.cst (.int 0))) .nil) .nil) (.seq (.ret (.var 1)) .nil)))))
def libWithout : CS := (.seq (.ret (.blt .tuple (.cons (.lc false [2] (.itr (.var 0)) (.tval (.cmp .NotEq (.var 2) (.var 1))) (.var 2)) .nil))) .nil)
def libMovesOn (iEnds : Nat) : CS := (.seq (.ite (.tnot (.tval (.var 1))) (.seq (.ret (.blt .tuple (.cons (.lc false [2] (.itr (.blt .sorted (.cons (.var 0) .nil))) (.tval (.cst (.bool true))) (.tup (.cons (.var 2) (.cons (.cst (.str "right")) .nil)))) .nil))) .nil) .nil) (.seq (.unp [3, 4] (.call iEnds (.cons (.var 1) .nil))) (.seq (.set 5 (.lst .nil)) (.seq (.forS false [2] (.itr (.blt .sorted (.cons (.var 0) .nil))) (.seq (.ite (.tval (.cmp .In (.var 3) (.var 2))) (.seq (.expr (.app 5 (.tup (.cons (.var 2) (.cons (.cst (.str "left")) .nil))))) .nil) .nil) (.seq (.ite (.tval (.cmp .In (.var 4) (.var 2))) (.seq (.expr (.app 5 (.tup (.cons (.var 2) (.cons (.cst (.str "right")) .nil))))) .nil) .nil) .nil))) (.seq (.ret (.blt .tuple (.cons (.var 5) .nil))) .nil)))))
def libWithMore (iAhead : Nat) (iBehind : Nat) : CS := (.seq (.ite (.tval (.cmp .Eq (.var 2) (.cst (.str "left")))) (.seq (.ret (.call iAhead (.cons (.var 0) (.cons (.var 1) .nil)))) .nil) .nil) (.seq (.ret (.call iBehind (.cons (.var 0) (.cons (.var 1) .nil)))) .nil))
def libLawMoves : CS := (.seq (.ite (.tval (.cmp .Eq (.var 1) (.tup .nil))) (.seq (.ret (.blt .tuple (.cons (.lc false [2] (.itr (.blt .sorted (.cons (.var 0) .nil))) (.tval (.cst (.bool true))) (.tup (.cons (.var 2) (.cons (.cst (.str "right")) .nil)))) .nil))) .nil) .nil) (.seq (.set 3 (.lst .nil)) (.seq (.forS false [2] (.itr (.blt .sorted (.cons (.var 0) .nil))) (.seq (.ite (.tval (.cmp .In (.idx (.idx (.var 1) (.cst (.int 0))) (.cst (.int 0))) (.var 2))) (.seq (.expr (.app 3 (.tup (.cons (.var 2) (.cons (.cst (.str "left")) .nil))))) .nil) .nil) (.seq (.ite (.tval (.cmp .In (.idx (.idx (.var 1) (.neg (.cst (.int 1)))) (.cst (.int 1))) (.var 2))) (.seq (.expr (.app 3 (.tup (.cons (.var 2) (.cons (.cst (.str "right")) .nil))))) .nil) .nil) .nil))) (.seq (.ret (.blt .tuple (.cons (.var 3) .nil))) .nil))))
def libLawLaid : CS := (.seq (.ite (.tval (.cmp .Eq (.var 0) (.tup .nil))) (.seq (.ret (.tup (.cons (.var 1) .nil))) .nil) .nil) (.seq (.ite (.tval (.cmp .Eq (.var 2) (.cst (.str "left")))) (.seq (.ret (.bin .Add (.tup (.cons (.tup (.cons (.bin .Sub (.blt .sum (.cons (.var 1) .nil)) (.idx (.idx (.var 0) (.cst (.int 0))) (.cst (.int 0)))) (.cons (.idx (.idx (.var 0) (.cst (.int 0))) (.cst (.int 0))) .nil))) .nil)) (.var 0))) .nil) .nil) (.seq (.ret (.bin .Add (.var 0) (.tup (.cons (.tup (.cons (.idx (.idx (.var 0) (.neg (.cst (.int 1)))) (.cst (.int 1))) (.cons (.bin .Sub (.blt .sum (.cons (.var 1) .nil)) (.idx (.idx (.var 0) (.neg (.cst (.int 1)))) (.cst (.int 1)))) .nil))) .nil)))) .nil)))
def libLawPoints : CS := (.seq (.ret (.blt .sum (.cons (.lc false [1] (.itr (.var 0)) (.tval (.cst (.bool true))) (.blt .sum (.cons (.var 1) .nil))) .nil))) .nil)
def libIsOver : CS := (.seq (.unp [1, 2, 3, 4] (.var 0)) (.seq (.ret (.or (.cmp .In (.tup .nil) (.var 1)) (.cmp .Gt (.var 4) (.cst (.int 1))))) .nil))
def libSteps (iIsOver : Nat) (iMovesOn : Nat) : CS := (.seq (.unp [1, 2, 3, 4] (.var 0)) (.seq (.ite (.tval (.call iIsOver (.cons (.var 0) .nil))) (.seq (.ret (.tup .nil)) .nil) .nil) (.seq (.set 5 (.call iMovesOn (.cons (.idx (.var 1) (.var 3)) (.cons (.var 2) .nil)))) (.seq (.ite (.tnot (.tval (.var 5))) (.seq (.ret (.tup (.cons (.tup (.cons (.cst (.str "skip")) .nil)) .nil))) .nil) .nil) (.seq (.ret (.blt .tuple (.cons (.lc true [6, 7] (.itr (.var 5)) (.tval (.cst (.bool true))) (.tup (.cons (.cst (.str "lay")) (.cons (.var 6) (.cons (.var 7) .nil))))) .nil))) .nil)))))
def libDone (iWithMore : Nat) (iWithout : Nat) : CS := (.seq (.unp [2, 3, 4, 5] (.var 0)) (.seq (.ite (.tval (.cmp .Eq (.idx (.var 1) (.cst (.int 0))) (.cst (.str "skip")))) (.seq (.ret (.tup (.cons (.var 2) (.cons (.var 3) (.cons (.bin .Sub (.cst (.int 1)) (.var 4)) (.cons (.bin .Add (.var 5) (.cst (.int 1))) .nil)))))) .nil) .nil) (.seq (.set 6 (.call iWithout (.cons (.idx (.var 2) (.var 4)) (.cons (.idx (.var 1) (.cst (.int 1))) .nil)))) (.seq (.ite (.tval (.cmp .Eq (.var 4) (.cst (.int 0)))) (.seq (.set 2 (.tup (.cons (.var 6) (.cons (.idx (.var 2) (.cst (.int 1))) .nil)))) .nil) (.seq (.set 2 (.tup (.cons (.idx (.var 2) (.cst (.int 0))) (.cons (.var 6) .nil)))) .nil)) (.seq (.ret (.tup (.cons (.var 2) (.cons (.call iWithMore (.cons (.var 3) (.cons (.idx (.var 1) (.cst (.int 1))) (.cons (.idx (.var 1) (.cst (.int 2))) .nil)))) (.cons (.bin .Sub (.cst (.int 1)) (.var 4)) (.cons (.cst (.int 0)) .nil)))))) .nil)))))
def libAfter (iDone : Nat) (iSteps : Nat) : CS := (.seq (.ite (.tval (.cmp .NotIn (.var 1) (.call iSteps (.cons (.var 0) .nil)))) (.seq (.raise 1) .nil) .nil) (.seq (.ret (.call iDone (.cons (.var 0) (.cons (.var 1) .nil)))) .nil))
def libLawStand (iLawChain : Nat) (iLawMix : Nat) (iLawSome : Nat) : CS := (.seq (.set 2 (.call iLawChain (.cons (.bin .Add (.var 0) (.cst (.int 1))) (.cons (.cst (.int 3)) (.cons (.call iLawMix (.cons (.var 0) (.cons (.cst (.int 9661)) (.cons (.cst (.int 5)) .nil)))) .nil))))) (.seq (.set 3 (.lc false [4] (.itr (.var 2)) (.tval (.cst (.bool true))) (.blt .tuple (.cons (.blt .sorted (.cons (.var 4) .nil)) .nil)))) (.seq (.set 5 (.lc false [6] (.itr (.call iLawSome (.cons (.var 0) (.cons (.cst (.int 3)) (.cons (.cst (.int 10)) .nil))))) (.tval (.cmp .NotIn (.var 6) (.var 3))) (.var 6))) (.seq (.set 7 (.bin .Add (.cst (.int 1)) (.call iLawMix (.cons (.var 0) (.cons (.cst (.int 9649)) (.cons (.cst (.int 3)) .nil)))))) (.seq (.set 8 (.bin .Add (.cst (.int 1)) (.call iLawMix (.cons (.var 0) (.cons (.cst (.int 9643)) (.cons (.bin .Sub (.var 1) (.var 7)) .nil)))))) (.seq (.set 9 (.blt .tuple (.cons (.blt .sorted (.cons (.slc (.var 5) .nil (.cons (.var 7) .nil)) .nil)) .nil))) (.seq (.set 10 (.blt .tuple (.cons (.blt .sorted (.cons (.slc (.var 5) (.cons (.var 7) .nil) (.cons (.bin .Add (.var 7) (.var 8)) .nil)) .nil)) .nil))) (.seq (.ite (.tval (.cmp .Eq (.var 10) (.tup .nil))) (.seq (.ret (.tup (.cons (.tup (.cons (.slc (.var 9) .nil (.cons (.cst (.int 1)) .nil)) (.cons (.tup (.cons (.tup (.cons (.cst (.int 9)) (.cons (.cst (.int 9)) .nil))) .nil)) .nil))) (.cons (.var 2) (.cons (.bin .Mod (.var 0) (.cst (.int 2))) (.cons (.cst (.int 0)) .nil)))))) .nil) .nil) (.seq (.ret (.tup (.cons (.tup (.cons (.var 9) (.cons (.var 10) .nil))) (.cons (.var 2) (.cons (.bin .Mod (.var 0) (.cst (.int 2))) (.cons (.blt .int (.cons (.cmp .Eq (.call iLawMix (.cons (.var 0) (.cons (.cst (.int 9631)) (.cons (.cst (.int 6)) .nil)))) (.cst (.int 0))) .nil)) .nil)))))) .nil)))))))))
def libLawEnded : CS := (.seq (.ret (.or (.cmp .In (.tup .nil) (.idx (.var 0) (.cst (.int 0)))) (.cmp .Gt (.idx (.var 0) (.cst (.int 3))) (.cst (.int 1))))) .nil)
def libLawSteps (iLawEnded : Nat) (iLawMoves : Nat) : CS := (.seq (.ite (.tval (.call iLawEnded (.cons (.var 0) .nil))) (.seq (.ret (.tup .nil)) .nil) .nil) (.seq (.set 1 (.call iLawMoves (.cons (.idx (.idx (.var 0) (.cst (.int 0))) (.idx (.var 0) (.cst (.int 2)))) (.cons (.idx (.var 0) (.cst (.int 1))) .nil)))) (.seq (.ite (.tval (.cmp .Eq (.var 1) (.tup .nil))) (.seq (.ret (.tup (.cons (.tup (.cons (.cst (.str "skip")) .nil)) .nil))) .nil) .nil) (.seq (.ret (.blt .tuple (.cons (.lc false [2] (.itr (.var 1)) (.tval (.cst (.bool true))) (.bin .Add (.tup (.cons (.cst (.str "lay")) .nil)) (.var 2))) .nil))) .nil))))
def libLawAfter (iLawLaid : Nat) : CS := (.seq (.unp [2, 3, 4, 5] (.var 0)) (.seq (.ite (.tval (.cmp .Eq (.idx (.var 1) (.cst (.int 0))) (.cst (.str "skip")))) (.seq (.ret (.tup (.cons (.var 2) (.cons (.var 3) (.cons (.bin .Sub (.cst (.int 1)) (.var 4)) (.cons (.bin .Add (.var 5) (.cst (.int 1))) .nil)))))) .nil) .nil) (.seq (.set 6 (.lc true [8, 9] (.enm (.cons (.var 2) .nil)) (.tval (.cst (.bool true))) (.blt .tuple (.cons (.lc false [7] (.itr (.var 9)) (.tor (.tval (.cmp .NotEq (.var 7) (.idx (.var 1) (.cst (.int 1))))) (.tval (.cmp .NotEq (.var 8) (.var 4)))) (.var 7)) .nil)))) (.seq (.ret (.tup (.cons (.blt .tuple (.cons (.var 6) .nil)) (.cons (.call iLawLaid (.cons (.var 3) (.cons (.idx (.var 1) (.cst (.int 1))) (.cons (.idx (.var 1) (.cst (.int 2))) .nil)))) (.cons (.bin .Sub (.cst (.int 1)) (.var 4)) (.cons (.cst (.int 0)) .nil)))))) .nil))))
def libLawValue (iLawAfter : Nat) (iLawEnded : Nat) (iLawPoints : Nat) (iLawSteps : Nat) (iLawValue : Nat) : CS := (.seq (.ite (.tval (.call iLawEnded (.cons (.var 0) .nil))) (.seq (.ret (.bin .Sub (.call iLawPoints (.cons (.idx (.idx (.var 0) (.cst (.int 0))) (.cst (.int 1))) .nil)) (.call iLawPoints (.cons (.idx (.idx (.var 0) (.cst (.int 0))) (.cst (.int 0))) .nil)))) .nil) .nil) (.seq (.set 1 (.lc false [2] (.itr (.call iLawSteps (.cons (.var 0) .nil))) (.tval (.cst (.bool true))) (.call iLawValue (.cons (.call iLawAfter (.cons (.var 0) (.cons (.var 2) .nil))) .nil)))) (.seq (.ret (.idx (.lst (.cons (.blt .max (.cons (.var 1) .nil)) (.cons (.blt .min (.cons (.var 1) .nil)) .nil))) (.idx (.var 0) (.cst (.int 2))))) .nil)))
def pr (p : Int × Int) : PyData := .tuple [.int p.1, .int p.2]
def cell (ns : List Int) (k : Int) : Int := (ns[k.toNat]?).getD 0
def mix (c p m : Int) : Int := (c * 48271 % p) * (c * 48271 % p + 7) % p % m
theorem mix_lo {c p m : Int} (h : 0 < m) : 0 ≤ mix c p m := Int.emod_nonneg _ (by omega)
theorem mix_hi {c p m : Int} (h : 0 < m) : mix c p m < m := Int.emod_lt_of_pos _ h
theorem atI_nat {α : Type} {xs : List α} {i : Nat} {x : α} (h : xs[i]? = some x) : L2.atI xs (i : Int) = some x := L2.atI_nat h
theorem atI_of {α : Type} {xs : List α} {i : Int} {x : α} (h0 : 0 ≤ i) (h : xs[i.toNat]? = some x) : L2.atI xs i = some x := by
  have := atI_nat h
  rwa [Int.toNat_of_nonneg h0] at this
@[simp] theorem atI_zero {α : Type} (x : α) (xs : List α) : L2.atI (x :: xs) 0 = some x := atI_of (by omega) rfl
@[simp] theorem atI_one {α : Type} (x y : α) (xs : List α) : L2.atI (x :: y :: xs) 1 = some y := atI_of (by omega) rfl
theorem atI_last {α : Type} {xs : List α} {x : α} (h : xs.getLast? = some x) : L2.atI xs (-1) = some x := by
  have hl : 0 < xs.length := by cases xs with
    | nil => cases h
    | cons _ _ => simp
  unfold L2.atI L2.ixN
  rw [if_neg (by omega), if_pos (by omega)]
  show xs[((-1 : Int) + (xs.length : Int)).toNat]? = some x
  rw [show ((-1 : Int) + (xs.length : Int)).toNat = xs.length - 1 by omega, ← List.getLast?_eq_getElem?]
  exact h
section
variable {T : List FD} {i n : Nat}
theorem r_cell {ns : List Int} {k : Int} (h : T[i]? = some ⟨2, 2, libLawCell⟩) (hk : 0 ≤ k) : run T (n + 1) i [scrD ns, .int k] = .ret (.fz (.int (cell ns k))) := by
  rw [run_def h rfl]
  simp [libLawCell, ini]
  by_cases c : k < (ns.length : Int)
  · have hx : L2.atI (ns.map PyData.int) k = some (.int (cell ns k)) := atI_of hk (by
      have hk2 : k.toNat < ns.length := by omega
      rw [List.getElem?_map, List.getElem?_eq_getElem hk2]
      simp [cell, List.getElem?_eq_getElem hk2])
    simp [c, hx]
  · have e : cell ns k = 0 := by
      unfold cell
      rw [List.getElem?_eq_none (by omega)]
      rfl
    simp [c, e]
theorem r_mix {c p m : Int} (h : T[i]? = some ⟨3, 4, libLawMix⟩) (hp : 0 < p) (hp2 : p < 2 ^ 60) (hm : 0 < m) : run T (n + 1) i [.int c, .int p, .int m] = .ret (.fz (.int (mix c p m))) := by
  rw [run_def h rfl]
  have h1 := Int.emod_nonneg (c * 48271) (show p ≠ 0 by omega)
  have h2 := Int.emod_lt_of_pos (c * 48271) hp
  have m1 : binD .Mult (.int c) (.int 48271) = some (.fz (.int (c * 48271))) := bin_mul (mulOk_r (by omega) (by omega))
  have m2 : binD .Mult (.int (c * 48271 % p)) (.int (c * 48271 % p + 7)) = some (.fz (.int ((c * 48271 % p) * (c * 48271 % p + 7)))) := bin_mul (mulOk_l (by omega) (by omega))
  simp [libLawMix, ini, m1, m2, bin_mod hp, bin_mod hm, mix]
/-- data that _law_same takes for the same as itself -/
inductive Pl : Nat → PyData → Prop
  | none (k : Nat) : Pl k .none
  | bool (k : Nat) (b : Bool) : Pl k (.bool b)
  | int (k : Nat) (i : Int) : Pl k (.int i)
  | str (k : Nat) (s : Str) : SeqAt.shaped (.str s) = true → Pl k (.str s)
  | tup (k : Nat) (ds : List PyData) : (∀ d ∈ ds, Pl k d) → Pl (k + 1) (.tuple ds)
theorem mem_zip_self {α : Type} : ∀ {xs : List α} {p : α × α}, p ∈ xs.zip xs → p.1 ∈ xs ∧ p.2 = p.1
  | x :: xs, p, h => by
    rw [List.zip_cons_cons, List.mem_cons] at h
    rcases h with rfl | h
    · exact ⟨List.mem_cons_self .., rfl⟩
    · exact ⟨List.mem_cons_of_mem _ (mem_zip_self h).1, (mem_zip_self h).2⟩
@[simp] theorem shaped_bool (b : Bool) : SeqAt.shaped (.bool b) = true := rfl
@[simp] theorem shaped_none : SeqAt.shaped .none = true := rfl
@[simp] theorem eqD_bool (a b : Bool) : eqD (.bool a) (.bool b) = some (a == b) := rfl
theorem eqD_str {a b : Str} (h : SeqAt.shaped (.str a) = true) (h2 : SeqAt.shaped (.str b) = true) : eqD (.str a) (.str b) = some (a == b) := by
  show (if SeqAt.shaped (.str a) && SeqAt.shaped (.str b) then some (PyData.eqv (.str a) (.str b)) else none) = _
  rw [h, h2]
  simp [PyData.eqv]
@[simp] theorem zip_tuple (a b : List PyData) : zipD [.tuple a, .tuple b] = some ((a.zip b).map fun p => .tuple [p.1, p.2]) := rfl
@[simp] theorem zip_list (a b : List PyData) : zipD [.list a, .list b] = some ((a.zip b).map fun p => .tuple [p.1, p.2]) := rfl
@[simp] theorem hid_zip (es : CE) : hidOf (.zip es) = [] := rfl
@[simp] theorem hid_rng (es : CE) : hidOf (.rng es) = [] := rfl
@[simp] theorem hid_enm (es : CE) : hidOf (.enm es) = [] := rfl
@[simp] theorem hid_var (i : Nat) : hidOf (.itr (.var i)) = [i] := rfl
@[simp] theorem hid_rev (i : CE) : hidOf (.itr (.rev i)) = [] := rfl
@[simp] theorem hid_call (f : Nat) (i : CE) : hidOf (.itr (.call f i)) = [] := rfl
@[simp] theorem wip_nil (r : EV) : wip r [] = r := rfl
@[simp] theorem wip_cons (r : EV) (i : Nat) (is : List Nat) : wip r (i :: is) = (wip r is).set i none := rfl
@[simp] theorem rst_nil (r0 r : EV) : rst r0 r [] = r := rfl
@[simp] theorem rst_cons (r0 r : EV) (i : Nat) (is : List Nat) : rst r0 r (i :: is) = (rst r0 r is).set i (getS r0 i) := rfl
@[simp] theorem setT_one (i : Nat) (d : PyData) (r : EV) : setT false [i] d r = some (r.set i (some (.fz d))) := rfl
@[simp] theorem setT_two (i j : Nat) (a b : PyData) (r : EV) : setT true [i, j] (.tuple [a, b]) r = some ((r.set i (some (.fz a))).set j (some (.fz b))) := rfl
theorem bools_map {α : Type} (f : α → PyData) (g : α → Bool) (h : ∀ x, f x = .bool (g x)) (xs : List α) : boolsD (xs.map f) = some (xs.map g) := by
  have q := boolsD_map (xs.map g)
  rw [List.map_map] at q
  rwa [show f = PyData.bool ∘ g from funext h]
theorem r_same {i : Nat} (h : T[i]? = some ⟨2, 4, libLawSame i⟩) : ∀ {k n : Nat} {d : PyData}, Pl k d → run T (n + k + 1) i [d, d] = .ret (.fz (.bool true))
  | k, n, _, .none _ => by rw [run_def h rfl]; simp [libLawSame, ini]
  | k, n, _, .bool _ b => by rw [run_def h rfl]; simp [libLawSame, ini]
  | k, n, _, .int _ b => by rw [run_def h rfl]; simp [libLawSame, ini]
  | k, n, _, .str _ b hb => by rw [run_def h rfl]; simp [libLawSame, ini, eqD_str hb hb]
  | _, n, _, .tup k ds hd => by
    rw [run_def h rfl]
    have ih : ∀ d ∈ ds, run T (n + k + 1) i [d, d] = .ret (.fz (.bool true)) := fun d m => r_same h (hd d m)
    have lp := lc_map (tup := true) (tg := [2, 3]) (hid := [2, 3]) (c := evT (run T (n + (k + 1))) (.tval (.cst (.bool true)))) (e := ev (run T (n + (k + 1))) (.call i (.cons (.var 2) (.cons (.var 3) .nil)))) (r := [some (.fz (.tuple ds)), some (.fz (.tuple ds)), none, none])
      (ds := (ds.zip ds).map fun p => PyData.tuple [p.1, p.2]) (acc := []) (fun _ => .bool true) (fun d m => by
        obtain ⟨p, mm, rfl⟩ := List.mem_map.mp m
        obtain ⟨m1, m2⟩ := mem_zip_self mm
        simp [itemO_two, m2, show n + (k + 1) = n + k + 1 by omega, ih _ m1])
    have bb := bools_map ((fun _ => PyData.bool true) ∘ fun (p : PyData × PyData) => PyData.tuple [p.1, p.2]) (fun _ => true) (fun _ => rfl) (ds.zip ds)
    simp [libLawSame, ini, lp, bb]
/-! ### chains as data -/
def prs (ps : List (Int × Int)) : List PyData := ps.map pr
def swp2 (p : Int × Int) : Int × Int := (p.2, p.1)
def turn (ps : List (Int × Int)) : List (Int × Int) := ps.reverse.map swp2
@[simp] theorem prs_nil : prs [] = [] := rfl
@[simp] theorem prs_cons (p : Int × Int) (ps : List (Int × Int)) : prs (p :: ps) = pr p :: prs ps := rfl
@[simp] theorem prs_len (ps : List (Int × Int)) : (prs ps).length = ps.length := by simp [prs]
theorem prs_last {ps : List (Int × Int)} {p : Int × Int} (h : ps.getLast? = some p) : (prs ps).getLast? = some (pr p) := by simp [prs, h]
@[simp] theorem items_pr (p : Int × Int) : itemsD (pr p) = some [.int p.1, .int p.2] := rfl
@[simp] theorem len_pr (p : Int × Int) : lenD (pr p) = some 2 := rfl
theorem shaped_pr (p : Int × Int) : SeqAt.shaped (pr p) = true := rfl
@[simp] theorem idx_pr0 (p : Int × Int) : idxD (pr p) (.int 0) = some (.int p.1) := rfl
@[simp] theorem idx_pr1 (p : Int × Int) : idxD (pr p) (.int 1) = some (.int p.2) := rfl
theorem r_turned {ps : List (Int × Int)} (h : T[i]? = some ⟨1, 2, libTurned⟩) : run T (n + 1) i [.tuple (prs ps)] = .ret (.fz (.tuple (prs (turn ps)))) := by
  rw [run_def h rfl]
  have lp := lc_map (tup := false) (tg := [1]) (hid := [1]) (c := evT (run T n) (.tval (.cst (.bool true)))) (e := ev (run T n) (.tup (.cons (.idx (.var 1) (.cst (.int 1))) (.cons (.idx (.var 1) (.cst (.int 0))) .nil)))) (r := [some (.fz (.tuple (prs ps))), none]) (ds := (prs ps).reverse) (acc := [])
    (fun d => match d with | .tuple [a, b] => .tuple [b, a] | d => d) (fun d m => by
      obtain ⟨p, mm, rfl⟩ := List.mem_map.mp (List.mem_reverse.mp m)
      simp [itemO_one, pr])
  have e : (prs ps).reverse.map (fun d => match d with | .tuple [a, b] => .tuple [b, a] | d => d) = prs (turn ps) := by
    unfold prs turn
    rw [← List.map_reverse, List.map_map, List.map_map]
    rfl
  simp [libTurned, ini, lp, e]
def cntE (p : Int × Int) (x : Int) : Int := if p.1 = p.2 then 2 * x else x
theorem r_count {p : Int × Int} {x : Int} (h : T[i]? = some ⟨2, 2, libCountEnd⟩) : run T (n + 1) i [pr p, .int x] = .ret (.fz (.int (cntE p x))) := by
  rw [run_def h rfl]
  have m : binD .Mult (.int 2) (.int x) = some (.fz (.int (2 * x))) := bin_mul (mulOk_l (by omega) (by omega))
  by_cases c : p.1 = p.2 <;> simp [libCountEnd, ini, pr, cntE, c, m]
def five (x : Int) : Int := if x % 5 = 0 then x else 0
def lastP (ps : List (Int × Int)) : Int × Int := ps.getLast?.getD (0, 0)
theorem lastP_of {ps : List (Int × Int)} (h : ps ≠ []) : ps.getLast? = some (lastP ps) := by
  unfold lastP
  cases q : ps.getLast? with
  | none => exact absurd (List.getLast?_eq_none_iff.mp q) h
  | some x => rfl
/-- what fives counts -/
def fvs : List (Int × Int) → Int
  | [] => 0
  | [p] => five (p.1 + p.2)
  | p :: q :: r => five (cntE p p.1 + cntE (lastP (p :: q :: r)) (lastP (p :: q :: r)).2)
theorem r_fives {c : Nat} {ps : List (Int × Int)} (h : T[i]? = some ⟨1, 2, libFives c⟩) (hc : T[c]? = some ⟨2, 2, libCountEnd⟩) : run T (n + 2) i [.tuple (prs ps)] = .ret (.fz (.int (fvs ps))) := by
  rw [run_def h rfl]
  match ps with
  | [] => simp [libFives, ini, fvs]
  | [p] =>
    have m : binD .Mod (.int (p.1 + p.2)) (.int 5) = some (.fz (.int ((p.1 + p.2) % 5))) := bin_mod (by omega)
    by_cases c5 : (p.1 + p.2) % 5 = 0 <;> simp [libFives, ini, fvs, pr, m, five, c5]
  | p :: q :: r =>
    have al : L2.atI (prs (p :: q :: r)) (-1) = some (pr (lastP (p :: q :: r))) := atI_last (prs_last (lastP_of (by simp)))
    show _ = Rt.ret (.fz (.int (five (cntE p p.1 + cntE (lastP (p :: q :: r)) (lastP (p :: q :: r)).2))))
    generalize lastP (p :: q :: r) = z at al
    have r1 := r_count (n := n) (p := p) (x := p.1) hc
    have r2 := r_count (n := n) (p := z) (x := z.2) hc
    have m : binD .Mod (.int (cntE p p.1 + cntE z z.2)) (.int 5) = some (.fz (.int ((cntE p p.1 + cntE z z.2) % 5))) := bin_mod (by omega)
    rw [prs_cons, prs_cons] at al
    have c1 : (1 : Int) < (r.length : Int) + 1 + 1 := by omega
    by_cases c5 : (cntE p p.1 + cntE z z.2) % 5 = 0 <;> simp [libFives, ini, al, r1, r2, m, five, c5, c1]
/-! ### all stones -/
def rowP (m : Int) (lo : Nat) : List (Int × Int) := (List.range (m + 1 - lo).toNat).map fun (k : Nat) => ((lo : Int), (lo : Int) + k)
def allP (m : Int) : List (Int × Int) := (List.range (m + 1).toNat).flatMap (rowP m)
theorem rowP_len (m : Int) (lo : Nat) : (rowP m lo).length = (m + 1 - lo).toNat := by simp [rowP]
theorem rowsP_len {m : Int} (h : m ≤ 1000) : ∀ k : Nat, ((List.range k).flatMap (rowP m)).length ≤ 1001 * k
  | 0 => by simp
  | k + 1 => by
    have := rowsP_len h k
    have z := rowP_len m k
    rw [List.range_succ, List.flatMap_append, List.length_append, List.flatMap_singleton]
    omega
theorem prs_app (a b : List (Int × Int)) : prs (a ++ b) = prs a ++ prs b := by simp [prs]
theorem prs_one (p : Int × Int) : prs [p] = [pr p] := rfl
theorem range_item {α : Type} {N k : Nat} {f : Nat → α} {d : α} (h : ((List.range N).map f)[k]? = some d) : k < N ∧ d = f k := by
  rw [List.getElem?_map] at h
  cases q : (List.range N)[k]? with
  | none => rw [q] at h; cases h
  | some z =>
    have hk : k < N := by have := (List.getElem?_eq_some_iff.mp q).1; simpa using this
    rw [List.getElem?_range hk] at h
    cases h
    exact ⟨hk, rfl⟩
theorem r_all {m : Int} (h : T[i]? = some ⟨1, 4, libLawAll⟩) (h0 : -1 ≤ m) (h1 : m ≤ 1000) : run T (n + 1) i [.int m] = .ret (.ol (prs (allP m))) := by
  rw [run_def h rfl]
  obtain ⟨r', e1, x, y, e2⟩ := for_inv (tup := false) (tg := [2]) (body := exec (run T n) (.seq (.forS false [3] (.rng (.cons (.var 2) (.cons (.bin .Add (.var 0) (.cst (.int 1))) .nil))) (.seq (.expr (.app 1 (.tup (.cons (.var 2) (.cons (.var 3) .nil))))) .nil)) .nil))
    (fun k r => ∃ x y, r = [some (.fz (.int m)), some (.ol (prs ((List.range k).flatMap (rowP m)))), x, y]) ((List.range (m + 1).toNat).map fun (k : Nat) => PyData.int k) 0 [some (.fz (.int m)), some (.ol []), none, none] ⟨none, none, rfl⟩ (fun k d r hd hi => by
      obtain ⟨x, y, rfl⟩ := hi
      obtain ⟨hk, rfl⟩ := range_item hd
      rw [Nat.zero_add]
      obtain ⟨r', e1, z, e2⟩ := for_inv (tup := false) (tg := [3]) (body := exec (run T n) (.seq (.expr (.app 1 (.tup (.cons (.var 2) (.cons (.var 3) .nil))))) .nil))
        (fun j r => ∃ z, r = [some (.fz (.int m)), some (.ol (prs ((List.range k).flatMap (rowP m) ++ (rowP m k).take j))), some (.fz (.int k)), z]) ((List.range (m + 1 - k).toNat).map fun (j : Nat) => PyData.int (k + j)) 0 [some (.fz (.int m)), some (.ol (prs ((List.range k).flatMap (rowP m)))), some (.fz (.int k)), y] ⟨y, by simp⟩ (fun j d r hd hi => by
          obtain ⟨z, rfl⟩ := hi
          obtain ⟨hj, rfl⟩ := range_item hd
          rw [Nat.zero_add]
          have el : (rowP m k).take (j + 1) = (rowP m k).take j ++ [((k : Int), (k : Int) + j)] := by
            rw [List.take_add_one]
            congr 1
            unfold rowP
            rw [List.getElem?_map, List.getElem?_range hj]
            rfl
          have z1 := rowsP_len h1 k
          have z2 : ((rowP m k).take j).length ≤ 1001 := by
            have := rowP_len m k
            rw [List.length_take]
            omega
          have sz : (prs ((List.range k).flatMap (rowP m) ++ (rowP m k).take j)).length < sizeLine := by
            rw [prs_len, List.length_append]
            show _ < 16777216
            omega
          refine ⟨_, _, rfl, .inl ?_, some (.fz (.int (k + j))), rfl⟩
          rw [el, ← List.append_assoc, prs_app _ [_]]
          simp [appD_ol (i := 1) (r := [some (.fz (.int m)), some (.ol (prs ((List.range k).flatMap (rowP m) ++ (rowP m k).take j))), some (.fz (.int k)), some (.fz (.int (k + j)))]) rfl sz]
          rfl)
      refine ⟨_, r', rfl, .inl ?_, some (.fz (.int k)), z, ?_⟩
      · have rg : rngD [.int k, .int (m + 1)] = some ((List.range (m + 1 - k).toNat).map fun (i : Nat) => PyData.int (k + i)) := rng2 (by omega) (by omega) (by omega) (by omega)
        simp [rg]
        rw [show (m + 1).toNat - k = (m + 1 - k).toNat by omega, e1]
        rfl
      · rw [e2, List.length_map, List.length_range, Nat.zero_add, List.take_of_length_le (by rw [rowP_len]; omega), List.range_succ, List.flatMap_append]
        simp)
  have rg : rngD [.int (m + 1)] = some ((List.range (m + 1).toNat).map fun (i : Nat) => PyData.int i) := rng1 (by omega) (by omega)
  rw [List.length_map, List.length_range, Nat.zero_add] at e2
  simp [libLawAll, ini, rg, e1, e2]
  rfl
/-! ### drawn chains -/
def stn (p : Int × Int) : Int × Int := (min p.1 p.2, max p.1 p.2)
theorem prs_lay : ∀ us : List (Int × Int), PyData.canLayAll0 (prs us) = true
  | [] => rfl
  | p :: us => by
    show (PyData.canLay0 (pr p) && PyData.canLayAll0 (prs us)) = true
    rw [prs_lay us]
    rfl
theorem prs_depth : ∀ us : List (Int × Int), PyData.depthAll (prs us) ≤ 10
  | [] => by decide
  | p :: us => by
    have := prs_depth us
    have h2 : PyData.depth (pr p) ≤ 10 := by simp [pr, PyData.depth, PyData.depthAll]
    show max (PyData.depth (pr p)) (PyData.depthAll (prs us)) ≤ 10
    omega
theorem shaped_prs (us : List (Int × Int)) : SeqAt.shaped (.list (prs us)) = true := by
  have := prs_depth us
  unfold SeqAt.shaped
  rw [Bool.and_eq_true_iff]
  refine ⟨prs_lay us, ?_⟩
  have e : PyData.depth (.list (prs us)) = PyData.depthAll (prs us) + 1 := by simp [PyData.depth]
  rw [e, decide_eq_true_eq]
  omega
theorem eqv_pr (p q : Int × Int) : PyData.eqv (pr p) (pr q) = decide (p = q) := by
  obtain ⟨a, b⟩ := p
  obtain ⟨c, d⟩ := q
  simp [pr, PyData.eqv, PyData.eqvAll]
  rfl
theorem any_pr (p : Int × Int) : ∀ us : List (Int × Int), ((prs us).any fun z => PyData.eqv z (pr p)) = decide (p ∈ us)
  | [] => rfl
  | q :: us => by
    rw [prs_cons, List.any_cons, any_pr p us, eqv_pr]
    by_cases h : q = p
    · simp [h]
    · have h2 : ¬ p = q := fun e => h e.symm
      simp [h, h2]
theorem inD_prs (p : Int × Int) (us : List (Int × Int)) : inD (pr p) (.list (prs us)) = some (decide (p ∈ us)) := by
  show (if SeqAt.shaped (pr p) && SeqAt.shaped (.list (prs us)) then some ((prs us).any fun z => PyData.eqv z (pr p)) else none) = _
  rw [shaped_pr, shaped_prs, any_pr]
  rfl
theorem shapedT_prs (us : List (Int × Int)) : SeqAt.shaped (.tuple (prs us)) = true := by
  have := prs_depth us
  unfold SeqAt.shaped
  rw [Bool.and_eq_true_iff]
  refine ⟨prs_lay us, ?_⟩
  have e : PyData.depth (.tuple (prs us)) = PyData.depthAll (prs us) + 1 := by simp [PyData.depth]
  rw [e, decide_eq_true_eq]
  omega
theorem eqvAll_prs : ∀ a b : List (Int × Int), PyData.eqvAll (prs a) (prs b) = decide (a = b)
  | [], [] => rfl
  | [], _ :: _ => rfl
  | _ :: _, [] => rfl
  | p :: a, q :: b => by
    show (PyData.eqv (pr p) (pr q) && PyData.eqvAll (prs a) (prs b)) = _
    rw [eqv_pr, eqvAll_prs a b]
    simp
theorem eqD_prs (a b : List (Int × Int)) : eqD (.tuple (prs a)) (.tuple (prs b)) = some (decide (a = b)) := by
  show (if SeqAt.shaped (.tuple (prs a)) && SeqAt.shaped (.tuple (prs b)) then some (PyData.eqvAll (prs a) (prs b)) else none) = _
  rw [shapedT_prs, shapedT_prs, eqvAll_prs]
  rfl
structure Chn (m : Int) (ps : List (Int × Int)) : Prop where
  rng : ∀ p ∈ ps, 0 ≤ p.1 ∧ p.1 ≤ m ∧ 0 ≤ p.2 ∧ p.2 ≤ m
  join : ∀ (i : Nat) (p q : Int × Int), ps[i]? = some p → ps[i + 1]? = some q → p.2 = q.1
  nd : (ps.map stn).Nodup
theorem Chn.nil (m : Int) : Chn m [] := ⟨(fun _ h => nomatch h), (fun i p q h => by simp at h), List.nodup_nil⟩
theorem Chn.snoc {m : Int} {ps : List (Int × Int)} {a b : Int} (h : Chn m ps) (ha : 0 ≤ a ∧ a ≤ m) (hb : 0 ≤ b ∧ b ≤ m) (hj : ∀ p, ps.getLast? = some p → p.2 = a) (hn : stn (a, b) ∉ ps.map stn) : Chn m (ps ++ [(a, b)]) := by
  refine ⟨fun p hp => ?_, fun i p q h1 h2 => ?_, ?_⟩
  · rcases List.mem_append.mp hp with hp | hp
    · exact h.rng p hp
    · rw [List.mem_singleton] at hp
      subst hp
      exact ⟨ha.1, ha.2, hb.1, hb.2⟩
  · have hl := (List.getElem?_eq_some_iff.mp h2).1
    rw [List.length_append, List.length_singleton] at hl
    by_cases c : i + 1 < ps.length
    · rw [List.getElem?_append_left c] at h2
      rw [List.getElem?_append_left (by omega)] at h1
      exact h.join i p q h1 h2
    · have c2 : i + 1 = ps.length := by omega
      rw [List.getElem?_append_left (by omega)] at h1
      rw [List.getElem?_append_right (by omega), c2, Nat.sub_self] at h2
      simp at h2
      subst h2
      refine hj p ?_
      rw [List.getLast?_eq_getElem?, ← c2]
      exact h1
  · rw [List.map_append, List.map_singleton]
    rw [List.nodup_append]
    refine ⟨h.nd, by simp, fun x hx y hy => ?_⟩
    rw [List.mem_singleton] at hy
    subst hy
    exact fun e => hn (e ▸ hx)
/-- the numbers that _law_chain may take next -/
def nxt (m last : Int) (ps : List (Int × Int)) : List Int := ((List.range (m + 1).toNat).map fun (k : Nat) => (k : Int)).filter fun x => decide (stn (last, x) ∉ ps.map stn)
theorem mem_nxt {m last x : Int} {ps : List (Int × Int)} (h : x ∈ nxt m last ps) : 0 ≤ x ∧ x ≤ m ∧ stn (last, x) ∉ ps.map stn := by
  unfold nxt at h
  rw [List.mem_filter, List.mem_map] at h
  obtain ⟨⟨k, h1, rfl⟩, h2⟩ := h
  rw [List.mem_range] at h1
  exact ⟨by omega, by omega, of_decide_eq_true h2⟩
theorem fm_int (P : Int → Prop) [DecidablePred P] : ∀ xs : List Int, (xs.map PyData.int).filterMap (fun d => match d with | .int x => if P x then none else some (.int x) | _ => none) = (xs.filter fun x => decide (¬ P x)).map PyData.int
  | [] => rfl
  | x :: xs => by
    rw [List.map_cons]
    by_cases h : P x
    · rw [List.filterMap_cons_none (by simp [h]), fm_int P xs, List.filter_cons_of_neg (by simp [h])]
    · rw [List.filterMap_cons_some (b := .int x) (by simp [h]), fm_int P xs, List.filter_cons_of_pos (by simp [h])]
      rfl
theorem nxt_ne {m last : Int} (h : 0 ≤ m) : nxt m last [] ≠ [] := by
  unfold nxt
  intro e
  rw [List.filter_eq_nil_iff] at e
  have := e 0 (List.mem_map.mpr ⟨0, List.mem_range.mpr (by omega), rfl⟩)
  simp at this
theorem r_chainN {g : Nat} {c m k : Int} (h : T[i]? = some ⟨3, 10, libLawChain g⟩) (hg : T[g]? = some ⟨3, 4, libLawMix⟩) (h0 : 0 ≤ m) (h1 : m ≤ 1000) (hk : 0 ≤ k) (hk2 : k ≤ 1000) :
    ∃ ps, run T (n + 2) i [.int c, .int m, .int k] = .ret (.fz (.tuple (prs ps))) ∧ Chn m ps ∧ (ps.length : Int) ≤ k ∧ (0 < k → ps ≠ []) := by
  rw [run_def h rfl]
  obtain ⟨r', e1, ps, x5, x6, x7, x9, e2, e3, e4, e5⟩ := for_inv (tup := false) (tg := [5]) (body := exec (run T (n + 1)) (.seq (.set 6 (.ite (.tval (.var 3)) (.idx (.idx (.var 3) (.neg (.cst (.int 1)))) (.cst (.int 1))) (.call g (.cons (.var 0) (.cons (.cst (.int 9967)) (.cons (.bin .Add (.var 1) (.cst (.int 1))) .nil)))))) (.seq (.set 7 (.lc false [8] (.rng (.cons (.bin .Add (.var 1) (.cst (.int 1))) .nil)) (.tval (.cmp .NotIn (.tup (.cons (.blt .min (.cons (.var 6) (.cons (.var 8) .nil))) (.cons (.blt .max (.cons (.var 6) (.cons (.var 8) .nil))) .nil))) (.var 4))) (.var 8))) (.seq (.ite (.tval (.var 7)) (.seq (.set 9 (.idx (.var 7) (.call g (.cons (.bin .Add (.var 0) (.bin .Mult (.cst (.int 11)) (.var 5))) (.cons (.cst (.int 9949)) (.cons (.blt .len (.cons (.var 7) .nil)) .nil)))))) (.seq (.expr (.app 4 (.tup (.cons (.blt .min (.cons (.var 6) (.cons (.var 9) .nil))) (.cons (.blt .max (.cons (.var 6) (.cons (.var 9) .nil))) .nil))))) (.seq (.expr (.app 3 (.tup (.cons (.var 6) (.cons (.var 9) .nil))))) .nil))) .nil) .nil))))
    (fun j r => ∃ ps x5 x6 x7 x9, r = [some (.fz (.int c)), some (.fz (.int m)), some (.fz (.int k)), some (.ol (prs ps)), some (.ol (prs (ps.map stn))), x5, x6, x7, none, x9] ∧ Chn m ps ∧ ps.length ≤ j ∧ (0 < j → ps ≠ [])) ((List.range k.toNat).map fun (j : Nat) => PyData.int j) 0
    [some (.fz (.int c)), some (.fz (.int m)), some (.fz (.int k)), some (.ol []), some (.ol []), none, none, none, none, none] ⟨[], none, none, none, none, rfl, Chn.nil m, Nat.le_refl 0, fun h => absurd h (by omega)⟩ (fun j d r hd hi => by
      obtain ⟨ps, x5, x6, x7, x9, rfl, hc, hl, hne⟩ := hi
      obtain ⟨hj, rfl⟩ := range_item hd
      rw [Nat.zero_add] at hl ⊢
      -- the last number
      obtain ⟨last, hl1, hl2, hl3⟩ : ∃ last : Int, (0 ≤ last ∧ last ≤ m) ∧ (∀ p, ps.getLast? = some p → p.2 = last) ∧ ∀ z, ev (run T (n + 1)) (.ite (.tval (.var 3)) (.idx (.idx (.var 3) (.neg (.cst (.int 1)))) (.cst (.int 1))) (.call g (.cons (.var 0) (.cons (.cst (.int 9967)) (.cons (.bin .Add (.var 1) (.cst (.int 1))) .nil)))))
          [some (.fz (.int c)), some (.fz (.int m)), some (.fz (.int k)), some (.ol (prs ps)), some (.ol (prs (ps.map stn))), z, x6, x7, none, x9] = .ok (.fz (.int last)) [some (.fz (.int c)), some (.fz (.int m)), some (.fz (.int k)), some (.ol (prs ps)), some (.ol (prs (ps.map stn))), z, x6, x7, none, x9] := by
        cases ps with
        | nil =>
          refine ⟨mix c 9967 (m + 1), ⟨mix_lo (by omega), by have := mix_hi (c := c) (p := 9967) (m := m + 1) (by omega); omega⟩, fun p hp => by simp at hp, fun z => ?_⟩
          have rm := r_mix (n := n) (c := c) (p := 9967) (m := m + 1) hg (by omega) (by omega) (by omega)
          simp [rm]
        | cons p r =>
          have hp := lastP_of (ps := p :: r) (by simp)
          have hm := List.mem_of_getLast? hp
          have al : L2.atI (prs (p :: r)) (-1) = some (pr (lastP (p :: r))) := atI_last (prs_last hp)
          refine ⟨(lastP (p :: r)).2, ⟨(hc.rng _ hm).2.2.1, (hc.rng _ hm).2.2.2⟩, fun p hp' => by rw [hp] at hp'; cases hp'; rfl, fun z => ?_⟩
          rw [prs_cons] at al ⊢
          simp [al]
      have rg : rngD [.int (m + 1)] = some ((List.range (m + 1).toNat).map fun (i : Nat) => PyData.int i) := rng1 (by omega) (by omega)
      have lp := fun hid => lc_go (tup := false) (tg := [8]) (hid := hid) (c := evT (run T (n + 1)) (.tval (.cmp .NotIn (.tup (.cons (.blt .min (.cons (.var 6) (.cons (.var 8) .nil))) (.cons (.blt .max (.cons (.var 6) (.cons (.var 8) .nil))) .nil))) (.var 4)))) (e := ev (run T (n + 1)) (.var 8)) (r := [some (.fz (.int c)), some (.fz (.int m)), some (.fz (.int k)), some (.ol (prs ps)), some (.ol (prs (ps.map stn))), some (.fz (.int j)), some (.fz (.int last)), x7, none, x9])
        (f := fun d => match d with | .int x => if stn (last, x) ∈ ps.map stn then none else some (.int x) | _ => none) ((List.range (m + 1).toNat).map fun (i : Nat) => PyData.int i) [] (fun d hd => by
          obtain ⟨x, _, rfl⟩ := List.mem_map.mp hd
          have ii := inD_prs (stn (last, x)) (ps.map stn)
          simp only [pr, stn] at ii
          by_cases hin : stn (last, (x : Int)) ∈ ps.map stn
          · have h2 := hin
            simp only [stn] at h2
            simp [itemO_one, ii, hin, h2]
          · have h2 := hin
            simp only [stn] at h2
            simp [itemO_one, ii, hin, h2])
      have e3 := fm_int (fun x => stn (last, x) ∈ ps.map stn) ((List.range (m + 1).toNat).map fun (k : Nat) => (k : Int))
      rw [List.map_map] at e3
      have e3' : ((List.range (m + 1).toNat).map fun (i : Nat) => PyData.int i).filterMap (fun d => match d with | .int x => if stn (last, x) ∈ ps.map stn then none else some (.int x) | _ => none) = (nxt m last ps).map PyData.int := e3
      rw [e3'] at lp
      have z1 : (prs ps).length < sizeLine := by
        rw [prs_len]
        show _ < 16777216
        omega
      have z2 : (prs (ps.map stn)).length < sizeLine := by
        rw [prs_len, List.length_map]
        show _ < 16777216
        omega
      cases hn : nxt m last ps with
      | nil =>
        rw [hn] at lp
        refine ⟨_, _, rfl, .inl ?_, ps, some (.fz (.int j)), some (.fz (.int last)), some (.ol []), x9, rfl, hc, by omega, fun _ e => nxt_ne h0 (e ▸ hn)⟩
        simp [hl3, rg, lp]
      | cons y ys =>
        have hlen : 0 < (nxt m last ps).length := by rw [hn]; simp
        have b1 := mix_lo (c := c + 11 * j) (p := 9949) (m := ((nxt m last ps).length : Int)) (by omega)
        have b2 := mix_hi (c := c + 11 * j) (p := 9949) (m := ((nxt m last ps).length : Int)) (by omega)
        have rm := r_mix (n := n) (c := c + 11 * j) (p := 9949) (m := ((nxt m last ps).length : Int)) hg (by omega) (by omega) (by omega)
        generalize mix (c + 11 * j) 9949 ((nxt m last ps).length : Int) = ix at *
        obtain ⟨o, ho⟩ : ∃ o, (nxt m last ps)[ix.toNat]? = some o := ⟨_, List.getElem?_eq_getElem (by omega)⟩
        obtain ⟨o1, o2, o3⟩ := mem_nxt (List.mem_of_getElem? ho)
        have ao : L2.atI ((nxt m last ps).map PyData.int) ix = some (.int o) := atI_of b1 (by rw [List.getElem?_map, ho]; rfl)
        have mm : binD .Mult (.int 11) (.int j) = some (.fz (.int (11 * j))) := bin_mul (mulOk_l (by omega) (by omega))
        refine ⟨_, _, rfl, .inl ?_, ps ++ [(last, o)], some (.fz (.int j)), some (.fz (.int last)), some (.ol ((nxt m last ps).map PyData.int)), some (.fz (.int o)), rfl, hc.snoc hl1 ⟨o1, o2⟩ hl2 o3, by simp; omega, fun _ => by simp⟩
        have ne : ((nxt m last ps).map PyData.int).isEmpty = false := by rw [hn]; rfl
        have a1 := appD_ol (i := 4) (r := [some (.fz (.int c)), some (.fz (.int m)), some (.fz (.int k)), some (.ol (prs ps)), some (.ol (prs (ps.map stn))), some (.fz (.int j)), some (.fz (.int last)), some (.ol ((nxt m last ps).map PyData.int)), none, some (.fz (.int o))]) rfl z2 (pr (stn (last, o)))
        have a2 := appD_ol (i := 3) (r := [some (.fz (.int c)), some (.fz (.int m)), some (.fz (.int k)), some (.ol (prs ps)), some (.ol (prs (ps.map stn) ++ [pr (stn (last, o))])), some (.fz (.int j)), some (.fz (.int last)), some (.ol ((nxt m last ps).map PyData.int)), none, some (.fz (.int o))]) rfl z1 (pr (last, o))
        rw [List.map_append, prs_app, prs_app, List.map_singleton, prs_one, prs_one]
        simp [pr, stn] at a1 a2
        simp [hl3, rg, lp, ne, rm, ao, mm, a1, a2, pr, stn])
  have rg : rngD [.int k] = some ((List.range k.toNat).map fun (i : Nat) => PyData.int i) := rng1 (by omega) (by omega)
  rw [List.length_map, List.length_range, Nat.zero_add] at e4 e5
  refine ⟨ps, ?_, e3, by omega, fun h => e5 (by omega)⟩
  simp [libLawChain, ini, rg, e1, e2]
theorem r_chain {g : Nat} {c m k : Int} (h : T[i]? = some ⟨3, 10, libLawChain g⟩) (hg : T[g]? = some ⟨3, 4, libLawMix⟩) (h0 : 0 ≤ m) (h1 : m ≤ 1000) (hk : 0 ≤ k) (hk2 : k ≤ 1000) :
    ∃ ps, run T (n + 2) i [.int c, .int m, .int k] = .ret (.fz (.tuple (prs ps))) ∧ Chn m ps ∧ (ps.length : Int) ≤ k := by
  obtain ⟨ps, a, b, c, _⟩ := r_chainN (n := n) (c := c) (m := m) (k := k) h hg h0 h1 hk hk2
  exact ⟨ps, a, b, c⟩
end
end SC

set_option Elab.async false
set_option maxRecDepth 100000
set_option maxHeartbeats 1000000
namespace SC
open PySem
section
variable {T : List FD} {i n : Nat}
def numB : PyData → Bool
  | .int i => decide (0 ≤ i) && decide (i ≤ 9)
  | _ => false
def pieceB : PyData → Bool
  | .tuple [a, b] => numB a && numB b
  | _ => false
def stoneB : PyData → Bool
  | .tuple [.int a, .int b] => decide (0 ≤ a) && decide (a ≤ b) && decide (b ≤ 9)
  | _ => false
/-- no dict at the top, nor in a tuple's items -/
def nd0 : PyData → Bool
  | .dict _ => false
  | _ => true
def nd1 : PyData → Bool
  | .dict _ => false
  | .tuple ds => ds.all nd0
  | _ => true
theorem r_isnum {d : PyData} (h : T[i]? = some ⟨1, 1, libIsNumber⟩) (hd : nd0 d = true) : run T (n + 1) i [d] = .ret (.fz (.bool (numB d))) := by
  rw [run_def h rfl]
  cases d with
  | int j =>
    by_cases c1 : 0 ≤ j <;> by_cases c2 : j ≤ 9 <;> simp [libIsNumber, ini, numB, c1, c2]
  | dict _ => cases hd
  | _ => simp [libIsNumber, ini, numB]
theorem r_ispiece {c : Nat} {d : PyData} (h : T[i]? = some ⟨1, 1, libIsPiece c⟩) (hc : T[c]? = some ⟨1, 1, libIsNumber⟩) (hd : nd1 d = true) : run T (n + 2) i [d] = .ret (.fz (.bool (pieceB d))) := by
  rw [run_def h rfl]
  cases d with
  | tuple ds =>
    match ds, hd with
    | [], _ => simp [libIsPiece, ini, pieceB]
    | [a], _ => simp [libIsPiece, ini, pieceB]
    | [a, b], hd =>
      have hd : (nd0 a && (nd0 b && true)) = true := hd
      simp only [Bool.and_eq_true] at hd
      have r1 := r_isnum (n := n) hc hd.1
      have r2 := r_isnum (n := n) hc hd.2.1
      cases q : numB a <;> cases q2 : numB b <;> simp [libIsPiece, ini, pieceB, r1, r2, q, q2]
    | a :: b :: c :: ds, _ =>
      have : ¬ ((ds.length : Int) + 1 + 1 + 1 = 2) := by omega
      simp [libIsPiece, ini, pieceB, this]
  | dict _ => cases hd
  | _ => simp [libIsPiece, ini, pieceB]
theorem piece_shape {d : PyData} (h : pieceB d = true) : ∃ a b : Int, d = .tuple [.int a, .int b] ∧ 0 ≤ a ∧ a ≤ 9 ∧ 0 ≤ b ∧ b ≤ 9 := by
  unfold pieceB at h
  split at h
  · rename_i x y
    rw [Bool.and_eq_true] at h
    cases x <;> first | (cases h.1; done) | skip
    cases y <;> first | (cases h.2; done) | skip
    have h1 := h.1
    have h2 := h.2
    simp only [numB, Bool.and_eq_true, decide_eq_true_eq] at h1 h2
    exact ⟨_, _, rfl, h1.1, h1.2, h2.1, h2.2⟩
  · cases h
theorem stone_eq (d : PyData) : stoneB d = (pieceB d && match d with | .tuple [.int a, .int b] => decide (a ≤ b) | _ => false) := by
  cases q : pieceB d with
  | true =>
    obtain ⟨a, b, rfl, h1, h2, h3, h4⟩ := piece_shape q
    simp only [stoneB, Bool.true_and]
    by_cases c : a ≤ b <;> simp [c, h1, h4]
  | false =>
    rw [Bool.false_and]
    unfold stoneB
    split
    · rename_i a b
      simp only [pieceB, numB] at q
      by_cases c1 : 0 ≤ a <;> by_cases c2 : a ≤ b <;> by_cases c3 : b ≤ 9 <;> simp [c1, c2, c3]
      have d1 : a ≤ 9 := by omega
      have d2 : 0 ≤ b := by omega
      simp [c1, c3, d1, d2] at q
    · rfl
theorem r_isstone {c e : Nat} {d : PyData} (h : T[i]? = some ⟨1, 1, libIsStone c⟩) (hc : T[c]? = some ⟨1, 1, libIsPiece e⟩) (he : T[e]? = some ⟨1, 1, libIsNumber⟩) (hd : nd1 d = true) : run T (n + 3) i [d] = .ret (.fz (.bool (stoneB d))) := by
  rw [run_def h rfl]
  have r1 := r_ispiece (n := n) hc he hd
  rw [stone_eq]
  cases q : pieceB d with
  | true =>
    obtain ⟨a, b, rfl, h1, h2, h3, h4⟩ := piece_shape q
    rw [q] at r1
    simp [libIsStone, ini, r1]
  | false =>
    rw [q] at r1
    simp [libIsStone, ini, r1]
theorem r_stoneof {p : Int × Int} (h : T[i]? = some ⟨1, 1, libStoneOf⟩) : run T (n + 1) i [pr p] = .ret (.fz (pr (stn p))) := by
  rw [run_def h rfl]
  have e1 : bltD .min [pr p] = some (.fz (.int (min p.1 p.2))) := rfl
  have e2 : bltD .max [pr p] = some (.fz (.int (max p.1 p.2))) := rfl
  simp [libStoneOf, ini, e1, e2]
  rfl
def pts (ps : List (Int × Int)) : Int := (ps.map fun p => p.1 + p.2).sum
theorem r_points {ps : List (Int × Int)} (h : T[i]? = some ⟨1, 3, libPoints⟩) : run T (n + 1) i [.tuple (prs ps)] = .ret (.fz (.int (pts ps))) := by
  rw [run_def h rfl]
  have lp := lc_map (tup := true) (tg := [1, 2]) (hid := [1, 2, 0]) (c := evT (run T n) (.tval (.cst (.bool true)))) (e := ev (run T n) (.bin .Add (.var 1) (.var 2))) (r := [none, none, none]) (ds := prs ps) (acc := [])
    (fun d => match d with | .tuple [.int a, .int b] => .int (a + b) | d => d) (fun d m => by
      obtain ⟨p, mm, rfl⟩ := List.mem_map.mp m
      simp [pr, itemO_two])
  have e : (prs ps).map (fun d => match d with | .tuple [.int a, .int b] => .int (a + b) | d => d) = (ps.map fun p => p.1 + p.2).map PyData.int := by
    unfold prs
    rw [List.map_map, List.map_map]
    rfl
  rw [e] at lp
  have e2 := intsD_map (ps.map fun p => p.1 + p.2)
  generalize (ps.map fun p => p.1 + p.2).map PyData.int = L at lp e2
  simp [libPoints, ini, lp, e2, pts]
theorem r_allst {m : Int} (h : T[i]? = some ⟨1, 4, libAllStones⟩) (h0 : -1 ≤ m) (h1 : m ≤ 1000) : run T (n + 1) i [.int m] = .ret (.fz (.tuple (prs (allP m)))) := by
  rw [run_def h rfl]
  obtain ⟨r', e1, x, y, e2⟩ := for_inv (tup := false) (tg := [2]) (body := exec (run T n) (.seq (.expr (.ext 1 (.lc false [3] (.rng (.cons (.var 2) (.cons (.bin .Add (.var 0) (.cst (.int 1))) .nil))) (.tval (.cst (.bool true))) (.tup (.cons (.var 2) (.cons (.var 3) .nil)))))) .nil))
    (fun k r => ∃ x y, r = [some (.fz (.int m)), some (.ol (prs ((List.range k).flatMap (rowP m)))), x, y]) ((List.range (m + 1).toNat).map fun (k : Nat) => PyData.int k) 0 [some (.fz (.int m)), some (.ol []), none, none] ⟨none, none, rfl⟩ (fun k d r hd hi => by
      obtain ⟨x, y, rfl⟩ := hi
      obtain ⟨hk, rfl⟩ := range_item hd
      rw [Nat.zero_add]
      have rg : rngD [.int k, .int (m + 1)] = some ((List.range (m + 1 - k).toNat).map fun (i : Nat) => PyData.int (k + i)) := rng2 (by omega) (by omega) (by omega) (by omega)
      have lp := fun hid => lc_map (tup := false) (tg := [3]) (hid := hid) (c := evT (run T n) (.tval (.cst (.bool true)))) (e := ev (run T n) (.tup (.cons (.var 2) (.cons (.var 3) .nil)))) (r := [some (.fz (.int m)), some (.ol (prs ((List.range k).flatMap (rowP m)))), some (.fz (.int k)), none]) (ds := (List.range (m + 1 - k).toNat).map fun (i : Nat) => PyData.int (k + i)) (acc := [])
        (fun d => .tuple [.int k, d]) (fun d m => by simp [itemO_one])
      have e3 : ((List.range (m + 1 - k).toNat).map fun (i : Nat) => PyData.int (k + i)).map (fun d => PyData.tuple [.int k, d]) = prs (rowP m k) := by
        unfold rowP prs
        rw [List.map_map, List.map_map]
        rfl
      have ee : ev (run T n) (.lc false [3] (.rng (.cons (.var 2) (.cons (.bin .Add (.var 0) (.cst (.int 1))) .nil))) (.tval (.cst (.bool true))) (.tup (.cons (.var 2) (.cons (.var 3) .nil)))) [some (.fz (.int m)), some (.ol (prs ((List.range k).flatMap (rowP m)))), some (.fz (.int k)), y] = .ok (.ol (prs (rowP m k))) [some (.fz (.int m)), some (.ol (prs ((List.range k).flatMap (rowP m)))), some (.fz (.int k)), y] := by
        rw [ev_lc]
        simp only [evI_rng, evs_cons, evs_nil, ev_var, ev_bin, ev_cst]
        simp [rg]
        rw [show (m + 1).toNat - k = (m + 1 - k).toNat by omega, lp, e3]
        simp
      have z1 := rowsP_len h1 k
      have z2 := rowP_len m k
      have sz : (prs ((List.range k).flatMap (rowP m))).length + (prs (rowP m k)).length ≤ sizeLine := by
        rw [prs_len, prs_len]
        show _ ≤ 16777216
        omega
      have e4 := ev_ext (i := 1) (by rfl) (fun j q => by cases q) ee
      rw [toD_ol, extD_ol rfl sz] at e4
      refine ⟨_, _, rfl, .inl ?_, some (.fz (.int k)), y, rfl⟩
      have e5 : prs ((List.range (k + 1)).flatMap (rowP m)) = prs ((List.range k).flatMap (rowP m)) ++ prs (rowP m k) := by
        rw [List.range_succ, List.flatMap_append, prs_app, List.flatMap_singleton]
      rw [e5, exec_sq, exec_expr]
      show sqO ((ev (run T n) _ [some (.fz (.int m)), some (.ol (prs ((List.range k).flatMap (rowP m)))), some (.fz (.int k)), y]).bnd _) _ = _
      rw [e4]
      simp)
  have rg : rngD [.int (m + 1)] = some ((List.range (m + 1).toNat).map fun (i : Nat) => PyData.int i) := rng1 (by omega) (by omega)
  rw [List.length_map, List.length_range, Nat.zero_add] at e2
  simp [libAllStones, ini, rg, e1, e2]
  rfl
/-! ### drawn stones -/
theorem erase_perm {α : Type} : ∀ {l : List α} {j : Nat} {x : α}, l[j]? = some x → (x :: l.eraseIdx j).Perm l
  | y :: l, 0, x, h => by simp at h; subst h; exact List.Perm.refl _
  | y :: l, j + 1, x, h => by
    have ih := erase_perm (l := l) (j := j) (x := x) (by simpa using h)
    exact (List.Perm.swap y x _).trans (ih.cons y)
  | [], _, _, h => by simp at h
theorem map_erase {α β : Type} (f : α → β) : ∀ (l : List α) (j : Nat), (l.map f).eraseIdx j = (l.eraseIdx j).map f
  | [], _ => rfl
  | x :: l, 0 => rfl
  | x :: l, j + 1 => by rw [List.map_cons, List.eraseIdx_cons_succ, map_erase f l j, List.eraseIdx_cons_succ, List.map_cons]
theorem allP_len {m : Int} (h : m ≤ 1000) : (allP m).length ≤ 1001 * (m + 1).toNat := rowsP_len h _
theorem r_some {f g : Nat} {c m k : Int} (h : T[i]? = some ⟨3, 6, libLawSome f g⟩) (hf : T[f]? = some ⟨1, 4, libLawAll⟩) (hg : T[g]? = some ⟨3, 4, libLawMix⟩) (h0 : -1 ≤ m) (h1 : m ≤ 1000) (hk : 0 ≤ k) (hk2 : k ≤ 1000) :
    ∃ fs ls, run T (n + 2) i [.int c, .int m, .int k] = .ret (.ol (prs fs)) ∧ (fs ++ ls).Perm (allP m) ∧ fs.length = min k.toNat (allP m).length := by
  rw [run_def h rfl]
  have ra := r_all (n := n) (m := m) hf h0 h1
  have hal := allP_len h1
  obtain ⟨r', e1, fs, ls, x5, e2, e3, e4⟩ := for_inv (tup := false) (tg := [5]) (body := exec (run T (n + 1)) (.seq (.expr (.app 4 (.popA 3 (.call g (.cons (.bin .Add (.var 0) (.bin .Mult (.cst (.int 7)) (.var 5))) (.cons (.cst (.int 9973)) (.cons (.blt .len (.cons (.var 3) .nil)) .nil))))))) .nil))
    (fun j r => ∃ fs ls x5, r = [some (.fz (.int c)), some (.fz (.int m)), some (.fz (.int k)), some (.ol (prs ls)), some (.ol (prs fs)), x5] ∧ (fs ++ ls).Perm (allP m) ∧ fs.length = j) ((List.range (min k ((allP m).length : Int)).toNat).map fun (j : Nat) => PyData.int j) 0
    [some (.fz (.int c)), some (.fz (.int m)), some (.fz (.int k)), some (.ol (prs (allP m))), some (.ol []), none] ⟨[], allP m, none, rfl, List.Perm.refl _, rfl⟩ (fun j d r hd hi => by
      obtain ⟨fs, ls, x5, rfl, hp, hl⟩ := hi
      obtain ⟨hj, rfl⟩ := range_item hd
      rw [Nat.zero_add] at hl ⊢
      have hll := hp.length_eq
      rw [List.length_append] at hll
      have b1 := mix_lo (c := c + 7 * j) (p := 9973) (m := (ls.length : Int)) (by omega)
      have b2 := mix_hi (c := c + 7 * j) (p := 9973) (m := (ls.length : Int)) (by omega)
      have rm := r_mix (n := n) (c := c + 7 * j) (p := 9973) (m := (ls.length : Int)) hg (by omega) (by omega) (by omega)
      have mm : binD .Mult (.int 7) (.int j) = some (.fz (.int (7 * j))) := bin_mul (mulOk_l (by omega) (by omega))
      generalize mix (c + 7 * j) 9973 (ls.length : Int) = ix at *
      obtain ⟨o, ho⟩ : ∃ o, ls[ix.toNat]? = some o := ⟨_, List.getElem?_eq_getElem (by omega)⟩
      have pp := popD_ol (i := 3) (r := [some (.fz (.int c)), some (.fz (.int m)), some (.fz (.int k)), some (.ol (prs ls)), some (.ol (prs fs)), some (.fz (.int j))]) (ds := prs ls) (k := ix) (d := pr o) rfl b1 (by unfold prs; rw [List.getElem?_map, ho]; rfl)
      have e5 : (prs ls).eraseIdx ix.toNat = prs (ls.eraseIdx ix.toNat) := map_erase pr ls _
      rw [e5] at pp
      have sz : (prs fs).length < sizeLine := by
        rw [prs_len]
        show _ < 16777216
        omega
      have aa := appD_ol (i := 4) (r := [some (.fz (.int c)), some (.fz (.int m)), some (.fz (.int k)), some (.ol (prs (ls.eraseIdx ix.toNat))), some (.ol (prs fs)), some (.fz (.int j))]) (ds := prs fs) rfl sz (pr o)
      simp at pp aa
      refine ⟨_, _, rfl, .inl ?_, fs ++ [o], ls.eraseIdx ix.toNat, some (.fz (.int j)), rfl, ?_, by simp [hl]⟩
      · rw [prs_app, prs_one]
        simp [rm, mm, pp, aa]
      · rw [List.append_assoc]
        exact (List.Perm.append_left fs (erase_perm ho)).trans hp)
  rw [List.length_map, List.length_range, Nat.zero_add] at e4
  have rg : rngD [.int (min k ((allP m).length : Int))] = some ((List.range (min k ((allP m).length : Int)).toNat).map fun (i : Nat) => PyData.int i) := rng1 (by omega) (by omega)
  refine ⟨fs, ls, ?_, e3, by omega⟩
  simp [libLawSome, ini, ra, rg, e1, e2]
/-! ### odd things -/
/-- numbers and tuples of such -/
inductive Ti : Nat → PyData → Prop
  | int (k : Nat) (i : Int) : Ti k (.int i)
  | tup (k : Nat) (ds : List PyData) : (∀ d ∈ ds, Ti k d) → ds.length ≤ 100 → Ti (k + 1) (.tuple ds)
def tl : PyData → Nat
  | .tuple ds => ds.length
  | _ => 0
structure Gd1 (k : Nat) (d : PyData) : Prop where
  lay : PyData.canLay0 d = true
  dep : PyData.depth d ≤ k
theorem lay_all {ds : List PyData} : PyData.canLayAll0 ds = true ↔ ∀ d ∈ ds, PyData.canLay0 d = true := by
  induction ds with
  | nil => simp [PyData.canLayAll0]
  | cons d ds ih => simp [PyData.canLayAll0, ih]
theorem dep_all {ds : List PyData} {k : Nat} : PyData.depthAll ds ≤ k ↔ ∀ d ∈ ds, PyData.depth d ≤ k := by
  induction ds with
  | nil => simp [PyData.depthAll]
  | cons d ds ih =>
    simp only [PyData.depthAll, List.mem_cons, forall_eq_or_imp, ← ih]
    omega
theorem Gd1.tup {k : Nat} {ds : List PyData} (h : ∀ d ∈ ds, Gd1 k d) : Gd1 (k + 1) (.tuple ds) := by
  refine ⟨?_, ?_⟩
  · show PyData.canLayAll0 ds = true
    exact lay_all.mpr fun d hd => (h d hd).lay
  · have : PyData.depth (.tuple ds) = PyData.depthAll ds + 1 := by simp [PyData.depth]
    rw [this]
    have := dep_all.mpr fun d hd => (h d hd).dep
    omega
theorem Gd1.lst {k : Nat} {ds : List PyData} (h : ∀ d ∈ ds, Gd1 k d) : Gd1 (k + 1) (.list ds) := by
  refine ⟨?_, ?_⟩
  · show PyData.canLayAll0 ds = true
    exact lay_all.mpr fun d hd => (h d hd).lay
  · have : PyData.depth (.list ds) = PyData.depthAll ds + 1 := by simp [PyData.depth]
    rw [this]
    have := dep_all.mpr fun d hd => (h d hd).dep
    omega
theorem Gd1.mono {k l : Nat} {d : PyData} (h : Gd1 k d) (hl : k ≤ l) : Gd1 l d := ⟨h.lay, Nat.le_trans h.dep hl⟩
theorem Ti.gd : ∀ {k : Nat} {d : PyData}, Ti k d → Gd1 k d
  | k, _, .int _ i => ⟨rfl, by simp [PyData.depth]⟩
  | _, _, .tup k ds h _ => Gd1.tup fun d hd => (h d hd).gd
theorem Gd1.items {k : Nat} {ds : List PyData} (h : Gd1 (k + 1) (.tuple ds)) : ∀ d ∈ ds, Gd1 k d := fun d hd => by
  have h1 := lay_all.mp h.lay d hd
  have h2 : PyData.depth (.tuple ds) = PyData.depthAll ds + 1 := by simp [PyData.depth]
  have h3 := h.dep
  rw [h2] at h3
  exact ⟨h1, dep_all.mp (by omega) d hd⟩
theorem lay_nd0 {d : PyData} (h : PyData.canLay0 d = true) : nd0 d = true := by
  cases d <;> first | rfl | cases h
theorem lay_nd1 {d : PyData} (h : PyData.canLay0 d = true) : nd1 d = true := by
  cases d with
  | tuple ds => exact List.all_eq_true.mpr fun d hd => lay_nd0 (lay_all.mp h d hd)
  | dict _ => cases h
  | _ => rfl
theorem Gd1.shaped {k : Nat} {d : PyData} (h : Gd1 k d) (hk : k ≤ 64) : SeqAt.shaped d = true := by
  unfold SeqAt.shaped
  rw [Bool.and_eq_true_iff, decide_eq_true_eq]
  exact ⟨h.lay, Nat.le_trans h.dep hk⟩
/-- the things that stand there anyway -/
def oddB : List PyData := [.none, .bool true, .bool false, .int 0, .int 1, .int (-1), .int 2, .int 7, .int 10, .int 1000, .str "", .str "a", .str "A", .tuple [], .tuple [.str "a"], .list [.int 1]]
theorem oddB_ok : ∀ d ∈ oddB, Gd1 1 d ∧ tl d ≤ 1 := by
  intro d hd
  simp only [oddB, List.mem_cons, List.not_mem_nil, or_false] at hd
  rcases hd with h | h | h | h | h | h | h | h | h | h | h | h | h | h | h | h <;> subst h <;> exact ⟨⟨by decide +kernel, by decide +kernel⟩, by decide +kernel⟩
theorem pick_ok {L : List PyData} {g : Nat} {c : Int} (hg : T[g]? = some ⟨3, 4, libLawMix⟩) (h : L ≠ []) : ∃ d x, d ∈ L ∧ run T (n + 1) g [.int c, .int 9749, .int (L.length : Nat)] = .ret (.fz (.int x)) ∧ L2.atI L x = some d := by
  have hl : 0 < L.length := List.length_pos_iff.mpr h
  have b1 := mix_lo (c := c) (p := 9749) (m := (L.length : Int)) (by omega)
  have b2 := mix_hi (c := c) (p := 9749) (m := (L.length : Int)) (by omega)
  have rm := r_mix (n := n) (c := c) (p := 9749) (m := (L.length : Int)) hg (by omega) (by omega) (by omega)
  obtain ⟨o, ho⟩ : ∃ o, L[(mix c 9749 (L.length : Int)).toNat]? = some o := ⟨_, List.getElem?_eq_getElem (by omega)⟩
  exact ⟨o, _, List.mem_of_getElem? ho, rm, atI_of b1 ho⟩
theorem cut_to {ds : List PyData} {a : Int} (h : 0 ≤ a) (h2 : a ≤ ds.length) : cutD ds none (some a) = ds.take a.toNat := by
  have e : HT.sIx ds.length ds.length (some a) = a.toNat := by
    unfold HT.sIx
    dsimp only
    rw [if_neg (by omega)]
    omega
  unfold cutD
  rw [e]
  show (ds.drop 0).take (a.toNat - 0) = _
  simp
theorem cut_from {ds : List PyData} {a : Int} (h : 0 ≤ a) : cutD ds (some a) none = ds.drop a.toNat := by
  have e : HT.sIx ds.length 0 (some a) = min a.toNat ds.length := by
    unfold HT.sIx
    dsimp only
    rw [if_neg (by omega)]
  unfold cutD
  rw [e]
  show (ds.drop _).take (ds.length - _) = _
  rw [List.take_of_length_le (by rw [List.length_drop]; omega)]
  by_cases c : a.toNat ≤ ds.length
  · rw [Nat.min_eq_left c]
  · rw [Nat.min_eq_right (by omega), List.drop_eq_nil_of_le (by omega), List.drop_eq_nil_of_le (by omega)]
theorem cut_mem {ds : List PyData} {lo hi : Option Int} {d : PyData} (h : d ∈ cutD ds lo hi) : d ∈ ds := List.mem_of_mem_drop (List.mem_of_mem_take h)
theorem cut_len (ds : List PyData) (lo hi : Option Int) : (cutD ds lo hi).length ≤ ds.length := by
  unfold cutD
  rw [List.length_take, List.length_drop]
  omega
theorem cut_last (ds : List PyData) : (cutD ds (some (-1)) none).length ≤ 1 := by
  have e : HT.sIx ds.length 0 (some (-1)) = ((-1 : Int) + (ds.length : Int)).toNat := by
    unfold HT.sIx
    dsimp only
    rw [if_pos (by omega)]
  unfold cutD
  rw [e]
  show ((ds.drop _).take (ds.length - _)).length ≤ 1
  rw [List.length_take, List.length_drop]
  omega
theorem eqD_nil {k : Nat} {ds : List PyData} (h : Gd1 k (.tuple ds)) (hk : k ≤ 64) : eqD (.tuple ds) (.tuple []) = some ds.isEmpty := by
  show (if SeqAt.shaped (.tuple ds) && SeqAt.shaped (.tuple []) then some (PyData.eqvAll ds []) else none) = _
  rw [h.shaped hk]
  cases ds <;> rfl
theorem r_odd {g : Nat} (h : T[i]? = some ⟨2, 4, libLawOdd g i⟩) (hg : T[g]? = some ⟨3, 4, libLawMix⟩) : ∀ {k n : Nat} {d : PyData} {c : Int}, k ≤ 50 → Ti k d → ∃ d', run T (n + k + 2) i [d, .int c] = .ret (.fz d') ∧ Gd1 (k + 1) d' ∧ tl d' ≤ tl d + 1
  | k, n, _, c, hk, .int _ j => by
    have bm : ∀ ys : List PyData, ys.length ≤ 100 → binD .Mult (.list ys) (.int 2) = some (.ol (ys ++ ys)) := fun ys hy => by
      show (if (0 : Int) ≤ 2 ∧ (2 : Int) < 2 ^ 62 ∧ ys.length * (2 : Int).toNat ≤ sizeLine then some (Val.ol (List.replicate (2 : Int).toNat ys).flatten) else none) = _
      rw [if_pos ⟨by omega, by omega, by show ys.length * 2 ≤ 16777216; omega⟩]
      simp [List.replicate]
    have ba : ∀ ys : List PyData, ys.length ≤ 200 → binD .Add (.list oddB) (.list ys) = some (.ol (oddB ++ ys)) := fun ys hy => bin_catL (by
      show 16 + ys.length ≤ 16777216
      omega)
    have m2 : binD .Mult (.int j) (.int 2) = some (.fz (.int (j * 2))) := bin_mul (mulOk_r (by omega) (by omega))
    let ex : List PyData := [.int (j + 1), .int (j - 1), .int (0 - j), .tuple [.int j], .int (j + 2), .int (j * 2)]
    obtain ⟨d', x, hm, hr, ha⟩ := pick_ok (n := n + k) (c := c) (L := oddB ++ (ex ++ ex)) hg (by simp [oddB])
    refine ⟨d', ?_, ?_⟩
    · rw [show n + k + 2 = (n + k + 1) + 1 from rfl, run_def h rfl]
      show fin (exec _ (libLawOdd g i) [some (.fz (.int j)), some (.fz (.int c)), none, none]) = _
      unfold libLawOdd
      refine (congrArg fin (exec_seq (r1 := [some (.fz (.int j)), some (.fz (.int c)), none, none]) ?_)).trans ?_
      · simp
      refine (congrArg fin (exec_seq (r1 := [some (.fz (.int j)), some (.fz (.int c)), none, some (.ol oddB)]) ?_)).trans ?_
      · simp [oddB]
      refine (congrArg fin (exec_seq (r1 := [some (.fz (.int j)), some (.fz (.int c)), none, some (.ol (oddB ++ (ex ++ ex)))]) ?_)).trans ?_
      · simp [bm, ba, m2, ex]
      · generalize oddB ++ (ex ++ ex) = L at *
        simp [hr, ha]
    · have : Gd1 (k + 1) d' ∧ tl d' ≤ 1 := by
        rcases List.mem_append.mp hm with hm | hm
        · exact ⟨(oddB_ok d' hm).1.mono (by omega), (oddB_ok d' hm).2⟩
        · have hm : d' ∈ ex := by
            rcases List.mem_append.mp hm with hm | hm <;> exact hm
          simp only [ex, List.mem_cons, List.not_mem_nil, or_false] at hm
          rcases hm with e | e | e | e | e | e <;> subst e
          · exact ⟨⟨rfl, by simp [PyData.depth]⟩, by simp [tl]⟩
          · exact ⟨⟨rfl, by simp [PyData.depth]⟩, by simp [tl]⟩
          · exact ⟨⟨rfl, by simp [PyData.depth]⟩, by simp [tl]⟩
          · exact ⟨⟨rfl, by simp [PyData.depth, PyData.depthAll]⟩, by simp [tl]⟩
          · exact ⟨⟨rfl, by simp [PyData.depth]⟩, by simp [tl]⟩
          · exact ⟨⟨rfl, by simp [PyData.depth]⟩, by simp [tl]⟩
      exact ⟨this.1, by have := this.2; simp [tl]; exact this⟩
  | k + 1, n, .tuple ds, c, hk, .tup _ _ hd hl => by
    have gd : Gd1 (k + 1) (.tuple ds) := (Ti.tup k ds hd hl).gd
    have ne := eqD_nil gd (by omega)
    have m5 := r_mix (n := n + k + 1) (c := c) (p := 9781) (m := 5) hg (by omega) (by omega) (by omega)
    by_cases cc : ds.isEmpty = false ∧ 0 < mix c 9781 5
    · obtain ⟨c1, c2⟩ := cc
      have hlen : 0 < ds.length := by
        cases ds with
        | nil => cases c1
        | cons _ _ => simp
      have ma := r_mix (n := n + k + 1) (c := c) (p := 9769) (m := (ds.length : Int)) hg (by omega) (by omega) (by omega)
      have b1 := mix_lo (c := c) (p := 9769) (m := (ds.length : Int)) (by omega)
      have b2 := mix_hi (c := c) (p := 9769) (m := (ds.length : Int)) (by omega)
      generalize mix c 9769 (ds.length : Int) = ix at *
      obtain ⟨o, ho⟩ : ∃ o, ds[ix.toNat]? = some o := ⟨_, List.getElem?_eq_getElem (by omega)⟩
      have hom := List.mem_of_getElem? ho
      obtain ⟨d', hr, g1, g2⟩ := r_odd (k := k) (n := n) (d := o) (c := c + 31 * ix + 7) h hg (by omega) (hd o hom)
      have ai : L2.atI ds ix = some o := atI_of b1 ho
      have mm : binD .Mult (.int 31) (.int ix) = some (.fz (.int (31 * ix))) := bin_mul (mulOk_l (by omega) (by omega))
      have k1 : binD .Add (.tuple (ds.take ix.toNat)) (.tuple [d']) = some (.fz (.tuple (ds.take ix.toNat ++ [d']))) := bin_cat (by
        rw [List.length_take]
        show _ + 1 ≤ 16777216
        omega)
      have k2 : binD .Add (.tuple (ds.take ix.toNat ++ [d'])) (.tuple (ds.drop (ix + 1).toNat)) = some (.fz (.tuple ((ds.take ix.toNat ++ [d']) ++ ds.drop (ix + 1).toNat))) := bin_cat (by
        rw [List.length_append, List.length_take, List.length_drop]
        show _ + 1 + _ ≤ 16777216
        omega)
      refine ⟨.tuple ((ds.take ix.toNat ++ [d']) ++ ds.drop (ix + 1).toNat), ?_, Gd1.tup fun x hx => ?_, ?_⟩
      · rw [show n + (k + 1) + 2 = (n + k + 2) + 1 from by omega, run_def h rfl]
        show fin (exec _ (libLawOdd g i) [some (.fz (.tuple ds)), some (.fz (.int c)), none, none]) = _
        unfold libLawOdd
        refine (congrArg fin (exec_seq_rt (v := .fz (.tuple ((ds.take ix.toNat ++ [d']) ++ ds.drop (ix + 1).toNat))) (r1 := [some (.fz (.tuple ds)), some (.fz (.int c)), some (.fz (.int ix)), none]) ?_)).trans ?_
        · have q1 := cut_to (ds := ds) b1 (by omega)
          have q2 := cut_from (ds := ds) (show 0 ≤ ix + 1 by omega)
          simp [ne, c1, m5, c2, ma, ai, hr, mm, q1, q2, k1, k2]
        · rfl
      · rcases List.mem_append.mp hx with hx | hx
        · rcases List.mem_append.mp hx with hx | hx
          · exact (hd x (List.mem_of_mem_take hx)).gd.mono (by omega)
          · rw [List.mem_singleton] at hx
            subst hx
            exact g1
        · exact (hd x (List.mem_of_mem_drop hx)).gd.mono (by omega)
      · simp only [tl, List.length_append, List.length_take, List.length_drop, List.length_singleton]
        omega
    · have bm : ∀ ys : List PyData, ys.length ≤ 100 → binD .Mult (.list ys) (.int 2) = some (.ol (ys ++ ys)) := fun ys hy => by
        show (if (0 : Int) ≤ 2 ∧ (2 : Int) < 2 ^ 62 ∧ ys.length * (2 : Int).toNat ≤ sizeLine then some (Val.ol (List.replicate (2 : Int).toNat ys).flatten) else none) = _
        rw [if_pos ⟨by omega, by omega, by show ys.length * 2 ≤ 16777216; omega⟩]
        simp [List.replicate]
      have ba : ∀ ys : List PyData, ys.length ≤ 200 → binD .Add (.list oddB) (.list ys) = some (.ol (oddB ++ ys)) := fun ys hy => bin_catL (by
        show 16 + ys.length ≤ 16777216
        omega)
      have bl := cut_last ds
      have k1 : binD .Add (.tuple ds) (.tuple (cutD ds (some (-1)) none)) = some (.fz (.tuple (ds ++ cutD ds (some (-1)) none))) := bin_cat (by
        show _ ≤ 16777216
        omega)
      let ex : List PyData := [.list ds, .tuple (ds ++ cutD ds (some (-1)) none), .tuple (cutD ds none (some (-1))), .tuple ds.reverse, .tuple (cutD ds (some 1) none), .tuple [.tuple ds]]
      obtain ⟨d', x, hm, hr, ha⟩ := pick_ok (n := n + k + 1) (c := c) (L := oddB ++ (ex ++ ex)) hg (by simp [oddB])
      refine ⟨d', ?_, ?_⟩
      · rw [show n + (k + 1) + 2 = (n + k + 2) + 1 from by omega, run_def h rfl]
        show fin (exec _ (libLawOdd g i) [some (.fz (.tuple ds)), some (.fz (.int c)), none, none]) = _
        unfold libLawOdd
        refine (congrArg fin (exec_seq (r1 := [some (.fz (.tuple ds)), some (.fz (.int c)), none, none]) ?_)).trans ?_
        · cases c1 : ds.isEmpty with
          | true => simp [ne, c1]
          | false =>
            have c2 : ¬ 0 < mix c 9781 5 := fun z => cc ⟨c1, z⟩
            simp [ne, c1, m5, c2]
        refine (congrArg fin (exec_seq (r1 := [some (.fz (.tuple ds)), some (.fz (.int c)), none, some (.ol oddB)]) ?_)).trans ?_
        · simp [oddB]
        refine (congrArg fin (exec_seq (r1 := [some (.fz (.tuple ds)), some (.fz (.int c)), none, some (.ol (oddB ++ (ex ++ ex)))]) ?_)).trans ?_
        · simp [bm, ba, k1, ex]
        · generalize oddB ++ (ex ++ ex) = L at *
          simp [hr, ha]
      · rcases List.mem_append.mp hm with hm | hm
        · exact ⟨(oddB_ok d' hm).1.mono (by omega), Nat.le_trans (oddB_ok d' hm).2 (by omega)⟩
        · have hm : d' ∈ ex := by
            rcases List.mem_append.mp hm with hm | hm <;> exact hm
          have it : ∀ x ∈ ds, Gd1 k x := fun x hx => (hd x hx).gd
          have lc1 := cut_len ds none (some (-1))
          have lc2 := cut_len ds (some 1) none
          simp only [ex, List.mem_cons, List.not_mem_nil, or_false] at hm
          rcases hm with e | e | e | e | e | e <;> subst e
          · exact ⟨(Gd1.lst it).mono (by omega), by simp [tl]⟩
          · refine ⟨(Gd1.tup fun x hx => ?_).mono (Nat.le_succ (k + 1)), by simp only [tl, List.length_append]; omega⟩
            rcases List.mem_append.mp hx with hx | hx
            · exact it x hx
            · exact it x (cut_mem hx)
          · exact ⟨(Gd1.tup fun x hx => it x (cut_mem hx)).mono (by omega), by simp only [tl]; omega⟩
          · exact ⟨(Gd1.tup fun x hx => it x (List.mem_reverse.mp hx)).mono (by omega), by simp [tl]⟩
          · exact ⟨(Gd1.tup fun x hx => it x (cut_mem hx)).mono (by omega), by simp only [tl]; omega⟩
          · refine ⟨Gd1.tup fun x hx => ?_, by simp [tl]⟩
            rw [List.mem_singleton] at hx
            subst hx
            exact gd
end
end SC

set_option Elab.async false
set_option maxRecDepth 100000
set_option maxHeartbeats 1000000
namespace SC
open PySem
def toP : PyData → Option (Int × Int)
  | .tuple [.int a, .int b] => if 0 ≤ a ∧ a ≤ 9 ∧ 0 ≤ b ∧ b ≤ 9 then some (a, b) else none
  | _ => none
def toPs : List PyData → Option (List (Int × Int))
  | [] => some []
  | d :: ds => (toP d).bind fun p => (toPs ds).map (p :: ·)
def joinB : List (Int × Int) → Bool
  | p :: q :: r => (p.2 == q.1) && joinB (q :: r)
  | _ => true
def chnB (ps : List (Int × Int)) : Bool := decide ((ps.map stn).Nodup) && joinB ps
def chainB : PyData → Bool
  | .tuple ds => match toPs ds with
    | some ps => chnB ps
    | none => false
  | _ => false
def numsOk (ps : List (Int × Int)) : Prop := ∀ p ∈ ps, 0 ≤ p.1 ∧ p.1 ≤ 9 ∧ 0 ≤ p.2 ∧ p.2 ≤ 9
theorem toP_pr {p : Int × Int} (h : 0 ≤ p.1 ∧ p.1 ≤ 9 ∧ 0 ≤ p.2 ∧ p.2 ≤ 9) : toP (pr p) = some p := if_pos h
theorem toP_piece (d : PyData) : (toP d).isSome = pieceB d := by
  unfold toP
  split
  · rename_i a b
    by_cases h : 0 ≤ a ∧ a ≤ 9 ∧ 0 ≤ b ∧ b ≤ 9
    · rw [if_pos h]; simp [pieceB, numB, h]
    · rw [if_neg h]
      cases q : pieceB (.tuple [.int a, .int b]) with
      | false => rfl
      | true =>
        obtain ⟨x, y, e, h1, h2, h3, h4⟩ := piece_shape q
        injection e with e
        injection e with e1 e2
        injection e1 with e1
        injection e2 with e2
        injection e2 with e2
        subst e1 e2
        exact absurd ⟨h1, h2, h3, h4⟩ h
  · rename_i hn
    cases q : pieceB d with
    | false => rfl
    | true =>
      obtain ⟨x, y, e, _⟩ := piece_shape q
      exact absurd e (hn x y)
theorem toPs_prs : ∀ {ps : List (Int × Int)}, numsOk ps → toPs (prs ps) = some ps
  | [], _ => rfl
  | p :: ps, h => by
    show (toP (pr p)).bind _ = _
    rw [toP_pr (h p List.mem_cons_self)]
    show (toPs (prs ps)).map _ = _
    rw [toPs_prs fun q hq => h q (List.mem_cons_of_mem _ hq)]
    rfl
theorem toPs_all : ∀ {ds : List PyData} {ps : List (Int × Int)}, toPs ds = some ps → ds = prs ps ∧ numsOk ps
  | [], ps, h => by cases h; exact ⟨rfl, fun _ h => nomatch h⟩
  | d :: ds, ps, h => by
    obtain ⟨p, e1, e2⟩ := Option.bind_eq_some_iff.mp h
    obtain ⟨qs, e3, rfl⟩ := Option.map_eq_some_iff.mp e2
    obtain ⟨rfl, h1⟩ := toPs_all e3
    unfold toP at e1
    split at e1
    · split at e1
      · rename_i h2
        cases e1
        refine ⟨rfl, fun q hq => ?_⟩
        rcases List.mem_cons.mp hq with rfl | hq
        · exact h2
        · exact h1 q hq
      · cases e1
    · cases e1
theorem toPs_none : ∀ {ds : List PyData}, toPs ds = none ↔ ds.all pieceB = false
  | [] => by simp [toPs]
  | d :: ds => by
    have ih := toPs_none (ds := ds)
    have e := toP_piece d
    rw [List.all_cons]
    show (toP d).bind _ = none ↔ _
    cases q : toP d with
    | none =>
      rw [q] at e
      rw [← e]
      simp
    | some p =>
      rw [q] at e
      rw [← e]
      show (toPs ds).map _ = none ↔ _
      simp [ih]
theorem tups_prs : ∀ ps : List (Int × Int), tupsI (prs ps) = some (ps.map fun p => [p.1, p.2])
  | [] => rfl
  | p :: ps => by
    show (intsD [.int p.1, .int p.2]).bind _ = _
    show (tupsI (prs ps)).map _ = _
    rw [tups_prs ps]
    rfl
theorem ddp_nodup : ∀ ks : List (List Int), (ddp ks).length = ks.length ↔ ks.Nodup
  | [] => by simp [ddp]
  | k :: ks => by
    have ih := ddp_nodup ks
    have le : ∀ ls : List (List Int), (ddp ls).length ≤ ls.length := fun ls => by
      induction ls with
      | nil => exact Nat.le_refl _
      | cons x ls ih2 => rw [ddp]; split <;> simp <;> omega
    rw [ddp, List.nodup_cons]
    split
    · rename_i c
      have := le ks
      constructor
      · intro h; rw [List.length_cons] at h; omega
      · intro h; exact absurd c h.1
    · rename_i c
      rw [List.length_cons, List.length_cons]
      constructor
      · intro h; exact ⟨c, ih.mp (by omega)⟩
      · intro h; rw [ih.mpr h.2]
theorem nodup_pairs {ps : List (Int × Int)} : (ps.map fun p => [p.1, p.2]).Nodup ↔ ps.Nodup := by
  constructor
  · intro h
    exact List.Pairwise.of_map _ (fun a b hne e => hne (by rw [e])) h
  · intro h
    refine List.Pairwise.map _ (fun a b hne e => hne ?_) h
    injection e with e1 e2
    injection e2 with e2
    exact Prod.ext e1 e2
theorem lset_prs {ps : List (Int × Int)} (h : ps.length < 64) : lsetD (.list (prs ps)) = some (ddp (ps.map fun p => [p.1, p.2])).length := by
  show (tupsI (prs ps)).bind _ = _
  rw [tups_prs]
  exact if_pos (by rw [List.length_map]; exact h)
theorem join_get : ∀ {ps : List (Int × Int)}, joinB ps = true ↔ ∀ (i : Nat) (p q : Int × Int), ps[i]? = some p → ps[i + 1]? = some q → p.2 = q.1
  | [] => by simp [joinB]
  | [p] => by simp [joinB]
  | p :: q :: r => by
    rw [joinB, Bool.and_eq_true, join_get (ps := q :: r)]
    constructor
    · intro ⟨h1, h2⟩ i a b ha hb
      cases i with
      | zero =>
        simp at ha hb
        subst ha hb
        simpa using h1
      | succ i => exact h2 i a b (by simpa using ha) (by simpa using hb)
    · intro h
      exact ⟨by simpa using h 0 p q rfl rfl, fun i a b ha hb => h (i + 1) a b (by simpa using ha) (by simpa using hb)⟩
/-- the tests of neighbours, one by one -/
def jns (ps : List (Int × Int)) : List Bool := (List.range (ps.length - 1)).map fun j => ((ps[j]?).getD (0, 0)).2 == ((ps[j + 1]?).getD (0, 0)).1
theorem jns_all {ps : List (Int × Int)} : (jns ps).all id = joinB ps := by
  rw [Bool.eq_iff_iff, join_get, List.all_eq_true]
  unfold jns
  constructor
  · intro h i p q hp hq
    have hi := (List.getElem?_eq_some_iff.mp hq).1
    have := h _ (List.mem_map.mpr ⟨i, List.mem_range.mpr (by omega), rfl⟩)
    rw [hp, hq] at this
    simpa using this
  · intro h b hb
    obtain ⟨j, hj, rfl⟩ := List.mem_map.mp hb
    have hj := List.mem_range.mp hj
    have h1 : ps[j]? = some ps[j] := List.getElem?_eq_getElem (by omega)
    have h2 : ps[j + 1]? = some ps[j + 1] := List.getElem?_eq_getElem (by omega)
    rw [h1, h2]
    simpa using h j _ _ h1 h2
section
variable {T : List FD} {i n : Nat}
theorem idx_prs {ps : List (Int × Int)} {j : Int} {p : Int × Int} (h0 : 0 ≤ j) (h : ps[j.toNat]? = some p) : L2.atI (prs ps) j = some (pr p) := atI_of h0 (by unfold prs; rw [List.getElem?_map, h]; rfl)
theorem r_ischain {c e f k : Nat} {d : PyData} (h : T[i]? = some ⟨1, 5, libIsChain c e⟩) (hc : T[c]? = some ⟨1, 1, libIsPiece f⟩) (he : T[e]? = some ⟨1, 1, libStoneOf⟩) (hf : T[f]? = some ⟨1, 1, libIsNumber⟩) (hd : Gd1 k d) (hl : tl d < 64) : run T (n + 3) i [d] = .ret (.fz (.bool (chainB d))) := by
  rw [run_def h rfl]
  cases d with
  | dict _ => cases hd.lay
  | tuple ds =>
    have r1 : ∀ x ∈ ds, run T (n + 2) c [x] = .ret (.fz (.bool (pieceB x))) := fun x hx => r_ispiece (n := n) hc hf (lay_nd1 (lay_all.mp hd.lay x hx))
    have l1 := fun hid => lc_map (tup := false) (tg := [1]) (hid := hid) (c := evT (run T (n + 2)) (.tval (.cst (.bool true)))) (e := ev (run T (n + 2)) (.call c (.cons (.var 1) .nil))) (r := [none, none, none, none, none]) (ds := ds) (acc := []) (fun x => .bool (pieceB x)) (fun x hx => by
      simp [itemO_one, r1 x hx])
    have b1 := bools_map (fun x => PyData.bool (pieceB x)) pieceB (fun _ => rfl) ds
    have hl' : ds.length < 64 := hl
    show fin (exec (run T (n + 2)) (libIsChain c e) [some (.fz (.tuple ds)), none, none, none, none]) = _
    unfold libIsChain
    cases q : toPs ds with
    | none =>
      have q2 := toPs_none.mp q
      have q3 : chainB (.tuple ds) = false := by simp only [chainB, q]
      have q4 : (ds.map pieceB).all id = false := by simpa using q2
      rw [q3]
      refine fn_ret (r1 := [some (.fz (.tuple ds)), none, none, none, none]) ?_
      simp [l1, b1]
      simpa using q2
    | some ps =>
      obtain ⟨rfl, hn⟩ := toPs_all q
      have q2 : (prs ps).all pieceB = true := by
        cases z : (prs ps).all pieceB with
        | true => rfl
        | false => rw [toPs_none.mpr z] at q; cases q
      have q3 : chainB (.tuple (prs ps)) = chnB ps := by simp only [chainB, q]
      rw [q3]
      rw [prs_len] at hl'
      refine fn_seq [some (.fz (.tuple (prs ps))), none, none, none, none] (by
        simp [l1, b1]
        simpa using q2) ?_
      have r2 : ∀ p, run T (n + 2) e [pr p] = .ret (.fz (pr (stn p))) := fun p => r_stoneof (n := n + 1) he
      have l2 := fun hid => lc_map (tup := false) (tg := [3]) (hid := hid) (c := evT (run T (n + 2)) (.tval (.cst (.bool true)))) (e := ev (run T (n + 2)) (.call e (.cons (.var 3) .nil))) (r := [none, none, none, none, none]) (ds := prs ps) (acc := []) (fun d => match d with | .tuple [.int a, .int b] => pr (stn (a, b)) | d => d) (fun x hx => by
        obtain ⟨p, _, rfl⟩ := List.mem_map.mp hx
        simp [itemO_one, r2]
        rfl)
      have e2 : (prs ps).map (fun d => match d with | .tuple [.int a, .int b] => pr (stn (a, b)) | d => d) = prs (ps.map stn) := by
        unfold prs
        rw [List.map_map, List.map_map]
        rfl
      rw [e2] at l2
      refine fn_seq [some (.fz (.tuple (prs ps))), none, some (.ol (prs (ps.map stn))), none, none] (by simp [l2]) ?_
      have ls := lset_prs (ps := ps.map stn) (by rw [List.length_map]; exact hl')
      have dn := ddp_nodup ((ps.map stn).map fun p => [p.1, p.2])
      rw [nodup_pairs, List.length_map, List.length_map] at dn
      generalize (ddp ((ps.map stn).map fun p => [p.1, p.2])).length = m at *
      by_cases nd : (ps.map stn).Nodup
      · have e3 := dn.mpr nd
        subst e3
        refine fn_seq [some (.fz (.tuple (prs ps))), none, some (.ol (prs (ps.map stn))), none, none] (by simp [ls]) ?_
        have rg : rngD [.int 1, .int (ps.length : Int)] = some ((List.range (ps.length - 1)).map fun (i : Nat) => PyData.int (1 + i)) := by
          rw [rng2 (by omega) (by omega) (by omega) (by omega)]
          rw [show ((ps.length : Int) - 1).toNat = ps.length - 1 by omega]
        have l3 := fun hid => lc_map (tup := false) (tg := [4]) (hid := hid) (c := evT (run T (n + 2)) (.tval (.cst (.bool true)))) (e := ev (run T (n + 2)) (.cmp .Eq (.idx (.idx (.var 0) (.bin .Sub (.var 4) (.cst (.int 1)))) (.cst (.int 1))) (.idx (.idx (.var 0) (.var 4)) (.cst (.int 0))))) (r := [some (.fz (.tuple (prs ps))), none, some (.ol (prs (ps.map stn))), none, none]) (ds := (List.range (ps.length - 1)).map fun (i : Nat) => PyData.int (1 + i)) (acc := [])
          (fun d => match d with | .int x => .bool (((ps[(x - 1).toNat]?).getD (0, 0)).2 == ((ps[x.toNat]?).getD (0, 0)).1) | d => d) (fun x hx => by
            obtain ⟨j, hj, rfl⟩ := List.mem_map.mp hx
            have hj := List.mem_range.mp hj
            have h1 : ps[((1 : Int) + j - 1).toNat]? = some ps[j] := by rw [show ((1 : Int) + j - 1).toNat = j by omega]; exact List.getElem?_eq_getElem (by omega)
            have h2 : ps[((1 : Int) + j).toNat]? = some ps[j + 1] := by rw [show ((1 : Int) + j).toNat = j + 1 by omega]; exact List.getElem?_eq_getElem (by omega)
            have i1 := idx_prs (show 0 ≤ (1 : Int) + j - 1 by omega) h1
            have i2 := idx_prs (show 0 ≤ (1 : Int) + j by omega) h2
            simp only [h1, h2, Option.getD_some]
            simp [itemO_one, i1, i2])
        have e4 : ((List.range (ps.length - 1)).map fun (i : Nat) => PyData.int (1 + i)).map (fun d => match d with | .int x => .bool (((ps[(x - 1).toNat]?).getD (0, 0)).2 == ((ps[x.toNat]?).getD (0, 0)).1) | d => d) = (jns ps).map PyData.bool := by
          unfold jns
          rw [List.map_map, List.map_map]
          refine List.map_congr_left fun j hj => ?_
          show PyData.bool (((ps[((1 : Int) + j - 1).toNat]?).getD (0, 0)).2 == ((ps[((1 : Int) + j).toNat]?).getD (0, 0)).1) = .bool (((ps[j]?).getD (0, 0)).2 == ((ps[j + 1]?).getD (0, 0)).1)
          rw [show ((1 : Int) + j - 1).toNat = j by omega, show ((1 : Int) + j).toNat = j + 1 by omega]
        rw [e4] at l3
        have b3 := boolsD_map (jns ps)
        have j3 := jns_all (ps := ps)
        have cb : chnB ps = joinB ps := by unfold chnB; rw [decide_eq_true nd]; rfl
        rw [cb, ← j3]
        generalize jns ps = J at *
        refine fn_ret (r1 := [some (.fz (.tuple (prs ps))), none, some (.ol (prs (ps.map stn))), none, none]) ?_
        generalize (List.range (ps.length - 1)).map (fun (i : Nat) => PyData.int (1 + i)) = R at *
        simp [rg, l3, b3]
      · have e3 : m ≠ ps.length := fun z => nd (dn.mp z)
        have cb : chnB ps = false := by unfold chnB; rw [decide_eq_false nd]; rfl
        rw [cb]
        refine fn_ret (r1 := [some (.fz (.tuple (prs ps))), none, some (.ol (prs (ps.map stn))), none, none]) ?_
        have e4 : ¬ (m : Int) = (ps.length : Int) := by omega
        simp [ls, e4]
  | _ => simp [libIsChain, ini, chainB]
end
end SC

set_option Elab.async false
set_option maxRecDepth 100000
set_option maxHeartbeats 4000000
namespace SC
open PySem L2
section
variable {n : Nat}
theorem sort_pr (p : Int × Int) : sortD (pr p) = some [.int (stn p).1, .int (stn p).2] := by
  show (some [PyData.int p.1, PyData.int p.2]).bind _ = _
  show (if srtOk [PyData.int p.1, PyData.int p.2] then some (isort ltD [PyData.int p.1, PyData.int p.2]) else if nstOk [PyData.int p.1, PyData.int p.2] then some (nsort [PyData.int p.1, PyData.int p.2]) else none) = _
  rw [if_pos (show srtOk [PyData.int p.1, PyData.int p.2] = true from rfl)]
  show some (insR ltD (.int p.2) [.int p.1]) = _
  unfold insR
  have e : ltD (.int p.2) (.int p.1) = decide (p.2 < p.1) := by
    show (if p.2 = p.1 then decide ((0 : Int) < 0) else decide (p.2 < p.1)) = _
    split
    · rename_i c; simp [c]
    · rfl
  rw [e]
  show _ = some [PyData.int (min p.1 p.2), .int (max p.1 p.2)]
  by_cases c : p.2 < p.1
  · rw [if_pos (decide_eq_true c), show min p.1 p.2 = p.2 by omega, show max p.1 p.2 = p.1 by omega]
  · rw [if_neg (by simp [c]), show min p.1 p.2 = p.1 by omega, show max p.1 p.2 = p.2 by omega]
    rfl
theorem eqL_nil {k : Nat} {ds : List PyData} (h : ∀ d ∈ ds, Gd1 k d) (hk : k ≤ 60) : eqD (.list ds) (.list []) = some ds.isEmpty := by
  show (if SeqAt.shaped (.list ds) && SeqAt.shaped (.list []) then some (PyData.eqvAll ds []) else none) = _
  rw [(Gd1.lst h).shaped (by omega)]
  cases ds <;> rfl
def stnD : PyData → PyData
  | .tuple [.int a, .int b] => pr (stn (a, b))
  | d => d
theorem stnD_prs (ps : List (Int × Int)) : (prs ps).map stnD = prs (ps.map stn) := by
  unfold prs
  rw [List.map_map, List.map_map]
  rfl
theorem prs_gd (ps : List (Int × Int)) : Gd1 2 (.tuple (prs ps)) := Gd1.tup fun d hd => by
  obtain ⟨p, _, rfl⟩ := List.mem_map.mp hd
  exact ⟨rfl, by simp [pr, PyData.depth, PyData.depthAll]⟩
theorem pl_prs (ps : List (Int × Int)) : Pl 2 (.tuple (prs ps)) := .tup 1 _ fun d hd => by
  obtain ⟨p, _, rfl⟩ := List.mem_map.mp hd
  exact .tup 0 _ fun d hd => by
    simp at hd
    rcases hd with rfl | rfl
    · exact .int 0 _
    · exact .int 0 _
theorem ti_prs {ps : List (Int × Int)} (h : ps.length ≤ 100) : Ti 2 (.tuple (prs ps)) := .tup 1 _ (fun d hd => by
  obtain ⟨p, _, rfl⟩ := List.mem_map.mp hd
  exact .tup 0 _ (fun d hd => by
    simp at hd
    rcases hd with rfl | rfl
    · exact .int 0 _
    · exact .int 0 _) (by simp)) (by rw [prs_len]; exact h)
theorem chain_prs {ps : List (Int × Int)} (h : numsOk ps) : chainB (.tuple (prs ps)) = chnB ps := by
  simp only [chainB, toPs_prs h]
theorem chn_true {m : Int} {ps : List (Int × Int)} (h : Chn m ps) : chnB ps = true := by
  unfold chnB
  rw [decide_eq_true h.nd, join_get.mpr h.join]
  rfl
theorem stn_swp (p : Int × Int) : stn (swp2 p) = stn p := by
  show (min p.2 p.1, max p.2 p.1) = (min p.1 p.2, max p.1 p.2)
  rw [Int.min_comm, Int.max_comm]
theorem chn_turn {m : Int} {ps : List (Int × Int)} (h : Chn m ps) : Chn m (turn ps) := by
  refine ⟨fun p hp => ?_, fun i p q h1 h2 => ?_, ?_⟩
  · obtain ⟨r, hr, rfl⟩ := List.mem_map.mp hp
    obtain ⟨a, b, c, d⟩ := h.rng r (List.mem_reverse.mp hr)
    exact ⟨c, d, a, b⟩
  · unfold turn at h1 h2
    rw [List.getElem?_map] at h1 h2
    have hl := (List.getElem?_eq_some_iff.mp (show ps.reverse[i + 1]? = some ((ps.reverse[i + 1]?).getD (0, 0)) by cases q : ps.reverse[i + 1]? with
      | none => rw [q] at h2; cases h2
      | some x => rfl)).1
    rw [List.length_reverse] at hl
    rw [List.getElem?_reverse (by omega)] at h1
    rw [List.getElem?_reverse (by omega)] at h2
    obtain ⟨a, ea, rfl⟩ := Option.map_eq_some_iff.mp h1
    obtain ⟨b, eb, rfl⟩ := Option.map_eq_some_iff.mp h2
    have := h.join (ps.length - 1 - (i + 1)) b a eb (by rw [show ps.length - 1 - (i + 1) + 1 = ps.length - 1 - i by omega]; exact ea)
    exact this.symm
  · have e : (turn ps).map stn = (ps.map stn).reverse := by
      unfold turn
      rw [List.map_map, ← List.map_reverse]
      exact List.map_congr_left fun p _ => stn_swp p
    rw [e]
    exact (List.reverse_perm _).nodup_iff.mpr h.nd
theorem turn_turn (ps : List (Int × Int)) : turn (turn ps) = ps := by
  unfold turn
  rw [← List.map_reverse, List.reverse_reverse, List.map_map]
  exact List.map_id' ps
theorem cat_prs {a b : List (Int × Int)} (h : a.length + b.length ≤ 1000) : binD .Add (.tuple (prs a)) (.tuple (prs b)) = some (.fz (.tuple (prs (a ++ b)))) := by
  rw [bin_cat (by rw [prs_len, prs_len]; show _ ≤ 16777216; omega), ← prs_app]
theorem drop_prs (ps : List (Int × Int)) (k : Nat) : (prs ps).drop k = prs (ps.drop k) := by simp [prs]
theorem take_prs (ps : List (Int × Int)) (k : Nat) : (prs ps).take k = prs (ps.take k) := by simp [prs]
theorem nx_if {F : Fs} {c : CE} {a b rest : CS} {r r1 : EV} {P : EV → Prop} (hc : evT F c r = .ok true r1) (h : Nx F a r1 fun r2 => Nx F rest r2 P) : Nx F (.seq (.ite c a b) rest) r P := by
  obtain ⟨r2, e, h2⟩ := h
  refine nx_seq r2 ?_ h2
  rw [exec_ite, hc]
  exact e

/-! ### more rules -/
@[simp] theorem hid_blt (b : Bn) (e : CE) : hidOf (.itr (.blt b e)) = [] := rfl
@[simp] theorem hid_lc (t : Bool) (g : List Nat) (a b c : CE) : hidOf (.itr (.lc t g a b c)) = [] := rfl
@[simp] theorem hid_slc (a b c : CE) : hidOf (.itr (.slc a b c)) = [] := rfl
@[simp] theorem hid_bin (o : Operator) (b c : CE) : hidOf (.itr (.bin o b c)) = [] := rfl
@[simp] theorem hid_tup (b : CE) : hidOf (.itr (.tup b)) = [] := rfl
@[simp] theorem hid_lst (b : CE) : hidOf (.itr (.lst b)) = [] := rfl
@[simp] theorem hid_idx (b c : CE) : hidOf (.itr (.idx b c)) = [] := rfl
@[simp] theorem hid_ite (a b c : CE) : hidOf (.itr (.ite a b c)) = [] := rfl
@[simp] theorem hid_rvs (b : CE) : hidOf (.rvs b) = [] := rfl
section
variable {F : Fs}
@[simp] theorem unp2 (i j : Nat) (a b : PyData) (r : EV) : unpO [i, j] (.tuple [a, b]) r = .ok .nx ((r.set i (some (.fz a))).set j (some (.fz b))) := rfl
@[simp] theorem unp3 (i j k : Nat) (a b c : PyData) (r : EV) : unpO [i, j, k] (.tuple [a, b, c]) r = .ok .nx (((r.set i (some (.fz a))).set j (some (.fz b))).set k (some (.fz c))) := rfl
@[simp] theorem unp4 (i j k l : Nat) (a b c d : PyData) (r : EV) : unpO [i, j, k, l] (.tuple [a, b, c, d]) r = .ok .nx ((((r.set i (some (.fz a))).set j (some (.fz b))).set k (some (.fz c))).set l (some (.fz d))) := rfl
@[simp] theorem unp5 (i j k l m : Nat) (a b c d e : PyData) (r : EV) : unpO [i, j, k, l, m] (.tuple [a, b, c, d, e]) r = .ok .nx (((((r.set i (some (.fz a))).set j (some (.fz b))).set k (some (.fz c))).set l (some (.fz d))).set m (some (.fz e))) := rfl
def tryO (x : Out Flow) (i : Option Nat) (f : Nat → EV → Out Flow) : Out Flow := match x with
  | .exc k r1 => noX i r1 (f k (hold i r1))
  | x => x
@[simp] theorem tryO_ok (f : Flow) (r : EV) (i : Option Nat) (g : Nat → EV → Out Flow) : tryO (.ok f r) i g = .ok f r := rfl
@[simp] theorem tryO_exc (k : Nat) (r : EV) (i : Option Nat) (g : Nat → EV → Out Flow) : tryO (.exc k r) i g = noX i r (g k (hold i r)) := rfl
@[simp] theorem tryO_bad (i : Option Nat) (g : Nat → EV → Out Flow) : tryO .bad i g = .bad := rfl
@[simp] theorem exec_tryE (b : CS) (i : Option Nat) (s0 s1 s2 s3 s4 : CS) (r : EV) : exec F (.tryE b i s0 s1 s2 s3 s4) r = tryO (exec F b r) i fun k r => exec F (sOf s0 s1 s2 s3 s4 k) r := by
  cases q : exec F b r with
  | exc k r1 => rw [exec_try q]; rfl
  | ok f r1 => rw [exec_tryN (fun k r2 z => by rw [q] at z; cases z), q]; rfl
  | bad => rw [exec_tryN (fun k r2 z => by rw [q] at z; cases z), q]; rfl
@[simp] theorem hold_some (i : Nat) (r : EV) : hold (some i) r = r.set i (some (.fz (mkX 0))) := rfl
@[simp] theorem hold_none (r : EV) : hold none r = r := rfl
@[simp] theorem noX_none (r : EV) (f : Flow) (r2 : EV) : noX none r (.ok f r2) = .ok f r2 := rfl
@[simp] theorem noX_some {i : Nat} {r : EV} (h : i < r.length) (f : Flow) (r2 : EV) : noX (some i) r (.ok f r2) = .ok f (r2.set i none) := by
  unfold noX
  simp [h, clr]
@[simp] theorem sOf0 (a b c d e : CS) : sOf a b c d e 0 = a := rfl
@[simp] theorem sOf1 (a b c d e : CS) : sOf a b c d e 1 = b := rfl
@[simp] theorem sOf2 (a b c d e : CS) : sOf a b c d e 2 = c := rfl
@[simp] theorem sOf3 (a b c d e : CS) : sOf a b c d e 3 = d := rfl
@[simp] theorem sOf4 (a b c d e : CS) : sOf a b c d e 4 = e := rfl
@[simp] theorem ev_isx {i : Nat} {r : EV} (b : Bool) (h : getS r i = some (.fz (mkX 0))) : ev F (.isx i none b) r = .ok (.fz (.bool b)) r := by
  rw [ev, h]
  exact if_pos rfl
@[simp] theorem mkO_isx (i : Nat) (o : Option Nat) (b : Bool) (r : EV) (x : Out Val) : mkO (.isx i o b) r x = x.bnd fun v r1 => .ok (.dat v.toD) r1 := rfl
@[simp] theorem retV_isx (i : Nat) (o : Option Nat) (b : Bool) (r : EV) : retV F (.isx i o b) r = (ev F (.isx i o b) r).bnd fun v r1 => .ok (.rt v) r1 := rfl
def putD (i : Nat) (x y : PyData) (r2 : EV) : Out Flow := match getS r2 i, y with
  | some (.ol ds), .int n => match L2.ixN ds.length n with
    | some j => .ok .nx (r2.set i (some (.ol (ds.set j x))))
    | none => .bad
  | _, _ => .bad
@[simp] theorem exec_put (i : Nat) (k v : CE) (r : EV) : exec F (.put i k v) r = (ev F v r).bnd fun x r1 => if !isOl r1 i then .bad else (ev F k r1).bnd fun y r2 => putD i x.toD y.toD r2 := by
  rw [exec]
  rfl
theorem putD_ol {i : Nat} {r : EV} {ds : List PyData} {n : Int} {x : PyData} (h : getS r i = some (.ol ds)) (h0 : 0 ≤ n) (hn : n < ds.length) : putD i x (.int n) r = .ok .nx (r.set i (some (.ol (ds.set n.toNat x)))) := by
  have e : L2.ixN ds.length n = some n.toNat := by
    unfold L2.ixN
    rw [if_pos h0, if_pos hn]
  unfold putD
  rw [h]
  dsimp only
  rw [e]
end
/-! ### fitting, behind, ahead -/
variable {T : List FD} {i : Nat}
def fit (p : Int × Int) (x : Int) : Option (Int × Int) := if p.1 = x then some p else if p.2 = x then some (swp2 p) else none
def resO : Option (List (Int × Int)) → Rt
  | some ps => .ret (.fz (.tuple (prs ps)))
  | none => .exc 1
def behB (ps : List (Int × Int)) (p : Int × Int) : Option (List (Int × Int)) := if ps = [] then some [p] else (fit p (lastP ps).2).map fun q => ps ++ [q]
def ahdB (ps : List (Int × Int)) (p : Int × Int) : Option (List (Int × Int)) := if ps = [] then some [p] else (behB (turn ps) p).map turn
theorem r_fitting {p : Int × Int} {x : Int} (h : T[i]? = some ⟨2, 4, libFitting⟩) : run T (n + 1) i [pr p, .int x] = match fit p x with
    | some q => .ret (.fz (pr q))
    | none => .exc 1 := by
  rw [run_def h rfl]
  unfold fit
  by_cases c1 : p.1 = x
  · rw [if_pos c1]
    simp [libFitting, ini, pr, c1]
  · rw [if_neg c1]
    by_cases c2 : p.2 = x
    · rw [if_pos c2]
      simp [libFitting, ini, pr, c1, c2, swp2]
    · rw [if_neg c2]
      simp [libFitting, ini, pr, c1, c2]
theorem r_behind {g : Nat} {ps : List (Int × Int)} {p : Int × Int} (h : T[i]? = some ⟨2, 2, libBehind g⟩) (hg : T[g]? = some ⟨2, 4, libFitting⟩) (hl : ps.length ≤ 500) : run T (n + 2) i [.tuple (prs ps), pr p] = resO (behB ps p) := by
  rw [run_def h rfl]
  unfold behB
  by_cases c : ps = []
  · subst c
    rw [if_pos rfl]
    simp [libBehind, ini, resO]
  · rw [if_neg c]
    have hp := lastP_of c
    have al : L2.atI (prs ps) (-1) = some (pr (lastP ps)) := atI_last (prs_last hp)
    have ne : (prs ps).isEmpty = false := by cases ps <;> first | exact absurd rfl c | rfl
    have f := r_fitting (n := n) (p := p) (x := (lastP ps).2) hg
    cases q : fit p (lastP ps).2 with
    | none =>
      rw [q] at f
      simp [libBehind, ini, ne, al, f, resO]
    | some r =>
      rw [q] at f
      have ct : binD .Add (.tuple (prs ps)) (.tuple [pr r]) = some (.fz (.tuple (prs (ps ++ [r])))) := cat_prs (b := [r]) (by simp only [List.length_singleton]; omega)
      simp [libBehind, ini, ne, al, f, ct, resO]
theorem turn_len (ps : List (Int × Int)) : (turn ps).length = ps.length := by simp [turn]
theorem turn_nil {ps : List (Int × Int)} : turn ps = [] ↔ ps = [] := by simp [turn]
theorem r_ahead {b g t : Nat} {ps : List (Int × Int)} {p : Int × Int} (h : T[i]? = some ⟨2, 2, libAhead b t⟩) (hb : T[b]? = some ⟨2, 2, libBehind g⟩) (hg : T[g]? = some ⟨2, 4, libFitting⟩) (ht : T[t]? = some ⟨1, 2, libTurned⟩) (hl : ps.length ≤ 500) : run T (n + 3) i [.tuple (prs ps), pr p] = resO (ahdB ps p) := by
  rw [run_def h rfl]
  unfold ahdB
  by_cases c : ps = []
  · subst c
    rw [if_pos rfl]
    simp [libAhead, ini, resO]
  · rw [if_neg c]
    have ne : (prs ps).isEmpty = false := by cases ps <;> first | exact absurd rfl c | rfl
    have t1 := r_turned (n := n + 1) (ps := ps) ht
    have b1 := r_behind (n := n) (ps := turn ps) (p := p) hb hg (by rw [turn_len]; exact hl)
    cases q : behB (turn ps) p with
    | none =>
      rw [q] at b1
      simp [libAhead, ini, ne, t1, b1, resO]
    | some r =>
      rw [q] at b1
      have t2 := r_turned (n := n + 1) (ps := r) ht
      simp [libAhead, ini, ne, t1, b1, t2, resO]
theorem fit_stn {p q : Int × Int} {x : Int} (h : fit p x = some q) : stn q = stn p ∧ q.1 = x ∧ q.2 = p.1 + p.2 - x := by
  unfold fit at h
  split at h
  · rename_i c
    cases h
    exact ⟨rfl, c, by omega⟩
  · split at h
    · rename_i c
      cases h
      exact ⟨stn_swp p, c, by show p.1 = _; omega⟩
    · cases h
theorem fit_none {p : Int × Int} {x : Int} : fit p x = none ↔ p.1 ≠ x ∧ p.2 ≠ x := by
  unfold fit
  split
  · rename_i c; simp [c]
  · split
    · rename_i c; simp [c]
    · rename_i c1 c2; simp [c1, c2]
theorem chn_behB {m : Int} {ps qs : List (Int × Int)} {p : Int × Int} (h : Chn m ps) (hp : 0 ≤ p.1 ∧ p.1 ≤ m ∧ 0 ≤ p.2 ∧ p.2 ≤ m) (hn : stn p ∉ ps.map stn) (e : behB ps p = some qs) : Chn m qs ∧ qs.length = ps.length + 1 := by
  unfold behB at e
  split at e
  · rename_i c
    subst c
    cases e
    exact ⟨(Chn.nil m).snoc (a := p.1) (b := p.2) ⟨hp.1, hp.2.1⟩ ⟨hp.2.2.1, hp.2.2.2⟩ (fun q hq => by simp at hq) (by simp), rfl⟩
  · rename_i c
    obtain ⟨q, e1, rfl⟩ := Option.map_eq_some_iff.mp e
    obtain ⟨f1, f2, f3⟩ := fit_stn e1
    have hl := lastP_of c
    have rg := h.rng _ (List.mem_of_getLast? hl)
    refine ⟨?_, by simp⟩
    have q0 : 0 ≤ q.2 ∧ q.2 ≤ m := by
      unfold fit at e1
      split at e1
      · cases e1; exact ⟨hp.2.2.1, hp.2.2.2⟩
      · split at e1
        · cases e1; exact ⟨hp.1, hp.2.1⟩
        · cases e1
    refine h.snoc (a := q.1) (b := q.2) (by rw [f2]; exact ⟨rg.2.2.1, rg.2.2.2⟩) q0 (fun r hr => ?_) (by show stn q ∉ _; rw [f1]; exact hn)
    rw [hl] at hr
    cases hr
    exact f2.symm
theorem map_stn_turn (ps : List (Int × Int)) : (turn ps).map stn = (ps.map stn).reverse := by
  unfold turn
  rw [List.map_map, ← List.map_reverse]
  exact List.map_congr_left fun p _ => stn_swp p
theorem chn_ahdB {m : Int} {ps qs : List (Int × Int)} {p : Int × Int} (h : Chn m ps) (hp : 0 ≤ p.1 ∧ p.1 ≤ m ∧ 0 ≤ p.2 ∧ p.2 ≤ m) (hn : stn p ∉ ps.map stn) (e : ahdB ps p = some qs) : Chn m qs ∧ qs.length = ps.length + 1 := by
  unfold ahdB at e
  split at e
  · rename_i c
    subst c
    exact chn_behB h hp hn (by unfold behB; rw [if_pos rfl]; exact e)
  · obtain ⟨q, e1, rfl⟩ := Option.map_eq_some_iff.mp e
    obtain ⟨g1, g2⟩ := chn_behB (chn_turn h) hp (by rw [map_stn_turn, List.mem_reverse]; exact hn) e1
    exact ⟨chn_turn g1, by rw [turn_len, g2, turn_len]⟩
theorem lastP_turn {p : Int × Int} {r : List (Int × Int)} : lastP (turn (p :: r)) = swp2 p := by
  unfold lastP turn
  simp
theorem ahdB_eq {p : Int × Int} {a : Int × Int} {r : List (Int × Int)} : ahdB (a :: r) p = (fit p a.1).map fun q => swp2 q :: a :: r := by
  unfold ahdB
  rw [if_neg (by simp)]
  unfold behB
  rw [if_neg (by rw [turn_nil]; simp), lastP_turn]
  show Option.map turn (Option.map _ (fit p a.1)) = _
  rw [Option.map_map]
  congr 1
  funext q
  show turn (turn (a :: r) ++ [q]) = _
  unfold turn
  rw [List.reverse_append, List.map_append, ← List.map_reverse, List.reverse_reverse, List.map_map]
  show swp2 q :: List.map _ (a :: r) = _
  congr 1
  exact List.map_id' (a :: r)
/-! ### filters of pairs -/
def keepP (P : Int × Int → Bool) : PyData → Option PyData
  | .tuple [.int a, .int b] => if P (a, b) then some (pr (a, b)) else none
  | _ => none
theorem keepP_pr (P : Int × Int → Bool) (p : Int × Int) : keepP P (pr p) = if P p then some (pr p) else none := rfl
theorem fm_prs (P : Int × Int → Bool) : ∀ qs : List (Int × Int), (prs qs).filterMap (keepP P) = prs (qs.filter P)
  | [] => rfl
  | q :: qs => by
    show (pr q :: prs qs).filterMap _ = _
    cases c : P q with
    | true =>
      rw [List.filterMap_cons_some (b := pr q) (by rw [keepP_pr, c]; rfl), fm_prs P qs, List.filter_cons_of_pos c]
      rfl
    | false => rw [List.filterMap_cons_none (by rw [keepP_pr, c]; rfl), fm_prs P qs, List.filter_cons_of_neg (by rw [c]; decide)]
theorem inD_pr (x : Int) (p : Int × Int) : inD (.int x) (pr p) = some (decide (p.1 = x ∨ p.2 = x)) := by
  show (if SeqAt.shaped (.int x) && SeqAt.shaped (pr p) then some (([PyData.int p.1, .int p.2]).any fun z => PyData.eqv z (.int x)) else none) = _
  rw [shaped_pr, show SeqAt.shaped (.int x) = true from rfl]
  show some (decide (p.1 = x) || (decide (p.2 = x) || false)) = _
  rw [Bool.or_false, Bool.decide_or]
theorem sum_pr (p : Int × Int) : bltD .sum [pr p] = some (.fz (.int (p.1 + p.2))) := by
  show some (Val.fz (.int (p.1 + (p.2 + 0)))) = _
  rw [Int.add_zero]
theorem mem_allP {m : Int} {p : Int × Int} (h : p ∈ allP m) : 0 ≤ p.1 ∧ p.1 ≤ p.2 ∧ p.2 ≤ m := by
  unfold allP at h
  obtain ⟨lo, h1, h2⟩ := List.mem_flatMap.mp h
  obtain ⟨k, h3, rfl⟩ := List.mem_map.mp h2
  have h1 := List.mem_range.mp h1
  have h3 := List.mem_range.mp h3
  exact ⟨by show (0 : Int) ≤ lo; omega, by show (lo : Int) ≤ lo + k; omega, by show (lo : Int) + k ≤ m; omega⟩
theorem stn_low {p : Int × Int} (h : p.1 ≤ p.2) : stn p = p := by
  show (min p.1 p.2, max p.1 p.2) = p
  rw [show min p.1 p.2 = p.1 by omega, show max p.1 p.2 = p.2 by omega]
end
end SC

set_option Elab.async false
set_option maxRecDepth 100000
set_option maxHeartbeats 4000000
/-! SD1: sorting, moves, stands. -/
namespace SC
open PySem L2
/-! ### sorting pairs -/
theorem insR_prs (y : Int × Int) : ∀ xs : List (Int × Int), insR ltD (pr y) (prs xs) = prs (insR lexP y xs)
  | [] => rfl
  | x :: xs => by
    show (if ltD (pr y) (pr x) then pr y :: pr x :: prs xs else pr x :: insR ltD (pr y) (prs xs)) = prs (if lexP y x then y :: x :: xs else x :: insR lexP y xs)
    rw [show ltD (pr y) (pr x) = lexP y x from rfl, insR_prs y xs]
    split <;> rfl
theorem fold_prs : ∀ (xs acc : List (Int × Int)), (prs xs).foldl (fun acc y => insR ltD y acc) (prs acc) = prs (xs.foldl (fun acc y => insR lexP y acc) acc)
  | [], acc => rfl
  | x :: xs, acc => by
    show (prs xs).foldl _ (insR ltD (pr x) (prs acc)) = _
    rw [insR_prs, fold_prs xs]
    rfl
def srt (xs : List (Int × Int)) : List (Int × Int) := isort lexP xs
theorem isort_prs (xs : List (Int × Int)) : isort ltD (prs xs) = prs (srt xs) := fold_prs xs []
theorem srtOk_prs (xs : List (Int × Int)) : srtOk (prs xs) = true := by
  unfold srtOk
  rw [show (prs xs).all isPrD = true by
    rw [List.all_eq_true]
    intro d hd
    obtain ⟨p, _, rfl⟩ := List.mem_map.mp hd
    rfl]
  simp
theorem sort_tup (xs : List (Int × Int)) : sortD (.tuple (prs xs)) = some (prs (srt xs)) := by
  unfold sortD
  rw [show itemsD (.tuple (prs xs)) = some (prs xs) from rfl, Option.bind_some, if_pos (srtOk_prs xs), isort_prs]
theorem sort_lst (xs : List (Int × Int)) : sortD (.list (prs xs)) = some (prs (srt xs)) := by
  unfold sortD
  rw [show itemsD (.list (prs xs)) = some (prs xs) from rfl, Option.bind_some, if_pos (srtOk_prs xs), isort_prs]
theorem insR_perm {α : Type} (lt : α → α → Bool) (y : α) : ∀ xs : List α, (insR lt y xs).Perm (y :: xs)
  | [] => List.Perm.refl _
  | x :: xs => by
    unfold insR
    split
    · exact List.Perm.refl _
    · exact ((insR_perm lt y xs).cons x).trans (List.Perm.swap y x xs)
theorem isort_perm {α : Type} (lt : α → α → Bool) (xs : List α) : (isort lt xs).Perm xs := by
  have go : ∀ (xs acc : List α), (xs.foldl (fun acc y => insR lt y acc) acc).Perm (xs ++ acc) := by
    intro xs
    induction xs with
    | nil => exact fun acc => List.Perm.refl _
    | cons x xs ih =>
      intro acc
      refine (ih _).trans ?_
      exact (List.Perm.append_left xs (insR_perm lt x acc)).trans List.perm_middle
  have := go xs []
  rwa [List.append_nil] at this
theorem srt_len (xs : List (Int × Int)) : (srt xs).length = xs.length := (isort_perm lexP xs).length_eq
theorem srt_mem {xs : List (Int × Int)} {p : Int × Int} : p ∈ srt xs ↔ p ∈ xs := (isort_perm lexP xs).mem_iff
/-! ### moves -/
def sideS : Bool → Str
  | true => "left"
  | false => "right"
def mvD (m : (Int × Int) × Bool) : PyData := .tuple [pr m.1, .str (sideS m.2)]
def has (p : Int × Int) (x : Int) : Bool := decide (p.1 = x ∨ p.2 = x)
def mv1 (a b : Int) (p : Int × Int) : List ((Int × Int) × Bool) := (if has p a then [(p, true)] else []) ++ (if has p b then [(p, false)] else [])
def mvs (h ps : List (Int × Int)) : List ((Int × Int) × Bool) := match ps with
  | [] => (srt h).map fun p => (p, false)
  | a :: r => (srt h).flatMap (mv1 a.1 (lastP (a :: r)).2)
theorem mv1_len (a b : Int) (p : Int × Int) : (mv1 a b p).length ≤ 2 := by
  unfold mv1
  split <;> split <;> simp
theorem fm_len (a b : Int) : ∀ xs : List (Int × Int), (xs.flatMap (mv1 a b)).length ≤ 2 * xs.length
  | [] => by simp
  | x :: xs => by
    rw [List.flatMap_cons, List.length_append, List.length_cons]
    have := fm_len a b xs
    have := mv1_len a b x
    omega
def endsD : List (Int × Int) → PyData
  | [] => .none
  | p :: r => .tuple [.int p.1, .int (lastP (p :: r)).2]
section
variable {T : List FD} {i n : Nat}
theorem prs_ne {a : Int × Int} {r : List (Int × Int)} : (prs (a :: r)).isEmpty = false := rfl
theorem at_last {a : Int × Int} {r : List (Int × Int)} : L2.atI (prs (a :: r)) (-1) = some (pr (lastP (a :: r))) := atI_last (prs_last (lastP_of (by simp)))
theorem at_first {a : Int × Int} {r : List (Int × Int)} : L2.atI (prs (a :: r)) 0 = some (pr a) := atI_of (by omega) rfl
theorem r_ends {ps : List (Int × Int)} (h : T[i]? = some ⟨1, 1, libEnds⟩) : run T (n + 1) i [.tuple (prs ps)] = .ret (.fz (endsD ps)) := by
  rw [run_def h rfl]
  cases ps with
  | nil => simp [libEnds, ini, endsD]
  | cons a r =>
    have e1 := at_first (a := a) (r := r)
    have e2 := at_last (a := a) (r := r)
    have e3 := prs_ne (a := a) (r := r)
    generalize hz : lastP (a :: r) = z at *
    show fin (exec _ libEnds [some (.fz (.tuple (prs (a :: r))))]) = .ret (.fz (.tuple [.int a.1, .int (lastP (a :: r)).2]))
    rw [hz]
    generalize prs (a :: r) = P at *
    simp [libEnds, e1, e2, e3]
def mvB (e : Nat) : CS := match libMovesOn e with
  | .seq _ (.seq _ (.seq _ (.seq (.forS _ _ _ b) _))) => b
  | _ => .bad
theorem mv_step (F : Fs) (e : Nat) {x0 x1 : Option Val} {L R : Int} {p : Int × Int} {fs : List ((Int × Int) × Bool)} (hf : fs.length ≤ 10000) :
    exec F (mvB e) [x0, x1, some (.fz (pr p)), some (.fz (.int L)), some (.fz (.int R)), some (.ol (fs.map mvD))] = .ok .nx [x0, x1, some (.fz (pr p)), some (.fz (.int L)), some (.fz (.int R)), some (.ol ((fs ++ mv1 L R p).map mvD))] := by
  unfold mvB libMovesOn
  dsimp only
  have i1 := inD_pr L p
  have i2 := inD_pr R p
  have z : ∀ gs : List ((Int × Int) × Bool), gs.length ≤ 10001 → ∀ d, appD 5 d [x0, x1, some (.fz (pr p)), some (.fz (.int L)), some (.fz (.int R)), some (.ol (gs.map mvD))] = .ok (.fz .none) [x0, x1, some (.fz (pr p)), some (.fz (.int L)), some (.fz (.int R)), some (.ol (gs.map mvD ++ [d]))] := fun gs hg d => appD_ol (i := 5) rfl (by
    rw [List.length_map]
    show _ < 16777216
    omega) d
  have z1 := z fs (by omega)
  have z2 := z (fs ++ [(p, true)]) (by simp; omega)
  simp [mvD, sideS] at z2
  unfold mv1 has
  by_cases c1 : p.1 = L ∨ p.2 = L <;> by_cases c2 : p.1 = R ∨ p.2 = R <;> simp [i1, i2, c1, c2, z1, z2, mvD, sideS]
theorem r_moves {e : Nat} {d : PyData} {h ps : List (Int × Int)} (hT : T[i]? = some ⟨2, 6, libMovesOn e⟩) (he : T[e]? = some ⟨1, 1, libEnds⟩) (hd : sortD d = some (prs (srt h))) (hl : h.length ≤ 1000) :
    run T (n + 2) i [d, .tuple (prs ps)] = .ret (.fz (.tuple ((mvs h ps).map mvD))) := by
  rw [run_def hT rfl]
  have en := r_ends (n := n) (ps := ps) he
  show fin (exec (run T (n + 1)) (libMovesOn e) [some (.fz d), some (.fz (.tuple (prs ps))), none, none, none, none]) = _
  generalize run T (n + 1) = F at *
  cases ps with
  | nil =>
    have l1 := fun hid => lc_map (tup := false) (tg := [2]) (hid := hid) (c := evT F (.tval (.cst (.bool true)))) (e := ev F (.tup (.cons (.var 2) (.cons (.cst (.str "right")) .nil)))) (r := [some (.fz d), some (.fz (.tuple [])), none, none, none, none]) (ds := prs (srt h)) (acc := []) (fun d => .tuple [d, .str "right"]) (fun x hx => by simp [itemO_one])
    have e1 : (prs (srt h)).map (fun d => PyData.tuple [d, .str "right"]) = (mvs h []).map mvD := by
      unfold prs mvs
      rw [List.map_map, List.map_map]
      rfl
    rw [e1] at l1
    simp [libMovesOn, hd, l1]
  | cons a r =>
    show fin (exec F (.seq (.ite (.tnot (.tval (.var 1))) (.seq (.ret (.blt .tuple (.cons (.lc false [2] (.itr (.blt .sorted (.cons (.var 0) .nil))) (.tval (.cst (.bool true))) (.tup (.cons (.var 2) (.cons (.cst (.str "right")) .nil)))) .nil))) .nil) .nil) (.seq (.unp [3, 4] (.call e (.cons (.var 1) .nil))) (.seq (.set 5 (.lst .nil)) (.seq (.forS false [2] (.itr (.blt .sorted (.cons (.var 0) .nil))) (mvB e)) (.seq (.ret (.blt .tuple (.cons (.var 5) .nil))) .nil))))) _) = _
    have ne := prs_ne (a := a) (r := r)
    have en : F e [.tuple (prs (a :: r))] = .ret (.fz (.tuple [.int a.1, .int (lastP (a :: r)).2])) := en
    refine fn_seq [some (.fz d), some (.fz (.tuple (prs (a :: r)))), none, none, none, none] (by generalize prs (a :: r) = P at *; simp [ne]) ?_
    refine fn_seq [some (.fz d), some (.fz (.tuple (prs (a :: r)))), none, some (.fz (.int a.1)), some (.fz (.int (lastP (a :: r)).2)), none] (by generalize prs (a :: r) = P at *; simp [en]) ?_
    refine fn_seq [some (.fz d), some (.fz (.tuple (prs (a :: r)))), none, some (.fz (.int a.1)), some (.fz (.int (lastP (a :: r)).2)), some (.ol [])] (by simp) ?_
    refine fn_for (I := fun j rr => ∃ x2, rr = [some (.fz d), some (.fz (.tuple (prs (a :: r)))), x2, some (.fz (.int a.1)), some (.fz (.int (lastP (a :: r)).2)), some (.ol ((((srt h).take j).flatMap (mv1 a.1 (lastP (a :: r)).2)).map mvD))]) (ds := prs (srt h)) (r0 := [some (.fz d), some (.fz (.tuple (prs (a :: r)))), none, some (.fz (.int a.1)), some (.fz (.int (lastP (a :: r)).2)), some (.ol [])]) (by simp [hd]) ⟨none, rfl⟩ ?_ ?_
    · intro j x rr hx hi
      obtain ⟨x2, rfl⟩ := hi
      unfold prs at hx
      rw [List.getElem?_map] at hx
      obtain ⟨p, hp, rfl⟩ := Option.map_eq_some_iff.mp hx
      have hj := (List.getElem?_eq_some_iff.mp hp).1
      refine ⟨_, rfl, _, mv_step F e ?_, some (.fz (pr p)), ?_⟩
      · have := fm_len a.1 (lastP (a :: r)).2 ((srt h).take j)
        rw [List.length_take, srt_len] at this
        omega
      · have e1 : (srt h).take (j + 1) = (srt h).take j ++ [p] := by
          rw [List.take_succ, hp]
          rfl
        rw [e1, List.flatMap_append]
        simp
    · rintro rr ⟨x2, rfl⟩
      rw [prs_len, List.take_length]
      simp [mvs]
theorem eqD_pr (p q : Int × Int) : eqD (pr p) (pr q) = some (decide (p = q)) := by
  show (if SeqAt.shaped (pr p) && SeqAt.shaped (pr q) then some (PyData.eqv (pr p) (pr q)) else none) = _
  rw [shaped_pr, shaped_pr, eqv_pr]
  rfl
theorem r_without {h : List (Int × Int)} {p : Int × Int} (hT : T[i]? = some ⟨2, 3, libWithout⟩) : run T (n + 1) i [.tuple (prs h), pr p] = .ret (.fz (.tuple (prs (h.filter fun q => decide (q ≠ p))))) := by
  rw [run_def hT rfl]
  show fin (exec (run T n) libWithout [some (.fz (.tuple (prs h))), some (.fz (pr p)), none]) = _
  generalize run T n = F
  have l1 := fun hid => lc_go (tup := false) (tg := [2]) (hid := hid) (c := evT F (.tval (.cmp .NotEq (.var 2) (.var 1)))) (e := ev F (.var 2)) (r := [none, some (.fz (pr p)), none]) (f := keepP fun q => decide (q ≠ p)) (prs h) [] (fun x hx => by
    obtain ⟨q, _, rfl⟩ := List.mem_map.mp hx
    have ee := eqD_pr q p
    rw [keepP_pr]
    by_cases c : q = p
    · rw [decide_eq_true c] at ee
      simp [itemO_one, ee, c]
      rw [c] at ee
      simp [ee]
    · rw [decide_eq_false c] at ee
      simp [itemO_one, ee, c])
  rw [fm_prs] at l1
  simp [libWithout, l1]
def more (b : Bool) (ps : List (Int × Int)) (p : Int × Int) : Option (List (Int × Int)) := if b then ahdB ps p else behB ps p
theorem side_eq (b : Bool) : eqD (.str (sideS b)) (.str "left") = some b := by cases b <;> decide +kernel
theorem r_more {a e f t : Nat} {ps : List (Int × Int)} {p : Int × Int} {b : Bool} (hT : T[i]? = some ⟨3, 3, libWithMore a e⟩) (ha : T[a]? = some ⟨2, 2, libAhead e t⟩) (he : T[e]? = some ⟨2, 2, libBehind f⟩) (hf : T[f]? = some ⟨2, 4, libFitting⟩) (ht : T[t]? = some ⟨1, 2, libTurned⟩) (hl : ps.length ≤ 500) :
    run T (n + 4) i [.tuple (prs ps), pr p, .str (sideS b)] = resO (more b ps p) := by
  rw [run_def hT rfl]
  have h1 := r_ahead (n := n) (ps := ps) (p := p) ha he hf ht hl
  have h2 := r_behind (n := n + 1) (ps := ps) (p := p) he hf hl
  have se := side_eq b
  show fin (exec (run T (n + 3)) (libWithMore a e) [some (.fz (.tuple (prs ps))), some (.fz (pr p)), some (.fz (.str (sideS b)))]) = _
  generalize run T (n + 3) = F at *
  unfold more
  cases b with
  | true =>
    cases q : ahdB ps p with
    | none => rw [q] at h1; simp [libWithMore, se, h1, resO]
    | some x => rw [q] at h1; simp [libWithMore, se, h1, resO]
  | false =>
    cases q : behB ps p with
    | none => rw [q] at h2; simp [libWithMore, se, h2, resO]
    | some x => rw [q] at h2; simp [libWithMore, se, h2, resO]
/-! ### the law's own moves -/
def lmvB : CS := match libLawMoves with
  | .seq _ (.seq _ (.seq (.forS _ _ _ b) _)) => b
  | _ => .bad
theorem lmv_step (F : Fs) {x0 : Option Val} {a : Int × Int} {r : List (Int × Int)} {p : Int × Int} {fs : List ((Int × Int) × Bool)} (hf : fs.length ≤ 10000) :
    exec F lmvB [x0, some (.fz (.tuple (prs (a :: r)))), some (.fz (pr p)), some (.ol (fs.map mvD))] = .ok .nx [x0, some (.fz (.tuple (prs (a :: r)))), some (.fz (pr p)), some (.ol ((fs ++ mv1 a.1 (lastP (a :: r)).2 p).map mvD))] := by
  have e1 := at_first (a := a) (r := r)
  have e2 := at_last (a := a) (r := r)
  generalize lastP (a :: r) = w at *
  generalize prs (a :: r) = P at *
  unfold lmvB libLawMoves
  dsimp only
  have i1 := inD_pr a.1 p
  have i2 := inD_pr w.2 p
  have z : ∀ gs : List ((Int × Int) × Bool), gs.length ≤ 10001 → ∀ d, appD 3 d [x0, some (.fz (.tuple P)), some (.fz (pr p)), some (.ol (gs.map mvD))] = .ok (.fz .none) [x0, some (.fz (.tuple P)), some (.fz (pr p)), some (.ol (gs.map mvD ++ [d]))] := fun gs hg d => appD_ol (i := 3) rfl (by
    rw [List.length_map]
    show _ < 16777216
    omega) d
  have z1 := z fs (by omega)
  have z2 := z (fs ++ [(p, true)]) (by simp; omega)
  simp [mvD, sideS] at z2
  unfold mv1 has
  by_cases c1 : p.1 = a.1 ∨ p.2 = a.1 <;> by_cases c2 : p.1 = w.2 ∨ p.2 = w.2 <;> simp [i1, i2, c1, c2, z1, z2, mvD, sideS, e1, e2]
theorem eqD_emp (ps : List (Int × Int)) : eqD (.tuple (prs ps)) (.tuple []) = some ps.isEmpty := by
  have := eqD_prs ps []
  rw [prs_nil] at this
  rw [this]
  cases ps <;> rfl
theorem r_lmoves {d : PyData} {h ps : List (Int × Int)} (hT : T[i]? = some ⟨2, 4, libLawMoves⟩) (hd : sortD d = some (prs (srt h))) (hl : h.length ≤ 1000) :
    run T (n + 1) i [d, .tuple (prs ps)] = .ret (.fz (.tuple ((mvs h ps).map mvD))) := by
  rw [run_def hT rfl]
  show fin (exec (run T n) libLawMoves [some (.fz d), some (.fz (.tuple (prs ps))), none, none]) = _
  generalize run T n = F at *
  have en := eqD_emp ps
  cases ps with
  | nil =>
    have l1 := fun hid => lc_map (tup := false) (tg := [2]) (hid := hid) (c := evT F (.tval (.cst (.bool true)))) (e := ev F (.tup (.cons (.var 2) (.cons (.cst (.str "right")) .nil)))) (r := [some (.fz d), some (.fz (.tuple [])), none, none]) (ds := prs (srt h)) (acc := []) (fun d => .tuple [d, .str "right"]) (fun x hx => by simp [itemO_one])
    have e1 : (prs (srt h)).map (fun d => PyData.tuple [d, .str "right"]) = (mvs h []).map mvD := by
      unfold prs mvs
      rw [List.map_map, List.map_map]
      rfl
    rw [e1] at l1
    rw [prs_nil] at en
    simp [libLawMoves, hd, l1, en]
  | cons a r =>
    show fin (exec F (.seq (.ite (.tval (.cmp .Eq (.var 1) (.tup .nil))) (.seq (.ret (.blt .tuple (.cons (.lc false [2] (.itr (.blt .sorted (.cons (.var 0) .nil))) (.tval (.cst (.bool true))) (.tup (.cons (.var 2) (.cons (.cst (.str "right")) .nil)))) .nil))) .nil) .nil) (.seq (.set 3 (.lst .nil)) (.seq (.forS false [2] (.itr (.blt .sorted (.cons (.var 0) .nil))) lmvB) (.seq (.ret (.blt .tuple (.cons (.var 3) .nil))) .nil)))) _) = _
    refine fn_seq [some (.fz d), some (.fz (.tuple (prs (a :: r)))), none, none] (by generalize prs (a :: r) = P at *; simp [en]) ?_
    refine fn_seq [some (.fz d), some (.fz (.tuple (prs (a :: r)))), none, some (.ol [])] (by simp) ?_
    refine fn_for (I := fun j rr => ∃ x2, rr = [some (.fz d), some (.fz (.tuple (prs (a :: r)))), x2, some (.ol ((((srt h).take j).flatMap (mv1 a.1 (lastP (a :: r)).2)).map mvD))]) (ds := prs (srt h)) (r0 := [some (.fz d), some (.fz (.tuple (prs (a :: r)))), none, some (.ol [])]) (by simp [hd]) ⟨none, rfl⟩ ?_ ?_
    · intro j x rr hx hi
      obtain ⟨x2, rfl⟩ := hi
      unfold prs at hx
      rw [List.getElem?_map] at hx
      obtain ⟨p, hp, rfl⟩ := Option.map_eq_some_iff.mp hx
      refine ⟨_, rfl, _, lmv_step F ?_, some (.fz (pr p)), ?_⟩
      · have := fm_len a.1 (lastP (a :: r)).2 ((srt h).take j)
        rw [List.length_take, srt_len] at this
        omega
      · have e1 : (srt h).take (j + 1) = (srt h).take j ++ [p] := by
          rw [List.take_succ, hp]
          rfl
        rw [e1, List.flatMap_append]
        simp
    · rintro rr ⟨x2, rfl⟩
      rw [prs_len, List.take_length]
      simp [mvs]
def laid (ps : List (Int × Int)) (p : Int × Int) (b : Bool) : List (Int × Int) := match ps with
  | [] => [p]
  | a :: r => if b then (p.1 + p.2 - a.1, a.1) :: a :: r else (a :: r) ++ [((lastP (a :: r)).2, p.1 + p.2 - (lastP (a :: r)).2)]
theorem laid_len (ps : List (Int × Int)) (p : Int × Int) (b : Bool) : (laid ps p b).length = ps.length + 1 := by
  cases ps with
  | nil => rfl
  | cons a r =>
    unfold laid
    cases b <;> simp
theorem r_laid {ps : List (Int × Int)} {p : Int × Int} {b : Bool} (hT : T[i]? = some ⟨3, 3, libLawLaid⟩) (hl : ps.length ≤ 500) : run T (n + 1) i [.tuple (prs ps), pr p, .str (sideS b)] = .ret (.fz (.tuple (prs (laid ps p b)))) := by
  rw [run_def hT rfl]
  show fin (exec (run T n) libLawLaid [some (.fz (.tuple (prs ps))), some (.fz (pr p)), some (.fz (.str (sideS b)))]) = _
  generalize run T n = F at *
  have en := eqD_emp ps
  have se := side_eq b
  have sm := sum_pr p
  cases ps with
  | nil =>
    rw [prs_nil] at en
    simp [libLawLaid, en, laid]
  | cons a r =>
    have e1 := at_first (a := a) (r := r)
    have e2 := at_last (a := a) (r := r)
    have hl : r.length + 1 ≤ 500 := hl
    have c0 : binD .Add (.tuple (prs (a :: r))) (.tuple [.tuple [.int (lastP (a :: r)).2, .int (p.1 + p.2 - (lastP (a :: r)).2)]]) = some (.fz (.tuple (prs ((a :: r) ++ [((lastP (a :: r)).2, p.1 + p.2 - (lastP (a :: r)).2)])))) := cat_prs (b := [((lastP (a :: r)).2, p.1 + p.2 - (lastP (a :: r)).2)]) (by simp only [List.length_cons, List.length_nil]; omega)
    have c1 : binD .Add (.tuple [.tuple [.int (p.1 + p.2 - a.1), .int a.1]]) (.tuple (prs (a :: r))) = some (.fz (.tuple (prs ((p.1 + p.2 - a.1, a.1) :: a :: r)))) := cat_prs (a := [(p.1 + p.2 - a.1, a.1)]) (by simp only [List.length_cons, List.length_nil]; omega)
    have lt : laid (a :: r) p true = (p.1 + p.2 - a.1, a.1) :: a :: r := rfl
    have lf : laid (a :: r) p false = (a :: r) ++ [((lastP (a :: r)).2, p.1 + p.2 - (lastP (a :: r)).2)] := rfl
    have en : eqD (.tuple (prs (a :: r))) (.tuple []) = some false := en
    cases b with
    | true =>
      rw [lt]
      generalize prs ((p.1 + p.2 - a.1, a.1) :: a :: r) = P1 at *
      generalize prs (a :: r) = P at *
      simp [libLawLaid, en, se, e1, sm, c1]
    | false =>
      rw [lf]
      generalize prs ((a :: r) ++ [((lastP (a :: r)).2, p.1 + p.2 - (lastP (a :: r)).2)]) = P2 at *
      generalize lastP (a :: r) = w at *
      generalize prs (a :: r) = P at *
      simp [libLawLaid, en, se, e2, sm, c0]
theorem laid_more {h ps : List (Int × Int)} {p : Int × Int} {b : Bool} (hm : (p, b) ∈ mvs h ps) : more b ps p = some (laid ps p b) ∧ p ∈ h := by
  cases ps with
  | nil =>
    obtain ⟨q, hq, e⟩ := List.mem_map.mp hm
    cases e
    exact ⟨rfl, srt_mem.mp hq⟩
  | cons a r =>
    obtain ⟨q, hq, e⟩ := List.mem_flatMap.mp hm
    unfold mv1 has at e
    rw [List.mem_append] at e
    have nn : ∀ {x : Int}, (q.1 = x ∨ q.2 = x) → ∃ v, fit q x = some v := fun {x} c => by
      cases z : fit q x with
      | none =>
        have := fit_none.mp z
        exact absurd c (by rintro (c | c); exact this.1 c; exact this.2 c)
      | some v => exact ⟨v, rfl⟩
    rcases e with e | e
    · by_cases c : q.1 = a.1 ∨ q.2 = a.1
      · rw [if_pos (decide_eq_true c), List.mem_singleton] at e
        cases e
        refine ⟨?_, srt_mem.mp hq⟩
        obtain ⟨v, hv⟩ := nn c
        obtain ⟨_, f2, f3⟩ := fit_stn hv
        show ahdB (a :: r) p = _
        rw [ahdB_eq, hv]
        show some ((v.2, v.1) :: a :: r) = some ((p.1 + p.2 - a.1, a.1) :: a :: r)
        rw [f2, f3]
      · rw [if_neg (by simpa using c)] at e
        cases e
    · by_cases c : q.1 = (lastP (a :: r)).2 ∨ q.2 = (lastP (a :: r)).2
      · rw [if_pos (decide_eq_true c), List.mem_singleton] at e
        cases e
        refine ⟨?_, srt_mem.mp hq⟩
        obtain ⟨v, hv⟩ := nn c
        obtain ⟨_, f2, f3⟩ := fit_stn hv
        show behB (a :: r) p = _
        unfold behB
        rw [if_neg (by simp), hv]
        show some ((a :: r) ++ [(v.1, v.2)]) = some ((a :: r) ++ [((lastP (a :: r)).2, p.1 + p.2 - (lastP (a :: r)).2)])
        rw [f2, f3]
      · rw [if_neg (by simpa using c)] at e
        cases e
/-! ### stands -/
def stD (A B ps : List (Int × Int)) (t s : Int) : PyData := .tuple [.tuple [.tuple (prs A), .tuple (prs B)], .tuple (prs ps), .int t, .int s]
def over (A B : List (Int × Int)) (s : Int) : Bool := (A.isEmpty || B.isEmpty) || decide (1 < s)
theorem gd_hands (A B : List (Int × Int)) : Gd1 3 (.tuple [.tuple (prs A), .tuple (prs B)]) := Gd1.tup fun d hd => by
  simp at hd
  rcases hd with rfl | rfl <;> exact prs_gd _
theorem in_hands (A B : List (Int × Int)) : inD (.tuple []) (.tuple [.tuple (prs A), .tuple (prs B)]) = some (A.isEmpty || B.isEmpty) := by
  show (if SeqAt.shaped (.tuple []) && SeqAt.shaped (.tuple [.tuple (prs A), .tuple (prs B)]) then some (PyData.eqvAll (prs A) [] || (PyData.eqvAll (prs B) [] || false)) else none) = _
  rw [(gd_hands A B).shaped (by omega), show SeqAt.shaped (.tuple []) = true by decide +kernel]
  have h1 := eqvAll_prs A []
  have h2 := eqvAll_prs B []
  rw [prs_nil] at h1 h2
  rw [h1, h2]
  cases A <;> cases B <;> rfl
theorem r_isover {A B ps : List (Int × Int)} {t s : Int} (hT : T[i]? = some ⟨1, 5, libIsOver⟩) : run T (n + 1) i [stD A B ps t s] = .ret (.fz (.bool (over A B s))) := by
  rw [run_def hT rfl]
  have ih := in_hands A B
  unfold over
  cases q : (A.isEmpty || B.isEmpty) with
  | true => rw [q] at ih; simp [libIsOver, ini, stD, ih]
  | false => rw [q] at ih; simp [libIsOver, ini, stD, ih]
theorem r_lended {A B ps : List (Int × Int)} {t s : Int} (hT : T[i]? = some ⟨1, 1, libLawEnded⟩) : run T (n + 1) i [stD A B ps t s] = .ret (.fz (.bool (over A B s))) := by
  rw [run_def hT rfl]
  have ih := in_hands A B
  unfold over
  have a0 : ∀ (a b c d : PyData), L2.atI [a, b, c, d] 0 = some a := fun _ _ _ _ => rfl
  have a3 : ∀ (a b c d : PyData), L2.atI [a, b, c, d] 3 = some d := fun _ _ _ _ => rfl
  cases q : (A.isEmpty || B.isEmpty) with
  | true => rw [q] at ih; simp [libLawEnded, ini, stD, ih, a0, a3]
  | false => rw [q] at ih; simp [libLawEnded, ini, stD, ih, a0, a3]
def skipD : PyData := .tuple [.str "skip"]
def layD (m : (Int × Int) × Bool) : PyData := .tuple [.str "lay", pr m.1, .str (sideS m.2)]
def hnd (A B : List (Int × Int)) (t : Int) : List (Int × Int) := if t = 0 then A else B
def stps (A B ps : List (Int × Int)) (t s : Int) : List PyData := if over A B s then [] else if mvs (hnd A B t) ps = [] then [skipD] else (mvs (hnd A B t) ps).map layD
theorem at_hand {A B : List (Int × Int)} {t : Int} (h : t = 0 ∨ t = 1) : L2.atI [PyData.tuple (prs A), .tuple (prs B)] t = some (.tuple (prs (hnd A B t))) := by
  rcases h with rfl | rfl <;> rfl
theorem r_steps {o m e : Nat} {A B ps : List (Int × Int)} {t s : Int} (hT : T[i]? = some ⟨1, 8, libSteps o m⟩) (ho : T[o]? = some ⟨1, 5, libIsOver⟩) (hm : T[m]? = some ⟨2, 6, libMovesOn e⟩) (he : T[e]? = some ⟨1, 1, libEnds⟩) (ht : t = 0 ∨ t = 1) (hA : A.length ≤ 1000) (hB : B.length ≤ 1000) :
    run T (n + 3) i [stD A B ps t s] = .ret (.fz (.tuple (stps A B ps t s))) := by
  rw [run_def hT rfl]
  have h1 := r_isover (n := n + 1) (A := A) (B := B) (ps := ps) (t := t) (s := s) ho
  have h2 := r_moves (n := n) (ps := ps) hm he (sort_tup (hnd A B t)) (by unfold hnd; split <;> assumption)
  show fin (exec (run T (n + 2)) (libSteps o m) [some (.fz (stD A B ps t s)), none, none, none, none, none, none, none]) = _
  generalize run T (n + 2) = F at *
  have ah := at_hand (A := A) (B := B) ht
  unfold stps
  generalize mvs (hnd A B t) ps = M at *
  have l1 := fun hid x1 x2 x3 x4 => lc_map (tup := true) (tg := [6, 7]) (hid := hid) (c := evT F (.tval (.cst (.bool true)))) (e := ev F (.tup (.cons (.cst (.str "lay")) (.cons (.var 6) (.cons (.var 7) .nil))))) (r := [some (.fz (stD A B ps t s)), x1, x2, x3, x4, none, none, none]) (ds := M.map mvD) (acc := []) (fun d => match d with | .tuple [a, b] => .tuple [.str "lay", a, b] | d => d) (fun x hx => by
    obtain ⟨q, _, rfl⟩ := List.mem_map.mp hx
    simp [mvD, itemO_two])
  have e1 : (M.map mvD).map (fun d => match d with | .tuple [a, b] => .tuple [.str "lay", a, b] | d => d) = M.map layD := by
    rw [List.map_map]
    rfl
  rw [e1] at l1
  simp only [stD] at h1 l1 ⊢
  cases q : over A B s with
  | true => rw [q] at h1; simp [libSteps, h1]
  | false =>
    rw [q] at h1
    cases M with
    | nil => simp [libSteps, h1, ah, h2, skipD]
    | cons x M =>
      have ne : ((x :: M).map mvD).isEmpty = false := rfl
      have nn : (x :: M) ≠ [] := by simp
      generalize (x :: M).map layD = L at *
      generalize (x :: M).map mvD = Z at *
      simp [libSteps, h1, ah, h2, ne, l1, nn]
theorem r_lsteps {o m : Nat} {A B ps : List (Int × Int)} {t s : Int} (hT : T[i]? = some ⟨1, 3, libLawSteps o m⟩) (ho : T[o]? = some ⟨1, 1, libLawEnded⟩) (hm : T[m]? = some ⟨2, 4, libLawMoves⟩) (ht : t = 0 ∨ t = 1) (hA : A.length ≤ 1000) (hB : B.length ≤ 1000) :
    run T (n + 2) i [stD A B ps t s] = .ret (.fz (.tuple (stps A B ps t s))) := by
  rw [run_def hT rfl]
  have h1 := r_lended (n := n) (A := A) (B := B) (ps := ps) (t := t) (s := s) ho
  have h2 := r_lmoves (n := n) (ps := ps) hm (sort_tup (hnd A B t)) (by unfold hnd; split <;> assumption)
  show fin (exec (run T (n + 1)) (libLawSteps o m) [some (.fz (stD A B ps t s)), none, none]) = _
  generalize run T (n + 1) = F at *
  have ah := at_hand (A := A) (B := B) ht
  have a0 : ∀ (a b c d : PyData), L2.atI [a, b, c, d] 0 = some a := fun _ _ _ _ => rfl
  have a1 : ∀ (a b c d : PyData), L2.atI [a, b, c, d] 1 = some b := fun _ _ _ _ => rfl
  have a2 : ∀ (a b c d : PyData), L2.atI [a, b, c, d] 2 = some c := fun _ _ _ _ => rfl
  unfold stps
  generalize mvs (hnd A B t) ps = M at *
  have ct : ∀ a b : PyData, binD .Add (.tuple [.str "lay"]) (.tuple [a, b]) = some (.fz (.tuple [.str "lay", a, b])) := fun a b => rfl
  have l1 := fun hid => lc_map (tup := false) (tg := [2]) (hid := hid) (c := evT F (.tval (.cst (.bool true)))) (e := ev F (.bin .Add (.tup (.cons (.cst (.str "lay")) .nil)) (.var 2))) (r := [some (.fz (stD A B ps t s)), none, none]) (ds := M.map mvD) (acc := []) (fun d => match d with | .tuple [a, b] => .tuple [.str "lay", a, b] | d => d) (fun x hx => by
    obtain ⟨q, _, rfl⟩ := List.mem_map.mp hx
    simp [mvD, itemO_one, ct])
  have e1 : (M.map mvD).map (fun d => match d with | .tuple [a, b] => .tuple [.str "lay", a, b] | d => d) = M.map layD := by
    rw [List.map_map]
    rfl
  rw [e1] at l1
  have gm : eqD (.tuple (M.map mvD)) (.tuple []) = some M.isEmpty := by
    rw [eqD_nil (k := 3) (Gd1.tup fun d hd => by
      obtain ⟨m, _, rfl⟩ := List.mem_map.mp hd
      exact Gd1.tup fun d hd => by
        simp at hd
        rcases hd with rfl | rfl
        · exact ⟨rfl, by simp [pr, PyData.depth, PyData.depthAll]⟩
        · exact ⟨by cases m.2 <;> decide +kernel, by simp [PyData.depth]⟩) (by omega)]
    cases M <;> rfl
  simp only [stD] at h1 l1 ⊢
  cases q : over A B s with
  | true => rw [q] at h1; simp [libLawSteps, h1]
  | false =>
    rw [q] at h1
    cases M with
    | nil =>
      have gm : eqD (.tuple []) (.tuple []) = some true := gm
      have h2 : F m [.tuple (prs (hnd A B t)), .tuple (prs ps)] = .ret (.fz (.tuple [])) := h2
      simp [libLawSteps, h1, a0, a1, a2, ah, h2, gm, skipD]
    | cons x M =>
      have nn : (x :: M) ≠ [] := by simp
      have gm : eqD (.tuple ((x :: M).map mvD)) (.tuple []) = some false := gm
      generalize (x :: M).map layD = L at *
      generalize (x :: M).map mvD = Z at *
      simp [libLawSteps, h1, a0, a1, a2, ah, h2, gm, l1, nn]
/-- what comes behind a step -/
def aftD (A B ps : List (Int × Int)) (t s : Int) : Option ((Int × Int) × Bool) → PyData
  | none => stD A B ps (1 - t) (s + 1)
  | some m => stD (if t = 0 then A.filter fun q => decide (q ≠ m.1) else A) (if t = 0 then B else B.filter fun q => decide (q ≠ m.1)) (laid ps m.1 m.2) (1 - t) 0
def stpD : Option ((Int × Int) × Bool) → PyData
  | none => skipD
  | some m => layD m
theorem skip_eq : eqD (.str "skip") (.str "skip") = some true := by decide +kernel
theorem skip_lay : eqD (.str "lay") (.str "skip") = some false := by decide +kernel
theorem r_done {w u a e f d : Nat} {A B ps : List (Int × Int)} {t s : Int} {m : Option ((Int × Int) × Bool)} (hT : T[i]? = some ⟨2, 7, libDone w u⟩) (hu : T[u]? = some ⟨2, 3, libWithout⟩) (hw : T[w]? = some ⟨3, 3, libWithMore a e⟩) (ha : T[a]? = some ⟨2, 2, libAhead e d⟩) (he : T[e]? = some ⟨2, 2, libBehind f⟩) (hf : T[f]? = some ⟨2, 4, libFitting⟩) (hd : T[d]? = some ⟨1, 2, libTurned⟩)
    (hl : ps.length ≤ 500) (ht : t = 0 ∨ t = 1) (hm : ∀ x, m = some x → more x.2 ps x.1 = some (laid ps x.1 x.2)) : run T (n + 5) i [stD A B ps t s, stpD m] = .ret (.fz (aftD A B ps t s m)) := by
  rw [run_def hT rfl]
  show fin (exec (run T (n + 4)) (libDone w u) [some (.fz (stD A B ps t s)), some (.fz (stpD m)), none, none, none, none, none]) = _
  cases m with
  | none =>
    generalize run T (n + 4) = F at *
    have a0 : ∀ (a : PyData), L2.atI [a] 0 = some a := fun _ => rfl
    simp [libDone, stD, stpD, skipD, a0, skip_eq, aftD]
  | some x =>
    obtain ⟨p, b⟩ := x
    have h1 := r_without (n := n + 3) (h := hnd A B t) (p := p) hu
    have h2 := r_more (n := n) (ps := ps) (p := p) (b := b) hw ha he hf hd hl
    rw [hm _ rfl] at h2
    have h2 : run T (n + 4) w [.tuple (prs ps), pr p, .str (sideS b)] = .ret (.fz (.tuple (prs (laid ps p b)))) := h2
    generalize run T (n + 4) = F at *
    have ah := at_hand (A := A) (B := B) ht
    have a0 : ∀ (a b c : PyData), L2.atI [a, b, c] 0 = some a := fun _ _ _ => rfl
    have a1 : ∀ (a b c : PyData), L2.atI [a, b, c] 1 = some b := fun _ _ _ => rfl
    have a2 : ∀ (a b c : PyData), L2.atI [a, b, c] 2 = some c := fun _ _ _ => rfl
    have b0 : ∀ (a b : PyData), L2.atI [a, b] 0 = some a := fun _ _ => rfl
    have b1 : ∀ (a b : PyData), L2.atI [a, b] 1 = some b := fun _ _ => rfl
    rcases ht with rfl | rfl
    · have h1 : F u [.tuple (prs A), pr p] = .ret (.fz (.tuple (prs (A.filter fun q => decide (q ≠ p))))) := h1
      simp [libDone, stD, stpD, layD, a0, a1, a2, b0, b1, skip_lay, aftD, h1, h2]
    · have h1 : F u [.tuple (prs B), pr p] = .ret (.fz (.tuple (prs (B.filter fun q => decide (q ≠ p))))) := h1
      simp [libDone, stD, stpD, layD, a0, a1, a2, b0, b1, skip_lay, aftD, h1, h2]
theorem enm2 (a b : PyData) : enmD [.tuple [a, b]] = some [.tuple [.int 0, a], .tuple [.int 1, b]] := rfl
theorem r_lafter {w : Nat} {A B ps : List (Int × Int)} {t s : Int} {m : Option ((Int × Int) × Bool)} (hT : T[i]? = some ⟨2, 10, libLawAfter w⟩) (hw : T[w]? = some ⟨3, 3, libLawLaid⟩) (hl : ps.length ≤ 500) (ht : t = 0 ∨ t = 1) :
    run T (n + 2) i [stD A B ps t s, stpD m] = .ret (.fz (aftD A B ps t s m)) := by
  rw [run_def hT rfl]
  show fin (exec (run T (n + 1)) (libLawAfter w) [some (.fz (stD A B ps t s)), some (.fz (stpD m)), none, none, none, none, none, none, none, none]) = _
  cases m with
  | none =>
    generalize run T (n + 1) = F at *
    have a0 : ∀ (a : PyData), L2.atI [a] 0 = some a := fun _ => rfl
    simp [libLawAfter, stD, stpD, skipD, a0, skip_eq, aftD]
  | some x =>
    obtain ⟨p, b⟩ := x
    have h2 := r_laid (n := n) (ps := ps) (p := p) (b := b) hw hl
    generalize run T (n + 1) = F at *
    have a0 : ∀ (a b c : PyData), L2.atI [a, b, c] 0 = some a := fun _ _ _ => rfl
    have a1 : ∀ (a b c : PyData), L2.atI [a, b, c] 1 = some b := fun _ _ _ => rfl
    have a2 : ∀ (a b c : PyData), L2.atI [a, b, c] 2 = some c := fun _ _ _ => rfl
    have inn : ∀ (k : Int) (qs : List (Int × Int)) (y0 y2 y3 y5 y6 : Option Val) hid, lcLoop false [7] hid (evT F (.tor (.tval (.cmp .NotEq (.var 7) (.idx (.var 1) (.cst (.int 1))))) (.tval (.cmp .NotEq (.var 8) (.var 4))))) (ev F (.var 7)) (prs qs) [y0, some (.fz (layD (p, b))), y2, y3, some (.fz (.int t)), y5, y6, none, some (.fz (.int k)), none] [] = .ok (prs (qs.filter fun q => decide (q ≠ p) || decide (k ≠ t))) [y0, some (.fz (layD (p, b))), y2, y3, some (.fz (.int t)), y5, y6, none, some (.fz (.int k)), none] := fun k qs y0 y2 y3 y5 y6 hid => by
      have l := lc_go (tup := false) (tg := [7]) (hid := hid) (c := evT F (.tor (.tval (.cmp .NotEq (.var 7) (.idx (.var 1) (.cst (.int 1))))) (.tval (.cmp .NotEq (.var 8) (.var 4))))) (e := ev F (.var 7)) (r := [y0, some (.fz (layD (p, b))), y2, y3, some (.fz (.int t)), y5, y6, none, some (.fz (.int k)), none]) (f := keepP fun q => decide (q ≠ p) || decide (k ≠ t)) (prs qs) [] (fun x hx => by
        obtain ⟨q, _, rfl⟩ := List.mem_map.mp hx
        have ee := eqD_pr q p
        rw [keepP_pr]
        by_cases c : q = p
        · subst c
          rw [decide_eq_true rfl] at ee
          by_cases c2 : k = t
          · subst c2; simp [itemO_one, layD, a1, ee]
          · simp [itemO_one, layD, a1, ee, c2]
        · rw [decide_eq_false c] at ee
          simp [itemO_one, layD, a1, ee, c])
      rw [fm_prs, List.nil_append] at l
      exact l
    have out : ∀ (y0 y2 y3 y5 : Option Val) hid, lcLoop true [8, 9] hid (evT F (.tval (.cst (.bool true)))) (ev F (.blt .tuple (.cons (.lc false [7] (.itr (.var 9)) (.tor (.tval (.cmp .NotEq (.var 7) (.idx (.var 1) (.cst (.int 1))))) (.tval (.cmp .NotEq (.var 8) (.var 4)))) (.var 7)) .nil))) [.tuple [.int 0, .tuple (prs A)], .tuple [.int 1, .tuple (prs B)]] [y0, some (.fz (layD (p, b))), y2, y3, some (.fz (.int t)), y5, none, none, none, none] [] = .ok [.tuple (prs (A.filter fun q => decide (q ≠ p) || decide (0 ≠ t))), .tuple (prs (B.filter fun q => decide (q ≠ p) || decide (1 ≠ t)))] [y0, some (.fz (layD (p, b))), y2, y3, some (.fz (.int t)), y5, none, none, none, none] := fun y0 y2 y3 y5 hid => by
      have l := lc_map (tup := true) (tg := [8, 9]) (hid := hid) (c := evT F (.tval (.cst (.bool true)))) (e := ev F (.blt .tuple (.cons (.lc false [7] (.itr (.var 9)) (.tor (.tval (.cmp .NotEq (.var 7) (.idx (.var 1) (.cst (.int 1))))) (.tval (.cmp .NotEq (.var 8) (.var 4)))) (.var 7)) .nil))) (r := [y0, some (.fz (layD (p, b))), y2, y3, some (.fz (.int t)), y5, none, none, none, none]) (ds := [.tuple [.int 0, .tuple (prs A)], .tuple [.int 1, .tuple (prs B)]]) (acc := []) (fun d => match d with | .tuple [.int k, .tuple qs] => .tuple (qs.filterMap (keepP fun q => decide (q ≠ p) || decide (k ≠ t))) | d => d) (fun x hx => by
        simp only [List.mem_cons, List.not_mem_nil, or_false] at hx
        rcases hx with rfl | rfl
        · have := inn 0 A y0 y2 y3 y5 none
          dsimp only
          rw [fm_prs]
          simp only [layD] at this ⊢
          simp [itemO_two, this]
        · have := inn 1 B y0 y2 y3 y5 none
          dsimp only
          rw [fm_prs]
          simp only [layD] at this ⊢
          simp [itemO_two, this])
      simp only [List.map_cons, List.map_nil, fm_prs, List.nil_append] at l
      exact l
    have fA : (A.filter fun q => decide (q ≠ p) || decide ((0 : Int) ≠ t)) = if t = 0 then A.filter fun q => decide (q ≠ p) else A := by
      rcases ht with rfl | rfl
      · simp
      · simp
    have fB : (B.filter fun q => decide (q ≠ p) || decide ((1 : Int) ≠ t)) = if t = 0 then B else B.filter fun q => decide (q ≠ p) := by
      rcases ht with rfl | rfl
      · simp
      · simp
    rw [fA, fB] at out
    show _ = Rt.ret (.fz (stD (if t = 0 then A.filter fun q => decide (q ≠ p) else A) (if t = 0 then B else B.filter fun q => decide (q ≠ p)) (laid ps p b) (1 - t) 0))
    generalize (if t = 0 then A.filter fun q => decide (q ≠ p) else A) = A' at *
    generalize (if t = 0 then B else B.filter fun q => decide (q ≠ p)) = B' at *
    generalize laid ps p b = Q at *
    clear inn
    simp only [layD] at out
    simp [libLawAfter, stD, stpD, layD, a0, a1, a2, skip_lay, h2, enm2, out]
theorem gd_stp (m : Option ((Int × Int) × Bool)) : Gd1 2 (stpD m) := by
  cases m with
  | none => exact (Gd1.tup (k := 1) fun d hd => by
      simp at hd
      subst hd
      exact ⟨by decide +kernel, by simp [PyData.depth]⟩)
  | some x => exact (Gd1.tup (k := 1) fun d hd => by
      simp at hd
      rcases hd with rfl | rfl | rfl
      · exact ⟨by decide +kernel, by simp [PyData.depth]⟩
      · exact ⟨rfl, by simp [pr, PyData.depth, PyData.depthAll]⟩
      · exact ⟨by cases x.2 <;> decide +kernel, by simp [PyData.depth]⟩)
theorem eqv_stp (m : Option ((Int × Int) × Bool)) : PyData.eqv (stpD m) (stpD m) = true := by
  cases m with
  | none => decide +kernel
  | some x => simp [stpD, layD, pr, PyData.eqv, PyData.eqvAll]
theorem stps_mem {A B ps : List (Int × Int)} {t s : Int} {d : PyData} (h : d ∈ stps A B ps t s) : ∃ m, d = stpD m ∧ ∀ x, m = some x → x ∈ mvs (hnd A B t) ps := by
  unfold stps at h
  split at h
  · cases h
  · split at h
    · rw [List.mem_singleton] at h
      exact ⟨none, h, fun x e => nomatch e⟩
    · obtain ⟨x, hx, rfl⟩ := List.mem_map.mp h
      exact ⟨some x, rfl, fun y e => by cases e; exact hx⟩
theorem gd_stps (A B ps : List (Int × Int)) (t s : Int) : Gd1 3 (.tuple (stps A B ps t s)) := Gd1.tup fun d hd => by
  obtain ⟨m, rfl, _⟩ := stps_mem hd
  exact gd_stp m
theorem in_stps {A B ps : List (Int × Int)} {t s : Int} {x : PyData} (hx : Gd1 2 x) : inD x (.tuple (stps A B ps t s)) = some ((stps A B ps t s).any fun z => PyData.eqv z x) := by
  show (if SeqAt.shaped x && SeqAt.shaped (.tuple (stps A B ps t s)) then some ((stps A B ps t s).any fun z => PyData.eqv z x) else none) = _
  rw [hx.shaped (by omega), (gd_stps A B ps t s).shaped (by omega)]
  rfl
theorem in_stps_t {A B ps : List (Int × Int)} {t s : Int} {m : Option ((Int × Int) × Bool)} (h : stpD m ∈ stps A B ps t s) : inD (stpD m) (.tuple (stps A B ps t s)) = some true := by
  have e : ((stps A B ps t s).any fun z => PyData.eqv z (stpD m)) = true := List.any_eq_true.mpr ⟨_, h, eqv_stp m⟩
  rw [in_stps (gd_stp m), e]
theorem r_after {g h : Nat} {x : PyData} {A B ps : List (Int × Int)} {t s : Int} {b : Bool} {z : Val} (hT : T[i]? = some ⟨2, 2, libAfter g h⟩) (hs : run T n h [stD A B ps t s] = .ret (.fz (.tuple (stps A B ps t s)))) (hin : inD x (.tuple (stps A B ps t s)) = some b) (hg : b = true → run T n g [stD A B ps t s, x] = .ret z) :
    run T (n + 1) i [stD A B ps t s, x] = if b then .ret z else .exc 1 := by
  rw [run_def hT rfl]
  show fin (exec (run T n) (libAfter g h) [some (.fz (stD A B ps t s)), some (.fz x)]) = _
  generalize run T n = F at *
  generalize stD A B ps t s = S at *
  generalize stps A B ps t s = L at *
  cases b with
  | true => simp [libAfter, hs, hin, hg rfl]
  | false => simp [libAfter, hs, hin]
theorem cut_prs (qs : List (Int × Int)) (lo hi : Option Int) : ∃ ws, cutD (prs qs) lo hi = prs ws ∧ ws.length ≤ qs.length := by
  refine ⟨(qs.drop (HT.sIx (prs qs).length 0 lo)).take (HT.sIx (prs qs).length (prs qs).length hi - HT.sIx (prs qs).length 0 lo), ?_, ?_⟩
  · unfold cutD prs
    rw [List.map_take, List.map_drop]
  · rw [List.length_take, List.length_drop]
    omega
theorem r_lstand {a b c : Nat} {x m : Int} {f : Nat} (hT : T[i]? = some ⟨2, 11, libLawStand a b c⟩) (ha : T[a]? = some ⟨3, 10, libLawChain b⟩) (hb : T[b]? = some ⟨3, 4, libLawMix⟩) (hc : T[c]? = some ⟨3, 6, libLawSome f b⟩) (hf : T[f]? = some ⟨1, 4, libLawAll⟩) (hm : 4 ≤ m) (hm2 : m ≤ 100) :
    ∃ A B ps t s, run T (n + 3) i [.int x, .int m] = .ret (.fz (stD A B ps t s)) ∧ (t = 0 ∨ t = 1) ∧ A.length ≤ 10 ∧ B.length ≤ 10 ∧ ps.length ≤ 5 ∧ 0 ≤ s := by
  rw [run_def hT rfl]
  have hx : ∀ p k : Int, 0 < p → p < 2 ^ 60 → 0 < k → run T (n + 2) b [.int x, .int p, .int k] = .ret (.fz (.int (mix x p k))) := fun p k h1 h2 h3 => r_mix (n := n + 1) hb h1 h2 h3
  have m1 := hx 9661 5 (by omega) (by omega) (by omega)
  have m1l := mix_lo (c := x) (p := 9661) (m := 5) (by omega)
  have m1h := mix_hi (c := x) (p := 9661) (m := 5) (by omega)
  obtain ⟨ps, e1, hch, hpl⟩ := r_chain (n := n) (c := x + 1) (m := 3) (k := mix x 9661 5) ha hb (by omega) (by omega) m1l (by omega)
  obtain ⟨fs, ls, e2, hpm, hfl⟩ := r_some (n := n) (c := x) (m := 3) (k := 10) hc hf hb (by omega) (by omega) (by omega) (by omega)
  have m2 := hx 9649 3 (by omega) (by omega) (by omega)
  have m2l := mix_lo (c := x) (p := 9649) (m := 3) (by omega)
  have m2h := mix_hi (c := x) (p := 9649) (m := 3) (by omega)
  have m3 := hx 9643 (m - (1 + mix x 9649 3)) (by omega) (by omega) (by omega)
  have m4 := hx 9631 6 (by omega) (by omega) (by omega)
  show ∃ A B ps t s, fin (exec (run T (n + 2)) (libLawStand a b c) [some (.fz (.int x)), some (.fz (.int m)), none, none, none, none, none, none, none, none, none]) = _ ∧ _
  clear hx
  generalize run T (n + 2) = F at *
  generalize mix x 9661 5 = v1 at *
  generalize mix x 9649 3 = v2 at *
  generalize mix x 9643 (m - (1 + v2)) = v3 at *
  generalize mix x 9631 6 = v4 at *
  have l1 := fun hid => lc_map (tup := false) (tg := [4]) (hid := hid) (c := evT F (.tval (.cst (.bool true)))) (e := ev F (.blt .tuple (.cons (.blt .sorted (.cons (.var 4) .nil)) .nil))) (r := [some (.fz (.int x)), some (.fz (.int m)), none, none, none, none, none, none, none, none, none]) (ds := prs ps) (acc := []) stnD (fun x hx => by
    obtain ⟨p, _, rfl⟩ := List.mem_map.mp hx
    simp [itemO_one, sort_pr]
    rfl)
  rw [stnD_prs] at l1
  have l2 := fun hid => lc_go (tup := false) (tg := [6]) (hid := hid) (c := evT F (.tval (.cmp .NotIn (.var 6) (.var 3)))) (e := ev F (.var 6)) (r := [some (.fz (.int x)), some (.fz (.int m)), some (.fz (.tuple (prs ps))), some (.ol (prs (ps.map stn))), none, none, none, none, none, none, none]) (f := keepP fun q => decide (q ∉ ps.map stn)) (prs fs) [] (fun x hx => by
    obtain ⟨q, _, rfl⟩ := List.mem_map.mp hx
    have ii := inD_prs q (ps.map stn)
    rw [keepP_pr]
    by_cases c : q ∈ ps.map stn
    · rw [decide_eq_true c] at ii
      simp [itemO_one, ii]
      simp at c
      simp [c]
    · rw [decide_eq_false c] at ii
      rw [decide_eq_true c]
      simp [itemO_one, ii])
  rw [fm_prs] at l2
  have flen : (fs.filter fun q => decide (q ∉ ps.map stn)).length ≤ 10 := Nat.le_trans (List.length_filter_le _ _) (by rw [hfl]; exact Nat.min_le_left _ _)
  generalize (fs.filter fun q => decide (q ∉ ps.map stn)) = L at *
  obtain ⟨W1, k1, w1⟩ := cut_prs L none (some (1 + v2))
  obtain ⟨W2, k2, w2⟩ := cut_prs L (some (1 + v2)) (some (1 + v2 + (1 + v3)))
  obtain ⟨W3, k3, w3⟩ := cut_prs (srt W1) none (some 1)
  have s1 := sort_lst W1
  have s2 := sort_lst W2
  have em := eqD_emp (srt W2)
  have md : binD .Mod (.int x) (.int 2) = some (.fz (.int (x % 2))) := bin_mod (by omega)
  have st : ∀ A B t s, (A.length ≤ 10 → B.length ≤ 10 → (t = 0 ∨ t = 1) → 0 ≤ s → fin (exec F (libLawStand a b c) [some (.fz (.int x)), some (.fz (.int m)), none, none, none, none, none, none, none, none, none]) = .ret (.fz (stD A B ps t s)) → ∃ A B ps t s, fin (exec F (libLawStand a b c) [some (.fz (.int x)), some (.fz (.int m)), none, none, none, none, none, none, none, none, none]) = .ret (.fz (stD A B ps t s)) ∧ (t = 0 ∨ t = 1) ∧ A.length ≤ 10 ∧ B.length ≤ 10 ∧ ps.length ≤ 5 ∧ 0 ≤ s) := fun A B t s h1 h2 h3 h4 h5 => ⟨A, B, ps, t, s, h5, h3, h1, h2, by omega, h4⟩
  have xt : x % 2 = 0 ∨ x % 2 = 1 := by omega
  cases q : (srt W2).isEmpty with
  | true =>
    rw [q] at em
    refine st W3 [(9, 9)] (x % 2) 0 (by rw [srt_len] at w3; omega) (by simp) xt (by omega) ?_
    unfold libLawStand
    have e9 : prs [(9, 9)] = [.tuple [.int 9, .int 9]] := rfl
    simp only [stD, e9]
    simp [m1, e1, l1, e2, l2, m2, m3, k1, s1, k2, s2, em, k3, md]
  | false =>
    rw [q] at em
    refine st (srt W1) (srt W2) (x % 2) (if v4 = 0 then 1 else 0) (by rw [srt_len]; omega) (by rw [srt_len]; omega) xt (by split <;> omega) ?_
    unfold libLawStand
    simp [m1, e1, l1, e2, l2, m2, m3, k1, s1, k2, s2, em, md, m4, stD]
end
end SC

set_option Elab.async false
set_option maxRecDepth 100000
set_option maxHeartbeats 1000000
/-! SE4: plain reasoning about the store; rooms that are counted. -/
namespace SC
open PySem
@[simp] theorem stoS_sto {r : EV} {k : Nat} {S : List Ob} (h : getS r k = some (.sto S)) : stoS r k = some S := by unfold stoS; rw [h]
@[simp] theorem refN_ref (n : Nat) : refN (refD n) = some n := by
  show (if (0 : Int) ≤ (n : Int) then some ((n : Int)).toNat else none) = some n
  rw [if_pos (by omega)]
  simp
theorem obN_ref {r : EV} {k n : Nat} {S : List Ob} {o : Ob} (h : getS r k = some (.sto S)) (h2 : S[n]? = some o) : obN r k (refD n) = some (n, S, o) := by
  unfold obN
  rw [refN_ref, stoS_sto h]
  simp [h2]
section
variable {F : Fs}
/-! ### expressions -/
def dgiO (k : Nat) (d a : PyData) (r : EV) : Out Val := match obN r k d with
  | some (_, _, ob) => match dGet ob a with
    | some (some d) => .ok (.fz d) r
    | _ => .bad
  | none => .bad
@[simp] theorem ev_dgi (k : Nat) (o a : CE) (r : EV) : ev F (.dgi k o a) r = (ev F o r).bnd fun v r1 => (ev F a r1).bnd fun w r2 => dgiO k v.toD w.toD r2 := by rw [ev]; rfl
theorem dgiO_ok {k n : Nat} {d a x : PyData} {r : EV} {S : List Ob} {ob : Ob} (h : obN r k d = some (n, S, ob)) (h2 : dGet ob a = some (some x)) : dgiO k d a r = .ok (.fz x) r := by
  unfold dgiO
  rw [h]
  dsimp only
  rw [h2]
def dgtO (k : Nat) (d a b : PyData) (r : EV) : Out Val := match obN r k d with
  | some (_, _, ob) => match dGet ob a with
    | some x => .ok (.fz (x.getD b)) r
    | none => .bad
  | none => .bad
theorem ev_dgt {k n : Nat} {o a b : CE} {r r1 : EV} {v : Val} {S : List Ob} {ob : Ob} (h : ev F o r = .ok v r1) (h2 : obN r1 k v.toD = some (n, S, ob)) (h3 : ob.isD = true) : ev F (.dgt k o a b) r = (ev F a r1).bnd fun w r2 => (ev F b r2).bnd fun u r3 => dgtO k v.toD w.toD u.toD r3 := by
  rw [ev, h, bnd_ok, h2]
  dsimp only
  rw [if_pos h3]
  rfl
theorem dgtO_ok {k n : Nat} {d a b : PyData} {x : Option PyData} {r : EV} {S : List Ob} {ob : Ob} (h : obN r k d = some (n, S, ob)) (h2 : dGet ob a = some x) : dgtO k d a b r = .ok (.fz (x.getD b)) r := by
  unfold dgtO
  rw [h]
  dsimp only
  rw [h2]
theorem ev_dnw {k t : Nat} {r : EV} {S : List Ob} (h : getS r k = some (.sto S)) : ev F (.dnw k t) r = .ok (.fz (refD S.length)) (r.set k (some (.sto (S ++ [if t = 0 then .dK [] else .dT []])))) := by
  rw [ev, stoS_sto h]
def ddsO (k : Nat) (a b : PyData) (r : EV) : Out Val := match stoS r k with
  | some S => match dPut (.dT []) a b with
    | some ob => .ok (.fz (refD S.length)) (r.set k (some (.sto (S ++ [ob]))))
    | none => .bad
  | none => .bad
@[simp] theorem ev_dds (k : Nat) (a b : CE) (r : EV) : ev F (.dds k a b) r = (ev F a r).bnd fun v r1 => (ev F b r1).bnd fun w r2 => ddsO k v.toD w.toD r2 := by rw [ev]; rfl
theorem ddsO_ok {k : Nat} {a b : PyData} {r : EV} {S : List Ob} {ob : Ob} (h : getS r k = some (.sto S)) (h2 : dPut (.dT []) a b = some ob) : ddsO k a b r = .ok (.fz (refD S.length)) (r.set k (some (.sto (S ++ [ob])))) := by
  unfold ddsO
  rw [stoS_sto h]
  dsimp only
  rw [h2]
/-- what a call with an empty store leaves -/
def calO (x : RtS) (r : EV) : Out Val := match x with
  | .ret d [] => .ok (.fz d) r
  | .exc c [] => .exc c r
  | _ => .bad
@[simp] theorem calO_ret (d : PyData) (r : EV) : calO (.ret d []) r = .ok (.fz d) r := rfl
@[simp] theorem calO_exc (c : Nat) (r : EV) : calO (.exc c []) r = .exc c r := rfl
@[simp] theorem ev_calE (f : Nat) (es : CE) (r : EV) : ev F (.calE f es) r = (evs F es r).bnd fun ds r1 => if ds.all (rfLt 0) then calO (F.s f ds []) r1 else .bad := by rw [ev]; rfl
@[simp] theorem mkO_calE (f : Nat) (es : CE) (r : EV) (x : Out Val) : mkO (.calE f es) r x = x.bnd fun v r1 => .ok (.dat v.toD) r1 := rfl
@[simp] theorem retV_calE (f : Nat) (es : CE) (r : EV) : retV F (.calE f es) r = (ev F (.calE f es) r).bnd fun v r1 => .ok (.rt v) r1 := rfl
@[simp] theorem mkO_dgi (k : Nat) (o a : CE) (r : EV) (x : Out Val) : mkO (.dgi k o a) r x = x.bnd fun v r1 => .ok (.dat v.toD) r1 := rfl
@[simp] theorem mkO_dgt (k : Nat) (o a b : CE) (r : EV) (x : Out Val) : mkO (.dgt k o a b) r x = x.bnd fun v r1 => .ok (.dat v.toD) r1 := rfl
@[simp] theorem mkO_dst (k : Nat) (o : CE) (r : EV) (x : Out Val) : mkO (.dst k o) r x = x.bnd fun v r1 => .ok (.dat v.toD) r1 := rfl
@[simp] theorem retV_dgt (k : Nat) (o a b : CE) (r : EV) : retV F (.dgt k o a b) r = (ev F (.dgt k o a b) r).bnd fun v r1 => .ok (.rt v) r1 := rfl
@[simp] theorem opm_def (a b : CE) (r : EV) (x : Out Val) (y : EV → Out Val) (f : PyData → PyData → EV → Out Val) : opm a b r x y f = (mkO a r x).bnd fun o r1 => (Out.of (opd r1 o) r1).bnd fun d0 _ => if isLstD d0 then (mkO b r1 (y r1)).bnd fun o' r2 => (Out.of (opd r2 o) r2).bnd fun d _ => (Out.of (opd r2 o') r2).bnd fun d' _ => f d d' r2 else .bad := rfl
@[simp] theorem isLstD_list (ds : List PyData) : isLstD (.list ds) = true := rfl
@[simp] theorem ev_fnd (a b : CE) (r : EV) : ev F (.fnd a b) r = opm a b r (ev F a r) (ev F b) fun d d' r1 => .of (fndD d d') r1 := by rw [ev]
@[simp] theorem ev_cnt (a b : CE) (r : EV) : ev F (.cnt a b) r = opm a b r (ev F a r) (ev F b) fun d d' r1 => .of (cntD d d') r1 := by rw [ev]
@[simp] theorem mkO_fnd (a b : CE) (r : EV) (x : Out Val) : mkO (.fnd a b) r x = x.bnd fun v r1 => .ok (.dat v.toD) r1 := rfl
@[simp] theorem mkO_cnt (a b : CE) (r : EV) (x : Out Val) : mkO (.cnt a b) r x = x.bnd fun v r1 => .ok (.dat v.toD) r1 := rfl
/-! ### statements -/
def dptO (k : Nat) (v o a : PyData) (r : EV) : Out Flow := match obN r k o with
  | some (n, S, ob) => match dPut ob a v with
    | some ob' => .ok .nx (r.set k (some (.sto (S.set n ob'))))
    | none => .bad
  | none => .bad
@[simp] theorem exec_dpt (k : Nat) (o a e : CE) (r : EV) : exec F (.dpt k o a e) r = (ev F e r).bnd fun v r1 => (ev F o r1).bnd fun w r2 => (ev F a r2).bnd fun y r3 => dptO k v.toD w.toD y.toD r3 := by rw [exec]; rfl
theorem dptO_ok {k n : Nat} {v o a : PyData} {r : EV} {S : List Ob} {ob ob' : Ob} (h : obN r k o = some (n, S, ob)) (h2 : dPut ob a v = some ob') : dptO k v o a r = .ok .nx (r.set k (some (.sto (S.set n ob')))) := by
  unfold dptO
  rw [h]
  dsimp only
  rw [h2]
theorem exec_forK {k j i n : Nat} {body : CS} {r r1 : EV} {d : PyData} {S S1 : List Ob} {ob lk : Ob} {ks : List PyData} (h : getS r j = some (.fz d)) (h2 : obN r k d = some (n, S, ob)) (h3 : dKeys ob = some (ks, lk)) (h4 : forLoop false [i] (exec F body) ks (r.set k (some (.sto (S.set n lk)))) = .ok .nx r1) (h5 : getS r1 k = some (.sto S1)) :
    exec F (.forK k j i body) r = .ok .nx (r1.set k (some (.sto (S1.set n ob)))) := by
  rw [exec, h]
  dsimp only
  rw [h2]
  dsimp only
  rw [h3]
  dsimp only
  rw [h4]
  unfold unlk
  dsimp only
  rw [stoS_sto h5]
theorem finS_rt {k n : Nat} {v : Val} {r : EV} {S : List Ob} (h : getS r k = some (.sto S)) : finS k n (.ok (.rt v) r) = .ret v.toD (gcS n v.toD S) := by
  show (match stoS r k with
    | some S => RtS.ret v.toD (gcS n v.toD S)
    | none => .bad) = _
  rw [stoS_sto h]
theorem gcS_zero {d : PyData} {S : List Ob} (h : rfLt 0 d = true) : gcS 0 d S = [] := by
  unfold gcS
  rw [h]
  rfl
theorem run_defS {T : List FD} {f n : Nat} {fd : FD} {b : CS} {ds : List PyData} {S : List Ob} (h : T[f]? = some fd) (hb : fd.body = .sfn b) (hl : ds.length = fd.np) (hn : fd.np < fd.ns) : (run T (n + 1)).s f ds S = finS (fd.ns - 1) S.length (exec (run T n) b ((ini fd ds).set (fd.ns - 1) (some (.sto S)))) := by
  show (match T[f]? with
      | some fd => match fd.body with
        | .sfn b => if ds.length = fd.np ∧ fd.np < fd.ns then finS (fd.ns - 1) S.length (exec (run T n) b ((ini fd ds).set (fd.ns - 1) (some (.sto S)))) else .bad
        | _ => .bad
      | none => .bad) = _
  rw [h]
  dsimp only
  rw [hb]
  exact if_pos ⟨hl, hn⟩
/-- a while by a measure -/
theorem whl_inv {c : EV → Out Bool} {body : EV → Out Flow} (I : Nat → EV → Prop) (Q : EV → Prop) : ∀ (m : Nat) (N : Nat) (r : EV), m < N → I m r →
    (∀ m r, I m r → (∃ r1, c r = .ok false r1 ∧ Q r1) ∨ ∃ r1 r2 m', c r = .ok true r1 ∧ body r1 = .ok .nx r2 ∧ m' < m ∧ I m' r2) → ∃ r', whlLoop c body N r = .ok .nx r' ∧ Q r'
  | m, N + 1, r, hN, h, hs => by
    rcases hs m r h with ⟨r1, h1, h2⟩ | ⟨r1, r2, m', h1, h2, h3, h4⟩
    · exact ⟨r1, by rw [whlLoop, h1], h2⟩
    · obtain ⟨r', h5, h6⟩ := whl_inv I Q m' N r2 (by omega) h4 hs
      refine ⟨r', ?_, h6⟩
      rw [whlLoop, h1]
      dsimp only
      rw [h2]
      exact h5
end
/-! ### rooms: numbers under lists of numbers -/
abbrev RM := List (List Int × Int)
def encR (R : RM) : List (List L2.Key × PyData) := R.map fun p => (tKey p.1, PyData.int p.2)
def getR (R : RM) (k : List Int) : Option Int := (R.find? fun p => decide (p.1 = k)).map (·.2)
def putR (R : RM) (k : List Int) (v : Int) : RM := if (R.any fun p => decide (p.1 = k)) = true then R.map (fun p => if p.1 = k then (p.1, v) else p) else R ++ [(k, v)]
theorem tKey_inj {a b : List Int} : tKey a = tKey b ↔ a = b := by
  refine ⟨fun h => ?_, fun h => by rw [h]⟩
  unfold tKey at h
  exact (List.map_inj_right (fun x y h => Sum.inl.inj h)).mp h
theorem getR_enc (R : RM) (k : List Int) : valA (encR R) (tKey k) = (getR R k).map PyData.int := by
  unfold valA getR encR
  rw [List.find?_map]
  have e : ((fun p : List L2.Key × PyData => decide (p.1 = tKey k)) ∘ fun p : List Int × Int => (tKey p.1, PyData.int p.2)) = fun p => decide (p.1 = k) := by
    funext p
    simp [tKey_inj]
  rw [e]
  cases R.find? fun p => decide (p.1 = k) <;> rfl
theorem putR_enc (R : RM) (k : List Int) (v : Int) : putB (encR R) (tKey k) (.int v) = encR (putR R k v) := by
  have e : ((encR R).any fun p => decide (p.1 = tKey k)) = R.any fun p => decide (p.1 = k) := by
    unfold encR
    rw [List.any_map]
    congr 1
    funext p
    simp [tKey_inj]
  unfold putB putR
  rw [e]
  by_cases c : (R.any fun p => decide (p.1 = k)) = true
  · rw [if_pos c, if_pos c]
    unfold encR
    rw [List.map_map, List.map_map]
    apply List.map_congr_left
    intro p _
    by_cases q : p.1 = k <;> simp [q, tKey_inj]
  · rw [if_neg c, if_neg c]
    simp [encR]
theorem encR_len (R : RM) : (encR R).length = R.length := by simp [encR]
theorem encR_keys (R : RM) : (encR R).map (fun p => PyData.tuple (p.1.map keyV)) = R.map fun p => .tuple (p.1.map PyData.int) := by
  unfold encR
  rw [List.map_map]
  apply List.map_congr_left
  intro p _
  simp [tKey, keyV]
theorem putR_len (R : RM) (k : List Int) (v : Int) : (putR R k v).length ≤ R.length + 1 := by
  unfold putR
  split <;> simp
theorem putR_keys (R : RM) (k : List Int) (v : Int) : (putR R k v).map (·.1) = if k ∈ R.map (·.1) then R.map (·.1) else R.map (·.1) ++ [k] := by
  unfold putR
  have e : ((R.any fun p => decide (p.1 = k)) = true) ↔ k ∈ R.map (·.1) := by
    rw [List.any_eq_true, List.mem_map]
    constructor
    · rintro ⟨p, h1, h2⟩
      exact ⟨p, h1, by simpa using h2⟩
    · rintro ⟨p, h1, h2⟩
      exact ⟨p, h1, by simpa using h2⟩
  by_cases c : k ∈ R.map (·.1)
  · rw [if_pos (e.mpr c), if_pos c, List.map_map]
    apply List.map_congr_left
    intro p _
    by_cases q : p.1 = k <;> simp [q]
  · rw [if_neg (fun z => c (e.mp z)), if_neg c]
    simp
theorem putR_nd {R : RM} (h : (R.map (·.1)).Nodup) (k : List Int) (v : Int) : ((putR R k v).map (·.1)).Nodup := by
  rw [putR_keys]
  split
  · exact h
  · rename_i c
    rw [List.nodup_append]
    exact ⟨h, List.nodup_cons.mpr ⟨(by simp), List.nodup_nil⟩, fun a ha b hb => by
      rw [List.mem_singleton] at hb
      subst hb
      rintro rfl
      exact c ha⟩
theorem putR_all {P : List Int → Prop} {R : RM} (h : ∀ p ∈ R, P p.1) {k : List Int} (hk : P k) (v : Int) : ∀ p ∈ putR R k v, P p.1 := by
  intro p hp
  have m : p.1 ∈ (putR R k v).map (·.1) := List.mem_map_of_mem hp
  rw [putR_keys] at m
  split at m
  · obtain ⟨q, h1, h2⟩ := List.mem_map.mp m
    rw [← h2]
    exact h q h1
  · rw [List.mem_append, List.mem_singleton] at m
    rcases m with m | m
    · obtain ⟨q, h1, h2⟩ := List.mem_map.mp m
      rw [← h2]
      exact h q h1
    · rw [m]
      exact hk
/-- the sum, with weights -/
def wsum (w : List Int → Int) (R : RM) : Int := (R.map fun p => p.2 * w p.1).sum
@[simp] theorem wsum_nil (w : List Int → Int) : wsum w [] = 0 := rfl
@[simp] theorem wsum_cons (w : List Int → Int) (p : List Int × Int) (R : RM) : wsum w (p :: R) = p.2 * w p.1 + wsum w R := by simp [wsum]
theorem wsum_app (w : List Int → Int) (A B : RM) : wsum w (A ++ B) = wsum w A + wsum w B := by simp [wsum]
theorem map_id_keys {R : RM} {k : List Int} {v : Int} (h : k ∉ R.map (·.1)) : R.map (fun p => if p.1 = k then (p.1, v) else p) = R := by
  conv => rhs; rw [← List.map_id R]
  apply List.map_congr_left
  intro p hp
  rw [if_neg (fun e => h (List.mem_map.mpr ⟨p, hp, e⟩))]
  rfl
theorem wsum_put (w : List Int → Int) (k : List Int) (x : Int) : ∀ {R : RM}, (R.map (·.1)).Nodup → wsum w (putR R k ((getR R k).getD 0 + x)) = wsum w R + x * w k
  | [], _ => by simp [putR, getR, wsum]
  | p :: R, h => by
    rw [List.map_cons, List.nodup_cons] at h
    by_cases c : p.1 = k
    · subst c
      have g : getR (p :: R) p.1 = some p.2 := by simp [getR]
      rw [g]
      have e : putR (p :: R) p.1 (p.2 + x) = (p.1, p.2 + x) :: R := by
        unfold putR
        rw [if_pos (by simp), List.map_cons, if_pos rfl, map_id_keys h.1]
      show wsum w (putR (p :: R) p.1 (p.2 + x)) = _
      rw [e, wsum_cons, wsum_cons]
      show (p.2 + x) * w p.1 + wsum w R = _
      rw [Int.add_mul]
      omega
    · have g : getR (p :: R) k = getR R k := by simp [getR, c]
      have e : ∀ v, putR (p :: R) k v = p :: putR R k v := by
        intro v
        unfold putR
        rw [List.any_cons, decide_eq_false c, Bool.false_or]
        by_cases q : (R.any fun p => decide (p.1 = k)) = true
        · rw [if_pos q, if_pos q, List.map_cons, if_neg c]
        · rw [if_neg q, if_neg q]
          rfl
      rw [g, e, wsum_cons, wsum_cons, wsum_put w k x h.2]
      omega
theorem getR_mem {p : List Int × Int} : ∀ {R : RM}, (R.map (·.1)).Nodup → p ∈ R → getR R p.1 = some p.2
  | q :: R, h, m => by
    rw [List.map_cons, List.nodup_cons] at h
    rw [List.mem_cons] at m
    by_cases c : q.1 = p.1
    · rcases m with rfl | m
      · simp [getR]
      · exact absurd (by rw [c]; exact List.mem_map_of_mem m) h.1
    · rcases m with rfl | m
      · exact absurd rfl c
      · have g : getR (q :: R) p.1 = getR R p.1 := by simp [getR, c]
        rw [g]
        exact getR_mem h.2 m
/-- all keys are one -/
theorem getR_one {z : List Int} {R : RM} (h : (R.map (·.1)).Nodup) (ha : ∀ p ∈ R, p.1 = z) : (getR R z).getD 0 = wsum (fun _ => 1) R := by
  match R, h, ha with
  | [], _, _ => rfl
  | [p], _, ha =>
    have := ha p (by simp)
    subst this
    simp [getR]
  | p :: q :: R, h, ha =>
    have h1 := ha p (by simp)
    have h2 := ha q (by simp)
    rw [List.map_cons, List.map_cons, List.nodup_cons] at h
    exact absurd (by rw [h1, h2]; simp) h.1
end SC

set_option Elab.async false
set_option maxRecDepth 100000
set_option maxHeartbeats 1000000
/-! SE5: looks: what is hidden, what may lie where, how many deals there are. -/
namespace SC
open PySem
def libHidden (iAllStones : Nat) (iStoneOf : Nat) : CS := (.seq (.unp [1, 2, 3, 4, 5] (.var 0)) (.seq (.set 6 (.bin .Add (.blt .list (.cons (.var 2) .nil)) (.lc false [7] (.itr (.var 3)) (.tval (.cst (.bool true))) (.call iStoneOf (.cons (.var 7) .nil))))) (.seq (.ret (.blt .tuple (.cons (.lc false [8] (.itr (.call iAllStones (.cons (.var 1) .nil))) (.tval (.cmp .NotIn (.var 8) (.var 6))) (.var 8)) .nil))) .nil)))
def libMayLie : CS := (.seq (.ret (.not (.blt .any (.cons (.lc false [3] (.itr (.var 2)) (.tval (.cst (.bool true))) (.cmp .In (.var 3) (.idx (.idx (.var 0) (.cst (.int 4))) (.var 1)))) .nil)))) .nil)
def libWays (iMayLie : Nat) : CS := .sfn (.seq (.set 3 (.dds 10 (.blt .tuple (.cons (.var 2) .nil)) (.cst (.int 1)))) (.seq (.forS false [4] (.itr (.var 1)) (.seq (.set 5 (.dnw 10 1)) (.seq (.forK 10 3 6 (.seq (.forS false [7] (.rng (.cons (.blt .len (.cons (.var 6) .nil)) .nil)) (.seq (.ite (.tand (.tval (.cmp .Gt (.idx (.var 6) (.var 7)) (.cst (.int 0)))) (.tval (.call iMayLie (.cons (.var 0) (.cons (.var 7) (.cons (.var 4) .nil)))))) (.seq (.set 8 (.bin .Add (.bin .Add (.slc (.var 6) .nil (.cons (.var 7) .nil)) (.tup (.cons (.bin .Sub (.idx (.var 6) (.var 7)) (.cst (.int 1))) .nil))) (.slc (.var 6) (.cons (.bin .Add (.var 7) (.cst (.int 1))) .nil) .nil))) (.seq (.dpt 10 (.var 5) (.var 8) (.bin .Add (.dgt 10 (.var 5) (.var 8) (.cst (.int 0))) (.dgi 10 (.var 3) (.var 6)))) .nil)) .nil) .nil)) .nil)) (.seq (.set 3 (.var 5)) .nil)))) (.seq (.ret (.dgt 10 (.var 3) (.blt .tuple (.cons (.lc false [9] (.itr (.var 2)) (.tval (.cst (.bool true))) (.cst (.int 0))) .nil)) (.cst (.int 0)))) .nil)))
def libDeals (iHidden : Nat) (iWays : Nat) : CS := (.seq (.ret (.calE iWays (.cons (.var 0) (.cons (.call iHidden (.cons (.var 0) .nil)) (.cons (.idx (.var 0) (.cst (.int 3))) .nil))))) .nil)
def libLawLook (iLawAll : Nat) (iLawChain : Nat) (iLawMix : Nat) : CS := (.seq (.set 2 (.bin .Add (.cst (.int 2)) (.call iLawMix (.cons (.var 0) (.cons (.cst (.int 9743)) (.cons (.cst (.int 3)) .nil)))))) (.seq (.set 3 (.call iLawAll (.cons (.var 2) .nil))) (.seq (.set 4 (.call iLawChain (.cons (.bin .Add (.var 0) (.cst (.int 1))) (.cons (.var 2) (.cons (.bin .Add (.cst (.int 1)) (.call iLawMix (.cons (.var 0) (.cons (.cst (.int 9739)) (.cons (.cst (.int 6)) .nil))))) .nil))))) (.seq (.set 5 (.lc false [6] (.itr (.var 4)) (.tval (.cst (.bool true))) (.blt .tuple (.cons (.blt .sorted (.cons (.var 6) .nil)) .nil)))) (.seq (.set 7 (.lc false [8] (.itr (.var 3)) (.tval (.cmp .NotIn (.var 8) (.var 5))) (.var 8))) (.seq (.set 9 (.lst .nil)) (.seq (.whl (.tor (.tval (.cmp .Gt (.blt .len (.cons (.var 7) .nil)) (.var 1))) (.tand (.tval (.var 7)) (.tval (.cmp .Eq (.call iLawMix (.cons (.bin .Add (.var 0) (.blt .len (.cons (.var 7) .nil))) (.cons (.cst (.int 9733)) (.cons (.cst (.int 4)) .nil)))) (.cst (.int 0)))))) (.seq (.expr (.app 9 (.popA 7 (.call iLawMix (.cons (.bin .Add (.var 0) (.bin .Mult (.cst (.int 7)) (.blt .len (.cons (.var 7) .nil)))) (.cons (.cst (.int 9721)) (.cons (.blt .len (.cons (.var 7) .nil)) .nil))))))) .nil)) (.seq (.set 10 (.bin .Add (.cst (.int 1)) (.call iLawMix (.cons (.var 0) (.cons (.cst (.int 9719)) (.cons (.cst (.int 3)) .nil)))))) (.seq (.set 11 (.lc false [12] (.rng (.cons (.var 10) .nil)) (.tval (.cst (.bool true))) (.cst (.int 0)))) (.seq (.forS false [8] (.itr (.var 7)) (.seq (.set 13 (.call iLawMix (.cons (.bin .Add (.bin .Add (.var 0) (.bin .Mult (.cst (.int 3)) (.idx (.var 8) (.cst (.int 0))))) (.bin .Mult (.cst (.int 5)) (.idx (.var 8) (.cst (.int 1))))) (.cons (.cst (.int 9697)) (.cons (.var 10) .nil))))) (.seq (.put 11 (.var 13) (.bin .Add (.idx (.var 11) (.var 13)) (.cst (.int 1)))) .nil))) (.seq (.set 14 (.lst .nil)) (.seq (.forS false [12] (.rng (.cons (.var 10) .nil)) (.seq (.set 15 (.lc false [16] (.rng (.cons (.bin .Add (.var 2) (.cst (.int 1))) .nil)) (.tval (.cmp .Eq (.call iLawMix (.cons (.bin .Add (.bin .Add (.var 0) (.bin .Mult (.cst (.int 11)) (.var 12))) (.var 16)) (.cons (.cst (.int 9689)) (.cons (.cst (.int 5)) .nil)))) (.cst (.int 0)))) (.var 16))) (.seq (.expr (.app 14 (.blt .tuple (.cons (.var 15) .nil)))) .nil))) (.seq (.ret (.tup (.cons (.var 2) (.cons (.blt .tuple (.cons (.blt .sorted (.cons (.var 9) .nil)) .nil)) (.cons (.var 4) (.cons (.blt .tuple (.cons (.var 11) .nil)) (.cons (.blt .tuple (.cons (.var 14) .nil)) .nil))))))) .nil)))))))))))))
def libLawHidden (iLawAll : Nat) : CS := (.seq (.set 1 (.bin .Add (.blt .list (.cons (.idx (.var 0) (.cst (.int 1))) .nil)) (.lc false [2] (.itr (.idx (.var 0) (.cst (.int 2)))) (.tval (.cst (.bool true))) (.blt .tuple (.cons (.blt .sorted (.cons (.var 2) .nil)) .nil))))) (.seq (.ret (.lc false [3] (.itr (.call iLawAll (.cons (.idx (.var 0) (.cst (.int 0))) .nil))) (.tval (.cmp .NotIn (.var 3) (.var 1))) (.var 3))) .nil))
def libLawDeals (iLawDeals : Nat) : CS := (.seq (.ite (.tval (.cmp .Eq (.var 1) (.lst .nil))) (.seq (.ret (.lst (.cons (.tup .nil) .nil))) .nil) .nil) (.seq (.set 3 (.lst .nil)) (.seq (.forS false [4] (.rng (.cons (.blt .len (.cons (.var 2) .nil)) .nil)) (.seq (.set 5 (.idx (.idx (.var 0) (.cst (.int 4))) (.var 4))) (.seq (.ite (.tand (.tval (.cmp .Gt (.idx (.var 2) (.var 4)) (.cst (.int 0)))) (.tand (.tval (.cmp .NotIn (.idx (.idx (.var 1) (.cst (.int 0))) (.cst (.int 0))) (.var 5))) (.tval (.cmp .NotIn (.idx (.idx (.var 1) (.cst (.int 0))) (.cst (.int 1))) (.var 5))))) (.seq (.set 6 (.lc true [7, 8] (.enm (.cons (.var 2) .nil)) (.tval (.cst (.bool true))) (.bin .Sub (.var 8) (.blt .int (.cons (.cmp .Eq (.var 7) (.var 4)) .nil))))) (.seq (.expr (.ext 3 (.lc false [9] (.itr (.call iLawDeals (.cons (.var 0) (.cons (.slc (.var 1) (.cons (.cst (.int 1)) .nil) .nil) (.cons (.var 6) .nil))))) (.tval (.cst (.bool true))) (.bin .Add (.tup (.cons (.var 4) .nil)) (.var 9))))) .nil)) .nil) .nil))) (.seq (.ret (.var 3)) .nil))))
def lkD (most : Int) (mine chain : List (Int × Int)) (counts : List Int) (lacks : List (List Int)) : PyData := .tuple [.int most, .tuple (prs mine), .tuple (prs chain), .tuple (counts.map PyData.int), .tuple (lacks.map fun l => .tuple (l.map PyData.int))]
def lackAt (lacks : List (List Int)) (p : Nat) : List Int := lacks[p]?.getD []
def okB (lacks : List (List Int)) (s : Int × Int) (p : Nat) : Bool := !(decide (s.1 ∈ lackAt lacks p)) && !(decide (s.2 ∈ lackAt lacks p))
theorem gd_int (k : Nat) (i : Int) : Gd1 (k + 1) (.int i) := Gd1.mono (k := 1) ⟨rfl, by show (0 : Nat) ≤ 1; omega⟩ (by omega)
theorem gd_ints (l : List Int) : Gd1 2 (.tuple (l.map PyData.int)) := Gd1.tup fun d hd => by
  obtain ⟨x, _, rfl⟩ := List.mem_map.mp hd
  exact gd_int 0 x
theorem any_int (x : Int) : ∀ l : List Int, ((l.map PyData.int).any fun z => PyData.eqv z (.int x)) = decide (x ∈ l)
  | [] => rfl
  | y :: l => by
    rw [List.map_cons, List.any_cons, any_int x l]
    have e : PyData.eqv (.int y) (.int x) = decide (x = y) := by
      show (y == x) = _
      by_cases q : x = y
      · simp [q]
      · rw [decide_eq_false q]
        simp
        exact fun z => q z.symm
    rw [e]
    by_cases q : x = y <;> simp [q]
theorem inD_ints (x : Int) (l : List Int) : inD (.int x) (.tuple (l.map PyData.int)) = some (decide (x ∈ l)) := by
  show (if SeqAt.shaped (.int x) && SeqAt.shaped (.tuple (l.map PyData.int)) then some ((l.map PyData.int).any fun z => PyData.eqv z (.int x)) else none) = _
  rw [(gd_ints l).shaped (by omega), any_int]
  rfl
theorem at_lack {lacks : List (List Int)} {p : Nat} (h : p < lacks.length) : L2.atI (lacks.map fun l => PyData.tuple (l.map PyData.int)) (p : Int) = some (.tuple ((lackAt lacks p).map PyData.int)) := atI_nat (by
  rw [List.getElem?_map, List.getElem?_eq_getElem h]
  simp [lackAt, List.getElem?_eq_getElem h])
theorem at_int {l : List Int} {p : Nat} (h : p < l.length) : L2.atI (l.map PyData.int) (p : Int) = some (.int (l[p]?.getD 0)) := atI_nat (by
  rw [List.getElem?_map, List.getElem?_eq_getElem h]
  simp)
section
variable {T : List FD} {i n : Nat}
theorem r_maylie {most : Int} {mine chain : List (Int × Int)} {counts : List Int} {lacks : List (List Int)} {s : Int × Int} {p : Nat} (h : T[i]? = some ⟨3, 4, libMayLie⟩) (hp : p < lacks.length) : run T (n + 1) i [lkD most mine chain counts lacks, .int p, pr s] = .ret (.fz (.bool (okB lacks s p))) := by
  rw [run_def h rfl]
  have al := at_lack hp
  have a4 : L2.atI [PyData.int most, .tuple (prs mine), .tuple (prs chain), .tuple (counts.map PyData.int), .tuple (lacks.map fun l => .tuple (l.map PyData.int))] 4 = some (.tuple (lacks.map fun l => .tuple (l.map PyData.int))) := atI_of (by omega) rfl
  have lp := fun hid => lc_map (tup := false) (tg := [3]) (hid := hid) (c := evT (run T n) (.tval (.cst (.bool true)))) (e := ev (run T n) (.cmp .In (.var 3) (.idx (.idx (.var 0) (.cst (.int 4))) (.var 1)))) (r := [some (.fz (lkD most mine chain counts lacks)), some (.fz (.int p)), none, none]) (ds := [.int s.1, .int s.2]) (acc := [])
    (fun d => match d with | .int x => .bool (decide (x ∈ lackAt lacks p)) | d => d) (fun d m => by
      have : ∃ x : Int, d = .int x := by
        simp at m
        rcases m with rfl | rfl <;> exact ⟨_, rfl⟩
      obtain ⟨x, rfl⟩ := this
      have q := inD_ints x (lackAt lacks p)
      simp [itemO_one, lkD, a4, al, q])
  have bb : boolsD [.bool (decide (s.1 ∈ lackAt lacks p)), .bool (decide (s.2 ∈ lackAt lacks p))] = some [decide (s.1 ∈ lackAt lacks p), decide (s.2 ∈ lackAt lacks p)] := rfl
  simp only [List.nil_append, List.map_cons, List.map_nil] at lp
  simp [libMayLie, ini, lp, bb, okB]
end
/-! ### the deals, one by one -/
def decr (c : List Int) (p : Nat) : List Int := c.set p (c[p]?.getD 0 - 1)
def canB (lacks : List (List Int)) (s : Int × Int) (c : List Int) (p : Nat) : Bool := decide (0 < c[p]?.getD 0) && okB lacks s p
def dealsL (lacks : List (List Int)) : List (Int × Int) → List Int → List (List Int)
  | [], _ => [[]]
  | s :: ss, c => (List.range c.length).flatMap fun p => if canB lacks s c p then (dealsL lacks ss (decr c p)).map ((p : Int) :: ·) else []
/-- one place -/
def plR (lacks : List (List Int)) (s : Int × Int) (room : List Int) (v : Int) (R : RM) (p : Nat) : RM := if canB lacks s room p then putR R (decr room p) ((getR R (decr room p)).getD 0 + v) else R
def plsR (lacks : List (List Int)) (s : Int × Int) (room : List Int) (v : Int) (R : RM) (j : Nat) : RM := (List.range j).foldl (plR lacks s room v) R
def keyR (lacks : List (List Int)) (s : Int × Int) (R : RM) (q : List Int × Int) : RM := plsR lacks s q.1 q.2 R q.1.length
def stnR (lacks : List (List Int)) (RR : RM) (s : Int × Int) : RM := RR.foldl (keyR lacks s) []
theorem plsR_succ (lacks : List (List Int)) (s : Int × Int) (room : List Int) (v : Int) (R : RM) (j : Nat) : plsR lacks s room v R (j + 1) = plR lacks s room v (plsR lacks s room v R j) j := by
  unfold plsR
  rw [List.range_succ, List.foldl_append]
  rfl
theorem decr_len (c : List Int) (p : Nat) : (decr c p).length = c.length := by simp [decr]
/-- rooms that are well: no key twice, all keys of one length, none below zero, of one sum -/
structure Rok (L : Nat) (m : Int) (R : RM) : Prop where
  nd : (R.map (·.1)).Nodup
  ks : ∀ p ∈ R, p.1.length = L ∧ (∀ x ∈ p.1, 0 ≤ x) ∧ p.1.sum = m
theorem sum_set : ∀ (c : List Int) (p : Nat) (x : Int), p < c.length → (c.set p x).sum = c.sum - c[p]?.getD 0 + x
  | a :: c, 0, x, _ => by simp; omega
  | a :: c, p + 1, x, h => by
    have := sum_set c p x (by simpa using h)
    simp [this]
    omega
theorem decr_ok {L : Nat} {m : Int} {lacks : List (List Int)} {s : Int × Int} {c : List Int} {p : Nat} (hc : canB lacks s c p = true) (h : c.length = L ∧ (∀ x ∈ c, 0 ≤ x) ∧ c.sum = m + 1) : (decr c p).length = L ∧ (∀ x ∈ decr c p, 0 ≤ x) ∧ (decr c p).sum = m := by
  obtain ⟨h1, h2, h3⟩ := h
  unfold canB at hc
  rw [Bool.and_eq_true, decide_eq_true_eq] at hc
  have hp : p < c.length := by
    by_cases q : p < c.length
    · exact q
    · have := hc.1
      rw [List.getElem?_eq_none (by omega)] at this
      simp at this
  refine ⟨by rw [decr_len]; exact h1, fun x hx => ?_, ?_⟩
  · rcases List.mem_or_eq_of_mem_set hx with hx | rfl
    · exact h2 x hx
    · have := hc.1
      omega
  · unfold decr
    rw [sum_set _ _ _ hp]
    omega
theorem plR_ok {L : Nat} {m : Int} {lacks : List (List Int)} {s : Int × Int} {room : List Int} {v : Int} {R : RM} {p : Nat} (hr : room.length = L ∧ (∀ x ∈ room, 0 ≤ x) ∧ room.sum = m + 1) (h : Rok L m R) : Rok L m (plR lacks s room v R p) := by
  unfold plR
  split
  · rename_i c
    exact ⟨putR_nd h.nd _ _, putR_all (P := fun k => k.length = L ∧ (∀ x ∈ k, 0 ≤ x) ∧ k.sum = m) h.ks (decr_ok c hr) _⟩
  · exact h
theorem plR_len (lacks : List (List Int)) (s : Int × Int) (room : List Int) (v : Int) (R : RM) (p : Nat) : (plR lacks s room v R p).length ≤ R.length + 1 := by
  unfold plR
  split
  · exact putR_len _ _ _
  · omega
theorem plR_sum {lacks : List (List Int)} {s : Int × Int} {room : List Int} {v : Int} {R : RM} {p : Nat} (w : List Int → Int) (h : (R.map (·.1)).Nodup) : wsum w (plR lacks s room v R p) = wsum w R + v * (if canB lacks s room p then w (decr room p) else 0) := by
  unfold plR
  split
  · rw [wsum_put w _ v h]
  · simp
theorem plsR_ok {L : Nat} {m : Int} {lacks : List (List Int)} {s : Int × Int} {room : List Int} {v : Int} {R : RM} (hr : room.length = L ∧ (∀ x ∈ room, 0 ≤ x) ∧ room.sum = m + 1) (h : Rok L m R) : ∀ j, Rok L m (plsR lacks s room v R j) ∧ (plsR lacks s room v R j).length ≤ R.length + j
  | 0 => ⟨h, Nat.le_refl _⟩
  | j + 1 => by
    obtain ⟨h1, h2⟩ := plsR_ok (v := v) (lacks := lacks) (s := s) hr h j
    rw [plsR_succ]
    have := plR_len lacks s room v (plsR lacks s room v R j) j
    exact ⟨plR_ok hr h1, by omega⟩
theorem plsR_sum {L : Nat} {m : Int} {lacks : List (List Int)} {s : Int × Int} {room : List Int} {v : Int} {R : RM} {ss : List (Int × Int)} (hr : room.length = L ∧ (∀ x ∈ room, 0 ≤ x) ∧ room.sum = m + 1) (h : Rok L m R) : ∀ j, wsum (fun c => (dealsL lacks ss c).length) (plsR lacks s room v R j) = wsum (fun c => (dealsL lacks ss c).length) R + v * (((List.range j).flatMap fun p => if canB lacks s room p then (dealsL lacks ss (decr room p)).map ((p : Int) :: ·) else []).length : Nat)
  | 0 => by simp [plsR]
  | j + 1 => by
    rw [plsR_succ, plR_sum _ (plsR_ok hr h j).1.nd, plsR_sum hr h j, List.range_succ, List.flatMap_append, List.length_append, List.flatMap_singleton]
    by_cases c : canB lacks s room j = true
    · rw [if_pos c, if_pos c, List.length_map, Int.natCast_add, Int.mul_add]
      omega
    · rw [if_neg c, if_neg c]
      simp
theorem keyR_ok {L : Nat} {m : Int} {lacks : List (List Int)} {s : Int × Int} {q : List Int × Int} {R : RM} {ss : List (Int × Int)} (hr : q.1.length = L ∧ (∀ x ∈ q.1, 0 ≤ x) ∧ q.1.sum = m + 1) (h : Rok L m R) : Rok L m (keyR lacks s R q) ∧ (keyR lacks s R q).length ≤ R.length + L ∧ wsum (fun c => (dealsL lacks ss c).length) (keyR lacks s R q) = wsum (fun c => (dealsL lacks ss c).length) R + q.2 * ((dealsL lacks (s :: ss) q.1).length : Nat) := by
  have := plsR_ok (v := q.2) (lacks := lacks) (s := s) hr h q.1.length
  exact ⟨this.1, by have := this.2; unfold keyR; rw [hr.1] at this; rw [hr.1]; exact this, plsR_sum hr h _⟩
theorem keysR_ok {L : Nat} {m : Int} {lacks : List (List Int)} {s : Int × Int} {ss : List (Int × Int)} : ∀ {RR R : RM}, (∀ q ∈ RR, q.1.length = L ∧ (∀ x ∈ q.1, 0 ≤ x) ∧ q.1.sum = m + 1) → Rok L m R → Rok L m (RR.foldl (keyR lacks s) R) ∧ (RR.foldl (keyR lacks s) R).length ≤ R.length + RR.length * L ∧ wsum (fun c => (dealsL lacks ss c).length) (RR.foldl (keyR lacks s) R) = wsum (fun c => (dealsL lacks ss c).length) R + wsum (fun c => (dealsL lacks (s :: ss) c).length) RR
  | [], R, _, h => by simp [h]
  | q :: RR, R, hq, h => by
    obtain ⟨h1, h2, h3⟩ := keyR_ok (lacks := lacks) (s := s) (ss := ss) (hq q (by simp)) h
    obtain ⟨g1, g2, g3⟩ := keysR_ok (RR := RR) (lacks := lacks) (s := s) (ss := ss) (fun q hq' => hq q (List.mem_cons_of_mem _ hq')) h1
    rw [List.foldl_cons]
    refine ⟨g1, ?_, ?_⟩
    · rw [List.length_cons, Nat.add_mul]
      omega
    · rw [g3, h3, wsum_cons]
      omega
/-- the rooms behind j stones -/
def rmsR (lacks : List (List Int)) (stones : List (Int × Int)) (c : List Int) (j : Nat) : RM := (stones.take j).foldl (stnR lacks) [(c, 1)]
theorem rmsR_succ {lacks : List (List Int)} {stones : List (Int × Int)} {c : List Int} {j : Nat} {s : Int × Int} (h : stones[j]? = some s) : rmsR lacks stones c (j + 1) = stnR lacks (rmsR lacks stones c j) s := by
  unfold rmsR
  rw [List.take_add_one, h, List.foldl_append]
  rfl
theorem rmsR_ok {lacks : List (List Int)} {stones : List (Int × Int)} {c : List Int} (h0 : ∀ x ∈ c, 0 ≤ x) (hs : c.sum = stones.length) (h4 : c.length ≤ 4) : ∀ j, j ≤ stones.length → Rok c.length ((stones.length : Int) - j) (rmsR lacks stones c j) ∧ (rmsR lacks stones c j).length ≤ 4 ^ j ∧ wsum (fun d => (dealsL lacks (stones.drop j) d).length) (rmsR lacks stones c j) = (dealsL lacks stones c).length
  | 0, _ => by
    refine ⟨⟨(by simp [rmsR]), fun p hp => ?_⟩, by simp [rmsR], by simp [rmsR]⟩
    simp [rmsR] at hp
    subst hp
    exact ⟨rfl, h0, by simp; omega⟩
  | j + 1, hj => by
    obtain ⟨h1, h2, h3⟩ := rmsR_ok (lacks := lacks) h0 hs h4 j (by omega)
    have hg : stones[j]? = some stones[j] := List.getElem?_eq_getElem (by omega)
    have e : stones.drop j = stones[j] :: stones.drop (j + 1) := List.drop_eq_getElem_cons (by omega)
    rw [rmsR_succ hg]
    obtain ⟨g1, g2, g3⟩ := keysR_ok (L := c.length) (m := (stones.length : Int) - (j + 1 : Nat)) (lacks := lacks) (s := stones[j]) (ss := stones.drop (j + 1)) (RR := rmsR lacks stones c j) (R := []) (fun q hq => by
      obtain ⟨a, b, d⟩ := h1.ks q hq
      exact ⟨a, b, by omega⟩) ⟨(by simp), (fun p hp => nomatch hp)⟩
    refine ⟨g1, ?_, ?_⟩
    · refine Nat.le_trans g2 ?_
      rw [List.length_nil, Nat.zero_add, Nat.pow_succ]
      exact Nat.mul_le_mul h2 h4
    · rw [← h3, e]
      show wsum _ (stnR lacks _ _) = _
      unfold stnR
      rw [g3]
      simp
theorem zeros_of : ∀ {c : List Int}, (∀ x ∈ c, 0 ≤ x) → c.sum = 0 → c = c.map fun _ => 0
  | [], _, _ => rfl
  | a :: c, h, hs => by
    have ha := h a (by simp)
    have hc : ∀ x ∈ c, 0 ≤ x := fun x hx => h x (List.mem_cons_of_mem _ hx)
    have hn : 0 ≤ c.sum := by
      clear h hs ha
      induction c with
      | nil => simp
      | cons b c ih =>
        have h1 := hc b (by simp)
        have h2 := ih fun x hx => hc x (List.mem_cons_of_mem _ hx)
        rw [List.sum_cons]
        omega
    rw [List.sum_cons] at hs
    have e := zeros_of hc (by omega)
    rw [List.map_cons, ← e, show a = 0 by omega]
/-- what ways answers -/
theorem ways_eq {lacks : List (List Int)} {stones : List (Int × Int)} {c : List Int} (h0 : ∀ x ∈ c, 0 ≤ x) (hs : c.sum = stones.length) (h4 : c.length ≤ 4) : (getR (rmsR lacks stones c stones.length) (c.map fun _ => 0)).getD 0 = (dealsL lacks stones c).length := by
  obtain ⟨h1, h2, h3⟩ := rmsR_ok (lacks := lacks) h0 hs h4 stones.length (Nat.le_refl _)
  rw [List.drop_length] at h3
  rw [getR_one h1.nd (fun p hp => ?_), ← h3]
  · rfl
  · obtain ⟨a, b, d⟩ := h1.ks p hp
    rw [zeros_of b (by omega)]
    rw [show (fun _ : Int => (0 : Int)) = Function.const Int 0 from rfl, List.map_const, List.map_const, a]
/-! ### the walk of ways -/
def wPlace (m : Nat) : CS := match libWays m with
  | .sfn (.seq _ (.seq (.forS _ _ _ (.seq _ (.seq (.forK _ _ _ (.seq (.forS _ _ _ b) _)) _))) _)) => b
  | _ => .bad
def wStone (m : Nat) : CS := match libWays m with
  | .sfn (.seq _ (.seq (.forS _ _ _ b) _)) => b
  | _ => .bad
theorem set_eq {c : List Int} {p : Nat} (h : p < c.length) (x : Int) : ((c.map PyData.int).take p ++ [PyData.int x]) ++ (c.map PyData.int).drop (p + 1) = (c.set p x).map PyData.int := by
  rw [List.append_assoc, List.singleton_append, ← List.map_take, ← List.map_drop, ← List.map_cons, ← List.map_append, List.set_eq_take_append_cons_drop, if_pos h]
section
variable {F : Fs} {m : Nat}
theorem w_place {LK x1 x2 x7 x8 x9 : Option Val} {lk : PyData} {lacks : List (List Int)} {a b L : Nat} {s : Int × Int} {room : List Int} {v : Int} {RR R : RM} {S : List Ob} {p : Nat} (hF : F m [lk, .int p, pr s] = .ret (.fz (.bool (okB lacks s p)))) (hp : p < room.length) (hl : room.length ≤ 1000)
    (hab : a ≠ b) (hL : S.length = L) (hSa : S[a]? = some (.lkT (encR RR))) (hSb : S[b]? = some (.dT (encR R))) (hv : getR RR room = some v) (hR : R.length < 1000000) :
    ∃ S' x8', exec F (wPlace m) [some (.fz lk), x1, x2, some (.fz (refD a)), some (.fz (pr s)), some (.fz (refD b)), some (.fz (.tuple (room.map PyData.int))), some (.fz (.int p)), x8, x9, some (.sto S)] = .ok .nx [some (.fz lk), x1, x2, some (.fz (refD a)), some (.fz (pr s)), some (.fz (refD b)), some (.fz (.tuple (room.map PyData.int))), some (.fz (.int p)), x8', x9, some (.sto S')] ∧
      S'.length = L ∧ S'[a]? = some (.lkT (encR RR)) ∧ S'[b]? = some (.dT (encR (plR lacks s room v R p))) := by
  have ai := at_int hp
  by_cases c1 : 0 < room[p]?.getD 0
  · by_cases c2 : okB lacks s p = true
    · have cb : canB lacks s room p = true := by simp [canB, c1, c2]
      have ct := cut_to (ds := room.map PyData.int) (a := (p : Int)) (by omega) (by simp; omega)
      have cf := cut_from (ds := room.map PyData.int) (a := (p : Int) + 1) (by omega)
      rw [show ((p : Int)).toNat = p by omega] at ct
      rw [show ((p : Int) + 1).toNat = p + 1 by omega] at cf
      have b1 := bin_cat (a := (room.map PyData.int).take p) (b := [PyData.int (room[p]?.getD 0 - 1)]) (by
        show _ ≤ 16777216
        simp; omega)
      have b2 := bin_cat (a := (room.map PyData.int).take p ++ [PyData.int (room[p]?.getD 0 - 1)]) (b := (room.map PyData.int).drop (p + 1)) (by
        show _ ≤ 16777216
        simp; omega)
      rw [set_eq hp] at b2
      have e1 : exec F (.set 8 (.bin .Add (.bin .Add (.slc (.var 6) .nil (.cons (.var 7) .nil)) (.tup (.cons (.bin .Sub (.idx (.var 6) (.var 7)) (.cst (.int 1))) .nil))) (.slc (.var 6) (.cons (.bin .Add (.var 7) (.cst (.int 1))) .nil) .nil))) [some (.fz lk), x1, x2, some (.fz (refD a)), some (.fz (pr s)), some (.fz (refD b)), some (.fz (.tuple (room.map PyData.int))), some (.fz (.int p)), x8, x9, some (.sto S)] = .ok .nx [some (.fz lk), x1, x2, some (.fz (refD a)), some (.fz (pr s)), some (.fz (refD b)), some (.fz (.tuple (room.map PyData.int))), some (.fz (.int p)), some (.fz (.tuple ((decr room p).map PyData.int))), x9, some (.sto S)] := by
        simp [ct, cf, ai, b1, b2, decr]
      have gx : dGet (.dT (encR R)) (.tuple ((decr room p).map PyData.int)) = some ((getR R (decr room p)).map PyData.int) := by
        show (intsD ((decr room p).map PyData.int)).map (fun ns => valA (encR R) (tKey ns)) = _
        rw [intsD_map]
        show some (valA (encR R) (tKey (decr room p))) = _
        rw [getR_enc]
      have gy : dGet (.lkT (encR RR)) (.tuple (room.map PyData.int)) = some (some (.int v)) := by
        show (intsD (room.map PyData.int)).map (fun ns => valA (encR RR) (tKey ns)) = _
        rw [intsD_map]
        show some (valA (encR RR) (tKey room)) = _
        rw [getR_enc, hv]
        rfl
      have px : dPut (.dT (encR R)) (.tuple ((decr room p).map PyData.int)) (.int ((getR R (decr room p)).getD 0 + v)) = some (.dT (encR (putR R (decr room p) ((getR R (decr room p)).getD 0 + v)))) := by
        show (if (encR R).length < 1000000 then (intsD ((decr room p).map PyData.int)).map (fun ns => Ob.dT (putB (encR R) (tKey ns) (.int ((getR R (decr room p)).getD 0 + v)))) else none) = _
        rw [if_pos (by rw [encR_len]; exact hR), intsD_map]
        show some (Ob.dT (putB (encR R) (tKey (decr room p)) (.int ((getR R (decr room p)).getD 0 + v)))) = _
        rw [putR_enc]
      have gd : (((getR R (decr room p)).map PyData.int).getD (PyData.int 0)) = .int ((getR R (decr room p)).getD 0) := by
        cases getR R (decr room p) <;> rfl
      generalize hr : [some (Val.fz lk), x1, x2, some (.fz (refD a)), some (.fz (pr s)), some (.fz (refD b)), some (.fz (.tuple (room.map PyData.int))), some (.fz (.int p)), some (.fz (.tuple ((decr room p).map PyData.int))), x9, some (.sto S)] = r1 at e1
      have s3 : getS r1 3 = some (.fz (refD a)) := by rw [← hr]; rfl
      have s5 : getS r1 5 = some (.fz (refD b)) := by rw [← hr]; rfl
      have s6 : getS r1 6 = some (.fz (.tuple (room.map PyData.int))) := by rw [← hr]; rfl
      have s8 : getS r1 8 = some (.fz (.tuple ((decr room p).map PyData.int))) := by rw [← hr]; rfl
      have s10 : getS r1 10 = some (.sto S) := by rw [← hr]; rfl
      have oa := obN_ref s10 hSa
      have ob := obN_ref s10 hSb
      have e2 : ev F (.dgt 10 (.var 5) (.var 8) (.cst (.int 0))) r1 = .ok (.fz (.int ((getR R (decr room p)).getD 0))) r1 := by
        have h5 : ev F (.var 5) r1 = .ok (.fz (refD b)) r1 := by rw [ev_var, varV_fz s5]
        rw [ev_dgt h5 ob rfl]
        simp only [ev_var, varV_fz s8, bnd_ok, ev_cst, toD_fz]
        rw [dgtO_ok ob gx, gd]
      have e3 : ev F (.dgi 10 (.var 3) (.var 6)) r1 = .ok (.fz (.int v)) r1 := by
        rw [ev_dgi]
        simp only [ev_var, varV_fz s3, varV_fz s6, bnd_ok, toD_fz]
        exact dgiO_ok oa gy
      have e4 : exec F (.dpt 10 (.var 5) (.var 8) (.bin .Add (.dgt 10 (.var 5) (.var 8) (.cst (.int 0))) (.dgi 10 (.var 3) (.var 6)))) r1 = .ok .nx (r1.set 10 (some (.sto (S.set b (.dT (encR (putR R (decr room p) ((getR R (decr room p)).getD 0 + v)))))))) := by
        simp only [exec_dpt, ev_bin, op2_def, mkO_dgt, mkO_dgi, e2, e3, bnd_ok, toD_fz, opd_dat, of_some, bin_add, ev_var, varV_fz s5, varV_fz s8]
        exact dptO_ok ob px
      refine ⟨S.set b (.dT (encR (plR lacks s room v R p))), some (.fz (.tuple ((decr room p).map PyData.int))), ?_, by rw [List.length_set]; exact hL, ?_, ?_⟩
      · show exec F (.seq (.ite _ _ _) .nil) _ = _
        rw [exec_seq (r1 := r1.set 10 (some (.sto (S.set b (.dT (encR (plR lacks s room v R p))))))) ?_, exec_nil, ← hr]
        · rfl
        · rw [exec_ite]
          have et : evT F (.tand (.tval (.cmp .Gt (.idx (.var 6) (.var 7)) (.cst (.int 0)))) (.tval (.call m (.cons (.var 0) (.cons (.var 7) (.cons (.var 4) .nil)))))) [some (.fz lk), x1, x2, some (.fz (refD a)), some (.fz (pr s)), some (.fz (refD b)), some (.fz (.tuple (room.map PyData.int))), some (.fz (.int p)), x8, x9, some (.sto S)] = .ok true [some (.fz lk), x1, x2, some (.fz (refD a)), some (.fz (pr s)), some (.fz (refD b)), some (.fz (.tuple (room.map PyData.int))), some (.fz (.int p)), x8, x9, some (.sto S)] := by
            simp [ai, c1, hF, c2]
          rw [et, bnd_ok, if_pos rfl, exec_seq e1, exec_seq e4, exec_nil]
          unfold plR
          rw [if_pos cb]
      · rw [List.getElem?_set_ne (Ne.symm hab)]
        exact hSa
      · rw [List.getElem?_set_self (List.getElem?_eq_some_iff.mp hSb).1]
    · have cb : canB lacks s room p = false := by simp [canB, c2]
      refine ⟨S, x8, ?_, hL, hSa, by unfold plR; rw [cb]; exact hSb⟩
      show exec F (.seq (.ite _ _ _) .nil) _ = _
      simp [ai, c1, hF, c2]
  · have cb : canB lacks s room p = false := by simp [canB, c1]
    refine ⟨S, x8, ?_, hL, hSa, by unfold plR; rw [cb]; exact hSb⟩
    show exec F (.seq (.ite _ _ _) .nil) _ = _
    simp [ai, c1]
end
section
variable {F : Fs} {m : Nat}
def wKey (m : Nat) : CS := match libWays m with
  | .sfn (.seq _ (.seq (.forS _ _ _ (.seq _ (.seq (.forK _ _ _ b) _))) _)) => b
  | _ => .bad
theorem w_key {x1 x2 x7 x8 x9 : Option Val} {lk : PyData} {lacks : List (List Int)} {a b L : Nat} {s : Int × Int} {q : List Int × Int} {RR R : RM} {S : List Ob} {M : Int} (hF : ∀ p, p < lacks.length → F m [lk, .int p, pr s] = .ret (.fz (.bool (okB lacks s p)))) (hr : q.1.length = lacks.length ∧ (∀ x ∈ q.1, 0 ≤ x) ∧ q.1.sum = M + 1) (hl : lacks.length ≤ 1000)
    (hab : a ≠ b) (hL : S.length = L) (hSa : S[a]? = some (.lkT (encR RR))) (hSb : S[b]? = some (.dT (encR R))) (hv : getR RR q.1 = some q.2) (hR : R.length + lacks.length < 1000000) (hok : Rok lacks.length M R) :
    ∃ S' x7' x8', exec F (wKey m) [some (.fz lk), x1, x2, some (.fz (refD a)), some (.fz (pr s)), some (.fz (refD b)), some (.fz (.tuple (q.1.map PyData.int))), x7, x8, x9, some (.sto S)] = .ok .nx [some (.fz lk), x1, x2, some (.fz (refD a)), some (.fz (pr s)), some (.fz (refD b)), some (.fz (.tuple (q.1.map PyData.int))), x7', x8', x9, some (.sto S')] ∧
      S'.length = L ∧ S'[a]? = some (.lkT (encR RR)) ∧ S'[b]? = some (.dT (encR (keyR lacks s R q))) := by
  have rg : rngD [.int (q.1.length : Int)] = some ((List.range q.1.length).map fun (i : Nat) => PyData.int i) := by
    have := rng1 (n := (q.1.length : Int)) (by omega) (by omega)
    simpa using this
  obtain ⟨r', e1, S', x7', x8', rfl, h1, h2, h3⟩ := for_inv (tup := false) (tg := [7]) (body := exec F (wPlace m))
    (fun j r => ∃ S' x7' x8', r = [some (.fz lk), x1, x2, some (.fz (refD a)), some (.fz (pr s)), some (.fz (refD b)), some (.fz (.tuple (q.1.map PyData.int))), x7', x8', x9, some (.sto S')] ∧ S'.length = L ∧ S'[a]? = some (.lkT (encR RR)) ∧ S'[b]? = some (.dT (encR (plsR lacks s q.1 q.2 R j))))
    ((List.range q.1.length).map fun (i : Nat) => PyData.int i) 0 [some (.fz lk), x1, x2, some (.fz (refD a)), some (.fz (pr s)), some (.fz (refD b)), some (.fz (.tuple (q.1.map PyData.int))), x7, x8, x9, some (.sto S)] ⟨S, x7, x8, rfl, hL, hSa, hSb⟩ (fun j d r hd hi => by
      obtain ⟨S', x7', x8', rfl, g1, g2, g3⟩ := hi
      obtain ⟨hj, rfl⟩ := range_item hd
      rw [Nat.zero_add] at g3 ⊢
      have gl := (plsR_ok (v := q.2) (lacks := lacks) (s := s) hr hok j).2
      obtain ⟨S2, y8, e, k1, k2, k3⟩ := w_place (F := F) (m := m) (x1 := x1) (x2 := x2) (x7 := x7') (x8 := x8') (x9 := x9) (LK := x1) (lk := lk) (hF j (by omega)) hj (by omega) hab g1 g2 g3 hv (by omega)
      refine ⟨_, _, rfl, .inl e, S2, _, y8, rfl, k1, k2, ?_⟩
      rw [plsR_succ]
      exact k3)
  rw [List.length_map, List.length_range, Nat.zero_add] at h3
  refine ⟨S', x7', x8', ?_, h1, h2, h3⟩
  show exec F (.seq (.forS false [7] (.rng (.cons (.blt .len (.cons (.var 6) .nil)) .nil)) (wPlace m)) .nil) _ = _
  simp [rg, e1]
theorem w_stone {x1 x2 x5 x6 x7 x8 x9 : Option Val} {lk : PyData} {lacks : List (List Int)} {a : Nat} {s : Int × Int} {RR : RM} {S : List Ob} {M : Int} (hF : ∀ p, p < lacks.length → F m [lk, .int p, pr s] = .ret (.fz (.bool (okB lacks s p)))) (hl : lacks.length ≤ 1000)
    (hL : S.length = a + 1) (hSa : S[a]? = some (.dT (encR RR))) (hR : RR.length * lacks.length + lacks.length < 1000000) (hok : Rok lacks.length (M + 1) RR) :
    ∃ S' x6' x7' x8', exec F (wStone m) [some (.fz lk), x1, x2, some (.fz (refD a)), some (.fz (pr s)), x5, x6, x7, x8, x9, some (.sto S)] = .ok .nx [some (.fz lk), x1, x2, some (.fz (refD (a + 1))), some (.fz (pr s)), some (.fz (refD (a + 1))), x6', x7', x8', x9, some (.sto S')] ∧
      S'.length = a + 2 ∧ S'[a + 1]? = some (.dT (encR (stnR lacks RR s))) := by
  have a1 : a < S.length := by omega
  -- the new dict
  have e1 : exec F (.set 5 (.dnw 10 1)) [some (.fz lk), x1, x2, some (.fz (refD a)), some (.fz (pr s)), x5, x6, x7, x8, x9, some (.sto S)] = .ok .nx [some (.fz lk), x1, x2, some (.fz (refD a)), some (.fz (pr s)), some (.fz (refD (a + 1))), x6, x7, x8, x9, some (.sto (S ++ [.dT []]))] := by
    rw [exec_set, ev_dnw (S := S) rfl, bnd_ok, hL]
    rfl
  have ob : obN [some (.fz lk), x1, x2, some (.fz (refD a)), some (.fz (pr s)), some (.fz (refD (a + 1))), x6, x7, x8, x9, some (.sto (S ++ [.dT []]))] 10 (refD a) = some (a, S ++ [.dT []], .dT (encR RR)) := obN_ref rfl (by rw [List.getElem?_append_left a1]; exact hSa)
  have dk : dKeys (.dT (encR RR)) = some (RR.map (fun p => .tuple (p.1.map PyData.int)), .lkT (encR RR)) := by
    show some ((encR RR).map (fun p => PyData.tuple (p.1.map keyV)), Ob.lkT (encR RR)) = _
    rw [encR_keys]
  obtain ⟨r', e2, S', x6', x7', x8', rfl, h1, h2, h3⟩ := for_inv (tup := false) (tg := [6]) (body := exec F (wKey m))
    (fun j r => ∃ S' x6' x7' x8', r = [some (.fz lk), x1, x2, some (.fz (refD a)), some (.fz (pr s)), some (.fz (refD (a + 1))), x6', x7', x8', x9, some (.sto S')] ∧ S'.length = a + 2 ∧ S'[a]? = some (.lkT (encR RR)) ∧ S'[a + 1]? = some (.dT (encR ((RR.take j).foldl (keyR lacks s) []))))
    (RR.map (fun p => PyData.tuple (p.1.map PyData.int))) 0 [some (.fz lk), x1, x2, some (.fz (refD a)), some (.fz (pr s)), some (.fz (refD (a + 1))), x6, x7, x8, x9, some (.sto ((S ++ [Ob.dT []]).set a (.lkT (encR RR))))]
    ⟨_, x6, x7, x8, rfl, by simp [hL], by rw [List.getElem?_set_self (by simp; omega)], by
      rw [List.getElem?_set_ne (by omega), List.getElem?_append_right (by omega), hL]
      simp [encR]⟩ (fun j d r hd hi => by
      obtain ⟨S', x6', x7', x8', rfl, g1, g2, g3⟩ := hi
      rw [List.getElem?_map] at hd
      rw [Nat.zero_add] at g3 ⊢
      cases hq : RR[j]? with
      | none => rw [hq] at hd; cases hd
      | some q =>
        rw [hq] at hd
        cases hd
        have hm := List.mem_of_getElem? hq
        have hj := (List.getElem?_eq_some_iff.mp hq).1
        obtain ⟨k1, k2, _⟩ := keysR_ok (L := lacks.length) (m := M) (lacks := lacks) (s := s) (ss := []) (RR := RR.take j) (R := []) (fun q hq => hok.ks q (List.mem_of_mem_take hq)) ⟨(by simp), (fun p hp => nomatch hp)⟩
        have kl : (RR.take j).length * lacks.length ≤ RR.length * lacks.length := Nat.mul_le_mul_right _ (by rw [List.length_take]; omega)
        obtain ⟨S2, y7, y8, e, l1, l2, l3⟩ := w_key (F := F) (m := m) (x1 := x1) (x2 := x2) (x7 := x7') (x8 := x8') (x9 := x9) (lk := lk) (a := a) (b := a + 1) (q := q) (M := M) hF (hok.ks q hm) hl (by omega) g1 g2 g3 (getR_mem hok.nd hm) (by rw [List.length_nil, Nat.zero_add] at k2; omega) k1
        refine ⟨_, _, rfl, .inl e, S2, _, y7, y8, rfl, l1, l2, ?_⟩
        rw [List.take_add_one, hq, List.foldl_append]
        exact l3)
  rw [List.length_map, Nat.zero_add, List.take_length] at h3
  have e3 := exec_forK (F := F) (k := 10) (j := 3) (i := 6) (body := wKey m) (r := [some (.fz lk), x1, x2, some (.fz (refD a)), some (.fz (pr s)), some (.fz (refD (a + 1))), x6, x7, x8, x9, some (.sto (S ++ [.dT []]))]) rfl ob dk e2 (S1 := S') rfl
  refine ⟨S'.set a (.dT (encR RR)), x6', x7', x8', ?_, by rw [List.length_set]; exact h1, by rw [List.getElem?_set_ne (by omega)]; exact h3⟩
  show exec F (.seq (.set 5 (.dnw 10 1)) (.seq (.forK 10 3 6 (wKey m)) (.seq (.set 3 (.var 5)) .nil))) _ = _
  rw [exec_seq e1, exec_seq e3]
  simp
end
section
variable {T : List FD} {i n : Nat}
theorem rf_ints (k : Nat) : ∀ l : List Int, rfLts k (l.map PyData.int) = true
  | [] => rfl
  | x :: l => by
    rw [List.map_cons, rfLts, rf_ints k l]
    rfl
theorem rf_prs (k : Nat) : ∀ l : List (Int × Int), rfLts k (prs l) = true
  | [] => rfl
  | x :: l => by
    rw [prs_cons, rfLts, rf_prs k l]
    rfl
theorem rf_lacks (k : Nat) : ∀ l : List (List Int), rfLts k (l.map fun l => PyData.tuple (l.map PyData.int)) = true
  | [] => rfl
  | x :: l => by
    rw [List.map_cons, rfLts, rf_lacks k l, rfLt, rf_ints]
    rfl
theorem rf_look (k : Nat) (most : Int) (mine chain : List (Int × Int)) (counts : List Int) (lacks : List (List Int)) : rfLt k (lkD most mine chain counts lacks) = true := by
  unfold lkD
  simp [rfLt, rfLts, rf_ints, rf_prs, rf_lacks]
/-- what is hidden, as it comes to the defs: in a list or in a tuple -/
theorem r_ways {m : Nat} {most : Int} {mine chain : List (Int × Int)} {counts : List Int} {lacks : List (List Int)} {stones : List (Int × Int)} {c : List Int} {d dc : PyData} (h : T[i]? = some ⟨3, 11, libWays m⟩) (hm : T[m]? = some ⟨3, 4, libMayLie⟩) (hd : itemsD d = some (prs stones)) (hdc : itemsD dc = some (c.map PyData.int))
    (h0 : ∀ x ∈ c, 0 ≤ x) (hs : c.sum = stones.length) (h4 : c.length ≤ 4) (hc : c.length = lacks.length) (h8 : stones.length ≤ 8) :
    (run T (n + 2)).s i [lkD most mine chain counts lacks, d, dc] [] = .ret (.int (dealsL lacks stones c).length) [] := by
  have hF : ∀ s p, p < lacks.length → run T (n + 1) m [lkD most mine chain counts lacks, .int p, pr s] = .ret (.fz (.bool (okB lacks s p))) := fun s p hp => r_maylie hm hp
  rw [run_defS h rfl rfl (show 3 < 11 by decide)]
  show finS 10 0 (exec (run T (n + 1)) (.seq (.set 3 (.dds 10 (.blt .tuple (.cons (.var 2) .nil)) (.cst (.int 1)))) (.seq (.forS false [4] (.itr (.var 1)) (wStone m)) (.seq (.ret (.dgt 10 (.var 3) (.blt .tuple (.cons (.lc false [9] (.itr (.var 2)) (.tval (.cst (.bool true))) (.cst (.int 0))) .nil)) (.cst (.int 0)))) .nil))) [some (.fz (lkD most mine chain counts lacks)), some (.fz d), some (.fz dc), none, none, none, none, none, none, none, some (.sto [])]) = _
  have dp : dPut (.dT []) (.tuple (c.map PyData.int)) (.int 1) = some (.dT (encR [(c, 1)])) := by
    show (if ([] : List (List L2.Key × PyData)).length < 1000000 then (intsD (c.map PyData.int)).map (fun ns => Ob.dT (putB [] (tKey ns) (.int 1))) else none) = _
    rw [if_pos (by simp), intsD_map]
    rfl
  have e1 : exec (run T (n + 1)) (.set 3 (.dds 10 (.blt .tuple (.cons (.var 2) .nil)) (.cst (.int 1)))) [some (.fz (lkD most mine chain counts lacks)), some (.fz d), some (.fz dc), none, none, none, none, none, none, none, some (.sto [])] = .ok .nx [some (.fz (lkD most mine chain counts lacks)), some (.fz d), some (.fz dc), some (.fz (refD 0)), none, none, none, none, none, none, some (.sto [.dT (encR [(c, 1)])])] := by
    simp [hdc, ddsO_ok (k := 10) (S := []) (r := [some (.fz (lkD most mine chain counts lacks)), some (.fz d), some (.fz dc), none, none, none, none, none, none, none, some (.sto [])]) rfl dp]
  rw [exec_seq e1]
  obtain ⟨r', e2, S', x4, x5, x6, x7, x8, rfl, h1, h2⟩ := for_inv (tup := false) (tg := [4]) (body := exec (run T (n + 1)) (wStone m))
    (fun j r => ∃ S' x4 x5 x6 x7 x8, r = [some (.fz (lkD most mine chain counts lacks)), some (.fz d), some (.fz dc), some (.fz (refD j)), x4, x5, x6, x7, x8, none, some (.sto S')] ∧ S'.length = j + 1 ∧ S'[j]? = some (.dT (encR (rmsR lacks stones c j))))
    (prs stones) 0 [some (.fz (lkD most mine chain counts lacks)), some (.fz d), some (.fz dc), some (.fz (refD 0)), none, none, none, none, none, none, some (.sto [.dT (encR [(c, 1)])])] ⟨_, none, none, none, none, none, rfl, rfl, rfl⟩ (fun j dd r hd hi => by
      obtain ⟨S', x4, x5, x6, x7, x8, rfl, g1, g2⟩ := hi
      rw [Nat.zero_add] at g1 g2 ⊢
      unfold prs at hd
      rw [List.getElem?_map] at hd
      cases hq : stones[j]? with
      | none => rw [hq] at hd; cases hd
      | some s =>
        rw [hq] at hd
        cases hd
        have hj := (List.getElem?_eq_some_iff.mp hq).1
        obtain ⟨k1, k2, _⟩ := rmsR_ok (lacks := lacks) h0 hs h4 j (by omega)
        rw [show ((stones.length : Int) - j) = ((stones.length : Int) - j - 1) + 1 by omega, hc] at k1
        have k3 : 4 ^ j ≤ 4 ^ 8 := Nat.pow_le_pow_right (by omega) (by omega)
        have k4 : (rmsR lacks stones c j).length * lacks.length ≤ 4 ^ 8 * 4 := Nat.mul_le_mul (by omega) (by omega)
        obtain ⟨S2, y6, y7, y8, e, l1, l2⟩ := w_stone (F := run T (n + 1)) (m := m) (x1 := some (.fz d)) (x2 := some (.fz dc)) (x5 := x5) (x6 := x6) (x7 := x7) (x8 := x8) (x9 := none) (a := j) (s := s) (hF s) (by omega) g1 g2 (by omega) k1
        refine ⟨_, _, rfl, .inl e, S2, _, _, y6, y7, y8, rfl, l1, ?_⟩
        rw [rmsR_succ hq]
        exact l2)
  rw [prs_len, Nat.zero_add] at h1 h2
  have e3 : exec (run T (n + 1)) (.forS false [4] (.itr (.var 1)) (wStone m)) [some (.fz (lkD most mine chain counts lacks)), some (.fz d), some (.fz dc), some (.fz (refD 0)), none, none, none, none, none, none, some (.sto [.dT (encR [(c, 1)])])] = .ok .nx [some (.fz (lkD most mine chain counts lacks)), some (.fz d), some (.fz dc), some (.fz (refD (0 + (prs stones).length))), x4, x5, x6, x7, x8, none, some (.sto S')] := by
    simp [hd, frzI, e2]
  rw [exec_seq e3, prs_len, Nat.zero_add]
  have ob := obN_ref (r := [some (.fz (lkD most mine chain counts lacks)), some (.fz d), some (.fz dc), some (.fz (refD stones.length)), x4, x5, x6, x7, x8, none, some (.sto S')]) (k := 10) rfl h2
  have lp := fun hid => lc_map (tup := false) (tg := [9]) (hid := hid) (c := evT (run T (n + 1)) (.tval (.cst (.bool true)))) (e := ev (run T (n + 1)) (.cst (.int 0))) (r := [some (.fz (lkD most mine chain counts lacks)), some (.fz d), none, some (.fz (refD stones.length)), x4, x5, x6, x7, x8, none, some (.sto S')]) (ds := c.map PyData.int) (acc := [])
    (fun _ => .int 0) (fun d m => by simp [itemO_one])
  have zz : (c.map PyData.int).map (fun _ => PyData.int 0) = (c.map fun _ => 0).map PyData.int := by simp
  rw [zz] at lp
  have gx : dGet (.dT (encR (rmsR lacks stones c stones.length))) (.tuple ((c.map fun _ => 0).map PyData.int)) = some ((getR (rmsR lacks stones c stones.length) (c.map fun _ => 0)).map PyData.int) := by
    show (intsD ((c.map fun _ => 0).map PyData.int)).map (fun ns => valA (encR (rmsR lacks stones c stones.length)) (tKey ns)) = _
    rw [intsD_map]
    show some (valA (encR _) (tKey _)) = _
    rw [getR_enc]
  have gd : ∀ o : Option Int, ((o.map PyData.int).getD (PyData.int 0)) = .int (o.getD 0) := fun o => by cases o <;> rfl
  have e4 : ev (run T (n + 1)) (.dgt 10 (.var 3) (.blt .tuple (.cons (.lc false [9] (.itr (.var 2)) (.tval (.cst (.bool true))) (.cst (.int 0))) .nil)) (.cst (.int 0))) [some (.fz (lkD most mine chain counts lacks)), some (.fz d), some (.fz dc), some (.fz (refD stones.length)), x4, x5, x6, x7, x8, none, some (.sto S')] = .ok (.fz (.int (dealsL lacks stones c).length)) [some (.fz (lkD most mine chain counts lacks)), some (.fz d), some (.fz dc), some (.fz (refD stones.length)), x4, x5, x6, x7, x8, none, some (.sto S')] := by
    rw [ev_dgt (o := .var 3) (v := .fz (refD stones.length)) (r1 := [some (.fz (lkD most mine chain counts lacks)), some (.fz d), some (.fz dc), some (.fz (refD stones.length)), x4, x5, x6, x7, x8, none, some (.sto S')]) (by simp) ob rfl]
    have lp2 := lp [9, 2]
    rw [List.nil_append] at lp2
    simp only [ev_blt, evO_cons, mkO_lc, ev_lc, evI_itr, mkO_var, getS_succ, getS_zero, Option.bind_some, valD_fz, Option.isSome_some, if_pos, bnd_ok, opd_slot, of_some, hdc, hid_var, List.cons_append, List.nil_append, wip_cons, wip_nil, List.set_cons_succ, List.set_cons_zero, lp2, rst_cons, rst_nil, toD_ol, evO_nil]
    show dgtO 10 (refD stones.length) (.tuple ((c.map fun _ => 0).map PyData.int)) (.int 0) [some (.fz (lkD most mine chain counts lacks)), some (.fz d), some (.fz dc), some (.fz (refD stones.length)), x4, x5, x6, x7, x8, none, some (.sto S')] = _
    rw [dgtO_ok ob gx, gd, ways_eq h0 hs h4]
  rw [exec_seq_rt (r1 := [some (.fz (lkD most mine chain counts lacks)), some (.fz d), some (.fz dc), some (.fz (refD stones.length)), x4, x5, x6, x7, x8, none, some (.sto S')]) (v := .fz (.int (dealsL lacks stones c).length)) (by rw [exec_ret, retV_dgt, e4, bnd_ok])]
  rw [finS_rt (S := S') rfl]
  show RtS.ret (.int (dealsL lacks stones c).length) (gcS 0 (.int (dealsL lacks stones c).length) S') = _
  rw [gcS_zero rfl]
end
/-! ### what is hidden -/
theorem stnD_pr (p : Int × Int) : stnD (pr p) = pr (stn p) := rfl
def hid (most : Int) (mine chain : List (Int × Int)) : List (Int × Int) := (allP most).filter fun p => decide (p ∉ mine ++ chain.map stn)
section
variable {T : List FD} {i n : Nat}
theorem r_hidden {a b : Nat} {most : Int} {mine chain : List (Int × Int)} {counts : List Int} {lacks : List (List Int)} (h : T[i]? = some ⟨1, 9, libHidden a b⟩) (ha : T[a]? = some ⟨1, 4, libAllStones⟩) (hb : T[b]? = some ⟨1, 1, libStoneOf⟩) (h0 : -1 ≤ most) (h1 : most ≤ 1000) (hm : mine.length ≤ 1000) (hc : chain.length ≤ 1000) :
    run T (n + 2) i [lkD most mine chain counts lacks] = .ret (.fz (.tuple (prs (hid most mine chain)))) := by
  rw [run_def h rfl]
  have ra := r_allst (n := n) ha h0 h1
  have l1 := fun hid => lc_map (tup := false) (tg := [7]) (hid := hid) (c := evT (run T (n + 1)) (.tval (.cst (.bool true)))) (e := ev (run T (n + 1)) (.call b (.cons (.var 7) .nil))) (r := [some (.fz (lkD most mine chain counts lacks)), some (.fz (.int most)), some (.fz (.tuple (prs mine))), none, some (.fz (.tuple (counts.map PyData.int))), some (.fz (.tuple (lacks.map fun l => .tuple (l.map PyData.int)))), none, none, none]) (ds := prs chain) (acc := [])
    stnD (fun d m => by
      obtain ⟨p, _, rfl⟩ := List.mem_map.mp m
      have rs := r_stoneof (n := n) (p := p) hb
      simp [itemO_one, rs, stnD_pr])
  rw [stnD_prs, List.nil_append] at l1
  have bc := bin_catL (a := prs mine) (b := prs (chain.map stn)) (by
    rw [prs_len, prs_len, List.length_map]
    show _ ≤ 16777216
    omega)
  rw [← prs_app] at bc
  have l2 := fun (us : List (Int × Int)) hid => lc_go (tup := false) (tg := [8]) (hid := hid) (c := evT (run T (n + 1)) (.tval (.cmp .NotIn (.var 8) (.var 6)))) (e := ev (run T (n + 1)) (.var 8)) (r := [some (.fz (lkD most mine chain counts lacks)), some (.fz (.int most)), some (.fz (.tuple (prs mine))), some (.fz (.tuple (prs chain))), some (.fz (.tuple (counts.map PyData.int))), some (.fz (.tuple (lacks.map fun l => .tuple (l.map PyData.int)))), some (.ol (prs (us))), none, none])
    (f := keepP fun p => decide (p ∉ us)) (prs (allP most)) [] (fun d m => by
      obtain ⟨p, _, rfl⟩ := List.mem_map.mp m
      have ii := inD_prs p (us)
      rw [keepP_pr]
      by_cases c : p ∈ us
      · rw [decide_eq_true c] at ii
        simp [itemO_one, ii, c]
      · rw [decide_eq_false c] at ii
        simp [itemO_one, ii, c])
  have l2 := l2 (mine ++ chain.map stn)
  rw [fm_prs, List.nil_append] at l2
  simp only [lkD] at l1 l2 ⊢
  simp [libHidden, ini, l1, bc, ra, l2, hid]
theorem r_deals {a b c d m : Nat} {most : Int} {mine chain : List (Int × Int)} {counts : List Int} {lacks : List (List Int)} (h : T[i]? = some ⟨1, 1, libDeals c d⟩) (hh : T[c]? = some ⟨1, 9, libHidden a b⟩) (ha : T[a]? = some ⟨1, 4, libAllStones⟩) (hb : T[b]? = some ⟨1, 1, libStoneOf⟩) (hw : T[d]? = some ⟨3, 11, libWays m⟩) (hm : T[m]? = some ⟨3, 4, libMayLie⟩)
    (h0 : -1 ≤ most) (h1 : most ≤ 1000) (hm1 : mine.length ≤ 1000) (hc1 : chain.length ≤ 1000) (hn : ∀ x ∈ counts, 0 ≤ x) (hs : counts.sum = (hid most mine chain).length) (h4 : counts.length ≤ 4) (hcl : counts.length = lacks.length) (h8 : (hid most mine chain).length ≤ 8) :
    run T (n + 3) i [lkD most mine chain counts lacks] = .ret (.fz (.int (dealsL lacks (hid most mine chain) counts).length)) := by
  rw [run_def h rfl]
  have rh := r_hidden (n := n) (counts := counts) (lacks := lacks) hh ha hb h0 h1 hm1 hc1
  have rw' := r_ways (n := n) (most := most) (mine := mine) (chain := chain) (counts := counts) (stones := hid most mine chain) (d := .tuple (prs (hid most mine chain))) (dc := .tuple (counts.map PyData.int)) hw hm rfl rfl hn hs h4 hcl h8
  have a3 : idxD (lkD most mine chain counts lacks) (.int 3) = some (.tuple (counts.map PyData.int)) := by
    show L2.atI _ 3 = _
    exact atI_of (by omega) rfl
  have q1 := rf_look 0 most mine chain counts lacks
  have q2 : rfLt 0 (.tuple (prs (hid most mine chain))) = true := by rw [rfLt]; exact rf_prs 0 _
  have q3 : rfLt 0 (.tuple (counts.map PyData.int)) = true := by rw [rfLt]; exact rf_ints 0 _
  simp [libDeals, ini, rh, a3, q1, q2, q3, rw']
theorem r_lhidden {a : Nat} {most : Int} {mine chain : List (Int × Int)} {counts : List Int} {lacks : List (List Int)} (h : T[i]? = some ⟨1, 4, libLawHidden a⟩) (ha : T[a]? = some ⟨1, 4, libLawAll⟩) (h0 : -1 ≤ most) (h1 : most ≤ 1000) (hm : mine.length ≤ 1000) (hc : chain.length ≤ 1000) :
    run T (n + 2) i [lkD most mine chain counts lacks] = .ret (.ol (prs (hid most mine chain))) := by
  rw [run_def h rfl]
  have ra := r_all (n := n) ha h0 h1
  have a0 : idxD (lkD most mine chain counts lacks) (.int 0) = some (.int most) := atI_of (by omega) rfl
  have a1 : idxD (lkD most mine chain counts lacks) (.int 1) = some (.tuple (prs mine)) := atI_of (by omega) rfl
  have a2 : idxD (lkD most mine chain counts lacks) (.int 2) = some (.tuple (prs chain)) := atI_of (by omega) rfl
  have l1 := fun hid => lc_map (tup := false) (tg := [2]) (hid := hid) (c := evT (run T (n + 1)) (.tval (.cst (.bool true)))) (e := ev (run T (n + 1)) (.blt .tuple (.cons (.blt .sorted (.cons (.var 2) .nil)) .nil))) (r := [some (.fz (lkD most mine chain counts lacks)), none, none, none]) (ds := prs chain) (acc := [])
    stnD (fun d m => by
      obtain ⟨p, _, rfl⟩ := List.mem_map.mp m
      have rs := sort_pr p
      simp [itemO_one, rs, stnD_pr]
      rfl)
  rw [stnD_prs, List.nil_append] at l1
  have bc := bin_catL (a := prs mine) (b := prs (chain.map stn)) (by
    rw [prs_len, prs_len, List.length_map]
    show _ ≤ 16777216
    omega)
  rw [← prs_app] at bc
  have l2 := fun (us : List (Int × Int)) hid => lc_go (tup := false) (tg := [3]) (hid := hid) (c := evT (run T (n + 1)) (.tval (.cmp .NotIn (.var 3) (.var 1)))) (e := ev (run T (n + 1)) (.var 3)) (r := [some (.fz (lkD most mine chain counts lacks)), some (.ol (prs (us))), none, none])
    (f := keepP fun p => decide (p ∉ us)) (prs (allP most)) [] (fun d m => by
      obtain ⟨p, _, rfl⟩ := List.mem_map.mp m
      have ii := inD_prs p (us)
      rw [keepP_pr]
      by_cases c : p ∈ us
      · rw [decide_eq_true c] at ii
        simp [itemO_one, ii, c]
      · rw [decide_eq_false c] at ii
        simp [itemO_one, ii, c])
  have l2 := l2 (mine ++ chain.map stn)
  rw [fm_prs, List.nil_append] at l2
  simp [libLawHidden, ini, a0, a1, a2, l1, bc, ra, l2, hid, hidOf]
end
/-! ### the law's own deals -/
def dlD (d : List Int) : PyData := .tuple (d.map PyData.int)
theorem dealsL_len {lacks : List (List Int)} : ∀ {ss : List (Int × Int)} {c : List Int}, c.length ≤ 4 → (dealsL lacks ss c).length ≤ 4 ^ ss.length
  | [], c, _ => by simp [dealsL]
  | s :: ss, c, h => by
    have key : ∀ j, ((List.range j).flatMap fun p => if canB lacks s c p then (dealsL lacks ss (decr c p)).map ((p : Int) :: ·) else []).length ≤ j * 4 ^ ss.length := by
      intro j
      induction j with
      | zero => simp
      | succ j ih =>
        rw [List.range_succ, List.flatMap_append, List.length_append, List.flatMap_singleton, Nat.add_mul]
        have : (if canB lacks s c j then (dealsL lacks ss (decr c j)).map ((j : Int) :: ·) else []).length ≤ 4 ^ ss.length := by
          split
          · rw [List.length_map]
            exact dealsL_len (by rw [decr_len]; exact h)
          · simp
        omega
    have := key c.length
    have h2 : c.length * 4 ^ ss.length ≤ 4 * 4 ^ ss.length := Nat.mul_le_mul_right _ h
    rw [List.length_cons, Nat.pow_succ]
    unfold dealsL
    omega
theorem dealsL_item {lacks : List (List Int)} : ∀ {ss : List (Int × Int)} {c d : List Int}, d ∈ dealsL lacks ss c → d.length ≤ ss.length
  | [], c, d, h => by
    simp [dealsL] at h
    simp [h]
  | s :: ss, c, d, h => by
    rw [dealsL, List.mem_flatMap] at h
    obtain ⟨p, _, h⟩ := h
    split at h
    · obtain ⟨e, he, rfl⟩ := List.mem_map.mp h
      have := dealsL_item he
      simp
      omega
    · cases h
/-- one place less, over what enumerate gives -/
def dcD (p : Nat) : PyData → PyData
  | .tuple [.int a, .int x] => .int (x - if a = (p : Int) then 1 else 0)
  | d => d
theorem enm_decr (p : Nat) : ∀ (c : List Int) (a : Nat), (enmL a (c.map PyData.int)).map (dcD p) = ((if a ≤ p then c.set (p - a) (c[p - a]?.getD 0 - 1) else c)).map PyData.int
  | [], a => by simp [enmL]
  | x :: c, a => by
    have ih := enm_decr p c (a + 1)
    rw [List.map_cons, enmL, List.map_cons, ih]
    show PyData.int (x - if (a : Int) = (p : Int) then 1 else 0) :: _ = _
    by_cases e : a = p
    · subst e
      rw [if_neg (show ¬ (a + 1 ≤ a) by omega)]
      simp
    · by_cases l : a ≤ p
      · have e2 : ¬ ((a : Int) = (p : Int)) := by omega
        have e3 : p - a = (p - (a + 1)) + 1 := by omega
        rw [if_neg e2, if_pos l, if_pos (by omega), e3]
        simp
      · have e2 : ¬ ((a : Int) = (p : Int)) := by omega
        rw [if_neg e2, if_neg l, if_neg (by omega)]
        simp
theorem mem_enm {c : List Int} {d : PyData} : ∀ {a : Nat}, d ∈ enmL a (c.map PyData.int) → ∃ (k : Nat) (x : Int), d = .tuple [.int k, .int x] := by
  induction c with
  | nil => intro a h; cases h
  | cons x c ih =>
    intro a h
    rw [List.map_cons, enmL, List.mem_cons] at h
    rcases h with rfl | h
    · exact ⟨a, x, rfl⟩
    · exact ih h
theorem eqLp_nil (ps : List (Int × Int)) : eqD (.list (prs ps)) (.list []) = some ps.isEmpty := by
  show (if SeqAt.shaped (.list (prs ps)) && SeqAt.shaped (.list []) then some (PyData.eqv (.list (prs ps)) (.list [])) else none) = _
  rw [shaped_prs ps]
  cases ps <;> rfl
section
variable {T : List FD} {i n : Nat}
def ldB (i : Nat) : CS := match libLawDeals i with
  | .seq _ (.seq _ (.seq (.forS _ _ _ b) _)) => b
  | _ => .bad
theorem ld_step {F : Fs} {x4 x5 x6 : Option Val} {most : Int} {mine chain : List (Int × Int)} {counts : List Int} {lacks : List (List Int)} {s : Int × Int} {ss : List (Int × Int)} {c : List Int} {p : Nat} {acc : List (List Int)} (hp : p < c.length) (hc : c.length = lacks.length) (hl : c.length ≤ 4)
    (hF : canB lacks s c p = true → F i [lkD most mine chain counts lacks, .list (prs ss), .list ((decr c p).map PyData.int)] = .ret (.ol ((dealsL lacks ss (decr c p)).map dlD))) (ha : acc.length ≤ 4 * 4 ^ ss.length) (h8 : ss.length ≤ 8) :
    ∃ x6' x5', exec F (ldB i) [some (.fz (lkD most mine chain counts lacks)), some (.fz (.list (prs (s :: ss)))), some (.fz (.list (c.map PyData.int))), some (.ol (acc.map dlD)), some (.fz (.int p)), x5, x6, none, none, none] = .ok .nx [some (.fz (lkD most mine chain counts lacks)), some (.fz (.list (prs (s :: ss)))), some (.fz (.list (c.map PyData.int))), some (.ol ((acc ++ if canB lacks s c p then (dealsL lacks ss (decr c p)).map ((p : Int) :: ·) else []).map dlD)), some (.fz (.int p)), x5', x6', none, none, none] := by
  have a4 : idxD (lkD most mine chain counts lacks) (.int 4) = some (.tuple (lacks.map fun l => .tuple (l.map PyData.int))) := atI_of (by omega) rfl
  have al := at_lack (lacks := lacks) (p := p) (by omega)
  have ai := at_int hp
  have as : L2.atI (pr s :: prs ss) 0 = some (pr s) := atI_of (by omega) rfl
  have i1 := inD_ints s.1 (lackAt lacks p)
  have i2 := inD_ints s.2 (lackAt lacks p)
  by_cases c0 : 0 < c[p]?.getD 0
  · by_cases c1 : s.1 ∈ lackAt lacks p
    · have cb : canB lacks s c p = false := by simp [canB, okB, c1]
      refine ⟨x6, some (.fz (.tuple ((lackAt lacks p).map PyData.int))), ?_⟩
      rw [cb]
      show exec F (.seq _ (.seq (.ite _ _ _) .nil)) _ = _
      simp [a4, al, ai, as, i1, c0, c1]
    · by_cases c2 : s.2 ∈ lackAt lacks p
      · have cb : canB lacks s c p = false := by simp [canB, okB, c2]
        refine ⟨x6, some (.fz (.tuple ((lackAt lacks p).map PyData.int))), ?_⟩
        rw [cb]
        show exec F (.seq _ (.seq (.ite _ _ _) .nil)) _ = _
        simp [a4, al, ai, as, i1, i2, c0, c1, c2]
      · have cb : canB lacks s c p = true := by simp [canB, okB, c0, c1, c2]
        have hF := hF cb
        have en : enmD [.list (c.map PyData.int)] = some (enmL 0 (c.map PyData.int)) := rfl
        have l1 := fun hid => lc_map (tup := true) (tg := [7, 8]) (hid := hid) (c := evT F (.tval (.cst (.bool true)))) (e := ev F (.bin .Sub (.var 8) (.blt .int (.cons (.cmp .Eq (.var 7) (.var 4)) .nil)))) (r := [some (.fz (lkD most mine chain counts lacks)), some (.fz (.list (prs (s :: ss)))), some (.fz (.list (c.map PyData.int))), some (.ol (acc.map dlD)), some (.fz (.int p)), some (.fz (.tuple ((lackAt lacks p).map PyData.int))), x6, none, none, none]) (ds := enmL 0 (c.map PyData.int)) (acc := []) (dcD p) (fun d hd => by
          obtain ⟨k, x, rfl⟩ := mem_enm hd
          by_cases e : k = p
          · simp [itemO_two, e, dcD]
          · simp [itemO_two, e, dcD])
        rw [enm_decr, List.nil_append, if_pos (Nat.zero_le p), Nat.sub_zero] at l1
        have l2 := fun hid => lc_map (tup := false) (tg := [9]) (hid := hid) (c := evT F (.tval (.cst (.bool true)))) (e := ev F (.bin .Add (.tup (.cons (.var 4) .nil)) (.var 9))) (r := [some (.fz (lkD most mine chain counts lacks)), some (.fz (.list (prs (s :: ss)))), some (.fz (.list (c.map PyData.int))), some (.ol (acc.map dlD)), some (.fz (.int p)), some (.fz (.tuple ((lackAt lacks p).map PyData.int))), some (.fz (.list ((decr c p).map PyData.int))), none, none, none]) (ds := (dealsL lacks ss (decr c p)).map dlD) (acc := []) (fun d => match d with | .tuple es => .tuple (.int p :: es) | d => d) (fun d hd => by
          obtain ⟨dl, hm, rfl⟩ := List.mem_map.mp hd
          have sz : dl.length ≤ ss.length := dealsL_item hm
          have bc := bin_cat (a := [PyData.int p]) (b := dl.map PyData.int) (by
            rw [List.length_map]
            show 1 + _ ≤ 16777216
            omega)
          simp [itemO_one, dlD, bc])
        have e2 : ((dealsL lacks ss (decr c p)).map dlD).map (fun d => match d with | .tuple es => .tuple (.int p :: es) | d => d) = ((dealsL lacks ss (decr c p)).map ((p : Int) :: ·)).map dlD := by
          rw [List.map_map, List.map_map]
          apply List.map_congr_left
          intro d _
          simp [dlD]
        rw [e2, List.nil_append] at l2
        have cf := cut_from (ds := prs (s :: ss)) (a := 1) (by omega)
        have cf2 : cutD (prs (s :: ss)) (some 1) none = prs ss := cf
        have dl4 := dealsL_len (lacks := lacks) (ss := ss) (c := decr c p) (by rw [decr_len]; exact hl)
        have p8 : 4 ^ ss.length ≤ 4 ^ 8 := Nat.pow_le_pow_right (by omega) h8
        refine ⟨some (.fz (.list ((decr c p).map PyData.int))), some (.fz (.tuple ((lackAt lacks p).map PyData.int))), ?_⟩
        rw [if_pos cb, List.map_append]
        have ee : ev F (.lc false [9] (.itr (.call i (.cons (.var 0) (.cons (.slc (.var 1) (.cons (.cst (.int 1)) .nil) .nil) (.cons (.var 6) .nil))))) (.tval (.cst (.bool true))) (.bin .Add (.tup (.cons (.var 4) .nil)) (.var 9))) [some (.fz (lkD most mine chain counts lacks)), some (.fz (.list (prs (s :: ss)))), some (.fz (.list (c.map PyData.int))), some (.ol (acc.map dlD)), some (.fz (.int p)), some (.fz (.tuple ((lackAt lacks p).map PyData.int))), some (.ol ((decr c p).map PyData.int)), none, none, none] = .ok (.ol (((dealsL lacks ss (decr c p)).map ((p : Int) :: ·)).map dlD)) [some (.fz (lkD most mine chain counts lacks)), some (.fz (.list (prs (s :: ss)))), some (.fz (.list (c.map PyData.int))), some (.ol (acc.map dlD)), some (.fz (.int p)), some (.fz (.tuple ((lackAt lacks p).map PyData.int))), some (.fz (.list ((decr c p).map PyData.int))), none, none, none] := by
          rw [prs_cons] at cf2 l2
          simp [cf2, hF, l2]
        have ex := ev_ext (F := F) (i := 3) (r := [some (.fz (lkD most mine chain counts lacks)), some (.fz (.list (prs (s :: ss)))), some (.fz (.list (c.map PyData.int))), some (.ol (acc.map dlD)), some (.fz (.int p)), some (.fz (.tuple ((lackAt lacks p).map PyData.int))), some (.ol ((decr c p).map PyData.int)), none, none, none]) rfl (fun j h => by cases h) ee
        have ed := extD_ol (i := 3) (r := [some (.fz (lkD most mine chain counts lacks)), some (.fz (.list (prs (s :: ss)))), some (.fz (.list (c.map PyData.int))), some (.ol (acc.map dlD)), some (.fz (.int p)), some (.fz (.tuple ((lackAt lacks p).map PyData.int))), some (.fz (.list ((decr c p).map PyData.int))), none, none, none]) (ds := acc.map dlD) (es := ((dealsL lacks ss (decr c p)).map ((p : Int) :: ·)).map dlD) rfl (by
          rw [List.length_map, List.length_map, List.length_map]
          show _ ≤ 16777216
          omega)
        rw [toD_ol, ed] at ex
        show exec F (.seq _ (.seq (.ite _ _ _) .nil)) _ = _
        simp only [← decr.eq_1] at l1
        rw [prs_cons] at ex l1
        simp [a4, al, ai, as, i1, i2, c0, c1, c2, en, l1, ex]
  · have cb : canB lacks s c p = false := by simp [canB, c0]
    refine ⟨x6, some (.fz (.tuple ((lackAt lacks p).map PyData.int))), ?_⟩
    rw [cb]
    show exec F (.seq _ (.seq (.ite _ _ _) .nil)) _ = _
    simp [a4, al, ai, c0]
theorem r_ldeals {most : Int} {mine chain : List (Int × Int)} {counts : List Int} {lacks : List (List Int)} (h : T[i]? = some ⟨3, 10, libLawDeals i⟩) : ∀ {ss : List (Int × Int)} {c : List Int} {n : Nat}, c.length = lacks.length → c.length ≤ 4 → ss.length ≤ 8 →
    run T (n + ss.length + 1) i [lkD most mine chain counts lacks, .list (prs ss), .list (c.map PyData.int)] = .ret (.ol ((dealsL lacks ss c).map dlD))
  | [], c, n, hc, hl, h8 => by
    rw [run_def h rfl]
    have e := eqLp_nil []
    rw [prs_nil] at e
    simp [libLawDeals, ini, e, dealsL, dlD]
  | s :: ss, c, n, hc, hl, h8 => by
    rw [run_def h rfl]
    have e := eqLp_nil (s :: ss)
    have rg : rngD [.int (c.length : Int)] = some ((List.range c.length).map fun (i : Nat) => PyData.int i) := by
      have := rng1 (n := (c.length : Int)) (by omega) (by omega)
      simpa using this
    obtain ⟨r', e1, x4, x5, x6, rfl⟩ := for_inv (tup := false) (tg := [4]) (body := exec (run T (n + (s :: ss).length)) (ldB i))
      (fun j r => ∃ x4 x5 x6, r = [some (.fz (lkD most mine chain counts lacks)), some (.fz (.list (prs (s :: ss)))), some (.fz (.list (c.map PyData.int))), some (.ol (((List.range j).flatMap fun p => if canB lacks s c p then (dealsL lacks ss (decr c p)).map ((p : Int) :: ·) else []).map dlD)), x4, x5, x6, none, none, none])
      ((List.range c.length).map fun (i : Nat) => PyData.int i) 0 [some (.fz (lkD most mine chain counts lacks)), some (.fz (.list (prs (s :: ss)))), some (.fz (.list (c.map PyData.int))), some (.ol []), none, none, none, none, none, none] ⟨none, none, none, rfl⟩ (fun j d r hd hi => by
        obtain ⟨x4, x5, x6, rfl⟩ := hi
        obtain ⟨hj, rfl⟩ := range_item hd
        rw [Nat.zero_add]
        have al : ∀ j, j ≤ 4 → ((List.range j).flatMap fun p => if canB lacks s c p then (dealsL lacks ss (decr c p)).map ((p : Int) :: ·) else []).length ≤ j * 4 ^ ss.length := by
          intro j
          induction j with
          | zero => simp
          | succ j ih =>
            intro hj
            have ih := ih (by omega)
            rw [List.range_succ, List.flatMap_append, List.length_append, List.flatMap_singleton, Nat.add_mul]
            have : (if canB lacks s c j then (dealsL lacks ss (decr c j)).map ((j : Int) :: ·) else []).length ≤ 4 ^ ss.length := by
              split
              · rw [List.length_map]
                exact dealsL_len (by rw [decr_len]; exact hl)
              · simp
            omega
        have a1 := al j (by omega)
        have a2 : j * 4 ^ ss.length ≤ 4 * 4 ^ ss.length := Nat.mul_le_mul_right _ (by omega)
        obtain ⟨x6', x5', es⟩ := ld_step (i := i) (F := run T (n + (s :: ss).length)) (x4 := x4) (x5 := x5) (x6 := x6) (most := most) (mine := mine) (chain := chain) (counts := counts) (s := s) (ss := ss) hj hc hl (fun _ => by
          rw [List.length_cons, ← Nat.add_assoc]
          exact r_ldeals h (by rw [decr_len]; exact hc) (by rw [decr_len]; exact hl) (by simp at h8; omega)) (Nat.le_trans a1 a2) (by simp at h8; omega)
        refine ⟨_, _, rfl, .inl es, some (.fz (.int j)), x5', x6', ?_⟩
        rw [List.range_succ, List.flatMap_append, List.flatMap_singleton])
    rw [List.length_map, List.length_range, Nat.zero_add] at e1
    show fin (exec _ (.seq _ (.seq _ (.seq (.forS false [4] (.rng (.cons (.blt .len (.cons (.var 2) .nil)) .nil)) (ldB i)) (.seq (.ret (.var 3)) .nil)))) _) = _
    rw [prs_cons] at e e1
    rw [List.length_cons] at e1 ⊢
    simp [ini, e, rg, e1, dealsL]
end
/-! ### the law's looks -/
structure LkOk (mh : Nat) (most : Int) (mine chain : List (Int × Int)) (counts : List Int) (lacks : List (List Int)) : Prop where
  mo : 2 ≤ most ∧ most ≤ 4
  mi : mine.length ≤ 500
  ch : chain.length ≤ 6
  cl : counts.length = lacks.length
  c3 : 1 ≤ counts.length ∧ counts.length ≤ 3
  cn : ∀ x ∈ counts, 0 ≤ x
  cs : counts.sum = (hid most mine chain).length
  hl : (hid most mine chain).length ≤ mh
theorem allP_nd {m : Int} (h : 2 ≤ m ∧ m ≤ 4) : (allP m).Nodup := by
  have : m = 2 ∨ m = 3 ∨ m = 4 := by omega
  rcases this with rfl | rfl | rfl <;> decide +kernel
/-- what is not mine is left -/
theorem left_len {m : Int} {us mine left : List (Int × Int)} (h : 2 ≤ m ∧ m ≤ 4) (hp : (mine ++ left).Perm ((allP m).filter fun p => decide (p ∉ us))) : ((allP m).filter fun p => decide (p ∉ srt mine ++ us)).length = left.length := by
  have nd : ((allP m).filter fun p => decide (p ∉ us)).Nodup := (allP_nd h).filter _
  have nd2 := hp.nodup_iff.mpr nd
  rw [List.nodup_append] at nd2
  have e : (allP m).filter (fun p => decide (p ∉ srt mine ++ us)) = ((allP m).filter fun p => decide (p ∉ us)).filter fun p => decide (p ∉ mine) := by
    rw [List.filter_filter]
    apply List.filter_congr
    intro p _
    simp [srt_mem]
  rw [e, ← (hp.filter _).length_eq, List.filter_append]
  have e1 : mine.filter (fun p => decide (p ∉ mine)) = [] := by
    rw [List.filter_eq_nil_iff]
    intro a ha
    simp [ha]
  have e2 : left.filter (fun p => decide (p ∉ mine)) = left := by
    rw [List.filter_eq_self]
    intro a ha
    have : a ∉ mine := fun h => nd2.2.2 a h a ha rfl
    simp [this]
  rw [e1, e2]
  rfl
section
variable {T : List FD} {i n : Nat}
def lkW (a b c : Nat) : CS := match libLawLook a b c with
  | .seq _ (.seq _ (.seq _ (.seq _ (.seq _ (.seq _ (.seq (.whl _ b) _)))))) => b
  | _ => .bad
def lkC (a b c : Nat) : CE := match libLawLook a b c with
  | .seq _ (.seq _ (.seq _ (.seq _ (.seq _ (.seq _ (.seq (.whl e _) _)))))) => e
  | _ => .bad
def lkR (a b c : Nat) : CS := match libLawLook a b c with
  | .seq _ (.seq _ (.seq _ (.seq _ (.seq _ (.seq _ (.seq _ r)))))) => r
  | _ => .bad
/-- the while -/
theorem lk_while {F : Fs} {g1 g2 g : Nat} {c : Int} {mh : Nat} {x2 x3 x4 x5 x6 x8 x10 x11 x12 x13 x14 x15 x16 : Option Val} {left0 : List (Int × Int)} (hm : ∀ c p m, 0 < p → p < 2 ^ 60 → 0 < m → F g [.int c, .int p, .int m] = .ret (.fz (.int (mix c p m)))) (hl : left0.length ≤ 500) :
    ∃ mine left, whlLoop (evT F (lkC g1 g2 g)) (exec F (lkW g1 g2 g)) 1000 [some (.fz (.int c)), some (.fz (.int mh)), x2, x3, x4, x5, x6, some (.ol (prs left0)), x8, some (.ol []), x10, x11, x12, x13, x14, x15, x16] = .ok .nx [some (.fz (.int c)), some (.fz (.int mh)), x2, x3, x4, x5, x6, some (.ol (prs left)), x8, some (.ol (prs mine)), x10, x11, x12, x13, x14, x15, x16] ∧ (mine ++ left).Perm left0 ∧ left.length ≤ mh := by
  obtain ⟨r', e1, mine, left, rfl, h1, h2⟩ := whl_inv (c := evT F (lkC g1 g2 g)) (body := exec F (lkW g1 g2 g))
    (fun m r => ∃ mine left, r = [some (.fz (.int c)), some (.fz (.int mh)), x2, x3, x4, x5, x6, some (.ol (prs left)), x8, some (.ol (prs mine)), x10, x11, x12, x13, x14, x15, x16] ∧ (mine ++ left).Perm left0 ∧ m = left.length)
    (fun r => ∃ mine left, r = [some (.fz (.int c)), some (.fz (.int mh)), x2, x3, x4, x5, x6, some (.ol (prs left)), x8, some (.ol (prs mine)), x10, x11, x12, x13, x14, x15, x16] ∧ (mine ++ left).Perm left0 ∧ left.length ≤ mh)
    left0.length 1000 [some (.fz (.int c)), some (.fz (.int mh)), x2, x3, x4, x5, x6, some (.ol (prs left0)), x8, some (.ol []), x10, x11, x12, x13, x14, x15, x16] (by omega) ⟨[], left0, rfl, List.Perm.refl _, rfl⟩ (fun m r hi => by
      obtain ⟨mine, left, rfl, hp, rfl⟩ := hi
      have hml : mine.length + left.length = left0.length := by rw [← hp.length_eq, List.length_append]
      -- the body, when something is left
      have body : left ≠ [] → ∃ r2 m', exec F (lkW g1 g2 g) [some (.fz (.int c)), some (.fz (.int mh)), x2, x3, x4, x5, x6, some (.ol (prs left)), x8, some (.ol (prs mine)), x10, x11, x12, x13, x14, x15, x16] = .ok .nx r2 ∧ m' < left.length ∧ ∃ mine left, r2 = [some (.fz (.int c)), some (.fz (.int mh)), x2, x3, x4, x5, x6, some (.ol (prs left)), x8, some (.ol (prs mine)), x10, x11, x12, x13, x14, x15, x16] ∧ (mine ++ left).Perm left0 ∧ m' = left.length := by
        intro hne
        have hlen : 0 < left.length := List.length_pos_iff.mpr hne
        have rm := hm (c + 7 * (left.length : Int)) 9721 (left.length : Int) (by omega) (by omega) (by omega)
        have b1 := mix_lo (c := c + 7 * (left.length : Int)) (p := 9721) (m := (left.length : Int)) (by omega)
        have b2 := mix_hi (c := c + 7 * (left.length : Int)) (p := 9721) (m := (left.length : Int)) (by omega)
        have mm : binD .Mult (.int 7) (.int (left.length : Int)) = some (.fz (.int (7 * (left.length : Int)))) := bin_mul (mulOk_l (by omega) (by omega))
        generalize mix (c + 7 * (left.length : Int)) 9721 (left.length : Int) = ix at *
        obtain ⟨p, hx⟩ : ∃ p, left[ix.toNat]? = some p := ⟨_, List.getElem?_eq_getElem (by omega)⟩
        have pd := popD_ol (i := 7) (r := [some (.fz (.int c)), some (.fz (.int mh)), x2, x3, x4, x5, x6, some (.ol (prs left)), x8, some (.ol (prs mine)), x10, x11, x12, x13, x14, x15, x16]) (ds := prs left) (k := ix) (d := pr p) rfl b1 (by unfold prs; rw [List.getElem?_map, hx]; rfl)
        have er : (prs left).eraseIdx ix.toNat = prs (left.eraseIdx ix.toNat) := map_erase pr left ix.toNat
        rw [er] at pd
        have ap := appD_ol (i := 9) (r := [some (.fz (.int c)), some (.fz (.int mh)), x2, x3, x4, x5, x6, some (.ol (prs (left.eraseIdx ix.toNat))), x8, some (.ol (prs mine)), x10, x11, x12, x13, x14, x15, x16]) (ds := prs mine) rfl (by
          rw [prs_len]
          show _ < 16777216
          omega) (pr p)
        rw [← prs_one, ← prs_app] at ap
        refine ⟨_, left.length - 1, ?_, by omega, mine ++ [p], left.eraseIdx ix.toNat, rfl, ?_, ?_⟩
        · show exec F (.seq (.expr (.app 9 (.popA 7 _))) .nil) _ = _
          simp [mm, rm, pd, ap]
        · refine List.Perm.trans ?_ hp
          rw [List.append_assoc]
          exact List.Perm.append_left mine (erase_perm hx)
        · rw [List.length_eraseIdx]
          rw [if_pos (by omega)]
      have cnd : lkC g1 g2 g = .tor (.tval (.cmp .Gt (.blt .len (.cons (.var 7) .nil)) (.var 1))) (.tand (.tval (.var 7)) (.tval (.cmp .Eq (.call g (.cons (.bin .Add (.var 0) (.blt .len (.cons (.var 7) .nil))) (.cons (.cst (.int 9733)) (.cons (.cst (.int 4)) .nil)))) (.cst (.int 0))))) := rfl
      have rm := hm (c + (left.length : Int)) 9733 4 (by omega) (by omega) (by omega)
      by_cases c1 : mh < left.length
      · refine .inr ?_
        obtain ⟨r2, m', e, hm', hI⟩ := body (by intro h; rw [h] at c1; simp at c1)
        refine ⟨_, r2, m', ?_, e, hm', hI⟩
        rw [cnd]
        have : (mh : Int) < (left.length : Int) := by omega
        simp [this]
      · have c1' : ¬ ((mh : Int) < (left.length : Int)) := by omega
        by_cases c2 : left = []
        · refine .inl ⟨_, ?_, mine, left, rfl, hp, by omega⟩
          rw [cnd]
          subst c2
          simp
        · have ne : (prs left).isEmpty = false := by
            cases left with
            | nil => exact absurd rfl c2
            | cons _ _ => rfl
          by_cases c3 : mix (c + (left.length : Int)) 9733 4 = 0
          · refine .inr ?_
            obtain ⟨r2, m', e, hm', hI⟩ := body c2
            refine ⟨_, r2, m', ?_, e, hm', hI⟩
            rw [cnd]
            simp [c1', ne, rm, c3]
          · refine .inl ⟨_, ?_, mine, left, rfl, hp, by omega⟩
            rw [cnd]
            simp [c1', ne, rm, c3])
  exact ⟨mine, left, e1, h1, h2⟩
end
section
variable {T : List FD} {i n : Nat}
theorem sum_ge0 : ∀ {c : List Int}, (∀ x ∈ c, 0 ≤ x) → 0 ≤ c.sum
  | [], _ => by simp
  | b :: c, h => by
    have h1 := h b (by simp)
    have h2 := sum_ge0 fun x hx => h x (List.mem_cons_of_mem _ hx)
    rw [List.sum_cons]
    omega
/-- the counts -/
def lkCB (a b c : Nat) : CS := match lkR a b c with
  | .seq _ (.seq _ (.seq (.forS _ _ _ b) _)) => b
  | _ => .bad
def lkLB (a b c : Nat) : CS := match lkR a b c with
  | .seq _ (.seq _ (.seq _ (.seq _ (.seq (.forS _ _ _ b) _)))) => b
  | _ => .bad
theorem lk_counts {F : Fs} {g1 g2 g : Nat} {c : Int} {pl : Nat} {x1 x2 x3 x4 x5 x6 x7 x8 x9 x12 x13 x14 x15 x16 : Option Val} (hm : ∀ c p m, 0 < p → p < 2 ^ 60 → 0 < m → F g [.int c, .int p, .int m] = .ret (.fz (.int (mix c p m)))) (hp : 0 < pl) (left : List (Int × Int)) :
    ∃ (counts : List Int) (x8' x13' : Option Val), forLoop false [8] (exec F (lkCB g1 g2 g)) (prs left) [some (.fz (.int c)), x1, x2, x3, x4, x5, x6, x7, x8, x9, some (.fz (.int pl)), some (.ol ((List.replicate pl 0).map PyData.int)), x12, x13, x14, x15, x16] = .ok .nx [some (.fz (.int c)), x1, x2, x3, x4, x5, x6, x7, x8', x9, some (.fz (.int pl)), some (.ol (counts.map PyData.int)), x12, x13', x14, x15, x16] ∧
      counts.length = pl ∧ (∀ x ∈ counts, 0 ≤ x) ∧ counts.sum = left.length := by
  obtain ⟨r', e1, counts, x8', x13', rfl, h1, h2, h3⟩ := for_inv (tup := false) (tg := [8]) (body := exec F (lkCB g1 g2 g))
    (fun j r => ∃ (counts : List Int) (x8' x13' : Option Val), r = [some (.fz (.int c)), x1, x2, x3, x4, x5, x6, x7, x8', x9, some (.fz (.int pl)), some (.ol (counts.map PyData.int)), x12, x13', x14, x15, x16] ∧ counts.length = pl ∧ (∀ x ∈ counts, 0 ≤ x) ∧ counts.sum = j)
    (prs left) 0 [some (.fz (.int c)), x1, x2, x3, x4, x5, x6, x7, x8, x9, some (.fz (.int pl)), some (.ol ((List.replicate pl 0).map PyData.int)), x12, x13, x14, x15, x16] ⟨List.replicate pl 0, x8, x13, rfl, by simp, (fun x hx => by rw [(List.mem_replicate.mp hx).2]; omega), by simp⟩ (fun j d r hd hi => by
      obtain ⟨counts, x8', x13', rfl, g1', g2', g3⟩ := hi
      unfold prs at hd
      rw [List.getElem?_map] at hd
      rw [Nat.zero_add] at g3 ⊢
      cases hq : left[j]? with
      | none => rw [hq] at hd; cases hd
      | some p =>
        rw [hq] at hd
        cases hd
        have m1 : binD .Mult (.int 3) (.int p.1) = some (.fz (.int (3 * p.1))) := bin_mul (mulOk_l (by omega) (by omega))
        have m2 : binD .Mult (.int 5) (.int p.2) = some (.fz (.int (5 * p.2))) := bin_mul (mulOk_l (by omega) (by omega))
        have rm := hm (c + 3 * p.1 + 5 * p.2) 9697 (pl : Int) (by omega) (by omega) (by omega)
        have b1 := mix_lo (c := c + 3 * p.1 + 5 * p.2) (p := 9697) (m := (pl : Int)) (by omega)
        have b2 := mix_hi (c := c + 3 * p.1 + 5 * p.2) (p := 9697) (m := (pl : Int)) (by omega)
        generalize mix (c + 3 * p.1 + 5 * p.2) 9697 (pl : Int) = ix at *
        obtain ⟨k, rfl⟩ : ∃ k : Nat, ix = k := ⟨ix.toNat, by omega⟩
        have hk : k < counts.length := by omega
        have ai := at_int hk
        have pu := putD_ol (i := 11) (r := [some (.fz (.int c)), x1, x2, x3, x4, x5, x6, x7, some (.fz (pr p)), x9, some (.fz (.int pl)), some (.ol (counts.map PyData.int)), x12, some (.fz (.int (k : Int))), x14, x15, x16]) (n := (k : Int)) (x := .int (counts[k]?.getD 0 + 1)) rfl (by omega) (by rw [List.length_map]; omega)
        rw [show ((k : Int)).toNat = k by omega, ← List.map_set] at pu
        refine ⟨_, _, rfl, .inl ?_, counts.set k (counts[k]?.getD 0 + 1), some (.fz (pr p)), some (.fz (.int k)), rfl, by rw [List.length_set]; exact g1', ?_, ?_⟩
        · show exec F (.seq (.set 13 _) (.seq (.put 11 _ _) .nil)) _ = _
          simp [m1, m2, rm, ai, pu]
        · intro x hx
          rcases List.mem_or_eq_of_mem_set hx with hx | rfl
          · exact g2' x hx
          · have : 0 ≤ counts[k]?.getD 0 := by
              rw [List.getElem?_eq_getElem hk]
              exact g2' _ (List.getElem_mem hk)
            omega
        · rw [sum_set _ _ _ hk]
          omega)
  rw [prs_len, Nat.zero_add] at h3
  exact ⟨counts, x8', x13', e1, h1, h2, h3⟩
def kpI (P : Int → Bool) : PyData → Option PyData
  | .int x => if P x then some (.int x) else none
  | _ => none
theorem fm_kpI (P : Int → Bool) : ∀ xs : List Int, (xs.map PyData.int).filterMap (kpI P) = (xs.filter P).map PyData.int
  | [] => rfl
  | x :: xs => by
    rw [List.map_cons]
    cases q : P x with
    | true => rw [List.filterMap_cons_some (b := .int x) (by simp [kpI, q]), List.filter_cons_of_pos q, List.map_cons, fm_kpI P xs]
    | false => rw [List.filterMap_cons_none (by simp [kpI, q]), List.filter_cons_of_neg (by simp [q]), fm_kpI P xs]
theorem lk_lacks {F : Fs} {g1 g2 g : Nat} {c most : Int} {pl : Nat} {x1 x3 x4 x5 x6 x7 x8 x9 x10 x11 x12 x13 x15 : Option Val} (hm : ∀ c p m, 0 < p → p < 2 ^ 60 → 0 < m → F g [.int c, .int p, .int m] = .ret (.fz (.int (mix c p m)))) (h0 : 0 ≤ most) (h1 : most ≤ 100) (hp : pl ≤ 10) :
    ∃ (lacks : List (List Int)) (x12' x15' : Option Val), forLoop false [12] (exec F (lkLB g1 g2 g)) ((List.range pl).map fun (i : Nat) => PyData.int i) [some (.fz (.int c)), x1, some (.fz (.int most)), x3, x4, x5, x6, x7, x8, x9, x10, x11, x12, x13, some (.ol []), x15, none] = .ok .nx [some (.fz (.int c)), x1, some (.fz (.int most)), x3, x4, x5, x6, x7, x8, x9, x10, x11, x12', x13, some (.ol (lacks.map fun l => .tuple (l.map PyData.int))), x15', none] ∧
      List.length (α := List Int) lacks = pl := by
  obtain ⟨r', e1, lacks, x12', x15', rfl, g1⟩ := for_inv (tup := false) (tg := [12]) (body := exec F (lkLB g1 g2 g))
    (fun j r => ∃ (lacks : List (List Int)) (x12' x15' : Option Val), r = [some (.fz (.int c)), x1, some (.fz (.int most)), x3, x4, x5, x6, x7, x8, x9, x10, x11, x12', x13, some (.ol (lacks.map fun l => .tuple (l.map PyData.int))), x15', none] ∧ List.length (α := List Int) lacks = j)
    ((List.range pl).map fun (i : Nat) => PyData.int i) 0 [some (.fz (.int c)), x1, some (.fz (.int most)), x3, x4, x5, x6, x7, x8, x9, x10, x11, x12, x13, some (.ol []), x15, none] ⟨[], x12, x15, rfl, rfl⟩ (fun j d r hd hi => by
      obtain ⟨lacks, x12', x15', rfl, hl⟩ := hi
      obtain ⟨hj, rfl⟩ := range_item hd
      rw [Nat.zero_add] at hl ⊢
      have rg : rngD [.int (most + 1)] = some ((List.range (most + 1).toNat).map fun (i : Nat) => PyData.int i) := rng1 (by omega) (by omega)
      have m1 : binD .Mult (.int 11) (.int j) = some (.fz (.int (11 * j))) := bin_mul (mulOk_l (by omega) (by omega))
      have lp := fun hid => lc_go (tup := false) (tg := [16]) (hid := hid) (c := evT F (.tval (.cmp .Eq (.call g (.cons (.bin .Add (.bin .Add (.var 0) (.bin .Mult (.cst (.int 11)) (.var 12))) (.var 16)) (.cons (.cst (.int 9689)) (.cons (.cst (.int 5)) .nil)))) (.cst (.int 0))))) (e := ev F (.var 16)) (r := [some (.fz (.int c)), x1, some (.fz (.int most)), x3, x4, x5, x6, x7, x8, x9, x10, x11, some (.fz (.int j)), x13, some (.ol (lacks.map fun l => .tuple (l.map PyData.int))), x15', none])
        (f := kpI fun x => decide (mix (c + 11 * j + x) 9689 5 = 0)) ((List.range (most + 1).toNat).map fun (i : Nat) => PyData.int i) [] (fun d hd => by
          obtain ⟨x, _, rfl⟩ := List.mem_map.mp hd
          have rm := hm (c + 11 * j + x) 9689 5 (by omega) (by omega) (by omega)
          by_cases q : mix (c + 11 * j + x) 9689 5 = 0
          · simp [itemO_one, m1, rm, q, kpI]
          · simp [itemO_one, m1, rm, q, kpI])
      have fm := fm_kpI (fun x => decide (mix (c + 11 * j + x) 9689 5 = 0)) ((List.range (most + 1).toNat).map fun (i : Nat) => (i : Int))
      rw [List.map_map] at fm
      have fm' : ((List.range (most + 1).toNat).map fun (i : Nat) => PyData.int i).filterMap (kpI fun x => decide (mix (c + 11 * j + x) 9689 5 = 0)) = _ := fm
      rw [fm', List.nil_append] at lp
      generalize (((List.range (most + 1).toNat).map fun (i : Nat) => (i : Int)).filter fun x => decide (mix (c + 11 * j + x) 9689 5 = 0)) = l at lp
      have ap := appD_ol (i := 14) (r := [some (.fz (.int c)), x1, some (.fz (.int most)), x3, x4, x5, x6, x7, x8, x9, x10, x11, some (.fz (.int j)), x13, some (.ol (lacks.map fun l => .tuple (l.map PyData.int))), some (.ol (l.map PyData.int)), none]) rfl (by
        rw [List.length_map]
        show _ < 16777216
        omega) (.tuple (l.map PyData.int))
      refine ⟨_, _, rfl, .inl ?_, lacks ++ [l], some (.fz (.int j)), some (.ol (l.map PyData.int)), rfl, by rw [List.length_append, hl]; rfl⟩
      rw [List.map_append]
      show exec F (.seq (.set 15 _) (.seq (.expr (.app 14 _)) .nil)) _ = _
      simp [rg, lp, ap])
  rw [List.length_map, List.length_range, Nat.zero_add] at g1
  exact ⟨lacks, x12', x15', e1, g1⟩
theorem r_look {g1 g2 g : Nat} {c : Int} {mh : Nat} (h : T[i]? = some ⟨2, 17, libLawLook g1 g2 g⟩) (h1 : T[g1]? = some ⟨1, 4, libLawAll⟩) (h2 : T[g2]? = some ⟨3, 10, libLawChain g⟩) (hg : T[g]? = some ⟨3, 4, libLawMix⟩) :
    ∃ most mine chain counts lacks, run T (n + 3) i [.int c, .int mh] = .ret (.fz (lkD most mine chain counts lacks)) ∧ LkOk mh most mine chain counts lacks := by
  have hm : ∀ c p m : Int, 0 < p → p < 2 ^ 60 → 0 < m → run T (n + 2) g [.int c, .int p, .int m] = .ret (.fz (.int (mix c p m))) := fun c p m a b d => r_mix hg a b d
  have mo : 2 ≤ 2 + mix c 9743 3 ∧ 2 + mix c 9743 3 ≤ 4 := by
    have a := mix_lo (c := c) (p := 9743) (m := 3) (by omega)
    have b := mix_hi (c := c) (p := 9743) (m := 3) (by omega)
    omega
  have rm1 := hm c 9743 3 (by omega) (by omega) (by omega)
  have hk : 1 ≤ 1 + mix c 9739 6 ∧ 1 + mix c 9739 6 ≤ 6 := by
    have a := mix_lo (c := c) (p := 9739) (m := 6) (by omega)
    have b := mix_hi (c := c) (p := 9739) (m := 6) (by omega)
    omega
  have rm2 := hm c 9739 6 (by omega) (by omega) (by omega)
  have ra := r_all (n := n + 1) (m := 2 + mix c 9743 3) h1 (by omega) (by omega)
  obtain ⟨chain, rc, hch, hcl⟩ := r_chain (n := n) (c := c + 1) (m := 2 + mix c 9743 3) (k := 1 + mix c 9739 6) h2 hg (by omega) (by omega) (by omega) (by omega)
  have rm3 := hm c 9719 3 (by omega) (by omega) (by omega)
  have hpl : 1 ≤ 1 + mix c 9719 3 ∧ 1 + mix c 9719 3 ≤ 3 := by
    have a := mix_lo (c := c) (p := 9719) (m := 3) (by omega)
    have b := mix_hi (c := c) (p := 9719) (m := 3) (by omega)
    omega
  obtain ⟨pl, epl⟩ : ∃ pl : Nat, 1 + mix c 9719 3 = (pl : Int) := ⟨(1 + mix c 9719 3).toNat, by omega⟩
  rw [epl] at hpl
  generalize hmost : 2 + mix c 9743 3 = most at *
  generalize hkk : 1 + mix c 9739 6 = kk at *
  rw [run_def h rfl]
  have l1 := fun hid => lc_map (tup := false) (tg := [6]) (hid := hid) (c := evT (run T (n + 2)) (.tval (.cst (.bool true)))) (e := ev (run T (n + 2)) (.blt .tuple (.cons (.blt .sorted (.cons (.var 6) .nil)) .nil))) (r := [some (.fz (.int c)), some (.fz (.int mh)), some (.fz (.int most)), some (.ol (prs (allP most))), none, none, none, none, none, none, none, none, none, none, none, none, none]) (ds := prs chain) (acc := []) stnD (fun d m => by
      obtain ⟨p, _, rfl⟩ := List.mem_map.mp m
      have rs := sort_pr p
      simp [itemO_one, rs, stnD_pr]
      rfl)
  rw [stnD_prs, List.nil_append] at l1
  have l2 := fun hid => lc_go (tup := false) (tg := [8]) (hid := hid) (c := evT (run T (n + 2)) (.tval (.cmp .NotIn (.var 8) (.var 5)))) (e := ev (run T (n + 2)) (.var 8)) (r := [some (.fz (.int c)), some (.fz (.int mh)), some (.fz (.int most)), none, some (.fz (.tuple (prs chain))), some (.ol (prs (chain.map stn))), none, none, none, none, none, none, none, none, none, none, none])
    (f := keepP fun p => decide (p ∉ chain.map stn)) (prs (allP most)) [] (fun d m => by
      obtain ⟨p, _, rfl⟩ := List.mem_map.mp m
      have ii := inD_prs p (chain.map stn)
      rw [keepP_pr]
      generalize chain.map stn = us at *
      by_cases c : p ∈ us
      · rw [decide_eq_true c] at ii
        simp [itemO_one, ii, c]
      · rw [decide_eq_false c] at ii
        simp [itemO_one, ii, c])
  rw [fm_prs, List.nil_append] at l2
  have hl0 : ((allP most).filter fun p => decide (p ∉ chain.map stn)).length ≤ 500 := by
    refine Nat.le_trans (List.length_filter_le _ _) ?_
    have : most = 2 ∨ most = 3 ∨ most = 4 := by omega
    rcases this with rfl | rfl | rfl <;> decide +kernel
  obtain ⟨mine, left, ew, hperm, hleft⟩ := lk_while (F := run T (n + 2)) (g1 := g1) (g2 := g2) (g := g) (c := c) (mh := mh) (x2 := some (.fz (.int most))) (x3 := some (.ol (prs (allP most)))) (x4 := some (.fz (.tuple (prs chain)))) (x5 := some (.ol (prs (chain.map stn)))) (x6 := none) (x8 := none) (x10 := none) (x11 := none) (x12 := none) (x13 := none) (x14 := none) (x15 := none) (x16 := none) hm hl0
  have hmine : mine.length ≤ 500 := by
    have := hperm.length_eq
    rw [List.length_append] at this
    omega
  obtain ⟨counts, y8, y13, ec, c1, c2, c3⟩ := lk_counts (F := run T (n + 2)) (g1 := g1) (g2 := g2) (g := g) (c := c) (pl := pl) (x1 := some (.fz (.int mh))) (x2 := some (.fz (.int most))) (x3 := some (.ol (prs (allP most)))) (x4 := some (.fz (.tuple (prs chain)))) (x5 := some (.ol (prs (chain.map stn)))) (x6 := none) (x7 := some (.fz (.list (prs left)))) (x8 := none) (x9 := some (.ol (prs mine))) (x12 := none) (x13 := none) (x14 := none) (x15 := none) (x16 := none) hm (by omega) left
  obtain ⟨lacks, y12, y15, el, l3⟩ := lk_lacks (F := run T (n + 2)) (g1 := g1) (g2 := g2) (g := g) (c := c) (most := most) (pl := pl) (x1 := some (.fz (.int mh))) (x3 := some (.ol (prs (allP most)))) (x4 := some (.fz (.tuple (prs chain)))) (x5 := some (.ol (prs (chain.map stn)))) (x6 := none) (x7 := some (.fz (.list (prs left)))) (x8 := y8) (x9 := some (.ol (prs mine))) (x10 := some (.fz (.int pl))) (x11 := some (.ol (counts.map PyData.int))) (x12 := none) (x13 := y13) (x15 := none) hm (by omega) (by omega) (by omega)
  have rg : rngD [.int (pl : Int)] = some ((List.range pl).map fun (i : Nat) => PyData.int i) := by
    have := rng1 (n := (pl : Int)) (by omega) (by omega)
    simpa using this
  have l4 := fun hid => lc_map (tup := false) (tg := [12]) (hid := hid) (c := evT (run T (n + 2)) (.tval (.cst (.bool true)))) (e := ev (run T (n + 2)) (.cst (.int 0))) (r := [some (.fz (.int c)), some (.fz (.int mh)), some (.fz (.int most)), some (.ol (prs (allP most))), some (.fz (.tuple (prs chain))), some (.ol (prs (chain.map stn))), none, some (.ol (prs left)), none, some (.ol (prs mine)), some (.fz (.int pl)), none, none, none, none, none, none]) (ds := (List.range pl).map fun (i : Nat) => PyData.int i) (acc := []) (fun _ => .int 0) (fun d m => by
      simp [itemO_one])
  have ez : ((List.range pl).map fun (i : Nat) => PyData.int i).map (fun _ => PyData.int 0) = (List.replicate pl 0).map PyData.int := by
    rw [List.map_map]
    apply List.ext_getElem?
    intro k
    by_cases hk : k < pl <;> simp [hk]
  rw [ez, List.nil_append] at l4
  have ss := sort_lst mine
  have e1 : exec (run T (n + 2)) (.whl (lkC g1 g2 g) (lkW g1 g2 g)) [some (.fz (.int c)), some (.fz (.int mh)), some (.fz (.int most)), some (.ol (prs (allP most))), some (.fz (.tuple (prs chain))), some (.ol (prs (chain.map stn))), none, some (.ol (prs ((allP most).filter fun p => decide (p ∉ chain.map stn)))), none, some (.ol []), none, none, none, none, none, none, none] = .ok .nx [some (.fz (.int c)), some (.fz (.int mh)), some (.fz (.int most)), some (.ol (prs (allP most))), some (.fz (.tuple (prs chain))), some (.ol (prs (chain.map stn))), none, some (.ol (prs left)), none, some (.ol (prs mine)), none, none, none, none, none, none, none] := by
    rw [exec_whl]
    exact ew
  have e2 : exec (run T (n + 2)) (.forS false [8] (.itr (.var 7)) (lkCB g1 g2 g)) [some (.fz (.int c)), some (.fz (.int mh)), some (.fz (.int most)), some (.ol (prs (allP most))), some (.fz (.tuple (prs chain))), some (.ol (prs (chain.map stn))), none, some (.ol (prs left)), none, some (.ol (prs mine)), some (.fz (.int pl)), some (.ol ((List.replicate pl 0).map PyData.int)), none, none, none, none, none] = .ok .nx [some (.fz (.int c)), some (.fz (.int mh)), some (.fz (.int most)), some (.ol (prs (allP most))), some (.fz (.tuple (prs chain))), some (.ol (prs (chain.map stn))), none, some (.fz (.list (prs left))), y8, some (.ol (prs mine)), some (.fz (.int pl)), some (.ol (counts.map PyData.int)), none, y13, none, none, none] := by
    rw [exec_for, evI_itr]
    simp [frzI]
    simp at ec
    exact ec
  have e3 : exec (run T (n + 2)) (.forS false [12] (.rng (.cons (.var 10) .nil)) (lkLB g1 g2 g)) [some (.fz (.int c)), some (.fz (.int mh)), some (.fz (.int most)), some (.ol (prs (allP most))), some (.fz (.tuple (prs chain))), some (.ol (prs (chain.map stn))), none, some (.fz (.list (prs left))), y8, some (.ol (prs mine)), some (.fz (.int pl)), some (.ol (counts.map PyData.int)), none, y13, some (.ol []), none, none] = .ok .nx [some (.fz (.int c)), some (.fz (.int mh)), some (.fz (.int most)), some (.ol (prs (allP most))), some (.fz (.tuple (prs chain))), some (.ol (prs (chain.map stn))), none, some (.fz (.list (prs left))), y8, some (.ol (prs mine)), some (.fz (.int pl)), some (.ol (counts.map PyData.int)), y12, y13, some (.ol (lacks.map fun l => .tuple (l.map PyData.int))), y15, none] := by
    rw [exec_for, evI_rng]
    simp [rg]
    exact el
  refine ⟨most, srt mine, chain, counts, lacks, ?_, ⟨mo, by rw [srt_len]; omega, by omega, by omega, by omega, c2, ?_, ?_⟩⟩
  · show fin (exec (run T (n + 2)) (.seq _ (.seq _ (.seq _ (.seq _ (.seq _ (.seq _ (.seq (.whl (lkC g1 g2 g) (lkW g1 g2 g)) (.seq _ (.seq _ (.seq (.forS false [8] (.itr (.var 7)) (lkCB g1 g2 g)) (.seq _ (.seq (.forS false [12] (.rng (.cons (.var 10) .nil)) (lkLB g1 g2 g)) _)))))))))))) _) = _
    refine fn_seq [some (.fz (.int c)), some (.fz (.int mh)), some (.fz (.int most)), none, none, none, none, none, none, none, none, none, none, none, none, none, none] (by simp [ini, rm1, hmost]) ?_
    refine fn_seq [some (.fz (.int c)), some (.fz (.int mh)), some (.fz (.int most)), some (.ol (prs (allP most))), none, none, none, none, none, none, none, none, none, none, none, none, none] (by simp [ra]) ?_
    refine fn_seq [some (.fz (.int c)), some (.fz (.int mh)), some (.fz (.int most)), some (.ol (prs (allP most))), some (.fz (.tuple (prs chain))), none, none, none, none, none, none, none, none, none, none, none, none] (by simp [rm2, hkk, rc]) ?_
    refine fn_seq [some (.fz (.int c)), some (.fz (.int mh)), some (.fz (.int most)), some (.ol (prs (allP most))), some (.fz (.tuple (prs chain))), some (.ol (prs (chain.map stn))), none, none, none, none, none, none, none, none, none, none, none] (by simp [l1]) ?_
    refine fn_seq [some (.fz (.int c)), some (.fz (.int mh)), some (.fz (.int most)), some (.ol (prs (allP most))), some (.fz (.tuple (prs chain))), some (.ol (prs (chain.map stn))), none, some (.ol (prs ((allP most).filter fun p => decide (p ∉ chain.map stn)))), none, none, none, none, none, none, none, none, none] (by simp [l2]) ?_
    refine fn_seq [some (.fz (.int c)), some (.fz (.int mh)), some (.fz (.int most)), some (.ol (prs (allP most))), some (.fz (.tuple (prs chain))), some (.ol (prs (chain.map stn))), none, some (.ol (prs ((allP most).filter fun p => decide (p ∉ chain.map stn)))), none, some (.ol []), none, none, none, none, none, none, none] (by simp) ?_
    refine fn_seq _ e1 ?_
    refine fn_seq [some (.fz (.int c)), some (.fz (.int mh)), some (.fz (.int most)), some (.ol (prs (allP most))), some (.fz (.tuple (prs chain))), some (.ol (prs (chain.map stn))), none, some (.ol (prs left)), none, some (.ol (prs mine)), some (.fz (.int pl)), none, none, none, none, none, none] (by simp [rm3, epl]) ?_
    refine fn_seq [some (.fz (.int c)), some (.fz (.int mh)), some (.fz (.int most)), some (.ol (prs (allP most))), some (.fz (.tuple (prs chain))), some (.ol (prs (chain.map stn))), none, some (.ol (prs left)), none, some (.ol (prs mine)), some (.fz (.int pl)), some (.ol ((List.replicate pl 0).map PyData.int)), none, none, none, none, none] (by simp only [exec_set, ev_lc, evI_rng, evs_cons, ev_var, evs_nil]; simp [rg]; simp at l4; simp [l4]) ?_
    refine fn_seq _ e2 ?_
    refine fn_seq [some (.fz (.int c)), some (.fz (.int mh)), some (.fz (.int most)), some (.ol (prs (allP most))), some (.fz (.tuple (prs chain))), some (.ol (prs (chain.map stn))), none, some (.fz (.list (prs left))), y8, some (.ol (prs mine)), some (.fz (.int pl)), some (.ol (counts.map PyData.int)), none, y13, some (.ol []), none, none] (by simp) ?_
    refine fn_seq _ e3 ?_
    simp [ss, lkD]
  · rw [c3]
    unfold hid
    rw [left_len mo hperm]
  · unfold hid
    rw [left_len mo hperm]
    exact hleft
end
end SC

set_option Elab.async false
set_option maxRecDepth 100000
set_option maxHeartbeats 1000000
/-! SE7: chances: how many deals have a stone in a place. -/
namespace SC
open PySem
def libWaysWith (iHidden : Nat) (iMayLie : Nat) (iWays : Nat) : CS := (.seq (.set 3 (.call iHidden (.cons (.var 0) .nil))) (.seq (.set 4 (.idx (.var 0) (.cst (.int 3)))) (.seq (.ite (.tor (.tval (.cmp .NotIn (.var 2) (.var 3))) (.tor (.tval (.cmp .Eq (.idx (.var 4) (.var 1)) (.cst (.int 0)))) (.tnot (.tval (.call iMayLie (.cons (.var 0) (.cons (.var 1) (.cons (.var 2) .nil)))))))) (.seq (.ret (.cst (.int 0))) .nil) .nil) (.seq (.set 5 (.lc false [6] (.itr (.var 3)) (.tval (.cmp .NotEq (.var 6) (.var 2))) (.var 6))) (.seq (.ret (.calE iWays (.cons (.var 0) (.cons (.var 5) (.cons (.bin .Add (.bin .Add (.slc (.var 4) .nil (.cons (.var 1) .nil)) (.tup (.cons (.bin .Sub (.idx (.var 4) (.var 1)) (.cst (.int 1))) .nil))) (.slc (.var 4) (.cons (.bin .Add (.var 1) (.cst (.int 1))) .nil) .nil)) .nil))))) .nil)))))
def libMayHave (iWaysWith : Nat) : CS := (.seq (.ret (.cmp .Gt (.call iWaysWith (.cons (.var 0) (.cons (.var 1) (.cons (.var 2) .nil)))) (.cst (.int 0)))) .nil)
def libCommon : CS := (.seq (.whl (.tval (.cmp .NotEq (.var 1) (.cst (.int 0)))) (.seq (.par 0 1 (.var 1) (.bin .Mod (.var 0) (.var 1))) .nil)) (.seq (.ret (.var 0)) .nil))
def libChance (iCommon : Nat) (iDeals : Nat) (iWaysWith : Nat) : CS := (.seq (.set 3 (.call iDeals (.cons (.var 0) .nil))) (.seq (.ite (.tval (.cmp .Eq (.var 3) (.cst (.int 0)))) (.seq (.raise 1) .nil) .nil) (.seq (.set 4 (.call iWaysWith (.cons (.var 0) (.cons (.var 1) (.cons (.var 2) .nil))))) (.seq (.set 5 (.call iCommon (.cons (.var 4) (.cons (.var 3) .nil)))) (.seq (.ret (.tup (.cons (.bin .FloorDiv (.var 4) (.var 5)) (.cons (.bin .FloorDiv (.var 3) (.var 5)) .nil)))) .nil)))))
def libSure (iDeals : Nat) (iHidden : Nat) (iWaysWith : Nat) : CS := (.seq (.set 1 (.call iDeals (.cons (.var 0) .nil))) (.seq (.set 2 (.lst .nil)) (.seq (.forS false [3] (.itr (.call iHidden (.cons (.var 0) .nil))) (.seq (.forS false [4] (.rng (.cons (.blt .len (.cons (.idx (.var 0) (.cst (.int 3))) .nil)) .nil)) (.seq (.ite (.tand (.tval (.cmp .Gt (.var 1) (.cst (.int 0)))) (.tval (.cmp .Eq (.call iWaysWith (.cons (.var 0) (.cons (.var 4) (.cons (.var 3) .nil)))) (.var 1)))) (.seq (.expr (.app 2 (.tup (.cons (.var 3) (.cons (.var 4) .nil))))) .nil) .nil) .nil)) .nil)) (.seq (.ret (.blt .tuple (.cons (.var 2) .nil))) .nil))))
/-! ### a stone's place in the deals -/
theorem decr_get (c : List Int) (p q : Nat) : (decr c p)[q]?.getD 0 = if p = q ∧ q < c.length then c[q]?.getD 0 - 1 else c[q]?.getD 0 := by
  unfold decr
  by_cases e : p = q
  · subst e
    by_cases l : p < c.length
    · rw [List.getElem?_set_self l, if_pos ⟨rfl, l⟩]
      rfl
    · rw [if_neg (fun z => l z.2), List.set_eq_of_length_le (by omega)]
  · rw [List.getElem?_set_ne e, if_neg (fun z => e z.1)]
theorem decr_comm (c : List Int) (p q : Nat) : decr (decr c p) q = decr (decr c q) p := by
  apply List.ext_getElem?
  intro k
  by_cases l : k < c.length
  · have h : ∀ d : List Int, d.length = c.length → d[k]? = some (d[k]?.getD 0) := fun d hd => by
      rw [List.getElem?_eq_getElem (by omega)]
      rfl
    refine (h _ (by rw [decr_len, decr_len])).trans (Eq.trans ?_ (h _ (by rw [decr_len, decr_len])).symm)
    congr 1
    rw [decr_get, decr_get, decr_get, decr_get, decr_len, decr_len]
    by_cases e1 : p = k <;> by_cases e2 : q = k <;> simp [e1, e2, l]
  · rw [List.getElem?_eq_none (by rw [decr_len, decr_len]; omega), List.getElem?_eq_none (by rw [decr_len, decr_len]; omega)]
theorem can_comm (lacks : List (List Int)) (s t : Int × Int) (c : List Int) (p q : Nat) : (canB lacks t c q && canB lacks s (decr c q) p) = (canB lacks s c p && canB lacks t (decr c p) q) := by
  unfold canB
  rw [decr_get, decr_get]
  by_cases e : p = q
  · subst e
    simp only [true_and]
    cases okB lacks s p <;> cases okB lacks t p <;> simp
  · rw [if_neg (fun z => e z.1.symm), if_neg (fun z => e z.1)]
    cases okB lacks s p <;> cases okB lacks t q <;> simp [Bool.and_comm]
theorem countP_flatMap {α β : Type} (P : β → Bool) (f : α → List β) : ∀ xs : List α, (xs.flatMap f).countP P = (xs.map fun x => (f x).countP P).sum
  | [] => rfl
  | x :: xs => by
    rw [List.flatMap_cons, List.countP_append, countP_flatMap P f xs]
    simp
theorem length_flatMap' {α β : Type} (f : α → List β) (xs : List α) : (xs.flatMap f).length = (xs.map fun x => (f x).length).sum := by
  induction xs with
  | nil => rfl
  | cons x xs ih => simp [ih]
theorem sum_zero {α : Type} : ∀ xs : List α, (xs.map fun _ => 0).sum = 0
  | [] => rfl
  | x :: xs => by
    rw [List.map_cons, List.sum_cons, sum_zero xs]
theorem sum_one {L p x : Nat} (h : p < L) : ((List.range L).map fun q => if q = p then x else 0).sum = x := by
  induction L with
  | zero => omega
  | succ L ih =>
    rw [List.range_succ, List.map_append, List.sum_append, List.map_singleton, List.sum_singleton]
    by_cases e : p = L
    · subst e
      rw [if_pos rfl]
      have z : ((List.range p).map fun q => if q = p then x else 0) = (List.range p).map fun _ => 0 := by
        apply List.map_congr_left
        intro q hq
        rw [if_neg (by have := List.mem_range.mp hq; omega)]
      rw [z, sum_zero]
      omega
    · rw [ih (by omega), if_neg (fun z => e z.symm)]
      omega
/-- the deals that put the j-th stone to p -/
theorem deals_at {lacks : List (List Int)} {s : Int × Int} {p : Nat} : ∀ {ss : List (Int × Int)} {c : List Int} {j : Nat}, ss[j]? = some s → p < c.length →
    (dealsL lacks ss c).countP (fun d => decide (d[j]? = some (p : Int))) = if canB lacks s c p then (dealsL lacks (ss.eraseIdx j) (decr c p)).length else 0
  | t :: ss, c, 0, h, hp => by
    cases h
    rw [dealsL, countP_flatMap, List.eraseIdx_cons_zero]
    have e : ∀ q : Nat, (if canB lacks s c q then (dealsL lacks ss (decr c q)).map ((q : Int) :: ·) else []).countP (fun d => decide (d[0]? = some (p : Int))) = if q = p then (if canB lacks s c p then (dealsL lacks ss (decr c p)).length else 0) else 0 := by
      intro q
      by_cases e : q = p
      · subst e
        rw [if_pos rfl]
        split
        · rw [List.countP_map]
          have : ((fun d : List Int => decide (d[0]? = some (q : Int))) ∘ fun x => (q : Int) :: x) = fun _ => true := by funext d; simp
          rw [this, List.countP_true]
        · rfl
      · rw [if_neg e]
        split
        · rw [List.countP_map]
          have : ((fun d : List Int => decide (d[0]? = some (p : Int))) ∘ fun x => (q : Int) :: x) = fun _ => false := by
            funext d
            have : ¬ ((q : Int) = (p : Int)) := by omega
            simp [this]
          rw [this, List.countP_false]
          rfl
        · rfl
    rw [List.map_congr_left fun q _ => e q]
    exact sum_one hp
  | t :: ss, c, j + 1, h, hp => by
    have h' : ss[j]? = some s := by simpa using h
    rw [dealsL, countP_flatMap, List.eraseIdx_cons_succ]
    have e : ∀ q : Nat, (if canB lacks t c q then (dealsL lacks ss (decr c q)).map ((q : Int) :: ·) else []).countP (fun d => decide (d[j + 1]? = some (p : Int))) = if canB lacks s c p then (if canB lacks t (decr c p) q then (dealsL lacks (ss.eraseIdx j) (decr (decr c p) q)).length else 0) else 0 := by
      intro q
      have cc := can_comm lacks s t c p q
      have ih := deals_at (lacks := lacks) (s := s) (p := p) (ss := ss) (c := decr c q) (j := j) h' (by rw [decr_len]; exact hp)
      have cm : ((fun d : List Int => decide (d[j + 1]? = some (p : Int))) ∘ fun x => (q : Int) :: x) = fun d => decide (d[j]? = some (p : Int)) := by funext d; simp
      cases c1 : canB lacks t c q with
      | false =>
        rw [c1, Bool.false_and] at cc
        cases c2 : canB lacks s c p with
        | false => rfl
        | true =>
          rw [c2, Bool.true_and] at cc
          rw [← cc]
          rfl
      | true =>
        rw [if_pos rfl, List.countP_map, cm, ih, decr_comm c q p]
        rw [c1, Bool.true_and] at cc
        rw [cc]
        cases canB lacks s c p <;> cases canB lacks t (decr c p) q <;> rfl
    rw [List.map_congr_left fun q _ => e q]
    cases c1 : canB lacks s c p with
    | false => exact sum_zero _
    | true =>
      rw [if_pos rfl, dealsL, length_flatMap', decr_len]
      congr 1
      apply List.map_congr_left
      intro q _
      rw [if_pos rfl]
      split
      · rw [List.length_map]
      · rfl
/-! ### looks with up to four places -/
structure Lk4 (most : Int) (mine chain : List (Int × Int)) (counts : List Int) (lacks : List (List Int)) : Prop where
  mo : 2 ≤ most ∧ most ≤ 4
  mi : mine.length ≤ 1000
  ch : chain.length ≤ 1000
  cl : counts.length = lacks.length
  c4 : counts.length ≤ 4
  cn : ∀ x ∈ counts, 0 ≤ x
  cs : counts.sum = (hid most mine chain).length
  hl : (hid most mine chain).length ≤ 8
theorem LkOk.l4 {mh : Nat} {most : Int} {mine chain : List (Int × Int)} {counts : List Int} {lacks : List (List Int)} (h : LkOk mh most mine chain counts lacks) (hm : mh ≤ 8) : Lk4 most mine chain counts lacks :=
  ⟨h.mo, by have := h.mi; omega, by have := h.ch; omega, h.cl, by have := h.c3; omega, h.cn, h.cs, by have := h.hl; omega⟩
theorem hid_nd {most : Int} {mine chain : List (Int × Int)} (h : 2 ≤ most ∧ most ≤ 4) : (hid most mine chain).Nodup := (allP_nd h).filter _
/-- how many deals have s at p -/
def wayP (lacks : List (List Int)) (ss : List (Int × Int)) (c : List Int) (s : Int × Int) (p : Nat) : Nat := if s ∈ ss ∧ canB lacks s c p = true then (dealsL lacks (ss.filter fun q => decide (q ≠ s)) (decr c p)).length else 0
theorem erase_filter {s : Int × Int} : ∀ {ss : List (Int × Int)} {j : Nat}, ss.Nodup → ss[j]? = some s → ss.eraseIdx j = ss.filter fun q => decide (q ≠ s)
  | t :: ss, 0, h, e => by
    cases e
    rw [List.nodup_cons] at h
    rw [List.eraseIdx_cons_zero, List.filter_cons_of_neg (by simp)]
    symm
    rw [List.filter_eq_self]
    intro a ha
    have : a ≠ s := fun e => h.1 (e ▸ ha)
    simp [this]
  | t :: ss, j + 1, h, e => by
    rw [List.nodup_cons] at h
    have e' : ss[j]? = some s := by simpa using e
    have hm := List.mem_of_getElem? e'
    have : t ≠ s := fun q => h.1 (q ▸ hm)
    rw [List.eraseIdx_cons_succ, List.filter_cons_of_pos (by simp [this]), erase_filter h.2 e']
/-- ways_with counts deals -/
theorem wayP_at {lacks : List (List Int)} {ss : List (Int × Int)} {c : List Int} {s : Int × Int} {p j : Nat} (hn : ss.Nodup) (h : ss[j]? = some s) (hp : p < c.length) : wayP lacks ss c s p = (dealsL lacks ss c).countP fun d => decide (d[j]? = some (p : Int)) := by
  rw [deals_at h hp, erase_filter hn h]
  unfold wayP
  by_cases c1 : canB lacks s c p = true
  · rw [if_pos ⟨List.mem_of_getElem? h, c1⟩, if_pos c1]
  · rw [if_neg (fun z => c1 z.2), if_neg c1]
theorem wayP_le {lacks : List (List Int)} {ss : List (Int × Int)} {c : List Int} {s : Int × Int} {p : Nat} (hn : ss.Nodup) (hp : p < c.length) : wayP lacks ss c s p ≤ (dealsL lacks ss c).length := by
  by_cases h : s ∈ ss
  · obtain ⟨j, hj⟩ := List.getElem?_of_mem h
    rw [wayP_at hn hj hp]
    exact List.countP_le_length
  · unfold wayP
    rw [if_neg (fun z => h z.1)]
    omega
/-- two places: not both -/
theorem wayP_two {lacks : List (List Int)} {ss : List (Int × Int)} {c : List Int} {s : Int × Int} {p q : Nat} (hn : ss.Nodup) (hs : s ∈ ss) (hp : p < c.length) (hq : q < c.length) (hpq : p ≠ q) : wayP lacks ss c s p + wayP lacks ss c s q ≤ (dealsL lacks ss c).length := by
  obtain ⟨j, hj⟩ := List.getElem?_of_mem hs
  rw [wayP_at hn hj hp, wayP_at hn hj hq]
  generalize dealsL lacks ss c = D
  induction D with
  | nil => simp
  | cons d D ih =>
    rw [List.countP_cons, List.countP_cons, List.length_cons]
    by_cases e1 : d[j]? = some (p : Int)
    · have e2 : ¬ (d[j]? = some (q : Int)) := by
        rw [e1]
        intro z
        have := Option.some.inj z
        omega
      simp [e1] at ih ⊢
      have : ¬ ((p : Int) = (q : Int)) := by omega
      simp [this]
      omega
    · simp [e1] at ih ⊢
      by_cases e2 : d[j]? = some (q : Int)
      · simp [e2]; omega
      · simp [e2]; omega
theorem filt_len {s : Int × Int} {ss : List (Int × Int)} (hn : ss.Nodup) (h : s ∈ ss) : (ss.filter fun q => decide (q ≠ s)).length + 1 = ss.length := by
  obtain ⟨j, hj⟩ := List.getElem?_of_mem h
  rw [← erase_filter hn hj, List.length_eraseIdx]
  have := (List.getElem?_eq_some_iff.mp hj).1
  rw [if_pos this]
  omega
section
variable {T : List FD} {i n : Nat}
theorem r_wayswith {a b h w m : Nat} {most : Int} {mine chain : List (Int × Int)} {counts : List Int} {lacks : List (List Int)} {s : Int × Int} {p : Nat} (hT : T[i]? = some ⟨3, 7, libWaysWith h m w⟩) (hh : T[h]? = some ⟨1, 9, libHidden a b⟩) (ha : T[a]? = some ⟨1, 4, libAllStones⟩) (hb : T[b]? = some ⟨1, 1, libStoneOf⟩) (hw : T[w]? = some ⟨3, 11, libWays m⟩) (hm : T[m]? = some ⟨3, 4, libMayLie⟩)
    (ok : Lk4 most mine chain counts lacks) (hp : p < counts.length) : run T (n + 3) i [lkD most mine chain counts lacks, .int p, pr s] = .ret (.fz (.int (wayP lacks (hid most mine chain) counts s p))) := by
  have mo := ok.mo
  have c4 := ok.c4
  have h8 := ok.hl
  have rh := r_hidden (n := n) (most := most) (mine := mine) (chain := chain) (counts := counts) (lacks := lacks) hh ha hb (by omega) (by omega) ok.mi ok.ch
  have a3 : idxD (lkD most mine chain counts lacks) (.int 3) = some (.tuple (counts.map PyData.int)) := atI_of (by omega) rfl
  have rl := r_maylie (n := n + 1) (most := most) (mine := mine) (chain := chain) (counts := counts) (lacks := lacks) (s := s) (p := p) hm (by rw [← ok.cl]; exact hp)
  have ai := at_int hp
  have iin : inD (pr s) (.tuple (prs (hid most mine chain))) = some (decide (s ∈ hid most mine chain)) := by
    have := inD_prs s (hid most mine chain)
    show (if SeqAt.shaped (pr s) && SeqAt.shaped (.tuple (prs (hid most mine chain))) then some ((prs (hid most mine chain)).any fun z => PyData.eqv z (pr s)) else none) = _
    rw [shapedT_prs, any_pr]
    rfl
  have nn : 0 ≤ counts[p]?.getD 0 := by
    rw [List.getElem?_eq_getElem hp]
    exact ok.cn _ (List.getElem_mem hp)
  rw [run_def hT rfl]
  by_cases c1 : s ∈ hid most mine chain
  · by_cases c2 : counts[p]?.getD 0 = 0
    · have e : wayP lacks (hid most mine chain) counts s p = 0 := by
        unfold wayP
        rw [if_neg (fun z => by have := z.2; simp [canB, c2] at this)]
      simp [libWaysWith, ini, rh, a3, iin, c1, ai, c2, e]
    · cases c3 : okB lacks s p with
      | false =>
        have e : wayP lacks (hid most mine chain) counts s p = 0 := by
          unfold wayP
          rw [if_neg (fun z => by have := z.2; simp [canB, c3] at this)]
        simp [libWaysWith, ini, rh, a3, iin, c1, ai, c2, rl, c3, e]
      | true =>
        have cb : canB lacks s counts p = true := by
          have : 0 < counts[p]?.getD 0 := by omega
          simp [canB, c3, this]
        have e : wayP lacks (hid most mine chain) counts s p = (dealsL lacks ((hid most mine chain).filter fun q => decide (q ≠ s)) (decr counts p)).length := if_pos ⟨c1, cb⟩
        have lp := fun h => lc_go (tup := false) (tg := [6]) (hid := h) (c := evT (run T (n + 2)) (.tval (.cmp .NotEq (.var 6) (.var 2)))) (e := ev (run T (n + 2)) (.var 6)) (r := [some (.fz (lkD most mine chain counts lacks)), some (.fz (.int p)), some (.fz (pr s)), none, some (.fz (.tuple (counts.map PyData.int))), none, none]) (f := keepP fun q => decide (q ≠ s)) (prs (hid most mine chain)) [] (fun d hd => by
          obtain ⟨q, _, rfl⟩ := List.mem_map.mp hd
          have ee := eqD_pr q s
          rw [keepP_pr]
          by_cases c : q = s
          · subst c
            rw [decide_eq_true rfl] at ee
            simp [itemO_one, ee]
          · rw [decide_eq_false c] at ee
            simp [itemO_one, ee, c])
        rw [fm_prs, List.nil_append] at lp
        have ct := cut_to (ds := counts.map PyData.int) (a := (p : Int)) (by omega) (by simp; omega)
        have cf := cut_from (ds := counts.map PyData.int) (a := (p : Int) + 1) (by omega)
        rw [show ((p : Int)).toNat = p by omega] at ct
        rw [show ((p : Int) + 1).toNat = p + 1 by omega] at cf
        have b1 := bin_cat (a := (counts.map PyData.int).take p) (b := [PyData.int (counts[p]?.getD 0 - 1)]) (by
          show _ ≤ 16777216
          simp; omega)
        have b2 := bin_cat (a := (counts.map PyData.int).take p ++ [PyData.int (counts[p]?.getD 0 - 1)]) (b := (counts.map PyData.int).drop (p + 1)) (by
          show _ ≤ 16777216
          simp; omega)
        rw [set_eq hp] at b2
        have dk := decr_ok (L := counts.length) (m := ((hid most mine chain).length : Int) - 1) cb ⟨rfl, ok.cn, by rw [ok.cs]; omega⟩
        have fl := filt_len (hid_nd mo) c1
        have rw' := r_ways (n := n) (most := most) (mine := mine) (chain := chain) (counts := counts) (stones := (hid most mine chain).filter fun q => decide (q ≠ s)) (d := .list (prs ((hid most mine chain).filter fun q => decide (q ≠ s)))) (dc := .tuple ((decr counts p).map PyData.int)) (lacks := lacks) hw hm rfl rfl dk.2.1 (by rw [dk.2.2]; omega) (by rw [decr_len]; exact c4) (by rw [decr_len]; exact ok.cl) (by omega)
        have q1 := rf_look 0 most mine chain counts lacks
        have q2 : rfLt 0 (.list (prs ((hid most mine chain).filter fun q => decide (q ≠ s)))) = true := by rw [rfLt]; exact rf_prs 0 _
        have q3 : rfLt 0 (.tuple ((decr counts p).map PyData.int)) = true := by rw [rfLt]; exact rf_ints 0 _
        generalize ((hid most mine chain).filter fun q => decide (q ≠ s)) = rest at *
        simp only [← decr.eq_1] at b2
        rw [e]
        simp [libWaysWith, ini, rh, a3, iin, c1, ai, c2, rl, c3, lp, ct, cf, b1, b2, q1, q2, q3, rw']
  · have e : wayP lacks (hid most mine chain) counts s p = 0 := by
      unfold wayP
      rw [if_neg (fun z => c1 z.1)]
    simp [libWaysWith, ini, rh, a3, iin, c1, e]
theorem r_mayhave {a b h w m g : Nat} {most : Int} {mine chain : List (Int × Int)} {counts : List Int} {lacks : List (List Int)} {s : Int × Int} {p : Nat} (hT : T[i]? = some ⟨3, 3, libMayHave g⟩) (hg : T[g]? = some ⟨3, 7, libWaysWith h m w⟩) (hh : T[h]? = some ⟨1, 9, libHidden a b⟩) (ha : T[a]? = some ⟨1, 4, libAllStones⟩) (hb : T[b]? = some ⟨1, 1, libStoneOf⟩) (hw : T[w]? = some ⟨3, 11, libWays m⟩) (hm : T[m]? = some ⟨3, 4, libMayLie⟩)
    (ok : Lk4 most mine chain counts lacks) (hp : p < counts.length) : run T (n + 4) i [lkD most mine chain counts lacks, .int p, pr s] = .ret (.fz (.bool (decide (0 < wayP lacks (hid most mine chain) counts s p)))) := by
  have rg := r_wayswith (n := n) (s := s) hg hh ha hb hw hm ok hp
  rw [run_def hT rfl]
  simp [libMayHave, ini, rg]
end
/-! ### common, chance, sure -/
section
variable {T : List FD} {i n : Nat}
theorem cm_loop {F : Fs} : ∀ (k N a b : Nat), b < 2 ^ k → 2 * k < N → whlLoop (evT F (.tval (.cmp .NotEq (.var 1) (.cst (.int 0))))) (exec F (.seq (.par 0 1 (.var 1) (.bin .Mod (.var 0) (.var 1))) .nil)) N [some (.fz (.int a)), some (.fz (.int b))] = .ok .nx [some (.fz (.int (Nat.gcd a b))), some (.fz (.int 0))] := by
  have out : ∀ (N a : Nat), whlLoop (evT F (.tval (.cmp .NotEq (.var 1) (.cst (.int 0))))) (exec F (.seq (.par 0 1 (.var 1) (.bin .Mod (.var 0) (.var 1))) .nil)) (N + 1) [some (.fz (.int a)), some (.fz (.int 0))] = .ok .nx [some (.fz (.int a)), some (.fz (.int 0))] := by
    intro N a
    rw [whlLoop]
    simp
  have step : ∀ (N a b : Nat), 0 < b → whlLoop (evT F (.tval (.cmp .NotEq (.var 1) (.cst (.int 0))))) (exec F (.seq (.par 0 1 (.var 1) (.bin .Mod (.var 0) (.var 1))) .nil)) (N + 1) [some (.fz (.int a)), some (.fz (.int b))] = whlLoop (evT F (.tval (.cmp .NotEq (.var 1) (.cst (.int 0))))) (exec F (.seq (.par 0 1 (.var 1) (.bin .Mod (.var 0) (.var 1))) .nil)) N [some (.fz (.int b)), some (.fz (.int ((a % b : Nat) : Int)))] := by
    intro N a b hb
    have h0 : ¬ ((b : Int) = 0) := by omega
    have md : binD .Mod (.int a) (.int b) = some (.fz (.int ((a % b : Nat) : Int))) := by
      rw [bin_mod (by omega), Int.natCast_emod]
    have eT : evT F (.tval (.cmp .NotEq (.var 1) (.cst (.int 0)))) [some (.fz (.int a)), some (.fz (.int b))] = .ok true [some (.fz (.int a)), some (.fz (.int b))] := by
      have : (((b : Int) == 0) = false) := beq_eq_false_iff_ne.mpr h0
      simp [this]
    have eB : exec F (.seq (.par 0 1 (.var 1) (.bin .Mod (.var 0) (.var 1))) .nil) [some (.fz (.int a)), some (.fz (.int b))] = .ok .nx [some (.fz (.int b)), some (.fz (.int ((a % b : Nat) : Int)))] := by
      simp [md]
    rw [whlLoop, eT]
    dsimp only
    rw [eB]
  intro k
  induction k with
  | zero =>
    intro N a b hb hN
    have : b = 0 := by omega
    subst this
    obtain ⟨M, rfl⟩ : ∃ M, N = M + 1 := ⟨N - 1, by omega⟩
    rw [Nat.gcd_zero_right]
    exact out M a
  | succ k ih =>
    intro N a b hb hN
    obtain ⟨M, rfl⟩ : ∃ M, N = M + 3 := ⟨N - 3, by omega⟩
    by_cases c : b = 0
    · subst c
      rw [Nat.gcd_zero_right]
      exact out _ a
    · rw [step _ a b (by omega)]
      have g1 : Nat.gcd a b = Nat.gcd b (a % b) := by rw [Nat.gcd_comm a b, Nat.gcd_rec b a, Nat.gcd_comm]
      by_cases c2 : a % b = 0
      · rw [g1, c2, Nat.gcd_zero_right]
        exact out _ b
      · have lt : a % b < b := Nat.mod_lt _ (by omega)
        rw [step _ b (a % b) (by omega)]
        have g2 : Nat.gcd b (a % b) = Nat.gcd (a % b) (b % (a % b)) := by rw [Nat.gcd_comm b (a % b), Nat.gcd_rec (a % b) b, Nat.gcd_comm]
        rw [g1, g2]
        refine ih (M + 1) (a % b) (b % (a % b)) ?_ (by omega)
        have l1 : b % (a % b) < a % b := Nat.mod_lt _ (by omega)
        have l2 : b % (a % b) + (a % b) ≤ b := by
          have := Nat.mod_add_div b (a % b)
          have d1 : 1 ≤ b / (a % b) := Nat.div_pos (by omega) (by omega)
          have d2 : (a % b) * 1 ≤ (a % b) * (b / (a % b)) := Nat.mul_le_mul_left _ d1
          omega
        rw [Nat.pow_succ] at hb
        omega
theorem r_common {a b : Nat} (hT : T[i]? = some ⟨2, 2, libCommon⟩) (hb : b < 2 ^ 100) : run T (n + 1) i [.int a, .int b] = .ret (.fz (.int (Nat.gcd a b))) := by
  rw [run_def hT rfl]
  have := cm_loop (F := run T n) 100 1000 a b hb (by omega)
  simp [libCommon, ini] at this ⊢
  simp [this]
/-- what chance tells -/
def chD (w e : Nat) : PyData := .tuple [.int ((w / Nat.gcd w e : Nat) : Int), .int ((e / Nat.gcd w e : Nat) : Int)]
theorem r_chance {a b h w m g d k : Nat} {most : Int} {mine chain : List (Int × Int)} {counts : List Int} {lacks : List (List Int)} {s : Int × Int} {p : Nat} (hT : T[i]? = some ⟨3, 6, libChance k d g⟩) (hk : T[k]? = some ⟨2, 2, libCommon⟩) (hd : T[d]? = some ⟨1, 1, libDeals h w⟩) (hg : T[g]? = some ⟨3, 7, libWaysWith h m w⟩) (hh : T[h]? = some ⟨1, 9, libHidden a b⟩) (ha : T[a]? = some ⟨1, 4, libAllStones⟩) (hb : T[b]? = some ⟨1, 1, libStoneOf⟩) (hw : T[w]? = some ⟨3, 11, libWays m⟩) (hm : T[m]? = some ⟨3, 4, libMayLie⟩)
    (ok : Lk4 most mine chain counts lacks) (hp : p < counts.length) : run T (n + 4) i [lkD most mine chain counts lacks, .int p, pr s] = if (dealsL lacks (hid most mine chain) counts).length = 0 then .exc 1 else .ret (.fz (chD (wayP lacks (hid most mine chain) counts s p) (dealsL lacks (hid most mine chain) counts).length)) := by
  have mo := ok.mo
  have rg := r_wayswith (n := n) (s := s) hg hh ha hb hw hm ok hp
  have rd := r_deals (n := n) hd hh ha hb hw hm (by omega) (by omega) ok.mi ok.ch ok.cn ok.cs ok.c4 ok.cl ok.hl
  have dl := dealsL_len (lacks := lacks) (ss := hid most mine chain) ok.c4
  have p8 : 4 ^ (hid most mine chain).length ≤ 4 ^ 8 := Nat.pow_le_pow_right (by omega) ok.hl
  generalize (dealsL lacks (hid most mine chain) counts).length = e at *
  generalize wayP lacks (hid most mine chain) counts s p = v at *
  have e8 : e ≤ 65536 := by omega
  have rc := r_common (T := T) (n := n + 2) (a := v) (b := e) hk (Nat.lt_of_le_of_lt e8 (by decide))
  rw [run_def hT rfl]
  by_cases c : e = 0
  · subst c
    simp [libChance, ini, rd]
  · have gp : 0 < Nat.gcd v e := Nat.gcd_pos_of_pos_right _ (by omega)
    have gl : Nat.gcd v e ≤ e := Nat.gcd_le_right _ (by omega)
    have c' : ¬ ((e : Int) = 0) := by omega
    have f1 := bin_div (a := (v : Int)) (b := (Nat.gcd v e : Int)) (by omega) (by omega)
    have f2 := bin_div (a := (e : Int)) (b := (Nat.gcd v e : Int)) (by omega) (by omega)
    rw [if_neg c]
    simp [libChance, ini, rd, c, rg, rc, f1, f2, chD]
/-- what sure tells -/
def sureL (lacks : List (List Int)) (ss : List (Int × Int)) (c : List Int) : List ((Int × Int) × Nat) := ss.flatMap fun s => ((List.range c.length).filter fun p => decide (0 < (dealsL lacks ss c).length ∧ wayP lacks ss c s p = (dealsL lacks ss c).length)).map fun p => (s, p)
def suD (x : (Int × Int) × Nat) : PyData := .tuple [pr x.1, .int x.2]
def suB (d h g : Nat) : CS := match libSure d h g with
  | .seq _ (.seq _ (.seq (.forS _ _ _ b) _)) => b
  | _ => .bad
def suB2 (d h g : Nat) : CS := match libSure d h g with
  | .seq _ (.seq _ (.seq (.forS _ _ _ (.seq (.forS _ _ _ b) _)) _)) => b
  | _ => .bad
theorem r_sure {a b h w m g d : Nat} {most : Int} {mine chain : List (Int × Int)} {counts : List Int} {lacks : List (List Int)} (hT : T[i]? = some ⟨1, 5, libSure d h g⟩) (hd : T[d]? = some ⟨1, 1, libDeals h w⟩) (hg : T[g]? = some ⟨3, 7, libWaysWith h m w⟩) (hh : T[h]? = some ⟨1, 9, libHidden a b⟩) (ha : T[a]? = some ⟨1, 4, libAllStones⟩) (hb : T[b]? = some ⟨1, 1, libStoneOf⟩) (hw : T[w]? = some ⟨3, 11, libWays m⟩) (hm : T[m]? = some ⟨3, 4, libMayLie⟩)
    (ok : Lk4 most mine chain counts lacks) : run T (n + 4) i [lkD most mine chain counts lacks] = .ret (.fz (.tuple ((sureL lacks (hid most mine chain) counts).map suD))) := by
  have mo := ok.mo
  have c4 := ok.c4
  have h8 := ok.hl
  have rg := fun (s : Int × Int) (p : Nat) (hp : p < counts.length) => r_wayswith (n := n) (s := s) hg hh ha hb hw hm ok hp
  have rd := r_deals (n := n) hd hh ha hb hw hm (by omega) (by omega) ok.mi ok.ch ok.cn ok.cs ok.c4 ok.cl ok.hl
  have rh := r_hidden (n := n + 1) (most := most) (mine := mine) (chain := chain) (counts := counts) (lacks := lacks) hh ha hb (by omega) (by omega) ok.mi ok.ch
  have a3 : idxD (lkD most mine chain counts lacks) (.int 3) = some (.tuple (counts.map PyData.int)) := atI_of (by omega) rfl
  rw [run_def hT rfl]
  show fin (exec (run T (n + 3)) (.seq (.set 1 (.call d (.cons (.var 0) .nil))) (.seq (.set 2 (.lst .nil)) (.seq (.forS false [3] (.itr (.call h (.cons (.var 0) .nil))) (suB d h g)) (.seq (.ret (.blt .tuple (.cons (.var 2) .nil))) .nil)))) [some (.fz (lkD most mine chain counts lacks)), none, none, none, none]) = _
  refine fn_seq [some (.fz (lkD most mine chain counts lacks)), some (.fz (.int (dealsL lacks (hid most mine chain) counts).length)), none, none, none] (by simp [rd]) ?_
  refine fn_seq [some (.fz (lkD most mine chain counts lacks)), some (.fz (.int (dealsL lacks (hid most mine chain) counts).length)), some (.ol []), none, none] (by simp) ?_
  unfold sureL
  generalize hss : hid most mine chain = ss at *
  generalize (dealsL lacks ss counts).length = e at *
  have key : ∀ (s : Int × Int) (acc : List ((Int × Int) × Nat)) (x4 : Option Val), acc.length ≤ 1000 → ∃ x4', exec (run T (n + 3)) (suB d h g) [some (.fz (lkD most mine chain counts lacks)), some (.fz (.int e)), some (.ol (acc.map suD)), some (.fz (pr s)), x4] = .ok .nx [some (.fz (lkD most mine chain counts lacks)), some (.fz (.int e)), some (.ol ((acc ++ ((List.range counts.length).filter fun p => decide (0 < e ∧ wayP lacks ss counts s p = e)).map fun p => (s, p)).map suD)), some (.fz (pr s)), x4'] := by
    intro s acc x4 hacc
    have rgg : rngD [.int (counts.length : Int)] = some ((List.range counts.length).map fun (i : Nat) => PyData.int i) := by
      have := rng1 (n := (counts.length : Int)) (by omega) (by omega)
      simpa using this
    obtain ⟨r', e1, x4', rfl⟩ := for_inv (tup := false) (tg := [4]) (body := exec (run T (n + 3)) (suB2 d h g))
      (fun j r => ∃ x4', r = [some (.fz (lkD most mine chain counts lacks)), some (.fz (.int e)), some (.ol ((acc ++ ((List.range j).filter fun p => decide (0 < e ∧ wayP lacks ss counts s p = e)).map fun p => (s, p)).map suD)), some (.fz (pr s)), x4'])
      ((List.range counts.length).map fun (i : Nat) => PyData.int i) 0 [some (.fz (lkD most mine chain counts lacks)), some (.fz (.int e)), some (.ol (acc.map suD)), some (.fz (pr s)), x4] ⟨x4, by simp⟩ (fun j d' r hd' hi => by
        obtain ⟨x4', rfl⟩ := hi
        obtain ⟨hj, rfl⟩ := range_item hd'
        rw [Nat.zero_add]
        refine ⟨_, _, rfl, .inl ?_, some (.fz (.int j)), rfl⟩
        have r1 := rg s j hj
        have eA : acc ++ ((List.range (j + 1)).filter fun p => decide (0 < e ∧ wayP lacks ss counts s p = e)).map (fun p => (s, p)) = (acc ++ ((List.range j).filter fun p => decide (0 < e ∧ wayP lacks ss counts s p = e)).map (fun p => (s, p))) ++ ([j].filter fun p => decide (0 < e ∧ wayP lacks ss counts s p = e)).map (fun p => (s, p)) := by
          rw [List.range_succ, List.filter_append, List.map_append, List.append_assoc]
        rw [eA]
        have fl : ((List.range j).filter fun p => decide (0 < e ∧ wayP lacks ss counts s p = e)).length ≤ j := by
          have := List.length_filter_le (fun p => decide (0 < e ∧ wayP lacks ss counts s p = e)) (List.range j)
          simpa using this
        generalize hA : acc ++ ((List.range j).filter fun p => decide (0 < e ∧ wayP lacks ss counts s p = e)).map (fun p => (s, p)) = A
        have lA : A.length < 16777216 := by
          rw [← hA, List.length_append, List.length_map]
          omega
        show exec (run T (n + 3)) (.seq (.ite (.tand (.tval (.cmp .Gt (.var 1) (.cst (.int 0)))) (.tval (.cmp .Eq (.call g (.cons (.var 0) (.cons (.var 4) (.cons (.var 3) .nil)))) (.var 1)))) (.seq (.expr (.app 2 (.tup (.cons (.var 3) (.cons (.var 4) .nil))))) .nil) .nil) .nil) [some (.fz (lkD most mine chain counts lacks)), some (.fz (.int e)), some (.ol (A.map suD)), some (.fz (pr s)), some (.fz (.int j))] = _
        by_cases c1 : 0 < e
        · have c1' : (0 : Int) < (e : Int) := by omega
          by_cases c2 : wayP lacks ss counts s j = e
          · have ap := appD_ol (i := 2) (r := [some (.fz (lkD most mine chain counts lacks)), some (.fz (.int e)), some (.ol (A.map suD)), some (.fz (pr s)), some (.fz (.int j))]) (ds := A.map suD) rfl (by rw [List.length_map]; exact lA) (.tuple [pr s, .int j])
            rw [c2] at r1
            simp [c1, r1, c2, ap, suD]
          · have c2' : ¬ ((wayP lacks ss counts s j : Int) = (e : Int)) := by omega
            simp [c1, r1, c2, c2']
        · simp [c1])
    rw [List.length_map, List.length_range, Nat.zero_add] at e1
    refine ⟨x4', ?_⟩
    show exec (run T (n + 3)) (.seq (.forS false [4] (.rng (.cons (.blt .len (.cons (.idx (.var 0) (.cst (.int 3))) .nil)) .nil)) (suB2 d h g)) .nil) _ = _
    simp [a3, rgg, e1]
  refine fn_for (I := fun j r => ∃ x3 x4, r = [some (.fz (lkD most mine chain counts lacks)), some (.fz (.int e)), some (.ol (((ss.take j).flatMap fun s => ((List.range counts.length).filter fun p => decide (0 < e ∧ wayP lacks ss counts s p = e)).map fun p => (s, p)).map suD)), x3, x4]) (ds := prs ss) (r0 := [some (.fz (lkD most mine chain counts lacks)), some (.fz (.int e)), some (.ol []), none, none]) ?_ ⟨none, none, rfl⟩ ?_ ?_
  · simp [rh]
  · intro j d' r hd' hi
    obtain ⟨x3, x4, rfl⟩ := hi
    unfold prs at hd'
    rw [List.getElem?_map] at hd'
    cases hq : ss[j]? with
    | none => rw [hq] at hd'; cases hd'
    | some s =>
      rw [hq] at hd'
      cases hd'
      have hj := (List.getElem?_eq_some_iff.mp hq).1
      have ln : ∀ xs : List (Int × Int), (xs.flatMap fun s => ((List.range counts.length).filter fun p => decide (0 < e ∧ wayP lacks ss counts s p = e)).map fun p => (s, p)).length ≤ xs.length * 4 := by
        intro xs
        induction xs with
        | nil => simp
        | cons x xs ih =>
          rw [List.flatMap_cons, List.length_append, List.length_map, List.length_cons]
          have := List.length_filter_le (fun p => decide (0 < e ∧ wayP lacks ss counts x p = e)) (List.range counts.length)
          rw [List.length_range] at this
          omega
      have l1 := ln (ss.take j)
      rw [List.length_take] at l1
      obtain ⟨x4', ek⟩ := key s _ x4 (Nat.le_trans l1 (by omega))
      refine ⟨_, rfl, _, ek, some (.fz (pr s)), x4', ?_⟩
      rw [List.take_add_one, hq, List.flatMap_append]
      simp
  · rintro r' ⟨x3, x4, rfl⟩
    rw [prs_len, List.take_length]
    simp
end
end SC

set_option Elab.async false
set_option maxRecDepth 100000
set_option maxHeartbeats 1000000
/-! SE8: looks with the places the other way about; with one place more. -/
namespace SC
open PySem
theorem rev_get {α : Type} {l : List α} {p : Nat} (h : p < l.length) : l.reverse[l.length - 1 - p]? = l[p]? := by
  rw [List.getElem?_reverse (by omega)]
  congr 1
  omega
theorem lack_rev {lacks : List (List Int)} {p : Nat} (h : p < lacks.length) : lackAt lacks.reverse (lacks.length - 1 - p) = lackAt lacks p := by
  unfold lackAt
  rw [rev_get h]
theorem can_rev {lacks : List (List Int)} {c : List Int} {s : Int × Int} {p : Nat} (hc : c.length = lacks.length) (h : p < c.length) : canB lacks.reverse s c.reverse (c.length - 1 - p) = canB lacks s c p := by
  unfold canB okB
  rw [rev_get h, hc, lack_rev (by omega)]
theorem decr_rev {c : List Int} {p : Nat} (h : p < c.length) : decr c.reverse (c.length - 1 - p) = (decr c p).reverse := by
  unfold decr
  rw [rev_get h]
  apply List.ext_getElem?
  intro k
  by_cases hk : k < c.length
  · rw [List.getElem?_reverse (by rw [List.length_set]; exact hk), List.length_set]
    by_cases e : c.length - 1 - p = k
    · subst e
      rw [List.getElem?_set_self (by rw [List.length_reverse]; omega), show c.length - 1 - (c.length - 1 - p) = p by omega, List.getElem?_set_self h]
    · rw [List.getElem?_set_ne e, List.getElem?_reverse hk, List.getElem?_set_ne (by omega)]
  · rw [List.getElem?_eq_none (by simp; omega), List.getElem?_eq_none (by simp; omega)]
theorem sum_rev (L : Nat) (f g : Nat → Nat) (h : ∀ p, p < L → g (L - 1 - p) = f p) : ((List.range L).map g).sum = ((List.range L).map f).sum := by
  have e : (List.range L).map g = ((List.range L).map f).reverse := by
    apply List.ext_getElem?
    intro k
    by_cases hk : k < L
    · rw [List.getElem?_reverse (by simpa using hk), List.getElem?_map, List.getElem?_map, List.getElem?_range hk, List.length_map, List.length_range, List.getElem?_range (by omega)]
      have := h (L - 1 - k) (by omega)
      rw [show L - 1 - (L - 1 - k) = k by omega] at this
      simp [this]
    · rw [List.getElem?_eq_none (by simp; omega), List.getElem?_eq_none (by simp; omega)]
  rw [e, List.sum_reverse]
theorem deals_rev {lacks : List (List Int)} : ∀ {ss : List (Int × Int)} {c : List Int}, c.length = lacks.length → (dealsL lacks.reverse ss c.reverse).length = (dealsL lacks ss c).length
  | [], _, _ => rfl
  | s :: ss, c, hc => by
    rw [dealsL, dealsL, length_flatMap', length_flatMap', List.length_reverse]
    apply sum_rev
    intro p hp
    rw [can_rev hc hp]
    split
    · rw [List.length_map, List.length_map, decr_rev hp, deals_rev (by rw [decr_len]; exact hc)]
    · rfl
theorem way_rev {lacks : List (List Int)} {ss : List (Int × Int)} {c : List Int} {s : Int × Int} {p : Nat} (hc : c.length = lacks.length) (hp : p < c.length) : wayP lacks.reverse ss c.reverse s (c.length - 1 - p) = wayP lacks ss c s p := by
  unfold wayP
  rw [can_rev hc hp, decr_rev hp, deals_rev (by rw [decr_len]; exact hc)]
theorem lack_more {lacks : List (List Int)} {p : Nat} (h : p < lacks.length) : lackAt (lacks ++ [[]]) p = lackAt lacks p := by
  unfold lackAt
  rw [List.getElem?_append_left h]
theorem can_more {lacks : List (List Int)} {c : List Int} {s : Int × Int} {p : Nat} (hc : c.length = lacks.length) (h : p < c.length) : canB (lacks ++ [[]]) s (c ++ [0]) p = canB lacks s c p := by
  unfold canB okB
  rw [List.getElem?_append_left h, lack_more (by omega)]
theorem can_last {lacks : List (List Int)} {c : List Int} {s : Int × Int} : canB lacks s (c ++ [0]) c.length = false := by
  unfold canB
  rw [List.getElem?_append_right (Nat.le_refl _)]
  simp
theorem decr_more {c : List Int} {p : Nat} (h : p < c.length) : decr (c ++ [0]) p = decr c p ++ [0] := by
  unfold decr
  rw [List.getElem?_append_left h, List.set_append_left _ _ h]
theorem deals_more {lacks : List (List Int)} : ∀ {ss : List (Int × Int)} {c : List Int}, c.length = lacks.length → (dealsL (lacks ++ [[]]) ss (c ++ [0])).length = (dealsL lacks ss c).length
  | [], _, _ => rfl
  | s :: ss, c, hc => by
    rw [dealsL, dealsL, length_flatMap', length_flatMap', List.length_append, List.length_singleton, List.range_succ, List.map_append, List.sum_append, List.map_singleton, can_last]
    have e : (List.range c.length).map (fun x => (if canB (lacks ++ [[]]) s (c ++ [0]) x = true then (dealsL (lacks ++ [[]]) ss (decr (c ++ [0]) x)).map ((x : Int) :: ·) else []).length) = (List.range c.length).map (fun x => (if canB lacks s c x = true then (dealsL lacks ss (decr c x)).map ((x : Int) :: ·) else []).length) := by
      apply List.map_congr_left
      intro p hp
      have hp := List.mem_range.mp hp
      rw [can_more hc hp]
      split
      · rw [List.length_map, List.length_map, decr_more hp, deals_more (by rw [decr_len]; exact hc)]
      · rfl
    rw [e]
    simp
theorem way_more {lacks : List (List Int)} {ss : List (Int × Int)} {c : List Int} {s : Int × Int} {p : Nat} (hc : c.length = lacks.length) (hp : p < c.length) : wayP (lacks ++ [[]]) ss (c ++ [0]) s p = wayP lacks ss c s p := by
  unfold wayP
  rw [can_more hc hp, decr_more hp, deals_more (by rw [decr_len]; exact hc)]
theorem way_last {lacks : List (List Int)} {ss : List (Int × Int)} {c : List Int} {s : Int × Int} : wayP lacks ss (c ++ [0]) s c.length = 0 := by
  unfold wayP
  rw [can_last]
  simp
theorem filter_one {P : Nat → Bool} {p0 : Nat} : ∀ {L : Nat}, p0 < L → P p0 = true → (∀ p, p < L → P p = true → p = p0) → (List.range L).filter P = [p0]
  | L + 1, h, h1, h2 => by
    rw [List.range_succ, List.filter_append]
    by_cases e : p0 = L
    · subst e
      have z : (List.range p0).filter P = [] := by
        rw [List.filter_eq_nil_iff]
        intro p hp hP
        have hp := List.mem_range.mp hp
        have := h2 p (by omega) hP
        omega
      rw [z, List.filter_cons_of_pos h1]
      rfl
    · rw [filter_one (by omega) h1 fun p hp hP => h2 p (by omega) hP]
      have : P L ≠ true := fun hP => e (h2 L (by omega) hP).symm
      rw [List.filter_cons_of_neg this]
      rfl
theorem flatMap_same {α β : Type} {f g : α → List β} : ∀ {l : List α}, (∀ a ∈ l, f a = g a) → l.flatMap f = l.flatMap g
  | [], _ => rfl
  | a :: l, h => by
    rw [List.flatMap_cons, List.flatMap_cons, h a (by simp), flatMap_same fun b hb => h b (List.mem_cons_of_mem _ hb)]
theorem sure_rev {lacks : List (List Int)} {ss : List (Int × Int)} {c : List Int} (hc : c.length = lacks.length) (hn : ss.Nodup) : sureL lacks.reverse ss c.reverse = (sureL lacks ss c).map fun x => (x.1, c.length - 1 - x.2) := by
  unfold sureL
  rw [List.map_flatMap]
  apply flatMap_same
  intro s hs
  rw [deals_rev hc, List.length_reverse, List.map_map]
  generalize hN : (dealsL lacks ss c).length = N
  have eq : ∀ p, p < c.length → decide (0 < N ∧ wayP lacks.reverse ss c.reverse s (c.length - 1 - p) = N) = decide (0 < N ∧ wayP lacks ss c s p = N) := fun p hp => by rw [way_rev hc hp]
  by_cases ex : ∃ p0, p0 < c.length ∧ decide (0 < N ∧ wayP lacks ss c s p0 = N) = true
  · obtain ⟨p0, h0, h1⟩ := ex
    have un : ∀ p, p < c.length → decide (0 < N ∧ wayP lacks ss c s p = N) = true → p = p0 := fun p hp h => by
      by_cases e : p = p0
      · exact e
      · have h1' := of_decide_eq_true h1
        have h' := of_decide_eq_true h
        have := wayP_two (lacks := lacks) (c := c) hn hs hp h0 e
        omega
    rw [filter_one (p0 := p0) h0 h1 un]
    rw [filter_one (p0 := c.length - 1 - p0) (by omega) (by rw [eq p0 h0]; exact h1) fun p hp h => ?_]
    · rfl
    · have e2 := eq (c.length - 1 - p) (by omega)
      rw [show c.length - 1 - (c.length - 1 - p) = p by omega, h] at e2
      have := un (c.length - 1 - p) (by omega) e2.symm
      omega
  · have z1 : (List.range c.length).filter (fun p => decide (0 < N ∧ wayP lacks ss c s p = N)) = [] := by
      rw [List.filter_eq_nil_iff]
      intro p hp h
      exact ex ⟨p, List.mem_range.mp hp, h⟩
    have z2 : (List.range c.length).filter (fun p => decide (0 < N ∧ wayP lacks.reverse ss c.reverse s p = N)) = [] := by
      rw [List.filter_eq_nil_iff]
      intro p hp h
      have hp := List.mem_range.mp hp
      refine ex ⟨c.length - 1 - p, by omega, ?_⟩
      have e2 := eq (c.length - 1 - p) (by omega)
      rw [show c.length - 1 - (c.length - 1 - p) = p by omega] at e2
      rw [← e2]
      exact h
    rw [z1, z2]
    rfl
theorem sure_more {lacks : List (List Int)} {ss : List (Int × Int)} {c : List Int} (hc : c.length = lacks.length) : sureL (lacks ++ [[]]) ss (c ++ [0]) = sureL lacks ss c := by
  unfold sureL
  apply flatMap_same
  intro s hs
  rw [deals_more hc, List.length_append, List.length_singleton, List.range_succ, List.filter_append]
  generalize (dealsL lacks ss c).length = N
  have e1 : (List.range c.length).filter (fun p => decide (0 < N ∧ wayP (lacks ++ [[]]) ss (c ++ [0]) s p = N)) = (List.range c.length).filter fun p => decide (0 < N ∧ wayP lacks ss c s p = N) := by
    apply List.filter_congr
    intro p hp
    rw [way_more hc (List.mem_range.mp hp)]
  have e2 : [c.length].filter (fun p => decide (0 < N ∧ wayP (lacks ++ [[]]) ss (c ++ [0]) s p = N)) = [] := by
    rw [List.filter_cons_of_neg (by
      rw [way_last]
      intro h
      have := of_decide_eq_true h
      omega)]
    rfl
  rw [e1, e2, List.append_nil]
theorem mem_sure {lacks : List (List Int)} {ss : List (Int × Int)} {c : List Int} {s : Int × Int} {p : Nat} (hs : s ∈ ss) (hp : p < c.length) : (s, p) ∈ sureL lacks ss c ↔ 0 < (dealsL lacks ss c).length ∧ wayP lacks ss c s p = (dealsL lacks ss c).length := by
  unfold sureL
  rw [List.mem_flatMap]
  constructor
  · rintro ⟨t, _, h⟩
    obtain ⟨q, hq, e⟩ := List.mem_map.mp h
    cases e
    rw [List.mem_filter] at hq
    exact of_decide_eq_true hq.2
  · intro h
    exact ⟨s, hs, List.mem_map.mpr ⟨p, List.mem_filter.mpr ⟨List.mem_range.mpr hp, decide_eq_true h⟩, rfl⟩⟩
/-! ### as data -/
theorem gd_pr (p : Int × Int) : Gd1 2 (pr p) := Gd1.tup fun d hd => by
  simp at hd
  rcases hd with rfl | rfl <;> exact gd_int 0 _
theorem gd_su (x : (Int × Int) × Nat) : Gd1 3 (suD x) := Gd1.tup fun d hd => by
  simp at hd
  rcases hd with rfl | rfl
  · exact gd_pr _
  · exact gd_int 1 _
theorem eqv_su (x y : (Int × Int) × Nat) : PyData.eqv (suD x) (suD y) = decide (x = y) := by
  have e : PyData.eqv (suD x) (suD y) = (PyData.eqv (pr x.1) (pr y.1) && (((x.2 : Int) == (y.2 : Int)) && true)) := by simp only [suD, PyData.eqv, PyData.eqvAll]
  rw [e, eqv_pr]
  obtain ⟨a, b⟩ := x
  obtain ⟨c, d⟩ := y
  by_cases h1 : a = c
  · by_cases h2 : b = d
    · simp [h1, h2]
    · have : ¬ ((b : Int) = (d : Int)) := by omega
      simp [h1, h2, this]
  · simp [h1]
theorem in_su (x : (Int × Int) × Nat) (D : List ((Int × Int) × Nat)) : inD (suD x) (.tuple (D.map suD)) = some (decide (x ∈ D)) := by
  have g : Gd1 4 (.tuple (D.map suD)) := Gd1.tup fun d hd => by
    obtain ⟨y, _, rfl⟩ := List.mem_map.mp hd
    exact gd_su y
  show (if SeqAt.shaped (suD x) && SeqAt.shaped (.tuple (D.map suD)) then some ((D.map suD).any fun z => PyData.eqv z (suD x)) else none) = _
  rw [g.shaped (by omega), (gd_su x).shaped (by omega)]
  show some ((D.map suD).any fun z => PyData.eqv z (suD x)) = _
  congr 1
  induction D with
  | nil => rfl
  | cons y D ih =>
    rw [List.map_cons, List.any_cons, ih (Gd1.tup fun d hd => by
      obtain ⟨y, _, rfl⟩ := List.mem_map.mp hd
      exact gd_su y), eqv_su]
    by_cases h : x = y
    · simp [h]
    · have : ¬ (y = x) := fun e => h e.symm
      simp [h, this]
theorem nst_su (D : List ((Int × Int) × Nat)) : nstOk (D.map suD) = true := by
  unfold nstOk
  rw [Bool.and_eq_true]
  constructor
  · rw [List.all_eq_true]
    intro d hd
    obtain ⟨y, _, rfl⟩ := List.mem_map.mp hd
    have g := gd_su y
    have d1 := g.dep
    rw [Bool.and_eq_true, Bool.and_eq_true]
    exact ⟨rfl, g.lay, decide_eq_true (by omega)⟩
  · rw [List.all_eq_true]
    intro d hd
    rw [List.all_eq_true]
    intro d' hd'
    obtain ⟨y, _, rfl⟩ := List.mem_map.mp hd
    obtain ⟨z, _, rfl⟩ := List.mem_map.mp hd'
    rfl
theorem sort_su (D : List ((Int × Int) × Nat)) : ∃ S, sortD (.list (D.map suD)) = some S ∧ sortD (.tuple (D.map suD)) = some S ∧ eqD (.list S) (.list S) = some true := by
  have go : ∀ S : List PyData, S.Perm (D.map suD) → eqD (.list S) (.list S) = some true := fun S hp => by
    have hS : ∀ d ∈ S, ∃ y, d = suD y := fun d hd => by
      obtain ⟨y, _, rfl⟩ := List.mem_map.mp (hp.mem_iff.mp hd)
      exact ⟨y, rfl⟩
    have g : Gd1 4 (.list S) := Gd1.lst fun d hd => by
      obtain ⟨y, rfl⟩ := hS d hd
      exact gd_su y
    show (if SeqAt.shaped (.list S) && SeqAt.shaped (.list S) then some (PyData.eqv (.list S) (.list S)) else none) = _
    rw [g.shaped (by omega)]
    show some (PyData.eqvAll S S) = _
    congr 1
    clear g hp
    induction S with
    | nil => rfl
    | cons d S ih =>
      obtain ⟨y, rfl⟩ := hS d (by simp)
      show (PyData.eqv (suD y) (suD y) && PyData.eqvAll S S) = true
      rw [ih fun d hd => hS d (List.mem_cons_of_mem _ hd), eqv_su]
      simp
  cases q : srtOk (D.map suD) with
  | true =>
    refine ⟨isort ltD (D.map suD), ?_, ?_, go _ (isort_perm _ _)⟩
    · unfold sortD
      rw [show itemsD (.list (D.map suD)) = some (D.map suD) from rfl, Option.bind_some, if_pos q]
    · unfold sortD
      rw [show itemsD (.tuple (D.map suD)) = some (D.map suD) from rfl, Option.bind_some, if_pos q]
  | false =>
    refine ⟨nsort (D.map suD), ?_, ?_, go _ (List.mergeSort_perm _ _)⟩
    · unfold sortD
      rw [show itemsD (.list (D.map suD)) = some (D.map suD) from rfl, Option.bind_some, if_neg (by rw [q]; decide), if_pos (nst_su D)]
    · unfold sortD
      rw [show itemsD (.tuple (D.map suD)) = some (D.map suD) from rfl, Option.bind_some, if_neg (by rw [q]; decide), if_pos (nst_su D)]
/-! ### the other looks -/
section
variable {most : Int} {mine chain : List (Int × Int)} {counts : List Int} {lacks : List (List Int)}
theorem Lk4.rev (h : Lk4 most mine chain counts lacks) : Lk4 most mine chain counts.reverse lacks.reverse :=
  ⟨h.mo, h.mi, h.ch, by rw [List.length_reverse, List.length_reverse]; exact h.cl, by rw [List.length_reverse]; exact h.c4, fun x hx => h.cn x (List.mem_reverse.mp hx), by rw [List.sum_reverse]; exact h.cs, h.hl⟩
theorem Lk4.more (h : Lk4 most mine chain counts lacks) (h3 : counts.length ≤ 3) : Lk4 most mine chain (counts ++ [0]) (lacks ++ [[]]) :=
  ⟨h.mo, h.mi, h.ch, by rw [List.length_append, List.length_append, h.cl]; rfl, by rw [List.length_append]; simp; exact h3, fun x hx => by
    rw [List.mem_append, List.mem_singleton] at hx
    rcases hx with hx | rfl
    · exact h.cn x hx
    · omega, by rw [List.sum_append]; simp; exact h.cs, h.hl⟩
theorem hid_less {s : Int × Int} : hid most (srt (mine ++ [s])) chain = (hid most mine chain).filter fun q => decide (q ≠ s) := by
  unfold hid
  rw [List.filter_filter]
  apply List.filter_congr
  intro p _
  rw [Bool.and_eq_decide, decide_eq_decide]
  simp only [List.mem_append, srt_mem, List.mem_singleton, decide_eq_true_eq]
  constructor
  · intro h
    exact ⟨fun e => h (.inl (.inr e)), fun e => h (e.elim (fun a => .inl (.inl a)) .inr)⟩
  · rintro ⟨h1, h2⟩ (h | h)
    · rcases h with h | h
      · exact h2 (.inl h)
      · exact h1 h
    · exact h2 (.inr h)
theorem Lk4.less {s : Int × Int} {p : Nat} (h : Lk4 most mine chain counts lacks) (hm : mine.length ≤ 500) (hs : s ∈ hid most mine chain) (hc : canB lacks s counts p = true) : Lk4 most (srt (mine ++ [s])) chain (decr counts p) lacks := by
  have dk := decr_ok (L := counts.length) (m := ((hid most mine chain).length : Int) - 1) hc ⟨rfl, h.cn, by rw [h.cs]; omega⟩
  have fl := filt_len (hid_nd h.mo) hs
  have h8 := h.hl
  refine ⟨h.mo, by rw [srt_len, List.length_append, List.length_singleton]; omega, h.ch, by rw [decr_len]; exact h.cl, by rw [decr_len]; exact h.c4, dk.2.1, ?_, ?_⟩
  · rw [hid_less, dk.2.2]
    omega
  · rw [hid_less]
    omega
theorem way_pos {s : Int × Int} {p : Nat} (h : 0 < wayP lacks (hid most mine chain) counts s p) : s ∈ hid most mine chain ∧ canB lacks s counts p = true ∧ (dealsL lacks (hid most (srt (mine ++ [s])) chain) (decr counts p)).length = wayP lacks (hid most mine chain) counts s p := by
  unfold wayP at h ⊢
  by_cases c : s ∈ hid most mine chain ∧ canB lacks s counts p = true
  · rw [if_pos c, hid_less]
    exact ⟨c.1, c.2, rfl⟩
  · rw [if_neg c] at h
    omega
end
def toldD (w e : Nat) : PyData := if e = 0 then .none else chD w e
theorem ch_one {w e : Nat} (he : 0 < e) : eqD (chD w e) (.tuple [.int 1, .int 1]) = some (decide (w = e)) := by
  have gp : 0 < Nat.gcd w e := Nat.gcd_pos_of_pos_right _ he
  have e1 : eqD (chD w e) (.tuple [.int 1, .int 1]) = some ((((w / Nat.gcd w e : Nat) : Int) == 1) && ((((e / Nat.gcd w e : Nat) : Int) == 1) && true)) := by
    show (if SeqAt.shaped (chD w e) && SeqAt.shaped (.tuple [.int 1, .int 1]) then some (PyData.eqv (chD w e) (.tuple [.int 1, .int 1])) else none) = _
    rw [show SeqAt.shaped (chD w e) = true from rfl, show SeqAt.shaped (.tuple [.int 1, .int 1]) = true from rfl]
    simp only [chD, PyData.eqv, PyData.eqvAll]
    rfl
  rw [e1]
  congr 1
  by_cases c : w = e
  · subst c
    rw [Nat.gcd_self, Nat.div_self he]
    simp
  · rw [decide_eq_false c]
    by_cases a : w / Nat.gcd w e = 1
    · by_cases b : e / Nat.gcd w e = 1
      · have a' := Nat.div_mul_cancel (Nat.gcd_dvd_left w e)
        have b' := Nat.div_mul_cancel (Nat.gcd_dvd_right w e)
        rw [a, Nat.one_mul] at a'
        rw [b, Nat.one_mul] at b'
        exact absurd (a'.symm.trans b') c
      · have : ¬ (((e / Nat.gcd w e : Nat) : Int) = 1) := by omega
        simp only [beq_eq_false_iff_ne.mpr this, Bool.false_and, Bool.and_false]
    · have : ¬ (((w / Nat.gcd w e : Nat) : Int) = 1) := by omega
      simp only [beq_eq_false_iff_ne.mpr this, Bool.false_and]
theorem ch_pos {w e : Nat} (he : 0 < e) : (0 < ((w / Nat.gcd w e : Nat) : Int)) ↔ 0 < w := by
  have gp : 0 < Nat.gcd w e := Nat.gcd_pos_of_pos_right _ he
  constructor
  · intro h
    by_cases c : w = 0
    · subst c
      simp at h
    · omega
  · intro h
    have := Nat.div_pos (Nat.le_of_dvd h (Nat.gcd_dvd_left w e)) gp
    omega
theorem ch_cross {w e : Nat} : (w : Int) * ((e / Nat.gcd w e : Nat) : Int) = (e : Int) * ((w / Nat.gcd w e : Nat) : Int) := by
  have h : w * (e / Nat.gcd w e) = e * (w / Nat.gcd w e) := by
    rw [← Nat.mul_div_assoc _ (Nat.gcd_dvd_right w e), ← Nat.mul_div_assoc _ (Nat.gcd_dvd_left w e), Nat.mul_comm]
  exact_mod_cast h
theorem told_eq (w e : Nat) : eqD (toldD w e) (toldD w e) = some true := by
  unfold toldD
  split
  · rfl
  · show (if SeqAt.shaped (chD w e) && SeqAt.shaped (chD w e) then some (PyData.eqv (chD w e) (chD w e)) else none) = _
    rw [show SeqAt.shaped (chD w e) = true from rfl]
    simp [chD, PyData.eqv, PyData.eqvAll]
theorem su_eq (D : List ((Int × Int) × Nat)) : eqD (.tuple (D.map suD)) (.tuple (D.map suD)) = some true := by
  have g : Gd1 4 (.tuple (D.map suD)) := Gd1.tup fun d hd => by
    obtain ⟨y, _, rfl⟩ := List.mem_map.mp hd
    exact gd_su y
  show (if SeqAt.shaped (.tuple (D.map suD)) && SeqAt.shaped (.tuple (D.map suD)) then some (PyData.eqv (.tuple (D.map suD)) (.tuple (D.map suD))) else none) = _
  rw [g.shaped (by omega)]
  show some (PyData.eqvAll (D.map suD) (D.map suD)) = _
  congr 1
  clear g
  induction D with
  | nil => rfl
  | cons y D ih =>
    show (PyData.eqv (suD y) (suD y) && PyData.eqvAll (D.map suD) (D.map suD)) = true
    rw [ih, eqv_su]
    simp
end SC

set_option Elab.async false
set_option maxRecDepth 100000
set_option maxHeartbeats 4000000
/-! K24: law_k24_whole_places_of_looks. -/
namespace SC
namespace K24
open PySem L2
def top (i : Nat) : Stmt := PySem.Challenge.pw_stonechain_k24_whole_places_of_looks.main.body.getD i (.Pass ⟨0, 0, 0, 0⟩)
abbrev fAllStones : DefI := ⟨"all_stones", ["most"], ["most", "found", "low", "high"], top 4, "all_stones", false⟩
abbrev fStoneOf : DefI := ⟨"stone_of", ["piece"], ["piece"], top 5, "stone_of", false⟩
abbrev fHidden : DefI := ⟨"hidden", ["look"], ["look", "most", "mine", "chain", "counts", "lacks", "seen", "piece", "stone"], top 7, "hidden", false⟩
abbrev fMayLie : DefI := ⟨"may_lie", ["look", "place", "stone"], ["look", "place", "stone", "number"], top 8, "may_lie", false⟩
abbrev fWays : DefI := ⟨"ways", ["look", "stones", "counts"], ["look", "stones", "counts", "rooms", "stone", "found", "room", "place", "new", "count", "<st>"], top 9, "ways", true⟩
abbrev fWaysWith : DefI := ⟨"ways_with", ["look", "place", "stone"], ["look", "place", "stone", "stones", "counts", "rest", "one"], top 10, "ways_with", false⟩
abbrev fMayHave : DefI := ⟨"may_have", ["look", "place", "stone"], ["look", "place", "stone"], top 11, "may_have", false⟩
abbrev fDeals : DefI := ⟨"deals", ["look"], ["look"], top 12, "deals", false⟩
abbrev fCommon : DefI := ⟨"common", ["one", "other"], ["one", "other"], top 13, "common", false⟩
abbrev fChance : DefI := ⟨"chance", ["look", "place", "stone"], ["look", "place", "stone", "every", "some", "by"], top 14, "chance", false⟩
abbrev fSure : DefI := ⟨"sure", ["look"], ["look", "every", "found", "stone", "place"], top 15, "sure", false⟩
abbrev fLawCell : DefI := ⟨"_law_cell", ["script", "k"], ["script", "k"], top 17, "_law_cell", false⟩
abbrev fLawMix : DefI := ⟨"_law_mix", ["cell", "prime", "many"], ["cell", "prime", "many", "blend"], top 18, "_law_mix", false⟩
abbrev fLawAll : DefI := ⟨"_law_all", ["most"], ["most", "found", "low", "high"], top 19, "_law_all", false⟩
abbrev fLawChain : DefI := ⟨"_law_chain", ["cell", "most", "many"], ["cell", "most", "many", "found", "used", "k", "last", "some", "n", "other"], top 21, "_law_chain", false⟩
abbrev fLawLook : DefI := ⟨"_law_look", ["cell", "most_hidden"], ["cell", "most_hidden", "most", "every", "chain", "used", "piece", "left", "stone", "mine", "places", "counts", "place", "at", "lacks", "some", "number"], top 22, "_law_look", false⟩
abbrev fLawChance : DefI := ⟨"_law_chance", ["look", "place", "stone"], ["look", "place", "stone"], top 23, "_law_chance", false⟩
abbrev fLaw : DefI := ⟨"law", ["script"], ["script", "k", "cell", "look", "most", "mine", "chain", "counts", "lacks", "other", "more", "many", "last", "stone", "place", "told", "less", "known"], top 24, "law", false⟩
def defs : List DefI := [fAllStones, fStoneOf, fHidden, fMayLie, fWays, fWaysWith, fMayHave, fDeals, fCommon, fChance, fSure, fLawCell, fLawMix, fLawAll, fLawChain, fLawLook, fLawChance, fLaw]
def excs : List Str := ["StoneError", "NoFit"]
def tI : TabI := ⟨excs, defs, [], []⟩
def bAllStones : CS := libAllStones
def bStoneOf : CS := libStoneOf
def bHidden : CS := libHidden 0 1
def bMayLie : CS := libMayLie
def bWays : CS := libWays 3
def bWaysWith : CS := libWaysWith 2 3 4
def bMayHave : CS := libMayHave 5
def bDeals : CS := libDeals 2 4
def bCommon : CS := libCommon
def bChance : CS := libChance 8 7 5
def bSure : CS := libSure 7 2 5
def bLawCell : CS := libLawCell
def bLawMix : CS := libLawMix
def bLawAll : CS := libLawAll
def bLawChain : CS := libLawChain 12
def bLawLook : CS := libLawLook 13 14 12
def bLawChance : CS := (.seq (.tryE (.seq (.ret (.call 9 (.cons (.var 0) (.cons (.var 1) (.cons (.var 2) .nil))))) .nil) none .bad (.seq (.ret (.cst .none)) .nil) .bad .bad .bad) .nil)
def bLaw : CS := (.seq (.forS false [1] (.rng (.cons (.cst (.int 10)) .nil)) (.seq (.set 2 (.bin .Add (.call 11 (.cons (.var 0) (.cons (.bin .Mod (.var 1) (.cst (.int 9))) .nil))) (.bin .Mult (.cst (.int 37)) (.var 1)))) (.seq (.set 3 (.call 15 (.cons (.var 2) (.cons (.cst (.int 7)) .nil)))) (.seq (.unp [4, 5, 6, 7, 8] (.var 3)) (.seq (.set 9 (.tup (.cons (.var 4) (.cons (.var 5) (.cons (.var 6) (.cons (.rev (.var 7)) (.cons (.rev (.var 8)) .nil))))))) (.seq (.set 10 (.tup (.cons (.var 4) (.cons (.var 5) (.cons (.var 6) (.cons (.bin .Add (.var 7) (.tup (.cons (.cst (.int 0)) .nil))) (.cons (.bin .Add (.var 8) (.tup (.cons (.tup .nil) .nil))) .nil))))))) (.seq (.unp [11, 12] (.tup (.cons (.call 7 (.cons (.var 3) .nil)) (.cons (.bin .Sub (.blt .len (.cons (.var 7) .nil)) (.cst (.int 1))) .nil)))) (.seq (.ite (.tor (.tval (.cmp .NotEq (.call 7 (.cons (.var 9) .nil)) (.var 11))) (.tor (.tval (.cmp .NotEq (.call 7 (.cons (.var 10) .nil)) (.var 11))) (.tval (.cmp .NotEq (.call 2 (.cons (.var 9) .nil)) (.call 2 (.cons (.var 3) .nil)))))) (.seq (.ret (.cst (.bool false))) .nil) .nil) (.seq (.ite (.tval (.cmp .NotEq (.blt .sorted (.cons (.call 10 (.cons (.var 9) .nil)) .nil)) (.blt .sorted (.cons (.lc true [13, 14] (.itr (.call 10 (.cons (.var 3) .nil))) (.tval (.cst (.bool true))) (.tup (.cons (.var 13) (.cons (.bin .Sub (.var 12) (.var 14)) .nil)))) .nil)))) (.seq (.ret (.cst (.bool false))) .nil) .nil) (.seq (.ite (.tval (.cmp .NotEq (.call 10 (.cons (.var 10) .nil)) (.call 10 (.cons (.var 3) .nil)))) (.seq (.ret (.cst (.bool false))) .nil) .nil) (.seq (.forS false [13] (.itr (.call 2 (.cons (.var 3) .nil))) (.seq (.forS false [14] (.rng (.cons (.blt .len (.cons (.var 7) .nil)) .nil)) (.seq (.set 15 (.call 16 (.cons (.var 3) (.cons (.var 14) (.cons (.var 13) .nil))))) (.seq (.ite (.tor (.tval (.cmp .NotEq (.call 16 (.cons (.var 9) (.cons (.bin .Sub (.var 12) (.var 14)) (.cons (.var 13) .nil)))) (.var 15))) (.tval (.cmp .NotEq (.call 16 (.cons (.var 10) (.cons (.var 14) (.cons (.var 13) .nil)))) (.var 15)))) (.seq (.ret (.cst (.bool false))) .nil) .nil) (.seq (.ite (.tval (.cmp .NotEq (.cmp .Is (.var 15) (.cst .none)) (.cmp .Eq (.var 11) (.cst (.int 0))))) (.seq (.ret (.cst (.bool false))) .nil) .nil) (.seq (.ite (.tval (.cmp .NotEq (.call 6 (.cons (.var 3) (.cons (.var 14) (.cons (.var 13) .nil)))) (.and (.cmp .IsNot (.var 15) (.cst .none)) (.cmp .Gt (.idx (.var 15) (.cst (.int 0))) (.cst (.int 0)))))) (.seq (.ret (.cst (.bool false))) .nil) .nil) (.seq (.ite (.tval (.cmp .Is (.var 15) (.cst .none))) (.seq .cont .nil) .nil) (.seq (.ite (.tor (.tval (.cmp .NotEq (.cmp .In (.tup (.cons (.var 13) (.cons (.var 14) .nil))) (.call 10 (.cons (.var 3) .nil))) (.cmp .Eq (.var 15) (.tup (.cons (.cst (.int 1)) (.cons (.cst (.int 1)) .nil)))))) (.tval (.cmp .IsNot (.call 6 (.cons (.var 10) (.cons (.bin .Add (.var 12) (.cst (.int 1))) (.cons (.var 13) .nil)))) (.cst (.bool false))))) (.seq (.ret (.cst (.bool false))) .nil) .nil) (.seq (.ite (.tval (.cmp .Gt (.idx (.var 15) (.cst (.int 0))) (.cst (.int 0)))) (.seq (.set 16 (.bin .Add (.bin .Add (.slc (.var 7) .nil (.cons (.var 14) .nil)) (.tup (.cons (.bin .Sub (.idx (.var 7) (.var 14)) (.cst (.int 1))) .nil))) (.slc (.var 7) (.cons (.bin .Add (.var 14) (.cst (.int 1))) .nil) .nil))) (.seq (.set 17 (.tup (.cons (.var 4) (.cons (.blt .tuple (.cons (.blt .sorted (.cons (.bin .Add (.var 5) (.tup (.cons (.var 13) .nil))) .nil)) .nil)) (.cons (.var 6) (.cons (.var 16) (.cons (.var 8) .nil))))))) (.seq (.ite (.tval (.cmp .NotEq (.bin .Mult (.call 7 (.cons (.var 17) .nil)) (.idx (.var 15) (.cst (.int 1)))) (.bin .Mult (.var 11) (.idx (.var 15) (.cst (.int 0)))))) (.seq (.ret (.cst (.bool false))) .nil) .nil) .nil))) .nil) .nil)))))))) .nil)) .nil))))))))))) (.seq (.ret (.cst (.bool true))) .nil))
def tab : List FD := [⟨1, 4, bAllStones⟩, ⟨1, 1, bStoneOf⟩, ⟨1, 9, bHidden⟩, ⟨3, 4, bMayLie⟩, ⟨3, 11, bWays⟩, ⟨3, 7, bWaysWith⟩, ⟨3, 3, bMayHave⟩, ⟨1, 1, bDeals⟩, ⟨2, 2, bCommon⟩, ⟨3, 6, bChance⟩, ⟨1, 5, bSure⟩, ⟨2, 2, bLawCell⟩, ⟨3, 4, bLawMix⟩, ⟨1, 4, bLawAll⟩, ⟨3, 10, bLawChain⟩, ⟨2, 17, bLawLook⟩, ⟨3, 3, bLawChance⟩, ⟨1, 18, bLaw⟩]
theorem tab_eq : tabOf tI = tab := by kernel_rfl
def lawB : CS := match bLaw with
  | .seq (.forS _ _ _ b) _ => b
  | _ => .bad
def stB : CS := match lawB with
  | .seq _ (.seq _ (.seq _ (.seq _ (.seq _ (.seq _ (.seq _ (.seq _ (.seq _ (.seq (.forS _ _ _ b) _))))))))) => b
  | _ => .bad
def plB : CS := match stB with
  | .seq (.forS _ _ _ b) _ => b
  | _ => .bad
theorem r_lchance {n : Nat} {most : Int} {mine chain : List (Int × Int)} {counts : List Int} {lacks : List (List Int)} {s : Int × Int} {p : Nat} (ok : Lk4 most mine chain counts lacks) (hp : p < counts.length) : run tab (n + 5) 16 [lkD most mine chain counts lacks, .int p, pr s] = .ret (.fz (toldD (wayP lacks (hid most mine chain) counts s p) (dealsL lacks (hid most mine chain) counts).length)) := by
  have rc := r_chance (T := tab) (i := 9) (n := n) (s := s) (p := p) rfl rfl rfl rfl rfl rfl rfl rfl rfl ok hp
  rw [run_def (fd := ⟨3, 3, bLawChance⟩) rfl rfl]
  unfold toldD
  by_cases c : (dealsL lacks (hid most mine chain) counts).length = 0
  · rw [if_pos c] at rc
    rw [if_pos c]
    simp [bLawChance, ini, rc]
  · rw [if_neg c] at rc
    rw [if_neg c]
    simp [bLawChance, ini, rc]
structure FF (F : Fs) (ns : List Int) : Prop where
  cel : ∀ k : Int, 0 ≤ k → F 11 [scrD ns, .int k] = .ret (.fz (.int (cell ns k)))
  look : ∀ c : Int, ∃ most mine chain counts lacks, F 15 [.int c, .int 7] = .ret (.fz (lkD most mine chain counts lacks)) ∧ LkOk 7 most mine chain counts lacks
  hd : ∀ most mine chain counts lacks, Lk4 most mine chain counts lacks → F 2 [lkD most mine chain counts lacks] = .ret (.fz (.tuple (prs (hid most mine chain))))
  dl : ∀ most mine chain counts lacks, Lk4 most mine chain counts lacks → F 7 [lkD most mine chain counts lacks] = .ret (.fz (.int (dealsL lacks (hid most mine chain) counts).length))
  may : ∀ most mine chain counts lacks (s : Int × Int) (p : Nat), Lk4 most mine chain counts lacks → p < counts.length → F 6 [lkD most mine chain counts lacks, .int p, pr s] = .ret (.fz (.bool (decide (0 < wayP lacks (hid most mine chain) counts s p))))
  chc : ∀ most mine chain counts lacks (s : Int × Int) (p : Nat), Lk4 most mine chain counts lacks → p < counts.length → F 16 [lkD most mine chain counts lacks, .int p, pr s] = .ret (.fz (toldD (wayP lacks (hid most mine chain) counts s p) (dealsL lacks (hid most mine chain) counts).length))
  sure : ∀ most mine chain counts lacks, Lk4 most mine chain counts lacks → F 10 [lkD most mine chain counts lacks] = .ret (.fz (.tuple ((sureL lacks (hid most mine chain) counts).map suD)))
theorem ff {n : Nat} (ns : List Int) : FF (run tab (n + 12)) ns := ⟨fun k h => r_cell rfl h, fun c => r_look (n := n + 9) (mh := 7) rfl rfl rfl rfl,
  fun most mine chain counts lacks h => r_hidden (n := n + 10) rfl rfl rfl (by have := h.mo; omega) (by have := h.mo; omega) h.mi h.ch,
  fun most mine chain counts lacks h => r_deals (n := n + 9) rfl rfl rfl rfl rfl rfl (by have := h.mo; omega) (by have := h.mo; omega) h.mi h.ch h.cn h.cs h.c4 h.cl h.hl,
  fun most mine chain counts lacks s p ok hp => r_mayhave (n := n + 8) rfl rfl rfl rfl rfl rfl rfl ok hp,
  fun most mine chain counts lacks s p ok hp => r_lchance (n := n + 7) ok hp,
  fun most mine chain counts lacks ok => r_sure (n := n + 8) rfl rfl rfl rfl rfl rfl rfl rfl ok⟩
theorem lim_of {W N : Nat} (nle : N ≤ 65536) (wle : W ≤ N) : -(2 ^ 64) < (W : Int) ∧ (W : Int) < 2 ^ 64 ∧ -(2 ^ 64) < (N : Int) ∧ (N : Int) < 2 ^ 64 := by omega
theorem four_le {n : Nat} (h : n ≤ 8) : 4 ^ n ≤ 65536 := Nat.le_trans (Nat.pow_le_pow_right (by omega) h) (by decide)
theorem exec_cont {F : Fs} (r : EV) : exec F .cont r = .ok .ct r := by rw [exec]
theorem pl_step (F : Fs) (ns : List Int) (f : FF F ns) {most : Int} {mine chain : List (Int × Int)} {counts : List Int} {lacks : List (List Int)} (ok : Lk4 most mine chain counts lacks) (h3 : counts.length ≤ 3) (hm : mine.length ≤ 500) {x1 x2 x15 x16 x17 : Option Val} {s : Int × Int} {p : Nat} (hs : s ∈ (hid most mine chain)) (hp : p < counts.length) :
    ∃ x15' x16' x17', exec F plB [some (.fz (scrD ns)), x1, x2, some (.fz (lkD most mine chain counts lacks)), some (.fz (.int most)), some (.fz (.tuple (prs mine))), some (.fz (.tuple (prs chain))), some (.fz (.tuple (counts.map PyData.int))), some (.fz (.tuple (lacks.map fun l => .tuple (l.map PyData.int)))), some (.fz (lkD most mine chain counts.reverse lacks.reverse)), some (.fz (lkD most mine chain (counts ++ [0]) (lacks ++ [[]]))), some (.fz (.int ((dealsL lacks (hid most mine chain) counts).length : Nat))), some (.fz (.int ((counts.length : Int) - 1))), some (.fz (pr s)), some (.fz (.int p)), x15, x16, x17] = .ok .nx [some (.fz (scrD ns)), x1, x2, some (.fz (lkD most mine chain counts lacks)), some (.fz (.int most)), some (.fz (.tuple (prs mine))), some (.fz (.tuple (prs chain))), some (.fz (.tuple (counts.map PyData.int))), some (.fz (.tuple (lacks.map fun l => .tuple (l.map PyData.int)))), some (.fz (lkD most mine chain counts.reverse lacks.reverse)), some (.fz (lkD most mine chain (counts ++ [0]) (lacks ++ [[]]))), some (.fz (.int ((dealsL lacks (hid most mine chain) counts).length : Nat))), some (.fz (.int ((counts.length : Int) - 1))), some (.fz (pr s)), some (.fz (.int p)), x15', x16', x17'] ∨ exec F plB [some (.fz (scrD ns)), x1, x2, some (.fz (lkD most mine chain counts lacks)), some (.fz (.int most)), some (.fz (.tuple (prs mine))), some (.fz (.tuple (prs chain))), some (.fz (.tuple (counts.map PyData.int))), some (.fz (.tuple (lacks.map fun l => .tuple (l.map PyData.int)))), some (.fz (lkD most mine chain counts.reverse lacks.reverse)), some (.fz (lkD most mine chain (counts ++ [0]) (lacks ++ [[]]))), some (.fz (.int ((dealsL lacks (hid most mine chain) counts).length : Nat))), some (.fz (.int ((counts.length : Int) - 1))), some (.fz (pr s)), some (.fz (.int p)), x15, x16, x17] = .ok .ct [some (.fz (scrD ns)), x1, x2, some (.fz (lkD most mine chain counts lacks)), some (.fz (.int most)), some (.fz (.tuple (prs mine))), some (.fz (.tuple (prs chain))), some (.fz (.tuple (counts.map PyData.int))), some (.fz (.tuple (lacks.map fun l => .tuple (l.map PyData.int)))), some (.fz (lkD most mine chain counts.reverse lacks.reverse)), some (.fz (lkD most mine chain (counts ++ [0]) (lacks ++ [[]]))), some (.fz (.int ((dealsL lacks (hid most mine chain) counts).length : Nat))), some (.fz (.int ((counts.length : Int) - 1))), some (.fz (pr s)), some (.fz (.int p)), x15', x16', x17'] := by
  have chc := f.chc most mine chain counts lacks s p ok hp
  have chO := f.chc most mine chain counts.reverse lacks.reverse s (counts.length - 1 - p) ok.rev (by rw [List.length_reverse]; omega)
  have chM := f.chc most mine chain (counts ++ [0]) (lacks ++ [[]]) s p (ok.more h3) (by rw [List.length_append]; omega)
  rw [way_rev ok.cl hp, deals_rev ok.cl] at chO
  rw [way_more ok.cl hp, deals_more ok.cl] at chM
  have may := f.may most mine chain counts lacks s p ok hp
  have mayM := f.may most mine chain (counts ++ [0]) (lacks ++ [[]]) s counts.length (ok.more h3) (by rw [List.length_append]; simp)
  rw [way_last] at mayM
  have sure := f.sure most mine chain counts lacks ok
  have ins := in_su (s, p) (sureL lacks (hid most mine chain) counts)
  have ms := mem_sure (lacks := lacks) (c := counts) hs hp
  have iO : ((counts.length : Int) - 1 - (p : Int)) = ((counts.length - 1 - p : Nat) : Int) := by omega
  have iM : ((counts.length : Int) - 1 + 1) = ((counts.length : Nat) : Int) := by omega
  have wp := fun h => way_pos (most := most) (mine := mine) (chain := chain) (counts := counts) (lacks := lacks) (s := s) (p := p) h
  have dlK := fun (h : 0 < wayP lacks (hid most mine chain) counts s p) => f.dl most (srt (mine ++ [s])) chain (decr counts p) lacks (ok.less hm (wp h).1 (wp h).2.1)
  have dN := dealsL_len (lacks := lacks) (ss := (hid most mine chain)) ok.c4
  have wle := wayP_le (lacks := lacks) (s := s) (hid_nd (mine := mine) (chain := chain) ok.mo) hp
  have ai := at_int hp
  have teq := told_eq (wayP lacks (hid most mine chain) counts s p) (dealsL lacks (hid most mine chain) counts).length
  have nle : (dealsL lacks (hid most mine chain) counts).length ≤ 65536 := Nat.le_trans dN (four_le ok.hl)
  clear dN
  have cn0 : 0 ≤ counts[p]?.getD 0 := by
    rw [List.getElem?_eq_getElem hp]
    exact ok.cn _ (List.getElem_mem hp)
  have ct := cut_to (ds := counts.map PyData.int) (a := (p : Int)) (by omega) (by simp; omega)
  have cf := cut_from (ds := counts.map PyData.int) (a := (p : Int) + 1) (by omega)
  rw [show ((p : Int)).toNat = p by omega] at ct
  rw [show ((p : Int) + 1).toNat = p + 1 by omega] at cf
  have b1 := bin_cat (a := (counts.map PyData.int).take p) (b := [PyData.int (counts[p]?.getD 0 - 1)]) (by
    show _ ≤ 16777216
    simp; omega)
  have b2 := bin_cat (a := (counts.map PyData.int).take p ++ [PyData.int (counts[p]?.getD 0 - 1)]) (b := (counts.map PyData.int).drop (p + 1)) (by
    show _ ≤ 16777216
    simp; omega)
  rw [set_eq hp] at b2
  simp only [← decr.eq_1] at b2
  have b3 := bin_cat (a := prs mine) (b := [pr s]) (by
    show _ ≤ 16777216
    simp; omega)
  have b3' : prs mine ++ [pr s] = prs (mine ++ [s]) := by simp [prs]
  rw [b3'] at b3
  have st := sort_tup (mine ++ [s])
  generalize hW : wayP lacks (hid most mine chain) counts s p = W at *
  generalize hN : (dealsL lacks (hid most mine chain) counts).length = N at *
  have lkK : lkD most (srt (mine ++ [s])) chain (decr counts p) lacks = .tuple [.int most, .tuple (prs (srt (mine ++ [s]))), .tuple (prs chain), .tuple ((decr counts p).map PyData.int), .tuple (lacks.map fun l => .tuple (l.map PyData.int))] := rfl
  generalize lkD most mine chain counts lacks = LD at *
  generalize lkD most mine chain counts.reverse lacks.reverse = OD at *
  generalize lkD most mine chain (counts ++ [0]) (lacks ++ [[]]) = MD at *
  generalize (lacks.map fun l => PyData.tuple (l.map PyData.int)) = LK at *
  generalize prs (srt (mine ++ [s])) = MS at *
  generalize prs mine = MN at *
  generalize prs chain = CH at *
  generalize (counts.map PyData.int).take p = CT at *
  generalize (counts.map PyData.int).drop (p + 1) = CD at *
  generalize hC : counts.map PyData.int = CC at *
  generalize (decr counts p).map PyData.int = CE' at *
  generalize counts[p]?.getD 0 = cp at *
  generalize (sureL lacks (hid most mine chain) counts).map suD = SU at *
  have insS : inD (.tuple [pr s, .int (p : Int)]) (.tuple SU) = some (decide ((s, p) ∈ sureL lacks (hid most mine chain) counts)) := ins
  by_cases N0 : N = 0
  · have W0 : W = 0 := by omega
    have td : toldD W N = .none := by rw [W0, N0]; rfl
    rw [td] at chc chO chM teq
    refine ⟨some (.fz .none), x16, x17, .inr ?_⟩
    subst N0
    subst W0
    simp [plB, stB, lawB, bLaw, chc, chO, chM, iO, teq, may, exec_cont]
  · have Np : 0 < N := by omega
    have td : toldD W N = chD W N := if_neg N0
    have cp1 := ch_pos (w := W) Np
    have co1 := ch_one (w := W) Np
    have cc := ch_cross (w := W) (e := N)
    rw [td] at chc chO chM teq
    unfold chD at chc chO chM teq co1
    have g1 : N / Nat.gcd W N ≤ N := Nat.div_le_self _ _
    have g2 : W / Nat.gcd W N ≤ W := Nat.div_le_self _ _
    generalize W / Nat.gcd W N = A at *
    generalize N / Nat.gcd W N = B at *
    have lim1 := lim_of nle wle
    have mm1 : binD .Mult (.int (W : Int)) (.int (B : Int)) = some (.fz (.int ((W : Int) * (B : Int)))) := bin_mul (mulOk_l lim1.1 lim1.2.1)
    have mm2 : binD .Mult (.int (N : Int)) (.int (A : Int)) = some (.fz (.int ((N : Int) * (A : Int)))) := bin_mul (mulOk_l lim1.2.2.1 lim1.2.2.2)
    have N0' : ¬ ((N : Int) = 0) := by omega
    have e1 : decide ((s, p) ∈ sureL lacks (hid most mine chain) counts) = decide (W = N) := by
      rw [decide_eq_decide, ms]
      exact ⟨fun h => h.2, fun h => ⟨Np, h⟩⟩
    rw [e1] at insS
    have cp2 : decide (0 < (A : Int)) = decide (0 < W) := by rw [decide_eq_decide]; exact cp1
    rw [cc] at mm1
    generalize (N : Int) * (A : Int) = ZZ at *
    generalize (A : Int) = AI at *
    generalize (B : Int) = BI at *
    have go : exec F plB [some (.fz (scrD ns)), x1, x2, some (.fz LD), some (.fz (.int most)), some (.fz (.tuple MN)), some (.fz (.tuple CH)), some (.fz (.tuple CC)), some (.fz (.tuple LK)), some (.fz OD), some (.fz MD), some (.fz (.int (N : Nat))), some (.fz (.int ((counts.length : Int) - 1))), some (.fz (pr s)), some (.fz (.int p)), x15, x16, x17] = exec F (match plB with | .seq _ (.seq _ (.seq _ (.seq _ (.seq _ (.seq _ c))))) => c | _ => .bad) [some (.fz (scrD ns)), x1, x2, some (.fz LD), some (.fz (.int most)), some (.fz (.tuple MN)), some (.fz (.tuple CH)), some (.fz (.tuple CC)), some (.fz (.tuple LK)), some (.fz OD), some (.fz MD), some (.fz (.int (N : Nat))), some (.fz (.int ((counts.length : Int) - 1))), some (.fz (pr s)), some (.fz (.int p)), some (.fz (.tuple [.int AI, .int BI])), x16, x17] := by
      show exec F (.seq _ (.seq _ (.seq _ (.seq _ (.seq _ (.seq _ _)))))) _ = _
      refine (exec_seq (r1 := [some (.fz (scrD ns)), x1, x2, some (.fz LD), some (.fz (.int most)), some (.fz (.tuple MN)), some (.fz (.tuple CH)), some (.fz (.tuple CC)), some (.fz (.tuple LK)), some (.fz OD), some (.fz MD), some (.fz (.int (N : Nat))), some (.fz (.int ((counts.length : Int) - 1))), some (.fz (pr s)), some (.fz (.int p)), some (.fz (.tuple [.int AI, .int BI])), x16, x17]) (by simp [chc])).trans ?_
      refine (exec_seq (r1 := [some (.fz (scrD ns)), x1, x2, some (.fz LD), some (.fz (.int most)), some (.fz (.tuple MN)), some (.fz (.tuple CH)), some (.fz (.tuple CC)), some (.fz (.tuple LK)), some (.fz OD), some (.fz MD), some (.fz (.int (N : Nat))), some (.fz (.int ((counts.length : Int) - 1))), some (.fz (pr s)), some (.fz (.int p)), some (.fz (.tuple [.int AI, .int BI])), x16, x17]) (by simp [chO, chM, iO, teq])).trans ?_
      refine (exec_seq (r1 := [some (.fz (scrD ns)), x1, x2, some (.fz LD), some (.fz (.int most)), some (.fz (.tuple MN)), some (.fz (.tuple CH)), some (.fz (.tuple CC)), some (.fz (.tuple LK)), some (.fz OD), some (.fz MD), some (.fz (.int (N : Nat))), some (.fz (.int ((counts.length : Int) - 1))), some (.fz (pr s)), some (.fz (.int p)), some (.fz (.tuple [.int AI, .int BI])), x16, x17]) (by simp [N0', N0])).trans ?_
      refine (exec_seq (r1 := [some (.fz (scrD ns)), x1, x2, some (.fz LD), some (.fz (.int most)), some (.fz (.tuple MN)), some (.fz (.tuple CH)), some (.fz (.tuple CC)), some (.fz (.tuple LK)), some (.fz OD), some (.fz MD), some (.fz (.int (N : Nat))), some (.fz (.int ((counts.length : Int) - 1))), some (.fz (pr s)), some (.fz (.int p)), some (.fz (.tuple [.int AI, .int BI])), x16, x17]) (by simp [may, cp2])).trans ?_
      refine (exec_seq (r1 := [some (.fz (scrD ns)), x1, x2, some (.fz LD), some (.fz (.int most)), some (.fz (.tuple MN)), some (.fz (.tuple CH)), some (.fz (.tuple CC)), some (.fz (.tuple LK)), some (.fz OD), some (.fz MD), some (.fz (.int (N : Nat))), some (.fz (.int ((counts.length : Int) - 1))), some (.fz (pr s)), some (.fz (.int p)), some (.fz (.tuple [.int AI, .int BI])), x16, x17]) (by simp)).trans ?_
      refine (exec_seq (r1 := [some (.fz (scrD ns)), x1, x2, some (.fz LD), some (.fz (.int most)), some (.fz (.tuple MN)), some (.fz (.tuple CH)), some (.fz (.tuple CC)), some (.fz (.tuple LK)), some (.fz OD), some (.fz MD), some (.fz (.int (N : Nat))), some (.fz (.int ((counts.length : Int) - 1))), some (.fz (pr s)), some (.fz (.int p)), some (.fz (.tuple [.int AI, .int BI])), x16, x17]) (by simp [sure, insS, co1, iM, mayM])).trans ?_
      rfl
    by_cases Wp : 0 < W
    · obtain ⟨w1, w2, w3⟩ := wp Wp
      have dk := dlK Wp
      rw [w3, lkK] at dk
      have A0 : 0 < AI := cp1.mpr Wp
      refine ⟨some (.fz (.tuple [.int AI, .int BI])), some (.fz (.tuple CE')), some (.fz (.tuple [.int most, .tuple MS, .tuple CH, .tuple CE', .tuple LK])), .inl (go.trans ?_)⟩
      have inn : exec F (.seq (.set 16 (.bin .Add (.bin .Add (.slc (.var 7) .nil (.cons (.var 14) .nil)) (.tup (.cons (.bin .Sub (.idx (.var 7) (.var 14)) (.cst (.int 1))) .nil))) (.slc (.var 7) (.cons (.bin .Add (.var 14) (.cst (.int 1))) .nil) .nil))) (.seq (.set 17 (.tup (.cons (.var 4) (.cons (.blt .tuple (.cons (.blt .sorted (.cons (.bin .Add (.var 5) (.tup (.cons (.var 13) .nil))) .nil)) .nil)) (.cons (.var 6) (.cons (.var 16) (.cons (.var 8) .nil))))))) (.seq (.ite (.tval (.cmp .NotEq (.bin .Mult (.call 7 (.cons (.var 17) .nil)) (.idx (.var 15) (.cst (.int 1)))) (.bin .Mult (.var 11) (.idx (.var 15) (.cst (.int 0)))))) (.seq (.ret (.cst (.bool false))) .nil) .nil) .nil))) [some (.fz (scrD ns)), x1, x2, some (.fz LD), some (.fz (.int most)), some (.fz (.tuple MN)), some (.fz (.tuple CH)), some (.fz (.tuple CC)), some (.fz (.tuple LK)), some (.fz OD), some (.fz MD), some (.fz (.int (N : Nat))), some (.fz (.int ((counts.length : Int) - 1))), some (.fz (pr s)), some (.fz (.int p)), some (.fz (.tuple [.int AI, .int BI])), x16, x17] = .ok .nx [some (.fz (scrD ns)), x1, x2, some (.fz LD), some (.fz (.int most)), some (.fz (.tuple MN)), some (.fz (.tuple CH)), some (.fz (.tuple CC)), some (.fz (.tuple LK)), some (.fz OD), some (.fz MD), some (.fz (.int (N : Nat))), some (.fz (.int ((counts.length : Int) - 1))), some (.fz (pr s)), some (.fz (.int p)), some (.fz (.tuple [.int AI, .int BI])), some (.fz (.tuple CE')), some (.fz (.tuple [.int most, .tuple MS, .tuple CH, .tuple CE', .tuple LK]))] := by
        refine (exec_seq (r1 := [some (.fz (scrD ns)), x1, x2, some (.fz LD), some (.fz (.int most)), some (.fz (.tuple MN)), some (.fz (.tuple CH)), some (.fz (.tuple CC)), some (.fz (.tuple LK)), some (.fz OD), some (.fz MD), some (.fz (.int (N : Nat))), some (.fz (.int ((counts.length : Int) - 1))), some (.fz (pr s)), some (.fz (.int p)), some (.fz (.tuple [.int AI, .int BI])), some (.fz (.tuple CE')), x17]) (by simp [ct, cf, ai, b1, b2])).trans ?_
        refine (exec_seq (r1 := [some (.fz (scrD ns)), x1, x2, some (.fz LD), some (.fz (.int most)), some (.fz (.tuple MN)), some (.fz (.tuple CH)), some (.fz (.tuple CC)), some (.fz (.tuple LK)), some (.fz OD), some (.fz MD), some (.fz (.int (N : Nat))), some (.fz (.int ((counts.length : Int) - 1))), some (.fz (pr s)), some (.fz (.int p)), some (.fz (.tuple [.int AI, .int BI])), some (.fz (.tuple CE')), some (.fz (.tuple [.int most, .tuple MS, .tuple CH, .tuple CE', .tuple LK]))]) (by simp [b3, st])).trans ?_
        refine (exec_seq (r1 := [some (.fz (scrD ns)), x1, x2, some (.fz LD), some (.fz (.int most)), some (.fz (.tuple MN)), some (.fz (.tuple CH)), some (.fz (.tuple CC)), some (.fz (.tuple LK)), some (.fz OD), some (.fz MD), some (.fz (.int (N : Nat))), some (.fz (.int ((counts.length : Int) - 1))), some (.fz (pr s)), some (.fz (.int p)), some (.fz (.tuple [.int AI, .int BI])), some (.fz (.tuple CE')), some (.fz (.tuple [.int most, .tuple MS, .tuple CH, .tuple CE', .tuple LK]))]) (by
          have q1 : ev F (.bin .Mult (.call 7 (.cons (.var 17) .nil)) (.idx (.var 15) (.cst (.int 1)))) [some (.fz (scrD ns)), x1, x2, some (.fz LD), some (.fz (.int most)), some (.fz (.tuple MN)), some (.fz (.tuple CH)), some (.fz (.tuple CC)), some (.fz (.tuple LK)), some (.fz OD), some (.fz MD), some (.fz (.int (N : Nat))), some (.fz (.int ((counts.length : Int) - 1))), some (.fz (pr s)), some (.fz (.int p)), some (.fz (.tuple [.int AI, .int BI])), some (.fz (.tuple CE')), some (.fz (.tuple [.int most, .tuple MS, .tuple CH, .tuple CE', .tuple LK]))] = .ok (.fz (.int ZZ)) [some (.fz (scrD ns)), x1, x2, some (.fz LD), some (.fz (.int most)), some (.fz (.tuple MN)), some (.fz (.tuple CH)), some (.fz (.tuple CC)), some (.fz (.tuple LK)), some (.fz OD), some (.fz MD), some (.fz (.int (N : Nat))), some (.fz (.int ((counts.length : Int) - 1))), some (.fz (pr s)), some (.fz (.int p)), some (.fz (.tuple [.int AI, .int BI])), some (.fz (.tuple CE')), some (.fz (.tuple [.int most, .tuple MS, .tuple CH, .tuple CE', .tuple LK]))] := by simp [dk, mm1]
          have q2 : ev F (.bin .Mult (.var 11) (.idx (.var 15) (.cst (.int 0)))) [some (.fz (scrD ns)), x1, x2, some (.fz LD), some (.fz (.int most)), some (.fz (.tuple MN)), some (.fz (.tuple CH)), some (.fz (.tuple CC)), some (.fz (.tuple LK)), some (.fz OD), some (.fz MD), some (.fz (.int (N : Nat))), some (.fz (.int ((counts.length : Int) - 1))), some (.fz (pr s)), some (.fz (.int p)), some (.fz (.tuple [.int AI, .int BI])), some (.fz (.tuple CE')), some (.fz (.tuple [.int most, .tuple MS, .tuple CH, .tuple CE', .tuple LK]))] = .ok (.fz (.int ZZ)) [some (.fz (scrD ns)), x1, x2, some (.fz LD), some (.fz (.int most)), some (.fz (.tuple MN)), some (.fz (.tuple CH)), some (.fz (.tuple CC)), some (.fz (.tuple LK)), some (.fz OD), some (.fz MD), some (.fz (.int (N : Nat))), some (.fz (.int ((counts.length : Int) - 1))), some (.fz (pr s)), some (.fz (.int p)), some (.fz (.tuple [.int AI, .int BI])), some (.fz (.tuple CE')), some (.fz (.tuple [.int most, .tuple MS, .tuple CH, .tuple CE', .tuple LK]))] := by simp [mm2]
          have q3 : evT F (.tval (.cmp .NotEq (.bin .Mult (.call 7 (.cons (.var 17) .nil)) (.idx (.var 15) (.cst (.int 1)))) (.bin .Mult (.var 11) (.idx (.var 15) (.cst (.int 0)))))) [some (.fz (scrD ns)), x1, x2, some (.fz LD), some (.fz (.int most)), some (.fz (.tuple MN)), some (.fz (.tuple CH)), some (.fz (.tuple CC)), some (.fz (.tuple LK)), some (.fz OD), some (.fz MD), some (.fz (.int (N : Nat))), some (.fz (.int ((counts.length : Int) - 1))), some (.fz (pr s)), some (.fz (.int p)), some (.fz (.tuple [.int AI, .int BI])), some (.fz (.tuple CE')), some (.fz (.tuple [.int most, .tuple MS, .tuple CH, .tuple CE', .tuple LK]))] = .ok false [some (.fz (scrD ns)), x1, x2, some (.fz LD), some (.fz (.int most)), some (.fz (.tuple MN)), some (.fz (.tuple CH)), some (.fz (.tuple CC)), some (.fz (.tuple LK)), some (.fz OD), some (.fz MD), some (.fz (.int (N : Nat))), some (.fz (.int ((counts.length : Int) - 1))), some (.fz (pr s)), some (.fz (.int p)), some (.fz (.tuple [.int AI, .int BI])), some (.fz (.tuple CE')), some (.fz (.tuple [.int most, .tuple MS, .tuple CH, .tuple CE', .tuple LK]))] := by
            rw [evT_tval, mkO_cmp, ev_cmp, op2, mkO_bin, q1, bnd_ok, bnd_ok, mkO_bin, q2]
            simp
          rw [exec_ite, q3, bnd_ok, if_neg (by decide), exec_nil])).trans ?_
        exact exec_nil _
      show exec F (.seq (.ite (.tval (.cmp .Gt (.idx (.var 15) (.cst (.int 0))) (.cst (.int 0)))) (.seq (.set 16 (.bin .Add (.bin .Add (.slc (.var 7) .nil (.cons (.var 14) .nil)) (.tup (.cons (.bin .Sub (.idx (.var 7) (.var 14)) (.cst (.int 1))) .nil))) (.slc (.var 7) (.cons (.bin .Add (.var 14) (.cst (.int 1))) .nil) .nil))) (.seq (.set 17 (.tup (.cons (.var 4) (.cons (.blt .tuple (.cons (.blt .sorted (.cons (.bin .Add (.var 5) (.tup (.cons (.var 13) .nil))) .nil)) .nil)) (.cons (.var 6) (.cons (.var 16) (.cons (.var 8) .nil))))))) (.seq (.ite (.tval (.cmp .NotEq (.bin .Mult (.call 7 (.cons (.var 17) .nil)) (.idx (.var 15) (.cst (.int 1)))) (.bin .Mult (.var 11) (.idx (.var 15) (.cst (.int 0)))))) (.seq (.ret (.cst (.bool false))) .nil) .nil) .nil))) .nil) .nil) _ = _
      refine (exec_seq (r1 := [some (.fz (scrD ns)), x1, x2, some (.fz LD), some (.fz (.int most)), some (.fz (.tuple MN)), some (.fz (.tuple CH)), some (.fz (.tuple CC)), some (.fz (.tuple LK)), some (.fz OD), some (.fz MD), some (.fz (.int (N : Nat))), some (.fz (.int ((counts.length : Int) - 1))), some (.fz (pr s)), some (.fz (.int p)), some (.fz (.tuple [.int AI, .int BI])), some (.fz (.tuple CE')), some (.fz (.tuple [.int most, .tuple MS, .tuple CH, .tuple CE', .tuple LK]))]) ?_).trans (exec_nil _)
      rw [exec_ite]
      have tt : evT F (.tval (.cmp .Gt (.idx (.var 15) (.cst (.int 0))) (.cst (.int 0)))) [some (.fz (scrD ns)), x1, x2, some (.fz LD), some (.fz (.int most)), some (.fz (.tuple MN)), some (.fz (.tuple CH)), some (.fz (.tuple CC)), some (.fz (.tuple LK)), some (.fz OD), some (.fz MD), some (.fz (.int (N : Nat))), some (.fz (.int ((counts.length : Int) - 1))), some (.fz (pr s)), some (.fz (.int p)), some (.fz (.tuple [.int AI, .int BI])), x16, x17] = .ok true [some (.fz (scrD ns)), x1, x2, some (.fz LD), some (.fz (.int most)), some (.fz (.tuple MN)), some (.fz (.tuple CH)), some (.fz (.tuple CC)), some (.fz (.tuple LK)), some (.fz OD), some (.fz MD), some (.fz (.int (N : Nat))), some (.fz (.int ((counts.length : Int) - 1))), some (.fz (pr s)), some (.fz (.int p)), some (.fz (.tuple [.int AI, .int BI])), x16, x17] := by simp [A0]
      rw [tt, bnd_ok, if_pos rfl, inn]
    · have A0 : ¬ (0 < AI) := fun h => Wp (cp1.mp h)
      refine ⟨some (.fz (.tuple [.int AI, .int BI])), x16, x17, .inl (go.trans ?_)⟩
      simp [plB, stB, lawB, bLaw, A0]
theorem pls_ok (F : Fs) (ns : List Int) (f : FF F ns) {most : Int} {mine chain : List (Int × Int)} {counts : List Int} {lacks : List (List Int)} (ok : Lk4 most mine chain counts lacks) (h3 : counts.length ≤ 3) (hm : mine.length ≤ 500) {x1 x2 x14 x15 x16 x17 : Option Val} {s : Int × Int} (hs : s ∈ (hid most mine chain)) :
    ∃ x14' x15' x16' x17', exec F stB [some (.fz (scrD ns)), x1, x2, some (.fz (lkD most mine chain counts lacks)), some (.fz (.int most)), some (.fz (.tuple (prs mine))), some (.fz (.tuple (prs chain))), some (.fz (.tuple (counts.map PyData.int))), some (.fz (.tuple (lacks.map fun l => .tuple (l.map PyData.int)))), some (.fz (lkD most mine chain counts.reverse lacks.reverse)), some (.fz (lkD most mine chain (counts ++ [0]) (lacks ++ [[]]))), some (.fz (.int ((dealsL lacks (hid most mine chain) counts).length : Nat))), some (.fz (.int ((counts.length : Int) - 1))), some (.fz (pr s)), x14, x15, x16, x17] = .ok .nx [some (.fz (scrD ns)), x1, x2, some (.fz (lkD most mine chain counts lacks)), some (.fz (.int most)), some (.fz (.tuple (prs mine))), some (.fz (.tuple (prs chain))), some (.fz (.tuple (counts.map PyData.int))), some (.fz (.tuple (lacks.map fun l => .tuple (l.map PyData.int)))), some (.fz (lkD most mine chain counts.reverse lacks.reverse)), some (.fz (lkD most mine chain (counts ++ [0]) (lacks ++ [[]]))), some (.fz (.int ((dealsL lacks (hid most mine chain) counts).length : Nat))), some (.fz (.int ((counts.length : Int) - 1))), some (.fz (pr s)), x14', x15', x16', x17'] := by
  have rg : rngD [.int (counts.length : Int)] = some ((List.range counts.length).map fun (i : Nat) => PyData.int i) := by
    have := rng1 (n := (counts.length : Int)) (by omega) (by omega)
    simpa using this
  obtain ⟨r', e1, x14', x15', x16', x17', rfl⟩ := for_inv (tup := false) (tg := [14]) (body := exec F plB)
    (fun j r => ∃ x14 x15 x16 x17, r = [some (.fz (scrD ns)), x1, x2, some (.fz (lkD most mine chain counts lacks)), some (.fz (.int most)), some (.fz (.tuple (prs mine))), some (.fz (.tuple (prs chain))), some (.fz (.tuple (counts.map PyData.int))), some (.fz (.tuple (lacks.map fun l => .tuple (l.map PyData.int)))), some (.fz (lkD most mine chain counts.reverse lacks.reverse)), some (.fz (lkD most mine chain (counts ++ [0]) (lacks ++ [[]]))), some (.fz (.int ((dealsL lacks (hid most mine chain) counts).length : Nat))), some (.fz (.int ((counts.length : Int) - 1))), some (.fz (pr s)), x14, x15, x16, x17])
    ((List.range counts.length).map fun (i : Nat) => PyData.int i) 0 [some (.fz (scrD ns)), x1, x2, some (.fz (lkD most mine chain counts lacks)), some (.fz (.int most)), some (.fz (.tuple (prs mine))), some (.fz (.tuple (prs chain))), some (.fz (.tuple (counts.map PyData.int))), some (.fz (.tuple (lacks.map fun l => .tuple (l.map PyData.int)))), some (.fz (lkD most mine chain counts.reverse lacks.reverse)), some (.fz (lkD most mine chain (counts ++ [0]) (lacks ++ [[]]))), some (.fz (.int ((dealsL lacks (hid most mine chain) counts).length : Nat))), some (.fz (.int ((counts.length : Int) - 1))), some (.fz (pr s)), x14, x15, x16, x17] ⟨x14, x15, x16, x17, rfl⟩ (fun j d r hd hi => by
      obtain ⟨y14, y15, y16, y17, rfl⟩ := hi
      obtain ⟨hj, rfl⟩ := range_item hd
      obtain ⟨z15, z16, z17, e⟩ := pl_step F ns f ok h3 hm (x1 := x1) (x2 := x2) (x15 := y15) (x16 := y16) (x17 := y17) hs hj
      exact ⟨_, _, rfl, e, some (.fz (.int j)), z15, z16, z17, rfl⟩)
  refine ⟨x14', x15', x16', x17', ?_⟩
  have ln : lenD (.tuple (counts.map PyData.int)) = some counts.length := by
    show some (counts.map PyData.int).length = _
    rw [List.length_map]
  show exec F (.seq (.forS false [14] (.rng (.cons (.blt .len (.cons (.var 7) .nil)) .nil)) plB) .nil) _ = _
  simp [rg, e1, ln]
theorem lawB_eq : lawB = .seq (.set 2 (.bin .Add (.call 11 (.cons (.var 0) (.cons (.bin .Mod (.var 1) (.cst (.int 9))) .nil))) (.bin .Mult (.cst (.int 37)) (.var 1)))) (.seq (.set 3 (.call 15 (.cons (.var 2) (.cons (.cst (.int 7)) .nil)))) (.seq (.unp [4, 5, 6, 7, 8] (.var 3)) (.seq (.set 9 (.tup (.cons (.var 4) (.cons (.var 5) (.cons (.var 6) (.cons (.rev (.var 7)) (.cons (.rev (.var 8)) .nil))))))) (.seq (.set 10 (.tup (.cons (.var 4) (.cons (.var 5) (.cons (.var 6) (.cons (.bin .Add (.var 7) (.tup (.cons (.cst (.int 0)) .nil))) (.cons (.bin .Add (.var 8) (.tup (.cons (.tup .nil) .nil))) .nil))))))) (.seq (.unp [11, 12] (.tup (.cons (.call 7 (.cons (.var 3) .nil)) (.cons (.bin .Sub (.blt .len (.cons (.var 7) .nil)) (.cst (.int 1))) .nil)))) (.seq (.ite (.tor (.tval (.cmp .NotEq (.call 7 (.cons (.var 9) .nil)) (.var 11))) (.tor (.tval (.cmp .NotEq (.call 7 (.cons (.var 10) .nil)) (.var 11))) (.tval (.cmp .NotEq (.call 2 (.cons (.var 9) .nil)) (.call 2 (.cons (.var 3) .nil)))))) (.seq (.ret (.cst (.bool false))) .nil) .nil) (.seq (.ite (.tval (.cmp .NotEq (.blt .sorted (.cons (.call 10 (.cons (.var 9) .nil)) .nil)) (.blt .sorted (.cons (.lc true [13, 14] (.itr (.call 10 (.cons (.var 3) .nil))) (.tval (.cst (.bool true))) (.tup (.cons (.var 13) (.cons (.bin .Sub (.var 12) (.var 14)) .nil)))) .nil)))) (.seq (.ret (.cst (.bool false))) .nil) .nil) (.seq (.ite (.tval (.cmp .NotEq (.call 10 (.cons (.var 10) .nil)) (.call 10 (.cons (.var 3) .nil)))) (.seq (.ret (.cst (.bool false))) .nil) .nil) (.seq (.forS false [13] (.itr (.call 2 (.cons (.var 3) .nil))) stB) .nil))))))))) := rfl
/-- the stone, and the place from the other side -/
def turnS (last : Int) : PyData → Option PyData
  | .tuple [a, .int q] => some (.tuple [a, .int (last - q)])
  | _ => none
theorem fm_turnS {L : Nat} : ∀ D : List ((Int × Int) × Nat), (∀ x ∈ D, x.2 < L) → (D.map suD).filterMap (turnS ((L : Int) - 1)) = (D.map fun x => (x.1, L - 1 - x.2)).map suD
  | [], _ => rfl
  | x :: D, h => by
    have ih := fm_turnS D fun y hy => h y (List.mem_cons_of_mem _ hy)
    have hx := h x List.mem_cons_self
    rw [List.map_cons, List.filterMap_cons_some (b := suD (x.1, L - 1 - x.2)), ih]
    · rfl
    · show some (PyData.tuple [pr x.1, .int ((L : Int) - 1 - (x.2 : Int))]) = some (PyData.tuple [pr x.1, .int (((L - 1 - x.2 : Nat)) : Int)])
      rw [show (L : Int) - 1 - (x.2 : Int) = ((L - 1 - x.2 : Nat) : Int) by omega]
theorem sure_lt {lacks : List (List Int)} {ss : List (Int × Int)} {c : List Int} : ∀ x ∈ sureL lacks ss c, x.2 < c.length := fun x hx => by
  unfold sureL at hx
  rw [List.mem_flatMap] at hx
  obtain ⟨s, _, hx⟩ := hx
  obtain ⟨p, hp, rfl⟩ := List.mem_map.mp hx
  have := (List.mem_filter.mp hp).1
  simpa using this
theorem law_step (F : Fs) (ns : List Int) (f : FF F ns) {k : Nat} (hk : k < 10) (x2 x3 x4 x5 x6 x7 x8 x9 x10 x11 x12 x13 x14 x15 x16 x17 : Option Val) : Nx F lawB [some (.fz (scrD ns)), some (.fz (.int k)), x2, x3, x4, x5, x6, x7, x8, x9, x10, x11, x12, x13, x14, x15, x16, x17] (fun r => ∃ x1 x2 x3 x4 x5 x6 x7 x8 x9 x10 x11 x12 x13 x14 x15 x16 x17, r = [some (.fz (scrD ns)), x1, x2, x3, x4, x5, x6, x7, x8, x9, x10, x11, x12, x13, x14, x15, x16, x17]) := by
  have md : binD .Mod (.int (k : Int)) (.int 9) = some (.fz (.int (k % 9))) := bin_mod (by omega)
  have rc := f.cel ((k : Int) % 9) (by omega)
  have mm : binD .Mult (.int 37) (.int (k : Int)) = some (.fz (.int (37 * k))) := bin_mul (mulOk_l (by omega) (by omega))
  generalize hc : cell ns ((k : Int) % 9) = c0 at *
  generalize hk2 : (k : Int) % 9 = k9 at *
  obtain ⟨most, mine, chain, counts, lacks, e1, ok7⟩ := f.look (c0 + 37 * k)
  have ok := ok7.l4 (by omega)
  have hm := ok7.mi
  have h3 := ok7.c3.2
  have nd := hid_nd (mine := mine) (chain := chain) ok.mo
  have d1 := f.dl most mine chain counts lacks ok
  have d2 := f.dl most mine chain counts.reverse lacks.reverse ok.rev
  have d3 := f.dl most mine chain (counts ++ [0]) (lacks ++ [[]]) (ok.more h3)
  rw [deals_rev ok.cl] at d2
  rw [deals_more ok.cl] at d3
  have h1 := f.hd most mine chain counts lacks ok
  have h2 := f.hd most mine chain counts.reverse lacks.reverse ok.rev
  have s1 := f.sure most mine chain counts lacks ok
  have s2 := f.sure most mine chain counts.reverse lacks.reverse ok.rev
  have s3 := f.sure most mine chain (counts ++ [0]) (lacks ++ [[]]) (ok.more h3)
  rw [sure_rev ok.cl nd] at s2
  rw [sure_more ok.cl] at s3
  have ep : eqD (.tuple (prs (hid most mine chain))) (.tuple (prs (hid most mine chain))) = some true := by rw [eqD_prs, decide_eq_true rfl]
  have es := su_eq (sureL lacks (hid most mine chain) counts)
  obtain ⟨SS, so1, so2, so3⟩ := sort_su ((sureL lacks (hid most mine chain) counts).map fun x => (x.1, counts.length - 1 - x.2))
  have ln : lenD (.tuple (counts.map PyData.int)) = some counts.length := by
    show some (counts.map PyData.int).length = _
    rw [List.length_map]
  have lO : lkD most mine chain counts.reverse lacks.reverse = .tuple [.int most, .tuple (prs mine), .tuple (prs chain), .tuple (counts.map PyData.int).reverse, .tuple (lacks.map fun l => PyData.tuple (l.map PyData.int)).reverse] := by
    unfold lkD
    rw [List.map_reverse, List.map_reverse]
  have lM : lkD most mine chain (counts ++ [0]) (lacks ++ [[]]) = .tuple [.int most, .tuple (prs mine), .tuple (prs chain), .tuple ((counts.map PyData.int) ++ [.int 0]), .tuple ((lacks.map fun l => PyData.tuple (l.map PyData.int)) ++ [.tuple []])] := by
    unfold lkD
    rw [List.map_append, List.map_append]
    rfl
  have bc1 := bin_cat (a := counts.map PyData.int) (b := [.int 0]) (by show _ ≤ 16777216; simp; omega)
  have bc2 := bin_cat (a := lacks.map fun l => PyData.tuple (l.map PyData.int)) (b := [.tuple []]) (by show _ ≤ 16777216; have := ok.cl; simp; omega)
  have ft := fm_turnS (L := counts.length) (sureL lacks (hid most mine chain) counts) sure_lt
  generalize ((sureL lacks (hid most mine chain) counts).map fun x => (x.1, counts.length - 1 - x.2)) = D2 at *
  have lu : lkD most mine chain counts lacks = .tuple [.int most, .tuple (prs mine), .tuple (prs chain), .tuple (counts.map PyData.int), .tuple (lacks.map fun l => PyData.tuple (l.map PyData.int))] := rfl
  rw [lawB_eq]
  refine nx_seq [some (.fz (scrD ns)), some (.fz (.int k)), some (.fz (.int (c0 + 37 * k))), x3, x4, x5, x6, x7, x8, x9, x10, x11, x12, x13, x14, x15, x16, x17] (by simp [md, rc, mm]) ?_
  generalize c0 + 37 * (k : Int) = c1 at *
  refine nx_seq [some (.fz (scrD ns)), some (.fz (.int k)), some (.fz (.int c1)), some (.fz (lkD most mine chain counts lacks)), x4, x5, x6, x7, x8, x9, x10, x11, x12, x13, x14, x15, x16, x17] (by simp [e1]) ?_
  refine nx_seq [some (.fz (scrD ns)), some (.fz (.int k)), some (.fz (.int c1)), some (.fz (lkD most mine chain counts lacks)), some (.fz (.int most)), some (.fz (.tuple (prs mine))), some (.fz (.tuple (prs chain))), some (.fz (.tuple (counts.map PyData.int))), some (.fz (.tuple (lacks.map fun l => .tuple (l.map PyData.int)))), x9, x10, x11, x12, x13, x14, x15, x16, x17] (by simp [lu]) ?_
  refine nx_seq [some (.fz (scrD ns)), some (.fz (.int k)), some (.fz (.int c1)), some (.fz (lkD most mine chain counts lacks)), some (.fz (.int most)), some (.fz (.tuple (prs mine))), some (.fz (.tuple (prs chain))), some (.fz (.tuple (counts.map PyData.int))), some (.fz (.tuple (lacks.map fun l => .tuple (l.map PyData.int)))), some (.fz (lkD most mine chain counts.reverse lacks.reverse)), x10, x11, x12, x13, x14, x15, x16, x17] (by simp [lO]) ?_
  refine nx_seq [some (.fz (scrD ns)), some (.fz (.int k)), some (.fz (.int c1)), some (.fz (lkD most mine chain counts lacks)), some (.fz (.int most)), some (.fz (.tuple (prs mine))), some (.fz (.tuple (prs chain))), some (.fz (.tuple (counts.map PyData.int))), some (.fz (.tuple (lacks.map fun l => .tuple (l.map PyData.int)))), some (.fz (lkD most mine chain counts.reverse lacks.reverse)), some (.fz (lkD most mine chain (counts ++ [0]) (lacks ++ [[]]))), x11, x12, x13, x14, x15, x16, x17] (by simp [lM, bc1, bc2]) ?_
  refine nx_seq [some (.fz (scrD ns)), some (.fz (.int k)), some (.fz (.int c1)), some (.fz (lkD most mine chain counts lacks)), some (.fz (.int most)), some (.fz (.tuple (prs mine))), some (.fz (.tuple (prs chain))), some (.fz (.tuple (counts.map PyData.int))), some (.fz (.tuple (lacks.map fun l => .tuple (l.map PyData.int)))), some (.fz (lkD most mine chain counts.reverse lacks.reverse)), some (.fz (lkD most mine chain (counts ++ [0]) (lacks ++ [[]]))), some (.fz (.int ((dealsL lacks (hid most mine chain) counts).length : Nat))), some (.fz (.int ((counts.length : Int) - 1))), x13, x14, x15, x16, x17] (by simp [d1, ln]) ?_
  refine nx_seq [some (.fz (scrD ns)), some (.fz (.int k)), some (.fz (.int c1)), some (.fz (lkD most mine chain counts lacks)), some (.fz (.int most)), some (.fz (.tuple (prs mine))), some (.fz (.tuple (prs chain))), some (.fz (.tuple (counts.map PyData.int))), some (.fz (.tuple (lacks.map fun l => .tuple (l.map PyData.int)))), some (.fz (lkD most mine chain counts.reverse lacks.reverse)), some (.fz (lkD most mine chain (counts ++ [0]) (lacks ++ [[]]))), some (.fz (.int ((dealsL lacks (hid most mine chain) counts).length : Nat))), some (.fz (.int ((counts.length : Int) - 1))), x13, x14, x15, x16, x17] (by simp [d1, d2, d3, h1, h2, ep]) ?_
  refine nx_seq [some (.fz (scrD ns)), some (.fz (.int k)), some (.fz (.int c1)), some (.fz (lkD most mine chain counts lacks)), some (.fz (.int most)), some (.fz (.tuple (prs mine))), some (.fz (.tuple (prs chain))), some (.fz (.tuple (counts.map PyData.int))), some (.fz (.tuple (lacks.map fun l => .tuple (l.map PyData.int)))), some (.fz (lkD most mine chain counts.reverse lacks.reverse)), some (.fz (lkD most mine chain (counts ++ [0]) (lacks ++ [[]]))), some (.fz (.int ((dealsL lacks (hid most mine chain) counts).length : Nat))), some (.fz (.int ((counts.length : Int) - 1))), x13, x14, x15, x16, x17] (by
    have lp := fun h => lc_go (tup := true) (tg := [13, 14]) (hid := h) (c := evT F (.tval (.cst (.bool true)))) (e := ev F (.tup (.cons (.var 13) (.cons (.bin .Sub (.var 12) (.var 14)) .nil)))) (r := [some (.fz (scrD ns)), some (.fz (.int k)), some (.fz (.int c1)), some (.fz (lkD most mine chain counts lacks)), some (.fz (.int most)), some (.fz (.tuple (prs mine))), some (.fz (.tuple (prs chain))), some (.fz (.tuple (counts.map PyData.int))), some (.fz (.tuple (lacks.map fun l => .tuple (l.map PyData.int)))), some (.fz (lkD most mine chain counts.reverse lacks.reverse)), some (.fz (lkD most mine chain (counts ++ [0]) (lacks ++ [[]]))), some (.fz (.int ((dealsL lacks (hid most mine chain) counts).length : Nat))), some (.fz (.int ((counts.length : Int) - 1))), none, none, x15, x16, x17]) (f := turnS ((counts.length : Int) - 1)) ((sureL lacks (hid most mine chain) counts).map suD) [] (fun d hd => by
      obtain ⟨x, _, rfl⟩ := List.mem_map.mp hd
      unfold suD
      rw [itemO_two]
      simp [turnS])
    rw [ft, List.nil_append] at lp
    simp [s1, s2, lp, so1, so2, so3]) ?_
  refine nx_seq [some (.fz (scrD ns)), some (.fz (.int k)), some (.fz (.int c1)), some (.fz (lkD most mine chain counts lacks)), some (.fz (.int most)), some (.fz (.tuple (prs mine))), some (.fz (.tuple (prs chain))), some (.fz (.tuple (counts.map PyData.int))), some (.fz (.tuple (lacks.map fun l => .tuple (l.map PyData.int)))), some (.fz (lkD most mine chain counts.reverse lacks.reverse)), some (.fz (lkD most mine chain (counts ++ [0]) (lacks ++ [[]]))), some (.fz (.int ((dealsL lacks (hid most mine chain) counts).length : Nat))), some (.fz (.int ((counts.length : Int) - 1))), x13, x14, x15, x16, x17] (by simp [s1, s3, es]) ?_
  refine nx_for (body := stB) (I := fun j r => ∃ x13 x14 x15 x16 x17, r = [some (.fz (scrD ns)), some (.fz (.int k)), some (.fz (.int c1)), some (.fz (lkD most mine chain counts lacks)), some (.fz (.int most)), some (.fz (.tuple (prs mine))), some (.fz (.tuple (prs chain))), some (.fz (.tuple (counts.map PyData.int))), some (.fz (.tuple (lacks.map fun l => .tuple (l.map PyData.int)))), some (.fz (lkD most mine chain counts.reverse lacks.reverse)), some (.fz (lkD most mine chain (counts ++ [0]) (lacks ++ [[]]))), some (.fz (.int ((dealsL lacks (hid most mine chain) counts).length : Nat))), some (.fz (.int ((counts.length : Int) - 1))), x13, x14, x15, x16, x17]) (ds := prs (hid most mine chain)) (r0 := [some (.fz (scrD ns)), some (.fz (.int k)), some (.fz (.int c1)), some (.fz (lkD most mine chain counts lacks)), some (.fz (.int most)), some (.fz (.tuple (prs mine))), some (.fz (.tuple (prs chain))), some (.fz (.tuple (counts.map PyData.int))), some (.fz (.tuple (lacks.map fun l => .tuple (l.map PyData.int)))), some (.fz (lkD most mine chain counts.reverse lacks.reverse)), some (.fz (lkD most mine chain (counts ++ [0]) (lacks ++ [[]]))), some (.fz (.int ((dealsL lacks (hid most mine chain) counts).length : Nat))), some (.fz (.int ((counts.length : Int) - 1))), x13, x14, x15, x16, x17]) (by simp [h1]) ⟨x13, x14, x15, x16, x17, rfl⟩ ?_ ?_
  · intro j d r hd hi
    obtain ⟨y13, y14, y15, y16, y17, rfl⟩ := hi
    have hd2 := List.mem_of_getElem? hd
    obtain ⟨s, hs, rfl⟩ := List.mem_map.mp hd2
    obtain ⟨z14, z15, z16, z17, e⟩ := pls_ok F ns f ok h3 hm (x1 := some (.fz (.int k))) (x2 := some (.fz (.int c1))) (x14 := y14) (x15 := y15) (x16 := y16) (x17 := y17) hs
    exact ⟨_, rfl, _, e, some (.fz (pr s)), z14, z15, z16, z17, rfl⟩
  · rintro r' ⟨y13, y14, y15, y16, y17, rfl⟩
    exact nx_nil ⟨_, _, _, _, _, _, _, _, _, _, _, _, _, _, _, _, _, rfl⟩
theorem law_ok {n : Nat} (ns : List Int) : run tab (n + 13) 17 [scrD ns] = .ret (.fz (.bool true)) := by
  rw [run_def (fd := ⟨1, 18, bLaw⟩) rfl rfl]
  have fa := ff (n := n) ns
  show fin (exec (run tab (n + 12)) (.seq (.forS false [1] (.rng (.cons (.cst (.int 10)) .nil)) lawB) (.seq (.ret (.cst (.bool true))) .nil)) [some (.fz (scrD ns)), none, none, none, none, none, none, none, none, none, none, none, none, none, none, none, none, none]) = _
  generalize run tab (n + 12) = F at *
  refine fn_for (I := fun _ r => ∃ x1 x2 x3 x4 x5 x6 x7 x8 x9 x10 x11 x12 x13 x14 x15 x16 x17, r = [some (.fz (scrD ns)), x1, x2, x3, x4, x5, x6, x7, x8, x9, x10, x11, x12, x13, x14, x15, x16, x17]) (ds := (List.range 10).map fun (j : Nat) => PyData.int j) (r0 := [some (.fz (scrD ns)), none, none, none, none, none, none, none, none, none, none, none, none, none, none, none, none, none]) ?_ ⟨_, _, _, _, _, _, _, _, _, _, _, _, _, _, _, _, _, rfl⟩ ?_ ?_
  · have rg : rngD [.int 10] = some ((List.range 10).map fun (i : Nat) => PyData.int i) := rng1 (by omega) (by omega)
    simp [rg]
  · intro k d r hd hi
    obtain ⟨x1, x2, x3, x4, x5, x6, x7, x8, x9, x10, x11, x12, x13, x14, x15, x16, x17, rfl⟩ := hi
    obtain ⟨hk, rfl⟩ := range_item hd
    exact ⟨_, rfl, law_step F ns fa hk ..⟩
  · rintro r' ⟨x1, x2, x3, x4, x5, x6, x7, x8, x9, x10, x11, x12, x13, x14, x15, x16, x17, rfl⟩
    simp
end K24
end SC

set_option Elab.async false
set_option maxRecDepth 100000
set_option maxHeartbeats 4000000
namespace SC
namespace K24
open PySem L2
theorem tab_ok {K : PySem.W.Frag} {h : Heap} {mg : Str → Option Value} (X : K.In h) (G : h.Ns mainGlobals mg) {f0 f1 f2 f3 f4 f5 f6 f7 f8 f9 f10 f11 f12 f13 f14 f15 f16 f17 : Addr}
    {od0 an0 od1 an1 od2 an2 od3 an3 od4 an4 od5 an5 od6 an6 od7 an7 od8 an8 od9 an9 od10 an10 od11 an11 od12 an12 od13 an13 od14 an14 od15 an15 od16 an16 od17 an17 : Option Addr} {sl0 sl1 sl2 sl3 sl4 sl5 sl6 sl7 sl8 sl9 sl10 sl11 sl12 sl13 sl14 sl15 sl16 sl17 : Array (Option Value)} {oc0 kV0 dc0 pm0 cd0 ct0 oc1 kV1 dc1 pm1 cd1 ct1 oc2 kV2 dc2 pm2 cd2 ct2 oc3 kV3 dc3 pm3 cd3 ct3 oc4 kV4 dc4 pm4 cd4 ct4 oc5 kV5 dc5 pm5 cd5 ct5 oc6 kV6 dc6 pm6 cd6 ct6 oc7 kV7 dc7 pm7 cd7 ct7 oc8 kV8 dc8 pm8 cd8 ct8 oc9 kV9 dc9 pm9 cd9 ct9 oc10 kV10 dc10 pm10 cd10 ct10 oc11 kV11 dc11 pm11 cd11 ct11 oc12 kV12 dc12 pm12 cd12 ct12 oc13 kV13 dc13 pm13 cd13 ct13 oc14 kV14 dc14 pm14 cd14 ct14 oc15 kV15 dc15 pm15 cd15 ct15 oc16 kV16 dc16 pm16 cd16 ct16 oc17 kV17 dc17 pm17 cd17 ct17 : Value}
    (a0 : PySem.W.nsIn K mainGlobals "all_stones" = some (some (.ref f0))) (l0 : K.lookup f0 = some ⟨oc0, od0, .func (PySem.W.fnOf "all_stones" "all_stones" (defArgs (top 4)) (defBody (top 4)) (defScope (top 4)) .none kV0 dc0 pm0 an0 cd0 ct0), sl0⟩) (c0 : PySem.W.codeIn K cd0 "all_stones" = true) (k0 : PySem.W.keepIn K (.ref f0) = true)
    (a1 : PySem.W.nsIn K mainGlobals "stone_of" = some (some (.ref f1))) (l1 : K.lookup f1 = some ⟨oc1, od1, .func (PySem.W.fnOf "stone_of" "stone_of" (defArgs (top 5)) (defBody (top 5)) (defScope (top 5)) .none kV1 dc1 pm1 an1 cd1 ct1), sl1⟩) (c1 : PySem.W.codeIn K cd1 "stone_of" = true) (k1 : PySem.W.keepIn K (.ref f1) = true)
    (a2 : PySem.W.nsIn K mainGlobals "hidden" = some (some (.ref f2))) (l2 : K.lookup f2 = some ⟨oc2, od2, .func (PySem.W.fnOf "hidden" "hidden" (defArgs (top 7)) (defBody (top 7)) (defScope (top 7)) .none kV2 dc2 pm2 an2 cd2 ct2), sl2⟩) (c2 : PySem.W.codeIn K cd2 "hidden" = true) (k2 : PySem.W.keepIn K (.ref f2) = true)
    (a3 : PySem.W.nsIn K mainGlobals "may_lie" = some (some (.ref f3))) (l3 : K.lookup f3 = some ⟨oc3, od3, .func (PySem.W.fnOf "may_lie" "may_lie" (defArgs (top 8)) (defBody (top 8)) (defScope (top 8)) .none kV3 dc3 pm3 an3 cd3 ct3), sl3⟩) (c3 : PySem.W.codeIn K cd3 "may_lie" = true) (k3 : PySem.W.keepIn K (.ref f3) = true)
    (a4 : PySem.W.nsIn K mainGlobals "ways" = some (some (.ref f4))) (l4 : K.lookup f4 = some ⟨oc4, od4, .func (PySem.W.fnOf "ways" "ways" (defArgs (top 9)) (defBody (top 9)) (defScope (top 9)) .none kV4 dc4 pm4 an4 cd4 ct4), sl4⟩) (c4 : PySem.W.codeIn K cd4 "ways" = true) (k4 : PySem.W.keepIn K (.ref f4) = true)
    (a5 : PySem.W.nsIn K mainGlobals "ways_with" = some (some (.ref f5))) (l5 : K.lookup f5 = some ⟨oc5, od5, .func (PySem.W.fnOf "ways_with" "ways_with" (defArgs (top 10)) (defBody (top 10)) (defScope (top 10)) .none kV5 dc5 pm5 an5 cd5 ct5), sl5⟩) (c5 : PySem.W.codeIn K cd5 "ways_with" = true) (k5 : PySem.W.keepIn K (.ref f5) = true)
    (a6 : PySem.W.nsIn K mainGlobals "may_have" = some (some (.ref f6))) (l6 : K.lookup f6 = some ⟨oc6, od6, .func (PySem.W.fnOf "may_have" "may_have" (defArgs (top 11)) (defBody (top 11)) (defScope (top 11)) .none kV6 dc6 pm6 an6 cd6 ct6), sl6⟩) (c6 : PySem.W.codeIn K cd6 "may_have" = true) (k6 : PySem.W.keepIn K (.ref f6) = true)
    (a7 : PySem.W.nsIn K mainGlobals "deals" = some (some (.ref f7))) (l7 : K.lookup f7 = some ⟨oc7, od7, .func (PySem.W.fnOf "deals" "deals" (defArgs (top 12)) (defBody (top 12)) (defScope (top 12)) .none kV7 dc7 pm7 an7 cd7 ct7), sl7⟩) (c7 : PySem.W.codeIn K cd7 "deals" = true) (k7 : PySem.W.keepIn K (.ref f7) = true)
    (a8 : PySem.W.nsIn K mainGlobals "common" = some (some (.ref f8))) (l8 : K.lookup f8 = some ⟨oc8, od8, .func (PySem.W.fnOf "common" "common" (defArgs (top 13)) (defBody (top 13)) (defScope (top 13)) .none kV8 dc8 pm8 an8 cd8 ct8), sl8⟩) (c8 : PySem.W.codeIn K cd8 "common" = true) (k8 : PySem.W.keepIn K (.ref f8) = true)
    (a9 : PySem.W.nsIn K mainGlobals "chance" = some (some (.ref f9))) (l9 : K.lookup f9 = some ⟨oc9, od9, .func (PySem.W.fnOf "chance" "chance" (defArgs (top 14)) (defBody (top 14)) (defScope (top 14)) .none kV9 dc9 pm9 an9 cd9 ct9), sl9⟩) (c9 : PySem.W.codeIn K cd9 "chance" = true) (k9 : PySem.W.keepIn K (.ref f9) = true)
    (a10 : PySem.W.nsIn K mainGlobals "sure" = some (some (.ref f10))) (l10 : K.lookup f10 = some ⟨oc10, od10, .func (PySem.W.fnOf "sure" "sure" (defArgs (top 15)) (defBody (top 15)) (defScope (top 15)) .none kV10 dc10 pm10 an10 cd10 ct10), sl10⟩) (c10 : PySem.W.codeIn K cd10 "sure" = true) (k10 : PySem.W.keepIn K (.ref f10) = true)
    (a11 : PySem.W.nsIn K mainGlobals "_law_cell" = some (some (.ref f11))) (l11 : K.lookup f11 = some ⟨oc11, od11, .func (PySem.W.fnOf "_law_cell" "_law_cell" (defArgs (top 17)) (defBody (top 17)) (defScope (top 17)) .none kV11 dc11 pm11 an11 cd11 ct11), sl11⟩) (c11 : PySem.W.codeIn K cd11 "_law_cell" = true) (k11 : PySem.W.keepIn K (.ref f11) = true)
    (a12 : PySem.W.nsIn K mainGlobals "_law_mix" = some (some (.ref f12))) (l12 : K.lookup f12 = some ⟨oc12, od12, .func (PySem.W.fnOf "_law_mix" "_law_mix" (defArgs (top 18)) (defBody (top 18)) (defScope (top 18)) .none kV12 dc12 pm12 an12 cd12 ct12), sl12⟩) (c12 : PySem.W.codeIn K cd12 "_law_mix" = true) (k12 : PySem.W.keepIn K (.ref f12) = true)
    (a13 : PySem.W.nsIn K mainGlobals "_law_all" = some (some (.ref f13))) (l13 : K.lookup f13 = some ⟨oc13, od13, .func (PySem.W.fnOf "_law_all" "_law_all" (defArgs (top 19)) (defBody (top 19)) (defScope (top 19)) .none kV13 dc13 pm13 an13 cd13 ct13), sl13⟩) (c13 : PySem.W.codeIn K cd13 "_law_all" = true) (k13 : PySem.W.keepIn K (.ref f13) = true)
    (a14 : PySem.W.nsIn K mainGlobals "_law_chain" = some (some (.ref f14))) (l14 : K.lookup f14 = some ⟨oc14, od14, .func (PySem.W.fnOf "_law_chain" "_law_chain" (defArgs (top 21)) (defBody (top 21)) (defScope (top 21)) .none kV14 dc14 pm14 an14 cd14 ct14), sl14⟩) (c14 : PySem.W.codeIn K cd14 "_law_chain" = true) (k14 : PySem.W.keepIn K (.ref f14) = true)
    (a15 : PySem.W.nsIn K mainGlobals "_law_look" = some (some (.ref f15))) (l15 : K.lookup f15 = some ⟨oc15, od15, .func (PySem.W.fnOf "_law_look" "_law_look" (defArgs (top 22)) (defBody (top 22)) (defScope (top 22)) .none kV15 dc15 pm15 an15 cd15 ct15), sl15⟩) (c15 : PySem.W.codeIn K cd15 "_law_look" = true) (k15 : PySem.W.keepIn K (.ref f15) = true)
    (a16 : PySem.W.nsIn K mainGlobals "_law_chance" = some (some (.ref f16))) (l16 : K.lookup f16 = some ⟨oc16, od16, .func (PySem.W.fnOf "_law_chance" "_law_chance" (defArgs (top 23)) (defBody (top 23)) (defScope (top 23)) .none kV16 dc16 pm16 an16 cd16 ct16), sl16⟩) (c16 : PySem.W.codeIn K cd16 "_law_chance" = true) (k16 : PySem.W.keepIn K (.ref f16) = true)
    (a17 : PySem.W.nsIn K mainGlobals "law" = some (some (.ref f17))) (l17 : K.lookup f17 = some ⟨oc17, od17, .func (PySem.W.fnOf "law" "law" (defArgs (top 24)) (defBody (top 24)) (defScope (top 24)) .none kV17 dc17 pm17 an17 cd17 ct17), sl17⟩) (c17 : PySem.W.codeIn K cd17 "law" = true) (k17 : PySem.W.keepIn K (.ref f17) = true)
    {e0 e1 : Addr}
    (p0 : PySem.W.nsIn K mainGlobals "StoneError" = some (some (.ref e0))) (q0 : PySem.W.keepIn K (.ref e0) = true) (r0 : PySem.W.subIn K (.ref e0) (.type "BaseException") = some true) (s0 : PySem.W.typeIn K (.ref e0) = some (.type "type")) (t0 : PySem.W.excIn K e0 [.type "ValueError", .type "Exception", .type "BaseException", .type "object"] "ValueError.__new__" = true)
    (u0 : ExcC K e0) (v0 : PySem.W.subIn K (.ref e0) (.type "ValueError") = some true) (i0 : PySem.W.isClsIn K e0 = true)
    (p1 : PySem.W.nsIn K mainGlobals "NoFit" = some (some (.ref e1))) (q1 : PySem.W.keepIn K (.ref e1) = true) (r1 : PySem.W.subIn K (.ref e1) (.type "BaseException") = some true) (s1 : PySem.W.typeIn K (.ref e1) = some (.type "type")) (t1 : PySem.W.excIn K e1 [.type "ValueError", .type "Exception", .type "BaseException", .type "object"] "ValueError.__new__" = true)
    (u1 : ExcC K e1) (v1 : PySem.W.subIn K (.ref e1) (.type "ValueError") = some true) (i1 : PySem.W.isClsIn K e1 = true)
    (w0_0 : PySem.W.subIn K (.ref e0) (.ref e0) = some true)
    (w0_1 : PySem.W.subIn K (.ref e0) (.ref e1) = some false) (x0_1 : (Value.ref e0 == Value.ref e1) = false)
    (w1_0 : PySem.W.subIn K (.ref e1) (.ref e0) = some true)
    (w1_1 : PySem.W.subIn K (.ref e1) (.ref e1) = some true)
    (z0 : PySem.W.nsIn K mainGlobals "len" = some none)
    (z1 : PySem.W.nsIn K mainGlobals "min" = some none)
    (z2 : PySem.W.nsIn K mainGlobals "max" = some none)
    (z3 : PySem.W.nsIn K mainGlobals "sum" = some none)
    (z4 : PySem.W.nsIn K mainGlobals "all" = some none)
    (z5 : PySem.W.nsIn K mainGlobals "any" = some none)
    (z6 : PySem.W.nsIn K mainGlobals "tuple" = some none)
    (z7 : PySem.W.nsIn K mainGlobals "list" = some none)
    (z8 : PySem.W.nsIn K mainGlobals "int" = some none)
    (z9 : PySem.W.nsIn K mainGlobals "bool" = some none)
    (z10 : PySem.W.nsIn K mainGlobals "str" = some none)
    (z11 : PySem.W.nsIn K mainGlobals "isinstance" = some none)
    (z12 : PySem.W.nsIn K mainGlobals "range" = some none)
    (z13 : PySem.W.nsIn K mainGlobals "zip" = some none)
    (z14 : PySem.W.nsIn K mainGlobals "enumerate" = some none)
    (z15 : PySem.W.nsIn K mainGlobals "reversed" = some none)
    (z16 : PySem.W.nsIn K mainGlobals "sorted" = some none)
    (z17 : PySem.W.nsIn K mainGlobals "set" = some none)
    (z18 : PySem.W.nsIn K mainGlobals "dict" = some none)
    (z19 : PySem.W.nsIn K mainGlobals "ValueError" = some none)
    : ∃ C A D, TabOk K mg C A D tI := by
  have F0 := fun_mk (st := top 4) l0 c0 k0
  have b0 := F0.binds (ps := ["most"]) fun _ _ _ _ _ _ us hl => match us, hl with | [_], _ => rfl
  have F1 := fun_mk (st := top 5) l1 c1 k1
  have b1 := F1.binds (ps := ["piece"]) fun _ _ _ _ _ _ us hl => match us, hl with | [_], _ => rfl
  have F2 := fun_mk (st := top 7) l2 c2 k2
  have b2 := F2.binds (ps := ["look"]) fun _ _ _ _ _ _ us hl => match us, hl with | [_], _ => rfl
  have F3 := fun_mk (st := top 8) l3 c3 k3
  have b3 := F3.binds (ps := ["look", "place", "stone"]) fun _ _ _ _ _ _ us hl => match us, hl with | [_, _, _], _ => rfl
  have F4 := fun_mk (st := top 9) l4 c4 k4
  have b4 := F4.binds (ps := ["look", "stones", "counts"]) fun _ _ _ _ _ _ us hl => match us, hl with | [_, _, _], _ => rfl
  have F5 := fun_mk (st := top 10) l5 c5 k5
  have b5 := F5.binds (ps := ["look", "place", "stone"]) fun _ _ _ _ _ _ us hl => match us, hl with | [_, _, _], _ => rfl
  have F6 := fun_mk (st := top 11) l6 c6 k6
  have b6 := F6.binds (ps := ["look", "place", "stone"]) fun _ _ _ _ _ _ us hl => match us, hl with | [_, _, _], _ => rfl
  have F7 := fun_mk (st := top 12) l7 c7 k7
  have b7 := F7.binds (ps := ["look"]) fun _ _ _ _ _ _ us hl => match us, hl with | [_], _ => rfl
  have F8 := fun_mk (st := top 13) l8 c8 k8
  have b8 := F8.binds (ps := ["one", "other"]) fun _ _ _ _ _ _ us hl => match us, hl with | [_, _], _ => rfl
  have F9 := fun_mk (st := top 14) l9 c9 k9
  have b9 := F9.binds (ps := ["look", "place", "stone"]) fun _ _ _ _ _ _ us hl => match us, hl with | [_, _, _], _ => rfl
  have F10 := fun_mk (st := top 15) l10 c10 k10
  have b10 := F10.binds (ps := ["look"]) fun _ _ _ _ _ _ us hl => match us, hl with | [_], _ => rfl
  have F11 := fun_mk (st := top 17) l11 c11 k11
  have b11 := F11.binds (ps := ["script", "k"]) fun _ _ _ _ _ _ us hl => match us, hl with | [_, _], _ => rfl
  have F12 := fun_mk (st := top 18) l12 c12 k12
  have b12 := F12.binds (ps := ["cell", "prime", "many"]) fun _ _ _ _ _ _ us hl => match us, hl with | [_, _, _], _ => rfl
  have F13 := fun_mk (st := top 19) l13 c13 k13
  have b13 := F13.binds (ps := ["most"]) fun _ _ _ _ _ _ us hl => match us, hl with | [_], _ => rfl
  have F14 := fun_mk (st := top 21) l14 c14 k14
  have b14 := F14.binds (ps := ["cell", "most", "many"]) fun _ _ _ _ _ _ us hl => match us, hl with | [_, _, _], _ => rfl
  have F15 := fun_mk (st := top 22) l15 c15 k15
  have b15 := F15.binds (ps := ["cell", "most_hidden"]) fun _ _ _ _ _ _ us hl => match us, hl with | [_, _], _ => rfl
  have F16 := fun_mk (st := top 23) l16 c16 k16
  have b16 := F16.binds (ps := ["look", "place", "stone"]) fun _ _ _ _ _ _ us hl => match us, hl with | [_, _, _], _ => rfl
  have F17 := fun_mk (st := top 24) l17 c17 k17
  have b17 := F17.binds (ps := ["script"]) fun _ _ _ _ _ _ us hl => match us, hl with | [_], _ => rfl
  refine ⟨fun c => [e0, e1].getD c 0, fun i => [f0, f1, f2, f3, f4, f5, f6, f7, f8, f9, f10, f11, f12, f13, f14, f15, f16, f17].getD i 0, fun i => [PySem.W.fnOf "all_stones" "all_stones" (defArgs (top 4)) (defBody (top 4)) (defScope (top 4)) .none kV0 dc0 pm0 an0 cd0 ct0, PySem.W.fnOf "stone_of" "stone_of" (defArgs (top 5)) (defBody (top 5)) (defScope (top 5)) .none kV1 dc1 pm1 an1 cd1 ct1, PySem.W.fnOf "hidden" "hidden" (defArgs (top 7)) (defBody (top 7)) (defScope (top 7)) .none kV2 dc2 pm2 an2 cd2 ct2, PySem.W.fnOf "may_lie" "may_lie" (defArgs (top 8)) (defBody (top 8)) (defScope (top 8)) .none kV3 dc3 pm3 an3 cd3 ct3, PySem.W.fnOf "ways" "ways" (defArgs (top 9)) (defBody (top 9)) (defScope (top 9)) .none kV4 dc4 pm4 an4 cd4 ct4, PySem.W.fnOf "ways_with" "ways_with" (defArgs (top 10)) (defBody (top 10)) (defScope (top 10)) .none kV5 dc5 pm5 an5 cd5 ct5, PySem.W.fnOf "may_have" "may_have" (defArgs (top 11)) (defBody (top 11)) (defScope (top 11)) .none kV6 dc6 pm6 an6 cd6 ct6, PySem.W.fnOf "deals" "deals" (defArgs (top 12)) (defBody (top 12)) (defScope (top 12)) .none kV7 dc7 pm7 an7 cd7 ct7, PySem.W.fnOf "common" "common" (defArgs (top 13)) (defBody (top 13)) (defScope (top 13)) .none kV8 dc8 pm8 an8 cd8 ct8, PySem.W.fnOf "chance" "chance" (defArgs (top 14)) (defBody (top 14)) (defScope (top 14)) .none kV9 dc9 pm9 an9 cd9 ct9, PySem.W.fnOf "sure" "sure" (defArgs (top 15)) (defBody (top 15)) (defScope (top 15)) .none kV10 dc10 pm10 an10 cd10 ct10, PySem.W.fnOf "_law_cell" "_law_cell" (defArgs (top 17)) (defBody (top 17)) (defScope (top 17)) .none kV11 dc11 pm11 an11 cd11 ct11, PySem.W.fnOf "_law_mix" "_law_mix" (defArgs (top 18)) (defBody (top 18)) (defScope (top 18)) .none kV12 dc12 pm12 an12 cd12 ct12, PySem.W.fnOf "_law_all" "_law_all" (defArgs (top 19)) (defBody (top 19)) (defScope (top 19)) .none kV13 dc13 pm13 an13 cd13 ct13, PySem.W.fnOf "_law_chain" "_law_chain" (defArgs (top 21)) (defBody (top 21)) (defScope (top 21)) .none kV14 dc14 pm14 an14 cd14 ct14, PySem.W.fnOf "_law_look" "_law_look" (defArgs (top 22)) (defBody (top 22)) (defScope (top 22)) .none kV15 dc15 pm15 an15 cd15 ct15, PySem.W.fnOf "_law_chance" "_law_chance" (defArgs (top 23)) (defBody (top 23)) (defScope (top 23)) .none kV16 dc16 pm16 an16 cd16 ct16, PySem.W.fnOf "law" "law" (defArgs (top 24)) (defBody (top 24)) (defScope (top 24)) .none kV17 dc17 pm17 an17 cd17 ct17].getD i (PySem.W.fnOf "all_stones" "all_stones" (defArgs (top 4)) (defBody (top 4)) (defScope (top 4)) .none kV0 dc0 pm0 an0 cd0 ct0), fun i d hd => ?_, fun x hx => ?_, fun c x hx => ?_, ⟨fun k hk => ?_, fun k j hk hj => ?_, fun k hk => ?_, fun k j hk hj => ?_⟩, fun x z hx => ?_, fun ci hci => ?_⟩
  · match i, hd with
    | 0, hd => cases hd; exact ⟨F0, fun _ => PySem.W.mg_of X G a0, b0, ⟨rfl, rfl, rfl, by decide +kernel, rfl, by decide +kernel, by decide +kernel⟩⟩
    | 1, hd => cases hd; exact ⟨F1, fun _ => PySem.W.mg_of X G a1, b1, ⟨rfl, rfl, rfl, by decide +kernel, rfl, by decide +kernel, by decide +kernel⟩⟩
    | 2, hd => cases hd; exact ⟨F2, fun _ => PySem.W.mg_of X G a2, b2, ⟨rfl, rfl, rfl, by decide +kernel, rfl, by decide +kernel, by decide +kernel⟩⟩
    | 3, hd => cases hd; exact ⟨F3, fun _ => PySem.W.mg_of X G a3, b3, ⟨rfl, rfl, rfl, by decide +kernel, rfl, by decide +kernel, by decide +kernel⟩⟩
    | 4, hd => cases hd; exact ⟨F4, fun _ => PySem.W.mg_of X G a4, b4, ⟨rfl, rfl, rfl, by decide +kernel, rfl, by decide +kernel, by decide +kernel⟩⟩
    | 5, hd => cases hd; exact ⟨F5, fun _ => PySem.W.mg_of X G a5, b5, ⟨rfl, rfl, rfl, by decide +kernel, rfl, by decide +kernel, by decide +kernel⟩⟩
    | 6, hd => cases hd; exact ⟨F6, fun _ => PySem.W.mg_of X G a6, b6, ⟨rfl, rfl, rfl, by decide +kernel, rfl, by decide +kernel, by decide +kernel⟩⟩
    | 7, hd => cases hd; exact ⟨F7, fun _ => PySem.W.mg_of X G a7, b7, ⟨rfl, rfl, rfl, by decide +kernel, rfl, by decide +kernel, by decide +kernel⟩⟩
    | 8, hd => cases hd; exact ⟨F8, fun _ => PySem.W.mg_of X G a8, b8, ⟨rfl, rfl, rfl, by decide +kernel, rfl, by decide +kernel, by decide +kernel⟩⟩
    | 9, hd => cases hd; exact ⟨F9, fun _ => PySem.W.mg_of X G a9, b9, ⟨rfl, rfl, rfl, by decide +kernel, rfl, by decide +kernel, by decide +kernel⟩⟩
    | 10, hd => cases hd; exact ⟨F10, fun _ => PySem.W.mg_of X G a10, b10, ⟨rfl, rfl, rfl, by decide +kernel, rfl, by decide +kernel, by decide +kernel⟩⟩
    | 11, hd => cases hd; exact ⟨F11, fun _ => PySem.W.mg_of X G a11, b11, ⟨rfl, rfl, rfl, by decide +kernel, rfl, by decide +kernel, by decide +kernel⟩⟩
    | 12, hd => cases hd; exact ⟨F12, fun _ => PySem.W.mg_of X G a12, b12, ⟨rfl, rfl, rfl, by decide +kernel, rfl, by decide +kernel, by decide +kernel⟩⟩
    | 13, hd => cases hd; exact ⟨F13, fun _ => PySem.W.mg_of X G a13, b13, ⟨rfl, rfl, rfl, by decide +kernel, rfl, by decide +kernel, by decide +kernel⟩⟩
    | 14, hd => cases hd; exact ⟨F14, fun _ => PySem.W.mg_of X G a14, b14, ⟨rfl, rfl, rfl, by decide +kernel, rfl, by decide +kernel, by decide +kernel⟩⟩
    | 15, hd => cases hd; exact ⟨F15, fun _ => PySem.W.mg_of X G a15, b15, ⟨rfl, rfl, rfl, by decide +kernel, rfl, by decide +kernel, by decide +kernel⟩⟩
    | 16, hd => cases hd; exact ⟨F16, fun _ => PySem.W.mg_of X G a16, b16, ⟨rfl, rfl, rfl, by decide +kernel, rfl, by decide +kernel, by decide +kernel⟩⟩
    | 17, hd => cases hd; exact ⟨F17, fun _ => PySem.W.mg_of X G a17, b17, ⟨rfl, rfl, rfl, by decide +kernel, rfl, by decide +kernel, by decide +kernel⟩⟩
    | _ + 18, hd => cases hd
  · simp only [bltNs, List.mem_cons, List.not_mem_nil, or_false] at hx
    rcases hx with rfl | rfl | rfl | rfl | rfl | rfl | rfl | rfl | rfl | rfl | rfl | rfl | rfl | rfl | rfl | rfl | rfl | rfl | rfl | rfl
    · exact PySem.W.mg_none_of X G z0
    · exact PySem.W.mg_none_of X G z1
    · exact PySem.W.mg_none_of X G z2
    · exact PySem.W.mg_none_of X G z3
    · exact PySem.W.mg_none_of X G z4
    · exact PySem.W.mg_none_of X G z5
    · exact PySem.W.mg_none_of X G z6
    · exact PySem.W.mg_none_of X G z7
    · exact PySem.W.mg_none_of X G z8
    · exact PySem.W.mg_none_of X G z9
    · exact PySem.W.mg_none_of X G z10
    · exact PySem.W.mg_none_of X G z11
    · exact PySem.W.mg_none_of X G z12
    · exact PySem.W.mg_none_of X G z13
    · exact PySem.W.mg_none_of X G z14
    · exact PySem.W.mg_none_of X G z15
    · exact PySem.W.mg_none_of X G z16
    · exact PySem.W.mg_none_of X G z17
    · exact PySem.W.mg_none_of X G z18
    · exact PySem.W.mg_none_of X G z19
  · match c, hx with
    | 0, hx => cases hx; exact ⟨PySem.W.mg_of X G p0, q0, r0, s0, t0⟩
    | 1, hx => cases hx; exact ⟨PySem.W.mg_of X G p1, q1, r1, s1, t1⟩
    | _ + 2, hx => cases hx
  · match k, hk with
    | 0, _ => exact u0
    | 1, _ => exact u1
    | _ + 2, hk => exact absurd hk (by show ¬ (_ + 2 < 2); omega)
  · match k, j, hk, hj with
    | 0, 0, _, _ => exact cls_kit i0 s0 w0_0 (.inl rfl)
    | 0, 1, _, _ => exact cls_kit i1 s1 w0_1 (.inr x0_1)
    | 1, 0, _, _ => exact cls_kit i0 s0 w1_0 (.inl rfl)
    | 1, 1, _, _ => exact cls_kit i1 s1 w1_1 (.inl rfl)
    | _ + 2, _, hk, _ => exact absurd hk (by show ¬ (_ + 2 < 2); omega)
    | _, _ + 2, _, hj => exact absurd hj (by show ¬ (_ + 2 < 2); omega)
  · match k, hk with
    | 0, _ => exact cls_kv v0
    | 1, _ => exact cls_kv v1
    | _ + 2, hk => exact absurd hk (by show ¬ (_ + 2 < 2); omega)
  · match k, j, hk, hj with
    | 0, 0, _, _ => exact cls_exm r0 i0 s0 w0_0
    | 0, 1, _, _ => exact cls_exm r1 i1 s1 w0_1
    | 1, 0, _, _ => exact cls_exm r0 i0 s0 w1_0
    | 1, 1, _, _ => exact cls_exm r1 i1 s1 w1_1
    | _ + 2, _, hk, _ => exact absurd hk (by show ¬ (_ + 2 < 2); omega)
    | _, _ + 2, _, hj => exact absurd hj (by show ¬ (_ + 2 < 2); omega)
  · cases hx
  · cases hci

theorem law_binds (K : PySem.W.Frag) (fa : Addr) (fd : FuncData) (F : Fun K fLaw.mn fLaw.nm fLaw.st fa fd) (s : Shared) (u : Value) : BindsTo s fd ⟨[u], []⟩ [("script", u)] := by
  obtain ⟨oc, od, kV, doc, pm, an, cdv, ct, osl, rfl, lk, hcd⟩ := F.ex
  exact .of_eq rfl
theorem law_runs (ns : List Int) (_ : ns.length ≤ 63) : run (tabOf tI) 63 17 [scrD ns] = .ret (.fz (.bool true)) ∨ (run (tabOf tI) 63).s 17 [scrD ns] [] = .ret (.bool true) [] := by
  rw [tab_eq]
  exact .inl (law_ok (n := 50) ns)
end K24
end SC
open PySem PySem.W PyProof.Rows
set_option maxRecDepth 100000 in
set_option maxHeartbeats 0 in
theorem PySem.Challenge.cw_stonechain_k24_whole_places_of_looks_holds : PySem.Challenge.rw_stonechain_k24_whole_places_of_looks.Holds := by
  w_on; o_law; k_head; (case hw => w_witness2)
  k_fill
  refine SC.walkT (l := PySem.Challenge.rw_stonechain_k24_whole_places_of_looks) (I := SC.K24.tI) (n := 63) (i := 17) (m := 63) (dl := SC.K24.fLaw) (x := "script") rfl (by decide) rfl ⟨rfl, by decide, by decide⟩ rfl rfl rfl (by decide +kernel) (fun w h Y => PySem.W.kIn_of Y) ?F SC.K24.law_binds SC.K24.law_runs
  case F =>
    intro w mg h KX G
    refine' SC.K24.tab_ok KX G ?a0 ?l0 ?c0 ?k0 ?a1 ?l1 ?c1 ?k1 ?a2 ?l2 ?c2 ?k2 ?a3 ?l3 ?c3 ?k3 ?a4 ?l4 ?c4 ?k4 ?a5 ?l5 ?c5 ?k5 ?a6 ?l6 ?c6 ?k6 ?a7 ?l7 ?c7 ?k7 ?a8 ?l8 ?c8 ?k8 ?a9 ?l9 ?c9 ?k9 ?a10 ?l10 ?c10 ?k10 ?a11 ?l11 ?c11 ?k11 ?a12 ?l12 ?c12 ?k12 ?a13 ?l13 ?c13 ?k13 ?a14 ?l14 ?c14 ?k14 ?a15 ?l15 ?c15 ?k15 ?a16 ?l16 ?c16 ?k16 ?a17 ?l17 ?c17 ?k17 ?p0 ?q0 ?r0 ?s0 ?t0 ?u0 ?v0 ?i0 ?p1 ?q1 ?r1 ?s1 ?t1 ?u1 ?v1 ?i1 ?w0_0 ?w0_1 ?x0_1 ?w1_0 ?w1_1 ?z0 ?z1 ?z2 ?z3 ?z4 ?z5 ?z6 ?z7 ?z8 ?z9 ?z10 ?z11 ?z12 ?z13 ?z14 ?z15 ?z16 ?z17 ?z18 ?z19 
    (case a0 => k_is); (case l0 => k_is); (case c0 => k_is); (case k0 => k_is)
    (case a1 => k_is); (case l1 => k_is); (case c1 => k_is); (case k1 => k_is)
    (case a2 => k_is); (case l2 => k_is); (case c2 => k_is); (case k2 => k_is)
    (case a3 => k_is); (case l3 => k_is); (case c3 => k_is); (case k3 => k_is)
    (case a4 => k_is); (case l4 => k_is); (case c4 => k_is); (case k4 => k_is)
    (case a5 => k_is); (case l5 => k_is); (case c5 => k_is); (case k5 => k_is)
    (case a6 => k_is); (case l6 => k_is); (case c6 => k_is); (case k6 => k_is)
    (case a7 => k_is); (case l7 => k_is); (case c7 => k_is); (case k7 => k_is)
    (case a8 => k_is); (case l8 => k_is); (case c8 => k_is); (case k8 => k_is)
    (case a9 => k_is); (case l9 => k_is); (case c9 => k_is); (case k9 => k_is)
    (case a10 => k_is); (case l10 => k_is); (case c10 => k_is); (case k10 => k_is)
    (case a11 => k_is); (case l11 => k_is); (case c11 => k_is); (case k11 => k_is)
    (case a12 => k_is); (case l12 => k_is); (case c12 => k_is); (case k12 => k_is)
    (case a13 => k_is); (case l13 => k_is); (case c13 => k_is); (case k13 => k_is)
    (case a14 => k_is); (case l14 => k_is); (case c14 => k_is); (case k14 => k_is)
    (case a15 => k_is); (case l15 => k_is); (case c15 => k_is); (case k15 => k_is)
    (case a16 => k_is); (case l16 => k_is); (case c16 => k_is); (case k16 => k_is)
    (case a17 => k_is); (case l17 => k_is); (case c17 => k_is); (case k17 => k_is)
    (case p0 => k_is)
    (case p1 => k_is)
    (case q0 => k_is); (case r0 => k_is); (case s0 => k_is); (case t0 => k_exc); (case i0 => k_is); (case u0 => (refine' ⟨?_, ?_, ?_, ?_, ?_, ?_, ?_, ?_⟩ <;> k_is)); (case v0 => k_is)
    (case q1 => k_is); (case r1 => k_is); (case s1 => k_is); (case t1 => k_exc); (case i1 => k_is); (case u1 => (refine' ⟨?_, ?_, ?_, ?_, ?_, ?_, ?_, ?_⟩ <;> k_is)); (case v1 => k_is)
    (case w0_0 => k_is)
    (case w0_1 => k_is); (case x0_1 => rfl)
    (case w1_0 => k_is)
    (case w1_1 => k_is)
    (case z0 => k_is)
    (case z1 => k_is)
    (case z2 => k_is)
    (case z3 => k_is)
    (case z4 => k_is)
    (case z5 => k_is)
    (case z6 => k_is)
    (case z7 => k_is)
    (case z8 => k_is)
    (case z9 => k_is)
    (case z10 => k_is)
    (case z11 => k_is)
    (case z12 => k_is)
    (case z13 => k_is)
    (case z14 => k_is)
    (case z15 => k_is)
    (case z16 => k_is)
    (case z17 => k_is)
    (case z18 => k_is)
    (case z19 => k_is)

